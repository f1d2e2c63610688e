import PyProof.Rows.All
import HandS.ForMost
import HandS.TupAny
import HandS.Wide
import HandS.WideBits
import HandS.IsInst
import HandS.Style
import HandS.RaiseMore
import KE.DataMinMax
import KE.SortData
import HandS.DictComp
import HandS.Walk
import KE.GoesMore
import KE.KDictWalk
import HandS.Zip
import HandS.Deep
import HandS.SortInts
import HandS.Conv
import HandS.DictEq
import HandS.TupLen
import KE.KEqDict
import KE.GoesEnum
import HandS.OwnIter
import KE.IntBitsLaws
import PyProof.FitsInt
import PyProof.ReprLen
import PySem.Challenge.RW_shownassigned_k31_whole_clocks_between_c
set_option Elab.async false
set_option linter.all false
set_option maxRecDepth 100000
namespace Fx
open PySem L2

abbrev D := PyData

/-! ### data and values -/
/-- a key as data -/
def kD : Key → D
  | .inl i => .int i
  | .inr x => .str x
def tD (ks : List Key) : D := .tuple (ks.map kD)
/-- a tuple, tracked or of the written part -/
def Tq (K : PySem.W.Frag) (G : Hp) (a : Addr) (xs : List V) : Prop := G a = some (.tup xs) ∨
  ∃ (o : Obj) (its : Array Value) (n : Nat), K.lookup a = some o ∧ o.cls = .type "tuple" ∧ o.data = .seq its n ∧ its.size ≤ sizeLine ∧ Vals xs its.toList

mutual
/-- the value v stands for the data d, by what G holds -/
def Rv (K : PySem.W.Frag) (G : Hp) : D → V → Prop
  | .none, v => v = .non
  | .bool b, v => v = .bl b
  | .int i, v => v = .int i
  | .str x, v => v = .str x
  | .tuple ds, v => ∃ a vs, v = .ref a ∧ Tq K G a vs ∧ Rvs K G ds vs
  | .list ds, v => ∃ a vs, v = .ref a ∧ SqL K G a vs ∧ Rvs K G ds vs
  | .dict kvs, v => ∃ a, v = .ref a ∧ ((∃ xs, Rd G a (.dK xs) ∧ RvK K G kvs xs) ∨ (∃ xs, Rd G a (.dT xs) ∧ RvT K G kvs xs))
def Rvs (K : PySem.W.Frag) (G : Hp) : List D → List V → Prop
  | [], vs => vs = []
  | d :: ds, vs => ∃ v r, vs = v :: r ∧ Rv K G d v ∧ Rvs K G ds r
def RvK (K : PySem.W.Frag) (G : Hp) : List (D × D) → List (Key × V) → Prop
  | [], xs => xs = []
  | (k, d) :: r, xs => ∃ q v s, xs = (q, v) :: s ∧ k = kD q ∧ Rv K G d v ∧ RvK K G r s
def RvT (K : PySem.W.Frag) (G : Hp) : List (D × D) → List (List Key × V) → Prop
  | [], xs => xs = []
  | (k, d) :: r, xs => ∃ q v s, xs = (q, v) :: s ∧ k = tD q ∧ Rv K G d v ∧ RvT K G r s
end

/-- what may be frozen -/
def Cn : HO → Bool
  | .lst _ => true
  | .dK _ => true
  | .dT _ => true
  | _ => false
/-- what G holds stands in H -/
structure Le (G H : Hp) : Prop where
  tp : ∀ a xs, G a = some (.tup xs) → H a = some (.tup xs)
  rd : ∀ a u, Cn u = true → Rd G a u → Rd H a u
  dm : ∀ a, H a = none → G a = none
  tq : ∀ a xs, H a = some (.tup xs) → G a = none ∨ G a = some (.tup xs)
theorem Le.refl (G : Hp) : Le G G := ⟨fun _ _ h => h, fun _ _ _ h => h, fun _ h => h, fun _ _ h => .inr h⟩
theorem Le.trans {G H I : Hp} (a : Le G H) (b : Le H I) : Le G I := ⟨fun x y h => b.tp x y (a.tp x y h), fun x y c h => b.rd x y c (a.rd x y c h), fun x h => a.dm x (b.dm x h), fun x xs h => (b.tq x xs h).elim (fun q => .inl (a.dm x q)) (a.tq x xs)⟩
theorem Tq.le {K : PySem.W.Frag} {G H : Hp} (l : Le G H) {a : Addr} {xs : List V} (h : Tq K G a xs) : Tq K H a xs := by
  rcases h with h | h
  · exact .inl (l.tp _ _ h)
  · exact .inr h
theorem Tq.sq {K : PySem.W.Frag} {G : Hp} {a : Addr} {xs : List V} (h : Tq K G a xs) : SqT K G a xs := by
  rcases h with h | h
  · exact .inl (.inl h)
  · exact .inr h
theorem sqL_le {K : PySem.W.Frag} {G H : Hp} (l : Le G H) {a : Addr} {xs : List V} (h : SqL K G a xs) : SqL K H a xs := by
  rcases h with h | h
  · exact .inl (l.rd _ _ rfl h)
  · exact .inr h
section
variable {K : PySem.W.Frag} {G H : Hp}
mutual
theorem Rv.le (l : Le G H) : ∀ (d : D) (v : V), Rv K G d v → Rv K H d v
  | .none, _, h => h
  | .bool _, _, h => h
  | .int _, _, h => h
  | .str _, _, h => h
  | .tuple ds, _, ⟨a, vs, e, h1, h2⟩ => ⟨a, vs, e, h1.le l, Rvs.le l ds vs h2⟩
  | .list ds, _, ⟨a, vs, e, h1, h2⟩ => ⟨a, vs, e, sqL_le l h1, Rvs.le l ds vs h2⟩
  | .dict kvs, _, ⟨a, e, .inl ⟨xs, h1, h2⟩⟩ => ⟨a, e, .inl ⟨xs, l.rd _ _ rfl h1, RvK.le l kvs xs h2⟩⟩
  | .dict kvs, _, ⟨a, e, .inr ⟨xs, h1, h2⟩⟩ => ⟨a, e, .inr ⟨xs, l.rd _ _ rfl h1, RvT.le l kvs xs h2⟩⟩
theorem Rvs.le (l : Le G H) : ∀ (ds : List D) (vs : List V), Rvs K G ds vs → Rvs K H ds vs
  | [], _, h => h
  | d :: ds, _, ⟨v, r, e, h1, h2⟩ => ⟨v, r, e, Rv.le l d v h1, Rvs.le l ds r h2⟩
theorem RvK.le (l : Le G H) : ∀ (ds : List (D × D)) (vs : List (Key × V)), RvK K G ds vs → RvK K H ds vs
  | [], _, h => h
  | (k, d) :: ds, _, ⟨q, v, r, e, e2, h1, h2⟩ => ⟨q, v, r, e, e2, Rv.le l d v h1, RvK.le l ds r h2⟩
theorem RvT.le (l : Le G H) : ∀ (ds : List (D × D)) (vs : List (List Key × V)), RvT K G ds vs → RvT K H ds vs
  | [], _, h => h
  | (k, d) :: ds, _, ⟨q, v, r, e, e2, h1, h2⟩ => ⟨q, v, r, e, e2, Rv.le l d v h1, RvT.le l ds r h2⟩
end
end

/-! ### a body's names -/
/-- what a name holds: unknown, frozen data, a list or dict of the body's own, one of the caller's that was handed in to be changed -/
inductive Sl where
  | un | fz (d : D) | ow (d : D) | io (k : Nat) (d : D)
abbrev En := List Sl
/-- a value: data, or the owned thing of a name -/
inductive Lc where
  | fz (d : D) | sl (i : Nat)
/-- an error: its class's name, its value -/
abbrev Er := Str × D
inductive Rs (α : Type) where
  | st | ok (a : α) (en : En) | er (x : Er) (en : En)
def Rs.bind {α β : Type} (r : Rs α) (k : α → En → Rs β) : Rs β := match r with
  | .st => .st
  | .ok a en => k a en
  | .er x en => .er x en
def Then {α : Type} (r : Rs α) (ko : α → En → Prop) (ke : Er → En → Prop) : Prop := match r with
  | .st => False
  | .ok a en => ko a en
  | .er x en => ke x en
theorem Then.bind {α β : Type} {r : Rs α} {k : α → En → Rs β} {ko : β → En → Prop} {ke : Er → En → Prop} (h : Then (r.bind k) ko ke) : Then r (fun a en => Then (k a en) ko ke) ke := by
  cases r <;> exact h
theorem Then.imp {α : Type} {r : Rs α} {ko ko' : α → En → Prop} {ke ke' : Er → En → Prop} (h : Then r ko ke) (ho : ∀ a en, ko a en → ko' a en) (he : ∀ x en, ke x en → ke' x en) : Then r ko' ke' := by
  cases r with
  | st => exact h
  | ok a en => exact ho _ _ h
  | er x en => exact he _ _ h

/-- the content of a thing at a, as H has it now; what stands in it by G -/
def Rc (K : PySem.W.Frag) (G H : Hp) : D → V → Prop
  | .list ds, v => ∃ a vs, v = .ref a ∧ SqL K H a vs ∧ Rvs K G ds vs
  | .dict kvs, v => ∃ a, v = .ref a ∧ ((∃ xs, Rd H a (.dK xs) ∧ RvK K G kvs xs) ∨ (∃ xs, Rd H a (.dT xs) ∧ RvT K G kvs xs))
  | d, v => Rv K G d v
theorem Rc.of {K : PySem.W.Frag} {G H : Hp} (l : Le G H) : ∀ {d : D} {v : V}, Rv K G d v → Rc K G H d v
  | .none, _, h => h
  | .bool _, _, h => h
  | .int _, _, h => h
  | .str _, _, h => h
  | .tuple ds, _, h => h
  | .list ds, _, ⟨a, vs, e, h1, h2⟩ => ⟨a, vs, e, sqL_le l h1, h2⟩
  | .dict kvs, _, ⟨a, e, .inl ⟨xs, h1, h2⟩⟩ => ⟨a, e, .inl ⟨xs, l.rd _ _ rfl h1, h2⟩⟩
  | .dict kvs, _, ⟨a, e, .inr ⟨xs, h1, h2⟩⟩ => ⟨a, e, .inr ⟨xs, l.rd _ _ rfl h1, h2⟩⟩
/-- an owned thing: a list or a dict that may be written -/
def Own (K : PySem.W.Frag) (G H : Hp) : D → Addr → Prop
  | .list ds, a => ∃ vs, H a = some (.lst vs) ∧ Rvs K G ds vs
  | .dict kvs, a => (∃ xs, H a = some (.dK xs) ∧ RvK K G kvs xs) ∨ (∃ xs, H a = some (.dT xs) ∧ RvT K G kvs xs)
  | _, _ => False
theorem Own.rc {K : PySem.W.Frag} {G H : Hp} : ∀ {d : D} {a : Addr}, Own K G H d a → Rc K G H d (.ref a)
  | .list _, a, ⟨vs, h1, h2⟩ => ⟨a, vs, rfl, .inl (.inl h1), h2⟩
  | .dict _, a, .inl ⟨xs, h1, h2⟩ => ⟨a, rfl, .inl ⟨xs, .inl h1, h2⟩⟩
  | .dict _, a, .inr ⟨xs, h1, h2⟩ => ⟨a, rfl, .inr ⟨xs, .inl h1, h2⟩⟩
theorem Own.step {K : PySem.W.Frag} {G G' H H' : Hp} (l : Le G G') : ∀ {d : D} {a : Addr}, H' a = H a → Own K G H d a → Own K G' H' d a
  | .list ds, a, e, ⟨vs, h1, h2⟩ => ⟨vs, by rw [e]; exact h1, Rvs.le l ds vs h2⟩
  | .dict kvs, a, e, .inl ⟨xs, h1, h2⟩ => .inl ⟨xs, by rw [e]; exact h1, RvK.le l kvs xs h2⟩
  | .dict kvs, a, e, .inr ⟨xs, h1, h2⟩ => .inr ⟨xs, by rw [e]; exact h1, RvT.le l kvs xs h2⟩
theorem Own.some {K : PySem.W.Frag} {G H : Hp} : ∀ {d : D} {a : Addr}, Own K G H d a → ∃ u, H a = some u ∧ Cn u = true ∧ Mut (some u)
  | .list _, _, ⟨vs, h1, h2⟩ => ⟨_, h1, rfl, trivial⟩
  | .dict _, _, .inl ⟨xs, h1, h2⟩ => ⟨_, h1, rfl, trivial⟩
  | .dict _, _, .inr ⟨xs, h1, h2⟩ => ⟨_, h1, rfl, trivial⟩

/-- F: what others hold, as it is; A: the addresses of what was handed in to be changed; G: what is frozen; en, σ: the names -/
structure Rp (K : PySem.W.Frag) (F : Hp) (A : List Addr) (G : Hp) (en : En) (σ : St) (H : Hp) : Prop where
  fx : ∀ a o, F a = some o → H a = some o
  gx : Le G H
  len : σ.length = en.length
  fz : ∀ (i : Nat) d, en[i]? = some (.fz d) → ∃ v, σ[i]? = some (some v) ∧ Rv K G d v
  ow : ∀ (i : Nat) d, en[i]? = some (.ow d) → ∃ a, σ[i]? = some (some (.ref a)) ∧ Own K G H d a ∧ F a = none ∧ G a = none ∧ a ∉ A
  io : ∀ (i : Nat) k d, en[i]? = some (.io k d) → ∃ a, σ[i]? = some (some (.ref a)) ∧ A[k]? = some a ∧ Own K G H d a ∧ F a = none ∧ G a = none
  dj : ∀ (i j : Nat) d d' a, en[i]? = some (.ow d) → en[j]? = some (.ow d') → σ[i]? = some (some (.ref a)) → σ[j]? = some (some (.ref a)) → i = j
  ij : ∀ (i j k : Nat) d d', en[i]? = some (.io k d) → en[j]? = some (.io k d') → i = j
  nd : A.Nodup
  al : ∀ a ∈ A, H a ≠ none
  fg : ∀ a o, F a = some o → G a ≠ none → (∃ ob u, o = .frz ob u) ∨ ∃ xs, o = .tup xs
/-- what is frozen grows, but not into what others hold -/
structure Grow (F G G' : Hp) : Prop where
  le : ∀ a o, G a = some o → G' a = some o
  nw : ∀ a, G a = none → G' a ≠ none → F a = none ∨ ∃ xs, G' a = some (.tup xs)
theorem Grow.refl (F G : Hp) : Grow F G G := ⟨fun _ _ h => h, fun _ h h' => absurd h h'⟩
theorem Grow.trans {F G G1 G2 : Hp} (a : Grow F G G1) (b : Grow F G1 G2) : Grow F G G2 := ⟨fun x o h => b.le x o (a.le x o h), fun x h h' => by
  cases e : G1 x with
  | none => exact b.nw x e h'
  | some o =>
    rcases a.nw x h (by rw [e]; exact fun z => nomatch z) with q | ⟨xs, q⟩
    · exact .inl q
    · exact .inr ⟨xs, b.le x _ q⟩⟩
theorem Grow.toLe {F G G' : Hp} (g : Grow F G G') : Le G G' := by
  refine ⟨fun a xs h => g.le a _ h, fun a u _ h => ?_, fun a h => ?_, fun a xs h => ?_⟩
  · rcases h with h | ⟨o, h⟩
    · exact .inl (g.le a _ h)
    · exact .inr ⟨o, g.le a _ h⟩
  · cases e : G a with
    | none => rfl
    | some o => rw [g.le a o e] at h; cases h
  · cases e : G a with
    | none => exact .inl rfl
    | some o => rw [g.le a o e] at h; exact .inr h

/-- a value, told by a place -/
def Rl (K : PySem.W.Frag) (G : Hp) (σ : St) : Lc → V → Prop
  | .fz d, v => Rv K G d v
  | .sl i, v => σ[i]? = some (some v)
/-- the data at a place as it is now -/
def rd (lc : Lc) (en : En) : Option D := match lc with
  | .fz d => some d
  | .sl i => match en[i]? with
    | some (.fz d) => some d
    | some (.ow d) => some d
    | some (.io _ d) => some d
    | _ => none
theorem rd_rc {K : PySem.W.Frag} {F : Hp} {A : List Addr} {G H : Hp} {en : En} {σ : St} (R : Rp K F A G en σ H) {lc : Lc} {v : V} (r : Rl K G σ lc v) {d : D} (e : rd lc en = some d) : Rc K G H d v := by
  cases lc with
  | fz d' =>
    cases (Option.some.inj e : d' = d)
    exact Rc.of R.gx r
  | sl i =>
    have r' : σ[i]? = some (some v) := r
    have e' : (match en[i]? with
      | some (.fz d) => some d
      | some (.ow d) => some d
      | some (.io _ d) => some d
      | _ => none) = some d := e
    cases h : en[i]? with
    | none => rw [h] at e'; cases e'
    | some s =>
      rw [h] at e'
      cases s with
      | un => cases e'
      | fz d' =>
        cases e'
        obtain ⟨w, h1, h2⟩ := R.fz i d h
        rw [r'] at h1
        cases h1
        exact Rc.of R.gx h2
      | ow d' =>
        cases e'
        obtain ⟨a, h1, h2, _⟩ := R.ow i d h
        rw [r'] at h1
        cases h1
        exact h2.rc
      | io k d' =>
        cases e'
        obtain ⟨a, h1, _, h2, _⟩ := R.io i k d h
        rw [r'] at h1
        cases h1
        exact h2.rc
theorem Rl.grow {K : PySem.W.Frag} {F G G' : Hp} {σ : St} (g : Grow F G G') {lc : Lc} {v : V} (r : Rl K G σ lc v) : Rl K G' σ lc v := by
  cases lc with
  | fz d => exact Rv.le g.toLe d v r
  | sl i => exact r

end Fx

set_option Elab.async false
set_option linter.all false
set_option maxRecDepth 100000
namespace Fx
open PySem L2
section
variable {K : PySem.W.Frag} {mg : Str → Option Value} {F : Hp} {A : List Addr} {G H : Hp} {en : En} {σ : St}

/-! ### freezing -/
def frz (lc : Lc) (en : En) : Rs D := match lc with
  | .fz d => .ok d en
  | .sl i => match en[i]? with
    | some (.ow d) => .ok d (en.set i (.fz d))
    | some (.fz d) => .ok d en
    | _ => .st
theorem get_set {α : Type} {l : List α} {i j : Nat} {x y : α} (h : (l.set i x)[j]? = some y) : (j = i ∧ y = x ∧ i < l.length) ∨ (j ≠ i ∧ l[j]? = some y) := by
  by_cases e : j = i
  · subst e
    by_cases hl : j < l.length
    · rw [List.getElem?_set_self hl] at h
      exact .inl ⟨rfl, (Option.some.inj h).symm, hl⟩
    · rw [List.getElem?_eq_none (by simpa using hl)] at h
      cases h
  · rw [List.getElem?_set_ne (Ne.symm e)] at h
    exact .inr ⟨e, h⟩
/-- an owned thing is frozen -/
theorem Rp.freeze (R : Rp K F A G en σ H) {i : Nat} {d : D} (h : en[i]? = some (.ow d)) {v : V} (hv : σ[i]? = some (some v)) :
    ∃ G', Grow F G G' ∧ Rp K F A G' (en.set i (.fz d)) σ H ∧ Rv K G' d v := by
  obtain ⟨a, h1, h2, h3, h4, h5⟩ := R.ow i d h
  rw [h1] at hv
  cases hv
  obtain ⟨u, hu, cu, _⟩ := h2.some
  have gr : Grow F G (upd G a u) := ⟨fun b o e => by rw [upd_ne (ne_of_none e h4)]; exact e, fun b e e' => by
    by_cases z : b = a
    · subst z; exact .inl h3
    · rw [upd_ne z] at e'; exact absurd e e'⟩
  have rv : Rv K (upd G a u) d (.ref a) := by
    cases d with
    | list ds =>
      obtain ⟨vs, q1, q2⟩ := h2
      rw [hu] at q1
      cases q1
      exact ⟨a, vs, rfl, .inl (.inl upd_same), Rvs.le gr.toLe ds vs q2⟩
    | dict kvs =>
      rcases h2 with ⟨xs, q1, q2⟩ | ⟨xs, q1, q2⟩
      · rw [hu] at q1
        cases q1
        exact ⟨a, rfl, .inl ⟨xs, .inl upd_same, RvK.le gr.toLe kvs xs q2⟩⟩
      · rw [hu] at q1
        cases q1
        exact ⟨a, rfl, .inr ⟨xs, .inl upd_same, RvT.le gr.toLe kvs xs q2⟩⟩
    | none => exact h2.elim
    | bool _ => exact h2.elim
    | int _ => exact h2.elim
    | str _ => exact h2.elim
    | tuple _ => exact h2.elim
  have le : Le (upd G a u) H := ⟨fun b xs e => by
      by_cases z : b = a
      · subst z
        rw [upd_same] at e
        cases e
        cases cu
      · rw [upd_ne z] at e
        exact R.gx.tp b xs e, fun b o c e => by
      by_cases z : b = a
      · subst z
        rcases e with e | ⟨ob, e⟩
        · rw [upd_same] at e
          cases e
          exact .inl hu
        · rw [upd_same] at e
          cases e
          cases cu
      · refine R.gx.rd b o c ?_
        rcases e with e | ⟨ob, e⟩
        · rw [upd_ne z] at e; exact .inl e
        · rw [upd_ne z] at e; exact .inr ⟨ob, e⟩, fun b e => by
      have nb : b ≠ a := fun z => by rw [z, hu] at e; cases e
      rw [upd_ne nb]
      exact R.gx.dm b e, fun b xs e => by
      have nb : b ≠ a := fun z => by rw [z, hu] at e; cases e; cases cu
      rw [upd_ne nb]
      exact R.gx.tq b xs e⟩
  refine ⟨upd G a u, gr, ⟨R.fx, le, by rw [List.length_set]; exact R.len, fun j d' e => ?_, fun j d' e => ?_, fun j k d' e => ?_, fun j j' d1 d2 b e e' => ?_, fun j j' k d1 d2 e e' => ?_, R.nd, R.al, fun b o e e' => R.fg b o e (by rw [upd_ne (fun (z : b = a) => by rw [z, h3] at e; cases e)] at e'; exact e')⟩, rv⟩
  · rcases get_set e with ⟨rfl, e2, _⟩ | ⟨_, e⟩
    · cases e2
      exact ⟨_, h1, rv⟩
    · obtain ⟨v, q1, q2⟩ := R.fz j d' e
      exact ⟨v, q1, Rv.le gr.toLe d' v q2⟩
  · rcases get_set e with ⟨_, e2, _⟩ | ⟨ne, e⟩
    · cases e2
    · obtain ⟨b, q1, q2, q3, q4, q5⟩ := R.ow j d' e
      have nb : b ≠ a := fun z => ne (R.dj j i d' d a e h (z ▸ q1) h1)
      exact ⟨b, q1, q2.step gr.toLe rfl, q3, by rw [upd_ne nb]; exact q4, q5⟩
  · rcases get_set e with ⟨_, e2, _⟩ | ⟨ne, e⟩
    · cases e2
    · obtain ⟨b, q1, qa, q2, q3, q4⟩ := R.io j k d' e
      have nb : b ≠ a := fun z => h5 (z ▸ List.mem_of_getElem? qa)
      exact ⟨b, q1, qa, q2.step gr.toLe rfl, q3, by rw [upd_ne nb]; exact q4⟩
  · rcases get_set e with ⟨_, e2, _⟩ | ⟨_, e⟩
    · cases e2
    · rcases get_set e' with ⟨_, e2, _⟩ | ⟨_, e'⟩
      · cases e2
      · exact R.dj j j' d1 d2 b e e'
  · rcases get_set e with ⟨_, e2, _⟩ | ⟨_, e⟩
    · cases e2
    · rcases get_set e' with ⟨_, e2, _⟩ | ⟨_, e'⟩
      · cases e2
      · exact R.ij j j' k d1 d2 e e'
theorem frz_ok (R : Rp K F A G en σ H) {lc : Lc} {v : V} (r : Rl K G σ lc v) {d : D} {en' : En} (e : frz lc en = .ok d en') :
    ∃ G', Grow F G G' ∧ Rp K F A G' en' σ H ∧ Rv K G' d v := by
  cases lc with
  | fz d' =>
    cases e
    exact ⟨G, .refl _ _, R, r⟩
  | sl i =>
    have e' : (match en[i]? with
      | some (.ow d) => Rs.ok d (en.set i (.fz d))
      | some (.fz d) => .ok d en
      | _ => .st) = .ok d en' := e
    cases h : en[i]? with
    | none => rw [h] at e'; cases e'
    | some s =>
      rw [h] at e'
      cases s with
      | un => cases e'
      | io k d' => cases e'
      | fz d' =>
        cases e'
        obtain ⟨w, q1, q2⟩ := R.fz i d h
        have r' : σ[i]? = some (some v) := r
        rw [r'] at q1
        cases q1
        exact ⟨G, .refl _ _, R, q2⟩
      | ow d' =>
        cases e'
        exact R.freeze h r
theorem frz_cases (lc : Lc) (en : En) : frz lc en = .st ∨ ∃ d en', frz lc en = .ok d en' := by
  cases lc with
  | fz d => exact .inr ⟨_, _, rfl⟩
  | sl i =>
    cases h : en[i]? with
    | none => exact .inl (by simp only [frz, h])
    | some s =>
      cases s with
      | un => exact .inl (by simp only [frz, h])
      | io k d => exact .inl (by simp only [frz, h])
      | fz d => exact .inr ⟨_, _, by simp only [frz, h]; rfl⟩
      | ow d => exact .inr ⟨_, _, by simp only [frz, h]; rfl⟩

/-! ### expressions -/
abbrev EE := En → Rs Lc
/-- what is wanted of an error -/
abbrev XE := St → Value → Option Addr → Hp → Prop
/-- an error as it lies: its class, its own dict -/
def Xr (K : PySem.W.Frag) (mg : Str → Option Value) (G H : Hp) (x : Er) (c : Value) (dx : Option Addr) : Prop :=
  ∃ C d v, mg x.1 = some (.ref C) ∧ c = .ref C ∧ dx = some d ∧ H d = some (.xd [(Str.ofString "value", v)]) ∧ Rv K G x.2 v
def KoE (K : PySem.W.Frag) (F : Hp) (A : List Addr) (G : Hp) (σ : St) (Q : VK) (lc : Lc) (en' : En) : Prop :=
  ∀ v G' H', Grow F G G' → Rp K F A G' en' σ H' → Rl K G' σ lc v → Q v H'
def KoD (K : PySem.W.Frag) (F : Hp) (A : List Addr) (G : Hp) (σ : St) (Q : VK) (d : D) (en' : En) : Prop :=
  ∀ v G' H', Grow F G G' → Rp K F A G' en' σ H' → Rv K G' d v → Q v H'
def KeE (K : PySem.W.Frag) (mg : Str → Option Value) (E : XE) (F : Hp) (A : List Addr) (G : Hp) (σ : St) (x : Er) (en' : En) : Prop :=
  ∀ c dx G' H', Grow F G G' → Rp K F A G' en' σ H' → Xr K mg G' H' x c dx → E σ c dx H'
theorem KeE.grow {E : XE} {G' : Hp} (g : Grow F G G') {x : Er} {en' : En} (h : KeE K mg E F A G σ x en') : KeE K mg E F A G' σ x en' :=
  fun c dx G2 H2 g2 => h c dx G2 H2 (g.trans g2)
theorem KoE.grow {Q : VK} {G' : Hp} (g : Grow F G G') {lc : Lc} {en' : En} (h : KoE K F A G σ Q lc en') : KoE K F A G' σ Q lc en' :=
  fun c G2 H2 g2 => h c G2 H2 (g.trans g2)

def SoundE (K : PySem.W.Frag) (mg : Str → Option Value) (E : XE) (t : TE) (f : EE) : Prop := ∀ F A G en σ H, Rp K F A G en σ H → ∀ Q : VK,
  Then (f en) (KoE K F A G σ Q) (KeE K mg E F A G σ) → t σ H Q
structure SE (X : Cx) (E : XE) (e : Expr) (t : TE) (f : EE) : Prop where
  pe : PE X e t
  snd : SoundE X.K X.mg E t f

/-- data of an expression, frozen -/
def dat (f : EE) : En → Rs D := fun en => (f en).bind frz
theorem SoundE.dat {E : XE} {t : TE} {f : EE} (h : SoundE K mg E t f) (R : Rp K F A G en σ H) {Q : VK} (k : Then (Fx.dat f en) (KoD K F A G σ Q) (KeE K mg E F A G σ)) : t σ H Q := by
  refine h F A G en σ H R Q (Then.imp (Then.bind k) (fun lc en1 k1 v G1 H1 g1 R1 r1 => ?_) fun x en1 k1 => k1)
  rcases frz_cases lc en1 with e | ⟨d, en2, e⟩
  · rw [e] at k1; exact k1.elim
  · rw [e] at k1
    obtain ⟨G2, g2, R2, r2⟩ := frz_ok R1 r1 e
    exact k1 v G2 H1 (g1.trans g2) R2 r2

/-! constants, names -/
def eC (d : D) : EE := fun en => .ok (.fz d) en
theorem sound_c {E : XE} {d : D} {v : V} (h : ∀ G, Rv K G d v) : SoundE K mg E (tC v) (eC d) := fun F A G en σ H R Q k => k v G H (.refl _ _) R (h G)
def eV (i : Nat) : EE := fun en => match en[i]? with
  | some (.fz d) => .ok (.fz d) en
  | some (.ow _) => .ok (.sl i) en
  | some (.io _ _) => .ok (.sl i) en
  | _ => .st
theorem sound_v {E : XE} {i : Nat} : SoundE K mg E (tVar i) (eV i) := fun F A G en σ H R Q k => by
  have k' : Then (match en[i]? with
    | some (.fz d) => Rs.ok (.fz d) en
    | some (.ow _) => .ok (.sl i) en
    | some (.io _ _) => .ok (.sl i) en
    | _ => .st) (KoE K F A G σ Q) (KeE K mg E F A G σ) := k
  cases h : en[i]? with
  | none => rw [h] at k'; exact k'.elim
  | some s =>
    rw [h] at k'
    cases s with
    | un => exact k'.elim
    | fz d =>
      obtain ⟨v, h1, h2⟩ := R.fz i d h
      exact ⟨v, h1, k' v G H (.refl _ _) R h2⟩
    | ow d =>
      obtain ⟨a, h1, _⟩ := R.ow i d h
      exact ⟨_, h1, k' _ G H (.refl _ _) R h1⟩
    | io q d =>
      obtain ⟨a, h1, _⟩ := R.io i q d h
      exact ⟨_, h1, k' _ G H (.refl _ _) R h1⟩

/-! two operands -/
/-- an operation on data; what it does by values -/
def SoundOp (K : PySem.W.Frag) (r : R2) (op : D → D → Option D) : Prop := ∀ F A G en σ H, Rp K F A G en σ H → ∀ x y v u z, Rc K G H x v → Rc K G H y u → op x y = some z → ∀ Q : VK,
  (∀ w G' H', Grow F G G' → Rp K F A G' en σ H' → Rv K G' z w → Q w H') → r v u H Q
def eOp (op : D → D → Option D) (a b : EE) : EE := fun en => (a en).bind fun x en => (b en).bind fun y en => match rd x en, rd y en with
  | some x, some y => match op x y with
    | some z => .ok (.fz z) en
    | none => .st
  | _, _ => .st
theorem sound_op {E : XE} {r : R2} {op : D → D → Option D} {ta tb : TE} {fa fb : EE} (ho : SoundOp K r op) (ha : SoundE K mg E ta fa) (hb : SoundE K mg E tb fb) : SoundE K mg E (tOp r ta tb) (eOp op fa fb) := by
  intro F A G en σ H R Q k
  refine ha F A G en σ H R _ (Then.imp (Then.bind k) (fun x en1 k1 v G1 H1 g1 R1 r1 => ?_) fun _ _ z => z)
  refine hb F A G1 en1 σ H1 R1 _ (Then.imp (Then.bind k1) (fun y en2 k2 u G2 H2 g2 R2 r2 => ?_) fun x en2 k2 => KeE.grow g1 k2)
  cases e1 : rd x en2 with
  | none => rw [e1] at k2; exact k2.elim
  | some dx =>
    cases e2 : rd y en2 with
    | none => rw [e1, e2] at k2; exact k2.elim
    | some dy =>
      rw [e1, e2] at k2
      cases e3 : op dx dy with
      | none => simp only [e3] at k2; exact k2.elim
      | some z =>
        simp only [e3] at k2
        exact ho F A G2 en2 σ H2 R2 dx dy v u z (rd_rc R2 (r1.grow g2) e1) (rd_rc R2 r2 e2) e3 Q fun w G3 H3 g3 R3 r3 => k2 w G3 H3 ((g1.trans g2).trans g3) R3 r3
/-- one operand -/
def SoundUn (K : PySem.W.Frag) (r : V → Hp → VK → Prop) (op : D → Option D) : Prop := ∀ F A G en σ H, Rp K F A G en σ H → ∀ x v z, Rc K G H x v → op x = some z → ∀ Q : VK,
  (∀ w G' H', Grow F G G' → Rp K F A G' en σ H' → Rv K G' z w → Q w H') → r v H Q
def eUn (op : D → Option D) (a : EE) : EE := fun en => (a en).bind fun x en => match rd x en with
  | some x => match op x with
    | some z => .ok (.fz z) en
    | none => .st
  | none => .st
theorem sound_un {E : XE} {r : V → Hp → VK → Prop} {op : D → Option D} {ta : TE} {fa : EE} (ho : SoundUn K r op) (ha : SoundE K mg E ta fa) : SoundE K mg E (tUn r ta) (eUn op fa) := by
  intro F A G en σ H R Q k
  refine ha F A G en σ H R _ (Then.imp (Then.bind k) (fun x en1 k1 v G1 H1 g1 R1 r1 => ?_) fun _ _ z => z)
  cases e1 : rd x en1 with
  | none => simp only [e1] at k1; exact k1.elim
  | some dx =>
    simp only [e1] at k1
    cases e3 : op dx with
    | none => simp only [e3] at k1; exact k1.elim
    | some z =>
      simp only [e3] at k1
      exact ho F A G1 en1 σ H1 R1 dx v z (rd_rc R1 r1 e1) e3 Q fun w G3 H3 g3 R3 r3 => k1 w G3 H3 (g1.trans g3) R3 r3

/-! tests -/
abbrev ET := En → Rs Bool
def KoT (K : PySem.W.Frag) (F : Hp) (A : List Addr) (G : Hp) (σ : St) (Q : Bool → Hp → Prop) (b : Bool) (en' : En) : Prop :=
  ∀ G' H', Grow F G G' → Rp K F A G' en' σ H' → Q b H'
def SoundT (K : PySem.W.Frag) (mg : Str → Option Value) (E : XE) (t : TT) (f : ET) : Prop := ∀ F A G en σ H, Rp K F A G en σ H → ∀ Q : Bool → Hp → Prop,
  Then (f en) (KoT K F A G σ Q) (KeE K mg E F A G σ) → t σ H Q
structure ST (X : Cx) (E : XE) (e : Expr) (t : TT) (f : ET) : Prop where
  pt : PT X e t
  snd : SoundT X.K X.mg E t f
structure SW (X : Cx) (E : XE) (e : Expr) (t : TT) (f : ET) : Prop where
  pw : PW X e t
  snd : SoundT X.K X.mg E t f
theorem KoT.grow {Q : Bool → Hp → Prop} {G' : Hp} (g : Grow F G G') {b : Bool} {en' : En} (h : KoT K F A G σ Q b en') : KoT K F A G' σ Q b en' :=
  fun G2 H2 g2 => h G2 H2 (g.trans g2)
/-- a value that is a bool, as a test -/
def cB (a : EE) : ET := fun en => (a en).bind fun x en => match x with
  | .fz (.bool b) => .ok b en
  | _ => .st
theorem sound_B {E : XE} {ta : TE} {fa : EE} (ha : SoundE K mg E ta fa) : SoundT K mg E (tB ta) (cB fa) := by
  intro F A G en σ H R Q k
  refine ha F A G en σ H R _ (Then.imp (Then.bind k) (fun x en1 k1 v G1 H1 g1 R1 r1 => ?_) fun _ _ z => z)
  cases x with
  | sl i => exact k1.elim
  | fz d =>
    cases d with
    | bool b => exact ⟨b, r1, k1 G1 H1 g1 R1⟩
    | _ => exact k1.elim
def cAnd (a b : ET) : ET := fun en => (a en).bind fun x en => if x = true then b en else .ok false en
def cOr (a b : ET) : ET := fun en => (a en).bind fun x en => if x = true then .ok true en else b en
def cNot (a : ET) : ET := fun en => (a en).bind fun x en => .ok (!x) en
theorem sound_and {E : XE} {ta tb : TT} {fa fb : ET} (ha : SoundT K mg E ta fa) (hb : SoundT K mg E tb fb) : SoundT K mg E (tAnd ta tb) (cAnd fa fb) := by
  intro F A G en σ H R Q k
  refine ha F A G en σ H R _ (Then.imp (Then.bind k) (fun x en1 k1 G1 H1 g1 R1 => ?_) fun _ _ z => z)
  cases x with
  | true => exact hb F A G1 en1 σ H1 R1 Q (Then.imp k1 (fun y en2 k2 => KoT.grow g1 k2) fun x en2 k2 => KeE.grow g1 k2)
  | false => exact k1 G1 H1 g1 R1
theorem sound_or {E : XE} {ta tb : TT} {fa fb : ET} (ha : SoundT K mg E ta fa) (hb : SoundT K mg E tb fb) : SoundT K mg E (tOr ta tb) (cOr fa fb) := by
  intro F A G en σ H R Q k
  refine ha F A G en σ H R _ (Then.imp (Then.bind k) (fun x en1 k1 G1 H1 g1 R1 => ?_) fun _ _ z => z)
  cases x with
  | false => exact hb F A G1 en1 σ H1 R1 Q (Then.imp k1 (fun y en2 k2 => KoT.grow g1 k2) fun x en2 k2 => KeE.grow g1 k2)
  | true => exact k1 G1 H1 g1 R1
theorem sound_not {E : XE} {ta : TT} {fa : ET} (ha : SoundT K mg E ta fa) : SoundT K mg E (tNot ta) (cNot fa) := by
  intro F A G en σ H R Q k
  exact ha F A G en σ H R _ (Then.imp (Then.bind k) (fun x en1 k1 G1 H1 g1 R1 => k1 G1 H1 g1 R1) fun _ _ z => z)
/-- and, or, not of bools as values -/
def eAnd (a b : EE) : EE := fun en => (a en).bind fun x en => match x with
  | .fz (.bool true) => b en
  | .fz (.bool false) => .ok (.fz (.bool false)) en
  | _ => .st
def eOr (a b : EE) : EE := fun en => (a en).bind fun x en => match x with
  | .fz (.bool false) => b en
  | .fz (.bool true) => .ok (.fz (.bool true)) en
  | _ => .st
def eNot (a : EE) : EE := fun en => (a en).bind fun x en => match x with
  | .fz (.bool c) => .ok (.fz (.bool (!c))) en
  | _ => .st
theorem sound_andV {E : XE} {ta tb : TE} {fa fb : EE} (ha : SoundE K mg E ta fa) (hb : SoundE K mg E tb fb) : SoundE K mg E (tAndV ta tb) (eAnd fa fb) := by
  intro F A G en σ H R Q k
  refine ha F A G en σ H R _ (Then.imp (Then.bind k) (fun x en1 k1 v G1 H1 g1 R1 r1 => ?_) fun _ _ z => z)
  cases x with
  | sl i => exact k1.elim
  | fz d =>
    cases d with
    | bool b =>
      refine ⟨b, r1, ?_⟩
      cases b with
      | true => exact hb F A G1 en1 σ H1 R1 Q (Then.imp k1 (fun y en2 k2 => KoE.grow g1 k2) fun x en2 k2 => KeE.grow g1 k2)
      | false => exact k1 _ G1 H1 g1 R1 rfl
    | _ => exact k1.elim
theorem sound_orV {E : XE} {ta tb : TE} {fa fb : EE} (ha : SoundE K mg E ta fa) (hb : SoundE K mg E tb fb) : SoundE K mg E (tOrV ta tb) (eOr fa fb) := by
  intro F A G en σ H R Q k
  refine ha F A G en σ H R _ (Then.imp (Then.bind k) (fun x en1 k1 v G1 H1 g1 R1 r1 => ?_) fun _ _ z => z)
  cases x with
  | sl i => exact k1.elim
  | fz d =>
    cases d with
    | bool b =>
      refine ⟨b, r1, ?_⟩
      cases b with
      | false => exact hb F A G1 en1 σ H1 R1 Q (Then.imp k1 (fun y en2 k2 => KoE.grow g1 k2) fun x en2 k2 => KeE.grow g1 k2)
      | true => exact k1 _ G1 H1 g1 R1 rfl
    | _ => exact k1.elim
theorem sound_notV {E : XE} {ta : TE} {fa : EE} (ha : SoundE K mg E ta fa) : SoundE K mg E (tNotV ta) (eNot fa) := by
  intro F A G en σ H R Q k
  refine ha F A G en σ H R _ (Then.imp (Then.bind k) (fun x en1 k1 v G1 H1 g1 R1 r1 => ?_) fun _ _ z => z)
  cases x with
  | sl i => exact k1.elim
  | fz d =>
    cases d with
    | bool b => exact ⟨b, r1, k1 _ G1 H1 g1 R1 rfl⟩
    | _ => exact k1.elim
def eIf (c : ET) (a b : EE) : EE := fun en => (c en).bind fun x en => if x = true then a en else b en
theorem sound_if {E : XE} {tc : TT} {ta tb : TE} {fc : ET} {fa fb : EE} (hc : SoundT K mg E tc fc) (ha : SoundE K mg E ta fa) (hb : SoundE K mg E tb fb) : SoundE K mg E (tIf tc ta tb) (eIf fc fa fb) := by
  intro F A G en σ H R Q k
  refine hc F A G en σ H R _ (Then.imp (Then.bind k) (fun x en1 k1 G1 H1 g1 R1 => ?_) fun _ _ z => z)
  cases x with
  | true => exact ha F A G1 en1 σ H1 R1 Q (Then.imp k1 (fun y en2 k2 => KoE.grow g1 k2) fun x en2 k2 => KeE.grow g1 k2)
  | false => exact hb F A G1 en1 σ H1 R1 Q (Then.imp k1 (fun y en2 k2 => KoE.grow g1 k2) fun x en2 k2 => KeE.grow g1 k2)

/-! argument lists -/
def Rls (K : PySem.W.Frag) (G : Hp) (σ : St) : List Lc → List V → Prop
  | [], vs => vs = []
  | l :: ls, vs => ∃ v r, vs = v :: r ∧ Rl K G σ l v ∧ Rls K G σ ls r
theorem Rls.grow {G' : Hp} (g : Grow F G G') : ∀ {ls : List Lc} {vs : List V}, Rls K G σ ls vs → Rls K G' σ ls vs
  | [], _, h => h
  | l :: ls, _, ⟨v, r, e, h1, h2⟩ => ⟨v, r, e, h1.grow g, Rls.grow g h2⟩
abbrev EA := En → Rs (List Lc)
def KoA (K : PySem.W.Frag) (F : Hp) (A : List Addr) (G : Hp) (σ : St) (Q : List V → Hp → Prop) (ls : List Lc) (en' : En) : Prop :=
  ∀ vs G' H', Grow F G G' → Rp K F A G' en' σ H' → Rls K G' σ ls vs → Q vs H'
def SoundA (K : PySem.W.Frag) (mg : Str → Option Value) (E : XE) (t : TA) (f : EA) : Prop := ∀ F A G en σ H, Rp K F A G en σ H → ∀ Q : List V → Hp → Prop,
  Then (f en) (KoA K F A G σ Q) (KeE K mg E F A G σ) → t σ H Q
structure SA (X : Cx) (E : XE) (es : List Expr) (t : TA) (f : EA) : Prop where
  pa : PA X es t
  snd : SoundA X.K X.mg E t f
def aNil : EA := fun en => .ok [] en
def aCons (a : EE) (r : EA) : EA := fun en => (a en).bind fun x en => (r en).bind fun xs en => .ok (x :: xs) en
theorem sound_nil {E : XE} : SoundA K mg E tNil aNil := fun F A G en σ H R Q k => k [] G H (.refl _ _) R rfl
theorem sound_cons {E : XE} {ta : TE} {tr : TA} {fa : EE} {fr : EA} (ha : SoundE K mg E ta fa) (hr : SoundA K mg E tr fr) : SoundA K mg E (tCons ta tr) (aCons fa fr) := by
  intro F A G en σ H R Q k
  refine ha F A G en σ H R _ (Then.imp (Then.bind k) (fun x en1 k1 v G1 H1 g1 R1 r1 => ?_) fun _ _ z => z)
  refine hr F A G1 en1 σ H1 R1 _ (Then.imp (Then.bind k1) (fun y en2 k2 us G2 H2 g2 R2 r2 => ?_) fun x en2 k2 => KeE.grow g1 k2)
  exact k2 (v :: us) G2 H2 (g1.trans g2) R2 ⟨v, us, rfl, r1.grow g2, r2⟩
def frzs : List Lc → En → Rs (List D)
  | [], en => .ok [] en
  | l :: ls, en => (frz l en).bind fun d en => (frzs ls en).bind fun ds en => .ok (d :: ds) en
theorem frzs_ok : ∀ {ls : List Lc} {G : Hp} {en : En} (R : Rp K F A G en σ H) {vs : List V} (r : Rls K G σ ls vs) {ds : List D} {en' : En} (e : frzs ls en = .ok ds en'),
    ∃ G', Grow F G G' ∧ Rp K F A G' en' σ H ∧ Rvs K G' ds vs
  | [], G, en, R, vs, r, ds, en', e => by cases e; cases r; exact ⟨G, .refl _ _, R, rfl⟩
  | l :: ls, G, en, R, vs, ⟨v, rr, e0, h1, h2⟩, ds, en', e => by
    have e : ((frz l en).bind fun d en => (frzs ls en).bind fun ds en => Rs.ok (d :: ds) en) = .ok ds en' := e
    rcases frz_cases l en with q | ⟨d, en1, q⟩
    · rw [q] at e; cases e
    · rw [q] at e
      obtain ⟨G1, g1, R1, r1⟩ := frz_ok R h1 q
      have e : ((frzs ls en1).bind fun ds en => Rs.ok (d :: ds) en) = .ok ds en' := e
      cases q2 : frzs ls en1 with
      | st => rw [q2] at e; cases e
      | er x en2 => rw [q2] at e; cases e
      | ok ds2 en2 =>
        rw [q2] at e
        cases e
        obtain ⟨G2, g2, R2, r2⟩ := frzs_ok R1 (h2.grow g1) q2
        exact ⟨G2, g1.trans g2, R2, v, rr, e0, Rv.le g2.toLe d v r1, r2⟩
theorem frzs_cases : ∀ (ls : List Lc) (en : En), frzs ls en = .st ∨ ∃ ds en', frzs ls en = .ok ds en'
  | [], en => .inr ⟨_, _, rfl⟩
  | l :: ls, en => by
    rcases frz_cases l en with q | ⟨d, en1, q⟩
    · exact .inl (by unfold frzs; rw [q]; rfl)
    · rcases frzs_cases ls en1 with q2 | ⟨ds, en2, q2⟩
      · exact .inl (by unfold frzs; rw [q]; show (frzs ls en1).bind _ = _; rw [q2]; rfl)
      · exact .inr ⟨d :: ds, en2, by unfold frzs; rw [q]; show (frzs ls en1).bind _ = _; rw [q2]; rfl⟩
/-- the data of arguments, frozen -/
def dats (f : EA) : En → Rs (List D) := fun en => (f en).bind frzs
def KoDs (K : PySem.W.Frag) (F : Hp) (A : List Addr) (G : Hp) (σ : St) (Q : List V → Hp → Prop) (ds : List D) (en' : En) : Prop :=
  ∀ vs G' H', Grow F G G' → Rp K F A G' en' σ H' → Rvs K G' ds vs → Q vs H'
theorem SoundA.dats {E : XE} {t : TA} {f : EA} (h : SoundA K mg E t f) (R : Rp K F A G en σ H) {Q : List V → Hp → Prop} (k : Then (Fx.dats f en) (KoDs K F A G σ Q) (KeE K mg E F A G σ)) : t σ H Q := by
  refine h F A G en σ H R Q (Then.imp (Then.bind k) (fun lc en1 k1 v G1 H1 g1 R1 r1 => ?_) fun x en1 k1 => k1)
  rcases frzs_cases lc en1 with e | ⟨d, en2, e⟩
  · rw [e] at k1; exact k1.elim
  · rw [e] at k1
    obtain ⟨G2, g2, R2, r2⟩ := frzs_ok R1 r1 e
    exact k1 v G2 H1 (g1.trans g2) R2 r2
theorem Rvs.length : ∀ {ds : List D} {vs : List V}, Rvs K G ds vs → vs.length = ds.length
  | [], _, h => by cases h; rfl
  | d :: ds, _, ⟨v, r, e, _, h⟩ => by rw [e, List.length_cons, List.length_cons, Rvs.length h]
/-- a new object that nobody owns: it is frozen at once -/
theorem Rp.new (R : Rp K F A G en σ H) {p : Addr} {u : HO} (hp : H p = none) (nf : ∀ o w, u ≠ .frz o w) : Grow F G (upd G p u) ∧ Rp K F A (upd G p u) en σ (upd H p u) := by
  have fp : F p = none := by
    cases e : F p with
    | none => rfl
    | some o => rw [R.fx p o e] at hp; cases hp
  have gn : G p = none := R.gx.dm p hp
  · have gr : Grow F G (upd G p u) := ⟨fun b o e => by rw [upd_ne (ne_of_none e gn)]; exact e, fun b e e' => by
      by_cases z : b = p
      · subst z; exact .inl fp
      · rw [upd_ne z] at e'; exact absurd e e'⟩
    refine ⟨gr, fun a o e => by rw [upd_ne (ne_of_none (R.fx a o e) hp)]; exact R.fx a o e, ⟨fun b xs e => ?_, fun b w c e => ?_, fun b e => ?_, fun b xs e => ?_⟩, R.len, fun i d e => ?_, fun i d e => ?_, fun i k d e => ?_, R.dj, R.ij, R.nd, fun b hb e => ?_, fun b o e e' => R.fg b o e (by rw [upd_ne (fun (z : b = p) => by rw [z, fp] at e; cases e)] at e'; exact e')⟩
    · by_cases z : b = p
      · subst z; rw [upd_same] at e ⊢; exact e
      · rw [upd_ne z] at e ⊢; exact R.gx.tp b xs e
    · by_cases z : b = p
      · subst z
        rcases e with e | ⟨o, e⟩
        · rw [upd_same] at e; exact .inl (by rw [upd_same]; exact e)
        · rw [upd_same] at e; exact absurd (Option.some.inj e) (nf o w)
      · have q : Rd G b w := by
          rcases e with e | ⟨o, e⟩
          · rw [upd_ne z] at e; exact .inl e
          · rw [upd_ne z] at e; exact .inr ⟨o, e⟩
        rcases R.gx.rd b w c q with q | ⟨o, q⟩
        · exact .inl (by rw [upd_ne z]; exact q)
        · exact .inr ⟨o, by rw [upd_ne z]; exact q⟩
    · by_cases z : b = p
      · subst z; rw [upd_same] at e; cases e
      · rw [upd_ne z] at e ⊢; exact R.gx.dm b e
    · by_cases z : b = p
      · subst z; rw [upd_same] at e ⊢; exact .inr e
      · rw [upd_ne z] at e ⊢; exact R.gx.tq b xs e
    · obtain ⟨v, q1, q2⟩ := R.fz i d e
      exact ⟨v, q1, Rv.le gr.toLe d v q2⟩
    · obtain ⟨b, q1, q2, q3, q4, q5⟩ := R.ow i d e
      obtain ⟨u', hu', _⟩ := q2.some
      have nb : b ≠ p := ne_of_none hu' hp
      exact ⟨b, q1, q2.step gr.toLe (by rw [upd_ne nb]), q3, by rw [upd_ne nb]; exact q4, q5⟩
    · obtain ⟨b, q1, qa, q2, q3, q4⟩ := R.io i k d e
      obtain ⟨u', hu', _⟩ := q2.some
      have nb : b ≠ p := ne_of_none hu' hp
      exact ⟨b, q1, qa, q2.step gr.toLe (by rw [upd_ne nb]), q3, by rw [upd_ne nb]; exact q4⟩
    · by_cases z : b = p
      · subst z; rw [upd_same] at e; cases e
      · rw [upd_ne z] at e; exact R.al b hb e
end
end Fx

set_option Elab.async false
set_option linter.all false
set_option maxRecDepth 100000
namespace Fx
open PySem L2
section
variable {K : PySem.W.Frag} {mg : Str → Option Value} {F : Hp} {A : List Addr} {G H : Hp} {en : En} {σ : St}

/-- a thing that no name holds, in no other's hands -/
structure Nw (F : Hp) (A : List Addr) (G : Hp) (en : En) (σ : St) (a : Addr) : Prop where
  f : F a = none
  g : G a = none
  n : a ∉ A
  s : ∀ (i : Nat) d, en[i]? = some (.ow d) → σ[i]? ≠ some (some (.ref a))
theorem Rp.free_new (R : Rp K F A G en σ H) {p : Addr} (hp : H p = none) : Nw F A G en σ p := by
  refine ⟨?_, R.gx.dm p hp, fun h => R.al p h hp, fun i d e h => ?_⟩
  · cases e : F p with
    | none => rfl
    | some o => rw [R.fx p o e] at hp; cases hp
  · obtain ⟨a, h1, h2, _⟩ := R.ow i d e
    rw [h1] at h
    cases h
    obtain ⟨u, hu, _⟩ := h2.some
    rw [hu] at hp
    cases hp
/-- a new object stands, not frozen -/
theorem Rp.fresh (R : Rp K F A G en σ H) {p : Addr} {u : HO} (hp : H p = none) : Rp K F A G en σ (upd H p u) := by
  refine ⟨fun a o e => by rw [upd_ne (ne_of_none (R.fx a o e) hp)]; exact R.fx a o e, ⟨fun b xs e => ?_, fun b w c e => ?_, fun b e => ?_, fun b xs e => ?_⟩, R.len, R.fz, fun i d e => ?_, fun i k d e => ?_, R.dj, R.ij, R.nd, fun b hb e => ?_, R.fg⟩
  · have q := R.gx.tp b xs e
    rw [upd_ne (ne_of_none q hp)]; exact q
  · rcases R.gx.rd b w c e with q | ⟨o, q⟩
    · exact .inl (by rw [upd_ne (ne_of_none q hp)]; exact q)
    · exact .inr ⟨o, by rw [upd_ne (ne_of_none q hp)]; exact q⟩
  · by_cases z : b = p
    · subst z; rw [upd_same] at e; cases e
    · rw [upd_ne z] at e; exact R.gx.dm b e
  · by_cases z : b = p
    · subst z; exact .inl (R.gx.dm b hp)
    · rw [upd_ne z] at e; exact R.gx.tq b xs e
  · obtain ⟨b, q1, q2, q3⟩ := R.ow i d e
    obtain ⟨u', hu', _⟩ := q2.some
    exact ⟨b, q1, q2.step (.refl _) (by rw [upd_ne (ne_of_none hu' hp)]), q3⟩
  · obtain ⟨b, q1, qa, q2, q3⟩ := R.io i k d e
    obtain ⟨u', hu', _⟩ := q2.some
    exact ⟨b, q1, qa, q2.step (.refl _) (by rw [upd_ne (ne_of_none hu' hp)]), q3⟩
  · by_cases z : b = p
    · subst z; rw [upd_same] at e; cases e
    · rw [upd_ne z] at e; exact R.al b hb e
/-- a thing in nobody's hands is frozen -/
theorem Rp.froze (R : Rp K F A G en σ H) {a : Addr} {d : D} (h2 : Own K G H d a) (nw : Nw F A G en σ a) : ∃ G', Grow F G G' ∧ Rp K F A G' en σ H ∧ Rv K G' d (.ref a) := by
  obtain ⟨u, hu, cu, _⟩ := h2.some
  have h3 := nw.f
  have h4 := nw.g
  have gr : Grow F G (upd G a u) := ⟨fun b o e => by rw [upd_ne (ne_of_none e h4)]; exact e, fun b e e' => by
    by_cases z : b = a
    · subst z; exact .inl h3
    · rw [upd_ne z] at e'; exact absurd e e'⟩
  have rv : Rv K (upd G a u) d (.ref a) := by
    cases d with
    | list ds =>
      obtain ⟨vs, q1, q2⟩ := h2
      rw [hu] at q1
      cases q1
      exact ⟨a, vs, rfl, .inl (.inl upd_same), Rvs.le gr.toLe ds vs q2⟩
    | dict kvs =>
      rcases h2 with ⟨xs, q1, q2⟩ | ⟨xs, q1, q2⟩
      · rw [hu] at q1
        cases q1
        exact ⟨a, rfl, .inl ⟨xs, .inl upd_same, RvK.le gr.toLe kvs xs q2⟩⟩
      · rw [hu] at q1
        cases q1
        exact ⟨a, rfl, .inr ⟨xs, .inl upd_same, RvT.le gr.toLe kvs xs q2⟩⟩
    | none => exact h2.elim
    | bool _ => exact h2.elim
    | int _ => exact h2.elim
    | str _ => exact h2.elim
    | tuple _ => exact h2.elim
  have le : Le (upd G a u) H := ⟨fun b xs e => by
      by_cases z : b = a
      · subst z
        rw [upd_same] at e
        cases e
        cases cu
      · rw [upd_ne z] at e
        exact R.gx.tp b xs e, fun b o c e => by
      by_cases z : b = a
      · subst z
        rcases e with e | ⟨ob, e⟩
        · rw [upd_same] at e
          cases e
          exact .inl hu
        · rw [upd_same] at e
          cases e
          cases cu
      · refine R.gx.rd b o c ?_
        rcases e with e | ⟨ob, e⟩
        · rw [upd_ne z] at e; exact .inl e
        · rw [upd_ne z] at e; exact .inr ⟨ob, e⟩, fun b e => by
      have nb : b ≠ a := fun z => by rw [z, hu] at e; cases e
      rw [upd_ne nb]
      exact R.gx.dm b e, fun b xs e => by
      have nb : b ≠ a := fun z => by rw [z, hu] at e; cases e; cases cu
      rw [upd_ne nb]
      exact R.gx.tq b xs e⟩
  refine ⟨upd G a u, gr, ⟨R.fx, le, R.len, fun j d' e => ?_, fun j d' e => ?_, fun j k d' e => ?_, R.dj, R.ij, R.nd, R.al, fun b o e e' => R.fg b o e (by rw [upd_ne (fun (z : b = a) => by rw [z, h3] at e; cases e)] at e'; exact e')⟩, rv⟩
  · obtain ⟨v, q1, q2⟩ := R.fz j d' e
    exact ⟨v, q1, Rv.le gr.toLe d' v q2⟩
  · obtain ⟨b, q1, q2, q3, q4, q5⟩ := R.ow j d' e
    have nb : b ≠ a := fun z => nw.s j d' e (z ▸ q1)
    exact ⟨b, q1, q2.step gr.toLe rfl, q3, by rw [upd_ne nb]; exact q4, q5⟩
  · obtain ⟨b, q1, qa, q2, q3, q4⟩ := R.io j k d' e
    have nb : b ≠ a := fun z => nw.n (z ▸ List.mem_of_getElem? qa)
    exact ⟨b, q1, qa, q2.step gr.toLe rfl, q3, by rw [upd_ne nb]; exact q4⟩

/-! ### storing names -/
/-- whether the name may be stored anew -/
def may (en : En) (i : Nat) : Bool := match en[i]? with
  | some (.io _ _) => false
  | some _ => true
  | none => false
theorem may_lt {i : Nat} (h : may en i = true) : i < en.length := by
  unfold may at h
  cases e : en[i]? with
  | none => rw [e] at h; cases h
  | some s => exact (List.getElem?_eq_some_iff.mp e).1
theorem may_io {i k : Nat} {d : D} (h : may en i = true) : en[i]? ≠ some (.io k d) := fun e => by
  unfold may at h
  rw [e] at h
  cases h
theorem Rp.setF (R : Rp K F A G en σ H) {i : Nat} {d : D} {v : V} (r : Rv K G d v) (m : may en i = true) : Rp K F A G (en.set i (.fz d)) (σ.set i (some v)) H := by
  have hi := may_lt m
  refine ⟨R.fx, R.gx, by rw [List.length_set, List.length_set]; exact R.len, fun j d' e => ?_, fun j d' e => ?_, fun j k d' e => ?_, fun j j' d1 d2 b e e' h h' => ?_, fun j j' k d1 d2 e e' => ?_, R.nd, R.al, R.fg⟩
  · rcases get_set e with ⟨rfl, e2, _⟩ | ⟨ne, e⟩
    · cases e2
      exact ⟨v, by rw [List.getElem?_set_self (by rw [R.len]; exact hi)], r⟩
    · obtain ⟨w, q1, q2⟩ := R.fz j d' e
      exact ⟨w, by rw [List.getElem?_set_ne (Ne.symm ne)]; exact q1, q2⟩
  · rcases get_set e with ⟨_, e2, _⟩ | ⟨ne, e⟩
    · cases e2
    · obtain ⟨b, q1, q2⟩ := R.ow j d' e
      exact ⟨b, by rw [List.getElem?_set_ne (Ne.symm ne)]; exact q1, q2⟩
  · rcases get_set e with ⟨_, e2, _⟩ | ⟨ne, e⟩
    · cases e2
    · obtain ⟨b, q1, q2⟩ := R.io j k d' e
      exact ⟨b, by rw [List.getElem?_set_ne (Ne.symm ne)]; exact q1, q2⟩
  · rcases get_set e with ⟨_, e2, _⟩ | ⟨ne, e⟩
    · cases e2
    · rcases get_set e' with ⟨_, e2, _⟩ | ⟨ne', e'⟩
      · cases e2
      · rw [List.getElem?_set_ne (Ne.symm ne)] at h
        rw [List.getElem?_set_ne (Ne.symm ne')] at h'
        exact R.dj j j' d1 d2 b e e' h h'
  · rcases get_set e with ⟨_, e2, _⟩ | ⟨ne, e⟩
    · cases e2
    · rcases get_set e' with ⟨_, e2, _⟩ | ⟨ne', e'⟩
      · cases e2
      · exact R.ij j j' k d1 d2 e e'
theorem Rp.setO (R : Rp K F A G en σ H) {i : Nat} {d : D} {a : Addr} (o : Own K G H d a) (nw : Nw F A G en σ a) (m : may en i = true) : Rp K F A G (en.set i (.ow d)) (σ.set i (some (.ref a))) H := by
  have hi := may_lt m
  refine ⟨R.fx, R.gx, by rw [List.length_set, List.length_set]; exact R.len, fun j d' e => ?_, fun j d' e => ?_, fun j k d' e => ?_, fun j j' d1 d2 b e e' h h' => ?_, fun j j' k d1 d2 e e' => ?_, R.nd, R.al, R.fg⟩
  · rcases get_set e with ⟨_, e2, _⟩ | ⟨ne, e⟩
    · cases e2
    · obtain ⟨w, q1, q2⟩ := R.fz j d' e
      exact ⟨w, by rw [List.getElem?_set_ne (Ne.symm ne)]; exact q1, q2⟩
  · rcases get_set e with ⟨rfl, e2, _⟩ | ⟨ne, e⟩
    · cases e2
      exact ⟨a, by rw [List.getElem?_set_self (by rw [R.len]; exact hi)], o, nw.f, nw.g, nw.n⟩
    · obtain ⟨b, q1, q2⟩ := R.ow j d' e
      exact ⟨b, by rw [List.getElem?_set_ne (Ne.symm ne)]; exact q1, q2⟩
  · rcases get_set e with ⟨_, e2, _⟩ | ⟨ne, e⟩
    · cases e2
    · obtain ⟨b, q1, q2⟩ := R.io j k d' e
      exact ⟨b, by rw [List.getElem?_set_ne (Ne.symm ne)]; exact q1, q2⟩
  · rcases get_set e with ⟨rfl, e2, _⟩ | ⟨ne, f1⟩
    · rcases get_set e' with ⟨rfl, e3, _⟩ | ⟨ne', f2⟩
      · rfl
      · rw [List.getElem?_set_self (by rw [R.len]; exact hi)] at h
        rw [List.getElem?_set_ne (Ne.symm ne')] at h'
        cases h
        exact absurd h' (nw.s j' d2 f2)
    · rcases get_set e' with ⟨rfl, e3, _⟩ | ⟨ne', f2⟩
      · rw [List.getElem?_set_self (by rw [R.len]; exact hi)] at h'
        rw [List.getElem?_set_ne (Ne.symm ne)] at h
        cases h'
        exact absurd h (nw.s j d1 f1)
      · rw [List.getElem?_set_ne (Ne.symm ne)] at h
        rw [List.getElem?_set_ne (Ne.symm ne')] at h'
        exact R.dj j j' d1 d2 b f1 f2 h h'
  · rcases get_set e with ⟨_, e2, _⟩ | ⟨ne, e⟩
    · cases e2
    · rcases get_set e' with ⟨_, e2, _⟩ | ⟨ne', e'⟩
      · cases e2
      · exact R.ij j j' k d1 d2 e e'
/-- a name is forgotten -/
theorem Rp.drop (R : Rp K F A G en σ H) {i : Nat} {o : Option V} : Rp K F A G (en.set i .un) (σ.set i o) H := by
  refine ⟨R.fx, R.gx, by rw [List.length_set, List.length_set]; exact R.len, fun j d' e => ?_, fun j d' e => ?_, fun j k d' e => ?_, fun j j' d1 d2 b e e' h h' => ?_, fun j j' k d1 d2 e e' => ?_, R.nd, R.al, R.fg⟩
  · rcases get_set e with ⟨_, e2, _⟩ | ⟨ne, e⟩
    · cases e2
    · obtain ⟨w, q1, q2⟩ := R.fz j d' e
      exact ⟨w, by rw [List.getElem?_set_ne (Ne.symm ne)]; exact q1, q2⟩
  · rcases get_set e with ⟨_, e2, _⟩ | ⟨ne, e⟩
    · cases e2
    · obtain ⟨b, q1, q2⟩ := R.ow j d' e
      exact ⟨b, by rw [List.getElem?_set_ne (Ne.symm ne)]; exact q1, q2⟩
  · rcases get_set e with ⟨_, e2, _⟩ | ⟨ne, e⟩
    · cases e2
    · obtain ⟨b, q1, q2⟩ := R.io j k d' e
      exact ⟨b, by rw [List.getElem?_set_ne (Ne.symm ne)]; exact q1, q2⟩
  · rcases get_set e with ⟨_, e2, _⟩ | ⟨ne, e⟩
    · cases e2
    · rcases get_set e' with ⟨_, e2, _⟩ | ⟨ne', e'⟩
      · cases e2
      · rw [List.getElem?_set_ne (Ne.symm ne)] at h
        rw [List.getElem?_set_ne (Ne.symm ne')] at h'
        exact R.dj j j' d1 d2 b e e' h h'
  · rcases get_set e with ⟨_, e2, _⟩ | ⟨ne, e⟩
    · cases e2
    · rcases get_set e' with ⟨_, e2, _⟩ | ⟨ne', e'⟩
      · cases e2
      · exact R.ij j j' k d1 d2 e e'
/-- what the name's thing holds is changed -/
def put (en : En) (i : Nat) (d : D) : Option En := match en[i]? with
  | some (.ow _) => some (en.set i (.ow d))
  | some (.io k _) => some (en.set i (.io k d))
  | _ => none
/-- the address of an owned thing may be written -/
theorem Rp.owned (R : Rp K F A G en σ H) {i : Nat} {d : D} {v : V} (h : σ[i]? = some (some v)) (hr : rd (.sl i) en = some d) {d' : D} {en' : En} (hp : put en i d' = some en') :
    ∃ a, v = .ref a ∧ Own K G H d a ∧ F a = none ∧ G a = none ∧ ∀ u, Own K G (upd H a u) d' a → Rp K F A G en' σ (upd H a u) := by
  have hr' : (match en[i]? with
      | some (.fz d) => some d
      | some (.ow d) => some d
      | some (.io _ d) => some d
      | _ => none) = some d := hr
  have hp' : (match en[i]? with
      | some (.ow _) => some (en.set i (.ow d'))
      | some (.io k _) => some (en.set i (.io k d'))
      | _ => none) = some en' := hp
  cases e : en[i]? with
  | none => rw [e] at hp'; cases hp'
  | some s =>
    rw [e] at hp' hr'
    have hi : i < en.length := (List.getElem?_eq_some_iff.mp e).1
    cases s with
    | un => cases hp'
    | fz _ => cases hp'
    | ow d0 =>
      cases hp'
      cases hr'
      obtain ⟨a, h1, h2, h3, h4, h5⟩ := R.ow i _ e
      rw [h1] at h
      cases h
      obtain ⟨u0, hu0, _⟩ := h2.some
      refine ⟨a, rfl, h2, h3, h4, fun u ho => ?_⟩
      have ga : ∀ b o, G b = some o → b ≠ a := fun b o q z => by rw [z, h4] at q; cases q
      refine ⟨fun b o q => by rw [upd_ne (fun z => by rw [z, h3] at q; cases q)]; exact R.fx b o q, ⟨fun b xs q => by rw [upd_ne (ga b _ q)]; exact R.gx.tp b xs q, fun b w c q => ?_, fun b q => ?_, fun b xs q => ?_⟩, by rw [List.length_set]; exact R.len,
        fun j d1 q => ?_, fun j d1 q => ?_, fun j k d1 q => ?_, fun j j' d1 d2 b q q' z z' => ?_, fun j j' k d1 d2 q q' => ?_, R.nd, fun b hb q => ?_, R.fg⟩
      · have nb : b ≠ a := by rcases q with q | ⟨ob, q⟩ <;> exact ga b _ q
        rcases R.gx.rd b w c q with q | ⟨o, q⟩
        · exact .inl (by rw [upd_ne nb]; exact q)
        · exact .inr ⟨o, by rw [upd_ne nb]; exact q⟩
      · by_cases z : b = a
        · rw [z]; exact h4
        · rw [upd_ne z] at q; exact R.gx.dm b q
      · by_cases z : b = a
        · rw [z]; exact .inl h4
        · rw [upd_ne z] at q; exact R.gx.tq b xs q
      · rcases get_set q with ⟨_, e2, _⟩ | ⟨ne, q⟩
        · cases e2
        · exact R.fz j d1 q
      · rcases get_set q with ⟨rfl, e2, _⟩ | ⟨ne, q⟩
        · cases e2
          exact ⟨a, h1, ho, h3, h4, h5⟩
        · obtain ⟨b, q1, q2, q3⟩ := R.ow j d1 q
          have nb : b ≠ a := fun z => ne (R.dj j i d1 _ a q e (z ▸ q1) h1)
          exact ⟨b, q1, q2.step (.refl _) (by rw [upd_ne nb]), q3⟩
      · rcases get_set q with ⟨_, e2, _⟩ | ⟨ne, q⟩
        · cases e2
        · obtain ⟨b, q1, qa, q2, q3⟩ := R.io j k d1 q
          have nb : b ≠ a := fun z => h5 (z ▸ List.mem_of_getElem? qa)
          exact ⟨b, q1, qa, q2.step (.refl _) (by rw [upd_ne nb]), q3⟩
      · rcases get_set q with ⟨rfl, e2, _⟩ | ⟨ne, f1⟩
        · rcases get_set q' with ⟨rfl, e3, _⟩ | ⟨ne', f2⟩
          · rfl
          · exact R.dj _ j' _ d2 b e f2 z z'
        · rcases get_set q' with ⟨rfl, e3, _⟩ | ⟨ne', f2⟩
          · exact R.dj j _ d1 _ b f1 e z z'
          · exact R.dj j j' d1 d2 b f1 f2 z z'
      · rcases get_set q with ⟨_, e2, _⟩ | ⟨ne, q⟩
        · cases e2
        · rcases get_set q' with ⟨_, e2, _⟩ | ⟨ne', q'⟩
          · cases e2
          · exact R.ij j j' k d1 d2 q q'
      · by_cases z : b = a
        · rw [z, upd_same] at q; cases q
        · rw [upd_ne z] at q; exact R.al b hb q
    | io k0 d0 =>
      cases hp'
      cases hr'
      obtain ⟨a, h1, ha, h2, h3, h4⟩ := R.io i k0 _ e
      rw [h1] at h
      cases h
      obtain ⟨u0, hu0, _⟩ := h2.some
      refine ⟨a, rfl, h2, h3, h4, fun u ho => ?_⟩
      have ga : ∀ b o, G b = some o → b ≠ a := fun b o q z => by rw [z, h4] at q; cases q
      refine ⟨fun b o q => by rw [upd_ne (fun z => by rw [z, h3] at q; cases q)]; exact R.fx b o q, ⟨fun b xs q => by rw [upd_ne (ga b _ q)]; exact R.gx.tp b xs q, fun b w c q => ?_, fun b q => ?_, fun b xs q => ?_⟩, by rw [List.length_set]; exact R.len,
        fun j d1 q => ?_, fun j d1 q => ?_, fun j k d1 q => ?_, fun j j' d1 d2 b q q' z z' => ?_, fun j j' k d1 d2 q q' => ?_, R.nd, fun b hb q => ?_, R.fg⟩
      · have nb : b ≠ a := by rcases q with q | ⟨ob, q⟩ <;> exact ga b _ q
        rcases R.gx.rd b w c q with q | ⟨o, q⟩
        · exact .inl (by rw [upd_ne nb]; exact q)
        · exact .inr ⟨o, by rw [upd_ne nb]; exact q⟩
      · by_cases z : b = a
        · rw [z]; exact h4
        · rw [upd_ne z] at q; exact R.gx.dm b q
      · by_cases z : b = a
        · rw [z]; exact .inl h4
        · rw [upd_ne z] at q; exact R.gx.tq b xs q
      · rcases get_set q with ⟨_, e2, _⟩ | ⟨ne, q⟩
        · cases e2
        · exact R.fz j d1 q
      · rcases get_set q with ⟨_, e2, _⟩ | ⟨ne, q⟩
        · cases e2
        · obtain ⟨b, q1, q2, q3, q4, q5⟩ := R.ow j d1 q
          have nb : b ≠ a := fun z => q5 (z ▸ List.mem_of_getElem? ha)
          exact ⟨b, q1, q2.step (.refl _) (by rw [upd_ne nb]), q3, q4, q5⟩
      · rcases get_set q with ⟨rfl, e2, _⟩ | ⟨ne, f1⟩
        · cases e2
          exact ⟨a, h1, ha, ho, h3, h4⟩
        · obtain ⟨b, q1, qa, q2, q3⟩ := R.io j k d1 f1
          have nb : b ≠ a := fun z => by
            have qq := f1
            subst z
            have h1 : k < A.length := (List.getElem?_eq_some_iff.mp qa).1
            have h2 : k0 < A.length := (List.getElem?_eq_some_iff.mp ha).1
            have ek : k = k0 := (List.getElem?_inj h1 R.nd).mp (qa.trans ha.symm)
            subst ek
            exact ne (R.ij j i k d1 _ qq e)
          exact ⟨b, q1, qa, q2.step (.refl _) (by rw [upd_ne nb]), q3⟩
      · rcases get_set q with ⟨_, e2, _⟩ | ⟨ne, q⟩
        · cases e2
        · rcases get_set q' with ⟨_, e2, _⟩ | ⟨ne', q'⟩
          · cases e2
          · exact R.dj j j' d1 d2 b q q' z z'
      · rcases get_set q with ⟨rfl, e2, _⟩ | ⟨ne, f1⟩
        · cases e2
          rcases get_set q' with ⟨rfl, e3, _⟩ | ⟨ne', f2⟩
          · rfl
          · exact R.ij _ j' k0 _ d2 e f2
        · rcases get_set q' with ⟨rfl, e3, _⟩ | ⟨ne', f2⟩
          · cases e3
            exact R.ij j _ k0 d1 _ f1 e
          · exact R.ij j j' k d1 d2 f1 f2
      · by_cases z : b = a
        · rw [z, upd_same] at q; cases q
        · rw [upd_ne z] at q; exact R.al b hb q

/-! ### new lists and dicts -/
abbrev EO := En → Rs D
def KoO (K : PySem.W.Frag) (F : Hp) (A : List Addr) (G : Hp) (σ : St) (Q : VK) (d : D) (en' : En) : Prop :=
  ∀ a G' H', Grow F G G' → Rp K F A G' en' σ H' → Own K G' H' d a → Nw F A G' en' σ a → Q (.ref a) H'
def SoundO (K : PySem.W.Frag) (mg : Str → Option Value) (E : XE) (t : TE) (f : EO) : Prop := ∀ F A G en σ H, Rp K F A G en σ H → ∀ Q : VK,
  Then (f en) (KoO K F A G σ Q) (KeE K mg E F A G σ) → t σ H Q
structure SO (X : Cx) (E : XE) (e : Expr) (t : TE) (f : EO) : Prop where
  pe : PE X e t
  snd : SoundO X.K X.mg E t f
/-- .. frozen at once -/
def ofO (f : EO) : EE := fun en => (f en).bind fun d en => .ok (.fz d) en
theorem SoundO.frozen {E : XE} {t : TE} {f : EO} (h : SoundO K mg E t f) : SoundE K mg E t (ofO f) := by
  intro F A G en σ H R Q k
  refine h F A G en σ H R Q (Then.imp (Then.bind k) (fun d en1 k1 a G1 H1 g1 R1 o1 n1 => ?_) fun _ _ z => z)
  obtain ⟨G2, g2, R2, r2⟩ := R1.froze o1 n1
  exact k1 _ G2 H1 (g1.trans g2) R2 r2
theorem SO.se {X : Cx} {E : XE} {e : Expr} {t : TE} {f : EO} (h : SO X E e t f) : SE X E e t (ofO f) := ⟨h.pe, h.snd.frozen⟩

theorem size_of {n : Nat} (h : n ≤ 65536) : n ≤ sizeLine := Nat.le_trans h (by decide)
/-- (a, b, ..) -/
def eTup (f : EA) : EE := fun en => (dats f en).bind fun ds en => if ds.length ≤ 65536 then .ok (.fz (.tuple ds)) en else .st
theorem sound_tup {E : XE} {t : TA} {f : EA} (h : SoundA K mg E t f) : SoundE K mg E (tTup t) (eTup f) := by
  intro F A G en σ H R Q k
  refine h.dats R (Then.imp (Then.bind k) (fun ds en1 k1 vs G1 H1 g1 R1 r1 => ?_) fun _ _ z => z)
  by_cases hl : ds.length ≤ 65536
  · rw [if_pos hl] at k1
    refine ⟨by rw [r1.length]; exact size_of hl, fun p hp => ?_⟩
    obtain ⟨g2, R2⟩ := R1.new (u := .tup vs) hp (fun _ _ z => nomatch z)
    exact k1 _ _ _ (g1.trans g2) R2 ⟨p, vs, rfl, .inl upd_same, Rvs.le g2.toLe ds vs r1⟩
  · rw [if_neg hl] at k1; exact k1.elim
/-- [a, b, ..] -/
def oLst (f : EA) : EO := fun en => (dats f en).bind fun ds en => if ds.length ≤ 65536 then .ok (.list ds) en else .st
theorem sound_lst {E : XE} {t : TA} {f : EA} (h : SoundA K mg E t f) : SoundO K mg E (tLst t) (oLst f) := by
  intro F A G en σ H R Q k
  refine h.dats R (Then.imp (Then.bind k) (fun ds en1 k1 vs G1 H1 g1 R1 r1 => ?_) fun _ _ z => z)
  by_cases hl : ds.length ≤ 65536
  · rw [if_pos hl] at k1
    refine ⟨by rw [r1.length]; exact size_of hl, fun p hp => ?_⟩
    have R2 := R1.fresh (u := .lst vs) hp
    refine k1 p G1 _ g1 R2 ⟨vs, upd_same, r1⟩ ?_
    exact R1.free_new hp
  · rw [if_neg hl] at k1; exact k1.elim
/-- {} -/
def oDnew : EO := fun en => .ok (.dict []) en
theorem sound_dnewK {E : XE} : SoundO K mg E tDNewK oDnew := by
  intro F A G en σ H R Q k p hp
  exact k p G _ (.refl _ _) (R.fresh hp) (.inl ⟨[], upd_same, rfl⟩) (R.free_new hp)
theorem sound_dnewT {E : XE} : SoundO K mg E tDNewT oDnew := by
  intro F A G en σ H R Q k p hp
  exact k p G _ (.refl _ _) (R.fresh hp) (.inr ⟨[], upd_same, rfl⟩) (R.free_new hp)
end
end Fx

set_option Elab.async false
set_option linter.all false
set_option maxRecDepth 100000
namespace Fx
open PySem L2
section
variable {K : PySem.W.Frag} {mg : Str → Option Value} {F : Hp} {A : List Addr} {G H : Hp} {en : En} {σ : St}

/-! ### statements -/
inductive Out where
  | nx | bk | ct | rt (d : D) | ro (d : D)
abbrev ES := En → Rs Out
def KoS (K : PySem.W.Frag) (F : Hp) (A : List Addr) (G : Hp) (Dn : Ends) (o : Out) (en' : En) : Prop := match o with
  | .nx => ∀ σ' G' H', Grow F G G' → Rp K F A G' en' σ' H' → Dn.nx σ' H'
  | .bk => ∀ σ' G' H', Grow F G G' → Rp K F A G' en' σ' H' → Dn.bk σ' H'
  | .ct => ∀ σ' G' H', Grow F G G' → Rp K F A G' en' σ' H' → Dn.ct σ' H'
  | .rt d => ∀ v σ' G' H', Grow F G G' → Rp K F A G' en' σ' H' → Rv K G' d v → Dn.rt v H'
  | .ro d => ∀ a σ' G' H', Grow F G G' → Rp K F A G' en' σ' H' → Own K G' H' d a → Nw F A G' en' σ' a → Dn.rt (.ref a) H'
def KeS (K : PySem.W.Frag) (mg : Str → Option Value) (E : XE) (F : Hp) (A : List Addr) (G : Hp) (x : Er) (en' : En) : Prop :=
  ∀ c dx σ' G' H', Grow F G G' → Rp K F A G' en' σ' H' → Xr K mg G' H' x c dx → E σ' c dx H'
theorem KoS.grow {Dn : Ends} {G' : Hp} (g : Grow F G G') {o : Out} {en' : En} (h : KoS K F A G Dn o en') : KoS K F A G' Dn o en' := by
  cases o with
  | nx => exact fun s G2 H2 g2 => h s G2 H2 (g.trans g2)
  | bk => exact fun s G2 H2 g2 => h s G2 H2 (g.trans g2)
  | ct => exact fun s G2 H2 g2 => h s G2 H2 (g.trans g2)
  | rt d => exact fun v s G2 H2 g2 => h v s G2 H2 (g.trans g2)
  | ro d => exact fun a s G2 H2 g2 => h a s G2 H2 (g.trans g2)
theorem KeS.grow {E : XE} {G' : Hp} (g : Grow F G G') {x : Er} {en' : En} (h : KeS K mg E F A G x en') : KeS K mg E F A G' x en' :=
  fun c dx s G2 H2 g2 => h c dx s G2 H2 (g.trans g2)
theorem KeS.ke {E : XE} {x : Er} {en' : En} (h : KeS K mg E F A G x en') : KeE K mg E F A G σ x en' := fun c dx G2 H2 g2 => h c dx σ G2 H2 g2
def SoundS (K : PySem.W.Frag) (mg : Str → Option Value) (E : XE) (t : TS) (f : ES) : Prop := ∀ F A G en σ H, Rp K F A G en σ H → ∀ Dn : Ends,
  Then (f en) (KoS K F A G Dn) (KeS K mg E F A G) → t Dn σ H
structure SS (X : Cx) (E : XE) (s : Stmt) (t : TS) (f : ES) : Prop where
  ps : PS X s t
  snd : SoundS X.K X.mg E t f
structure SB (X : Cx) (E : XE) (s : List Stmt) (t : TS) (f : ES) : Prop where
  ps : PSs X s t
  snd : SoundS X.K X.mg E t f

def sNx : ES := fun en => .ok .nx en
theorem sound_nx {E : XE} : SoundS K mg E tNext sNx := fun F A G en σ H R Dn k => k σ G H (.refl _ _) R
def sBk : ES := fun en => .ok .bk en
theorem sound_bk {E : XE} : SoundS K mg E tBreak sBk := fun F A G en σ H R Dn k => k σ G H (.refl _ _) R
def sCt : ES := fun en => .ok .ct en
theorem sound_ct {E : XE} : SoundS K mg E tCont sCt := fun F A G en σ H R Dn k => k σ G H (.refl _ _) R
def sSt : ES := fun _ => .st
theorem sound_never {E : XE} : SoundS K mg E tNever sSt := fun F A G en σ H R Dn k => k
def sSeq (f g : ES) : ES := fun en => (f en).bind fun o en => match o with
  | .nx => g en
  | .bk => .ok .bk en
  | .ct => .ok .ct en
  | .rt d => .ok (.rt d) en
  | .ro d => .ok (.ro d) en
theorem sound_seq {E : XE} {t u : TS} {f g : ES} (h1 : SoundS K mg E t f) (h2 : SoundS K mg E u g) : SoundS K mg E (tSeq t u) (sSeq f g) := by
  intro F A G en σ H R Dn k
  refine h1 F A G en σ H R { Dn with nx := u Dn } (Then.imp (Then.bind k) (fun o en1 k1 => ?_) fun _ _ z => z)
  cases o with
  | nx => exact fun σ' G' H' g' R' => h2 F A G' en1 σ' H' R' Dn (Then.imp k1 (fun _ _ z => KoS.grow g' z) fun _ _ z => KeS.grow g' z)
  | bk => exact k1
  | ct => exact k1
  | rt d => exact k1
  | ro d => exact k1
def sRet (f : EE) : ES := fun en => (dat f en).bind fun d en => .ok (.rt d) en
theorem sound_ret {E : XE} {t : TE} {f : EE} (h : SoundE K mg E t f) : SoundS K mg E (tRet t) (sRet f) := by
  intro F A G en σ H R Dn k
  exact h.dat R (Then.imp (Then.bind k) (fun d en1 k1 v G' H' g' R' r' => k1 v σ G' H' g' R' r') fun _ _ z => z.ke)
/-- return of a new thing, in nobody's hands -/
def sRetO (f : EO) : ES := fun en => (f en).bind fun d en => .ok (.ro d) en
theorem sound_retO {E : XE} {t : TE} {f : EO} (h : SoundO K mg E t f) : SoundS K mg E (tRet t) (sRetO f) := by
  intro F A G en σ H R Dn k
  exact h F A G en σ H R _ (Then.imp (Then.bind k) (fun d en1 k1 a G' H' g' R' o' n' => k1 a σ G' H' g' R' o' n') fun _ _ z => z.ke)
def sRetN : ES := fun en => .ok (.rt .none) en
theorem sound_retN {E : XE} : SoundS K mg E tRetN sRetN := fun F A G en σ H R Dn k => k .non σ G H (.refl _ _) R rfl
def sDrop (f : EE) : ES := fun en => (f en).bind fun _ en => .ok .nx en
theorem sound_drop {E : XE} {t : TE} {f : EE} (h : SoundE K mg E t f) : SoundS K mg E (tDrop t) (sDrop f) := by
  intro F A G en σ H R Dn k
  exact h F A G en σ H R _ (Then.imp (Then.bind k) (fun d en1 k1 v G' H' g' R' r' => k1 σ G' H' g' R') fun _ _ z => z.ke)
def sIf (c : ET) (f g : ES) : ES := fun en => (c en).bind fun b en => if b = true then f en else g en
theorem sound_ifS {E : XE} {c : TT} {t u : TS} {fc : ET} {f g : ES} (hc : SoundT K mg E c fc) (h1 : SoundS K mg E t f) (h2 : SoundS K mg E u g) : SoundS K mg E (tIfS c t u) (sIf fc f g) := by
  intro F A G en σ H R Dn k
  refine hc F A G en σ H R _ (Then.imp (Then.bind k) (fun b en1 k1 G' H' g' R' => ?_) fun _ _ z => z.ke)
  cases b with
  | true => exact h1 F A G' en1 σ H' R' Dn (Then.imp k1 (fun _ _ z => KoS.grow g' z) fun _ _ z => KeS.grow g' z)
  | false => exact h2 F A G' en1 σ H' R' Dn (Then.imp k1 (fun _ _ z => KoS.grow g' z) fun _ _ z => KeS.grow g' z)

/-! targets -/
abbrev EG := D → En → Option En
/-- the slots but those at vs are the same -/
def But (vs : List Nat) (σ σ' : St) : Prop := σ'.length = σ.length ∧ ∀ j : Nat, j ∉ vs → σ'[j]? = σ[j]?
theorem But.refl {vs : List Nat} (σ : St) : But vs σ σ := ⟨rfl, fun _ _ => rfl⟩
theorem But.trans {vs : List Nat} {a b c : St} (h : But vs a b) (k : But vs b c) : But vs a c := ⟨k.1.trans h.1, fun j hj => (k.2 j hj).trans (h.2 j hj)⟩
def SoundG (K : PySem.W.Frag) (vs : List Nat) (t : TG) (f : EG) : Prop := ∀ F A G en σ H, Rp K F A G en σ H → ∀ d v, Rv K G d v → ∀ en', f d en = some en' → ∀ Q : St → Hp → Prop,
  (∀ σ' G' H', But vs σ σ' → Grow F G G' → Rp K F A G' en' σ' H' → Q σ' H') → t v σ H Q
structure SG (X : Cx) (vs : List Nat) (e : Expr) (t : TG) (f : EG) : Prop where
  pg : PG X e t
  snd : SoundG X.K vs t f
def nName (i : Nat) : EG := fun d en => if may en i = true then some (en.set i (.fz d)) else none
theorem sound_name {i : Nat} {vs : List Nat} (hi : i ∈ vs) : SoundG K vs (gName i) (nName i) := by
  intro F A G en σ H R d v r en' e Q k
  have e' : (if may en i = true then some (en.set i (.fz d)) else none) = some en' := e
  by_cases m : may en i = true
  · rw [if_pos m] at e'
    cases e'
    exact k _ G H ⟨List.length_set, fun j hj => List.getElem?_set_ne (fun (z : i = j) => hj (z ▸ hi))⟩ (.refl _ _) (R.setF r m)
  · rw [if_neg m] at e'; cases e'
abbrev EGs := List D → En → Option En
def SoundGs (K : PySem.W.Frag) (is : List Nat) (t : TGs) (f : EGs) : Prop := ∀ F A G en σ H, Rp K F A G en σ H → ∀ ds vs, Rvs K G ds vs → ∀ en', f ds en = some en' → ∀ Q : St → Hp → Prop,
  (∀ σ' G' H', But is σ σ' → Grow F G G' → Rp K F A G' en' σ' H' → Q σ' H') → t vs σ H Q
structure SGs (X : Cx) (is : List Nat) (es : List Expr) (t : TGs) (f : EGs) : Prop where
  pg : PGs X es t
  snd : SoundGs X.K is t f
def nNil : EGs := fun ds en => match ds with
  | [] => some en
  | _ => none
def nCons (g : EG) (r : EGs) : EGs := fun ds en => match ds with
  | [] => none
  | d :: ds => match g d en with
    | some en => r ds en
    | none => none
theorem sound_gnil {is : List Nat} : SoundGs K is gNil nNil := by
  intro F A G en σ H R ds vs r en' e Q k
  cases ds with
  | nil =>
    cases e
    cases r
    exact ⟨rfl, k _ G H (.refl _) (.refl _ _) R⟩
  | cons d ds => cases e
theorem sound_gcons {is : List Nat} {t : TG} {u : TGs} {g : EG} {r : EGs} (h1 : SoundG K is t g) (h2 : SoundGs K is u r) : SoundGs K is (gCons t u) (nCons g r) := by
  intro F A G en σ H R ds vs rr en' e Q k
  cases ds with
  | nil => cases e
  | cons d ds =>
    obtain ⟨v, vr, rfl, r1, r2⟩ := rr
    have e' : (match g d en with
      | some en => r ds en
      | none => none) = some en' := e
    cases q : g d en with
    | none => rw [q] at e'; cases e'
    | some en1 =>
      rw [q] at e'
      refine ⟨v, vr, rfl, h1 F A G en σ H R d v r1 en1 q _ fun σ1 G1 H1 b1 g1 R1 => ?_⟩
      exact h2 F A G1 en1 σ1 H1 R1 ds vr (Rvs.le g1.toLe ds vr r2) en' e' Q fun σ2 G2 H2 b2 g2 R2 => k σ2 G2 H2 (b1.trans b2) (g1.trans g2) R2
def nTup (n : Nat) (r : EGs) : EG := fun d en => match d with
  | .tuple ds => if ds.length = n then r ds en else none
  | _ => none
theorem sound_gtup {is : List Nat} {n : Nat} {u : TGs} {r : EGs} (h : SoundGs K is u r) : SoundG K is (gTup K n u) (nTup n r) := by
  intro F A G en σ H R d v rr en' e Q k
  cases d with
  | tuple ds =>
    have e' : (if ds.length = n then r ds en else none) = some en' := e
    by_cases hl : ds.length = n
    · rw [if_pos hl] at e'
      obtain ⟨a, vs, rfl, q1, q2⟩ := rr
      exact ⟨a, vs, rfl, (q1.le R.gx).sq, by rw [q2.length]; exact hl, h F A G en σ H R ds vs q2 en' e' Q k⟩
    · rw [if_neg hl] at e'; cases e'
  | _ => cases e
def sAsg (f : EE) (g : EG) : ES := fun en => (dat f en).bind fun d en => match g d en with
  | some en => .ok .nx en
  | none => .st
theorem sound_asg {E : XE} {vs : List Nat} {t : TE} {f : EE} {tg : TG} {g : EG} (h : SoundE K mg E t f) (hg : SoundG K vs tg g) : SoundS K mg E (tAsg t tg) (sAsg f g) := by
  intro F A G en σ H R Dn k
  refine h.dat R (Then.imp (Then.bind k) (fun d en1 k1 v G' H' g' R' r' => ?_) fun _ _ z => z.ke)
  cases q : g d en1 with
  | none => rw [q] at k1; exact k1.elim
  | some en2 =>
    rw [q] at k1
    exact hg F A G' en1 σ H' R' d v r' en2 q _ fun σ2 G2 H2 _ g2 R2 => k1 σ2 G2 H2 (g'.trans g2) R2
def sSetO (i : Nat) (f : EO) : ES := fun en => (f en).bind fun d en => if may en i = true then .ok .nx (en.set i (.ow d)) else .st
theorem sound_setO {E : XE} {t : TE} {f : EO} {i : Nat} (h : SoundO K mg E t f) : SoundS K mg E (tAsg t (gName i)) (sSetO i f) := by
  intro F A G en σ H R Dn k
  refine h F A G en σ H R _ (Then.imp (Then.bind k) (fun d en1 k1 a G' H' g' R' o' n' => ?_) fun _ _ z => z.ke)
  by_cases m : may en1 i = true
  · rw [if_pos m] at k1
    exact k1 _ G' H' g' (R'.setO o' n' m)
  · rw [if_neg m] at k1; exact k1.elim

/-! several at once: a, b = .., .. -/
def Sls (K : PySem.W.Frag) (F : Hp) (A : List Addr) (G H : Hp) (en : En) (σ : St) : List Sl → List V → Prop
  | [], vs => vs = []
  | .fz d :: r, vs => ∃ v w, vs = v :: w ∧ Rv K G d v ∧ Sls K F A G H en σ r w
  | .ow d :: r, vs => ∃ a w, vs = .ref a :: w ∧ Own K G H d a ∧ Nw F A G en σ a ∧ Sls K (upd F a (.lst [])) A G H en σ r w
  | _ :: _, _ => False
abbrev EM := En → Rs (List Sl)
def KoM (K : PySem.W.Frag) (F : Hp) (A : List Addr) (G : Hp) (σ : St) (Q : List V → Hp → Prop) (ls : List Sl) (en' : En) : Prop :=
  ∀ vs G' H', Grow F G G' → Rp K F A G' en' σ H' → Sls K F A G' H' en' σ ls vs → Q vs H'
def SoundM (K : PySem.W.Frag) (mg : Str → Option Value) (E : XE) (t : TA) (f : EM) : Prop := ∀ F A G en σ H, Rp K F A G en σ H → ∀ Q : List V → Hp → Prop,
  Then (f en) (KoM K F A G σ Q) (KeE K mg E F A G σ) → t σ H Q
structure SM (X : Cx) (E : XE) (es : List Expr) (t : TA) (f : EM) : Prop where
  pa : PA X es t
  snd : SoundM X.K X.mg E t f
/-- F's objects matter by where they stand -/
theorem Nw.dom {F F' : Hp} (h : ∀ b, F b = none ↔ F' b = none) {a : Addr} (n : Nw F A G en σ a) : Nw F' A G en σ a := ⟨(h a).mp n.f, n.g, n.n, n.s⟩
theorem Sls.dom : ∀ {ls : List Sl} {F F' : Hp} {vs : List V}, (∀ b, F b = none ↔ F' b = none) → Sls K F A G H en σ ls vs → Sls K F' A G H en σ ls vs
  | [], _, _, _, _, h => h
  | .fz d :: r, _, _, _, hd, ⟨v, w, e, h1, h2⟩ => ⟨v, w, e, h1, Sls.dom hd h2⟩
  | .ow d :: r, F, F', _, hd, ⟨a, w, e, h1, h2, h3⟩ => ⟨a, w, e, h1, h2.dom hd, Sls.dom (fun b => by
      by_cases z : b = a
      · subst z; rw [upd_same, upd_same]
      · rw [upd_ne z, upd_ne z]; exact hd b) h3⟩
  | .un :: _, _, _, _, _, h => h.elim
  | .io _ _ :: _, _, _, _, _, h => h.elim
theorem Rp.weakF {F' : Hp} (R : Rp K F' A G en σ H) (h : ∀ a o, F a = some o → F' a = some o) : Rp K F A G en σ H := by
  have hn : ∀ a, F' a = none → F a = none := fun a e => by
    cases q : F a with
    | none => rfl
    | some o => rw [h a o q] at e; cases e
  refine ⟨fun a o e => R.fx a o (h a o e), R.gx, R.len, R.fz, fun i d e => ?_, fun i k d e => ?_, R.dj, R.ij, R.nd, R.al, fun a o e => R.fg a o (h a o e)⟩
  · obtain ⟨a, h1, h2, h3, h4⟩ := R.ow i d e
    exact ⟨a, h1, h2, hn a h3, h4⟩
  · obtain ⟨a, h1, h2, h3, h4, h5⟩ := R.io i k d e
    exact ⟨a, h1, h2, h3, hn a h4, h5⟩
theorem Grow.weakF {F' : Hp} {G' : Hp} (g : Grow F' G G') (h : ∀ a o, F a = some o → F' a = some o) : Grow F G G' := ⟨g.le, fun a e e' => (g.nw a e e').imp (fun this => by
  cases q : F a with
  | none => rfl
  | some o => rw [h a o q] at this; cases this) id⟩
def mNil : EM := fun en => .ok [] en
def mConsF (a : EE) (r : EM) : EM := fun en => (dat a en).bind fun x en => (r en).bind fun xs en => .ok (.fz x :: xs) en
def mConsO (a : EO) (r : EM) : EM := fun en => (a en).bind fun x en => (r en).bind fun xs en => .ok (.ow x :: xs) en
theorem sound_mnil {E : XE} : SoundM K mg E tNil mNil := fun F A G en σ H R Q k => k [] G H (.refl _ _) R rfl
theorem sound_mconsF {E : XE} {ta : TE} {tr : TA} {fa : EE} {fr : EM} (ha : SoundE K mg E ta fa) (hr : SoundM K mg E tr fr) : SoundM K mg E (tCons ta tr) (mConsF fa fr) := by
  intro F A G en σ H R Q k
  refine ha.dat R (Then.imp (Then.bind k) (fun x en1 k1 v G1 H1 g1 R1 r1 => ?_) fun _ _ z => z)
  refine hr F A G1 en1 σ H1 R1 _ (Then.imp (Then.bind k1) (fun y en2 k2 us G2 H2 g2 R2 r2 => ?_) fun x en2 k2 => KeE.grow g1 k2)
  exact k2 (v :: us) G2 H2 (g1.trans g2) R2 ⟨v, us, rfl, Rv.le g2.toLe _ _ r1, r2⟩
theorem sound_mconsO {E : XE} {ta : TE} {tr : TA} {fa : EO} {fr : EM} (ha : SoundO K mg E ta fa) (hr : SoundM K mg E tr fr) : SoundM K mg E (tCons ta tr) (mConsO fa fr) := by
  intro F A G en σ H R Q k
  refine ha F A G en σ H R _ (Then.imp (Then.bind k) (fun x en1 k1 a G1 H1 g1 R1 o1 n1 => ?_) fun _ _ z => z)
  obtain ⟨u, hu, cu, _⟩ := o1.some
  have hw : ∀ b o, F b = some o → upd F a u b = some o := fun b o e => by
    rw [upd_ne (fun z => by rw [z, n1.f] at e; cases e)]
    exact e
  have R1' : Rp K (upd F a u) A G1 en1 σ H1 := by
    refine ⟨fun b o e => ?_, R1.gx, R1.len, R1.fz, fun i d e => ?_, fun i k d e => ?_, R1.dj, R1.ij, R1.nd, R1.al, fun b o e e' => R1.fg b o (by rw [upd_ne (fun (z : b = a) => e' (z ▸ n1.g))] at e; exact e) e'⟩
    · by_cases z : b = a
      · subst z; rw [upd_same] at e; rw [hu]; exact e
      · rw [upd_ne z] at e; exact R1.fx b o e
    · obtain ⟨b, h1, h2, h3, h4⟩ := R1.ow i d e
      have nb : b ≠ a := fun z => n1.s i d e (z ▸ h1)
      exact ⟨b, h1, h2, by rw [upd_ne nb]; exact h3, h4⟩
    · obtain ⟨b, h1, h2, h3, h4, h5⟩ := R1.io i k d e
      have nb : b ≠ a := fun z => n1.n (z ▸ List.mem_of_getElem? h2)
      exact ⟨b, h1, h2, h3, by rw [upd_ne nb]; exact h4, h5⟩
  refine hr (upd F a u) A G1 en1 σ H1 R1' _ (Then.imp (Then.bind k1) (fun y en2 k2 us G2 H2 g2 R2 r2 => ?_) fun x en2 k2 c dx G2 H2 g2 R2 => k2 c dx G2 H2 (g1.trans (g2.weakF hw)) (R2.weakF hw))
  have ha2 : H2 a = some u := R2.fx a u upd_same
  have ga : G2 a = none := by
    cases q : G2 a with
    | none => rfl
    | some o =>
      rcases g2.nw a n1.g (by rw [q]; exact fun z => nomatch z) with this | ⟨xs, this⟩
      · rw [upd_same] at this; cases this
      · have := R2.gx.tp a xs this
        rw [ha2] at this
        cases this
        cases cu
  refine k2 (.ref a :: us) G2 H2 (g1.trans (g2.weakF hw)) (R2.weakF hw) ⟨a, us, rfl, o1.step g2.toLe (by rw [ha2, hu]), ⟨n1.f, ga, n1.n, fun i d e h => ?_⟩, Sls.dom (fun b => ?_) r2⟩
  · obtain ⟨b, h1, h2, h3, h4⟩ := R2.ow i d e
    rw [h1] at h
    cases h
    rw [upd_same] at h3; cases h3
  · by_cases z : b = a
    · subst z
      rw [upd_same, upd_same]
      exact ⟨(fun z => nomatch z), (fun z => nomatch z)⟩
    · rw [upd_ne z, upd_ne z]
def setSl (i : Nat) (s : Sl) (en : En) : Option En := if may en i = true then some (en.set i s) else none
def sPar (i j : Nat) (f : EM) : ES := fun en => (f en).bind fun ls en => match ls with
  | [s1, s2] => match setSl i s1 en with
    | some en => match setSl j s2 en with
      | some en => .ok .nx en
      | none => .st
    | none => .st
  | _ => .st
def sPar3 (i j l : Nat) (f : EM) : ES := fun en => (f en).bind fun ls en => match ls with
  | [s1, s2, s3] => match setSl i s1 en with
    | some en => match setSl j s2 en with
      | some en => match setSl l s3 en with
        | some en => .ok .nx en
        | none => .st
      | none => .st
    | none => .st
  | _ => .st
/-- the first one is stored -/
theorem sls_store (R : Rp K F A G en σ H) {s : Sl} {ls : List Sl} {vs : List V} (h : Sls K F A G H en σ (s :: ls) vs) {i : Nat} {en' : En} (e : setSl i s en = some en') :
    ∃ v w, vs = v :: w ∧ Rp K F A G en' (σ.set i (some v)) H ∧ Sls K F A G H en' (σ.set i (some v)) ls w := by
  have e' : (if may en i = true then some (en.set i s) else none) = some en' := e
  by_cases m : may en i = true
  · rw [if_pos m] at e'
    cases e'
    -- the others stay what they are
    have keep : ∀ {ls : List Sl} {F' : Hp} {w : List V} {x : V}, (∀ b, F' b = none → x ≠ .ref b) ∨ (∃ d, s = .fz d) → Sls K F' A G H en σ ls w → Sls K F' A G H (en.set i s) (σ.set i (some x)) ls w := by
      intro ls
      induction ls with
      | nil => intro F' w x _ h; exact h
      | cons l r ih =>
        intro F' w x hx h
        cases l with
        | un => exact h.elim
        | io _ _ => exact h.elim
        | fz d =>
          obtain ⟨v, w', e, h1, h2⟩ := h
          exact ⟨v, w', e, h1, ih hx h2⟩
        | ow d =>
          obtain ⟨a, w', e, h1, h2, h3⟩ := h
          refine ⟨a, w', e, h1, ⟨h2.f, h2.g, h2.n, fun j d' q z => ?_⟩, ih (hx.imp (fun hx b hb => hx b ?_) id) h3⟩
          · rcases get_set q with ⟨rfl, q2, hi⟩ | ⟨ne, q⟩
            · rw [List.getElem?_set_self (by rw [R.len]; exact hi)] at z
              rcases hx with hx | ⟨d0, hx⟩
              · exact hx a h2.f (Option.some.inj (Option.some.inj z))
              · rw [hx] at q2; cases q2
            · rw [List.getElem?_set_ne (Ne.symm ne)] at z
              exact h2.s j d' q z
          · by_cases z : b = a
            · subst z; rw [upd_same] at hb; cases hb
            · rw [upd_ne z] at hb; exact hb
    cases s with
    | un => exact h.elim
    | io _ _ => exact h.elim
    | fz d =>
      obtain ⟨v, w, e, h1, h2⟩ := h
      exact ⟨v, w, e, R.setF h1 m, keep (.inr ⟨d, rfl⟩) h2⟩
    | ow d =>
      obtain ⟨a, w, e, h1, h2, h3⟩ := h
      refine ⟨.ref a, w, e, R.setO h1 h2 m, ?_⟩
      have q := keep (x := .ref a) (.inl fun b hb z => by cases z; rw [upd_same] at hb; cases hb) h3
      -- back to F
      have back : ∀ {ls : List Sl} {F1 F2 : Hp} {w : List V} {en : En} {σ : St}, (∀ b, F2 b = none → F1 b = none) → Sls K F2 A G H en σ ls w → Sls K F1 A G H en σ ls w := by
        intro ls
        induction ls with
        | nil => intro F1 F2 w en σ _ h; exact h
        | cons l r ih =>
          intro F1 F2 w en σ hf h
          cases l with
          | un => exact h.elim
          | io _ _ => exact h.elim
          | fz d =>
            obtain ⟨v, w', e, h1, h2⟩ := h
            exact ⟨v, w', e, h1, ih hf h2⟩
          | ow d =>
            obtain ⟨a, w', e, h1, h2, h3⟩ := h
            refine ⟨a, w', e, h1, ⟨hf a h2.f, h2.g, h2.n, h2.s⟩, ih (fun b hb => ?_) h3⟩
            by_cases z : b = a
            · subst z; rw [upd_same] at hb; cases hb
            · rw [upd_ne z] at hb ⊢; exact hf b hb
      exact back (fun b hb => by
        by_cases z : b = a
        · subst z; rw [upd_same] at hb; cases hb
        · rw [upd_ne z] at hb; exact hb) q
  · rw [if_neg m] at e'; cases e'
theorem sound_par {E : XE} {t : TA} {f : EM} {i j : Nat} (h : SoundM K mg E t f) : SoundS K mg E (tPar i j t) (sPar i j f) := by
  intro F A G en σ H R Dn k
  refine h F A G en σ H R _ (Then.imp (Then.bind k) (fun ls en1 k1 vs G1 H1 g1 R1 r1 => ?_) fun _ _ z => z.ke)
  match ls, k1, r1 with
  | [s1, s2], k1, r1 =>
    have k1' : Then (match setSl i s1 en1 with
      | some en => match setSl j s2 en with
        | some en => Rs.ok .nx en
        | none => .st
      | none => .st) (KoS K F A G Dn) (KeS K mg E F A G) := k1
    cases q1 : setSl i s1 en1 with
    | none => rw [q1] at k1'; exact k1'.elim
    | some en2 =>
      rw [q1] at k1'
      cases q2 : setSl j s2 en2 with
      | none => simp only [q2] at k1'; exact k1'.elim
      | some en3 =>
        simp only [q2] at k1'
        obtain ⟨v, w, rfl, R2, r2⟩ := sls_store R1 r1 q1
        obtain ⟨v2, w2, rfl, R3, r3⟩ := sls_store R2 r2 q2
        cases r3
        exact ⟨v, v2, rfl, k1' _ G1 H1 g1 R3⟩
theorem sound_par3 {E : XE} {t : TA} {f : EM} {i j l : Nat} (h : SoundM K mg E t f) (tp3 : TS) (ht : tp3 = fun D σ H => t σ H fun vs H1 => ∃ u v w, vs = [u, v, w] ∧ D.nx (((σ.set i (some u)).set j (some v)).set l (some w)) H1) : SoundS K mg E tp3 (sPar3 i j l f) := by
  subst ht
  intro F A G en σ H R Dn k
  refine h F A G en σ H R _ (Then.imp (Then.bind k) (fun ls en1 k1 vs G1 H1 g1 R1 r1 => ?_) fun _ _ z => z.ke)
  match ls, k1, r1 with
  | [s1, s2, s3], k1, r1 =>
    have k1' : Then (match setSl i s1 en1 with
      | some en => match setSl j s2 en with
        | some en => match setSl l s3 en with
          | some en => Rs.ok .nx en
          | none => .st
        | none => .st
      | none => .st) (KoS K F A G Dn) (KeS K mg E F A G) := k1
    cases q1 : setSl i s1 en1 with
    | none => rw [q1] at k1'; exact k1'.elim
    | some en2 =>
      rw [q1] at k1'
      cases q2 : setSl j s2 en2 with
      | none => simp only [q2] at k1'; exact k1'.elim
      | some en3 =>
        simp only [q2] at k1'
        cases q3 : setSl l s3 en3 with
        | none => simp only [q3] at k1'; exact k1'.elim
        | some en4 =>
          simp only [q3] at k1'
          obtain ⟨v, w, rfl, R2, r2⟩ := sls_store R1 r1 q1
          obtain ⟨v2, w2, rfl, R3, r3⟩ := sls_store R2 r2 q2
          obtain ⟨v3, w3, rfl, R4, r4⟩ := sls_store R3 r3 q3
          cases r4
          exact ⟨v, v2, v3, rfl, k1' _ G1 H1 g1 R4⟩

/-! ### loops -/
/-- what is walked: the items, one by one -/
structure Walk (K : PySem.W.Frag) (F : Hp) (A : List Addr) (G0 : Hp) (J : It) (ds : List D) : Prop where
  go : ∀ (i : Nat) G en σ H, i < ds.length → Grow F G0 G → Rp K F A G en σ H → J.go i H
  stop : ∀ G en σ H, Grow F G0 G → Rp K F A G en σ H → J.stop ds.length H
  yld : ∀ (i : Nat) d G en σ H, ds[i]? = some d → Grow F G0 G → Rp K F A G en σ H → ∀ x H', J.yld i H x H' → ∃ G', Grow H G G' ∧ (∀ a o, H a = some o → H' a = some o) ∧ Rp K F A G' en σ H' ∧ Rv K G' d x
abbrev EI := En → Rs (List D)
def KoI (K : PySem.W.Frag) (F : Hp) (A : List Addr) (G : Hp) (σ : St) (R : It → Hp → Prop) (ds : List D) (en' : En) : Prop :=
  ∀ J F' G' H', (∀ a o, F a = some o → F' a = some o) → Grow F G G' → Rp K F' A G' en' σ H' → Walk K F' A G' J ds → R J H'
def SoundI (K : PySem.W.Frag) (mg : Str → Option Value) (E : XE) (t : TI) (f : EI) : Prop := ∀ F A G en σ H, Rp K F A G en σ H → ∀ R : It → Hp → Prop,
  Then (f en) (KoI K F A G σ R) (KeE K mg E F A G σ) → t σ H R
structure SI (X : Cx) (E : XE) (tg e : Expr) (t : TI) (f : EI) : Prop where
  pi : PI X tg e t
  snd : SoundI X.K X.mg E t f
def loop (g : EG) (b : ES) : List D → ES
  | [], en => .ok .nx en
  | d :: ds, en => match g d en with
    | none => .st
    | some en => (b en).bind fun o en => match o with
      | .nx => loop g b ds en
      | .ct => loop g b ds en
      | .bk => .ok .nx en
      | .rt d => .ok (.rt d) en
      | .ro d => .ok (.ro d) en
def sFor (i : EI) (g : EG) (b : ES) : ES := fun en => (i en).bind fun ds en => loop g b ds en
theorem sound_for {E : XE} {vs : List Nat} {wi : TI} {tg : TG} {tb : TS} {fi : EI} {g : EG} {b : ES} (hi : SoundI K mg E wi fi) (hg : SoundG K vs tg g) (hb : SoundS K mg E tb b) : SoundS K mg E (tFor wi tg tb) (sFor fi g b) := by
  intro F A G en σ H R Dn k
  refine hi F A G en σ H R _ (Then.imp (Then.bind k) (fun ds en1 k1 J F1 G1 H1 hF g1 R1 w1 => ?_) fun _ _ z => z.ke)
  refine ⟨fun i m σ H => m = ds.length - i ∧ i ≤ ds.length ∧ ∃ G2 en2, Grow F1 G1 G2 ∧ Rp K F1 A G2 en2 σ H ∧ Then (loop g b (ds.drop i) en2) (KoS K F A G2 Dn) (KeS K mg E F A G2), ⟨ds.length, by simp, Nat.zero_le _, G1, en1, .refl _ _, R1, ?_⟩, ?_⟩
  · exact Then.imp (by simpa using k1) (fun _ _ z => KoS.grow g1 z) fun _ _ z => KeS.grow g1 z
  · rintro i m σ2 H2 ⟨rfl, hle, G2, en2, g2, R2, k2⟩
    by_cases hlt : i < ds.length
    · refine .inr ⟨w1.go i G2 en2 σ2 H2 hlt g2 R2, fun σ' H' => (ds.length - (i + 1) = ds.length - (i + 1)) ∧ i + 1 ≤ ds.length ∧ ∃ G2 en2, Grow F1 G1 G2 ∧ Rp K F1 A G2 en2 σ' H' ∧ Then (loop g b (ds.drop (i + 1)) en2) (KoS K F A G2 Dn) (KeS K mg E F A G2),
        fun σ' H' h => ⟨ds.length - (i + 1), by omega, rfl, h.2⟩, fun x H' hy => ?_⟩
      have hd : ds[i]? = some ds[i] := List.getElem?_eq_getElem hlt
      obtain ⟨G3, g3', _, R3, r3⟩ := w1.yld i _ G2 en2 σ2 H2 hd g2 R2 x H' hy
      have g3 := g3'.weakF R2.fx
      rw [List.drop_eq_getElem_cons hlt] at k2
      have k2' : Then (match g ds[i] en2 with
        | none => .st
        | some en => (b en).bind fun o en => match o with
          | .nx => loop g b (ds.drop (i + 1)) en
          | .ct => loop g b (ds.drop (i + 1)) en
          | .bk => .ok .nx en
          | .rt d => .ok (.rt d) en
          | .ro d => .ok (.ro d) en) (KoS K F A G2 Dn) (KeS K mg E F A G2) := k2
      cases q : g ds[i] en2 with
      | none => rw [q] at k2'; exact k2'.elim
      | some en3 =>
        rw [q] at k2'
        refine hg F1 A G3 en2 σ2 H' R3 _ x r3 en3 q _ fun σ4 G4 H4 _ g4 R4 => ?_
        have gg := g3.trans g4
        refine hb F1 A G4 en3 σ4 H4 R4 _ (Then.imp (Then.bind k2') (fun o en4 k4 => ?_) fun _ _ z c dx s G5 H5 g5 R5 x5 => z c dx s G5 H5 ((gg.trans g5).weakF hF) (R5.weakF hF) x5)
        cases o with
        | nx => exact fun σ5 G5 H5 g5 R5 => ⟨rfl, hlt, G5, en4, g2.trans (gg.trans g5), R5, Then.imp k4 (fun _ _ z => KoS.grow ((gg.trans g5).weakF hF) z) fun _ _ z => KeS.grow ((gg.trans g5).weakF hF) z⟩
        | ct => exact fun σ5 G5 H5 g5 R5 => ⟨rfl, hlt, G5, en4, g2.trans (gg.trans g5), R5, Then.imp k4 (fun _ _ z => KoS.grow ((gg.trans g5).weakF hF) z) fun _ _ z => KeS.grow ((gg.trans g5).weakF hF) z⟩
        | bk => exact fun σ5 G5 H5 g5 R5 => k4 σ5 G5 H5 ((gg.trans g5).weakF hF) (R5.weakF hF)
        | rt d => exact fun v σ5 G5 H5 g5 R5 r5 => k4 v σ5 G5 H5 ((gg.trans g5).weakF hF) (R5.weakF hF) r5
        | ro d =>
          refine fun a σ5 G5 H5 g5 R5 o5 n5 => k4 a σ5 G5 H5 ((gg.trans g5).weakF hF) (R5.weakF hF) o5 ⟨?_, n5.g, n5.n, n5.s⟩
          cases e : F a with
          | none => rfl
          | some o =>
            have := hF a o e
            rw [n5.f] at this
            cases this
    · obtain rfl : i = ds.length := by omega
      refine .inl ⟨w1.stop G2 en2 σ2 H2 g2 R2, ?_⟩
      rw [List.drop_eq_nil_of_le (Nat.le_refl _)] at k2
      exact k2 σ2 G2 H2 (.refl _ _) (R2.weakF hF)
end
end Fx

set_option Elab.async false
set_option linter.all false
set_option maxRecDepth 100000
namespace Fx
open PySem L2
section
variable {K : PySem.W.Frag} {mg : Str → Option Value} {F : Hp} {A : List Addr} {G H : Hp} {en : En} {σ : St}

/-! ### what a def does -/
inductive Fr where
  | st | ok (d : D) (outs : List D) | oko (d : D) (outs : List D) | er (x : Er) (outs : List D)
abbrev Fn := List D → Fr
/-- the arguments as they are handed in: true: one that may be changed -/
def Args (K : PySem.W.Frag) (G H : Hp) : List Bool → List Addr → List D → List V → Prop
  | [], A, ds, vs => A = [] ∧ ds = [] ∧ vs = []
  | false :: io, A, ds, vs => ∃ d ds' v vs', ds = d :: ds' ∧ vs = v :: vs' ∧ Rv K G d v ∧ Args K G H io A ds' vs'
  | true :: io, A, ds, vs => ∃ a A' d ds' vs', A = a :: A' ∧ ds = d :: ds' ∧ vs = .ref a :: vs' ∧ Own K G H d a ∧ G a = none ∧ Args K G H io A' ds' vs'
def Outs (K : PySem.W.Frag) (G H : Hp) : List Addr → List D → Prop
  | [], outs => outs = []
  | a :: A, outs => ∃ d r, outs = d :: r ∧ Own K G H d a ∧ G a = none ∧ Outs K G H A r
/-- what a def finds of others': all that is not frozen data, and what is locked -/
def cut (H : Hp) (A : List Addr) (G : Hp) : Hp := fun a => if a ∈ A then none else match G a, H a with
  | none, o => o
  | some _, some (.frz ob u) => some (.frz ob u)
  | some _, some (.tup xs) => some (.tup xs)
  | some _, _ => none
theorem cut_in {a : Addr} (h : a ∈ A) : cut H A G a = none := by unfold cut; rw [if_pos h]
theorem cut_out {a : Addr} (h : a ∉ A) (hg : G a = none) : cut H A G a = H a := by unfold cut; rw [if_neg h, hg]
theorem cut_frz {a : Addr} {ob : Obj} {u : HO} (h : a ∉ A) (hh : H a = some (.frz ob u)) : cut H A G a = some (.frz ob u) := by
  unfold cut
  rw [if_neg h, hh]
  cases G a <;> rfl
theorem cut_tup {a : Addr} {xs : List V} (h : a ∉ A) (hh : H a = some (.tup xs)) : cut H A G a = some (.tup xs) := by
  unfold cut
  rw [if_neg h, hh]
  cases G a <;> rfl
theorem cut_some {a : Addr} {o : HO} (h : cut H A G a = some o) : a ∉ A ∧ H a = some o ∧ (G a ≠ none → (∃ ob u, o = .frz ob u) ∨ ∃ xs, o = .tup xs) := by
  unfold cut at h
  by_cases z : a ∈ A
  · rw [if_pos z] at h; cases h
  · rw [if_neg z] at h
    cases e : G a with
    | none => rw [e] at h; exact ⟨z, h, fun q => absurd rfl q⟩
    | some g =>
      rw [e] at h
      cases e2 : H a with
      | none => rw [e2] at h; cases h
      | some w =>
        rw [e2] at h
        cases w <;> first
          | (cases h; done)
          | (cases h; exact ⟨z, rfl, fun _ => .inl ⟨_, _, rfl⟩⟩)
          | (cases h; exact ⟨z, rfl, fun _ => .inr ⟨_, rfl⟩⟩)
def spF (K : PySem.W.Frag) (mg : Str → Option Value) (io : List Bool) (f : Fn) : Sp := fun vs H Q E => ∃ A G ds, Args K G H io A ds vs ∧ Le G H ∧ A.Nodup ∧ match f ds with
  | .st => False
  | .ok d outs => ∀ v G' H', Grow (cut H A G) G G' → Le G' H' → (∀ a o, cut H A G a = some o → H' a = some o) → Outs K G' H' A outs → Rv K G' d v → Q v H'
  | .oko d outs => ∀ a G' H', Grow (cut H A G) G G' → Le G' H' → (∀ a o, cut H A G a = some o → H' a = some o) → Outs K G' H' A outs → Own K G' H' d a → cut H A G a = none → G' a = none → a ∉ A → Q (.ref a) H'
  | .er x outs => ∀ c dx G' H', Grow (cut H A G) G G' → Le G' H' → (∀ a o, cut H A G a = some o → H' a = some o) → Outs K G' H' A outs → Xr K mg G' H' x c dx → E c dx H'
theorem Args.length : ∀ {io : List Bool} {A : List Addr} {ds : List D} {vs : List V}, Args K G H io A ds vs → vs.length = io.length ∧ ds.length = io.length
  | [], _, _, _, ⟨_, h, h'⟩ => by rw [h, h']; exact ⟨rfl, rfl⟩
  | false :: io, _, _, _, ⟨d, ds', v, vs', e, e', _, h⟩ => by rw [e, e']; exact ⟨congrArg (· + 1) h.length.1, congrArg (· + 1) h.length.2⟩
  | true :: io, _, _, _, ⟨a, A', d, ds', vs', _, e, e', _, _, h⟩ => by rw [e, e']; exact ⟨congrArg (· + 1) h.length.1, congrArg (· + 1) h.length.2⟩

/-! from a body -/
/-- the names at the entry; k: how many were handed in to be changed ahead -/
def enOf : List Bool → List D → Nat → En
  | false :: io, d :: ds, k => .fz d :: enOf io ds k
  | true :: io, d :: ds, k => .io k d :: enOf io ds (k + 1)
  | _, _, _ => []
/-- what the changed ones hold at the end -/
def outsOf : List Bool → Nat → En → Option (List D)
  | [], _, _ => some []
  | false :: io, k, _ :: en => outsOf io k en
  | true :: io, k, .io q d :: en => if q = k then match outsOf io (k + 1) en with
    | some r => some (d :: r)
    | none => none
    else none
  | _, _, _ => none
def fnOf (io : List Bool) (n : Nat) (b : ES) : Fn := fun ds => match b (enOf io ds 0 ++ List.replicate (n - io.length) .un) with
  | .st => .st
  | .ok .nx en => match outsOf io 0 en with
    | some o => .ok .none o
    | none => .st
  | .ok (.rt d) en => match outsOf io 0 en with
    | some o => .ok d o
    | none => .st
  | .ok (.ro d) en => match outsOf io 0 en with
    | some o => .oko d o
    | none => .st
  | .ok _ _ => .st
  | .er x en => match outsOf io 0 en with
    | some o => .er x o
    | none => .st
theorem enOf_get {A : List Addr} : ∀ {io : List Bool} {A' : List Addr} {ds : List D} {vs : List V} {k : Nat}, Args K G H io A' ds vs → (∀ j a, A'[j]? = some a → A[k + j]? = some a) →
    (enOf io ds k).length = io.length ∧ (∀ (i : Nat) s, (enOf io ds k)[i]? = some s → match s with
      | .fz d => ∃ v, vs[i]? = some v ∧ Rv K G d v
      | .io q d => ∃ a, vs[i]? = some (.ref a) ∧ A[q]? = some a ∧ k ≤ q ∧ Own K G H d a ∧ G a = none
      | _ => False) ∧ (∀ (i j q : Nat) d d', (enOf io ds k)[i]? = some (.io q d) → (enOf io ds k)[j]? = some (.io q d') → i = j)
  | [], _, _, _, k, ⟨_, e, e'⟩, _ => by
    subst e
    subst e'
    exact ⟨rfl, (fun i s h => by simp [enOf] at h), (fun i j q d d' h => by simp [enOf] at h)⟩
  | false :: io, A', _, _, k, ⟨d, ds', v, vs', e, e', r, h⟩, hA => by
    subst e
    subst e'
    obtain ⟨h1, h2, h3⟩ := enOf_get (A := A) (k := k) h hA
    refine ⟨congrArg (· + 1) h1, fun i s hs => ?_, fun i j q d1 d2 hi hj => ?_⟩
    · cases i with
      | zero => cases hs; exact ⟨v, rfl, r⟩
      | succ i => exact h2 i s hs
    · cases i with
      | zero => cases hi
      | succ i =>
        cases j with
        | zero => cases hj
        | succ j => rw [h3 i j q d1 d2 hi hj]
  | true :: io, _, _, _, k, ⟨a, A', d, ds', vs', e0, e, e', o, g, h⟩, hA => by
    subst e0
    subst e
    subst e'
    obtain ⟨h1, h2, h3⟩ := enOf_get (A := A) (k := k + 1) h (fun j b q => by rw [Nat.add_assoc, Nat.add_comm 1 j]; exact hA (j + 1) b q)
    have big : ∀ (i q : Nat) d, (enOf io ds' (k + 1))[i]? = some (.io q d) → k + 1 ≤ q := fun i q d hi => by
      obtain ⟨_, _, _, z, _⟩ := h2 i _ hi
      exact z
    refine ⟨congrArg (· + 1) h1, fun i s hs => ?_, fun i j q d1 d2 hi hj => ?_⟩
    · cases i with
      | zero => cases hs; exact ⟨a, rfl, hA 0 a rfl, Nat.le_refl _, o, g⟩
      | succ i =>
        have q := h2 i s hs
        cases s with
        | fz d => exact q
        | io q' d =>
          obtain ⟨b, q1, q2, q3, q4⟩ := q
          exact ⟨b, q1, q2, Nat.le_of_succ_le q3, q4⟩
        | un => exact q
        | ow d => exact q
    · cases i with
      | zero =>
        cases j with
        | zero => rfl
        | succ j =>
          cases hi
          have := big j _ _ hj
          omega
      | succ i =>
        cases j with
        | zero =>
          cases hj
          have := big i _ _ hi
          omega
        | succ j => rw [h3 i j q d1 d2 hi hj]
theorem Args.addr : ∀ {io : List Bool} {A : List Addr} {ds : List D} {vs : List V}, Args K G H io A ds vs → ∀ a ∈ A, (∃ d, Own K G H d a) ∧ G a = none
  | [], _, _, _, ⟨e, _, _⟩, a, h => by rw [e] at h; cases h
  | false :: io, _, _, _, ⟨d, ds', v, vs', e, e', _, h⟩, a, ha => h.addr a ha
  | true :: io, _, _, _, ⟨b, A', d, ds', vs', e0, e, e', o, g, h⟩, a, ha => by
    rw [e0] at ha
    rcases List.mem_cons.mp ha with rfl | ha
    · exact ⟨⟨d, o⟩, g⟩
    · exact h.addr a ha
/-- at the entry -/
theorem Rp.entry {io : List Bool} {ds : List D} {vs : List V} {n : Nat} (a : Args K G H io A ds vs) (l : Le G H) (nd : A.Nodup) {N : List Str} (hN : N.length = n) (hn : io.length ≤ n) :
    Rp K (cut H A G) A G (enOf io ds 0 ++ List.replicate (n - io.length) .un) (L2.start N vs) H := by
  obtain ⟨h1, h2, h3⟩ := enOf_get (A := A) (k := 0) a (fun j b q => by rw [Nat.zero_add]; exact q)
  have hv : vs.length = io.length := a.length.1
  have spl : ∀ {i : Nat} {s : Sl}, (enOf io ds 0 ++ List.replicate (n - io.length) .un)[i]? = some s → (s = .un) ∨ ((enOf io ds 0)[i]? = some s ∧ i < vs.length) := fun {i s} e => by
    by_cases hi : i < io.length
    · rw [List.getElem?_append_left (by omega)] at e
      exact .inr ⟨e, by omega⟩
    · rw [List.getElem?_append_right (by omega), List.getElem?_replicate] at e
      split at e
      · exact .inl (Option.some.inj e).symm
      · cases e
  have st : ∀ {i : Nat} {v : V}, i < vs.length → vs[i]? = some v → (L2.start N vs)[i]? = some (some v) := fun {i v} hi e => by
    unfold L2.start
    rw [List.getElem?_append_left (by rw [List.length_map]; exact hi), List.getElem?_map, e]
    rfl
  refine ⟨fun b o e => (cut_some e).2.1, l, ?_, fun i d e => ?_, fun i d e => ?_, fun i k d e => ?_, fun i j d d' b e => ?_, fun i j k d d' e e' => ?_, nd, fun b hb => ?_, fun b o e => (cut_some e).2.2⟩
  · unfold L2.start
    rw [List.length_append, List.length_append, List.length_map, List.length_replicate, List.length_replicate, h1, hN, hv]
  · rcases spl e with z | ⟨z, hi⟩
    · cases z
    · obtain ⟨v, q1, q2⟩ := h2 i _ z
      exact ⟨v, st hi q1, q2⟩
  · rcases spl e with z | ⟨z, hi⟩
    · cases z
    · exact (h2 i _ z).elim
  · rcases spl e with z | ⟨z, hi⟩
    · cases z
    · obtain ⟨b, q1, q2, _, q3, q4⟩ := h2 i _ z
      exact ⟨b, st hi q1, q2, q3, cut_in (List.mem_of_getElem? q2), q4⟩
  · rcases spl e with z | ⟨z, hi⟩
    · cases z
    · exact (h2 i _ z).elim
  · rcases spl e with z | ⟨z, _⟩
    · cases z
    · rcases spl e' with z' | ⟨z', _⟩
      · cases z'
      · exact h3 i j k d d' z z'
  · obtain ⟨⟨d, o⟩, _⟩ := a.addr b hb
    obtain ⟨u, hu, _⟩ := o.some
    rw [hu]
    exact fun z => nomatch z
theorem outsOf_ok {G' H' : Hp} {A : List Addr} : ∀ {io : List Bool} {A' : List Addr} {ds : List D} {vs : List V} {k : Nat} {en : En} {outs : List D}, Args K G H io A' ds vs → (∀ j a, A'[j]? = some a → A[k + j]? = some a) → outsOf io k en = some outs →
    (∀ (i : Nat) q d, en[i]? = some (.io q d) → ∃ a, A[q]? = some a ∧ Own K G' H' d a ∧ G' a = none) → Outs K G' H' A' outs
  | [], _, _, _, k, en, outs, ⟨e, _, _⟩, _, h, _ => by
    subst e
    cases h
    exact rfl
  | false :: io, A', _, _, k, [], outs, _, _, h, _ => by cases h
  | false :: io, A', _, _, k, s :: en, outs, ⟨d, ds', v, vs', e, e', r, a⟩, hA, h, hi => outsOf_ok (A := A) (k := k) (en := en) a hA h fun i q d z => hi (i + 1) q d z
  | true :: io, _, _, _, k, [], outs, _, _, h, _ => by cases h
  | true :: io, _, _, _, k, .un :: en, outs, _, _, h, _ => by cases h
  | true :: io, _, _, _, k, .fz _ :: en, outs, _, _, h, _ => by cases h
  | true :: io, _, _, _, k, .ow _ :: en, outs, _, _, h, _ => by cases h
  | true :: io, _, _, _, k, .io q d :: en, outs, ⟨a, A', d0, ds', vs', e0, e, e', o, g, r⟩, hA, h, hi => by
    subst e0
    have h' : (if q = k then match outsOf io (k + 1) en with
      | some r => some (d :: r)
      | none => none
      else none) = some outs := h
    by_cases z : q = k
    · rw [if_pos z] at h'
      subst z
      cases e3 : outsOf io (q + 1) en with
      | none => rw [e3] at h'; cases h'
      | some r' =>
        rw [e3] at h'
        cases h'
        obtain ⟨b, q1, q2, q3⟩ := hi 0 q d rfl
        have e4 : A[q]? = some a := hA 0 a rfl
        rw [e4] at q1
        cases q1
        exact ⟨d, r', rfl, q2, q3, outsOf_ok (A := A) (k := q + 1) (en := en) r (fun j b z => by rw [Nat.add_assoc, Nat.add_comm 1 j]; exact hA (j + 1) b z) e3 fun i q d z => hi (i + 1) q d z⟩
    · rw [if_neg z] at h'; cases h'
/-- what a body's end gives -/
theorem body_ok {E' : XK} {t : TS} {b : ES} {io : List Bool} {n : Nat} {N : List Str} {vs : List V} {Q : VK} (hb : SoundS K mg (fun _ => E') t b) (hN : N.length = n) (hn : io.length ≤ n)
    (h : spF K mg io (fnOf io n b) vs H Q E') : t { nx := fun _ H' => Q .non H', rt := Q } (L2.start N vs) H := by
  obtain ⟨A, G, ds, a, l, nd, h⟩ := h
  have R := Rp.entry (n := n) a l nd hN hn
  have ends : ∀ {en : En} {outs : List D} {G' H' : Hp} {σ' : St}, outsOf io 0 en = some outs → Rp K (cut H A G) A G' en σ' H' → Outs K G' H' A outs := fun {en outs G' H' σ'} e R' =>
    outsOf_ok (A := A) (k := 0) a (fun j b z => by rw [Nat.zero_add]; exact z) e fun i q d z => by
      obtain ⟨b, _, q1, q2, _, q3⟩ := R'.io i q d z
      exact ⟨b, q1, q2, q3⟩
  refine hb (cut H A G) A G _ _ H R _ ?_
  have h' : (match (match b (enOf io ds 0 ++ List.replicate (n - io.length) .un) with
    | .st => Fr.st
    | .ok .nx en => match outsOf io 0 en with
      | some o => .ok .none o
      | none => .st
    | .ok (.rt d) en => match outsOf io 0 en with
      | some o => .ok d o
      | none => .st
    | .ok (.ro d) en => match outsOf io 0 en with
      | some o => .oko d o
      | none => .st
    | .ok _ _ => .st
    | .er x en => match outsOf io 0 en with
      | some o => .er x o
      | none => .st) with
    | .st => False
    | .ok d outs => ∀ v G' H', Grow (cut H A G) G G' → Le G' H' → (∀ a o, cut H A G a = some o → H' a = some o) → Outs K G' H' A outs → Rv K G' d v → Q v H'
    | .oko d outs => ∀ a G' H', Grow (cut H A G) G G' → Le G' H' → (∀ a o, cut H A G a = some o → H' a = some o) → Outs K G' H' A outs → Own K G' H' d a → cut H A G a = none → G' a = none → a ∉ A → Q (.ref a) H'
    | .er x outs => ∀ c dx G' H', Grow (cut H A G) G G' → Le G' H' → (∀ a o, cut H A G a = some o → H' a = some o) → Outs K G' H' A outs → Xr K mg G' H' x c dx → E' c dx H') := h
  generalize b (enOf io ds 0 ++ List.replicate (n - io.length) .un) = r at h' ⊢
  cases r with
  | st => exact h'
  | er x en =>
    simp only at h'
    cases e : outsOf io 0 en with
    | none => simp only [e] at h'
    | some o =>
      simp only [e] at h'
      exact fun c dx σ' G' H' g' R' x' => h' c dx G' H' g' R'.gx R'.fx (ends e R') x'
  | ok o en =>
    cases o with
    | bk => exact h'.elim
    | ct => exact h'.elim
    | nx =>
      simp only at h'
      cases e : outsOf io 0 en with
      | none => simp only [e] at h'
      | some o =>
        simp only [e] at h'
        exact fun σ' G' H' g' R' => h' .non G' H' g' R'.gx R'.fx (ends e R') rfl
    | rt d =>
      simp only at h'
      cases e : outsOf io 0 en with
      | none => simp only [e] at h'
      | some o =>
        simp only [e] at h'
        exact fun v σ' G' H' g' R' r' => h' v G' H' g' R'.gx R'.fx (ends e R') r'
    | ro d =>
      simp only at h'
      cases e : outsOf io 0 en with
      | none => simp only [e] at h'
      | some o =>
        simp only [e] at h'
        exact fun a σ' G' H' g' R' o' n' => h' a G' H' g' R'.gx R'.fx (ends e R') o' n'.f n'.g n'.n

/-- a def that raises nothing -/
def noer (f : Fn) : Fn := fun ds => match f ds with
  | .er _ _ => .st
  | .st => .st
  | .ok d o => .ok d o
  | .oko d o => .oko d o
theorem noer_ne {f : Fn} (h : ∃ ds x o, noer f ds = .er x o) : False := by
  obtain ⟨ds, x, o, e⟩ := h
  unfold noer at e
  cases q : f ds <;> rw [q] at e <;> cases e
/-! a call -/
/-- the arguments of a call: those that may be changed must be names' own things -/
def prep : List Bool → List Lc → En → Rs (List D)
  | [], [], en => .ok [] en
  | false :: io, l :: ls, en => (frz l en).bind fun d en => (prep io ls en).bind fun ds en => .ok (d :: ds) en
  | true :: io, .sl i :: ls, en => (prep io ls en).bind fun ds en => match rd (.sl i) en with
    | some d => .ok (d :: ds) en
    | none => .st
  | _, _, _ => .st
def iosOf : List Bool → List Lc → List Nat
  | true :: io, .sl i :: ls => i :: iosOf io ls
  | _ :: io, _ :: ls => iosOf io ls
  | _, _ => []
/-- whether it is an own thing of the name -/
def owns (en : En) (i : Nat) : Bool := match en[i]? with
  | some (.ow _) => true
  | some (.io _ _) => true
  | _ => false
def puts : List Nat → List D → En → Option En
  | [], [], en => some en
  | i :: is, d :: ds, en => match put en i d with
    | some en => puts is ds en
    | none => none
  | _, _, _ => none
def eCall (io : List Bool) (f : Fn) (a : EA) : EE := fun en => (a en).bind fun ls en => (prep io ls en).bind fun ds en =>
  if (iosOf io ls).all (owns en) = true ∧ (iosOf io ls).Nodup then match f ds with
    | .st => .st
    | .ok d outs => match puts (iosOf io ls) outs en with
      | some en => .ok (.fz d) en
      | none => .st
    | .oko d outs => match puts (iosOf io ls) outs en with
      | some en => .ok (.fz d) en
      | none => .st
    | .er x outs => match puts (iosOf io ls) outs en with
      | some en => .er x en
      | none => .st
  else .st

def ArgsP (K : PySem.W.Frag) (G : Hp) (en : En) (σ : St) : List Bool → List Lc → List D → List V → Prop
  | [], ls, ds, vs => ls = [] ∧ ds = [] ∧ vs = []
  | false :: io, ls, ds, vs => ∃ l ls' d ds' v vs', ls = l :: ls' ∧ ds = d :: ds' ∧ vs = v :: vs' ∧ Rv K G d v ∧ ArgsP K G en σ io ls' ds' vs'
  | true :: io, ls, ds, vs => ∃ i ls' d ds' v vs', ls = .sl i :: ls' ∧ ds = d :: ds' ∧ vs = v :: vs' ∧ rd (.sl i) en = some d ∧ σ[i]? = some (some v) ∧ ArgsP K G en σ io ls' ds' vs'
theorem ArgsP.grow {G' : Hp} (l : Le G G') : ∀ {io : List Bool} {ls : List Lc} {ds : List D} {vs : List V}, ArgsP K G en σ io ls ds vs → ArgsP K G' en σ io ls ds vs
  | [], _, _, _, h => h
  | false :: io, _, _, _, ⟨l0, ls', d, ds', v, vs', e1, e2, e3, r, h⟩ => ⟨l0, ls', d, ds', v, vs', e1, e2, e3, Rv.le l d v r, h.grow l⟩
  | true :: io, _, _, _, ⟨i, ls', d, ds', v, vs', e1, e2, e3, r, q, h⟩ => ⟨i, ls', d, ds', v, vs', e1, e2, e3, r, q, h.grow l⟩
theorem prep_ok : ∀ {io : List Bool} {ls : List Lc} {G : Hp} {en : En} (R : Rp K F A G en σ H) {vs : List V} (r : Rls K G σ ls vs) {ds : List D} {en' : En} (e : prep io ls en = .ok ds en'),
    ∃ G', Grow F G G' ∧ Rp K F A G' en' σ H ∧ ArgsP K G' en' σ io ls ds vs
  | [], [], G, en, R, vs, r, ds, en', e => by
    cases e
    cases r
    exact ⟨G, .refl _ _, R, rfl, rfl, rfl⟩
  | [], l :: ls, G, en, R, vs, r, ds, en', e => by cases e
  | false :: io, [], G, en, R, vs, r, ds, en', e => by cases e
  | true :: io, [], G, en, R, vs, r, ds, en', e => by cases e
  | true :: io, .fz _ :: ls, G, en, R, vs, r, ds, en', e => by cases e
  | false :: io, l :: ls, G, en, R, vs, ⟨v, w, e0, r1, r2⟩, ds, en', e => by
    have e : ((frz l en).bind fun d en => (prep io ls en).bind fun ds en => Rs.ok (d :: ds) en) = .ok ds en' := e
    rcases frz_cases l en with q | ⟨d, en1, q⟩
    · rw [q] at e; cases e
    · rw [q] at e
      obtain ⟨G1, g1, R1, q1⟩ := frz_ok R r1 q
      have e : ((prep io ls en1).bind fun ds en => Rs.ok (d :: ds) en) = .ok ds en' := e
      cases q2 : prep io ls en1 with
      | st => rw [q2] at e; cases e
      | er x en2 => rw [q2] at e; cases e
      | ok ds2 en2 =>
        rw [q2] at e
        cases e
        obtain ⟨G2, g2, R2, p2⟩ := prep_ok R1 (r2.grow g1) q2
        exact ⟨G2, g1.trans g2, R2, l, ls, d, ds2, v, w, rfl, rfl, e0, Rv.le g2.toLe d v q1, p2⟩
  | true :: io, .sl i :: ls, G, en, R, vs, ⟨v, w, e0, r1, r2⟩, ds, en', e => by
    have e : ((prep io ls en).bind fun ds en => match rd (.sl i) en with
      | some d => Rs.ok (d :: ds) en
      | none => .st) = .ok ds en' := e
    cases q2 : prep io ls en with
    | st => rw [q2] at e; cases e
    | er x en2 => rw [q2] at e; cases e
    | ok ds2 en2 =>
      rw [q2] at e
      have e : (match rd (.sl i) en2 with
        | some d => Rs.ok (d :: ds2) en2
        | none => .st) = .ok ds en' := e
      cases q3 : rd (.sl i) en2 with
      | none => rw [q3] at e; cases e
      | some d =>
        rw [q3] at e
        cases e
        obtain ⟨G2, g2, R2, p2⟩ := prep_ok R r2 q2
        exact ⟨G2, g2, R2, i, ls, d, ds2, v, w, rfl, rfl, e0, q3, r1, p2⟩
/-- the addresses of own things -/
def Ads (σ : St) (is : List Nat) (B : List Addr) : Prop := B.length = is.length ∧ ∀ (p i : Nat), is[p]? = some i → ∃ a, B[p]? = some a ∧ σ[i]? = some (some (.ref a))
theorem owns_at (R : Rp K F A G en σ H) {i : Nat} (h : owns en i = true) {a : Addr} (ha : σ[i]? = some (some (.ref a))) : (∃ d, rd (.sl i) en = some d ∧ Own K G H d a) ∧ F a = none ∧ G a = none ∧
    ((∃ d, en[i]? = some (.ow d) ∧ a ∉ A) ∨ ∃ k d, en[i]? = some (.io k d) ∧ A[k]? = some a) := by
  unfold owns at h
  cases e : en[i]? with
  | none => rw [e] at h; cases h
  | some s =>
    rw [e] at h
    cases s with
    | un => cases h
    | fz _ => cases h
    | ow d =>
      obtain ⟨b, h1, h2, h3, h4, h5⟩ := R.ow i d e
      rw [h1] at ha
      cases ha
      exact ⟨⟨d, by simp only [rd, e], h2⟩, h3, h4, .inl ⟨d, rfl, h5⟩⟩
    | io k d =>
      obtain ⟨b, h1, hk, h2, h3, h4⟩ := R.io i k d e
      rw [h1] at ha
      cases ha
      exact ⟨⟨d, by simp only [rd, e], h2⟩, h3, h4, .inr ⟨k, d, rfl, hk⟩⟩
/-- two names' own things differ -/
theorem owns_inj (R : Rp K F A G en σ H) {i j : Nat} (hi : owns en i = true) (hj : owns en j = true) {a : Addr} (h1 : σ[i]? = some (some (.ref a))) (h2 : σ[j]? = some (some (.ref a))) : i = j := by
  obtain ⟨_, _, _, q1⟩ := owns_at R hi h1
  obtain ⟨_, _, _, q2⟩ := owns_at R hj h2
  rcases q1 with ⟨d, e1, n1⟩ | ⟨k, d, e1, k1⟩
  · rcases q2 with ⟨d', e2, n2⟩ | ⟨k', d', e2, k2⟩
    · exact R.dj i j d d' a e1 e2 h1 h2
    · exact absurd (List.mem_of_getElem? k2) n1
  · rcases q2 with ⟨d', e2, n2⟩ | ⟨k', d', e2, k2⟩
    · exact absurd (List.mem_of_getElem? k1) n2
    · have ek : k = k' := (List.getElem?_inj (List.getElem?_eq_some_iff.mp k1).1 R.nd).mp (k1.trans k2.symm)
      subst ek
      exact R.ij i j k d d' e1 e2
theorem args_of (R : Rp K F A G en σ H) : ∀ {io : List Bool} {ls : List Lc} {ds : List D} {vs : List V}, ArgsP K G en σ io ls ds vs → (∀ i ∈ iosOf io ls, owns en i = true) →
    ∃ B, Args K G H io B ds vs ∧ Ads σ (iosOf io ls) B
  | [], _, _, _, ⟨e1, e2, e3⟩, _ => by
    subst e1
    subst e2
    subst e3
    exact ⟨[], ⟨rfl, rfl, rfl⟩, rfl, fun p i h => by cases h⟩
  | false :: io, _, _, _, ⟨l, ls', d, ds', v, vs', e1, e2, e3, r, h⟩, ho => by
    subst e1
    obtain ⟨B, a, hb⟩ := args_of R h (fun i hi => ho i (by cases l <;> exact hi))
    exact ⟨B, ⟨d, ds', v, vs', e2, e3, r, a⟩, by cases l <;> exact hb⟩
  | true :: io, _, _, _, ⟨i, ls', d, ds', v, vs', e1, e2, e3, r, q, h⟩, ho => by
    subst e1
    obtain ⟨B, a, hb1, hb2⟩ := args_of R h (fun j hj => ho j (List.mem_cons_of_mem _ hj))
    have oi := ho i List.mem_cons_self
    have key : ∃ b, v = .ref b ∧ Own K G H d b ∧ G b = none := by
      have r' := r
      unfold owns at oi
      cases e : en[i]? with
      | none => rw [e] at oi; cases oi
      | some s =>
        rw [e] at oi
        simp only [rd, e] at r'
        cases s with
        | un => cases oi
        | fz _ => cases oi
        | ow d0 =>
          cases r'
          obtain ⟨b, h1, h2, h3, h4, h5⟩ := R.ow i _ e
          rw [q] at h1
          cases h1
          exact ⟨b, rfl, h2, h4⟩
        | io k d0 =>
          cases r'
          obtain ⟨b, h1, hk, h2, h3, h4⟩ := R.io i k _ e
          rw [q] at h1
          cases h1
          exact ⟨b, rfl, h2, h4⟩
    obtain ⟨b, rfl, o, g⟩ := key
    refine ⟨b :: B, ⟨b, B, d, ds', vs', rfl, e2, e3, o, g, a⟩, congrArg (· + 1) hb1, fun p j hp => ?_⟩
    cases p with
    | zero => cases hp; exact ⟨b, rfl, q⟩
    | succ p => exact hb2 p j hp
theorem ads_nodup (R : Rp K F A G en σ H) {is : List Nat} {B : List Addr} (h : Ads σ is B) (ho : ∀ i ∈ is, owns en i = true) (nd : is.Nodup) : B.Nodup := by
  rw [List.nodup_iff_pairwise_ne, List.pairwise_iff_getElem]
  intro p q hp hq hpq e
  have h1 : p < is.length := by rw [← h.1]; exact hp
  have h2 : q < is.length := by rw [← h.1]; exact hq
  obtain ⟨a, a1, a2⟩ := h.2 p is[p] (List.getElem?_eq_getElem h1)
  obtain ⟨b, b1, b2⟩ := h.2 q is[q] (List.getElem?_eq_getElem h2)
  rw [List.getElem?_eq_getElem hp] at a1
  rw [List.getElem?_eq_getElem hq] at b1
  cases a1
  cases b1
  rw [← e] at b2
  have z := owns_inj R (ho _ (List.getElem_mem h1)) (ho _ (List.getElem_mem h2)) a2 b2
  have := (List.getElem_inj nd).mp z
  omega
theorem put_get {i : Nat} {d : D} {en' : En} (h : put en i d = some en') : en'.length = en.length ∧ ∀ (j : Nat) s, en'[j]? = some s → (j = i ∧ ((s = .ow d ∧ ∃ d0, en[j]? = some (.ow d0)) ∨ ∃ k d0, s = .io k d ∧ en[j]? = some (.io k d0))) ∨ (j ≠ i ∧ en[j]? = some s) := by
  unfold put at h
  cases e : en[i]? with
  | none => rw [e] at h; cases h
  | some s0 =>
    rw [e] at h
    cases s0 with
    | un => cases h
    | fz _ => cases h
    | ow d0 =>
      cases h
      refine ⟨List.length_set, fun j s hs => ?_⟩
      rcases get_set hs with ⟨rfl, e2, _⟩ | ⟨ne, e2⟩
      · exact .inl ⟨rfl, .inl ⟨e2, d0, e⟩⟩
      · exact .inr ⟨ne, e2⟩
    | io k d0 =>
      cases h
      refine ⟨List.length_set, fun j s hs => ?_⟩
      rcases get_set hs with ⟨rfl, e2, _⟩ | ⟨ne, e2⟩
      · exact .inl ⟨rfl, .inr ⟨k, d0, e2, e⟩⟩
      · exact .inr ⟨ne, e2⟩
theorem puts_get : ∀ {is : List Nat} {ds : List D} {en en' : En}, puts is ds en = some en' → is.Nodup → en'.length = en.length ∧ ∀ (j : Nat) s, en'[j]? = some s →
    (∃ (p : Nat) (d : D), is[p]? = some j ∧ ds[p]? = some d ∧ ((s = .ow d ∧ ∃ d0, en[j]? = some (.ow d0)) ∨ ∃ k d0, s = .io k d ∧ en[j]? = some (.io k d0))) ∨ (j ∉ is ∧ en[j]? = some s)
  | [], [], en, en', h, _ => by
    cases h
    exact ⟨rfl, fun j s hs => .inr ⟨(fun z => nomatch z), hs⟩⟩
  | [], d :: ds, en, en', h, _ => by cases h
  | i :: is, [], en, en', h, _ => by cases h
  | i :: is, d :: ds, en, en', h, nd => by
    have h' : (match put en i d with
      | some en => puts is ds en
      | none => none) = some en' := h
    cases e : put en i d with
    | none => rw [e] at h'; cases h'
    | some en1 =>
      rw [e] at h'
      obtain ⟨l1, q1⟩ := put_get e
      obtain ⟨l2, q2⟩ := puts_get h' (List.nodup_cons.mp nd).2
      refine ⟨l2.trans l1, fun j s hs => ?_⟩
      rcases q2 j s hs with ⟨p, d', hp, hd, h⟩ | ⟨nj, h⟩
      · have nji : j ≠ i := fun z => (List.nodup_cons.mp nd).1 (z ▸ List.mem_of_getElem? hp)
        have back : ∀ {s0 : Sl}, en1[j]? = some s0 → en[j]? = some s0 := fun {s0} h0 => by
          rcases q1 j s0 h0 with ⟨z, _⟩ | ⟨_, z⟩
          · exact absurd z nji
          · exact z
        refine .inl ⟨p + 1, d', hp, hd, ?_⟩
        rcases h with ⟨z, d0, h0⟩ | ⟨k, d0, z, h0⟩
        · exact .inl ⟨z, d0, back h0⟩
        · exact .inr ⟨k, d0, z, back h0⟩
      · rcases q1 j s h with ⟨z, hz⟩ | ⟨ne, hz⟩
        · exact .inl ⟨0, d, by rw [z]; rfl, rfl, hz⟩
        · exact .inr ⟨(fun z => (List.mem_cons.mp z).elim ne nj), hz⟩
theorem outs_get {G' H' : Hp} : ∀ {B : List Addr} {outs : List D}, Outs K G' H' B outs → ∀ (p : Nat) a, B[p]? = some a → ∃ d, outs[p]? = some d ∧ Own K G' H' d a ∧ G' a = none
  | [], _, _, p, a, h => by cases h
  | b :: B, _, ⟨d, r, e, o, g, h⟩, 0, a, ha => by cases ha; exact ⟨d, by rw [e]; rfl, o, g⟩
  | b :: B, _, ⟨d, r, e, o, g, h⟩, p + 1, a, ha => by
    obtain ⟨d', q⟩ := outs_get h p a ha
    exact ⟨d', by rw [e]; exact q⟩
/-- behind a call -/
theorem Rp.after (R : Rp K F A G en σ H) {is : List Nat} {B : List Addr} (hB : Ads σ is B) (ho : ∀ i ∈ is, owns en i = true) (nd : is.Nodup) {G' H' : Hp} (g : Grow (cut H B G) G G') (l : Le G' H')
    (same : ∀ a o, cut H B G a = some o → H' a = some o) {outs : List D} (o : Outs K G' H' B outs) {en' : En} (hp : puts is outs en = some en') : Grow F G G' ∧ Rp K F A G' en' σ H' := by
  obtain ⟨hl, hg⟩ := puts_get hp nd
  have bIn : ∀ a ∈ B, ∃ (p i : Nat), B[p]? = some a ∧ is[p]? = some i ∧ σ[i]? = some (some (.ref a)) := fun a ha => by
    obtain ⟨p, hp, e⟩ := List.mem_iff_getElem.mp ha
    have h1 : p < is.length := by rw [← hB.1]; exact hp
    obtain ⟨b, b1, b2⟩ := hB.2 p is[p] (List.getElem?_eq_getElem h1)
    rw [List.getElem?_eq_getElem hp] at b1
    cases b1
    rw [e] at b2
    exact ⟨p, is[p], by rw [List.getElem?_eq_getElem hp, e], List.getElem?_eq_getElem h1, b2⟩
  have bF : ∀ a ∈ B, F a = none := fun a ha => by
    obtain ⟨p, i, _, h2, h3⟩ := bIn a ha
    exact (owns_at R (ho i (List.mem_of_getElem? h2)) h3).2.1
  have outB : ∀ a, F a ≠ none → a ∉ B := fun a h hb => h (bF a hb)
  have keepH : ∀ {a : Addr} {u : HO}, a ∉ B → G a = none → H a = some u → H' a = some u := fun {a u} h1 h0 h2 => same a u (by rw [cut_out h1 h0]; exact h2)
  have keepG : ∀ {a : Addr} {u : HO}, a ∉ B → H a = some u → Cn u = true → G a = none → G' a = none := fun {a u} h1 h2 hc h3 => by
    cases e : G' a with
    | none => rfl
    | some w =>
      rcases g.nw a h3 (by rw [e]; exact fun z => nomatch z) with this | ⟨xs, this⟩
      · rw [cut_out h1 h3, h2] at this
        cases this
      · have := l.tp a xs this
        rw [keepH h1 h3 h2] at this
        cases this
        cases hc
  have gr : Grow F G G' := ⟨g.le, fun a h1 h2 => (g.nw a h1 h2).imp (fun this => by
    cases e : F a with
    | none => rfl
    | some w =>
      have nb := outB a (by rw [e]; exact fun z => nomatch z)
      rw [cut_out nb h1, R.fx a w e] at this
      cases this) id⟩
  have apart : ∀ {j : Nat} {a : Addr}, j ∉ is → owns en j = true → σ[j]? = some (some (.ref a)) → a ∉ B := fun {j a} hj hoj ha hb => by
    obtain ⟨p, i, _, h2, h3⟩ := bIn a hb
    have := owns_inj R hoj (ho i (List.mem_of_getElem? h2)) ha h3
    subst this
    exact hj (List.mem_of_getElem? h2)
  have fxx : ∀ a w, F a = some w → H' a = some w := fun a w e => by
    have nb := outB a (by rw [e]; exact fun z => nomatch z)
    by_cases h0 : G a = none
    · exact keepH nb h0 (R.fx a w e)
    · rcases R.fg a w e h0 with ⟨ob, u, rfl⟩ | ⟨xs, rfl⟩
      · exact same a _ (cut_frz nb (R.fx a _ e))
      · exact same a _ (cut_tup nb (R.fx a _ e))
  refine ⟨gr, fxx, l, by rw [hl]; exact R.len, fun i d e => ?_, fun i d e => ?_, fun i k d e => ?_, fun i j d d' a e e' z z' => ?_, fun i j k d d' e e' => ?_, R.nd, fun a ha => ?_, fun a w e e' => ?_⟩
  · rcases hg i _ e with ⟨p, d', _, _, ⟨z, _⟩ | ⟨_, _, z, _⟩⟩ | ⟨_, e⟩
    · cases z
    · cases z
    · obtain ⟨v, h1, h2⟩ := R.fz i d e
      exact ⟨v, h1, Rv.le gr.toLe d v h2⟩
  · rcases hg i _ e with ⟨p, d', hp, hd, ⟨z, d0, h0⟩ | ⟨_, _, z, _⟩⟩ | ⟨ni, e⟩
    · cases z
      obtain ⟨a, h1, h2, h3, h4, h5⟩ := R.ow i d0 h0
      obtain ⟨b, b1, b2⟩ := hB.2 p i hp
      rw [h1] at b2
      cases b2
      obtain ⟨d2, o1, o2, o3⟩ := outs_get o p a b1
      rw [hd] at o1
      cases o1
      exact ⟨a, h1, o2, h3, o3, h5⟩
    · cases z
    · obtain ⟨a, h1, h2, h3, h4, h5⟩ := R.ow i d e
      have nb := apart ni (by unfold owns; rw [e]) h1
      obtain ⟨u, hu, hc, _⟩ := h2.some
      exact ⟨a, h1, h2.step gr.toLe (by rw [keepH nb h4 hu, hu]), h3, keepG nb hu hc h4, h5⟩
  · rcases hg i _ e with ⟨p, d', hp, hd, ⟨z, d0, h0⟩ | ⟨k', d0, z, h0⟩⟩ | ⟨ni, e⟩
    · cases z
    · cases z
      obtain ⟨a, h1, hk, h2, h3, h4⟩ := R.io i k d0 h0
      obtain ⟨b, b1, b2⟩ := hB.2 p i hp
      rw [h1] at b2
      cases b2
      obtain ⟨d2, o1, o2, o3⟩ := outs_get o p a b1
      rw [hd] at o1
      cases o1
      exact ⟨a, h1, hk, o2, h3, o3⟩
    · obtain ⟨a, h1, hk, h2, h3, h4⟩ := R.io i k d e
      have nb := apart ni (by unfold owns; rw [e]) h1
      obtain ⟨u, hu, hc, _⟩ := h2.some
      exact ⟨a, h1, hk, h2.step gr.toLe (by rw [keepH nb h4 hu, hu]), h3, keepG nb hu hc h4⟩
  · have kind : ∀ {i : Nat} {d : D}, en'[i]? = some (.ow d) → ∃ d0, en[i]? = some (.ow d0) := fun {i d} e => by
      rcases hg i _ e with ⟨p, d', hp, hd, ⟨z, d0, h0⟩ | ⟨_, _, z, _⟩⟩ | ⟨ni, e⟩
      · exact ⟨d0, h0⟩
      · cases z
      · exact ⟨d, e⟩
    obtain ⟨d1, e1⟩ := kind e
    obtain ⟨d2, e2⟩ := kind e'
    exact R.dj i j d1 d2 a e1 e2 z z'
  · have kind : ∀ {i : Nat} {d : D}, en'[i]? = some (.io k d) → ∃ d0, en[i]? = some (.io k d0) := fun {i d} e => by
      rcases hg i _ e with ⟨p, d', hp, hd, ⟨z, d0, h0⟩ | ⟨k', d0, z, h0⟩⟩ | ⟨ni, e⟩
      · cases z
      · cases z
        exact ⟨d0, h0⟩
      · exact ⟨d, e⟩
    obtain ⟨d1, e1⟩ := kind e
    obtain ⟨d2, e2⟩ := kind e'
    exact R.ij i j k d1 d2 e1 e2
  · by_cases nb : a ∈ B
    · obtain ⟨p, i, h1, _, _⟩ := bIn a nb
      obtain ⟨d2, _, o2, _⟩ := outs_get o p a h1
      obtain ⟨u, hu, _⟩ := o2.some
      rw [hu]
      exact fun z => nomatch z
    · cases e : H a with
      | none => exact absurd e (R.al a ha)
      | some u =>
        by_cases h0 : G a = none
        · rw [keepH nb h0 e]; exact fun z => nomatch z
        · intro z
          have := l.dm a z
          cases e2 : G a with
          | none => exact h0 e2
          | some o => rw [gr.le a o e2] at this; cases this
  · by_cases h0 : G a = none
    · rcases gr.nw a h0 e' with q | ⟨xs, q⟩
      · rw [e] at q; cases q
      · have := l.tp a xs q
        rw [fxx a w e] at this
        cases this
        exact .inr ⟨xs, rfl⟩
    · exact R.fg a w e h0
/-- prep raises nothing -/
theorem prep_noer : ∀ (io : List Bool) (ls : List Lc) (en : En) x en2, prep io ls en ≠ .er x en2 := by
  intro io
  induction io with
  | nil => intro ls en x en2 z; cases ls <;> cases z
  | cons b io ih =>
    intro ls en x en2 z
    cases b with
    | false =>
      cases ls with
      | nil => cases z
      | cons l ls =>
        have z : ((frz l en).bind fun d en => (prep io ls en).bind fun ds en => Rs.ok (d :: ds) en) = .er x en2 := z
        rcases frz_cases l en with q | ⟨d, en1, q⟩
        · rw [q] at z; cases z
        · rw [q] at z
          have z : ((prep io ls en1).bind fun ds en => Rs.ok (d :: ds) en) = .er x en2 := z
          cases q2 : prep io ls en1 with
          | st => rw [q2] at z; cases z
          | ok _ _ => rw [q2] at z; cases z
          | er x' en' => exact ih ls en1 x' en' q2
    | true =>
      cases ls with
      | nil => cases z
      | cons l ls =>
        cases l with
        | fz _ => cases z
        | sl i =>
          have z : ((prep io ls en).bind fun ds en => match rd (.sl i) en with
            | some d => Rs.ok (d :: ds) en
            | none => .st) = .er x en2 := z
          cases q2 : prep io ls en with
          | st => rw [q2] at z; cases z
          | ok ds en' =>
            rw [q2] at z
            have z : (match rd (.sl i) en' with
              | some d => Rs.ok (d :: ds) en'
              | none => .st) = .er x en2 := z
            cases q3 : rd (.sl i) en' with
            | none => rw [q3] at z; cases z
            | some d => rw [q3] at z; cases z
          | er x' en' => exact ih ls en x' en' q2
/-- what a call made is in nobody's hands -/
theorem Rp.fresh_after (R : Rp K F A G en σ H) {is : List Nat} {B : List Addr} (hB : Ads σ is B) (ho : ∀ i ∈ is, owns en i = true) (nd : is.Nodup) {G' : Hp} (g : Grow (cut H B G) G G') {outs : List D} {en' : En} (hp : puts is outs en = some en')
    {a : Addr} (ca : cut H B G a = none) (ga : G' a = none) (na : a ∉ B) : Nw F A G' en' σ a := by
  have g0 : G a = none := by
    cases e : G a with
    | none => rfl
    | some o => rw [g.le a o e] at ga; cases ga
  have h0 : H a = none := by
    rw [cut_out na g0] at ca
    exact ca
  obtain ⟨hl, hg⟩ := puts_get hp nd
  refine ⟨?_, ga, fun z => R.al a z h0, fun i d e z => ?_⟩
  · cases e : F a with
    | none => rfl
    | some o => rw [R.fx a o e] at h0; cases h0
  · have old : ∃ d0, en[i]? = some (.ow d0) := by
      rcases hg i _ e with ⟨p, d', _, _, ⟨_, d0, h⟩ | ⟨_, _, z, _⟩⟩ | ⟨_, h⟩
      · exact ⟨d0, h⟩
      · cases z
      · exact ⟨d, h⟩
    obtain ⟨d0, e0⟩ := old
    obtain ⟨b, h1, h2, _⟩ := R.ow i d0 e0
    rw [h1] at z
    cases z
    obtain ⟨u, hu, _⟩ := h2.some
    rw [h0] at hu
    cases hu
/-- f(..): a def's promise kept at a call; E1: what its errors are to meet -/
theorem sound_call {E : XE} {E1 : XK} {io : List Bool} {f : Fn} {t : TA} {fa : EA} (h : SoundA K mg E t fa) (hE : (∃ ds x o, f ds = .er x o) → ∀ σ c dx H, E σ c dx H → E1 c dx H) : SoundE K mg E (tCall (spF K mg io f) [] E1 t) (eCall io f fa) := by
  intro F A G en σ H R Q k
  refine h F A G en σ H R _ (Then.imp (Then.bind k) (fun ls en1 k1 vs G1 H1 g1 R1 r1 => ?_) fun _ _ z => z)
  show spF K mg io f (vs ++ []) H1 Q E1
  rw [List.append_nil]
  cases e : prep io ls en1 with
  | st => rw [e] at k1; exact k1.elim
  | er x en2 => 
    rw [e] at k1
    exact absurd e (prep_noer io ls en1 x en2)
  | ok ds en2 =>
    rw [e] at k1
    obtain ⟨G2, g2, R2, p2⟩ := prep_ok R1 r1 e
    have k1 : Then (if (iosOf io ls).all (owns en2) = true ∧ (iosOf io ls).Nodup then match f ds with
      | .st => Rs.st
      | .ok d outs => match puts (iosOf io ls) outs en2 with
        | some en => .ok (.fz d) en
        | none => .st
      | .oko d outs => match puts (iosOf io ls) outs en2 with
        | some en => .ok (.fz d) en
        | none => .st
      | .er x outs => match puts (iosOf io ls) outs en2 with
        | some en => .er x en
        | none => .st
      else .st) (KoE K F A G σ Q) (KeE K mg E F A G σ) := k1
    by_cases c : (iosOf io ls).all (owns en2) = true ∧ (iosOf io ls).Nodup
    · rw [if_pos c] at k1
      have ho : ∀ i ∈ iosOf io ls, owns en2 i = true := List.all_eq_true.mp c.1
      obtain ⟨B, a, hB⟩ := args_of R2 p2 ho
      refine ⟨B, G2, ds, a, R2.gx, ads_nodup R2 hB ho c.2, ?_⟩
      cases e2 : f ds with
      | st => rw [e2] at k1; exact k1.elim
      | ok d outs =>
        rw [e2] at k1
        intro v G' H' gr l same o r
        simp only at k1
        cases e3 : puts (iosOf io ls) outs en2 with
        | none => simp only [e3] at k1; exact k1.elim
        | some en3 =>
          simp only [e3] at k1
          obtain ⟨gg, R3⟩ := R2.after hB ho c.2 gr l same o e3
          exact k1 v G' H' ((g1.trans g2).trans gg) R3 r
      | oko d outs =>
        rw [e2] at k1
        intro a G' H' gr l same o own ca ga na
        simp only at k1
        cases e3 : puts (iosOf io ls) outs en2 with
        | none => simp only [e3] at k1; exact k1.elim
        | some en3 =>
          simp only [e3] at k1
          obtain ⟨gg, R3⟩ := R2.after hB ho c.2 gr l same o e3
          obtain ⟨G4, g4, R4, r4⟩ := R3.froze own (R2.fresh_after hB ho c.2 gr e3 ca ga na)
          exact k1 _ G4 H' (((g1.trans g2).trans gg).trans g4) R4 r4
      | er x outs =>
        rw [e2] at k1
        intro c' dx G' H' gr l same o r
        simp only at k1
        cases e3 : puts (iosOf io ls) outs en2 with
        | none => simp only [e3] at k1; exact k1.elim
        | some en3 =>
          simp only [e3] at k1
          obtain ⟨gg, R3⟩ := R2.after hB ho c.2 gr l same o e3
          exact hE ⟨_, _, _, e2⟩ σ _ _ _ (k1 c' dx G' H' ((g1.trans g2).trans gg) R3 r)
    · rw [if_neg c] at k1; exact k1.elim
end
end Fx

set_option Elab.async false
set_option linter.all false
set_option maxRecDepth 100000
namespace Fx
open PySem PySem.Spec PyProof.Rows L2
section
variable {K : PySem.W.Frag} {mg : Str → Option Value} {F : Hp} {A : List Addr} {G H : Hp} {en : En} {σ : L2.St}

/-! ### data without dicts, as the library reads it -/
mutual
theorem Rv.dp (l : Le G H) : ∀ (d : D) (v : V), PyData.hasDict d = false → Rv K G d v → Dp K H v d
  | .none, _, _, h => by cases (show _ = V.non from h); exact .non
  | .bool b, _, _, h => by cases (show _ = V.bl b from h); exact .bl b
  | .int i, _, _, h => by cases (show _ = V.int i from h); exact .int i
  | .str x, _, _, h => by cases (show _ = V.str x from h); exact .str x
  | .tuple ds, _, n, ⟨a, vs, e, h1, h2⟩ => by
    subst e
    exact .tup (h1.le l).sq (Rvs.dp l ds vs (by simpa [PyData.hasDict] using n) h2)
  | .list ds, _, n, ⟨a, vs, e, h1, h2⟩ => by
    subst e
    exact .lst (sqL_le l h1) (Rvs.dp l ds vs (by simpa [PyData.hasDict] using n) h2)
  | .dict kvs, _, n, _ => by simp [PyData.hasDict] at n
theorem Rvs.dp (l : Le G H) : ∀ (ds : List D) (vs : List V), PyData.hasDictAll ds = false → Rvs K G ds vs → DpAll K H vs ds
  | [], _, _, h => by cases h; exact .nil
  | d :: ds, _, n, ⟨v, r, e, h1, h2⟩ => by
    subst e
    rw [PyData.hasDictAll, Bool.or_eq_false_iff] at n
    exact .cons (Rv.dp l d v n.1 h1) (Rvs.dp l ds r n.2 h2)
end
theorem Rc.dp (l : Le G H) : ∀ {d : D} {v : V}, PyData.hasDict d = false → Rc K G H d v → Dp K H v d
  | .none, _, n, h => Rv.dp l _ _ n h
  | .bool b, _, n, h => Rv.dp l _ _ n h
  | .int i, _, n, h => Rv.dp l _ _ n h
  | .str x, _, n, h => Rv.dp l _ _ n h
  | .tuple ds, _, n, h => Rv.dp l _ _ n h
  | .list ds, _, n, ⟨a, vs, e, h1, h2⟩ => by
    subst e
    exact .lst h1 (Rvs.dp l ds vs (by simpa [PyData.hasDict] using n) h2)
  | .dict kvs, _, n, _ => by simp [PyData.hasDict] at n

/-! ### arithmetic -/
/-- an operation on two ints, where c holds -/
def iOp (c : Int → Int → Bool) (g : Int → Int → Int) (x y : D) : Option D := match x, y with
  | .int i, .int j => if c i j = true then some (.int (g i j)) else none
  | _, _ => none
theorem sound_iOp {C : Int → Int → Prop} {c : Int → Int → Bool} {g : Int → Int → Int} (h : ∀ i j, c i j = true → C i j) : SoundOp K (rI C fun i j => .int (g i j)) (iOp c g) := by
  intro F A G en σ H R x y v u z rx ry e Q k
  cases x <;> cases y <;> first | cases e | skip
  rename_i i j
  have e' : (if c i j = true then some (PyData.int (g i j)) else none) = some z := e
  by_cases hc : c i j = true
  · rw [if_pos hc] at e'
    cases e'
    exact ⟨i, j, rx, ry, h i j hc, k _ G H (.refl _ _) R rfl⟩
  · rw [if_neg hc] at e'; cases e'
def oSub : D → D → Option D := iOp (fun _ _ => true) (· - ·)
theorem sound_sub : SoundOp K (rI0 fun i j => .int (i - j)) oSub := by
  intro F A G en σ H R x y v u z rx ry e Q k
  obtain ⟨i, j, h1, h2, _, q⟩ := sound_iOp (K := K) (C := fun _ _ => True) (c := fun _ _ => true) (g := (· - ·)) (fun _ _ _ => trivial) F A G en σ H R x y v u z rx ry e Q k
  exact ⟨i, j, h1, h2, q⟩
/-- products that the model is sure of -/
def mulOk (i j : Int) : Bool := decide (i.natAbs < 2 ^ 64) || decide (j.natAbs < 2 ^ 64) || decide ((Builtin.Int.intBits i : Int) + (Builtin.Int.intBits j : Int) ≤ 134217728)
theorem mulOk_ok {i j : Int} (h : mulOk i j = true) : IntMulOk i j := by
  unfold mulOk at h
  simp only [Bool.or_eq_true, decide_eq_true_eq] at h
  rcases h with (h | h) | h
  · exact CMul.ok (.inl (by omega))
  · exact CMul.ok (.inr (by omega))
  · exact CMulX.ok h
def oMul : D → D → Option D := iOp mulOk (· * ·)
theorem op_mulA {X : Cx} : OpR X (binaryOp .Mult) (rI (fun i j => mulOk i j = true) fun i j => .int (i * j)) := opI fun _ _ _ _ _ _ _ hc q => mul_int q (mulOk_ok hc)
def oDiv : D → D → Option D := iOp (fun _ j => decide (j ≠ 0) && decide (j.natAbs < 1073741824)) Int.fdiv
theorem sound_div : SoundOp K (rI CDivN fun i j => .int (i.fdiv j)) oDiv := sound_iOp fun i j h => by
  simp only [Bool.and_eq_true, decide_eq_true_eq] at h
  exact h
def oMod : D → D → Option D := iOp (fun _ j => decide (j ≠ 0)) Int.fmod
theorem sound_mod : SoundOp K (rI (fun _ j => j ≠ 0) fun i j => .int (i.fmod j)) oMod := sound_iOp fun i j h => of_decide_eq_true h
def powOk (i j : Int) : Bool := decide (0 ≤ j ∧ (Builtin.Int.intBits i : Int) * j ≤ 2 ^ 27)
def oPow : D → D → Option D := iOp powOk fun i j => i ^ j.toNat
theorem op_powA {X : Cx} : OpR X (binaryOp .Pow) (rI (fun i j => powOk i j = true) fun i j => .int (i ^ j.toNat)) := opI fun i j _ _ _ _ _ hc q => pow_int (of_decide_eq_true hc).1 (of_decide_eq_true hc).2 q
/-- x + y: ints, texts, tuples -/
def oAdd (x y : D) : Option D := match x, y with
  | .int i, .int j => some (.int (i + j))
  | .str a, .str b => if a.length + b.length ≤ 65536 then some (.str (a ++ b)) else none
  | .tuple xs, .tuple ys => if xs.length + ys.length ≤ 65536 then some (.tuple (xs ++ ys)) else none
  | _, _ => none
def rAdd (K : PySem.W.Frag) : R2 := fun x y H Q => rI0 (fun i j => .int (i + j)) x y H Q ∨ (∃ i j, x = .str i ∧ y = .str j ∧ i.length + j.length ≤ sizeLine ∧ Q (.str (i ++ j)) H) ∨ rCatA K x y H Q
theorem op_addA {X : Cx} : OpR X (binaryOp .Add) (rAdd X.K) := op_add.or (op_add_str.or op_catA)
theorem Rvs.append : ∀ {xs ys : List D} {vs ws : List V}, Rvs K G xs vs → Rvs K G ys ws → Rvs K G (xs ++ ys) (vs ++ ws)
  | [], _, _, _, h, h' => by cases h; exact h'
  | x :: xs, _, _, _, ⟨v, r, e, h1, h2⟩, h' => by subst e; exact ⟨v, r ++ _, rfl, h1, h2.append h'⟩
theorem sound_add : SoundOp K (rAdd K) oAdd := by
  intro F A G en σ H R x y v u z rx ry e Q k
  unfold oAdd at e
  split at e
  · rename_i i j
    cases e
    exact .inl ⟨i, j, rx, ry, k _ G H (.refl _ _) R rfl⟩
  · rename_i a b
    split at e
    · rename_i hc
      cases e
      exact .inr (.inl ⟨a, b, rx, ry, size_of hc, k _ G H (.refl _ _) R rfl⟩)
    · cases e
  · rename_i xs ys
    split at e
    · rename_i hc
      cases e
      obtain ⟨a, vs, rfl, h1, h2⟩ := (show Rv K G (.tuple xs) v from rx)
      obtain ⟨b, ws, rfl, h3, h4⟩ := (show Rv K G (.tuple ys) u from ry)
      refine .inr (.inr ⟨a, b, vs, ws, rfl, rfl, (h1.le R.gx).sq, (h3.le R.gx).sq, by rw [h2.length, h4.length]; exact size_of hc, fun e0 => ?_, fun _ e0 => ?_, fun _ _ p hp => ?_⟩)
      · subst e0
        cases xs with
        | nil => exact k _ G H (.refl _ _) R ⟨b, ws, rfl, h3, h4⟩
        | cons x xs => obtain ⟨_, _, z, _⟩ := h2; cases z
      · subst e0
        cases ys with
        | nil => rw [List.append_nil] at k; exact k _ G H (.refl _ _) R ⟨a, vs, rfl, h1, h2⟩
        | cons x xs => obtain ⟨_, _, z, _⟩ := h4; cases z
      · obtain ⟨g2, R2⟩ := R.new (u := .tup (vs ++ ws)) hp (fun _ _ z => nomatch z)
        exact k _ _ _ g2 R2 ⟨p, vs ++ ws, rfl, .inl upd_same, Rvs.le g2.toLe _ _ (h2.append h4)⟩
    · cases e
  · cases e

theorem sound_mul : SoundOp K (rI (fun i j => mulOk i j = true) fun i j => .int (i * j)) oMul := sound_iOp fun _ _ h => h
theorem sound_pow : SoundOp K (rI (fun i j => powOk i j = true) fun i j => .int (i ^ j.toNat)) oPow := sound_iOp fun _ _ h => h
def oNeg : D → Option D
  | .int i => some (.int (-i))
  | _ => none
theorem sound_neg : SoundUn K (rU fun i => .int (-i)) oNeg := by
  intro F A G en σ H R x v z rx e Q k
  cases x with
  | int i => cases e; exact ⟨i, rx, k _ G H (.refl _ _) R rfl⟩
  | _ => cases e

/-! ### comparisons -/
/-- x == y, of data without dicts, 64 deep at most -/
def oEq (x y : D) : Option D := if SeqAt.shaped x = true ∧ SeqAt.shaped y = true then some (.bool (PyData.eqv x y)) else none
def oNe (x y : D) : Option D := if SeqAt.shaped x = true ∧ SeqAt.shaped y = true then some (.bool (!PyData.eqv x y)) else none
theorem nodict {d : D} (h : SeqAt.shaped d = true) : PyData.hasDict d = false := PyData.hasDict_of_canLay d (SeqAt.canLay_of_shaped h)
theorem sound_eq : SoundOp K (rEqD K) oEq := by
  intro F A G en σ H R x y v u z rx ry e Q k
  unfold oEq at e
  split at e
  · rename_i h
    cases e
    exact ⟨x, y, Rc.dp R.gx (nodict h.1) rx, Rc.dp R.gx (nodict h.2) ry, h.1, h.2, k _ G H (.refl _ _) R rfl⟩
  · cases e
theorem sound_ne : SoundOp K (rNeD K) oNe := by
  intro F A G en σ H R x y v u z rx ry e Q k
  unfold oNe at e
  split at e
  · rename_i h
    cases e
    exact ⟨x, y, Rc.dp R.gx (nodict h.1) rx, Rc.dp R.gx (nodict h.2) ry, h.1, h.2, k _ G H (.refl _ _) R rfl⟩
  · cases e
/-- ints compared -/
def cmpI (p : Int → Int → Bool) (x y : D) : Option D := match x, y with
  | .int i, .int j => some (.bool (p i j))
  | _, _ => none
theorem sound_cmpI {p : Int → Int → Bool} : SoundOp K (rI0 fun i j => .bl (p i j)) (cmpI p) := by
  intro F A G en σ H R x y v u z rx ry e Q k
  unfold cmpI at e
  split at e
  · cases e
    exact ⟨_, _, rx, ry, k _ G H (.refl _ _) R rfl⟩
  · cases e
def oLt : D → D → Option D := cmpI fun i j => decide (i < j)
def oLe : D → D → Option D := cmpI fun i j => decide (i ≤ j)
def oGt : D → D → Option D := cmpI fun i j => decide (j < i)
def oGe : D → D → Option D := cmpI fun i j => decide (j ≤ i)
def isN : D → Bool
  | .none => true
  | _ => false
theorem isN_rc {x : D} {v : V} (h : Rc K G H x v) : decide (v = .non) = isN x := by
  cases x with
  | none => cases (show v = V.non from h); rfl
  | bool b => cases (show v = V.bl b from h); rfl
  | int i => cases (show v = V.int i from h); rfl
  | str s => cases (show v = V.str s from h); rfl
  | tuple ds => obtain ⟨a, vs, rfl, _⟩ := (show Rv K G (.tuple ds) v from h); rfl
  | list ds => obtain ⟨a, vs, rfl, _⟩ := h; rfl
  | dict kvs => obtain ⟨a, rfl, _⟩ := h; rfl
def oIsN (x y : D) : Option D := match y with
  | .none => some (.bool (isN x))
  | _ => none
def oNotN (x y : D) : Option D := match y with
  | .none => some (.bool (!isN x))
  | _ => none
theorem sound_isN : SoundOp K (fun x y H Q => y = .non ∧ Q (.bl (decide (x = .non))) H) oIsN := by
  intro F A G en σ H R x y v u z rx ry e Q k
  cases y with
  | none => cases e; exact ⟨ry, k _ G H (.refl _ _) R (by show V.bl _ = V.bl _; rw [isN_rc rx])⟩
  | _ => cases e
theorem sound_notN : SoundOp K (fun x y H Q => y = .non ∧ Q (.bl (!decide (x = .non))) H) oNotN := by
  intro F A G en σ H R x y v u z rx ry e Q k
  cases y with
  | none => cases e; exact ⟨ry, k _ G H (.refl _ _) R (by show V.bl _ = V.bl _; rw [isN_rc rx])⟩
  | _ => cases e
/-- a < b < c -/
def eChain (o1 o2 : D → D → Option D) (a b c : EE) : EE := fun en => (a en).bind fun x en => (b en).bind fun y en => match rd x en, rd y en with
  | some dx, some dy => match o1 dx dy with
    | some (.bool true) => (c en).bind fun w en => match rd y en, rd w en with
      | some dy, some dw => match o2 dy dw with
        | some z => .ok (.fz z) en
        | none => .st
      | _, _ => .st
    | some (.bool false) => .ok (.fz (.bool false)) en
    | _ => .st
  | _, _ => .st

/-! ### items -/
theorem Rvs.get : ∀ {ds : List D} {vs : List V} {j : Nat} {d : D}, Rvs K G ds vs → ds[j]? = some d → ∃ v, vs[j]? = some v ∧ Rv K G d v
  | [], _, _, _, _, h => by cases h
  | d :: ds, _, 0, _, ⟨v, r, e, h1, _⟩, h => by cases h; exact ⟨v, by rw [e]; rfl, h1⟩
  | d :: ds, _, j + 1, _, ⟨v, r, e, _, h2⟩, h => by
    obtain ⟨w, q⟩ := h2.get (j := j) h
    exact ⟨w, by rw [e]; exact q⟩
theorem Rvs.atI {ds : List D} {vs : List V} {i : Int} {d : D} (h : Rvs K G ds vs) (e : L2.atI ds i = some d) : ∃ v, L2.atI vs i = some v ∧ Rv K G d v := by
  unfold L2.atI at e ⊢
  rw [h.length]
  cases q : ixN ds.length i with
  | none => rw [q] at e; cases e
  | some j =>
    rw [q] at e
    exact h.get e
/-- x[i]: a list, a tuple, a text -/
def oIx (x y : D) : Option D := match x, y with
  | .list ds, .int i => L2.atI ds i
  | .tuple ds, .int i => L2.atI ds i
  | .str z, .int i => if z.length ≤ 65536 then (L2.atI z.cps.toList i).map fun c => .str ⟨#[c]⟩ else none
  | _, _ => none
theorem sound_ix : SoundOp K (rIx K) oIx := by
  intro F A G en σ H R x y v u z rx ry e Q k
  unfold oIx at e
  split at e
  · obtain ⟨a, vs, rfl, h1, h2⟩ := rx
    obtain ⟨w, q1, q2⟩ := h2.atI e
    exact .inl ⟨a, vs, _, w, rfl, ry, h1, q1, k _ G H (.refl _ _) R q2⟩
  · rename_i ds i
    obtain ⟨a, vs, rfl, h1, h2⟩ := (show Rv K G (.tuple ds) v from rx)
    obtain ⟨w, q1, q2⟩ := h2.atI e
    exact .inr (.inl ⟨a, vs, _, w, rfl, ry, (h1.le R.gx).sq, q1, k _ G H (.refl _ _) R q2⟩)
  · rename_i s i
    split at e
    · rename_i hl
      obtain ⟨c, q1, q2⟩ := Option.map_eq_some_iff.mp e
      subst q2
      exact .inr (.inr ⟨s, i, c, rx, ry, size_of hl, q1, k _ G H (.refl _ _) R rfl⟩)
    · cases e
  · cases e
/-! slices -/
def cutL {α : Type} (xs : List α) (lo hi : Option Int) : List α := (xs.drop (HT.sIx xs.length 0 lo)).take (HT.sIx xs.length xs.length hi - HT.sIx xs.length 0 lo)
theorem Rvs.drop : ∀ {ds : List D} {vs : List V} (n : Nat), Rvs K G ds vs → Rvs K G (ds.drop n) (vs.drop n)
  | ds, vs, 0, h => h
  | [], _, n + 1, h => by cases h; exact rfl
  | d :: ds, _, n + 1, ⟨v, r, e, _, h⟩ => by subst e; exact h.drop n
theorem Rvs.take : ∀ {ds : List D} {vs : List V} (n : Nat), Rvs K G ds vs → Rvs K G (ds.take n) (vs.take n)
  | ds, vs, 0, h => by rw [List.take_zero, List.take_zero]; exact rfl
  | [], _, n + 1, h => by cases h; exact rfl
  | d :: ds, _, n + 1, ⟨v, r, e, h1, h⟩ => by subst e; exact ⟨v, r.take n, rfl, h1, h.take n⟩
theorem Rvs.cut {ds : List D} {vs : List V} (lo hi : Option Int) (h : Rvs K G ds vs) : Rvs K G (cutL ds lo hi) (cutV vs lo hi) := by
  unfold cutL cutV
  rw [h.length]
  exact (h.drop _).take _
abbrev EOp := En → Rs (Option Int)
def KoP (K : PySem.W.Frag) (F : Hp) (A : List Addr) (G : Hp) (σ : L2.St) (Q : Option Int → Hp → Prop) (o : Option Int) (en' : En) : Prop :=
  ∀ G' H', Grow F G G' → Rp K F A G' en' σ H' → Q o H'
def SoundP (K : PySem.W.Frag) (mg : Str → Option Value) (E : XE) (t : TO) (f : EOp) : Prop := ∀ F A G en σ H, Rp K F A G en σ H → ∀ Q : Option Int → Hp → Prop,
  Then (f en) (KoP K F A G σ Q) (KeE K mg E F A G σ) → t σ H Q
structure SP (X : Cx) (E : XE) (e : Option Expr) (t : TO) (f : EOp) : Prop where
  po : PO X e t
  snd : SoundP X.K X.mg E t f
def pNo : EOp := fun en => .ok none en
theorem sound_pno {E : XE} : SoundP K mg E tNoPart pNo := fun F A G en σ H R Q k => k G H (.refl _ _) R
def pSo (f : EE) : EOp := fun en => (dat f en).bind fun d en => match d with
  | .int i => .ok (some i) en
  | _ => .st
theorem sound_pso {E : XE} {t : TE} {f : EE} (h : SoundE K mg E t f) : SoundP K mg E (tPart t) (pSo f) := by
  intro F A G en σ H R Q k
  refine h.dat R (Then.imp (Then.bind k) (fun d en1 k1 v G' H' g' R' r' => ?_) fun _ _ z => z)
  cases d with
  | int i => exact ⟨i, r', k1 G' H' g' R'⟩
  | _ => exact k1.elim
def eSl (f : EE) (lo hi : EOp) : EE := fun en => (f en).bind fun x en => (lo en).bind fun l en => (hi en).bind fun h en => match rd x en with
  | some (.tuple ds) => .ok (.fz (.tuple (cutL ds l h))) en
  | _ => .st
/-- of a tuple -/
theorem sound_slT {E : XE} {t : TE} {f : EE} {tl th : TO} {lo hi : EOp} (h : SoundE K mg E t f) (hl : SoundP K mg E tl lo) (hh : SoundP K mg E th hi) : SoundE K mg E (tSl (rSlA K) t tl th) (eSl f lo hi) := by
  intro F A G en σ H R Q k
  refine h F A G en σ H R _ (Then.imp (Then.bind k) (fun x en1 k1 v G1 H1 g1 R1 r1 => ?_) fun _ _ z => z)
  refine hl F A G1 en1 σ H1 R1 _ (Then.imp (Then.bind k1) (fun l en2 k2 G2 H2 g2 R2 => ?_) fun _ _ z => KeE.grow g1 z)
  refine hh F A G2 en2 σ H2 R2 _ (Then.imp (Then.bind k2) (fun u en3 k3 G3 H3 g3 R3 => ?_) fun _ _ z => KeE.grow (g1.trans g2) z)
  cases q : rd x en3 with
  | none => simp only [q] at k3; exact k3.elim
  | some d =>
    simp only [q] at k3
    have rc := rd_rc R3 ((r1.grow g2).grow g3) q
    cases d with
    | tuple ds =>
      obtain ⟨a, vs, rfl, h1, h2⟩ := (show Rv K G3 (.tuple ds) v from rc)
      refine ⟨a, vs, rfl, (h1.le R3.gx).sq, fun hw => ?_, fun hw p hp => ?_⟩
      · have e : cutL ds l u = ds := by
          unfold cutL
          rw [h2.length] at hw
          rw [hw.1, hw.2, List.drop_zero, Nat.sub_zero, List.take_length]
        have k4 : KoE K F A G σ Q (.fz (.tuple (cutL ds l u))) en3 := k3
        rw [e] at k4
        exact k4 _ G3 H3 ((g1.trans g2).trans g3) R3 rc
      · obtain ⟨g4, R4⟩ := R3.new (u := .tup (cutV vs l u)) hp (fun _ _ z => nomatch z)
        exact k3 _ _ _ (((g1.trans g2).trans g3).trans g4) R4 ⟨p, _, rfl, .inl upd_same, Rvs.le g4.toLe _ _ (h2.cut l u)⟩
    | _ => exact k3.elim
def oSl (f : EE) (lo hi : EOp) : EO := fun en => (f en).bind fun x en => (lo en).bind fun l en => (hi en).bind fun h en => match rd x en with
  | some (.list ds) => .ok (.list (cutL ds l h)) en
  | _ => .st
/-- of a list: a new one -/
theorem sound_slL {E : XE} {t : TE} {f : EE} {tl th : TO} {lo hi : EOp} (h : SoundE K mg E t f) (hl : SoundP K mg E tl lo) (hh : SoundP K mg E th hi) : SoundO K mg E (tSl (rSlL K) t tl th) (oSl f lo hi) := by
  intro F A G en σ H R Q k
  refine h F A G en σ H R _ (Then.imp (Then.bind k) (fun x en1 k1 v G1 H1 g1 R1 r1 => ?_) fun _ _ z => z)
  refine hl F A G1 en1 σ H1 R1 _ (Then.imp (Then.bind k1) (fun l en2 k2 G2 H2 g2 R2 => ?_) fun _ _ z => KeE.grow g1 z)
  refine hh F A G2 en2 σ H2 R2 _ (Then.imp (Then.bind k2) (fun u en3 k3 G3 H3 g3 R3 => ?_) fun _ _ z => KeE.grow (g1.trans g2) z)
  cases q : rd x en3 with
  | none => simp only [q] at k3; exact k3.elim
  | some d =>
    simp only [q] at k3
    have rc := rd_rc R3 ((r1.grow g2).grow g3) q
    cases d with
    | list ds =>
      obtain ⟨a, vs, rfl, h1, h2⟩ := rc
      refine ⟨a, vs, rfl, h1, fun p hp => ?_⟩
      exact k3 p G3 _ ((g1.trans g2).trans g3) (R3.fresh hp) ⟨_, upd_same, h2.cut l u⟩ (R3.free_new hp)
    | _ => exact k3.elim
/-- xs + ys: a new list -/
def oCat (a b : EE) : EO := fun en => (a en).bind fun x en => (b en).bind fun y en => match rd x en, rd y en with
  | some (.list xs), some (.list ys) => if xs.length + ys.length ≤ 65536 then .ok (.list (xs ++ ys)) en else .st
  | _, _ => .st
end
end Fx

set_option Elab.async false
set_option linter.all false
set_option maxRecDepth 100000
namespace Fx
open PySem PySem.Spec PyProof.Rows L2

/-! ### defs that are called where no repr is under way -/
abbrev Calm (A : Around) : Prop := A.guards = some []
structure FnG (P : Program) (w : World) (K : PySem.W.Frag) (mg : Str → Option Value) (base : Heap) (CX : CXT) (k : Nat) (f : Addr) (fd : FuncData) (n : Nat) (ps : List Str) (sp : Sp) : Prop where
  num : ps.length = n
  len : ∀ vs H Q E, sp vs H Q E → vs.length = n
  go : ∀ (A : Around), Calm A → Room k A → ∀ (out : List Env) (s : Shared) (H : Hp), Env0 P w K mg base A out s H → ∀ (args : PySem.Args) (us : List Value),
    BindsTo s fd args (ps.zip us) → ∀ (vs : List V), Vals vs us → ∀ (Q : VK) (E : XK), sp vs H Q E → codeAny (model P w) A (.call (.ref f) args) (CR CX out P w H s Q E) s
theorem FnG.up {P : Program} {w : World} {K : PySem.W.Frag} {mg : Str → Option Value} {base : Heap} {CX : CXT} {i j : Nat} {f : Addr} {fd : FuncData} {n : Nat} {ps : List Str} {sp : Sp}
    (F : FnG P w K mg base CX i f fd n ps sp) (h : i ≤ j) : FnG P w K mg base CX j f fd n ps sp := ⟨F.num, F.len, fun A c r => F.go A c (r.mono h)⟩

section
variable {P : Program} {w : World} {K : PySem.W.Frag} {mg : Str → Option Value} {base : Heap}
/-- a def by its body -/
theorem FnG.of {CX : CXT} {nm ql : Str} {st : Stmt} {f : Addr} {fd : FuncData} {N ps : List Str} {n k : Nat} {sp : Sp} (D : Fun K nm ql st f fd) (S : FnScope N ps (defScope st)) (hn : ps.length = n)
    (len : ∀ vs H Q E, sp vs H Q E → vs.length = n)
    (body : ∀ (cd : Value) (A : Around) (out : List Env) (s : Shared) (H : Hp) (vs : List V) (Q : VK) (E : XK), Calm (A.deeper (envOfC ql (defScope st) s.heap.objs.size f cd)) →
      Room k (A.deeper (envOfC ql (defScope st) s.heap.objs.size f cd)) → sp vs H Q E →
      ∃ t, PSs (cxOf CX P w K mg base N ql (defScope st) f cd A out s H E) (defBody st) t ∧ t { nx := fun _ H' => Q .non H', rt := Q } (L2.start N vs) H) :
    FnG P w K mg base CX (k + 1) f fd n ps sp := by
  obtain ⟨oc, od, kV, doc, pm, an, cd, ct, osl, e, hlook, hcode⟩ := D.ex
  refine ⟨hn, len, ?_⟩
  intro A calm room out s H e0 args us hbind vs hv Q E hsp
  have hlen : vs.length = ps.length := (len _ _ _ _ hsp).trans hn.symm
  have up : ∀ b o, base.get? b = some o → s.heap.get? b = some o := fun b o q => (e0.bs b o q).1
  have hK := e0.mod.kin.keeps up
  subst e
  refine codeAny_call_function room.depth (hK _ _ hlook) rfl S.co S.gen rfl (PySem.W.codeRec_of hK hcode) (hbind _ _ _ _ ?_)
  have kinds : ∀ y ∈ ps.zip us, (defScope st).names.lookup y.1 = some .local ∨
      ((defScope st).names.lookup y.1 = some .cell ∧ ((cellsFrom (s.heap.objs.size + 1) (defScope st).names []).lookup y.1).isSome = true) := by
    rintro ⟨x, v⟩ hy
    refine (S.par x (List.of_mem_zip hy).1).imp id fun q => ⟨q, ?_⟩
    exact PySem.W.cellsFrom_some _ _ _ (.inl q)
  refine wpAny_newFunctionEnv_cells S.kind kinds ?_
  intro env he s1 inc
  subst he
  refine ⟨(e0.mod.nolimit.keeps up).keeps inc.toInCall.keep, codeAny_func ?_⟩
  obtain ⟨t, ht, hq⟩ := body cd A out s H vs Q E calm (room.deeper _) hsp
  have I := inv_start (CX := CX) (cd := cd) (E := E) S room.hd e0 hlen hv inc
  refine wpAny_mono (ht.run [] s1 _ H _ I hq) ?_ fun _ _ z => z
  intro fl s' hs
  cases fl with
  | next =>
    obtain ⟨_, H', J, q⟩ := hs
    exact ⟨.non, H', J.os, J.bare, J.base, J.hok, rfl, q⟩
  | ret u =>
    obtain ⟨v, _, H', J, r, q⟩ := hs
    exact ⟨v, H', J.os, J.bare, J.base, J.hok, r, q⟩
  | brk => exact hs.elim fun _ h => h.elim fun _ h => h.2.elim
  | cont => exact hs.elim fun _ h => h.elim fun _ h => h.2.elim
/-- a def that raises nothing, by data -/
theorem FnG.data {nm ql : Str} {st : Stmt} {f : Addr} {fd : FuncData} {N ps : List Str} {k : Nat} {io : List Bool} {b : ES} (D : Fun K nm ql st f fd) (S : FnScope N ps (defScope st)) (hn : ps.length = io.length) (hN : io.length ≤ N.length)
    (body : ∀ (cd : Value) (A : Around) (out : List Env) (s : Shared) (H : Hp) (E : XK), Calm (cxOf CX0 P w K mg base N ql (defScope st) f cd A out s H E).nox.A → Room k (cxOf CX0 P w K mg base N ql (defScope st) f cd A out s H E).nox.A →
      ∃ t, SB (cxOf CX0 P w K mg base N ql (defScope st) f cd A out s H E).nox (fun _ => E0) (defBody st) t b) :
    FnG P w K mg base CX0 (k + 1) f fd io.length ps (spF K mg io (noer (fnOf io N.length b))) := by
  refine FnG.of D S hn (fun vs H Q E h => ?_) ?_
  · obtain ⟨_, _, _, a, _⟩ := h
    exact a.length.1
  · intro cd A out s H vs Q E calm room h
    obtain ⟨t, ht⟩ := body cd A out s H E calm room
    refine ⟨t, ht.ps.nox, body_ok (mg := mg) (E' := E0) ht.snd rfl hN ?_⟩
    obtain ⟨B, G, ds, a, l, nd, q⟩ := h
    refine ⟨B, G, ds, a, l, nd, ?_⟩
    unfold noer at q
    cases e : fnOf io N.length b ds with
    | st => rw [e] at q; exact q
    | ok d o => rw [e] at q; exact q
    | oko d o => rw [e] at q; exact q
    | er x o => rw [e] at q; exact q.elim
end
section
variable {X : Cx} {E : XE}
/-- f(a, ..), f a def of the module -/
theorem pe_callG {CX : CXT} {k : Nat} {f : Addr} {fd : FuncData} {n : Nat} {ps : List Str} {sp : Sp} {E1 : XK} {x : Str} {p pos : Pos} {e : Expr} {es : List Expr} {t : TA}
    (W : FnG X.prog X.w X.K X.mg X.base CX k f fd n ps sp) (calm : Calm X.A) (room : Room k X.A) (glob : Gl X x) (at_ : X.mg x = some (.ref f)) (kept : PySem.W.keepIn X.K (.ref f) = true)
    (bind : Binds X.K fd ps []) (out : Passes CX X E1) (args : PA X (e :: es) t) (nodbg : (x == ("__debug__" : Str)) = false := by decide)
    (st : starEach (e :: es) X.env = (false, eval e X.env) :: starEach es X.env := by rfl) (pl : (backTo pos (starEach es X.env)).any (·.1) = false := by rfl) :
    PE X (.Call (.Name x p) (e :: es) [] pos) (tCall sp [] E1 t) := by
  constructor
  intro pins s σ H Q I h
  refine wpAny_Call_Name_kw (ld_glob I glob at_ ?_ nodbg)
  refine PySem.W.callWith_K (h₀ := X.base) I.ok.mod.kin kept ?_ st pl
  refine thn (args.run pos pins s σ H _ I h) ?_
  rintro us s1 ⟨vs, H1, I1, r, q⟩
  have q' : sp vs H1 Q E1 := by
    have z : sp (vs ++ []) H1 Q E1 := q
    rwa [List.append_nil] at z
  have lu : us.length = ps.length := r.length.symm.trans ((W.len _ _ _ _ q').trans W.num.symm)
  have bd := bind s1 us I1.kIn (by rw [List.append_nil]; exact lu)
  rw [List.append_nil] at bd
  refine ⟨I1.kIn, wpAny_call (codeAny_mono (W.go X.A calm room X.stack s1 H1 I1.env0 ⟨us, []⟩ us bd vs r Q E1 q') ?_)⟩
  intro res s2 hq
  match res, hq with
  | .error er, hq => exact out pins σ H1 s1 er s2 I1 hq
  | .ok (.ret u), hq => exact I1.after hq
  | .ok .next, hq => exact hq.elim
  | .ok .brk, hq => exact hq.elim
  | .ok .cont, hq => exact hq.elim
theorem pe_callG0 {CX : CXT} {k : Nat} {f : Addr} {fd : FuncData} {n : Nat} {ps : List Str} {sp : Sp} {E1 : XK} {x : Str} {p pos : Pos}
    (W : FnG X.prog X.w X.K X.mg X.base CX k f fd n ps sp) (calm : Calm X.A) (room : Room k X.A) (glob : Gl X x) (at_ : X.mg x = some (.ref f)) (kept : PySem.W.keepIn X.K (.ref f) = true)
    (bind : Binds X.K fd ps []) (out : Passes CX X E1) (nodbg : (x == ("__debug__" : Str)) = false := by decide) :
    PE X (.Call (.Name x p) [] [] pos) (tCall sp [] E1 tNil) := by
  constructor
  intro pins s σ H Q I h
  refine wpAny_Call_Name_kw (ld_glob I glob at_ ?_ nodbg)
  have q' : sp [] H Q E1 := h
  refine PySem.W.callWith_K0 I.kIn kept ?_
  have lu : ([] : List Value).length = ps.length := (W.len _ _ _ _ q').trans W.num.symm
  have bd := bind s [] I.kIn lu
  refine wpAny_call (codeAny_mono (W.go X.A calm room X.stack s H I.env0 ⟨[], []⟩ [] bd [] .nil Q E1 q') ?_)
  intro res s2 hq
  match res, hq with
  | .error er, hq => exact out pins σ H s er s2 I hq
  | .ok (.ret u), hq => exact I.after hq
  | .ok .next, hq => exact hq.elim
  | .ok .brk, hq => exact hq.elim
  | .ok .cont, hq => exact hq.elim
end
end Fx

set_option Elab.async false
set_option linter.all false
set_option maxRecDepth 100000
namespace Fx
open PySem PySem.Spec PyProof.Rows L2
section
variable {K : PySem.W.Frag} {mg : Str → Option Value} {F : Hp} {A : List Addr} {G H : Hp} {en : En} {σ : L2.St}

/-! ### comprehensions -/
def wipeE (vs : List Nat) (en : En) : En := vs.foldr (fun i e => e.set i .un) en
theorem wipeE_cons (v : Nat) (vs : List Nat) (en : En) : wipeE (v :: vs) en = (wipeE vs en).set v .un := rfl
theorem Rp.wiped (R : Rp K F A G en σ H) : ∀ vs : List Nat, Rp K F A G (wipeE vs en) (wipe σ vs) H
  | [] => R
  | v :: vs => (R.wiped vs).drop
theorem wipeE_length (vs : List Nat) (en : En) : (wipeE vs en).length = en.length := by
  induction vs with
  | nil => rfl
  | cons v vs ih => rw [wipeE_cons, List.length_set, ih]
theorem wipe_out {σ : L2.St} {j : Nat} : ∀ {vs : List Nat}, j ∉ vs → (wipe σ vs)[j]? = σ[j]?
  | [], _ => rfl
  | v :: vs, h => by
    unfold wipe
    rw [List.getElem?_set_ne (fun (z : v = j) => h (z ▸ List.mem_cons_self))]
    exact wipe_out fun z => h (List.mem_cons_of_mem _ z)
theorem wipe_in {σ : L2.St} {j : Nat} : ∀ {vs : List Nat}, j ∈ vs → j < σ.length → (wipe σ vs)[j]? = some none
  | v :: vs, h, hl => by
    unfold wipe
    by_cases z : v = j
    · subst z
      rw [List.getElem?_set_self (by rw [wipe_length]; exact hl)]
    · rw [List.getElem?_set_ne z]
      exact wipe_in ((List.mem_cons.mp h).resolve_left (Ne.symm z)) hl
theorem wipeE_in {j : Nat} : ∀ {vs : List Nat}, j ∈ vs → j < en.length → (wipeE vs en)[j]? = some .un
  | v :: vs, h, hl => by
    rw [wipeE_cons]
    by_cases z : v = j
    · subst z
      rw [List.getElem?_set_self (by rw [wipeE_length]; exact hl)]
    · rw [List.getElem?_set_ne z]
      exact wipeE_in ((List.mem_cons.mp h).resolve_left (Ne.symm z)) hl
theorem wipe_but {vs : List Nat} {σ σ' : L2.St} (h : But vs σ σ') : wipe σ' vs = wipe σ vs := by
  apply List.ext_getElem?
  intro j
  by_cases hj : j ∈ vs
  · by_cases hl : j < σ.length
    · rw [wipe_in hj hl, wipe_in hj (by rw [h.1]; exact hl)]
    · rw [List.getElem?_eq_none (by rw [wipe_length, h.1]; omega), List.getElem?_eq_none (by rw [wipe_length]; omega)]
  · rw [wipe_out hj, wipe_out hj, h.2 j hj]
theorem wipe_wipe {vs : List Nat} {σ : L2.St} : wipe (wipe σ vs) vs = wipe σ vs := wipe_but ⟨wipe_length _ _, fun j hj => wipe_out hj⟩
/-- slots that are not known matter to nobody -/
theorem Rp.re {σ' : L2.St} (R : Rp K F A G en σ H) (hl : σ'.length = σ.length) (h : ∀ (i : Nat) s, en[i]? = some s → s ≠ .un → σ'[i]? = σ[i]?) : Rp K F A G en σ' H := by
  refine ⟨R.fx, R.gx, hl.trans R.len, fun i d e => ?_, fun i d e => ?_, fun i k d e => ?_, fun i j d d' a e e' z z' => ?_, R.ij, R.nd, R.al, R.fg⟩
  · rw [h i _ e (fun z => nomatch z)]; exact R.fz i d e
  · rw [h i _ e (fun z => nomatch z)]; exact R.ow i d e
  · rw [h i _ e (fun z => nomatch z)]; exact R.io i k d e
  · rw [h i _ e (fun z => nomatch z)] at z
    rw [h j _ e' (fun z => nomatch z)] at z'
    exact R.dj i j d d' a e e' z z'
/-- the names outside vs come back -/
theorem Rp.unwipe {vs : List Nat} (R : Rp K F A G (wipeE vs en) (wipe σ vs) H) : Rp K F A G (wipeE vs en) σ H := by
  refine R.re (wipe_length _ _).symm fun i s e n => ?_
  by_cases hi : i ∈ vs
  · have hl : i < en.length := by
      have := (List.getElem?_eq_some_iff.mp e).1
      rwa [wipeE_length] at this
    rw [wipeE_in hi hl] at e
    exact absurd (Option.some.inj e).symm n
  · exact (wipe_out hi).symm
/-- where errors are not served -/
def Rs.nox {α : Type} (r : Rs α) : Rs α := match r with
  | .st => .st
  | .ok a en => .ok a en
  | .er _ _ => .st
theorem Then.nox {α : Type} {r : Rs α} {ko : α → En → Prop} {ke ke' : Er → En → Prop} (h : Then r.nox ko ke) : Then r ko ke' := by
  cases r with
  | st => exact h
  | ok a en => exact h
  | er x en => exact h.elim
/-- one turn of a comprehension, and the rest; acc: what is made so far -/
def compL (g : EG) (c : ET) (e : EE) (vs : List Nat) : List D → List D → En → Rs (List D)
  | [], acc, en => .ok acc en
  | d :: ds, acc, en => match g d en with
    | none => .st
    | some en => (c en).nox.bind fun b en => if b = true then
        (dat e en).nox.bind fun y en => if acc.length < 65536 then compL g c e vs ds (acc ++ [y]) (wipeE vs en) else .st
      else compL g c e vs ds acc (wipeE vs en)
def oLc (i : EI) (g : EG) (c : ET) (e : EE) (vs : List Nat) : EO := fun en => (i en).bind fun ds en => (compL g c e vs ds [] (wipeE vs en)).nox.bind fun r en => .ok (.list r) (wipeE vs en)
theorem wipeE_wipeE {vs : List Nat} : wipeE vs (wipeE vs en) = wipeE vs en := by
  apply List.ext_getElem?
  intro j
  by_cases hj : j ∈ vs
  · by_cases hl : j < en.length
    · rw [wipeE_in hj hl, wipeE_in hj (by rw [wipeE_length]; exact hl)]
    · rw [List.getElem?_eq_none (by rw [wipeE_length, wipeE_length]; omega), List.getElem?_eq_none (by rw [wipeE_length]; omega)]
  · have out : ∀ {en : En} {ws : List Nat}, j ∉ ws → (wipeE ws en)[j]? = en[j]? := by
      intro en ws
      induction ws with
      | nil => intro _; rfl
      | cons v ws ih =>
        intro h
        rw [wipeE_cons, List.getElem?_set_ne (fun (z : v = j) => h (z ▸ List.mem_cons_self))]
        exact ih fun z => h (List.mem_cons_of_mem _ z)
    rw [out hj, out hj]
theorem sound_yes {E : XE} : SoundT K mg E tYes (fun en => .ok true en) := fun F A G en σ H R Q k => k G H (.refl _ _) R
/-- a thing under construction is one of the others' -/
theorem Rp.guard (R : Rp K F A G en σ H) {p : Addr} {u : HO} (hp : H p = some u) (nw : Nw F A G en σ p) : Rp K (upd F p u) A G en σ H := by
  refine ⟨fun b o e => ?_, R.gx, R.len, R.fz, fun i d e => ?_, fun i k d e => ?_, R.dj, R.ij, R.nd, R.al, fun b o e e' => R.fg b o (by rw [upd_ne (fun (z : b = p) => e' (z ▸ nw.g))] at e; exact e) e'⟩
  · by_cases z : b = p
    · subst z; rw [upd_same] at e; rw [hp]; exact e
    · rw [upd_ne z] at e; exact R.fx b o e
  · obtain ⟨b, h1, h2, h3, h4⟩ := R.ow i d e
    have nb : b ≠ p := fun z => nw.s i d e (z ▸ h1)
    exact ⟨b, h1, h2, by rw [upd_ne nb]; exact h3, h4⟩
  · obtain ⟨b, h1, h2, h3, h4, h5⟩ := R.io i k d e
    have nb : b ≠ p := fun z => nw.n (z ▸ List.mem_of_getElem? h2)
    exact ⟨b, h1, h2, h3, by rw [upd_ne nb]; exact h4, h5⟩
theorem upd_weak {p : Addr} {u : HO} (h : F p = none) : ∀ a o, F a = some o → upd F p u a = some o := fun a o e => by
  rw [upd_ne (fun z => by rw [z, h] at e; cases e)]
  exact e
/-- .. and stays in nobody's hands -/
theorem Rp.unguard {p : Addr} {u : HO} (R : Rp K (upd F p u) A G en σ H) (hf : F p = none) (hn : p ∉ A) (hg : G p = none) : H p = some u ∧ Rp K F A G en σ H ∧ Nw F A G en σ p := by
  refine ⟨R.fx p u upd_same, R.weakF (upd_weak hf), hf, hg, hn, fun i d e h => ?_⟩
  obtain ⟨b, h1, h2, h3, h4⟩ := R.ow i d e
  rw [h1] at h
  cases h
  rw [upd_same] at h3
  cases h3
theorem guard_grow {p : Addr} {u : HO} {G' : Hp} (g : Grow (upd F p u) G G') (h : G p = none) (R : Rp K (upd F p u) A G' en σ H) (hu : Cn u = true) : G' p = none := by
  cases e : G' p with
  | none => rfl
  | some o =>
    rcases g.nw p h (by rw [e]; exact fun z => nomatch z) with this | ⟨xs, this⟩
    · rw [upd_same] at this
      cases this
    · have q := R.gx.tp p xs this
      rw [R.fx p u upd_same] at q
      cases q
      cases hu
/-- the object under construction is written -/
theorem Rp.build (R : Rp K F A G en σ H) {p : Addr} {u : HO} (nw : Nw F A G en σ p) : Rp K F A G en σ (upd H p u) := by
  refine ⟨fun b o e => by rw [upd_ne (fun z => by rw [z, nw.f] at e; cases e)]; exact R.fx b o e, ⟨fun b xs e => ?_, fun b w c e => ?_, fun b e => ?_, fun b xs e => ?_⟩, R.len, R.fz, fun i d e => ?_, fun i k d e => ?_, R.dj, R.ij, R.nd, fun b hb e => ?_, R.fg⟩
  · have nb : b ≠ p := fun z => by rw [z, nw.g] at e; cases e
    rw [upd_ne nb]; exact R.gx.tp b xs e
  · have nb : b ≠ p := fun z => by
      subst z
      rcases e with e | ⟨o, e⟩ <;> (rw [nw.g] at e; cases e)
    rcases R.gx.rd b w c e with q | ⟨o, q⟩
    · exact .inl (by rw [upd_ne nb]; exact q)
    · exact .inr ⟨o, by rw [upd_ne nb]; exact q⟩
  · by_cases z : b = p
    · rw [z]; exact nw.g
    · rw [upd_ne z] at e; exact R.gx.dm b e
  · by_cases z : b = p
    · rw [z]; exact .inl nw.g
    · rw [upd_ne z] at e; exact R.gx.tq b xs e
  · obtain ⟨b, q1, q2, q3⟩ := R.ow i d e
    have nb : b ≠ p := fun z => nw.s i d e (z ▸ q1)
    exact ⟨b, q1, q2.step (.refl _) (by rw [upd_ne nb]), q3⟩
  · obtain ⟨b, q1, qa, q2, q3⟩ := R.io i k d e
    have nb : b ≠ p := fun z => nw.n (z ▸ List.mem_of_getElem? qa)
    exact ⟨b, q1, qa, q2.step (.refl _) (by rw [upd_ne nb]), q3⟩
  · by_cases z : b = p
    · subst z; rw [upd_same] at e; cases e
    · rw [upd_ne z] at e; exact R.al b hb e
theorem Nw.grow {a : Addr} {G' : Hp} (n : Nw F A G en σ a) (h : G' a = none) : Nw F A G' en σ a := ⟨n.f, h, n.n, n.s⟩
theorem Nw.wiped {p : Addr} (n : Nw F A G en σ p) : ∀ vs : List Nat, Nw F A G (wipeE vs en) (wipe σ vs) p
  | [] => n
  | v :: vs => by
    have m := n.wiped vs
    refine ⟨m.f, m.g, m.n, fun i d e h => ?_⟩
    rw [wipeE_cons] at e
    rcases get_set e with ⟨_, e2, _⟩ | ⟨ne, e⟩
    · cases e2
    · unfold wipe at h
      rw [List.getElem?_set_ne (Ne.symm ne)] at h
      exact m.s i d e h
theorem sound_lc {E E1 : XE} {wi : TI} {tg : TG} {tt : TT} {te : TE} {fi : EI} {g : EG} {c : ET} {fe : EE} {vs : List Nat} (hi : SoundI K mg E wi fi) (hg : SoundG K vs tg g)
    (hc : SoundT K mg E1 tt c) (he : SoundE K mg E1 te fe) : SoundO K mg E (tLc wi tg tt te vs) (oLc fi g c fe vs) := by
  intro F A G en σ H R Q k
  refine hi F A G en σ H R _ (Then.imp (Then.bind k) (fun ds en1 k1 J F1 G1 H1 hF g1 R1 w1 p hp => ?_) fun _ _ z => z)
  have k1 := Then.bind k1
  have hN : ∀ a, F1 a = none → F a = none := fun a e => by
    cases q : F a with
    | none => rfl
    | some o => rw [hF a o q] at e; cases e
  have st : ∀ (r : Rs (List D)) {ko : List D → En → Prop} {ke ke' : Er → En → Prop}, Then r.nox ko ke → Then r.nox ko ke' := by
    intro r ko ke ke' h
    cases r <;> exact h
  refine ⟨fun i m H => m = ds.length - i ∧ i ≤ ds.length ∧ ∃ G2 en2 acc accV, Grow F1 G1 G2 ∧ Rp K F1 A G2 (wipeE vs en2) (wipe σ vs) H ∧ Nw F1 A G2 (wipeE vs en2) (wipe σ vs) p ∧ H p = some (.lst accV) ∧ Rvs K G2 acc accV ∧
      Then (compL g c fe vs (ds.drop i) acc (wipeE vs en2)).nox (fun r en' => KoO K F A G2 σ Q (.list r) (wipeE vs en')) (fun _ _ => False),
    ⟨ds.length, by simp, Nat.zero_le _, G1, en1, [], [], .refl _ _, (R1.fresh hp).wiped vs, (R1.free_new hp).wiped vs, upd_same, rfl, ?_⟩, ?_⟩
  · rw [List.drop_zero]
    exact Then.imp (st _ k1) (fun r en' z a G' H' g' => z a G' H' (g1.trans g')) fun _ _ z => z
  · rintro i m H2 ⟨rfl, hle, G2, en2, acc, accV, g2, R2, n2, hacc, racc, k2⟩
    by_cases hlt : i < ds.length
    · have hd : ds[i]? = some ds[i] := List.getElem?_eq_getElem hlt
      refine .inr ⟨w1.go i G2 _ _ H2 hlt g2 R2, fun H' => i + 1 ≤ ds.length ∧ ∃ G2 en2 acc accV, Grow F1 G1 G2 ∧ Rp K F1 A G2 (wipeE vs en2) (wipe σ vs) H' ∧
          Nw F1 A G2 (wipeE vs en2) (wipe σ vs) p ∧ H' p = some (.lst accV) ∧ Rvs K G2 acc accV ∧
          Then (compL g c fe vs (ds.drop (i + 1)) acc (wipeE vs en2)).nox (fun r en' => KoO K F A G2 σ Q (.list r) (wipeE vs en')) (fun _ _ => False),
        fun H' h => ⟨ds.length - (i + 1), by omega, rfl, h⟩, fun x H' hy => ?_⟩
      obtain ⟨G3, g3, same, R3, r3⟩ := w1.yld i _ G2 _ _ H2 hd g2 R2 x H' hy
      have hp3 : H' p = some (.lst accV) := same p _ hacc
      have gp3 : G3 p = none := by
        cases e : G3 p with
        | none => rfl
        | some o =>
          rcases g3.nw p n2.g (by rw [e]; exact fun z => nomatch z) with this | ⟨xs, this⟩
          · rw [hacc] at this; cases this
          · have q := R3.gx.tp p xs this
            rw [hp3] at q
            cases q
      have g3F := g3.weakF R2.fx
      have R3' := R3.guard hp3 (n2.grow gp3)
      rw [List.drop_eq_getElem_cons hlt] at k2
      have k2 : Then (match g ds[i] (wipeE vs en2) with
        | none => Rs.st
        | some en => (c en).nox.bind fun b en => if b = true then
            (dat fe en).nox.bind fun y en => if acc.length < 65536 then compL g c fe vs (ds.drop (i + 1)) (acc ++ [y]) (wipeE vs en) else .st
          else compL g c fe vs (ds.drop (i + 1)) acc (wipeE vs en)).nox (fun r en' => KoO K F A G2 σ Q (.list r) (wipeE vs en')) (fun _ _ => False) := k2
      cases q : g ds[i] (wipeE vs en2) with
      | none => rw [q] at k2; exact k2.elim
      | some en3 =>
        rw [q] at k2
        refine hg (upd F1 p (.lst accV)) A G3 _ _ H' R3' _ x r3 en3 q _ fun σ4 G4 H4 b4 g4 R4 => ⟨(wipe_but b4).trans wipe_wipe, ?_⟩
        have nb : ∀ {α : Type} {r : Rs α} {β : Type} {f : α → En → Rs β} {ko : β → En → Prop}, Then (r.nox.bind f).nox ko (fun _ _ => False) → Then r.nox (fun a en => Then (f a en).nox ko (fun _ _ => False)) (fun _ _ => False) := by
          intro α r β f ko h
          cases r <;> exact h
        have hw4 : wipe σ4 vs = wipe σ vs := (wipe_but b4).trans wipe_wipe
        refine hc (upd F1 p (.lst accV)) A G4 en3 σ4 H4 R4 _ (Then.nox (ke := fun _ _ => False) (Then.imp (nb k2) (fun b en5 k5 G5 H5 g5 R5 => ?_) fun _ _ z => z.elim))
        have gg5 := g4.trans g5
        have gp5 := guard_grow gg5 gp3 R5 rfl
        cases b with
        | false =>
          obtain ⟨h5, R6, n6⟩ := R5.unguard n2.f n2.n gp5
          have R7 := R6.wiped vs
          have n7 := n6.wiped vs
          rw [hw4] at R7 n7
          have gF := g3F.trans (gg5.weakF (upd_weak n2.f))
          exact ⟨hlt, G5, en5, acc, accV, g2.trans gF, R7, n7, h5, Rvs.le gF.toLe _ _ racc, Then.imp k5 (fun r en' z a G' H' g' => z a G' H' ((gF.weakF hF).trans g')) fun _ _ z => z⟩
        | true =>
          refine he.dat R5 (Then.nox (ke := fun _ _ => False) (Then.imp (nb k5) (fun y en6 k6 v G6 H6 g6 R6 r6 => ?_) fun _ _ z => z.elim))
          have gg6 := gg5.trans g6
          have gp6 := guard_grow gg6 gp3 R6 rfl
          obtain ⟨h6, R7, n7⟩ := R6.unguard n2.f n2.n gp6
          have R8 := (R7.build (u := .lst (accV ++ [v])) n7).wiped vs
          have n8 := n7.wiped vs
          rw [hw4] at R8 n8
          have gF := g3F.trans (gg6.weakF (upd_weak n2.f))
          by_cases hl : acc.length < 65536
          · rw [if_pos hl] at k6
            refine ⟨accV, h6, by rw [racc.length]; exact Nat.lt_of_lt_of_le hl (by decide), hlt, G6, en6, acc ++ [y], accV ++ [v], g2.trans gF, R8, n8, upd_same, ?_, Then.imp k6 (fun r en' z a G' H' g' => z a G' H' ((gF.weakF hF).trans g')) fun _ _ z => z⟩
            exact (Rvs.le gF.toLe _ _ racc).append ⟨v, [], rfl, r6, rfl⟩
          · rw [if_neg hl] at k6; exact k6.elim
    · obtain rfl : i = ds.length := by omega
      refine .inl ⟨w1.stop G2 _ _ H2 g2 R2, ?_⟩
      rw [List.drop_eq_nil_of_le (Nat.le_refl _)] at k2
      have k3 : KoO K F A G2 σ Q (.list acc) (wipeE vs (wipeE vs en2)) := k2
      rw [wipeE_wipeE] at k3
      have hs : ∀ (i : Nat) d, (wipeE vs en2)[i]? = some (.ow d) → (wipe σ vs)[i]? = σ[i]? := fun i d e => by
        by_cases hi : i ∈ vs
        · have hl : i < en2.length := by
            have := (List.getElem?_eq_some_iff.mp e).1
            rwa [wipeE_length] at this
          rw [wipeE_in hi hl] at e
          cases e
        · exact wipe_out hi
      exact k3 p G2 H2 (.refl _ _) (R2.unwipe.weakF hF) ⟨accV, hacc, racc⟩ ⟨hN _ n2.f, n2.g, n2.n, fun i d e h => n2.s i d e ((hs i d e).trans h)⟩
end
end Fx

set_option Elab.async false
set_option linter.all false
set_option maxRecDepth 100000
namespace Fx
open PySem PySem.Spec PyProof.Rows L2

/-! ### what is walked -/
section
variable {K : PySem.W.Frag} {mg : Str → Option Value} {F : Hp} {A : List Addr} {G H : Hp} {en : En} {σ : L2.St}
theorem Rvs.get' : ∀ {ds : List D} {vs : List V} {j : Nat} {v : V} {d : D}, Rvs K G ds vs → ds[j]? = some d → vs[j]? = some v → Rv K G d v := fun {ds vs j v d} h e e' => by
  obtain ⟨w, h1, h2⟩ := h.get e
  rw [e'] at h1
  cases h1
  exact h2
theorem walk_at {J : It} {P : Hp → Prop} {ds : List D} {xs : List V} (w : L2.Walk J xs.length P (YAt xs)) (hp : ∀ G' en σ H, Grow F G G' → Rp K F A G' en σ H → P H) (r : Rvs K G ds xs) : Walk K F A G J ds := by
  have hl := r.length
  refine ⟨fun i G' en σ H hi g R => w.goes i H (by omega) (hp G' en σ H g R), fun G' en σ H g R => by rw [← hl]; exact w.stops H (hp G' en σ H g R), fun i d G' en σ H hd g R x H' hy => ?_⟩
  have hi : i < ds.length := (List.getElem?_eq_some_iff.mp hd).1
  obtain ⟨rfl, hx⟩ := w.yields i H x H' (by omega) (hp G' en σ H g R) hy
  exact ⟨G', .refl _ _, fun _ _ z => z, R, Rv.le g.toLe _ _ (r.get' hd hx)⟩
theorem walk_fn {J : It} {P : Hp → Prop} {ds : List D} {n : Nat} {f : Nat → V} (w : L2.Walk J n P (YFn f)) (hn : ds.length = n) (hp : ∀ G' en σ H, Grow F G G' → Rp K F A G' en σ H → P H) (r : ∀ (i : Nat) d, ds[i]? = some d → ∀ G', Rv K G' d (f i)) : Walk K F A G J ds := by
  refine ⟨fun i G' en σ H hi g R => w.goes i H (by omega) (hp G' en σ H g R), fun G' en σ H g R => by rw [hn]; exact w.stops H (hp G' en σ H g R), fun i d G' en σ H hd g R x H' hy => ?_⟩
  have hi : i < ds.length := (List.getElem?_eq_some_iff.mp hd).1
  obtain ⟨rfl, hx⟩ := w.yields i H x H' (by omega) (hp G' en σ H g R) hy
  exact ⟨G', .refl _ _, fun _ _ z => z, R, by rw [hx]; exact r i d hd G'⟩
theorem walk_pair {J : It} {P : Hp → Prop} {ds : List D} {n : Nat} {f g : Nat → Option V} (w : L2.Walk J n P (YPair f g)) (hn : ds.length = n) (hp : ∀ G' en σ H, Grow F G G' → Rp K F A G' en σ H → P H)
    (r : ∀ (i : Nat) d, ds[i]? = some d → ∃ a b x y, d = .tuple [a, b] ∧ f i = some x ∧ g i = some y ∧ Rv K G a x ∧ Rv K G b y) : Walk K F A G J ds := by
  refine ⟨fun i G' en σ H hi g R => w.goes i H (by omega) (hp G' en σ H g R), fun G' en σ H g R => by rw [hn]; exact w.stops H (hp G' en σ H g R), fun i d G' en σ H hd g R v H' hy => ?_⟩
  have hi : i < ds.length := (List.getElem?_eq_some_iff.mp hd).1
  obtain ⟨T, x, y, rfl, nT, rfl, e1, e2⟩ := w.yields i H v H' (by omega) (hp G' en σ H g R) hy
  obtain ⟨a, b, x', y', rfl, q1, q2, r1, r2⟩ := r i d hd
  rw [q1] at e1
  rw [q2] at e2
  cases e1
  cases e2
  obtain ⟨_, R2⟩ := R.new (u := .tup [x, y]) nT (fun _ _ z => nomatch z)
  have gn : G' T = none := R.gx.dm T nT
  have gr : Grow H G' (upd G' T (.tup [x, y])) := ⟨fun c o e => by rw [upd_ne (ne_of_none e gn)]; exact e, fun c e e' => by
    by_cases z : c = T
    · rw [z]; exact .inl nT
    · rw [upd_ne z] at e'; exact absurd e e'⟩
  have l2 := g.toLe.trans gr.toLe
  exact ⟨_, gr, fun c o e => by rw [upd_ne (ne_of_none e nT)]; exact e, R2, T, [x, y], rfl, .inl upd_same, x, [y], rfl, Rv.le l2 _ _ r1, y, [], rfl, Rv.le l2 _ _ r2, rfl⟩

/-! a list, a tuple, a text -/
def chars (z : Str) : List D := z.cps.toList.map fun c => .str ⟨#[c]⟩
def iSeq (f : EE) : EI := fun en => (dat f en).bind fun d en => match d with
  | .list ds => .ok ds en
  | .tuple ds => .ok ds en
  | .str z => .ok (chars z) en
  | _ => .st
def iAny (K : PySem.W.Frag) (t : TE) : TI := fun σ H R => iList K t σ H R ∨ iTup K t σ H R ∨ iStr t σ H R
theorem dat_cases {f : EE} {en : En} {P : Rs D → Prop} (h1 : P .st) (h2 : ∀ d en', dat f en = .ok d en' → P (.ok d en')) (h3 : ∀ x en', P (.er x en')) : P (dat f en) := by
  cases e : dat f en with
  | st => exact h1
  | ok d en' => exact h2 d en' e
  | er x en' => exact h3 x en'
theorem sound_iseq {E : XE} {t : TE} {f : EE} (h : SoundE K mg E t f) : SoundI K mg E (iAny K t) (iSeq f) := by
  intro F A G en σ H R Q k
  have k0 : Then ((dat f en).bind fun d en => match d with
    | .list ds => Rs.ok ds en
    | .tuple ds => .ok ds en
    | .str z => .ok (chars z) en
    | _ => .st) (KoI K F A G σ Q) (KeE K mg E F A G σ) := k
  have k := Then.bind k0
  cases e : dat f en with
  | st => rw [e] at k; exact k.elim
  | er x en1 =>
    refine .inl (h.dat R ?_)
    rw [e] at k ⊢
    exact k
  | ok d en1 =>
    have k' := k
    rw [e] at k'
    cases d with
    | list ds =>
      refine .inl (h.dat R ?_)
      rw [e]
      intro v G' H' g R' r
      obtain ⟨a, vs, rfl, h1, h2⟩ := r
      exact ⟨a, rfl, ⟨vs, sqL_le R'.gx h1⟩, k' _ F G' H' (fun _ _ z => z) g R' (walk_at walk_list (fun G2 _ _ _ g2 R2 => sqL_le (g2.toLe.trans R2.gx) h1) h2)⟩
    | tuple ds =>
      refine .inr (.inl (h.dat R ?_))
      rw [e]
      intro v G' H' g R' r
      obtain ⟨a, vs, rfl, h1, h2⟩ := r
      exact ⟨a, rfl, ⟨vs, (h1.le R'.gx).sq⟩, k' _ F G' H' (fun _ _ z => z) g R' (walk_at walk_tup (fun G2 _ _ _ g2 R2 => (h1.le (g2.toLe.trans R2.gx)).sq) h2)⟩
    | str z =>
      refine .inr (.inr (h.dat R ?_))
      rw [e]
      intro v G' H' g R' r
      refine ⟨z, r, k' _ F G' H' (fun _ _ z => z) g R' ?_⟩
      have hl : (chars z).length = z.cps.size := by unfold chars; rw [List.length_map, Array.length_toList]
      have w := walk_str (z := z)
      refine ⟨fun i G' en σ H hi g R => w.goes i H (by omega) trivial, fun G' en σ H g R => by rw [hl]; exact w.stops H trivial, fun i d G' en σ H hd g R x H' hy => ?_⟩
      have hi : i < (chars z).length := (List.getElem?_eq_some_iff.mp hd).1
      obtain ⟨rfl, c, hc, rfl⟩ := w.yields i H x H' (by omega) trivial hy
      have hd2 : (chars z)[i]? = some (.str ⟨#[c]⟩) := by
        unfold chars
        rw [List.getElem?_map, Array.getElem?_toList, hc]
        rfl
      rw [hd2] at hd
      cases hd
      exact ⟨G', .refl _ _, fun _ _ z => z, R, rfl⟩
    | _ => exact k'.elim
/-! ranges -/
def inRange (i : Int) : Bool := decide (-(2 ^ 62) ≤ i) && decide (i < 2 ^ 62)
def rng (lo hi : Int) : List D := (List.range (hi - lo).toNat).map fun i => .int (lo + (i : Nat))
theorem rng_get {lo hi : Int} {i : Nat} {d : D} (h : (rng lo hi)[i]? = some d) : d = .int (lo + i) := by
  unfold rng at h
  rw [List.getElem?_map] at h
  obtain ⟨j, h1, h2⟩ := Option.map_eq_some_iff.mp h
  obtain ⟨_, h3⟩ := List.getElem?_eq_some_iff.mp h1
  rw [List.getElem_range] at h3
  subst h3
  exact h2.symm
def iR1 (f : EA) : EI := fun en => (dats f en).bind fun ds en => match ds with
  | [.int j] => if inRange j = true then .ok (rng 0 j) en else .st
  | _ => .st
def iR2 (f : EA) : EI := fun en => (dats f en).bind fun ds en => match ds with
  | [.int i, .int j] => if inRange i = true ∧ inRange j = true then .ok (rng i j) en else .st
  | _ => .st
theorem inRange_ok {i : Int} (h : inRange i = true) : -(2 ^ 62) ≤ i ∧ i < 2 ^ 62 := by
  unfold inRange at h
  simpa only [Bool.and_eq_true, decide_eq_true_eq] using h
theorem walk_rng {lo : Int} {hi : Int} : Walk K F A G (Itr lo (hi - lo).toNat) (rng lo hi) :=
  walk_fn walk_range (by unfold rng; rw [List.length_map, List.length_range]) (fun _ _ _ _ _ _ => trivial) fun i d h G' => rng_get h ▸ rfl
theorem sound_r1 {E : XE} {t : TA} {f : EA} (h : SoundA K mg E t f) : SoundI K mg E (iRng1 t) (iR1 f) := by
  intro F A G en σ H R Q k
  refine h.dats R (Then.imp (Then.bind k) (fun ds en1 k1 vs G' H' g R' r => ?_) fun _ _ z => z)
  match ds, k1, r with
  | [.int j], k1, r =>
    have k2 : Then (if inRange j = true then Rs.ok (rng 0 j) en1 else .st) (KoI K F A G σ Q) (KeE K mg E F A G σ) := k1
    obtain ⟨v, r', rfl, h1, h2⟩ := r
    cases (show v = V.int j from h1)
    cases (show r' = [] from h2)
    by_cases hj : inRange j = true
    · rw [if_pos hj] at k2
      obtain ⟨b1, b2⟩ := inRange_ok hj
      refine ⟨j, rfl, b1, b2, k2 _ F G' H' (fun _ _ z => z) g R' ?_⟩
      have := walk_rng (K := K) (F := F) (A := A) (G := G') (lo := 0) (hi := j)
      rwa [Int.sub_zero] at this
    · rw [if_neg hj] at k2; exact k2.elim
theorem sound_r2 {E : XE} {t : TA} {f : EA} (h : SoundA K mg E t f) : SoundI K mg E (iRng2 t) (iR2 f) := by
  intro F A G en σ H R Q k
  refine h.dats R (Then.imp (Then.bind k) (fun ds en1 k1 vs G' H' g R' r => ?_) fun _ _ z => z)
  match ds, k1, r with
  | [.int i, .int j], k1, r =>
    have k2 : Then (if inRange i = true ∧ inRange j = true then Rs.ok (rng i j) en1 else .st) (KoI K F A G σ Q) (KeE K mg E F A G σ) := k1
    obtain ⟨v, r', rfl, h1, h2⟩ := r
    obtain ⟨v2, r2, rfl, h3, h4⟩ := h2
    cases (show v = V.int i from h1)
    cases (show v2 = V.int j from h3)
    cases (show r2 = [] from h4)
    by_cases hj : inRange i = true ∧ inRange j = true
    · rw [if_pos hj] at k2
      obtain ⟨b1, b2⟩ := inRange_ok hj.1
      obtain ⟨b3, b4⟩ := inRange_ok hj.2
      exact ⟨i, j, rfl, ⟨b1, b2, b3, b4⟩, k2 _ F G' H' (fun _ _ z => z) g R' walk_rng⟩
    · rw [if_neg hj] at k2; exact k2.elim
end
end Fx

set_option Elab.async false
set_option linter.all false
set_option maxRecDepth 100000
namespace Fx
open PySem PySem.Spec PyProof.Rows L2

/-! ### enumerate of a tuple -/
section
variable {prog : Program} {w : World} {A : Around} {E : Value → Shared → Prop} {s : Shared}
set_option maxHeartbeats 1000000 in
theorem enum_new1 {v : Value} {o : Obj} {J : Heap → Prop} (B : Begins v o J) :
    Meets (Builtin.«enumerate.__new__» ⟨[.type "enumerate", v], []⟩) (fun _ R s => J s.heap ∧
      R (.ok (.ret (.ref (s.heap.push o).objs.size))) { s with heap := (s.heap.push o).push { cls := .type "enumerate", data := .fields #[.none, .bool false, .ref s.heap.objs.size, rawInt 0, .none, .none] } }) := by
  refine .of_wp fun pr wo ar R st hj => ?_
  obtain ⟨hp, ge, dr, tk, os⟩ := st
  obtain ⟨h1, h2⟩ := hj
  have sub := sub_enumerate
  have it : ∀ {A' : Around} {E' : Value → Shared → Prop} {Q : Value → Shared → Prop}, Q (.ref hp.objs.size) ⟨hp.push o, ge, dr, tk, os⟩ →
      wpAny (model pr wo) A' (pyIter v) Q E' ⟨hp, ge, dr, tk, os⟩ := fun q => B.iter pr wo _ _ ⟨hp, ge, dr, tk, os⟩ _ h1 q
  wp_walk using it
  refine wpAny_stack_any fun frames => wpAny_pure ?_
  split
  · rename_i c _ _ _ _ _
    cases hc : (c == Value.type "enumerate") <;> (wp_walk using it; exact ⟨_, rfl, h2⟩)
  · wp_walk using it
    exact ⟨_, rfl, h2⟩
/-- enumerate(v): the iterator of v, then its own cell -/
theorem enum_call1 {v : Value} {o : Obj} {J : Heap → Prop} {Q : Value → Shared → Prop} (B : Begins v o J) (hj : J s.heap)
    (k : ∀ h', IsEnum h' (s.heap.objs.size + 1) s.heap.objs.size 0 .none → h'.get? s.heap.objs.size = some o →
      (∀ b u, s.heap.get? b = some u → h'.get? b = some u) → Q (.ref (s.heap.objs.size + 1)) { s with heap := h' }) :
    wpAny (model prog w) A (call (.type "enumerate") [v]) Q E s := by
  have sz : (s.heap.push o).objs.size = s.heap.objs.size + 1 := Heap.size_push ..
  refine callType_new F.called_enumerate (by decide) (F.typeCall_enumerate_1 _) (F.newCall_enumerate_1 _) (fun ob => F.args_object_init_2 ob _) F.entry_enumerate_new (enum_new1 B) ⟨hj, ?_⟩
  show _ ∧ _
  rw [sz]
  have own := Heap.get?_push_size (s.heap.push o) (o := { cls := .type "enumerate", data := .fields #[.none, .bool false, .ref s.heap.objs.size, rawInt 0, .none, .none] }) rfl
  rw [sz] at own
  refine ⟨⟨_, own, rfl⟩, k _ own (Heap.get?_push_of_some _ (Heap.get?_push_size _ B.free)) ?_⟩
  intro b u q
  exact Heap.get?_push_of_some _ (Heap.get?_push_of_some _ q)
end
/-- the tuple at a as it stands, each item in a new pair -/
def Itet (K : PySem.W.Frag) (a : Addr) : It where
  go := fun i H => ∃ (xs : List V) (x : V), SqT K H a xs ∧ xs[i]? = some x
  yld := fun i H v H' => ∃ T x, v = .ref T ∧ H T = none ∧ H' = upd H T (.tup [.int (i : Nat), x]) ∧ ∀ xs, SqT K H a xs → xs[i]? = some x
  stop := fun i H => ∃ xs : List V, SqT K H a xs ∧ xs.length = i
theorem turn_enumT {P : Program} {w : World} {K : PySem.W.Frag} {elts : List Expr} {kk : Nat} {tpos : Pos} (a e it : Addr) :
    Turn P w K (.Tuple elts kk tpos) (Itet K a) [e, it] e (fun i h => (∃ old, IsEnum h e it ((i : Nat) : Int) old) ∧ h.IsTupleIter it a i ∧ e ≠ it ∧ a ≠ it ∧ a ≠ e) where
  mem := List.mem_cons_self
  obj := by
    rintro i h ⟨⟨old, he⟩, ⟨o, ho, _, hd⟩, _⟩ b hb
    rcases List.mem_cons.mp hb with rfl | hb
    · exact ⟨_, he, fun v q => nomatch q⟩
    · rcases List.mem_cons.mp hb with rfl | hb
      · exact ⟨o, ho, fun v q => by rw [hd] at q; cases q⟩
      · cases hb
  keep := by
    rintro i h h' ⟨⟨old, he⟩, hi, n1, n2⟩ k
    exact ⟨⟨old, k e (by simp) _ he⟩, hi.at fun o q => k it (by simp) o q, n1, n2⟩
  item := by
    intro X e1 e2 e3 hc i pins s σ H E I hf st hg
    subst e1 e2 e3
    obtain ⟨⟨old, he⟩, hit, hne, hai, hae⟩ := st
    obtain ⟨xs, x, hq, hx⟩ := hg
    obtain ⟨its, rv, p, hz⟩ := I.tuple hq
    obtain ⟨u, hu, ru⟩ := rv.get hx
    have ltE : e < s.heap.objs.size := Heap.lt_size he
    have ltI : it < s.heap.objs.size := by obtain ⟨_, q, _⟩ := hit; exact Heap.lt_size q
    have tup : s.heap.IsTuple a its.toArray := p
    have D := Draws.tuple (prog := X.prog) (w := X.w) (A := X.A.in1) (show X.A.in1.handled = none from I.ok.hd hc) it a hai its.toArray
    refine wpAny_pyNext_enum_itemD D he ⟨hit, tup⟩ (by have := (List.getElem?_eq_some_iff.mp hu).1; simpa using this) hne (by
      intro z
      rcases List.mem_cons.mp z with z | z
      · exact hne z
      · exact hae (List.mem_singleton.mp z).symm) fun u' h' tk hP ho hst hT hsz hk => ?_
    have eu : u' = u := by
      have : its.toArray[i]? = some u' := hP
      rw [List.getElem?_toArray, hu] at this
      exact (Option.some.inj this).symm
    subst eu
    refine ⟨_, rfl, wpAny_letOwnedTupleGo_enum (s := { s with heap := h', toks := tk + 1 }) ho fun h2 he2 sb => ?_⟩
    have hT2 : h2.get? s.heap.objs.size = some { cls := .type "tuple", data := .seq #[.int i tk, u'] } := (sb.2 _ (Nat.ne_of_gt ltE)).trans hT
    have new : ObjOk X.prog X.w (upd H s.heap.objs.size (.tup [.int (i : Nat), x])) h2 s.heap.objs.size (.tup [.int (i : Nat), x]) :=
      ⟨Nat.le_trans (by decide : 2 ≤ 65536) (size_of (Nat.le_refl _)), [.int i tk, u'], .cons ⟨_, rfl⟩ (.cons ru .nil), ⟨_, hT2, rfl, _, rfl⟩⟩
    have I1 := I.turnedNew (t' := tk + 1) (ch := [e, it]) (h' := h2) (fun b ob hb q => by
      have b1 : b ≠ e := fun z => hb (by rw [z]; exact List.mem_cons_self)
      have b2 : b ≠ it := fun z => hb (by rw [z]; simp)
      exact (sb.2 b b1).trans (hk b ob b1 b2 q)) hf (Nat.le_refl _) new
    refine ⟨.ref s.heap.objs.size, _, I1, rfl, ⟨_, x, rfl, I.hok.fresh (Nat.le_refl _), rfl, fun ys hy => ?_⟩, ⟨⟨u', ?_⟩, hst.1.at fun o q => (sb.2 it (Ne.symm hne)).trans q, hne, hai, hae⟩, fun b hb => ?_⟩
    · rw [I.tuple_inj hy hq]; exact hx
    · have : ((i + 1 : Nat) : Int) = (i : Int) + 1 := by omega
      rw [this]
      exact he2
    · have : b < s.heap.objs.size := by
        rcases List.mem_cons.mp hb with z | z
        · rw [z]; exact ltE
        · rw [List.mem_singleton.mp z]; exact ltI
      rw [upd_ne (Nat.ne_of_lt this)]
      exact (hf b hb).1
  done := by
    intro X e1 e2 e3 hc i pins s σ H E I hf st hg
    subst e1 e2 e3
    obtain ⟨⟨old, he⟩, hit, hne, hai, hae⟩ := st
    obtain ⟨xs, hq, hx⟩ := hg
    obtain ⟨its, rv, p, hz⟩ := I.tuple hq
    have tup : s.heap.IsTuple a its.toArray := p
    have D := Draws.tuple (prog := X.prog) (w := X.w) (A := X.A.in1) (show X.A.in1.handled = none from I.ok.hd hc) it a hai its.toArray
    obtain ⟨f0, f1, f2, f3, f4, f5⟩ := hf it (by simp)
    have sz : its.toArray.size = i := by rw [List.size_toArray, ← rv.length, hx]
    refine wpAny_pyNext_enum_endD D he ⟨by rw [sz]; exact hit, tup⟩ fun h' eb => ⟨rfl, ?_⟩
    exact I.turned (t' := s.toks) (fun b o hb q => eb b o hb q) f0 f1 f3 f4 f5
  self := by
    rintro A i s Q E ⟨⟨_, he⟩, _⟩ h
    exact wpAny_pyIter_enum he h
def iEnumT (K : PySem.W.Frag) (ta : TA) : TI := fun σ H R => ta σ H fun vs H1 => ∃ a xs, vs = [.ref a] ∧ SqT K H1 a xs ∧ R (Itet K a) H1
theorem pi_enumT {X : Cx} {e : Expr} {ta : TA} {p pos tpos : Pos} {elts : List Expr} {kk : Nat} (hg : Gl X "enumerate") (hm : X.mg "enumerate" = none) (ha : PA X [e] ta) (hs : starEach [e] X.env = [(false, eval e X.env)] := by rfl) :
    PI X (.Tuple elts kk tpos) (.Call (.Name "enumerate" p) [e] [] pos) (iEnumT X.K ta) := by
  constructor
  intro pins s σ H R I h
  refine Call_ (ld_blt I hg hm boot_enumerate (PyProof.Rows.callWith_type1 (thn (ha.run pos pins s σ H _ I h) ?_) hs rfl))
  rintro us s1 ⟨vs, H1, I1, r1, a, xs, rfl, hq, q⟩
  obtain ⟨u, rfl, ru⟩ := vals1 r1
  cases ru
  obtain ⟨its, rv, p', hz⟩ := I1.tuple hq
  have tup : s1.heap.IsTuple a its.toArray := p'
  have la : a < s1.heap.objs.size := p'.lt
  refine enum_call1 (begins_tuple a its.toArray) tup fun h' he hit hk => wpAny_pyIter_enum he ?_
  have I2 : Inv X pins σ H1 { s1 with heap := h' } := I1.kept (t' := s1.toks) hk
  refine ⟨s1.heap.objs.size + 1, [s1.heap.objs.size + 1, s1.heap.objs.size], _, _, H1, rfl, I2, turn_enumT a (s1.heap.objs.size + 1) s1.heap.objs.size,
    ⟨⟨.none, he⟩, ⟨_, hit, rfl, rfl⟩, Nat.succ_ne_self _, Nat.ne_of_lt la, Nat.ne_of_lt (Nat.lt_succ_of_lt la)⟩, fun b hb => ?_, q⟩
  have big : s1.heap.objs.size ≤ b := by
    rcases List.mem_cons.mp hb with z | z
    · rw [z]; exact Nat.le_add_right _ _
    · rw [List.mem_singleton.mp z]; exact Nat.le_refl _
  exact I1.fpOk big (I1.hok.fresh big)
section
variable {K : PySem.W.Frag} {mg : Str → Option Value} {F : Hp} {A : List Addr} {G H : Hp} {en : En} {σ : L2.St}
def pairsOf (ds : List D) : List D := (ds.zipIdx).map fun p => .tuple [.int (p.2 : Nat), p.1]
theorem pairsOf_get {ds : List D} {i : Nat} {d : D} (h : (pairsOf ds)[i]? = some d) : ∃ x, ds[i]? = some x ∧ d = .tuple [.int (i : Nat), x] := by
  unfold pairsOf at h
  rw [List.getElem?_map, List.getElem?_zipIdx] at h
  obtain ⟨p, h1, h2⟩ := Option.map_eq_some_iff.mp h
  obtain ⟨x, h3, h4⟩ := Option.map_eq_some_iff.mp h1
  subst h4
  rw [Nat.zero_add] at h2
  exact ⟨x, h3, h2.symm⟩
theorem pairsOf_length (ds : List D) : (pairsOf ds).length = ds.length := by unfold pairsOf; rw [List.length_map, List.length_zipIdx]
def iEnm (f : EE) : EI := fun en => (dat f en).bind fun d en => match d with
  | .list ds => .ok (pairsOf ds) en
  | .tuple ds => .ok (pairsOf ds) en
  | _ => .st
def iEnumA (K : PySem.W.Frag) (t : TE) : TI := fun σ H R => iEnum K (tCons t tNil) σ H R ∨ iEnumT K (tCons t tNil) σ H R
theorem pi_or {X : Cx} {tg e : Expr} {w1 w2 : TI} (h1 : PI X tg e w1) (h2 : PI X tg e w2) : PI X tg e (fun σ H R => w1 σ H R ∨ w2 σ H R) :=
  ⟨fun pins s σ H R I h => h.elim (h1.run pins s σ H R I) (h2.run pins s σ H R I)⟩
theorem walk_enumT {a : Addr} {xs : List V} : L2.Walk (Itet K a) xs.length (fun H => SqT K H a xs ∧ ∀ ys, SqT K H a ys → ys = xs) (YPair (fun i => some (.int (i : Nat))) (fun i => xs[i]?)) :=
  ⟨fun i H hi h => ⟨xs, xs[i], h.1, List.getElem?_eq_getElem hi⟩, fun H h => ⟨xs, h.1, rfl⟩, fun i H v H' hi h y => by
    obtain ⟨T, x, e, n, e2, q⟩ := y
    exact ⟨T, .int (i : Nat), x, e, n, e2, rfl, q xs h.1⟩⟩
theorem sound_enm {E : XE} {t : TE} {f : EE} (h : SoundE K mg E t f) : SoundI K mg E (iEnumA K t) (iEnm f) := by
  intro F A G en σ H R Q k
  have k := Then.bind (show Then ((dat f en).bind fun d en => match d with
    | .list ds => Rs.ok (pairsOf ds) en
    | .tuple ds => .ok (pairsOf ds) en
    | _ => .st) (KoI K F A G σ Q) (KeE K mg E F A G σ) from k)
  cases e : dat f en with
  | st => rw [e] at k; exact k.elim
  | er x en1 =>
    refine .inl (h.dat R (Q := fun v H1 => tNil σ H1 fun vs H2 => _) ?_)
    rw [e] at k ⊢
    exact k
  | ok d en1 =>
    have k' := k
    rw [e] at k'
    have pr : ∀ {ds : List D} {xs : List V} {G' : Hp}, Rvs K G' ds xs → ∀ (i : Nat) d, (pairsOf ds)[i]? = some d → ∃ a b x y, d = .tuple [a, b] ∧ some (V.int (i : Nat)) = some x ∧ xs[i]? = some y ∧ Rv K G' a x ∧ Rv K G' b y := fun {ds xs G'} r i d hd => by
      obtain ⟨x, h1, rfl⟩ := pairsOf_get hd
      obtain ⟨v, h2, h3⟩ := r.get h1
      exact ⟨_, _, _, v, rfl, rfl, h2, rfl, h3⟩
    cases d with
    | list ds =>
      refine .inl (h.dat R (Q := fun v H1 => tNil σ H1 fun vs H2 => _) ?_)
      rw [e]
      intro v G' H' g R' r
      obtain ⟨a, vs, rfl, h1, h2⟩ := r
      refine ⟨a, vs, rfl, sqL_le R'.gx h1, k' _ F G' H' (fun _ _ z => z) g R' ?_⟩
      exact walk_pair walk_enum ((pairsOf_length ds).trans h2.length.symm) (fun G2 _ _ _ g2 R2 => sqL_le (g2.toLe.trans R2.gx) h1) (pr h2)
    | tuple ds =>
      refine .inr (h.dat R (Q := fun v H1 => tNil σ H1 fun vs H2 => _) ?_)
      rw [e]
      intro v G' H' g R' r
      obtain ⟨a, vs, rfl, h1, h2⟩ := r
      refine ⟨a, vs, rfl, (h1.le R'.gx).sq, k' _ F G' H' (fun _ _ z => z) g R' ?_⟩
      have w : L2.Walk (Itet K a) vs.length (fun H => SqT K H a vs) (YPair (fun i => some (.int (i : Nat))) (fun i => vs[i]?)) :=
        ⟨fun i H hi h => ⟨vs, vs[i], h, List.getElem?_eq_getElem hi⟩, fun H h => ⟨vs, h, rfl⟩, fun i H v H' hi h y => by
          obtain ⟨T, x, e, n, e2, q⟩ := y
          exact ⟨T, .int (i : Nat), x, e, n, e2, rfl, q vs h⟩⟩
      exact walk_pair w ((pairsOf_length ds).trans h2.length.symm) (fun G2 _ _ _ g2 R2 => (h1.le (g2.toLe.trans R2.gx)).sq) (pr h2)
    | _ => exact k'.elim
end
end Fx

set_option Elab.async false
set_option linter.all false
set_option maxRecDepth 100000
namespace Fx
open PySem PySem.Spec PyProof.Rows L2

section
variable {K : PySem.W.Frag} {mg : Str → Option Value} {F : Hp} {A : List Addr} {G H : Hp} {en : En} {σ : L2.St}
/-- a tuple that stands is told as data -/
theorem Rp.tup (R : Rp K F A G en σ H) {q : Addr} {xs : List V} (hq : H q = some (.tup xs)) : ∃ G', (∀ F', Grow F' G G') ∧ Rp K F A G' en σ H ∧ G' q = some (.tup xs) := by
  rcases R.gx.tq q xs hq with g | g
  · have gr : ∀ F', Grow F' G (upd G q (.tup xs)) := fun F' => ⟨fun b o e => by rw [upd_ne (ne_of_none e g)]; exact e, fun b e e' => by
      by_cases z : b = q
      · subst z; exact .inr ⟨xs, upd_same⟩
      · rw [upd_ne z] at e'; exact absurd e e'⟩
    have nq : ∀ {d : D} {a : Addr}, Own K G H d a → a ≠ q := fun {d a} o z => by
      obtain ⟨u, hu, cu, _⟩ := o.some
      rw [z, hq] at hu
      cases hu
      cases cu
    refine ⟨_, gr, ⟨R.fx, ⟨fun b ys e => ?_, fun b w c e => ?_, fun b e => ?_, fun b ys e => ?_⟩, R.len, fun i d e => ?_, fun i d e => ?_, fun i k d e => ?_, R.dj, R.ij, R.nd, R.al, fun b o e e' => ?_⟩, upd_same⟩
    · by_cases z : b = q
      · subst z; rw [upd_same] at e; cases e; exact hq
      · rw [upd_ne z] at e; exact R.gx.tp b ys e
    · by_cases z : b = q
      · subst z
        rcases e with e | ⟨o, e⟩
        · rw [upd_same] at e; cases e; cases c
        · rw [upd_same] at e; cases e
      · refine R.gx.rd b w c ?_
        rcases e with e | ⟨o, e⟩
        · rw [upd_ne z] at e; exact .inl e
        · rw [upd_ne z] at e; exact .inr ⟨o, e⟩
    · by_cases z : b = q
      · subst z; rw [hq] at e; cases e
      · rw [upd_ne z]; exact R.gx.dm b e
    · by_cases z : b = q
      · subst z; rw [hq] at e; cases e; exact .inr upd_same
      · rw [upd_ne z]; exact R.gx.tq b ys e
    · obtain ⟨v, h1, h2⟩ := R.fz i d e
      exact ⟨v, h1, Rv.le (gr F).toLe d v h2⟩
    · obtain ⟨a, h1, h2, h3, h4, h5⟩ := R.ow i d e
      exact ⟨a, h1, h2.step (gr F).toLe rfl, h3, by rw [upd_ne (nq h2)]; exact h4, h5⟩
    · obtain ⟨a, h1, ha, h2, h3, h4⟩ := R.io i k d e
      exact ⟨a, h1, ha, h2.step (gr F).toLe rfl, h3, by rw [upd_ne (nq h2)]; exact h4⟩
    · by_cases z : b = q
      · subst z
        have := R.fx b o e
        rw [hq] at this
        cases this
        exact .inr ⟨xs, rfl⟩
      · rw [upd_ne z] at e'; exact R.fg b o e e'
  · exact ⟨G, fun _ => .refl _ _, R, g⟩
theorem upd_id {H : Hp} {a : Addr} {u : HO} (h : H a = some u) : upd H a u = H := by
  funext b
  by_cases z : b = a
  · subst z; rw [upd_same, h]
  · rw [upd_ne z]
/-- frozen data is locked for good -/
theorem Rp.lock (R : Rp K F A G en σ H) {a : Addr} {u : HO} (cu : Cn u = true) (hg : Rd G a u) (o : Obj) (ho : H a = some u ∨ H a = some (.frz o u)) :
    ∃ F', (∀ b o, F b = some o → F' b = some o) ∧ Rp K F' A G en σ (upd H a (.frz o u)) ∧ F' a = some (.frz o u) := by
  have gn : G a ≠ none := by rcases hg with e | ⟨_, e⟩ <;> (rw [e]; exact fun z => nomatch z)
  rcases ho with ho | ho
  · have fa : F a = none := by
      cases e : F a with
      | none => rfl
      | some w =>
        have := R.fx a w e
        rw [ho] at this
        cases this
        rcases R.fg a u e gn with ⟨_, _, z⟩ | ⟨_, z⟩ <;> (rw [z] at cu; cases cu)
    have na : ∀ {d : D} {b : Addr}, G b = none → b ≠ a := fun {d b} e z => gn (z ▸ e)
    refine ⟨upd F a (.frz o u), fun b w e => by rw [upd_ne (ne_of_none e fa)]; exact e, ⟨fun b w e => ?_, ⟨fun b ys e => ?_, fun b w c e => ?_, fun b e => ?_, fun b ys e => ?_⟩, R.len, R.fz, fun i d e => ?_, fun i k d e => ?_, R.dj, R.ij, R.nd, fun b hb e => ?_, fun b w e e' => ?_⟩, upd_same⟩
    · by_cases z : b = a
      · subst z; rw [upd_same] at e ⊢; exact e
      · rw [upd_ne z] at e ⊢; exact R.fx b w e
    · have q := R.gx.tp b ys e
      by_cases z : b = a
      · subst z; rw [ho] at q; cases q; cases cu
      · rw [upd_ne z]; exact q
    · have q := R.gx.rd b w c e
      by_cases z : b = a
      · subst z
        rcases q with q | ⟨o', q⟩
        · rw [ho] at q; cases q; exact .inr ⟨o, upd_same⟩
        · rw [ho] at q; cases q; cases cu
      · rcases q with q | ⟨o', q⟩
        · exact .inl (by rw [upd_ne z]; exact q)
        · exact .inr ⟨o', by rw [upd_ne z]; exact q⟩
    · by_cases z : b = a
      · subst z; rw [upd_same] at e; cases e
      · rw [upd_ne z] at e; exact R.gx.dm b e
    · by_cases z : b = a
      · subst z; rw [upd_same] at e; cases e
      · rw [upd_ne z] at e; exact R.gx.tq b ys e
    · obtain ⟨b, h1, h2, h3, h4, h5⟩ := R.ow i d e
      have nb : b ≠ a := fun z => gn (z ▸ h4)
      exact ⟨b, h1, h2.step (.refl _) (by rw [upd_ne nb]), by rw [upd_ne nb]; exact h3, h4, h5⟩
    · obtain ⟨b, h1, hA, h2, h3, h4⟩ := R.io i k d e
      have nb : b ≠ a := fun z => gn (z ▸ h4)
      exact ⟨b, h1, hA, h2.step (.refl _) (by rw [upd_ne nb]), by rw [upd_ne nb]; exact h3, h4⟩
    · by_cases z : b = a
      · subst z; rw [upd_same] at e; cases e
      · rw [upd_ne z] at e; exact R.al b hb e
    · by_cases z : b = a
      · subst z; rw [upd_same] at e; cases e; exact .inl ⟨_, _, rfl⟩
      · rw [upd_ne z] at e; exact R.fg b w e e'
  · rw [upd_id ho]
    cases e : F a with
    | some w =>
      have := R.fx a w e
      rw [ho] at this
      cases this
      exact ⟨F, fun _ _ z => z, R, e⟩
    | none =>
      have na : ∀ b, G b = none → b ≠ a := fun b e z => gn (z ▸ e)
      refine ⟨upd F a (.frz o u), fun b w e' => by rw [upd_ne (ne_of_none e' e)]; exact e', ⟨fun b w e' => ?_, R.gx, R.len, R.fz, fun i d e' => ?_, fun i k d e' => ?_, R.dj, R.ij, R.nd, R.al, fun b w e1 e2 => ?_⟩, upd_same⟩
      · by_cases z : b = a
        · subst z; rw [upd_same] at e'; rw [ho]; exact e'
        · rw [upd_ne z] at e'; exact R.fx b w e'
      · obtain ⟨b, h1, h2, h3, h4, h5⟩ := R.ow i d e'
        exact ⟨b, h1, h2, by rw [upd_ne (na b h4)]; exact h3, h4, h5⟩
      · obtain ⟨b, h1, hA, h2, h3, h4⟩ := R.io i k d e'
        exact ⟨b, h1, hA, h2, by rw [upd_ne (na b h4)]; exact h3, h4⟩
      · by_cases z : b = a
        · subst z; rw [upd_same] at e1; cases e1; exact .inl ⟨_, _, rfl⟩
        · rw [upd_ne z] at e1; exact R.fg b w e1 e2
end

/-! ### keys -/
def kkK : D → Option Key
  | .int i => some (.inl i)
  | .str x => some (.inr x)
  | _ => none
def kkL : List D → Option (List Key)
  | [] => some []
  | d :: ds => match kkK d, kkL ds with
    | some k, some ks => some (k :: ks)
    | _, _ => none
def kk : D → Option (Key ⊕ List Key)
  | .tuple ds => (kkL ds).map Sum.inr
  | d => (kkK d).map Sum.inl
theorem kkK_kD (k : Key) : kkK (kD k) = some k := by cases k <;> rfl
theorem kkL_map : ∀ ks : List Key, kkL (ks.map kD) = some ks
  | [] => rfl
  | k :: ks => by rw [List.map_cons, kkL, kkK_kD, kkL_map ks]
theorem kk_kD (k : Key) : kk (kD k) = some (.inl k) := by cases k <;> rfl
theorem kk_tD (k : List Key) : kk (tD k) = some (.inr k) := by
  show (kkL (k.map kD)).map Sum.inr = _
  rw [kkL_map]
  rfl
theorem kkK_of {d : D} {k : Key} (h : kkK d = some k) : d = kD k := by
  cases d <;> cases h <;> rfl
theorem kkL_of : ∀ {ds : List D} {ks : List Key}, kkL ds = some ks → ds = ks.map kD
  | [], _, h => by cases h; rfl
  | d :: ds, ks, h => by
    unfold kkL at h
    cases e1 : kkK d with
    | none => rw [e1] at h; cases h
    | some k =>
      cases e2 : kkL ds with
      | none => rw [e1, e2] at h; cases h
      | some r => rw [e1, e2] at h; cases h; rw [List.map_cons, ← kkK_of e1, ← kkL_of e2]
theorem kk_inl {d : D} {k : Key} (h : kk d = some (.inl k)) : d = kD k := by
  cases d with
  | tuple ds =>
    obtain ⟨r, _, h⟩ := Option.map_eq_some_iff.mp (show (kkL ds).map Sum.inr = some (Sum.inl k) from h)
    cases h
  | int i => cases h; rfl
  | str x => cases h; rfl
  | none => cases h
  | bool b => cases h
  | list ds => cases h
  | dict kvs => cases h
theorem kk_inr {d : D} {k : List Key} (h : kk d = some (.inr k)) : d = tD k := by
  cases d with
  | tuple ds =>
    obtain ⟨r, h1, h⟩ := Option.map_eq_some_iff.mp (show (kkL ds).map Sum.inr = some (Sum.inr k) from h)
    cases h
    rw [kkL_of h1]
    rfl
  | int i => cases h
  | str x => cases h
  | none => cases h
  | bool b => cases h
  | list ds => cases h
  | dict kvs => cases h
/-- what stands at the key -/
def dGet (kvs : List (D × D)) (k : D) : Option D := (kvs.find? fun p => decide (kk p.1 = kk k)).map (·.2)
def dPut (kvs : List (D × D)) (k v : D) : List (D × D) := if (kvs.any fun p => decide (kk p.1 = kk k)) = true then kvs.map (fun p => if kk p.1 = kk k then (p.1, v) else p) else kvs ++ [(k, v)]
section
variable {K : PySem.W.Frag} {G : Hp}
theorem RvK.val {k : Key} : ∀ {kvs : List (D × D)} {xs : List (Key × V)}, RvK K G kvs xs → match dGet kvs (kD k) with
    | some d => ∃ v, valV xs k = some v ∧ Rv K G d v
    | none => valV xs k = none
  | [], _, h => by cases h; rfl
  | (a, d) :: r, _, ⟨q, v, s, e, e2, h1, h2⟩ => by
    subst e
    subst e2
    have ih := RvK.val (k := k) h2
    by_cases z : q = k
    · subst z
      have : dGet ((kD q, d) :: r) (kD q) = some d := by unfold dGet; rw [List.find?_cons_of_pos (by simp)]; rfl
      rw [this]
      exact ⟨v, valV_pos (p := (q, v)) rfl, h1⟩
    · have : dGet ((kD q, d) :: r) (kD k) = dGet r (kD k) := by
        unfold dGet
        rw [List.find?_cons_of_neg (by rw [kk_kD, kk_kD]; simpa using z)]
      rw [this, valV_neg (p := (q, v)) z]
      exact ih
theorem RvT.val {k : List Key} : ∀ {kvs : List (D × D)} {xs : List (List Key × V)}, RvT K G kvs xs → match dGet kvs (tD k) with
    | some d => ∃ v, valV xs k = some v ∧ Rv K G d v
    | none => valV xs k = none
  | [], _, h => by cases h; rfl
  | (a, d) :: r, _, ⟨q, v, s, e, e2, h1, h2⟩ => by
    subst e
    subst e2
    have ih := RvT.val (k := k) h2
    by_cases z : q = k
    · subst z
      have : dGet ((tD q, d) :: r) (tD q) = some d := by unfold dGet; rw [List.find?_cons_of_pos (by simp)]; rfl
      rw [this]
      exact ⟨v, valV_pos (p := (q, v)) rfl, h1⟩
    · have : dGet ((tD q, d) :: r) (tD k) = dGet r (tD k) := by
        unfold dGet
        rw [List.find?_cons_of_neg (by rw [kk_tD, kk_tD]; simpa using z)]
      rw [this, valV_neg (p := (q, v)) z]
      exact ih
theorem RvK.length : ∀ {kvs : List (D × D)} {xs : List (Key × V)}, RvK K G kvs xs → xs.length = kvs.length
  | [], _, h => by cases h; rfl
  | (a, d) :: r, _, ⟨q, v, s, e, e2, h1, h2⟩ => by subst e; rw [List.length_cons, List.length_cons, RvK.length h2]
theorem RvT.length : ∀ {kvs : List (D × D)} {xs : List (List Key × V)}, RvT K G kvs xs → xs.length = kvs.length
  | [], _, h => by cases h; rfl
  | (a, d) :: r, _, ⟨q, v, s, e, e2, h1, h2⟩ => by subst e; rw [List.length_cons, List.length_cons, RvT.length h2]
theorem RvK.any {k : Key} : ∀ {kvs : List (D × D)} {xs : List (Key × V)}, RvK K G kvs xs → (kvs.any fun p => decide (kk p.1 = kk (kD k))) = xs.any fun p => decide (p.1 = k)
  | [], _, h => by cases h; rfl
  | (a, d) :: r, _, ⟨q, v, s, e, e2, h1, h2⟩ => by
    subst e
    subst e2
    rw [List.any_cons, List.any_cons, RvK.any h2]
    simp only [kk_kD, Option.some.injEq, Sum.inl.injEq]
theorem RvT.any {k : List Key} : ∀ {kvs : List (D × D)} {xs : List (List Key × V)}, RvT K G kvs xs → (kvs.any fun p => decide (kk p.1 = kk (tD k))) = xs.any fun p => decide (p.1 = k)
  | [], _, h => by cases h; rfl
  | (a, d) :: r, _, ⟨q, v, s, e, e2, h1, h2⟩ => by
    subst e
    subst e2
    rw [List.any_cons, List.any_cons, RvT.any h2]
    simp only [kk_tD, Option.some.injEq, Sum.inr.injEq]
theorem RvK.snoc {k : Key} {d : D} {v : V} (hv : Rv K G d v) : ∀ {kvs : List (D × D)} {xs : List (Key × V)}, RvK K G kvs xs → RvK K G (kvs ++ [(kD k, d)]) (xs ++ [(k, v)])
  | [], _, h => by cases h; exact ⟨k, v, [], rfl, rfl, hv, rfl⟩
  | (a, d') :: r, _, ⟨q, w, s, e, e2, h1, h2⟩ => by subst e; exact ⟨q, w, _, rfl, e2, h1, RvK.snoc hv h2⟩
theorem RvT.snoc {k : List Key} {d : D} {v : V} (hv : Rv K G d v) : ∀ {kvs : List (D × D)} {xs : List (List Key × V)}, RvT K G kvs xs → RvT K G (kvs ++ [(tD k, d)]) (xs ++ [(k, v)])
  | [], _, h => by cases h; exact ⟨k, v, [], rfl, rfl, hv, rfl⟩
  | (a, d') :: r, _, ⟨q, w, s, e, e2, h1, h2⟩ => by subst e; exact ⟨q, w, _, rfl, e2, h1, RvT.snoc hv h2⟩
theorem RvK.repl {k : Key} {d : D} {v : V} (hv : Rv K G d v) : ∀ {kvs : List (D × D)} {xs : List (Key × V)}, RvK K G kvs xs → RvK K G (kvs.map fun p => if kk p.1 = kk (kD k) then (p.1, d) else p) (xs.map fun p => if p.1 = k then (p.1, v) else p)
  | [], _, h => by cases h; exact rfl
  | (a, d') :: r, _, ⟨q, w, s, e, e2, h1, h2⟩ => by
    subst e
    subst e2
    rw [List.map_cons, List.map_cons]
    simp only [kk_kD, Option.some.injEq, Sum.inl.injEq]
    by_cases z : q = k
    · rw [if_pos z, if_pos z]; exact ⟨q, v, _, rfl, rfl, hv, by simpa only [kk_kD] using RvK.repl hv h2⟩
    · rw [if_neg z, if_neg z]; exact ⟨q, w, _, rfl, rfl, h1, by simpa only [kk_kD] using RvK.repl hv h2⟩
theorem RvT.repl {k : List Key} {d : D} {v : V} (hv : Rv K G d v) : ∀ {kvs : List (D × D)} {xs : List (List Key × V)}, RvT K G kvs xs → RvT K G (kvs.map fun p => if kk p.1 = kk (tD k) then (p.1, d) else p) (xs.map fun p => if p.1 = k then (p.1, v) else p)
  | [], _, h => by cases h; exact rfl
  | (a, d') :: r, _, ⟨q, w, s, e, e2, h1, h2⟩ => by
    subst e
    subst e2
    rw [List.map_cons, List.map_cons]
    simp only [kk_tD, Option.some.injEq, Sum.inr.injEq]
    by_cases z : q = k
    · rw [if_pos z, if_pos z]; exact ⟨q, v, _, rfl, rfl, hv, by simpa only [kk_tD] using RvT.repl hv h2⟩
    · rw [if_neg z, if_neg z]; exact ⟨q, w, _, rfl, rfl, h1, by simpa only [kk_tD] using RvT.repl hv h2⟩
theorem RvK.put {kvs : List (D × D)} {xs : List (Key × V)} (h : RvK K G kvs xs) (k : Key) {d : D} {v : V} (hv : Rv K G d v) : RvK K G (dPut kvs (kD k) d) (putK xs k v) := by
  unfold dPut putK
  rw [h.any]
  split
  · exact h.repl hv
  · exact h.snoc hv
theorem RvT.put {kvs : List (D × D)} {xs : List (List Key × V)} (h : RvT K G kvs xs) (k : List Key) {d : D} {v : V} (hv : Rv K G d v) : RvT K G (dPut kvs (tD k) d) (putK xs k v) := by
  unfold dPut putK
  rw [h.any]
  split
  · exact h.repl hv
  · exact h.snoc hv
/-- the keys of a tuple -/
theorem kVs_of : ∀ {ks : List Key} {vs : List V}, Rvs K G (ks.map kD) vs → vs = ks.map kV
  | [], _, h => h
  | k :: ks, _, ⟨v, r, e, h1, h2⟩ => by
    subst e
    rw [List.map_cons, kVs_of h2]
    cases k with
    | inl i => rw [show v = V.int i from h1]; rfl
    | inr x => rw [show v = V.str x from h1]; rfl
theorem kV_of {k : Key} {v : V} (h : Rv K G (kD k) v) : v = kV k := by
  cases k with
  | inl i => exact h
  | inr x => exact h
end
end Fx

set_option Elab.async false
set_option linter.all false
set_option maxRecDepth 100000
namespace Fx
open PySem PySem.Spec PyProof.Rows L2

/-! ### dicts as the layer sees them: an empty dict is of either kind -/
def DK (H : Hp) (a : Addr) (xs : List (Key × V)) : Prop := Rd H a (.dK xs) ∨ (xs = [] ∧ Rd H a (.dT []))
def DT (H : Hp) (a : Addr) (xs : List (List Key × V)) : Prop := Rd H a (.dT xs) ∨ (xs = [] ∧ Rd H a (.dK []))
def Gets (K : PySem.W.Frag) (H : Hp) (a : Addr) (y : V) (o : Option V) : Prop :=
  (∃ xs k, DK H a xs ∧ y = kV k ∧ o = valV xs k) ∨ ∃ xs k b, DT H a xs ∧ y = .ref b ∧ SqT K H b (k.map kV) ∧ o = valV xs k
section
variable {P : Program} {w : World} {H : Hp} {hh : Heap} {a : Addr}
theorem ok_toT (h : ObjOk P w H hh a (.dK [])) : ObjOk P w H hh a (.dT []) := by
  obtain ⟨z, m, vs, r, o, es, ep, h1, h2, h3, _, h5, _⟩ := h
  have : vs = [] := by cases r; rfl
  subst this
  have e0 : es.toList = [] := by
    have := h5.length
    exact List.length_eq_zero_iff.mp this
  exact ⟨z, m, [], .nil, o, es, ep, h1, h2, h3, e0, List.nodup_nil⟩
theorem ok_toK (h : ObjOk P w H hh a (.dT [])) : ObjOk P w H hh a (.dK []) := by
  obtain ⟨z, m, xs, r, o, es, ep, h1, h2, h3, h4, _⟩ := h
  have : xs = [] := by cases r; rfl
  subst this
  have e0 : es = #[] := by
    apply Array.toList_inj.mp
    exact h4
  subst e0
  refine ⟨z, m, [], .nil, o, #[], ep, h1, h2, h3, ?_, .nil, List.nodup_nil⟩
  intro x hx
  exact absurd hx (by simp)
theorem dk_at {xs : List (Key × V)} (ok : HOk P w H hh) (d : DK H a xs) : xs.length ≤ sizeLine ∧ (a == sysModules) = false ∧ ∃ vs, KV xs vs ∧ hh.DictOf (mixKind P w) a vs := by
  rcases d with d | ⟨rfl, d⟩
  · exact dk_rd ok d
  · exact (show ObjOk P w H hh a (.dK []) from ok_toK (rd_of ok d))
theorem dt_at {xs : List (List Key × V)} (ok : HOk P w H hh) (d : DT H a xs) : xs.length ≤ sizeLine ∧ (a == sysModules) = false ∧ ∃ zs, KT H xs zs ∧ hh.DictOfH (tupleKind (mixKind P w)) a zs := by
  rcases d with d | ⟨rfl, d⟩
  · exact dt_rd ok d
  · obtain ⟨z, m, zs, r, o, es, ep, h1, h2, h3, h4, h5⟩ := ok_toT (rd_of ok d)
    refine ⟨z, m, zs, r, o, es, ep, h1, h2, h3, h4, fun x hx => ?_, h5⟩
    cases r
    cases hx
end
section
variable {X : Cx} {pins : List (Addr × Obj)} {σ : L2.St} {H : Hp} {s : Shared} {a : Addr} {y d v : V} {u r : Value} {o : Option V} {A : Around} {E : Value → Shared → Prop}
theorem key_at {b : Addr} {ks : List Key} (I : Inv X pins σ H s) (h : SqT X.K H b (ks.map kV)) : (tupleKind (mixKind X.prog X.w)).is s.heap ks b := by
  obtain ⟨its, rv, ⟨ob, e1, e2, n, e3⟩, _⟩ := I.tuple h
  exact ⟨ob, its.toArray, n, e1, e2, e3, by simpa using items_are rv⟩
theorem isD_gets {K : PySem.W.Frag} (g : Gets K H a y o) : IsD H a := by
  rcases g with ⟨xs, k, d | ⟨_, d⟩, _⟩ | ⟨xs, k, b, d | ⟨_, d⟩, _⟩
  · exact .inl ⟨_, d⟩
  · exact .inr ⟨_, d⟩
  · exact .inr ⟨_, d⟩
  · exact .inl ⟨_, d⟩
theorem get1_run {Q : Value → Shared → Prop} (room : A.units + 1 < cLine) (I : Inv X pins σ H s) (g : Gets X.K H a y o) (ry : RelV y u) (k : ∀ r' s', Inv X pins σ H s' → RelV (o.getD .non) r' → Q r' s') :
    wpAny (model X.prog X.w) A (call (.builtin "dict.get") [.ref a, u]) Q E s := by
  rcases g with ⟨xs, q, d, rfl, rfl⟩ | ⟨xs, q, b, d, rfl, hb, rfl⟩
  · obtain ⟨_, nm, vs, rel, dd⟩ := dk_at I.hok d
    exact call_meetsIn PySem.F.slot_dict_get dd.typeIs PySem.F.entry_dict_get
      (PySem.F.args_dict_get_2 _ _) (meets_dict_get (mixKind X.prog X.w) a (kV_is ry) nm)
      ⟨_, dd.mapOf, k _ _ (I.tok _) ((rel.val q).getD rfl)⟩
  · obtain rfl : u = Value.ref b := ry
    obtain ⟨_, nm, zs, rel, dd⟩ := dt_at I.hok d
    exact call_meetsIn PySem.F.slot_dict_get dd.typeIs PySem.F.entry_dict_get
      (PySem.F.args_dict_get_2 _ _) (meetsH_dict_get (tupleKind (mixKind X.prog X.w)) a b nm)
      ⟨tupleKind_room_in1 room, q, zs, key_at I hb, dd, k _ _ (I.tok _) ((rel.val q).getD rfl)⟩
theorem get2_run {Q : Value → Shared → Prop} (room : A.units + 1 < cLine) (I : Inv X pins σ H s) (g : Gets X.K H a y o) (ry : RelV y u) (rd : RelV d r) (k : ∀ r' s', Inv X pins σ H s' → RelV (o.getD d) r' → Q r' s') :
    wpAny (model X.prog X.w) A (call (.builtin "dict.get") [.ref a, u, r]) Q E s := by
  rcases g with ⟨xs, q, c, rfl, rfl⟩ | ⟨xs, q, b, c, rfl, hb, rfl⟩
  · obtain ⟨_, nm, vs, rel, dd⟩ := dk_at I.hok c
    exact call_meetsIn PySem.F.slot_dict_get dd.typeIs PySem.F.entry_dict_get
      (PySem.F.args_dict_get_3 _ _ _) (meets_dict_get_default (mixKind X.prog X.w) a (kV_is ry) nm r)
      ⟨_, dd.mapOf, k _ _ (I.tok _) ((rel.val q).getD rd)⟩
  · obtain rfl : u = Value.ref b := ry
    obtain ⟨_, nm, zs, rel, dd⟩ := dt_at I.hok c
    exact call_meetsIn PySem.F.slot_dict_get dd.typeIs PySem.F.entry_dict_get
      (PySem.F.args_dict_get_3 _ _ _) (meetsH_dict_get_default (tupleKind (mixKind X.prog X.w)) a b nm r)
      ⟨tupleKind_room_in1 room, q, zs, key_at I hb, dd, k _ _ (I.tok _) ((rel.val q).getD rd)⟩
theorem item_run {Q : Value → Shared → Prop} (room : A.units + 1 < cLine) (I : Inv X pins σ H s) (g : Gets X.K H a y (some v)) (ry : RelV y u) (k : ∀ r' s', Inv X pins σ H s' → RelV v r' → Q r' s') :
    wpAny (model X.prog X.w) A (getItem (.ref a) u) Q E s := by
  rcases g with ⟨xs, q, d, rfl, e⟩ | ⟨xs, q, b, d, rfl, hb, e⟩
  · obtain ⟨_, nm, vs, rel, dd⟩ := dk_at I.hok d
    have rr := rel.val q
    rw [← e] at rr
    obtain ⟨x, hx, rx⟩ := rr.some_of
    exact wpAny_getItem_of (kV_is ry) dd.mapOf hx (k x _ (I.tok _) rx)
  · obtain rfl : u = Value.ref b := ry
    obtain ⟨_, nm, zs, rel, dd⟩ := dt_at I.hok d
    have rr := rel.val q
    rw [← e] at rr
    obtain ⟨x, hx, rx⟩ := rr.some_of
    obtain ⟨p, hp, rfl⟩ := Option.map_eq_some_iff.mp hx
    exact wpAny_getItem_heap (tupleKind_room_in1 room) (key_at I hb) dd hp (k p.2 _ (I.tok _) rx)
theorem in_run {Q : Value → Shared → Prop} (room : A.units + 1 < cLine) (I : Inv X pins σ H s) (g : Gets X.K H a y o) (ry : RelV y u) (k : ∀ s', Inv X pins σ H s' → Q (.bool o.isSome) s') :
    wpAny (model X.prog X.w) A (compareOp .In u (.ref a)) Q E s := by
  rcases g with ⟨xs, q, d, rfl, rfl⟩ | ⟨xs, q, b, d, rfl, hb, rfl⟩
  · obtain ⟨_, nm, vs, rel, dd⟩ := dk_at I.hok d
    refine wpAny_in_of (kV_is ry) nm dd.mapOf ?_
    have e := (rel.val q).isSome_eq
    rw [← e]
    exact k _ (I.tok _)
  · obtain rfl : u = Value.ref b := ry
    obtain ⟨_, nm, zs, rel, dd⟩ := dt_at I.hok d
    refine wpAny_in_heap (tupleKind_room_in1 room) (key_at I hb) nm dd ?_
    have e := (rel.val q).isSome_eq
    rw [Option.isSome_map] at e
    rw [← e]
    exact k _ (I.tok _)
theorem notIn_run {Q : Value → Shared → Prop} (room : A.units + 1 < cLine) (I : Inv X pins σ H s) (g : Gets X.K H a y o) (ry : RelV y u) (k : ∀ s', Inv X pins σ H s' → Q (.bool (!o.isSome)) s') :
    wpAny (model X.prog X.w) A (compareOp .NotIn u (.ref a)) Q E s := by
  rcases g with ⟨xs, q, d, rfl, rfl⟩ | ⟨xs, q, b, d, rfl, hb, rfl⟩
  · obtain ⟨_, nm, vs, rel, dd⟩ := dk_at I.hok d
    refine wpAny_notIn_of (kV_is ry) nm dd.mapOf ?_
    have e := (rel.val q).isSome_eq
    rw [← e]
    exact k _ (I.tok _)
  · obtain rfl : u = Value.ref b := ry
    obtain ⟨_, nm, zs, rel, dd⟩ := dt_at I.hok d
    refine wpAny_notIn_heap (tupleKind_room_in1 room) (key_at I hb) nm dd ?_
    have e := (rel.val q).isSome_eq
    rw [Option.isSome_map] at e
    rw [← e]
    exact k _ (I.tok _)
/-- what a store at a key leaves -/
def Puts (H : Hp) (a : Addr) (y v : V) (H' : Hp) : Prop :=
  (∃ xs k, (H a = some (.dK xs) ∨ (xs = [] ∧ H a = some (.dT []))) ∧ y = kV k ∧ xs.length < sizeLine ∧ H' = upd H a (.dK (putK xs k v))) ∨
  ∃ xs k b, (H a = some (.dT xs) ∨ (xs = [] ∧ H a = some (.dK []))) ∧ y = .ref b ∧ H b = some (.tup (k.map kV)) ∧ xs.length < sizeLine ∧ H' = upd H a (.dT (putK xs k v))
theorem upd_twice {H : Hp} {a : Addr} {x z : HO} : upd (upd H a x) a z = upd H a z := by
  funext b
  by_cases e : b = a
  · subst e; rw [upd_same, upd_same]
  · rw [upd_ne e, upd_ne e, upd_ne e]
/-- an empty dict may be taken for one of the other kind -/
theorem asT (I : Inv X pins σ H s) (e : H a = some (.dK [])) : Inv X pins σ (upd H a (.dT [])) s := by
  have q := ok_toT (I.hok a _ e)
  have there : ∃ w, s.heap.get? a = some w := by
    obtain ⟨_, _, _, _, w, _, _, h, _⟩ := q
    exact ⟨w, h⟩
  refine I.write (x := a) (e := a) (t' := s.toks) (h' := s.heap) (by rw [e]; trivial) (.inl rfl) (fun _ _ _ z => z) there ?_
  obtain ⟨z, m, zs, r, rest⟩ := q
  cases r
  exact ⟨z, m, [], .nil, rest⟩
theorem asK (I : Inv X pins σ H s) (e : H a = some (.dT [])) : Inv X pins σ (upd H a (.dK [])) s := by
  have q := ok_toK (I.hok a _ e)
  have there : ∃ w, s.heap.get? a = some w := by
    obtain ⟨_, _, _, _, w, _, _, h, _⟩ := q
    exact ⟨w, h⟩
  exact I.write (x := a) (e := a) (t' := s.toks) (h' := s.heap) (by rw [e]; trivial) (.inl rfl) (fun _ _ _ z => z) there q
theorem puts_either {H' : Hp} (I : Inv X pins σ H s) (g : Puts H a y v H') : ∃ H0, Inv X pins σ H0 s ∧ DPut H0 a y v H' := by
  rcases g with ⟨xs, k, e | ⟨rfl, e⟩, rfl, hl, rfl⟩ | ⟨xs, k, b, e | ⟨rfl, e⟩, rfl, hb, hl, rfl⟩
  · exact ⟨H, I, .inl ⟨xs, k, e, rfl, hl, rfl⟩⟩
  · exact ⟨_, asK I e, .inl ⟨[], k, upd_same, rfl, hl, upd_twice.symm⟩⟩
  · exact ⟨H, I, .inr ⟨xs, k, b, e, rfl, hb, hl, rfl⟩⟩
  · exact ⟨_, asT I e, .inr ⟨[], k, b, upd_same, rfl, by rw [upd_ne (ne_of hb e (fun z => nomatch z))]; exact hb, hl, upd_twice.symm⟩⟩
theorem setItem_run {H' : Hp} {Q : Unit → Shared → Prop} (room : A.units + 1 < cLine) (I : Inv X pins σ H s) (g : Puts H a y v H') (ry : RelV y u) (rv : RelV v r) (k : ∀ s', Inv X pins σ H' s' → Q () s') :
    wpAny (model X.prog X.w) A (setItem (.ref a) u r) Q E s := by
  obtain ⟨H0, I0, g0⟩ := puts_either I g
  exact d_setItem room I0 g0 ry rv k
theorem dictSet_run {H' : Hp} {Q : Unit → Shared → Prop} (room : X.A.units < cLine) (I : Inv X pins σ H s) (g : Puts H a y v H') (ry : RelV y u) (rv : RelV v r) (k : ∀ s', Inv X pins σ H' s' → Q () s') :
    wpAny (model X.prog X.w) X.A (dictSet a u r) Q E s := by
  obtain ⟨H0, I0, g0⟩ := puts_either I g
  rcases g0 with ⟨xs, q, e, rfl, hl, rfl⟩ | ⟨xs, q, b, e, rfl, hb, hl, rfl⟩
  · exact d_dictSet I0 e hl ry rv k
  · obtain rfl : u = Value.ref b := ry
    obtain ⟨z, nm, zs, rel, dd⟩ := dt_of I0.hok e
    have small : zs.length ≤ sizeLine := Paired.length rel ▸ z
    refine wpAny_dictSet_heap (hsz := small) (knd := tupleKind (mixKind X.prog X.w)) room (key_of I0.hok hb) dd fun h' dd' same => k _ ?_
    obtain ⟨ob, es, ep, g1, g2, g3, g4, _, g5⟩ := dd'
    have small' : (putK xs q v).length ≤ sizeLine := Nat.le_trans (length_putK xs q v) hl
    refine d_write I0 (by rw [e]; trivial) same ⟨ob, g1⟩ ⟨small', nm, _, (rel.put q hb rv).keeps fun c ys ec => ?_, ob, es, ep, g1, g2, g3, g4, g5⟩
    rw [upd_ne (ne_of ec e (fun z => nomatch z))]
    exact ec
end
end Fx

set_option Elab.async false
set_option linter.all false
set_option maxRecDepth 100000
namespace Fx
open PySem PySem.Spec PyProof.Rows L2

/-! ### dict operations on data -/
def kin (d : D) : Option Bool := match kk d with
  | some (.inl _) => some false
  | some (.inr _) => some true
  | none => none
/-- the key is one, and of the dict's kind -/
def fits (kvs : List (D × D)) (k : D) : Bool := (kk k).isSome && match kvs with
  | [] => true
  | (k0, _) :: _ => kin k0 == kin k
section
variable {K : PySem.W.Frag} {mg : Str → Option Value} {F : Hp} {A : List Addr} {G H : Hp} {en : En} {σ : L2.St}
theorem fits_K {kvs : List (D × D)} {xs : List (List Key × V)} {q : Key} (f : fits kvs (kD q) = true) (r : RvT K G kvs xs) : xs = [] ∧ kvs = [] := by
  match kvs, r with
  | [], r => exact ⟨r, rfl⟩
  | (k0, d) :: t, ⟨p, v, s, e, e2, _, _⟩ =>
    subst e2
    simp [fits, kin, kk_kD, kk_tD] at f
theorem fits_T {kvs : List (D × D)} {xs : List (Key × V)} {q : List Key} (f : fits kvs (tD q) = true) (r : RvK K G kvs xs) : xs = [] ∧ kvs = [] := by
  match kvs, r with
  | [], r => exact ⟨r, rfl⟩
  | (k0, d) :: t, ⟨p, v, s, e, e2, _, _⟩ =>
    subst e2
    simp [fits, kin, kk_kD, kk_tD] at f
theorem fits_kk {kvs : List (D × D)} {k : D} (f : fits kvs k = true) : (∃ q, k = kD q) ∨ ∃ q, k = tD q := by
  unfold fits at f
  rw [Bool.and_eq_true] at f
  cases e : kk k with
  | none => rw [e] at f; cases f.1
  | some z =>
    cases z with
    | inl q => exact .inl ⟨q, kk_inl e⟩
    | inr q => exact .inr ⟨q, kk_inr e⟩
theorem gets_of {kvs : List (D × D)} {k : D} {v y : V} (l : Le G H) (r : Rc K G H (.dict kvs) v) (f : fits kvs k = true) (ry : Rv K G k y) :
    ∃ a o, v = .ref a ∧ Gets K H a y o ∧ match dGet kvs k with
      | some d => ∃ w, o = some w ∧ Rv K G d w
      | none => o = none := by
  obtain ⟨a, rfl, r⟩ := r
  rcases fits_kk f with ⟨q, rfl⟩ | ⟨q, rfl⟩
  · obtain rfl := kV_of ry
    rcases r with ⟨xs, h1, h2⟩ | ⟨xs, h1, h2⟩
    · exact ⟨a, valV xs q, rfl, .inl ⟨xs, q, .inl h1, rfl, rfl⟩, h2.val⟩
    · obtain ⟨rfl, rfl⟩ := fits_K f h2
      exact ⟨a, none, rfl, .inl ⟨[], q, .inr ⟨rfl, h1⟩, rfl, rfl⟩, rfl⟩
  · obtain ⟨b, vs, rfl, h3, h4⟩ := (show Rv K G (.tuple (q.map kD)) y from ry)
    obtain rfl := kVs_of h4
    have h5 := (h3.le l).sq
    rcases r with ⟨xs, h1, h2⟩ | ⟨xs, h1, h2⟩
    · obtain ⟨rfl, rfl⟩ := fits_T f h2
      exact ⟨a, none, rfl, .inr ⟨[], q, b, .inr ⟨rfl, h1⟩, rfl, h5, rfl⟩, rfl⟩
    · exact ⟨a, valV xs q, rfl, .inr ⟨xs, q, b, .inl h1, rfl, h5, rfl⟩, h2.val⟩
/-! keys that are stored -/
def Kd (K : PySem.W.Frag) (G : Hp) (d : D) (v : V) : Prop := ∀ ds, d = .tuple ds → ∃ a vs, v = .ref a ∧ G a = some (.tup vs) ∧ Rvs K G ds vs
theorem Kd.grow {G' : Hp} (g : Grow F G G') {d : D} {v : V} (h : Kd K G d v) : Kd K G' d v := fun ds e => by
  obtain ⟨a, vs, h1, h2, h3⟩ := h ds e
  exact ⟨a, vs, h1, g.le a _ h2, Rvs.le g.toLe ds vs h3⟩
abbrev EKy := En → Rs D
def KoY (K : PySem.W.Frag) (F : Hp) (A : List Addr) (G : Hp) (σ : L2.St) (Q : VK) (d : D) (en' : En) : Prop :=
  ∀ v G' H', Grow F G G' → Rp K F A G' en' σ H' → Rv K G' d v → Kd K G' d v → Q v H'
def SoundY (K : PySem.W.Frag) (mg : Str → Option Value) (E : XE) (t : TE) (f : EKy) : Prop := ∀ F A G en σ H, Rp K F A G en σ H → ∀ Q : VK,
  Then (f en) (KoY K F A G σ Q) (KeE K mg E F A G σ) → t σ H Q
structure SY (X : Cx) (E : XE) (e : Expr) (t : TE) (f : EKy) : Prop where
  pe : PE X e t
  snd : SoundY X.K X.mg E t f
def kSim (f : EE) : EKy := fun en => (dat f en).bind fun d en => match d with
  | .tuple _ => .st
  | d => .ok d en
def kTup (f : EA) : EKy := fun en => (dats f en).bind fun ds en => if ds.length ≤ 65536 then .ok (.tuple ds) en else .st
theorem sound_ksim {E : XE} {t : TE} {f : EE} (h : SoundE K mg E t f) : SoundY K mg E t (kSim f) := by
  intro F A G en σ H R Q k
  refine h.dat R (Then.imp (Then.bind k) (fun d en1 k1 v G1 H1 g1 R1 r1 => ?_) fun _ _ z => z)
  cases d <;> first | exact k1.elim | exact k1 v G1 H1 g1 R1 r1 fun ds e => nomatch e
theorem sound_ktup {E : XE} {t : TA} {f : EA} (h : SoundA K mg E t f) : SoundY K mg E (tTup t) (kTup f) := by
  intro F A G en σ H R Q k
  refine h.dats R (Then.imp (Then.bind k) (fun ds en1 k1 vs G1 H1 g1 R1 r1 => ?_) fun _ _ z => z)
  by_cases hl : ds.length ≤ 65536
  · rw [if_pos hl] at k1
    refine ⟨by rw [r1.length]; exact size_of hl, fun p hp => ?_⟩
    obtain ⟨g2, R2⟩ := R1.new (u := .tup vs) hp (fun _ _ z => nomatch z)
    have rr := Rvs.le g2.toLe ds vs r1
    refine k1 _ _ _ (g1.trans g2) R2 ⟨p, vs, rfl, .inl upd_same, rr⟩ fun ds' e => ?_
    cases e
    exact ⟨p, vs, rfl, upd_same, rr⟩
  · rw [if_neg hl] at k1; exact k1.elim
theorem puts_of {kvs : List (D × D)} {k d : D} {a : Addr} {y v : V} (l : Le G H) (o : Own K G H (.dict kvs) a) (f : fits kvs k = true) (ry : Rv K G k y) (ky : Kd K G k y) (rv : Rv K G d v) (hl : kvs.length < 65536) :
    ∃ u, Puts H a y v (upd H a u) ∧ Own K G (upd H a u) (.dict (dPut kvs k d)) a := by
  have hz : ∀ {n : Nat}, n = kvs.length → n < sizeLine := fun e => by rw [e]; exact Nat.lt_of_lt_of_le hl (by decide)
  rcases fits_kk f with ⟨q, rfl⟩ | ⟨q, rfl⟩
  · obtain rfl := kV_of ry
    rcases o with ⟨xs, h1, h2⟩ | ⟨xs, h1, h2⟩
    · exact ⟨_, .inl ⟨xs, q, .inl h1, rfl, hz h2.length, rfl⟩, .inl ⟨_, upd_same, h2.put q rv⟩⟩
    · obtain ⟨rfl, rfl⟩ := fits_K f h2
      exact ⟨_, .inl ⟨[], q, .inr ⟨rfl, h1⟩, rfl, by decide, rfl⟩, .inl ⟨_, upd_same, RvK.put (show RvK K G [] [] from rfl) q rv⟩⟩
  · obtain ⟨b, vs, rfl, hb, h4⟩ := ky _ rfl
    obtain rfl := kVs_of h4
    have hb := l.tp b _ hb
    rcases o with ⟨xs, h1, h2⟩ | ⟨xs, h1, h2⟩
    · obtain ⟨rfl, rfl⟩ := fits_T f h2
      exact ⟨_, .inr ⟨[], q, b, .inr ⟨rfl, h1⟩, rfl, hb, by decide, rfl⟩, .inr ⟨_, upd_same, RvT.put (show RvT K G [] [] from rfl) q rv⟩⟩
    · exact ⟨_, .inr ⟨xs, q, b, .inl h1, rfl, hb, hz h2.length, rfl⟩, .inr ⟨_, upd_same, h2.put q rv⟩⟩

/-! d.get(k), d.get(k, x), d[k], k in d -/
def tGet1 (K : PySem.W.Frag) (td ty : TE) : TE := fun σ H Q => td σ H fun x H1 => ∃ a, x = .ref a ∧ IsD H1 a ∧ ty σ H1 fun y H2 => ∃ o, Gets K H2 a y o ∧ Q (o.getD .non) H2
def tGet2 (K : PySem.W.Frag) (td ty tx : TE) : TE := fun σ H Q => td σ H fun x H1 => ∃ a, x = .ref a ∧ IsD H1 a ∧ ty σ H1 fun y H2 => tx σ H2 fun z H3 => ∃ o, Gets K H3 a y o ∧ Q (o.getD z) H3
def tItem (K : PySem.W.Frag) (td ty : TE) : TE := fun σ H Q => td σ H fun x H1 => ty σ H1 fun y H2 => ∃ a v, x = .ref a ∧ Gets K H2 a y (some v) ∧ Q v H2
def tIn (K : PySem.W.Frag) (ty td : TE) : TE := fun σ H Q => ty σ H fun y H1 => td σ H1 fun x H2 => ∃ a o, x = .ref a ∧ Gets K H2 a y o ∧ Q (.bl o.isSome) H2
def tNotIn (K : PySem.W.Frag) (ty td : TE) : TE := fun σ H Q => ty σ H fun y H1 => td σ H1 fun x H2 => ∃ a o, x = .ref a ∧ Gets K H2 a y o ∧ Q (.bl (!o.isSome)) H2
def sPutA (td ty tv : TE) : TS := fun D σ H => tv σ H fun v H1 => td σ H1 fun x H2 => ty σ H2 fun y H3 => ∃ a H4, x = .ref a ∧ Puts H3 a y v H4 ∧ D.nx σ H4
theorem Rc.isD {kvs : List (D × D)} {v : V} (r : Rc K G H (.dict kvs) v) : ∃ a, v = .ref a ∧ IsD H a := by
  obtain ⟨a, rfl, ⟨xs, h, _⟩ | ⟨xs, h, _⟩⟩ := r
  · exact ⟨a, rfl, .inl ⟨xs, h⟩⟩
  · exact ⟨a, rfl, .inr ⟨xs, h⟩⟩
def eGet1 (fd fk : EE) : EE := fun en => (fd en).bind fun x en => match rd x en with
  | some (.dict _) => (dat fk en).bind fun k en => match rd x en with
    | some (.dict kvs) => if fits kvs k = true then .ok (.fz ((dGet kvs k).getD .none)) en else .st
    | _ => .st
  | _ => .st
theorem sound_get1 {E : XE} {td ty : TE} {fd fk : EE} (hd : SoundE K mg E td fd) (hk : SoundE K mg E ty fk) : SoundE K mg E (tGet1 K td ty) (eGet1 fd fk) := by
  intro F A G en σ H R Q k
  refine hd F A G en σ H R _ (Then.imp (Then.bind k) (fun x en1 k1 v G1 H1 g1 R1 r1 => ?_) fun _ _ z => z)
  split at k1
  · rename_i kvs0 e1
    obtain ⟨a, rfl, isd⟩ := (rd_rc R1 r1 e1).isD
    refine ⟨a, rfl, isd, hk.dat R1 (Then.imp (Then.bind k1) (fun kd en2 k2 y G2 H2 g2 R2 r2 => ?_) fun x en2 k2 => KeE.grow g1 k2)⟩
    split at k2
    · rename_i kvs e2
      split at k2
      · rename_i hf
        obtain ⟨a', o, e, gg, h⟩ := gets_of R2.gx (rd_rc R2 (r1.grow g2) e2) hf r2
        cases e
        refine ⟨o, gg, k2 _ G2 H2 (g1.trans g2) R2 ?_⟩
        cases e3 : dGet kvs kd with
        | none => rw [e3] at h; rw [h]; rfl
        | some d => rw [e3] at h; obtain ⟨w, rfl, h⟩ := h; exact h
      · exact k2.elim
    · exact k2.elim
  · exact k1.elim
def eGet2 (fd fk fx : EE) : EE := fun en => (fd en).bind fun x en => match rd x en with
  | some (.dict _) => (dat fk en).bind fun k en => (dat fx en).bind fun z en => match rd x en with
    | some (.dict kvs) => if fits kvs k = true then .ok (.fz ((dGet kvs k).getD z)) en else .st
    | _ => .st
  | _ => .st
theorem sound_get2 {E : XE} {td ty tx : TE} {fd fk fx : EE} (hd : SoundE K mg E td fd) (hk : SoundE K mg E ty fk) (hx : SoundE K mg E tx fx) : SoundE K mg E (tGet2 K td ty tx) (eGet2 fd fk fx) := by
  intro F A G en σ H R Q k
  refine hd F A G en σ H R _ (Then.imp (Then.bind k) (fun x en1 k1 v G1 H1 g1 R1 r1 => ?_) fun _ _ z => z)
  split at k1
  · rename_i kvs0 e1
    obtain ⟨a, rfl, isd⟩ := (rd_rc R1 r1 e1).isD
    refine ⟨a, rfl, isd, hk.dat R1 (Then.imp (Then.bind k1) (fun kd en2 k2 y G2 H2 g2 R2 r2 => ?_) fun x en2 k2 => KeE.grow g1 k2)⟩
    refine hx.dat R2 (Then.imp (Then.bind k2) (fun zd en3 k3 z G3 H3 g3 R3 r3 => ?_) fun x en3 k3 => KeE.grow (g1.trans g2) k3)
    split at k3
    · rename_i kvs e2
      split at k3
      · rename_i hf
        obtain ⟨a', o, e, gg, h⟩ := gets_of R3.gx (rd_rc R3 (r1.grow (g2.trans g3)) e2) hf (Rv.le g3.toLe _ _ r2)
        cases e
        refine ⟨o, gg, k3 _ G3 H3 ((g1.trans g2).trans g3) R3 ?_⟩
        cases e3 : dGet kvs kd with
        | none => rw [e3] at h; rw [h]; exact r3
        | some d => rw [e3] at h; obtain ⟨w, rfl, h⟩ := h; exact h
      · exact k3.elim
    · exact k3.elim
  · exact k1.elim
def eItem (fd fk : EE) : EE := fun en => (fd en).bind fun x en => (dat fk en).bind fun k en => match rd x en with
  | some (.dict kvs) => if fits kvs k = true then match dGet kvs k with
    | some d => .ok (.fz d) en
    | none => .st
    else .st
  | _ => .st
theorem sound_item {E : XE} {td ty : TE} {fd fk : EE} (hd : SoundE K mg E td fd) (hk : SoundE K mg E ty fk) : SoundE K mg E (tItem K td ty) (eItem fd fk) := by
  intro F A G en σ H R Q k
  refine hd F A G en σ H R _ (Then.imp (Then.bind k) (fun x en1 k1 v G1 H1 g1 R1 r1 => ?_) fun _ _ z => z)
  refine hk.dat R1 (Then.imp (Then.bind k1) (fun kd en2 k2 y G2 H2 g2 R2 r2 => ?_) fun x en2 k2 => KeE.grow g1 k2)
  split at k2
  · rename_i kvs e2
    split at k2
    · rename_i hf
      obtain ⟨a, o, rfl, gg, h⟩ := gets_of R2.gx (rd_rc R2 (r1.grow g2) e2) hf r2
      cases e3 : dGet kvs kd with
      | none => simp only [e3] at k2; exact k2.elim
      | some d =>
        simp only [e3] at k2
        rw [e3] at h
        obtain ⟨w, rfl, h⟩ := h
        exact ⟨a, w, rfl, gg, k2 w G2 H2 (g1.trans g2) R2 h⟩
    · exact k2.elim
  · exact k2.elim
def eIn (neg : Bool) (fk fd : EE) : EE := fun en => (dat fk en).bind fun k en => (fd en).bind fun x en => match rd x en with
  | some (.dict kvs) => if fits kvs k = true then .ok (.fz (.bool (neg ^^ (dGet kvs k).isSome))) en else .st
  | _ => .st
theorem sound_in {E : XE} {td ty : TE} {fd fk : EE} (hk : SoundE K mg E ty fk) (hd : SoundE K mg E td fd) : SoundE K mg E (tIn K ty td) (eIn false fk fd) := by
  intro F A G en σ H R Q k
  refine hk.dat R (Then.imp (Then.bind k) (fun kd en1 k1 y G1 H1 g1 R1 r1 => ?_) fun _ _ z => z)
  refine hd F A G1 en1 σ H1 R1 _ (Then.imp (Then.bind k1) (fun x en2 k2 v G2 H2 g2 R2 r2 => ?_) fun x en2 k2 => KeE.grow g1 k2)
  split at k2
  · rename_i kvs e2
    split at k2
    · rename_i hf
      obtain ⟨a, o, rfl, gg, h⟩ := gets_of R2.gx (rd_rc R2 r2 e2) hf (Rv.le g2.toLe _ _ r1)
      refine ⟨a, o, rfl, gg, k2 _ G2 H2 (g1.trans g2) R2 ?_⟩
      cases e3 : dGet kvs kd with
      | none => rw [e3] at h; rw [h]; rfl
      | some d => rw [e3] at h; obtain ⟨w, rfl, h⟩ := h; rfl
    · exact k2.elim
  · exact k2.elim
theorem sound_notin {E : XE} {td ty : TE} {fd fk : EE} (hk : SoundE K mg E ty fk) (hd : SoundE K mg E td fd) : SoundE K mg E (tNotIn K ty td) (eIn true fk fd) := by
  intro F A G en σ H R Q k
  refine hk.dat R (Then.imp (Then.bind k) (fun kd en1 k1 y G1 H1 g1 R1 r1 => ?_) fun _ _ z => z)
  refine hd F A G1 en1 σ H1 R1 _ (Then.imp (Then.bind k1) (fun x en2 k2 v G2 H2 g2 R2 r2 => ?_) fun x en2 k2 => KeE.grow g1 k2)
  split at k2
  · rename_i kvs e2
    split at k2
    · rename_i hf
      obtain ⟨a, o, rfl, gg, h⟩ := gets_of R2.gx (rd_rc R2 r2 e2) hf (Rv.le g2.toLe _ _ r1)
      refine ⟨a, o, rfl, gg, k2 _ G2 H2 (g1.trans g2) R2 ?_⟩
      cases e3 : dGet kvs kd with
      | none => rw [e3] at h; rw [h]; rfl
      | some d => rw [e3] at h; obtain ⟨w, rfl, h⟩ := h; rfl
    · exact k2.elim
  · exact k2.elim
/-- d[k] = v -/
def sPut (fd : EE) (fk : EKy) (fv : EE) : ES := fun en => (dat fv en).bind fun v en => (fd en).bind fun x en => (fk en).bind fun k en => match x with
  | .sl i => match rd (.sl i) en with
    | some (.dict kvs) => if fits kvs k = true ∧ kvs.length < 65536 then match put en i (.dict (dPut kvs k v)) with
      | some en => .ok .nx en
      | none => .st
      else .st
    | _ => .st
  | .fz _ => .st
theorem sound_put {E : XE} {td ty tv : TE} {fd fv : EE} {fk : EKy} (hv : SoundE K mg E tv fv) (hd : SoundE K mg E td fd) (hk : SoundY K mg E ty fk) : SoundS K mg E (sPutA td ty tv) (sPut fd fk fv) := by
  intro F A G en σ H R Dn k
  refine hv.dat R (Then.imp (Then.bind k) (fun d en1 k1 v G1 H1 g1 R1 r1 => ?_) fun _ _ z => z.ke)
  refine hd F A G1 en1 σ H1 R1 _ (Then.imp (Then.bind k1) (fun x en2 k2 u G2 H2 g2 R2 r2 => ?_) fun x en2 k2 => (KeS.grow g1 k2).ke)
  refine hk F A G2 en2 σ H2 R2 _ (Then.imp (Then.bind k2) (fun kd en3 k3 y G3 H3 g3 R3 r3 q3 => ?_) fun x en3 k3 => (KeS.grow (g1.trans g2) k3).ke)
  cases x with
  | fz _ => exact k3.elim
  | sl i =>
    simp only at k3
    split at k3
    · rename_i kvs e2
      split at k3
      · rename_i hf
        cases e4 : put en3 i (.dict (dPut kvs kd d)) with
        | none => simp only [e4] at k3; exact k3.elim
        | some en4 =>
          simp only [e4] at k3
          obtain ⟨a, rfl, own, _, _, wr⟩ := R3.owned r2 e2 e4
          obtain ⟨w, pu, ow⟩ := puts_of R3.gx own hf.1 r3 q3 (Rv.le (g2.trans g3).toLe _ _ r1) hf.2
          exact ⟨a, _, rfl, pu, k3 σ G3 _ ((g1.trans g2).trans g3) (wr w ow)⟩
      · exact k3.elim
    · exact k3.elim
end
/-! the rules -/
section
variable {X : Cx} {o i e f value : Expr} {pos pos' apos cpos : Pos} {td ty tv tx : TE}
theorem pe_get1 (room : X.A.units + 1 < cLine) (hd : PE X o td) (hk : PE X e ty) (m : M1 X o "get" apos e cpos) : PE X (.Call (.Attribute o "get" apos) [e] [] cpos) (tGet1 X.K td ty) := by
  constructor
  intro pins s σ H Q I h
  refine wpAny_Call_method m.base m.few m.line PySem.F.plainAttrs_dict PySem.F.slot_dict_get PySem.F.type_dict_get ?_
  refine thn (hd.run pins s σ H _ I h) ?_
  rintro u s1 ⟨x, H1, I1, rx, a, rfl, isd, q1⟩
  obtain rfl : u = Value.ref a := rx
  obtain ⟨c1, c2, _⟩ := isD_at I1 isd
  refine ⟨c1, c2, ?_⟩
  rw [m.trees]
  refine Calls.callWith_builtin rfl (Calls.evalArgs_plain (Calls.spliced_cons (thn (hk.run pins s1 σ H1 _ I1 q1) ?_)))
  rintro iv s2 ⟨y, H2, I2, ry, ov, g, q2⟩
  exact Calls.spliced_nil (get1_run room I2 g ry fun r' s3 I3 rr => ⟨_, H2, I3, rr, q2⟩)
theorem pe_get2 (room : X.A.units + 1 < cLine) (hd : PE X o td) (hk : PE X e ty) (hx : PE X f tx) (m : M2 X o "get" apos e f cpos) : PE X (.Call (.Attribute o "get" apos) [e, f] [] cpos) (tGet2 X.K td ty tx) := by
  constructor
  intro pins s σ H Q I h
  refine wpAny_Call_method m.base m.few m.line PySem.F.plainAttrs_dict PySem.F.slot_dict_get PySem.F.type_dict_get ?_
  refine thn (hd.run pins s σ H _ I h) ?_
  rintro u s1 ⟨x, H1, I1, rx, a, rfl, isd, q1⟩
  obtain rfl : u = Value.ref a := rx
  obtain ⟨c1, c2, _⟩ := isD_at I1 isd
  refine ⟨c1, c2, ?_⟩
  rw [m.trees]
  refine Calls.callWith_builtin rfl (Calls.evalArgs_plain (Calls.spliced_cons (thn (hk.run pins s1 σ H1 _ I1 q1) ?_)))
  rintro iv s2 ⟨y, H2, I2, ry, q2⟩
  refine Calls.spliced_cons (thn (hx.run pins s2 σ H2 _ I2 q2) ?_)
  rintro fv s3 ⟨z, H3, I3, rz, ov, g, q3⟩
  exact Calls.spliced_nil (get2_run room I3 g ry rz fun r' s4 I4 rr => ⟨_, H3, I4, rr, q3⟩)
theorem pe_item (room : X.A.units + 1 < cLine) (hd : PE X o td) (hk : PE X i ty) (hs : NoSl i) : PE X (.Subscript o i pos) (tItem X.K td ty) := by
  constructor
  intro pins s σ H Q I h
  refine subD_of PySem.F.slot_dict_getitem.lookup hs (thn (hd.run pins s σ H _ I h) ?_)
  rintro u s1 ⟨x, H1, I1, rx, q1⟩
  refine thn (hk.run pins s1 σ H1 _ I1 q1) ?_
  rintro iv s2 ⟨y, H2, I2, ry, a, v, rfl, g, q2⟩
  obtain rfl : u = Value.ref a := rx
  exact ⟨(isD_at I2 (isD_gets g)).1, item_run room I2 g ry fun r' s3 I3 rr => ⟨v, H2, I3, rr, q2⟩⟩
theorem pc_inA (room : X.A.units + 1 < cLine) (hk : PE X i ty) (hd : PE X o td) : PC X .In i o (tIn X.K ty td) := by
  constructor
  intro pins s σ H Q I h
  refine thn (hk.run pins s σ H _ I h) ?_
  rintro iv s1 ⟨y, H1, I1, ry, q1⟩
  refine thn (hd.run pins s1 σ H1 _ I1 q1) ?_
  rintro u s2 ⟨x, H2, I2, rx, a, ov, rfl, g, q2⟩
  obtain rfl : u = Value.ref a := rx
  exact in_run room I2 g ry fun s3 I3 => ⟨.bl ov.isSome, H2, I3, rfl, q2⟩
theorem pc_notinA (room : X.A.units + 1 < cLine) (hk : PE X i ty) (hd : PE X o td) : PC X .NotIn i o (tNotIn X.K ty td) := by
  constructor
  intro pins s σ H Q I h
  refine thn (hk.run pins s σ H _ I h) ?_
  rintro iv s1 ⟨y, H1, I1, ry, q1⟩
  refine thn (hd.run pins s1 σ H1 _ I1 q1) ?_
  rintro u s2 ⟨x, H2, I2, rx, a, ov, rfl, g, q2⟩
  obtain rfl : u = Value.ref a := rx
  exact notIn_run room I2 g ry fun s3 I3 => ⟨.bl (!ov.isSome), H2, I3, rfl, q2⟩
theorem ps_putA (room : X.A.units + 1 < cLine) (hd : PE X o td) (hk : PE X i ty) (hv : PE X value tv) (hs : swapsWith value (some (.Subscript o i pos')) pos.line X.env = pure false) :
    PS X (.Assign [.Subscript o i pos'] value pos) (sPutA td ty tv) := by
  constructor
  intro pins s σ H D I h
  refine wpAny_Assign_Subscript (thn (hv.run pins s σ H _ I h) ?_) hs
  rintro r s1 ⟨v, H1, I1, rv, q1⟩
  refine thn (hd.run pins s1 σ H1 _ I1 q1) ?_
  rintro u s2 ⟨x, H2, I2, rx, q2⟩
  refine thn (hk.run pins s2 σ H2 _ I2 q2) ?_
  rintro iv s3 ⟨y, H3, I3, ry, a, H4, rfl, g, q3⟩
  obtain rfl : u = Value.ref a := rx
  exact setItem_run room I3 g ry rv fun s4 I4 => ⟨σ, H4, I4, q3⟩
end
end Fx

set_option Elab.async false
set_option linter.all false
set_option maxRecDepth 100000
namespace Fx
open PySem PySem.Spec PyProof.Rows L2

/-! ### {k: v for ..}, the keys of either kind -/
def tDcA (wi : TI) (g : TG) (tt : TT) (tk tv : TE) (vs : List Nat) : TE := fun σ H Q => wi σ H fun J H1 => ∀ D, H1 D = none →
  ∃ W : Nat → Nat → Hp → Prop, (∃ m, W 0 m (upd H1 D (.dK []))) ∧ ∀ i m H, W i m H → (J.stop i H ∧ Q (.ref D) H) ∨
    (J.go i H ∧ ∃ Nx : Hp → Prop, (∀ H', Nx H' → ∃ m', m' < m ∧ W (i + 1) m' H') ∧ ∀ x H', J.yld i H x H' →
      g x (wipe σ vs) H' fun σ2 H2 => wipe σ2 vs = wipe σ vs ∧ tt σ2 H2 fun b H3 =>
        if b = true then tk σ2 H3 fun y H4 => tv σ2 H4 fun z H5 => ∃ H6, Puts H5 D y z H6 ∧ Nx H6 else Nx H3)
section
variable {X : Cx}
theorem core_dcA {kx vx tg iter : Expr} {ifs : List Expr} {scope : Scope} {own : List (Str × Nat)} {pos : Pos} {pos' : Pos} {use : Option (Value → Sem Unit)} {Qf : Value → Shared → Prop} {pins : List (Addr × Obj)} {s : Shared} {σ : L2.St} {H : Hp} {Q : VK} {wi : TI} {g : TG} {tt : TT} {tk tv : TE} (calm : X.calm = true) (nd : X.N.Nodup) (room : X.A.units < cLine)
    (I : Inv X pins σ H s) (walk : PI X tg iter wi) (blk : BlkOk X.N X.env.scope scope own)
    (gs : ∀ (u : Shared) (H : Hp) (C : Addr) (cl : List (Str × Addr)) (fp : List Addr), PG (X.blk u H scope (compEnvC scope cl C X.env) fp) tg g)
    (ts : ∀ (u : Shared) (H : Hp) (C : Addr) (cl : List (Str × Addr)) (fp : List Addr), PTs (X.blk u H scope (compEnvC scope cl C X.env) fp) ifs tt)
    (ks : ∀ (u : Shared) (H : Hp) (C : Addr) (cl : List (Str × Addr)) (fp : List Addr), PE (X.blk u H scope (compEnvC scope cl C X.env) fp) kx tk)
    (es : ∀ (u : Shared) (H : Hp) (C : Addr) (cl : List (Str × Addr)) (fp : List Addr), PE (X.blk u H scope (compEnvC scope cl C X.env) fp) vx tv)
    (fold : ∀ x, foldedSetIterable iter X.env x = pure x) (hq : tDcA wi g tt tk tv (own.map (·.2)) σ H Q)
    (fin : ∀ D C s' m H', Inv X pins σ H' s' → Q (.ref D) H' → s'.heap.Ns C m → FpOk X pins H' C → compPost (model X.prog X.w) X.A X.xe use Qf (.ref D) C (.ok .next) s') :
    wpAny (model X.prog X.w) X.A (comprehension (.DictComp kx vx [⟨tg, iter, ifs, 0⟩] scope pos) scope X.env pos' newDict false (eval iter X.env) use) Qf X.xe s := by
  have cells : ∀ y ∈ scope.names, y.2 = .free → ∃ c, X.env.cells.lookup y.1 = some c := fun y hy fr =>
    (blk.free y hy fr).elim (fun k => I.ok.has _ (.inl k)) fun k => I.ok.has _ (.inr k)
  refine wpAny_comprehension_free (use := use) rfl fold (closure_ok cells) blk.kind (fun y hy fr => by rw [blk.uniq y hy, fr]) ?_
  refine thn (walk.run pins s σ H _ I hq) fun xv s1 hx => thn hx ?_
  rintro itv s2 ⟨it, fp, tn, J, H2, rfl, I2, T, st2, f2, q⟩
  refine wpAny_newObj_type (newEnv_comp ?_)
  obtain ⟨D, hD⟩ : ∃ D, s2.heap.objs.size = D := ⟨_, rfl⟩
  rw [hD]
  obtain ⟨W, ⟨m0, w0⟩, turn⟩ := q D (I2.hok.fresh (Nat.le_of_eq hD))
  obtain ⟨s3, hs3⟩ : ∃ s3 : Shared, { s2 with heap := s2.heap.push { cls := .type "dict", data := .dict #[] } } = s3 := ⟨_, rfl⟩
  have heap3 : s3.heap = s2.heap.push { cls := .type "dict", data := .dict #[] } := by rw [← hs3]
  have I3 : Inv X pins σ (upd H2 D (.dK [])) s3 := by
    rw [← hs3]
    exact I2.laid (t' := s2.toks) (fun _ _ e => Heap.get?_push_of_some _ e) (Nat.le_of_eq hD) (hD ▸ dk_empty s2.heap I2.big)
  have low : ∀ b ∈ fp, b < s2.heap.objs.size := fun b hb =>
    let ⟨_, e, _⟩ := T.obj _ _ st2 b hb
    Heap.lt_size e
  have f3 : ∀ b ∈ fp, FpOk X pins (upd H2 D (.dK [])) b ∧ b < s3.heap.objs.size := by
    intro b hb
    have lt := low b hb
    constructor
    · refine ⟨?_, (f2 b hb).2⟩
      rw [upd_ne (fun z => by rw [z, ← hD] at lt; exact Nat.lt_irrefl _ lt)]
      exact (f2 b hb).1
    · rw [heap3, Heap.size_push]
      exact Nat.lt_succ_of_lt lt
  have st3 : tn 0 s3.heap := T.keep _ _ _ st2 fun b _ o e => by rw [heap3]; exact Heap.get?_push_of_some _ e
  have I4 := block_start I3 blk nd f3
  obtain ⟨C, hC⟩ : ∃ C, s3.heap.objs.size = C := ⟨_, rfl⟩
  have pg := gs s3 (upd H2 D (.dK [])) C (cellsFrom (C + 1) scope.names (cloFrom X.env.cells scope.names [])) fp
  have pt := ts s3 (upd H2 D (.dK [])) C (cellsFrom (C + 1) scope.names (cloFrom X.env.cells scope.names [])) fp
  have pk := ks s3 (upd H2 D (.dK [])) C (cellsFrom (C + 1) scope.names (cloFrom X.env.cells scope.names [])) fp
  have pe := es s3 (upd H2 D (.dK [])) C (cellsFrom (C + 1) scope.names (cloFrom X.env.cells scope.names [])) fp
  rw [hs3, hC]
  show codeAny _ _ (.compStart (.DictComp kx vx [⟨tg, iter, ifs, 0⟩] scope pos) 0 (.ref it) (.ref D)
    (compEnvC scope (cellsFrom (C + 1) scope.names (cloFrom X.env.cells scope.names [])) C X.env))
    (compPost (model X.prog X.w) X.A X.xe use Qf (.ref D) C)
    { s3 with heap := pushCells (s3.heap.push { cls := .type "dict", data := .dict #[] }) scope.names }
  rw [hC] at I4
  have gone : ∀ b ∈ fp, (upd H2 D (.dK [])) b = none := fun b hb => (f3 b hb).1.1
  obtain ⟨ce, hce⟩ : ∃ ce, compEnvC scope (cellsFrom (C + 1) scope.names (cloFrom X.env.cells scope.names [])) C X.env = ce := ⟨_, rfl⟩
  rw [hce] at I4 pg pt pk pe ⊢
  have loc : ce.locals = C := by rw [← hce]; rfl
  obtain ⟨H3, hH3⟩ : ∃ H3, upd H2 D (.dK []) = H3 := ⟨_, rfl⟩
  rw [hH3] at I3 I4 pg pt pk pe w0 gone f3
  obtain ⟨s4, hs4⟩ : ∃ s4 : Shared, { s3 with heap := pushCells (s3.heap.push { cls := .type "dict", data := .dict #[] }) scope.names } = s4 := ⟨_, rfl⟩
  rw [hs4] at I4
  have st4 : tn 0 s4.heap := T.keep _ _ _ st3 fun b _ o e => by rw [← hs4]; exact pushCells_keeps _ _ _ _ (Heap.get?_push_of_some _ e)
  have foot : ∀ {σ' : L2.St} {H' : Hp} {s' : Shared}, Inv (X.blk s3 H3 scope ce fp) [] σ' H' s' → (∀ b ∈ fp, H' b = none) → ∀ b ∈ fp, FpOk (X.blk s3 H3 scope ce fp) [] H' b := by
    intro σ' H' s' J' hn b hb
    refine ⟨hn b hb, (J'.ok.exf b hb).1, J'.ok.exfs b hb, .inl hb, fun x c e => (J'.ok.exf b hb).2 x c e, fun p hp => ?_⟩
    exact absurd (show p ∈ ([] : List (Addr × Obj)) ++ [] from hp) (by simp)
  rw [hs4]
  refine codeAny_compStart_dict ?_ (T.self X.A 0 _ _ _ st4 ?_) <;> skip
  all_goals
    refine compLoop_anyD (fun n s' => ∃ i H', Inv (X.blk s3 H3 scope ce fp) [] (wipe σ (own.map (·.2))) H' s' ∧ tn i s'.heap ∧ (∀ b ∈ fp, H' b = none) ∧ W i n H') ?_ m0 ⟨0, H3, I4, st4, gone, w0⟩
    rintro n s5 ⟨i, H5, I5, st5, n5, w5⟩
    rcases turn i n H5 w5 with ⟨stop, qq⟩ | ⟨go, Nx, hNx, step⟩
    · refine thnF (T.done (X.blk s3 H3 scope ce fp) rfl rfl rfl calm i [] s5 _ H5 (fun _ _ => False) I5 (foot I5 n5) st5 stop) ?_
      rintro r s6 ⟨rfl, I6⟩
      have I7 : Inv X pins σ H5 s6 := I3.call' (ch := fp) I6.os I6.base I6.hok I6.bare fun b hb =>
        let z := (f3 b hb).1.2
        ⟨z.2.2.1, z.1, z.2.2.2.1, z.2.2.2.2⟩
      have nC : H5 C = none := loc ▸ (show H5 ce.locals = none from I6.free)
      obtain ⟨m, hn, _⟩ := I6.loc
      have hn : s6.heap.Ns C m := loc ▸ (show s6.heap.Ns ce.locals m from hn)
      exact fin D C s6 m H5 I7 qq hn (I3.fpOk (Nat.le_of_eq hC) nC)
    · refine thnF (T.item (X.blk s3 H3 scope ce fp) rfl rfl rfl calm i [] s5 _ H5 (fun _ _ => False) I5 (foot I5 n5) st5 go) ?_
      rintro r s6 ⟨u, rfl, h6⟩
      refine thnF h6 ?_
      rintro _ s7 ⟨x, H7, I7, r7, y7, st7, n7⟩
      refine thnF (pg.run _ s7 _ H7 x u _ (I7.pinned (foot I7 n7) (T.obj _ _ st7)) r7 (step x H7 y7)) ?_
      rintro _ s8 ⟨σ8, H8, I8, hw8, q8⟩
      refine thnF (pt.run _ s8 σ8 H8 _ I8 q8) ?_
      rintro b s9 ⟨H9, I9, q9⟩
      have onw : ∀ {s' : Shared} {H' : Hp}, Inv (X.blk s3 H3 scope ce fp) ([] ++ pinsAt fp s7.heap) σ8 H' s' → Nx H' →
          ∃ m, m < n ∧ ∃ i H', Inv (X.blk s3 H3 scope ce fp) [] (wipe σ (own.map (·.2))) H' s' ∧ tn i s'.heap ∧ (∀ b ∈ fp, H' b = none) ∧ W i m H' := by
        intro s' H' J' nx
        obtain ⟨m', hm, w'⟩ := hNx H' nx
        have pin' : ∀ b ∈ fp, ∀ o, s7.heap.get? b = some o → s'.heap.get? b = some o ∧ H' b = none := fun b hb o e =>
          let z := J'.pin (b, o) (List.mem_append_right _ (List.mem_append_right _ (mem_pinsAt hb e)))
          ⟨z.1, z.2.1⟩
        have len : (wipe σ (own.map (·.2))).length = σ8.length := by rw [← hw8, wipe_length]
        refine ⟨m', hm, i + 1, H', (J'.unpinned (pins := [])).weak len (fun j v e => ?_), T.keep _ _ _ st7 fun b hb o e => (pin' b hb o e).1, fun b hb => ?_, w'⟩
        · rw [← hw8] at e
          exact (wipe_some e).1
        · obtain ⟨o, e, _⟩ := T.obj _ _ st7 b hb
          exact (pin' b hb o e).2
      cases b with
      | false =>
        simp only [Bool.false_eq_true, if_false] at q9 ⊢
        exact onw I9 q9
      | true =>
        simp only [if_true] at q9 ⊢
        refine thnF (pk.run _ s9 σ8 H9 _ I9 q9) ?_
        rintro z s10 ⟨yk, H10, I10, r10, q10⟩
        refine thnF (pe.run _ s10 σ8 H10 _ I10 q10) ?_
        rintro z2 s11 ⟨yv, H11, I11, r11, H12, pu, nx⟩
        exact dictSet_run (X := X.blk s3 H3 scope ce fp) room I11 pu r10 r11 fun s12 I12 => onw I12 nx
theorem pe_dcA {kx vx tg iter : Expr} {ifs : List Expr} {scope : Scope} {own : List (Str × Nat)} {pos : Pos} {wi : TI} {g : TG} {tt : TT} {tk tv : TE} (calm : X.calm = true) (nd : X.N.Nodup) (room : X.A.units < cLine)
    (walk : PI X tg iter wi) (blk : BlkOk X.N X.env.scope scope own)
    (gs : ∀ (u : Shared) (H : Hp) (C : Addr) (cl : List (Str × Addr)) (fp : List Addr), PG (X.blk u H scope (compEnvC scope cl C X.env) fp) tg g)
    (ts : ∀ (u : Shared) (H : Hp) (C : Addr) (cl : List (Str × Addr)) (fp : List Addr), PTs (X.blk u H scope (compEnvC scope cl C X.env) fp) ifs tt)
    (ks : ∀ (u : Shared) (H : Hp) (C : Addr) (cl : List (Str × Addr)) (fp : List Addr), PE (X.blk u H scope (compEnvC scope cl C X.env) fp) kx tk)
    (es : ∀ (u : Shared) (H : Hp) (C : Addr) (cl : List (Str × Addr)) (fp : List Addr), PE (X.blk u H scope (compEnvC scope cl C X.env) fp) vx tv)
    (fold : ∀ x, foldedSetIterable iter X.env x = pure x := by intro _; rfl) :
    PE X (.DictComp kx vx [⟨tg, iter, ifs, 0⟩] scope pos) (tDcA wi g tt tk tv (own.map (·.2))) := by
  constructor
  intro pins s σ H Q I hq
  rw [arm_eval_DictComp]
  refine core_dcA calm nd room I walk blk gs ts ks es fold hq fun D C s' m H' I' q hn f => ⟨m, hn, fun h'' sb => ?_⟩
  obtain ⟨f0, f1, f2, f3, f4, f5⟩ := f
  exact ⟨.ref D, H', I'.turned (t' := s'.toks) (fun b o hb e => (sb.2 b hb).trans e) f0 f1 f3 f4 f5, rfl, q⟩
theorem ps_setDcA {i : Nat} {y : Str} {py spos : Pos} {kx vx tg iter : Expr} {ifs : List Expr} {scope : Scope} {own : List (Str × Nat)} {pos : Pos} {wi : TI} {g : TG} {tt : TT} {tk tv : TE} (calm : X.calm = true) (nd : X.N.Nodup) (room : X.A.units < cLine)
    (hy : X.N[i]? = some y) (loc : X.env.scope.names.lookup y = some .local)
    (sw : swapsWith (.DictComp kx vx [⟨tg, iter, ifs, 0⟩] scope pos) (some (.Name y py)) spos.line X.env = pure true) (walk : PI X tg iter wi) (blk : BlkOk X.N X.env.scope scope own)
    (gs : ∀ (u : Shared) (H : Hp) (C : Addr) (cl : List (Str × Addr)) (fp : List Addr), PG (X.blk u H scope (compEnvC scope cl C X.env) fp) tg g)
    (ts : ∀ (u : Shared) (H : Hp) (C : Addr) (cl : List (Str × Addr)) (fp : List Addr), PTs (X.blk u H scope (compEnvC scope cl C X.env) fp) ifs tt)
    (ks : ∀ (u : Shared) (H : Hp) (C : Addr) (cl : List (Str × Addr)) (fp : List Addr), PE (X.blk u H scope (compEnvC scope cl C X.env) fp) kx tk)
    (es : ∀ (u : Shared) (H : Hp) (C : Addr) (cl : List (Str × Addr)) (fp : List Addr), PE (X.blk u H scope (compEnvC scope cl C X.env) fp) vx tv)
    (fold : ∀ x, foldedSetIterable iter X.env x = pure x := by intro _; rfl) :
    PS X (.Assign [.Name y py] (.DictComp kx vx [⟨tg, iter, ifs, 0⟩] scope pos) spos) (tAsg (tDcA wi g tt tk tv (own.map (·.2))) (gName i)) := by
  constructor
  intro pins s σ H Dn I h
  rw [exec_Assign_Name_used _ _ _ _ sw]
  refine wpAny_bind (wpAny_standAt (wpAny_bind ?_))
  show wpAny _ X.A (do
    let _ ← comprehension (.DictComp kx vx [⟨tg, iter, ifs, 0⟩] scope pos) scope X.env (firstIterPos [⟨tg, iter, ifs, 0⟩] pos) newDict false (eval iter X.env) (some (assign (.Name y py) X.env))) _ _ s
  have hq : tDcA wi g tt tk tv (own.map (·.2)) σ H (fun x H1 => gName i x σ H1 Dn.nx) := h
  refine wpAny_bind (thn (core_dcA (Qf := fun _ s' => L2.SP X pins Dn .next s') calm nd room I walk blk gs ts ks es fold hq ?_) fun _ s' q => wpAny_pure (wpAny_pure q))
  intro D C s' m H' I' q hn f
  show wpAny _ _ (assign (.Name y py) X.env (.ref D)) _ _ _
  refine wpAny_assign_Name (store_ok2 (v := V.ref D) I' nd hy (.inl loc) rfl (fun s2 I2 ⟨a, sb, ha⟩ => ?_) (.inr loc))
  obtain ⟨f0, f1, f2, f3, f4, f5⟩ := f
  have apart : C ≠ a := by
    rcases ha with z | z
    · rw [z]; exact f1
    · exact fun e => f4 y a z e.symm
  refine ⟨m, hn.sameBut sb apart, fun h3 sb3 => ?_⟩
  exact ⟨_, H', I2.turned (t' := s2.toks) (fun b o hb e => (sb3.2 b hb).trans e) f0 f1 f3 f4 f5, q⟩
end
end Fx

set_option Elab.async false
set_option linter.all false
set_option maxRecDepth 100000
namespace Fx
open PySem PySem.Spec PyProof.Rows L2

section
variable {K : PySem.W.Frag} {mg : Str → Option Value} {F : Hp} {A : List Addr} {G H : Hp} {en : En} {σ : L2.St}
def compD (g : EG) (c : ET) (k : EKy) (e : EE) (vs : List Nat) : List D → List (D × D) → En → Rs (List (D × D))
  | [], acc, en => .ok acc en
  | d :: ds, acc, en => match g d en with
    | none => .st
    | some en => (c en).nox.bind fun b en => if b = true then
        (k en).nox.bind fun q en => (dat e en).nox.bind fun y en => if fits acc q = true ∧ acc.length < 65536 then compD g c k e vs ds (dPut acc q y) (wipeE vs en) else .st
      else compD g c k e vs ds acc (wipeE vs en)
def oDc (i : EI) (g : EG) (c : ET) (k : EKy) (e : EE) (vs : List Nat) : EO := fun en => (i en).bind fun ds en => (compD g c k e vs ds [] (wipeE vs en)).nox.bind fun r en => .ok (.dict r) (wipeE vs en)
theorem sound_dc {E E1 : XE} {wi : TI} {tg : TG} {tt : TT} {tk te : TE} {fi : EI} {g : EG} {c : ET} {fk : EKy} {fe : EE} {vs : List Nat} (hi : SoundI K mg E wi fi) (hg : SoundG K vs tg g)
    (hc : SoundT K mg E1 tt c) (hk : SoundY K mg E1 tk fk) (he : SoundE K mg E1 te fe) : SoundO K mg E (tDcA wi tg tt tk te vs) (oDc fi g c fk fe vs) := by
  intro F A G en σ H R Q k
  refine hi F A G en σ H R _ (Then.imp (Then.bind k) (fun ds en1 k1 J F1 G1 H1 hF g1 R1 w1 p hp => ?_) fun _ _ z => z)
  have k1 := Then.bind k1
  have hN : ∀ a, F1 a = none → F a = none := fun a e => by
    cases q : F a with
    | none => rfl
    | some o => rw [hF a o q] at e; cases e
  have st : ∀ (r : Rs (List (D × D))) {ko : List (D × D) → En → Prop} {ke ke' : Er → En → Prop}, Then r.nox ko ke → Then r.nox ko ke' := by
    intro r ko ke ke' h
    cases r <;> exact h
  have nb : ∀ {α : Type} {r : Rs α} {β : Type} {f : α → En → Rs β} {ko : β → En → Prop}, Then (r.nox.bind f).nox ko (fun _ _ => False) → Then r.nox (fun a en => Then (f a en).nox ko (fun _ _ => False)) (fun _ _ => False) := by
    intro α r β f ko h
    cases r <;> exact h
  refine ⟨fun i m H => m = ds.length - i ∧ i ≤ ds.length ∧ ∃ G2 en2 acc, Grow F1 G1 G2 ∧ Rp K F1 A G2 (wipeE vs en2) (wipe σ vs) H ∧ Nw F1 A G2 (wipeE vs en2) (wipe σ vs) p ∧ Own K G2 H (.dict acc) p ∧
      Then (compD g c fk fe vs (ds.drop i) acc (wipeE vs en2)).nox (fun r en' => KoO K F A G2 σ Q (.dict r) (wipeE vs en')) (fun _ _ => False),
    ⟨ds.length, by simp, Nat.zero_le _, G1, en1, [], .refl _ _, (R1.fresh hp).wiped vs, (R1.free_new hp).wiped vs, .inl ⟨[], upd_same, rfl⟩, ?_⟩, ?_⟩
  · rw [List.drop_zero]
    exact Then.imp (st _ k1) (fun r en' z a G' H' g' => z a G' H' (g1.trans g')) fun _ _ z => z
  · rintro i m H2 ⟨rfl, hle, G2, en2, acc, g2, R2, n2, hacc, k2⟩
    by_cases hlt : i < ds.length
    · have hd : ds[i]? = some ds[i] := List.getElem?_eq_getElem hlt
      refine .inr ⟨w1.go i G2 _ _ H2 hlt g2 R2, fun H' => i + 1 ≤ ds.length ∧ ∃ G2 en2 acc, Grow F1 G1 G2 ∧ Rp K F1 A G2 (wipeE vs en2) (wipe σ vs) H' ∧
          Nw F1 A G2 (wipeE vs en2) (wipe σ vs) p ∧ Own K G2 H' (.dict acc) p ∧
          Then (compD g c fk fe vs (ds.drop (i + 1)) acc (wipeE vs en2)).nox (fun r en' => KoO K F A G2 σ Q (.dict r) (wipeE vs en')) (fun _ _ => False),
        fun H' h => ⟨ds.length - (i + 1), by omega, rfl, h⟩, fun x H' hy => ?_⟩
      obtain ⟨G3, g3, same, R3, r3⟩ := w1.yld i _ G2 _ _ H2 hd g2 R2 x H' hy
      obtain ⟨u, hu, cu, _⟩ := hacc.some
      have hu3 : H' p = some u := same p _ hu
      have hacc3 : Own K G3 H' (.dict acc) p := hacc.step (g3.weakF R2.fx).toLe (by rw [hu3, hu])
      have gp3 : G3 p = none := by
        cases e : G3 p with
        | none => rfl
        | some o =>
          rcases g3.nw p n2.g (by rw [e]; exact fun z => nomatch z) with this | ⟨xs, this⟩
          · rw [hu] at this; cases this
          · have q := R3.gx.tp p xs this
            rw [hu3] at q
            cases q
            cases cu
      have g3F := g3.weakF R2.fx
      have R3' := R3.guard hu3 (n2.grow gp3)
      rw [List.drop_eq_getElem_cons hlt] at k2
      have k2 : Then (match g ds[i] (wipeE vs en2) with
        | none => Rs.st
        | some en => (c en).nox.bind fun b en => if b = true then
            (fk en).nox.bind fun q en => (dat fe en).nox.bind fun y en => if fits acc q = true ∧ acc.length < 65536 then compD g c fk fe vs (ds.drop (i + 1)) (dPut acc q y) (wipeE vs en) else .st
          else compD g c fk fe vs (ds.drop (i + 1)) acc (wipeE vs en)).nox (fun r en' => KoO K F A G2 σ Q (.dict r) (wipeE vs en')) (fun _ _ => False) := k2
      cases q : g ds[i] (wipeE vs en2) with
      | none => rw [q] at k2; exact k2.elim
      | some en3 =>
        rw [q] at k2
        refine hg (upd F1 p u) A G3 _ _ H' R3' _ x r3 en3 q _ fun σ4 G4 H4 b4 g4 R4 => ⟨(wipe_but b4).trans wipe_wipe, ?_⟩
        have hw4 : wipe σ4 vs = wipe σ vs := (wipe_but b4).trans wipe_wipe
        refine hc (upd F1 p u) A G4 en3 σ4 H4 R4 _ (Then.nox (ke := fun _ _ => False) (Then.imp (nb k2) (fun b en5 k5 G5 H5 g5 R5 => ?_) fun _ _ z => z.elim))
        have gg5 := g4.trans g5
        have gp5 := guard_grow gg5 gp3 R5 cu
        cases b with
        | false =>
          obtain ⟨h5, R6, n6⟩ := R5.unguard n2.f n2.n gp5
          have R7 := R6.wiped vs
          have n7 := n6.wiped vs
          rw [hw4] at R7 n7
          have gF := g3F.trans (gg5.weakF (upd_weak n2.f))
          exact ⟨hlt, G5, en5, acc, g2.trans gF, R7, n7, hacc3.step (gg5.weakF (upd_weak n2.f)).toLe (by rw [h5, hu3]), Then.imp k5 (fun r en' z a G' H' g' => z a G' H' ((gF.weakF hF).trans g')) fun _ _ z => z⟩
        | true =>
          refine hk (upd F1 p u) A G5 en5 σ4 H5 R5 _ (Then.nox (ke := fun _ _ => False) (Then.imp (nb k5) (fun kd en6 k6 y G6 H6 g6 R6 r6 q6 => ?_) fun _ _ z => z.elim))
          refine he.dat R6 (Then.nox (ke := fun _ _ => False) (Then.imp (nb k6) (fun yd en7 k7 v G7 H7 g7 R7 r7 => ?_) fun _ _ z => z.elim))
          have gg7 := (gg5.trans g6).trans g7
          have gp7 := guard_grow gg7 gp3 R7 cu
          obtain ⟨h7, R8, n8⟩ := R7.unguard n2.f n2.n gp7
          have gF := g3F.trans (gg7.weakF (upd_weak n2.f))
          by_cases hl : fits acc kd = true ∧ acc.length < 65536
          · rw [if_pos hl] at k7
            have own7 := hacc3.step (gg7.weakF (upd_weak n2.f)).toLe (show H7 p = H' p by rw [h7, hu3])
            obtain ⟨w, pu, ow⟩ := puts_of R8.gx own7 hl.1 (Rv.le g7.toLe _ _ r6) (q6.grow g7) r7 hl.2
            have R9 := (R8.build (u := w) n8).wiped vs
            have n9 := n8.wiped vs
            rw [hw4] at R9 n9
            exact ⟨_, pu, hlt, G7, en7, dPut acc kd yd, g2.trans gF, R9, n9, ow, Then.imp k7 (fun r en' z a G' H' g' => z a G' H' ((gF.weakF hF).trans g')) fun _ _ z => z⟩
          · rw [if_neg hl] at k7; exact k7.elim
    · obtain rfl : i = ds.length := by omega
      refine .inl ⟨w1.stop G2 _ _ H2 g2 R2, ?_⟩
      rw [List.drop_eq_nil_of_le (Nat.le_refl _)] at k2
      have k3 : KoO K F A G2 σ Q (.dict acc) (wipeE vs (wipeE vs en2)) := k2
      rw [wipeE_wipeE] at k3
      have hs : ∀ (i : Nat) d, (wipeE vs en2)[i]? = some (.ow d) → (wipe σ vs)[i]? = σ[i]? := fun i d e => by
        by_cases hi : i ∈ vs
        · have hl : i < en2.length := by
            have := (List.getElem?_eq_some_iff.mp e).1
            rwa [wipeE_length] at this
          rw [wipeE_in hi hl] at e
          cases e
        · exact wipe_out hi
      exact k3 p G2 H2 (.refl _ _) (R2.unwipe.weakF hF) hacc ⟨hN _ n2.f, n2.g, n2.n, fun i d e h => n2.s i d e ((hs i d e).trans h)⟩
end

/-! ### walks of dicts: the dict stays locked -/
def tLk (td : TE) : TE := fun σ H Q => td σ H fun x H1 => ∃ d u, x = .ref d ∧ Cn u = true ∧ ((H1 d = some u ∧ ∀ o, Q x (upd H1 d (.frz o u))) ∨ ∃ o, H1 d = some (.frz o u) ∧ Q x H1)
theorem pe_lk {X : Cx} {e : Expr} {td : TE} (h : PE X e td) : PE X e (tLk td) := by
  constructor
  intro pins s σ H Q I hq
  refine thn (h.run pins s σ H _ I hq) ?_
  rintro v s1 ⟨x, H1, I1, rx, d, u, rfl, cu, ⟨hd, q⟩ | ⟨o, hd, q⟩⟩
  · obtain ⟨o, I2⟩ := I1.lock hd (by cases u <;> first | trivial | cases cu)
    exact ⟨_, _, I2, rx, q o⟩
  · exact ⟨_, _, I1, rx, q⟩
/-- the pair at i of the dict u -/
def itemU (u : HO) (H : Hp) (i : Nat) (k v : V) : Prop := match u with
  | .dK xs => ∃ q, xs[i]? = some (q, v) ∧ k = kV q
  | .dT xs => ∃ q b, xs[i]? = some (q, v) ∧ k = .ref b ∧ H b = some (.tup (q.map kV))
  | _ => False
def sizeU : HO → Nat
  | .dK xs => xs.length
  | .dT xs => xs.length
  | _ => 0
theorem pairs_get {P : Program} {w : World} : ∀ {es : List DictEntry} {vs : List (Key × Value)} {i : Nat} {e : DictEntry}, Pairs (mixKind P w) es vs → es[i]? = some e → ∃ b, vs[i]? = some b ∧ keyIs b.1 e.key = true ∧ e.val = b.2
  | _, _, _, _, .nil, h => by cases h
  | _, _, 0, _, .cons (kv := kv) h1 h2 _, h => by cases h; exact ⟨kv, rfl, h1, h2⟩
  | _, _, i + 1, _, .cons h1 h2 t, h => by
    obtain ⟨b, q⟩ := pairs_get (i := i) t h
    exact ⟨b, q⟩
def isU : HO → Bool
  | .dK _ => true
  | .dT _ => true
  | _ => false
section
variable {X : Cx} {pins : List (Addr × Obj)} {σ : L2.St} {H : Hp} {s : Shared} {d : Addr} {o : Obj} {u : HO}
theorem frzU (I : Inv X pins σ H s) (hu : isU u = true) (h : H d = some (.frz o u)) : (d == sysModules) = false ∧ s.heap.get? d = some o ∧ o.ExactDict ∧ ∃ (es : Array DictEntry) (ep : Nat), o.data = .dict es ep ∧
    es.size = sizeU u ∧ sizeU u ≤ sizeLine ∧ ∀ i, (hi : i < es.size) → ∃ k v, itemU u H i k v ∧ RelV k es[i].key ∧ RelV v es[i].val := by
  cases u with
  | dK xs =>
    obtain ⟨nm, hg, ex, es, ep, vs, hdt, sz, kv, hm⟩ := I.frzK h
    obtain ⟨_, z, _⟩ := I.hok d _ h
    obtain ⟨o', es', h1, _, h3, h4, h5, _⟩ := hm
    rw [hg] at h1
    cases h1
    rw [hdt] at h3
    cases h3
    refine ⟨nm, hg, ex, es, ep, hdt, sz, z, fun i hi => ?_⟩
    have hx : i < xs.length := by omega
    have e1 : xs[i]? = some xs[i] := List.getElem?_eq_getElem hx
    obtain ⟨v', hv, rv⟩ := kv_get kv (k := xs[i].1) (v := xs[i].2) e1
    have e2 : es.toList[i]? = some es[i] := by rw [Array.getElem?_toList, Array.getElem?_eq_getElem hi]
    obtain ⟨b, hb, hbb⟩ := pairs_get h5 e2
    rw [hv] at hb
    cases hb
    refine ⟨kV xs[i].1, xs[i].2, ⟨xs[i].1, e1, rfl⟩, relV_key hbb.1, ?_⟩
    rw [hbb.2]
    exact rv
  | dT xs =>
    obtain ⟨ho, z, nm, zs, pr, o', es, ep, h1, ex, hdt, he, _⟩ := I.hok d _ h
    rw [ho] at h1
    cases h1
    have l1 : es.size = zs.length := size_of_entries he
    have l2 : xs.length = zs.length := Paired.length pr
    refine ⟨nm, ho, ex, es, ep, hdt, by show es.size = xs.length; omega, z, fun i hi => ?_⟩
    have hx : i < xs.length := by omega
    have e1 : xs[i]? = some xs[i] := List.getElem?_eq_getElem hx
    obtain ⟨b, hb, q1, q2, q3⟩ := paired_get pr e1
    have q := entry_at he i
    rw [hb, Array.getElem?_eq_getElem hi] at q
    have q' : es[i] = entryOfKey (tupleKind (mixKind X.prog X.w)) b := Option.some.inj q
    refine ⟨.ref b.2.1, xs[i].2, ⟨xs[i].1, b.2.1, e1, rfl, q2⟩, ?_, ?_⟩
    · rw [q']; exact rfl
    · rw [q']; exact q3
  | _ => cases hu
end
/-- the pairs of the locked dict at d -/
def Itm (d : Addr) (o : Obj) (u : HO) : It where
  go := fun i H => H d = some (.frz o u) ∧ i < sizeU u
  yld := fun i H x H' => ∃ T k v, itemU u H i k v ∧ x = .ref T ∧ H T = none ∧ H' = upd H T (.tup [k, v])
  stop := fun i H => H d = some (.frz o u) ∧ sizeU u ≤ i
theorem turn_itm {P : Program} {w : World} {K : PySem.W.Frag} {elts : List Expr} {kk : Nat} {tpos : Pos} {d : Addr} {o : Obj} {u : HO} {es : Array DictEntry} {ep : Nat} (it : Addr) (iu : isU u = true) (hod : o.data = .dict es ep) :
    Turn P w K (.Tuple elts kk tpos) (Itm d o u) [it] it (fun i h => ∃ a b, IsItemIter h it d i (sizeU u) ep a b) where
  mem := List.mem_singleton.mpr rfl
  obj := by
    rintro i h ⟨a, b, e⟩ c hc
    rw [List.mem_singleton.mp hc]
    exact ⟨_, e, fun v z => nomatch z⟩
  keep := by
    rintro i h h' ⟨a, b, e⟩ k
    exact ⟨a, b, k it (List.mem_singleton.mpr rfl) _ e⟩
  item := by
    intro X e1 e2 e3 calm i pins s σ H E I hf st hg
    subst e1 e2 e3
    obtain ⟨hd, hi⟩ := hg
    obtain ⟨nm, hh, ex, es', ep', hdt, sz, small, ent⟩ := frzU I iu hd
    obtain ⟨rfl, rfl⟩ := dict_ep hod hdt
    obtain ⟨ok, ov, he⟩ := st
    have hi' : i < es'.size := by rw [sz]; exact hi
    obtain ⟨k, v, hkv, rk, rv⟩ := ent i hi'
    rw [← sz] at he
    have lt : it < s.heap.objs.size := Heap.lt_size he
    refine wpAny_pyNext_items_item_raw he ⟨o, hh, ex, hdt⟩ hi' fun h' out hT _ hk => ?_
    refine ⟨_, rfl, wpAny_letOwnedTupleGo_items (s := { s with heap := h' }) out fun h2 he2 same => ?_⟩
    have hT2 : h2.get? s.heap.objs.size = some { cls := .type "tuple", data := .seq #[es'[i].key, es'[i].val] } := (same.2 _ (Nat.ne_of_gt lt)).trans hT
    have new : ObjOk X.prog X.w (upd H s.heap.objs.size (.tup [k, v])) h2 s.heap.objs.size (.tup [k, v]) :=
      ⟨by show 2 ≤ sizeLine; decide, [es'[i].key, es'[i].val], .cons rk (.cons rv .nil), ⟨_, hT2, rfl, _, rfl⟩⟩
    have I1 := I.turnedNew (t' := s.toks) (ch := [it]) (h' := h2) (fun b ob hb q => by
      have b1 : b ≠ it := fun z => hb (List.mem_singleton.mpr z)
      exact (same.2 b b1).trans (hk b ob b1 q)) hf (Nat.le_refl _) new
    refine ⟨.ref s.heap.objs.size, _, I1, rfl, ⟨_, k, v, hkv, rfl, I.hok.fresh (Nat.le_refl _), rfl⟩, ⟨es'[i].key, es'[i].val, ?_⟩, fun b hb => ?_⟩
    · rw [← sz]
      exact he2
    · rw [List.mem_singleton.mp hb, upd_ne (Nat.ne_of_lt lt)]
      exact (hf it (List.mem_singleton.mpr rfl)).1
  done := by
    intro X e1 e2 e3 calm i pins s σ H E I hf st hg
    subst e1 e2 e3
    obtain ⟨hd, hi⟩ := hg
    obtain ⟨nm, hh, ex, es', ep', hdt, sz, small, ent⟩ := frzU I iu hd
    obtain ⟨rfl, rfl⟩ := dict_ep hod hdt
    obtain ⟨f0, f1, f2, f3, f4, f5⟩ := hf it (List.mem_singleton.mpr rfl)
    obtain ⟨ok, ov, he⟩ := st
    rw [← sz] at he
    exact wpAny_pyNext_items_end_raw (I.ok.hd calm) he ⟨o, hh, ex, hdt⟩ (by rw [sz]; exact hi) fun h' eb => ⟨rfl, I.turned (t' := s.toks) (fun b ob hb q => eb b ob hb q) f0 f1 f3 f4 f5⟩
  self := by
    rintro A i s Q E ⟨_, _, e⟩ h
    exact PySem.W.kcp_self e h
def iItm (td : TE) : TI := fun σ H R => tLk td σ H fun x H1 => ∃ d o u, x = .ref d ∧ isU u = true ∧ H1 d = some (.frz o u) ∧ R (Itm d o u) H1
theorem pi_itm {X : Cx} {e : Expr} {td : TE} {apos cpos tpos : Pos} {elts : List Expr} {kk : Nat} (he : PE X e td) (base : attributeBase e "items" X.env (eval e X.env) = eval e X.env := by rfl) (line : (apos.endLine == cpos.line) = true := by rfl) :
    PI X (.Tuple elts kk tpos) (.Call (.Attribute e "items" apos) [] [] cpos) (iItm td) := by
  constructor
  intro pins s σ H R I h
  refine wpAny_Call_method (T := "dict") (id := "dict.items") base rfl line F.plainAttrs_dict F.slot_dict_items F.type_dict_items ?_
  refine thn ((pe_lk he).run pins s σ H _ I h) ?_
  rintro v s1 ⟨x, H1, I1, rx, d, o, u, rfl, iu, hd, q⟩
  obtain rfl : v = Value.ref d := rx
  obtain ⟨nm, hh, ex, es, ep, hdt, sz, small, ent⟩ := frzU I1 iu hd
  have raw : s1.heap.DictRaw d es ep := ⟨o, hh, ex, hdt⟩
  refine ⟨⟨o, hh, ex.1⟩, fun b q => ?_, ?_⟩
  · cases q
    exact ⟨o, hh, ex.2.1⟩
  have I2 : Inv X pins σ H1 { s1 with heap := s1.heap.push { cls := .type "dict_items", data := .fields #[.ref d] } } := I1.kept (t' := s1.toks) fun b ob q => Heap.get?_push_of_some _ q
  refine method_meetsIn F.slot_dict_items F.entry_dict_items rfl (PySem.evalArgs_none ⟨rfl, ⟨o, hh, ex.1⟩, F.args_dict_items_1 _, _, meets_dict_items_raw d nm, ⟨⟨_, _, raw⟩, ?_⟩⟩)
  show wpAny (model X.prog X.w) X.A (pyIter (.ref s1.heap.objs.size)) (PIE X pins σ (.Tuple elts kk tpos) R) X.xe { s1 with heap := s1.heap.push { cls := .type "dict_items", data := .fields #[.ref d] } }
  refine wpAny_pyIter_items_raw (d := d) (es := es) (ep := ep) ⟨_, Heap.get?_push_size _ rfl, rfl, rfl⟩ (raw.at fun _ e => Heap.get?_push_of_some _ e) (pi_one (tk := s1.toks) I2 _ (turn_itm _ iu hdt) ⟨.none, .none, ?_⟩ q)
  rw [← sz]
  exact Heap.get?_push_size _ rfl
end Fx

set_option Elab.async false
set_option linter.all false
set_option maxRecDepth 100000
namespace Fx
open PySem PySem.Spec PyProof.Rows L2
section
variable {K : PySem.W.Frag} {mg : Str → Option Value} {F : Hp} {A : List Addr} {G H : Hp} {en : En} {σ : L2.St}
theorem rvs_keys : ∀ ks : List Key, Rvs K G (ks.map kD) (ks.map kV)
  | [] => rfl
  | .inl i :: ks => ⟨.int i, ks.map kV, rfl, rfl, rvs_keys ks⟩
  | .inr x :: ks => ⟨.str x, ks.map kV, rfl, rfl, rvs_keys ks⟩
theorem rv_key (k : Key) : Rv K G (kD k) (kV k) := by cases k <;> rfl
theorem RvK.get : ∀ {kvs : List (D × D)} {xs : List (Key × V)} {i : Nat} {p : D × D}, RvK K G kvs xs → kvs[i]? = some p → ∃ q v, xs[i]? = some (q, v) ∧ p.1 = kD q ∧ Rv K G p.2 v
  | [], _, _, _, _, h => by cases h
  | (a, d) :: r, _, 0, _, ⟨q, v, s, e, e2, h1, h2⟩, h => by cases h; subst e; exact ⟨q, v, rfl, e2, h1⟩
  | (a, d) :: r, _, i + 1, _, ⟨q, v, s, e, e2, h1, h2⟩, h => by
    subst e
    obtain ⟨q', w⟩ := RvK.get (i := i) h2 h
    exact ⟨q', w⟩
theorem RvT.get : ∀ {kvs : List (D × D)} {xs : List (List Key × V)} {i : Nat} {p : D × D}, RvT K G kvs xs → kvs[i]? = some p → ∃ q v, xs[i]? = some (q, v) ∧ p.1 = tD q ∧ Rv K G p.2 v
  | [], _, _, _, _, h => by cases h
  | (a, d) :: r, _, 0, _, ⟨q, v, s, e, e2, h1, h2⟩, h => by cases h; subst e; exact ⟨q, v, rfl, e2, h1⟩
  | (a, d) :: r, _, i + 1, _, ⟨q, v, s, e, e2, h1, h2⟩, h => by
    subst e
    obtain ⟨q', w⟩ := RvT.get (i := i) h2 h
    exact ⟨q', w⟩
/-- a new pair -/
theorem Rp.pair (R : Rp K F A G en σ H) {T : Addr} {x y : V} (hT : H T = none) : ∃ G', Grow H G G' ∧ Rp K F A G' en σ (upd H T (.tup [x, y])) ∧ G' T = some (.tup [x, y]) := by
  obtain ⟨_, R2⟩ := R.new (u := .tup [x, y]) hT (fun _ _ z => nomatch z)
  have gn : G T = none := R.gx.dm T hT
  refine ⟨_, ⟨fun c o e => by rw [upd_ne (ne_of_none e gn)]; exact e, fun c e e' => ?_⟩, R2, upd_same⟩
  by_cases z : c = T
  · rw [z]; exact .inl hT
  · rw [upd_ne z] at e'; exact absurd e e'
def itemsOf (kvs : List (D × D)) : List D := kvs.map fun p => .tuple [p.1, p.2]
def keysOf (kvs : List (D × D)) : List D := kvs.map (·.1)
def iIt (f : EE) : EI := fun en => (dat f en).bind fun d en => match d with
  | .dict kvs => .ok (itemsOf kvs) en
  | _ => .st
def RvU (K : PySem.W.Frag) (G : Hp) (kvs : List (D × D)) : HO → Prop
  | .dK xs => RvK K G kvs xs
  | .dT xs => RvT K G kvs xs
  | _ => False
/-- a dict as data: its object, locked or not -/
theorem Rv.dict {kvs : List (D × D)} {v : V} (h : Rv K G (.dict kvs) v) : ∃ a u, v = .ref a ∧ isU u = true ∧ Cn u = true ∧ Rd G a u ∧ sizeU u = kvs.length ∧ RvU K G kvs u := by
  obtain ⟨a, rfl, ⟨xs, h1, h2⟩ | ⟨xs, h1, h2⟩⟩ := h
  · exact ⟨a, .dK xs, rfl, rfl, rfl, h1, h2.length, h2⟩
  · exact ⟨a, .dT xs, rfl, rfl, rfl, h1, h2.length, h2⟩
theorem walk_itm {a : Addr} {o : Obj} {u : HO} {kvs : List (D × D)} (fa : F a = some (.frz o u)) (sz : sizeU u = kvs.length) (r : RvU K G kvs u) : Walk K F A G (Itm a o u) (itemsOf kvs) := by
  have len : (itemsOf kvs).length = sizeU u := by rw [sz]; exact List.length_map ..
  refine ⟨fun i G' en σ H hi g R => ⟨R.fx a _ fa, by omega⟩, fun G' en σ H g R => ⟨R.fx a _ fa, by omega⟩, fun i d G' en σ H hd g R x H' hy => ?_⟩
  obtain ⟨T, k, v, hkv, rfl, hT, rfl⟩ := hy
  obtain ⟨p, hp, rfl⟩ := Option.map_eq_some_iff.mp (show (kvs[i]?).map (fun p => PyData.tuple [p.1, p.2]) = some d by rw [← List.getElem?_map]; exact hd)
  cases u with
  | dK xs =>
    obtain ⟨q, hq, rfl⟩ := hkv
    obtain ⟨q', v', e1, e2, rv⟩ := RvK.get r hp
    rw [hq] at e1
    cases e1
    obtain ⟨G2, g2, R2, hT2⟩ := R.pair (x := kV q) (y := v) hT
    refine ⟨G2, g2, fun c o e => by rw [upd_ne (ne_of_none e hT)]; exact e, R2, T, [kV q, v], rfl, .inl hT2, kV q, [v], rfl, ?_, v, [], rfl, Rv.le (g.toLe.trans g2.toLe) _ _ rv, rfl⟩
    rw [e2]
    exact rv_key q
  | dT xs =>
    obtain ⟨q, b, hq, rfl, hb⟩ := hkv
    obtain ⟨q', v', e1, e2, rv⟩ := RvT.get r hp
    rw [hq] at e1
    cases e1
    obtain ⟨G1, g1, R1, hb1⟩ := R.tup hb
    obtain ⟨G2, g2, R2, hT2⟩ := R1.pair (x := .ref b) (y := v) hT
    refine ⟨G2, (g1 H).trans g2, fun c o e => by rw [upd_ne (ne_of_none e hT)]; exact e, R2, T, [.ref b, v], rfl, .inl hT2, .ref b, [v], rfl, ?_, v, [], rfl, Rv.le (g.toLe.trans ((g1 H).trans g2).toLe) _ _ rv, rfl⟩
    rw [e2]
    exact ⟨b, q.map kV, rfl, .inl (g2.le b _ hb1), rvs_keys q⟩
  | _ => exact r.elim
theorem sound_itm {E : XE} {t : TE} {f : EE} (h : SoundE K mg E t f) : SoundI K mg E (iItm t) (iIt f) := by
  intro F A G en σ H R Q k
  refine h.dat R (Then.imp (Then.bind k) (fun d en1 k1 v G1 H1 g1 R1 r1 => ?_) fun _ _ z => z)
  cases d with
  | dict kvs =>
    obtain ⟨a, u, rfl, iu, cu, hg, sz, rr⟩ := r1.dict
    refine ⟨a, u, rfl, cu, ?_⟩
    rcases R1.gx.rd a u cu hg with q | ⟨o, q⟩
    · refine .inl ⟨q, fun o => ?_⟩
      obtain ⟨F2, hF, R2, fa⟩ := R1.lock cu hg o (.inl q)
      exact ⟨a, o, u, rfl, iu, upd_same, k1 _ F2 G1 _ hF g1 R2 (walk_itm fa sz rr)⟩
    · obtain ⟨F2, hF, R2, fa⟩ := R1.lock cu hg o (.inr q)
      rw [upd_id q] at R2
      exact .inr ⟨o, q, a, o, u, rfl, iu, q, k1 _ F2 G1 _ hF g1 R2 (walk_itm fa sz rr)⟩
  | _ => exact k1.elim

/-! ### comparisons in a chain -/
theorem sound_chain {E : XE} {r1 r2 : R2} {o1 o2 : D → D → Option D} {ta tb tc : TE} {fa fb fc : EE} (h1 : SoundOp K r1 o1) (h2 : SoundOp K r2 o2) (ha : SoundE K mg E ta fa) (hb : SoundE K mg E tb fb) (hc : SoundE K mg E tc fc) : SoundE K mg E (tChain r1 r2 ta tb tc) (eChain o1 o2 fa fb fc) := by
  intro F A G en σ H R Q k
  refine ha F A G en σ H R _ (Then.imp (Then.bind k) (fun x en1 k1 v G1 H1 g1 R1 q1 => ?_) fun _ _ z => z)
  refine hb F A G1 en1 σ H1 R1 _ (Then.imp (Then.bind k1) (fun y en2 k2 u G2 H2 g2 R2 q2 => ?_) fun x en2 k2 => KeE.grow g1 k2)
  cases e1 : rd x en2 with
  | none => rw [e1] at k2; exact k2.elim
  | some dx =>
    cases e2 : rd y en2 with
    | none => rw [e1, e2] at k2; exact k2.elim
    | some dy =>
      rw [e1, e2] at k2
      cases e3 : o1 dx dy with
      | none => simp only [e3] at k2; exact k2.elim
      | some z =>
        cases z with
        | bool b =>
          refine h1 F A G2 en2 σ H2 R2 dx dy v u _ (rd_rc R2 (q1.grow g2) e1) (rd_rc R2 q2 e2) e3 _ fun w G3 H3 g3 R3 r3 => ⟨b, r3, ?_⟩
          cases b with
          | false =>
            simp only [e3] at k2
            exact k2 (.bl false) G3 H3 ((g1.trans g2).trans g3) R3 rfl
          | true =>
            simp only [e3] at k2
            refine hc F A G3 en2 σ H3 R3 _ (Then.imp (Then.bind k2) (fun c en4 k4 w G4 H4 g4 R4 q4 => ?_) fun x en4 k4 => KeE.grow ((g1.trans g2).trans g3) k4)
            cases e5 : rd y en4 with
            | none => rw [e5] at k4; exact k4.elim
            | some dy' =>
              cases e6 : rd c en4 with
              | none => rw [e5, e6] at k4; exact k4.elim
              | some dw =>
                rw [e5, e6] at k4
                cases e7 : o2 dy' dw with
                | none => simp only [e7] at k4; exact k4.elim
                | some z2 =>
                  simp only [e7] at k4
                  exact h2 F A G4 en4 σ H4 R4 dy' dw u w z2 (rd_rc R4 (q2.grow (g3.trans g4)) e5) (rd_rc R4 q4 e6) e7 Q fun w2 G5 H5 g5 R5 r5 => k4 w2 G5 H5 ((((g1.trans g2).trans g3).trans g4).trans g5) R5 r5
        | _ => simp only [e3] at k2; exact k2.elim
end
end Fx

set_option Elab.async false
set_option linter.all false
set_option maxRecDepth 100000
namespace Fx
open PySem PySem.Spec PySem.W PyProof.Rows L2

section
variable {K : PySem.W.Frag} {mg : Str → Option Value} {F : Hp} {A : List Addr} {G H : Hp} {en : En} {σ : L2.St}
/-! ### builtins, by data -/
def oLen : D → Option D
  | .list ds => some (.int ds.length)
  | .tuple ds => some (.int ds.length)
  | .str x => if x.length ≤ 65536 then some (.int x.length) else none
  | _ => none
def rLenA (K : PySem.W.Frag) (vs : List V) (H : Hp) (Q : VK) : Prop := ∃ x n, vs = [x] ∧ LenV K x H n ∧ Q (.int n) H
theorem sound_len : SoundUn K (fun v H Q => rLenA K [v] H Q) oLen := by
  intro F A G en σ H R x v z r e Q k
  cases x with
  | list ds =>
    cases e
    obtain ⟨a, vs, rfl, h1, h2⟩ := r
    exact ⟨_, _, rfl, .inl ⟨vs, h1, rfl⟩, k _ G H (.refl _ _) R (by rw [h2.length]; rfl)⟩
  | tuple ds =>
    cases e
    obtain ⟨a, vs, rfl, h1, h2⟩ := (show Rv K G (.tuple ds) v from r)
    exact ⟨_, _, rfl, .inr ⟨vs, (h1.le R.gx).sq, rfl⟩, k _ G H (.refl _ _) R (by rw [h2.length]; rfl)⟩
  | str y =>
    have e' : (if y.length ≤ 65536 then some (PyData.int y.length) else none) = some z := e
    split at e'
    · rename_i h
      cases e'
      obtain rfl : v = .str y := r
      exact ⟨_, _, rfl, ⟨size_of h, rfl⟩, k _ G H (.refl _ _) R rfl⟩
    · cases e'
  | _ => cases e
def oAbs : D → Option D
  | .int i => some (.int (if i < 0 then -i else i))
  | _ => none
theorem sound_abs : SoundUn K (fun v H Q => ∃ i, [v] = [V.int i] ∧ Q (.int (if i < 0 then -i else i)) H) oAbs := by
  intro F A G en σ H R x v z r e Q k
  cases x with
  | int i =>
    cases e
    obtain rfl : v = .int i := r
    exact ⟨i, rfl, k _ G H (.refl _ _) R rfl⟩
  | _ => cases e
def oInt : D → Option D
  | .int i => some (.int i)
  | .bool b => some (.int (if b then 1 else 0))
  | _ => none
theorem sound_int : SoundUn K (fun v H Q => (∃ i, [v] = [V.int i] ∧ Q (.int i) H) ∨ ∃ k, [v] = [V.bl k] ∧ Q (.int (if k then 1 else 0)) H) oInt := by
  intro F A G en σ H R x v z r e Q k
  cases x with
  | int i =>
    cases e
    obtain rfl : v = .int i := r
    exact .inl ⟨i, rfl, k _ G H (.refl _ _) R rfl⟩
  | bool b =>
    cases e
    obtain rfl : v = .bl b := r
    exact .inr ⟨b, rfl, k _ G H (.refl _ _) R rfl⟩
  | _ => cases e
def oMax2 (x y : D) : Option D := match x, y with
  | .int i, .int j => some (.int (if j > i then j else i))
  | _, _ => none
def oMin2 (x y : D) : Option D := match x, y with
  | .int i, .int j => some (.int (if j < i then j else i))
  | _, _ => none
theorem sound_max2 : SoundOp K (fun x y H Q => ∃ i j, [x, y] = [V.int i, V.int j] ∧ Q (.int (if j > i then j else i)) H) oMax2 := by
  intro F A G en σ H R x y v u z rx ry e Q k
  unfold oMax2 at e
  split at e
  · rename_i i j
    cases e
    obtain rfl : v = .int i := rx
    obtain rfl : u = .int j := ry
    exact ⟨i, j, rfl, k _ G H (.refl _ _) R rfl⟩
  · cases e
theorem sound_min2 : SoundOp K (fun x y H Q => ∃ i j, [x, y] = [V.int i, V.int j] ∧ Q (.int (if j < i then j else i)) H) oMin2 := by
  intro F A G en σ H R x y v u z rx ry e Q k
  unfold oMin2 at e
  split at e
  · rename_i i j
    cases e
    obtain rfl : v = .int i := rx
    obtain rfl : u = .int j := ry
    exact ⟨i, j, rfl, k _ G H (.refl _ _) R rfl⟩
  · cases e
/-! lists of boolsD, of intsD -/
def boolsD : List D → Option (List Bool)
  | [] => some []
  | .bool b :: ds => (boolsD ds).map (b :: ·)
  | _ => none
def intsD : List D → Option (List Int)
  | [] => some []
  | .int i :: ds => (intsD ds).map (i :: ·)
  | _ => none
theorem rvs_bools : ∀ {ds : List D} {vs : List V} {bs : List Bool}, Rvs K G ds vs → boolsD ds = some bs → vs = bs.map V.bl
  | [], _, _, h, e => by cases e; exact h
  | d :: ds, _, bs, ⟨v, r, e0, h1, h2⟩, e => by
    cases d with
    | bool b =>
      obtain ⟨bs', h3, rfl⟩ := Option.map_eq_some_iff.mp (show (boolsD ds).map (b :: ·) = some bs from e)
      subst e0
      obtain rfl : v = .bl b := h1
      rw [List.map_cons, ← rvs_bools h2 h3]
    | _ => cases e
theorem rvs_ints : ∀ {ds : List D} {vs : List V} {bs : List Int}, Rvs K G ds vs → intsD ds = some bs → vs = bs.map V.int
  | [], _, _, h, e => by cases e; exact h
  | d :: ds, _, bs, ⟨v, r, e0, h1, h2⟩, e => by
    cases d with
    | int b =>
      obtain ⟨bs', h3, rfl⟩ := Option.map_eq_some_iff.mp (show (intsD ds).map (b :: ·) = some bs from e)
      subst e0
      obtain rfl : v = .int b := h1
      rw [List.map_cons, ← rvs_ints h2 h3]
    | _ => cases e
def oAll : D → Option D
  | .list ds => (boolsD ds).map fun bs => .bool (bs.all id)
  | _ => none
def oAny : D → Option D
  | .list ds => (boolsD ds).map fun bs => .bool (bs.any id)
  | _ => none
def oSum : D → Option D
  | .list ds => (intsD ds).map fun bs => .int bs.sum
  | _ => none
theorem sound_all : SoundUn K (fun v H Q => rAll K [v] H Q) oAll := by
  intro F A G en σ H R x v z r e Q k
  cases x with
  | list ds =>
    obtain ⟨bs, h, rfl⟩ := Option.map_eq_some_iff.mp (show (boolsD ds).map _ = some z from e)
    obtain ⟨a, vs, rfl, h1, h2⟩ := r
    have := rvs_bools h2 h
    subst this
    exact ⟨a, bs, rfl, h1, k _ G H (.refl _ _) R rfl⟩
  | _ => cases e
theorem sound_any : SoundUn K (fun v H Q => rAny K [v] H Q) oAny := by
  intro F A G en σ H R x v z r e Q k
  cases x with
  | list ds =>
    obtain ⟨bs, h, rfl⟩ := Option.map_eq_some_iff.mp (show (boolsD ds).map _ = some z from e)
    obtain ⟨a, vs, rfl, h1, h2⟩ := r
    have := rvs_bools h2 h
    subst this
    exact ⟨a, bs, rfl, h1, k _ G H (.refl _ _) R rfl⟩
  | _ => cases e
theorem sound_sum : SoundUn K (fun v H Q => rSum K [v] H Q) oSum := by
  intro F A G en σ H R x v z r e Q k
  cases x with
  | list ds =>
    obtain ⟨bs, h, rfl⟩ := Option.map_eq_some_iff.mp (show (intsD ds).map _ = some z from e)
    obtain ⟨a, vs, rfl, h1, h2⟩ := r
    have := rvs_ints h2 h
    subst this
    exact ⟨a, bs, rfl, h1, k _ G H (.refl _ _) R rfl⟩
  | _ => cases e
/-! tuple(x), list(x) -/
def rTupA (K : PySem.W.Frag) (xs : List V) (H : Hp) (Q : VK) : Prop := ∃ p ys, xs = [.ref p] ∧ ((SqL K H p ys ∧ ∀ l, H l = none → Q (.ref l) (upd H l (.tup ys))) ∨ (SqT K H p ys ∧ Q (.ref p) H))
def oTuple : D → Option D
  | .list ds => some (.tuple ds)
  | .tuple ds => some (.tuple ds)
  | _ => none
theorem sound_tuple : SoundUn K (fun v H Q => rTupA K [v] H Q) oTuple := by
  intro F A G en σ H R x v z r e Q k
  cases x with
  | list ds =>
    cases e
    obtain ⟨a, vs, rfl, h1, h2⟩ := r
    refine ⟨a, vs, rfl, .inl ⟨h1, fun p hp => ?_⟩⟩
    obtain ⟨g2, R2⟩ := R.new (u := .tup vs) hp (fun _ _ z => nomatch z)
    exact k _ _ _ g2 R2 ⟨p, vs, rfl, .inl upd_same, Rvs.le g2.toLe ds vs h2⟩
  | tuple ds =>
    cases e
    obtain ⟨a, vs, rfl, h1, h2⟩ := (show Rv K G (.tuple ds) v from r)
    exact ⟨a, vs, rfl, .inr ⟨(h1.le R.gx).sq, k _ G H (.refl _ _) R ⟨a, vs, rfl, h1, h2⟩⟩⟩
  | _ => cases e
def rLstA (K : PySem.W.Frag) (xs : List V) (H : Hp) (Q : VK) : Prop := ∃ p ys, xs = [.ref p] ∧ (SqL K H p ys ∨ SqT K H p ys) ∧ ∀ l, H l = none → Q (.ref l) (upd H l (.lst ys))
def oList (f : EE) : EO := fun en => (f en).bind fun x en => match rd x en with
  | some (.list ds) => .ok (.list ds) en
  | some (.tuple ds) => .ok (.list ds) en
  | _ => .st
theorem sound_list {E : XE} {t : TE} {f : EE} (h : SoundE K mg E t f) : SoundO K mg E (tCB (rLstA K) (tCons t tNil)) (oList f) := by
  intro F A G en σ H R Q k
  refine h F A G en σ H R _ (Then.imp (Then.bind k) (fun x en1 k1 v G1 H1 g1 R1 r1 => ?_) fun _ _ z => z)
  show rLstA K [v] H1 Q
  split at k1
  · rename_i ds e1
    obtain ⟨a, vs, rfl, h1, h2⟩ := (show Rc K G1 H1 (.list ds) v from rd_rc R1 r1 e1)
    refine ⟨a, vs, rfl, .inl h1, fun p hp => k1 p G1 _ g1 (R1.fresh hp) ⟨vs, upd_same, h2⟩ ?_⟩
    have n := R1.free_new hp
    exact ⟨n.f, n.g, n.n, n.s⟩
  · rename_i ds e1
    obtain ⟨a, vs, rfl, h1, h2⟩ := (show Rv K G1 (.tuple ds) v from rd_rc R1 r1 e1)
    refine ⟨a, vs, rfl, .inr (h1.le R1.gx).sq, fun p hp => k1 p G1 _ g1 (R1.fresh hp) ⟨vs, upd_same, h2⟩ ?_⟩
    have n := R1.free_new hp
    exact ⟨n.f, n.g, n.n, n.s⟩
  · exact k1.elim
/-! isinstance(x, T) -/
def tyN : D → Option String
  | .none => some "NoneType"
  | .bool _ => some "bool"
  | .int _ => some "int"
  | .str _ => some "str"
  | .list _ => some "list"
  | .tuple _ => some "tuple"
  | .dict _ => none
theorem tyX_rc (l : Le G H) {d : D} {v : V} {n : String} (r : Rc K G H d v) (h : tyN d = some n) : TyX K H v (.type n) := by
  cases d with
  | none => cases h; obtain rfl : v = .non := r; exact .base .non
  | bool b => cases h; obtain rfl : v = .bl b := r; exact .base (.bl b)
  | int i => cases h; obtain rfl : v = .int i := r; exact .base (.int i)
  | str x => cases h; obtain rfl : v = .str x := r; exact .base (.str x)
  | list ds =>
    cases h
    obtain ⟨a, vs, rfl, (h1 | ⟨o, h1⟩) | ⟨o, its, m, h1, h2, _⟩, _⟩ := r
    · exact .base (.lst h1)
    · exact .base (.frz h1)
    · exact .kList h1 h2
  | tuple ds =>
    cases h
    obtain ⟨a, vs, rfl, h1 | ⟨o, its, m, h1, h2, _⟩, _⟩ := (show Rv K G (.tuple ds) v from r)
    · exact .base (.tup (l.tp _ _ h1))
    · exact .kTuple h1 h2
  | dict kvs => cases h
def oIsi (c : String → Option Bool) (d : D) : Option D := match tyN d with
  | some n => (c n).map .bool
  | none => none
theorem sound_isi {T : String} {c : String → Option Bool} (hc : ∀ n b, c n = some b → kitB n T = some b) : SoundUn K (fun v H Q => rIsi K [v, .ty T] H Q) (oIsi c) := by
  intro F A G en σ H R x v z r e Q k
  unfold oIsi at e
  split at e
  · rename_i n hn
    obtain ⟨b, hb, rfl⟩ := Option.map_eq_some_iff.mp e
    exact ⟨v, .ty T, .type n, .type T, b, rfl, .ty T, tyX_rc R.gx r hn, kit_ty (hc n b hb), k _ G H (.refl _ _) R rfl⟩
  · cases e
/-- isinstance(x, int), (x, bool), (x, tuple), (x, str), (x, list) -/
def cInt (n : String) : Option Bool := if n = "int" then some true else if n = "bool" then some true else if n = "NoneType" ∨ n = "str" ∨ n = "tuple" ∨ n = "list" then some false else none
def cOne (T : String) (n : String) : Option Bool := if n = T then some true else if n = "int" ∨ n = "bool" ∨ n = "NoneType" ∨ n = "str" ∨ n = "tuple" ∨ n = "list" then some false else none
theorem cInt_ok : ∀ n b, cInt n = some b → kitB n "int" = some b := by
  intro n b h
  unfold cInt at h
  split at h
  · subst n; cases h; decide +kernel
  · split at h
    · subst n; cases h; decide +kernel
    · split at h
      · rename_i q; cases h; rcases q with rfl | rfl | rfl | rfl <;> decide +kernel
      · cases h
theorem cBool_ok : ∀ n b, cOne "bool" n = some b → kitB n "bool" = some b := by
  intro n b h
  unfold cOne at h
  split at h
  · subst n; cases h; decide +kernel
  · split at h
    · rename_i ne q; cases h
      rcases q with rfl | rfl | rfl | rfl | rfl | rfl <;> first | (exact absurd rfl ne) | decide +kernel
    · cases h
theorem cTuple_ok : ∀ n b, cOne "tuple" n = some b → kitB n "tuple" = some b := by
  intro n b h
  unfold cOne at h
  split at h
  · subst n; cases h; decide +kernel
  · split at h
    · rename_i ne q; cases h
      rcases q with rfl | rfl | rfl | rfl | rfl | rfl <;> first | (exact absurd rfl ne) | decide +kernel
    · cases h
theorem cStr_ok : ∀ n b, cOne "str" n = some b → kitB n "str" = some b := by
  intro n b h
  unfold cOne at h
  split at h
  · subst n; cases h; decide +kernel
  · split at h
    · rename_i ne q; cases h
      rcases q with rfl | rfl | rfl | rfl | rfl | rfl <;> first | (exact absurd rfl ne) | decide +kernel
    · cases h
theorem cList_ok : ∀ n b, cOne "list" n = some b → kitB n "list" = some b := by
  intro n b h
  unfold cOne at h
  split at h
  · subst n; cases h; decide +kernel
  · split at h
    · rename_i ne q; cases h
      rcases q with rfl | rfl | rfl | rfl | rfl | rfl <;> first | (exact absurd rfl ne) | decide +kernel
    · cases h
/-! min(xs), max(xs) of a list of data -/
def alikeB (ds : List D) : Bool := ds.all fun x => (ds.all fun y => alike x y) && !isN x
theorem alikeB_ok {ds : List D} (h : alikeB ds = true) : AlikeAll ds := by
  unfold alikeB at h
  rw [List.all_eq_true] at h
  refine ⟨fun x hx y hy => ?_, fun x hx e => ?_⟩
  · have := h x hx
    rw [Bool.and_eq_true, List.all_eq_true] at this
    exact this.1 y hy
  · have := h x hx
    rw [Bool.and_eq_true] at this
    subst e
    exact absurd this.2 (by decide)
def rBest (K : PySem.W.Frag) (best : D → List D → D) (vs : List V) (H : Hp) (Q : VK) : Prop := ∃ a ys d ds, vs = [V.ref a] ∧ SqL K H a ys ∧ DpAll K H ys (d :: ds) ∧ AlikeAll (d :: ds) ∧ PyData.depthAll (d :: ds) ≤ 60 ∧
  ∀ (i : Nat) y e, ys[i]? = some y → (d :: ds)[i]? = some e → e = best d ds → Q y H
def oMinL : D → Option D
  | .list (d :: ds) => if alikeB (d :: ds) = true ∧ PyData.hasDictAll (d :: ds) = false ∧ PyData.depthAll (d :: ds) ≤ 60 then some (minD d ds) else none
  | _ => none
def oMaxL : D → Option D
  | .list (d :: ds) => if alikeB (d :: ds) = true ∧ PyData.hasDictAll (d :: ds) = false ∧ PyData.depthAll (d :: ds) ≤ 60 then some (maxD d ds) else none
  | _ => none
theorem sound_minL : SoundUn K (fun v H Q => rBest K minD [v] H Q) oMinL := by
  intro F A G en σ H R x v z r e Q k
  unfold oMinL at e
  split at e
  · rename_i d ds
    split at e
    · rename_i hc
      cases e
      obtain ⟨a, vs, rfl, h1, h2⟩ := r
      refine ⟨a, vs, d, ds, rfl, h1, Rvs.dp R.gx _ _ hc.2.1 h2, alikeB_ok hc.1, hc.2.2, fun i y e hy he e2 => k _ G H (.refl _ _) R ?_⟩
      have := h2.get' he hy
      rw [e2] at this
      exact this
    · cases e
  · cases e
theorem sound_maxL : SoundUn K (fun v H Q => rBest K maxD [v] H Q) oMaxL := by
  intro F A G en σ H R x v z r e Q k
  unfold oMaxL at e
  split at e
  · rename_i d ds
    split at e
    · rename_i hc
      cases e
      obtain ⟨a, vs, rfl, h1, h2⟩ := r
      refine ⟨a, vs, d, ds, rfl, h1, Rvs.dp R.gx _ _ hc.2.1 h2, alikeB_ok hc.1, hc.2.2, fun i y e hy he e2 => k _ G H (.refl _ _) R ?_⟩
      have := h2.get' he hy
      rw [e2] at this
      exact this
    · cases e
  · cases e
/-! repr -/
def rRepr (K : PySem.W.Frag) (vs : List V) (H : Hp) (Q : VK) : Prop := ∃ v d, vs = [v] ∧ Dp K H v d ∧ d.showable = true ∧ d.hasDict = false ∧ d.shown.length ≤ sizeLine ∧ d.depth ≤ 60 ∧ Q (.str d.shown) H
def oRepr (d : D) : Option D := if d.showable = true ∧ d.hasDict = false ∧ d.shown.length ≤ 65536 ∧ d.depth ≤ 60 then some (.str d.shown) else none
theorem sound_repr : SoundUn K (fun v H Q => rRepr K [v] H Q) oRepr := by
  intro F A G en σ H R x v z r e Q k
  unfold oRepr at e
  split at e
  · rename_i hc
    cases e
    exact ⟨v, x, rfl, Rc.dp R.gx hc.2.1 r, hc.1, hc.2.1, size_of hc.2.2.1, hc.2.2.2, k _ G H (.refl _ _) R rfl⟩
  · cases e
/-! lists put together -/
def rCatL (K : PySem.W.Frag) : R2 := fun x y H Q => ∃ a b xs ys, x = .ref a ∧ y = .ref b ∧ SqL K H a xs ∧ SqL K H b ys ∧ xs.length + ys.length ≤ sizeLine ∧ ∀ p, H p = none → Q (.ref p) (upd H p (.lst (xs ++ ys)))
def oCatL (a b : EE) : EO := fun en => (a en).bind fun x en => (b en).bind fun y en => match rd x en, rd y en with
  | some (.list xs), some (.list ys) => if xs.length + ys.length ≤ 65536 then .ok (.list (xs ++ ys)) en else .st
  | _, _ => .st
theorem sound_catL {E : XE} {ta tb : TE} {fa fb : EE} (ha : SoundE K mg E ta fa) (hb : SoundE K mg E tb fb) : SoundO K mg E (tOp (rCatL K) ta tb) (oCatL fa fb) := by
  intro F A G en σ H R Q k
  refine ha F A G en σ H R _ (Then.imp (Then.bind k) (fun x en1 k1 v G1 H1 g1 R1 r1 => ?_) fun _ _ z => z)
  refine hb F A G1 en1 σ H1 R1 _ (Then.imp (Then.bind k1) (fun y en2 k2 u G2 H2 g2 R2 r2 => ?_) fun x en2 k2 => KeE.grow g1 k2)
  split at k2
  · rename_i xs ys e1 e2
    split at k2
    · rename_i hl
      obtain ⟨a, vs, rfl, h1, h2⟩ := (show Rc K G2 H2 (.list xs) v from rd_rc R2 (r1.grow g2) e1)
      obtain ⟨b, ws, rfl, h3, h4⟩ := (show Rc K G2 H2 (.list ys) u from rd_rc R2 r2 e2)
      refine ⟨a, b, vs, ws, rfl, rfl, h1, h3, by rw [h2.length, h4.length]; exact size_of hl, fun p hp => ?_⟩
      exact k2 p G2 _ (g1.trans g2) (R2.fresh hp) ⟨vs ++ ws, upd_same, h2.append h4⟩ (R2.free_new hp)
    · exact k2.elim
  · exact k2.elim
/-! xs.append(x), xs[i] = v -/
def sApp (fo fe : EE) : ES := fun en => (fo en).bind fun x en => match rd x en with
  | some (.list _) => (dat fe en).bind fun d en => match x with
    | .sl i => match rd (.sl i) en with
      | some (.list ds) => if ds.length < 65536 then match put en i (.list (ds ++ [d])) with
        | some en => .ok .nx en
        | none => .st
        else .st
      | _ => .st
    | .fz _ => .st
  | _ => .st
theorem sound_app {E : XE} {to te : TE} {fo fe : EE} (ho : SoundE K mg E to fo) (he : SoundE K mg E te fe) : SoundS K mg E (tDrop (tBM K "list" rAppend to (tCons te tNil))) (sApp fo fe) := by
  intro F A G en σ H R Dn k
  refine ho F A G en σ H R _ (Then.imp (Then.bind k) (fun x en1 k1 v G1 H1 g1 R1 r1 => ?_) fun _ _ z => z.ke)
  split at k1
  · rename_i ds0 e0
    obtain ⟨a, vs0, rfl, h0, _⟩ := (show Rc K G1 H1 (.list ds0) v from rd_rc R1 r1 e0)
    refine ⟨.inl ⟨rfl, vs0, h0⟩, ?_⟩
    refine he.dat R1 (Then.imp (Then.bind k1) (fun d en2 k2 u G2 H2 g2 R2 r2 => ?_) fun x en2 k2 => (KeS.grow g1 k2).ke)
    cases x with
    | fz _ => exact k2.elim
    | sl i =>
      simp only at k2
      split at k2
      · rename_i ds e1
        split at k2
        · rename_i hl
          cases e2 : put en2 i (.list (ds ++ [d])) with
          | none => simp only [e2] at k2; exact k2.elim
          | some en3 =>
            simp only [e2] at k2
            obtain ⟨a', e, ⟨vs, hv, rv⟩, _, _, wr⟩ := R2.owned (show σ[i]? = some (some (.ref a)) from r1) e1 e2
            cases e
            refine ⟨a, vs, u, rfl, rfl, hv, by rw [rv.length]; exact Nat.lt_of_lt_of_le hl (by decide), ?_⟩
            exact k2 σ G2 _ (g1.trans g2) (wr _ ⟨_, upd_same, rv.append ⟨u, [], rfl, r2, rfl⟩⟩)
        · exact k2.elim
      · exact k2.elim
  · exact k1.elim
def sSetI (fo fi fv : EE) : ES := fun en => (dat fv en).bind fun d en => (fo en).bind fun x en => (dat fi en).bind fun j en => match x, j with
  | .sl i, .int k => match rd (.sl i) en with
    | some (.list ds) => match L2.ixN ds.length k with
      | some j => match put en i (.list (ds.set j d)) with
        | some en => .ok .nx en
        | none => .st
      | none => .st
    | _ => .st
  | _, _ => .st
theorem Rvs.set : ∀ {ds : List D} {vs : List V} {d : D} {v : V} (j : Nat), Rvs K G ds vs → Rv K G d v → Rvs K G (ds.set j d) (vs.set j v)
  | [], _, _, _, _, h, _ => by cases h; exact rfl
  | d0 :: ds, _, d, v, 0, ⟨w, r, e, h1, h2⟩, h => by subst e; exact ⟨v, r, rfl, h, h2⟩
  | d0 :: ds, _, d, v, j + 1, ⟨w, r, e, h1, h2⟩, h => by subst e; exact ⟨w, r.set j v, rfl, h1, h2.set j h⟩
theorem sound_setI {E : XE} {to ti tv : TE} {fo fi fv : EE} (hv : SoundE K mg E tv fv) (ho : SoundE K mg E to fo) (hi : SoundE K mg E ti fi) : SoundS K mg E (tAsg tv (gSub to ti rSetL)) (sSetI fo fi fv) := by
  intro F A G en σ H R Dn k
  refine hv.dat R (Then.imp (Then.bind k) (fun d en1 k1 v G1 H1 g1 R1 r1 => ?_) fun _ _ z => z.ke)
  refine ho F A G1 en1 σ H1 R1 _ (Then.imp (Then.bind k1) (fun x en2 k2 u G2 H2 g2 R2 r2 => ?_) fun x en2 k2 => (KeS.grow g1 k2).ke)
  refine hi.dat R2 (Then.imp (Then.bind k2) (fun j en3 k3 y G3 H3 g3 R3 r3 => ?_) fun x en3 k3 => (KeS.grow (g1.trans g2) k3).ke)
  split at k3
  · rename_i i kk
    split at k3
    · rename_i ds e1
      split at k3
      · rename_i jj ej
        cases e2 : put en3 i (.list (ds.set jj d)) with
        | none => simp only [e2] at k3; exact k3.elim
        | some en4 =>
          simp only [e2] at k3
          obtain ⟨a, rfl, ⟨vs, hv, rv⟩, _, _, wr⟩ := R3.owned r2 e1 e2
          refine ⟨a, vs, kk, jj, rfl, r3, hv, by rw [rv.length]; exact ej, ?_⟩
          exact k3 σ G3 _ ((g1.trans g2).trans g3) (wr _ ⟨_, upd_same, rv.set jj (Rv.le (g2.trans g3).toLe _ _ r1)⟩)
      · exact k3.elim
    · exact k3.elim
  · exact k3.elim
/-! name op= e -/
def sAug (i : Nat) (op : D → D → Option D) (fe : EE) : ES := fun en => match en[i]? with
  | some (.fz x) => (fe en).bind fun y en => match rd y en with
    | some dy => match op x dy with
      | some z => if may en i = true then .ok .nx (en.set i (.fz z)) else .st
      | none => .st
    | none => .st
  | _ => .st
theorem sound_aug {E : XE} {i : Nat} {r : R2} {op : D → D → Option D} {te : TE} {fe : EE} (ho : SoundOp K r op) (he : SoundE K mg E te fe) : SoundS K mg E (tAug i te r) (sAug i op fe) := by
  intro F A G en σ H R Dn k
  have k' : Then (match en[i]? with
    | some (.fz x) => (fe en).bind fun y en => match rd y en with
      | some dy => match op x dy with
        | some z => if may en i = true then Rs.ok Out.nx (en.set i (.fz z)) else .st
        | none => .st
      | none => .st
    | _ => .st) (KoS K F A G Dn) (KeS K mg E F A G) := k
  split at k'
  · rename_i x hx
    obtain ⟨v, e1, rv⟩ := R.fz i x hx
    refine ⟨v, e1, he F A G en σ H R _ (Then.imp (Then.bind k') (fun y en1 k1 u G1 H1 g1 R1 r1 => ?_) fun _ _ z => z.ke)⟩
    split at k1
    · rename_i dy e2
      split at k1
      · rename_i z e3
        split at k1
        · rename_i m
          refine ho F A G1 en1 σ H1 R1 x dy v u z (Rc.of R1.gx (Rv.le g1.toLe _ _ rv)) (rd_rc R1 r1 e2) e3 _ fun w G2 H2 g2 R2 r2 => ?_
          exact k1 _ G2 H2 (g1.trans g2) (R2.setF r2 m)
        · exact k1.elim
      · exact k1.elim
    · exact k1.elim
  · exact k'.elim
end
/-! ### the rules that the library lacks -/
section
variable {X : Cx}
theorem pe_imp {e : Expr} {t t' : TE} (h : PE X e t) (k : ∀ σ H Q, t' σ H Q → t σ H Q) : PE X e t' := ⟨fun pins s σ H Q I q => h.run pins s σ H Q I (k σ H Q q)⟩
theorem op_catL : OpR X (binaryOp .Add) (rCatL X.K) := by
  intro pins s σ H x y v u Q I rx ry h
  obtain ⟨a, b, xs, ys, rfl, rfl, ha, hb, hl, q⟩ := h
  obtain rfl : v = Value.ref a := rx
  obtain rfl : u = Value.ref b := ry
  obtain ⟨i1, r1, ⟨o1, n1, p1, p2, p3, p4⟩, z1⟩ := I.list ha
  obtain ⟨i2, r2, ⟨o2, n2, p5, p6, p7, p8⟩, z2⟩ := I.list hb
  obtain ⟨c1, c2, c3, c4⟩ := o1
  obtain ⟨c5, c6, c7, c8⟩ := o2
  simp only at p2 p3 p4 p6 p7 p8
  subst p2 p3 p4 p6 p7 p8
  have l1 := r1.length
  have l2 := r2.length
  have sz : i1.toArray.size + i2.toArray.size ≤ sizeLine := by rw [List.size_toArray, List.size_toArray, ← l1, ← l2]; exact hl
  refine concat_meets ⟨_, p1, rfl⟩ ⟨_, p5, rfl⟩ noFill_list_add seq_list_add PySem.F.slot_list_add
    PySem.F.entry_list_add (PySem.F.args_list_add_2 _ _) (list_addW a b i1.toArray i2.toArray n1 n2 _ _ _ _ sz) ⟨p1, p5, ?_⟩
  have ea : i1.toArray ++ i2.toArray = (i1 ++ i2).toArray := by simp
  rw [ea]
  exact ⟨.ref _, _, I.lnew (t' := s.toks) (r1.append r2) (by rw [List.length_append]; exact hl), rfl, q _ I.fresh⟩
theorem vals_at : ∀ {ys : List V} {its : List Value} {i : Nat} {v : Value}, Vals ys its → its[i]? = some v → ∃ y, ys[i]? = some y ∧ RelV y v
  | _, _, 0, _, .cons r _, h => by cases h; exact ⟨_, rfl, r⟩
  | _, _, i + 1, _, .cons _ t, h => by
    obtain ⟨y, q⟩ := vals_at (i := i) t h
    exact ⟨y, q⟩
theorem cr_minD (calm : X.calm = true) (room : X.A.units + 64 < cLine) : CallR X (.builtin "min") (rBest X.K minD) := by
  intro pins s σ H xs us Q I r h
  obtain ⟨a, ys, d, ds, rfl, ha, dp, al, dep, q⟩ := h
  obtain ⟨u, rfl, rx⟩ := r.one
  obtain rfl : u = Value.ref a := rx
  obtain ⟨its, rv, hl, _⟩ := I.list ha
  obtain ⟨as, hr⟩ := Dp.readsAll I _ ys its dp rv
  refine min_list_data (I.ok.hd calm) hl.isList hr al (by omega) fun i v h' tk bs hv rd k => ?_
  obtain ⟨bs', rd', hi, _⟩ := readsAll_at hr i v (by simpa using hv)
  have e := ((reads_keeps k rd').unique _ _ rd).1
  have hv2 : its[i]? = some v := by simpa using hv
  obtain ⟨y, hy, ry⟩ := vals_at rv hv2
  refine ⟨y, H, I.kept k, ry, q i y _ hy (List.getElem?_eq_getElem hi) ?_⟩
  rw [← e, List.getD_eq_getElem?_getD, List.getElem?_eq_getElem hi]
  rfl
theorem cr_maxD (calm : X.calm = true) (room : X.A.units + 64 < cLine) : CallR X (.builtin "max") (rBest X.K maxD) := by
  intro pins s σ H xs us Q I r h
  obtain ⟨a, ys, d, ds, rfl, ha, dp, al, dep, q⟩ := h
  obtain ⟨u, rfl, rx⟩ := r.one
  obtain rfl : u = Value.ref a := rx
  obtain ⟨its, rv, hl, _⟩ := I.list ha
  obtain ⟨as, hr⟩ := Dp.readsAll I _ ys its dp rv
  refine max_list_data (I.ok.hd calm) hl.isList hr al (by omega) fun i v h' tk bs hv rd k => ?_
  obtain ⟨bs', rd', hi, _⟩ := readsAll_at hr i v (by simpa using hv)
  have e := ((reads_keeps k rd').unique _ _ rd).1
  have hv2 : its[i]? = some v := by simpa using hv
  obtain ⟨y, hy, ry⟩ := vals_at rv hv2
  refine ⟨y, H, I.kept k, ry, q i y _ hy (List.getElem?_eq_getElem hi) ?_⟩
  rw [← e, List.getD_eq_getElem?_getD, List.getElem?_eq_getElem hi]
  rfl
theorem cr_repr (still : X.A.guards = some []) (room : X.A.units + 64 < cLine) : CallR X (.builtin "repr") (rRepr X.K) := by
  intro pins s σ H xs us Q I r h
  obtain ⟨v, d, rfl, dp, sh, nd, sz, dep, q⟩ := h
  obtain ⟨u, rfl, rx⟩ := r.one
  obtain ⟨as, hr⟩ := Dp.reads I d v u dp rx
  cases hr with
  | none => exact PySem.P.repr_of_none ⟨.str "None", H, I.tok _, ⟨_, rfl⟩, q⟩
  | bool b => exact PySem.P.repr_of_bool ⟨.str (if b then "True" else "False"), H, I.tok _, ⟨_, rfl⟩, q⟩
  | int i t => exact PySem.P.repr_of_int (of_decide_eq_true sh) ⟨.str (toString i), H, I.tok _, ⟨_, rfl⟩, q⟩
  | str x t => exact PySem.P.repr_of_str ⟨.str (reprText x), H, I.tok _, ⟨_, rfl⟩, q⟩ sz
  | list h1 h2 h3 h4 => exact repr_of_reads' (.list h1 h2 h3 h4) sh (PyData.noDict_hsm nd) still (by omega) (fun _ _ z => z) (fun h1 w tk k => ⟨V.str _, H, I.kept k, ⟨w, rfl⟩, q⟩) sz
  | tuple h1 h2 h3 h4 => exact repr_of_reads' (.tuple h1 h2 h3 h4) sh (PyData.noDict_hsm nd) still (by omega) (fun _ _ z => z) (fun h1 w tk k => ⟨V.str _, H, I.kept k, ⟨w, rfl⟩, q⟩) sz
  | dict _ _ _ _ => cases nd
end
end Fx

set_option Elab.async false
set_option linter.all false
set_option maxRecDepth 100000
namespace Fx
open PySem PySem.Spec PySem.W PyProof.Rows L2

/-! ### range with a step down, reversed, zip: later -/
section
variable {K : PySem.W.Frag} {mg : Str → Option Value} {F : Hp} {A : List Addr} {G H : Hp} {en : En} {σ : L2.St}
def rngDown (i j : Int) : List D := (List.range (i - j).toNat).map fun n => .int (i - (n : Nat))
def iR3 (f : EA) : EI := fun en => (dats f en).bind fun ds en => match ds with
  | [.int i, .int j, .int c] => if c = -1 ∧ inRange i = true ∧ inRange j = true then .ok (rngDown i j) en else .st
  | _ => .st
theorem sound_r3 {E : XE} {t : TA} {f : EA} (h : SoundA K mg E t f) : SoundI K mg E (iRng3 t) (iR3 f) := by
  intro F A G en σ H R Q k
  refine h.dats R (Then.imp (Then.bind k) (fun ds en1 k1 vs G' H' g R' r => ?_) fun _ _ z => z)
  match ds, k1, r with
  | [.int i, .int j, .int c], k1, r =>
    have k2 : Then (if c = -1 ∧ inRange i = true ∧ inRange j = true then Rs.ok (rngDown i j) en1 else .st) (KoI K F A G σ Q) (KeE K mg E F A G σ) := k1
    obtain ⟨v, r', rfl, h1, h2⟩ := r
    obtain ⟨v2, r2, rfl, h3, h4⟩ := h2
    obtain ⟨v3, r3, rfl, h5, h6⟩ := h4
    cases (show v = V.int i from h1)
    cases (show v2 = V.int j from h3)
    cases (show v3 = V.int c from h5)
    cases (show r3 = [] from h6)
    by_cases hj : c = -1 ∧ inRange i = true ∧ inRange j = true
    · rw [if_pos hj] at k2
      obtain ⟨rfl, hi, hj⟩ := hj
      obtain ⟨b1, b2⟩ := inRange_ok hi
      obtain ⟨b3, b4⟩ := inRange_ok hj
      refine ⟨i, j, -1, (i - j).toNat, rfl, RgC.neg b1 b2 b3 b4, k2 _ F G' H' (fun _ _ z => z) g R' ?_⟩
      refine walk_fn walk_rangeC (by unfold rngDown; rw [List.length_map, List.length_range]) (fun _ _ _ _ _ _ => trivial) fun n d h G' => ?_
      unfold rngDown at h
      rw [List.getElem?_map] at h
      obtain ⟨m, h1, h2⟩ := Option.map_eq_some_iff.mp h
      obtain ⟨_, h3⟩ := List.getElem?_eq_some_iff.mp h1
      rw [List.getElem_range] at h3
      subst h3
      subst h2
      show V.int (i + (n : Nat) * -1) = V.int (i - (n : Nat))
      congr 1
      omega
    · rw [if_neg hj] at k2; exact k2.elim
end

/-! ### bundles: rule and soundness at once -/
section
variable {X : Cx} {E : XE}
theorem pe_ty {x : Str} {T : String} {p : Pos} (hg : Gl X x) (hm : X.mg x = none) (hv : bootBuiltins x = some (.type T)) (hn : x ≠ "__name__" := by decide) (hd : (x == ("__debug__" : Str)) = false := by decide) : PE X (.Name x p) (tC (.ty T)) := by
  constructor
  intro pins s σ H Q I h
  exact ld_blt I hg hm hv ⟨.ty T, H, I, rfl, h⟩ hn hd
theorem se_int {i : Int} {j : Nat} {pos : Pos} : SE X E (.Constant (.int i) j pos) (tC (.int i)) (eC (.int i)) := ⟨pe_int, sound_c fun _ => rfl⟩
theorem se_str {x : Str} {j : Nat} {pos : Pos} : SE X E (.Constant (.str x) j pos) (tC (.str x)) (eC (.str x)) := ⟨pe_str, sound_c fun _ => rfl⟩
theorem se_bl {b : Bool} {j : Nat} {pos : Pos} : SE X E (.Constant (.bool b) j pos) (tC (.bl b)) (eC (.bool b)) := ⟨pe_bl, sound_c fun _ => rfl⟩
theorem se_non {j : Nat} {pos : Pos} : SE X E (.Constant .none j pos) (tC .non) (eC .none) := ⟨pe_non, sound_c fun _ => rfl⟩
theorem se_v (i : Nat) {x : Str} {pos : Pos} (hN : X.N[i]? = some x := by rfl) (hv : Vis X.env.scope x := by first | exact Or.inl rfl | exact Or.inr (Or.inl rfl) | exact Or.inr (Or.inr rfl)) (hd : (x == ("__debug__" : Str)) = false := by decide)
    (hcd : (x == ("__classdict__" : Str)) = false := by decide) : SE X E (.Name x pos) (tVar i) (eV i) := ⟨pv i hN hv hd hcd, sound_v⟩
/-- a name of the module that stands for plain data -/
def Con (mg : Str → Option Value) (x : Str) (v : V) : Prop := ∃ u, mg x = some u ∧ RelV v u
theorem se_gi {x : Str} {i : Int} {pos : Pos} (h : Con X.mg x (.int i)) (hg : Gl X x := by rfl) (hd : (x == ("__debug__" : Str)) = false := by decide) : SE X E (.Name x pos) (tC (.int i)) (eC (.int i)) := by
  obtain ⟨u, h1, h2⟩ := h
  exact ⟨pe_glob hg h1 h2 hd, sound_c fun _ => rfl⟩
theorem se_gs {x z : Str} {pos : Pos} (h : Con X.mg x (.str z)) (hg : Gl X x := by rfl) (hd : (x == ("__debug__" : Str)) = false := by decide) : SE X E (.Name x pos) (tC (.str z)) (eC (.str z)) := by
  obtain ⟨u, h1, h2⟩ := h
  exact ⟨pe_glob hg h1 h2 hd, sound_c fun _ => rfl⟩
theorem se_op {op : Operator} {r : R2} {o : D → D → Option D} {a b : Expr} {ta tb : TE} {fa fb : EE} {pos : Pos} (ho : OpR X (binaryOp op) r) (hs : SoundOp X.K r o) (ha : SE X E a ta fa) (hb : SE X E b tb fb) : SE X E (.BinOp a op b pos) (tOp r ta tb) (eOp o fa fb) := ⟨pe_op ho ha.pe hb.pe, sound_op hs ha.snd hb.snd⟩
theorem se_un {op : UnaryOp} {r : V → Hp → VK → Prop} {o : D → Option D} {a : Expr} {ta : TE} {fa : EE} {pos : Pos} (ho : UnR X (unaryOp op) r) (hs : SoundUn X.K r o) (ha : SE X E a ta fa) : SE X E (.UnaryOp op a pos) (tUn r ta) (eUn o fa) := ⟨pe_un ho ha.pe, sound_un hs ha.snd⟩
theorem se_cmp {op : CmpOp} {r : R2} {o : D → D → Option D} {a b : Expr} {ta tb : TE} {fa fb : EE} {pos : Pos} (ho : OpR X (compareOp op) r) (hs : SoundOp X.K r o) (ha : SE X E a ta fa) (hb : SE X E b tb fb) (hm : behindInMarks op b = false := by exact nomark _) : SE X E (.Compare a [op] [b] pos) (tOp r ta tb) (eOp o fa fb) :=
  ⟨pe_cmpR ho ha.pe hb.pe hm, sound_op hs ha.snd hb.snd⟩
theorem st_cmp {op : CmpOp} {r : R2} {o : D → D → Option D} {a b : Expr} {ta tb : TE} {fa fb : EE} {pos : Pos} (ho : OpR X (compareOp op) r) (hs : SoundOp X.K r o) (ha : SE X E a ta fa) (hb : SE X E b tb fb) (hm : behindInMarks op b = false := by exact nomark _) : ST X E (.Compare a [op] [b] pos) (tTest (tOp r ta tb)) (cB (eOp o fa fb)) :=
  ⟨pt_cmpR ho ha.pe hb.pe hm, sound_B (sound_op hs ha.snd hb.snd)⟩
theorem se_chain {op op' : CmpOp} {r r' : R2} {o o' : D → D → Option D} {a b c : Expr} {ta tb tc : TE} {fa fb fc : EE} {pos : Pos} (ho : OpR X (compareOp op) r) (hs : SoundOp X.K r o) (ho' : OpR X (compareOp op') r') (hs' : SoundOp X.K r' o') (ha : SE X E a ta fa) (hb : SE X E b tb fb) (hc : SE X E c tc fc)
    (hm : lastMarks [op, op'] [b, c] = false := by with_unfolding_all rfl) : SE X E (.Compare a [op, op'] [b, c] pos) (tChain r r' ta tb tc) (eChain o o' fa fb fc) := ⟨pe_chain ho ho' ha.pe hb.pe hc.pe hm, sound_chain hs hs' ha.snd hb.snd hc.snd⟩
theorem st_chain {op op' : CmpOp} {r r' : R2} {o o' : D → D → Option D} {a b c : Expr} {ta tb tc : TE} {fa fb fc : EE} {pos : Pos} (ho : OpR X (compareOp op) r) (hs : SoundOp X.K r o) (ho' : OpR X (compareOp op') r') (hs' : SoundOp X.K r' o') (ha : SE X E a ta fa) (hb : SE X E b tb fb) (hc : SE X E c tc fc)
    (hm : lastMarks [op, op'] [b, c] = false := by with_unfolding_all rfl) : ST X E (.Compare a [op, op'] [b, c] pos) (tTest (tChain r r' ta tb tc)) (cB (eChain o o' fa fb fc)) := ⟨pt_chain ho ho' ha.pe hb.pe hc.pe hm, sound_B (sound_chain hs hs' ha.snd hb.snd hc.snd)⟩
theorem st_val {e : Expr} {t : TE} {f : EE} (h : SE X E e t f) (he : ∀ whole, isTrue e X.env whole = (do let v ← whole; standAt e.pos; holding [v] (truthy v)) := by intro _; rfl) : ST X E e (tB t) (cB f) := ⟨pt_val h.pe he, sound_B h.snd⟩
theorem st_not {a : Expr} {t : TT} {f : ET} {pos : Pos} (h : ST X E a t f) : ST X E (.UnaryOp .Not a pos) (tNot t) (cNot f) := ⟨pt_not h.pt, sound_not h.snd⟩
theorem sw_and1 {a : Expr} {t : TT} {f : ET} {pos : Pos} (h : ST X E a t f) : SW X E (.BoolOp .And [a] pos) t f := ⟨pw_and1 h.pt, h.snd⟩
theorem sw_or1 {a : Expr} {t : TT} {f : ET} {pos : Pos} (h : ST X E a t f) : SW X E (.BoolOp .Or [a] pos) t f := ⟨pw_or1 h.pt, h.snd⟩
theorem sw_and {a b : Expr} {rest : List Expr} {t u : TT} {f g : ET} {pos : Pos} (h : ST X E a t f) (k : SW X E (.BoolOp .And (b :: rest) pos) u g) : SW X E (.BoolOp .And (a :: b :: rest) pos) (tAnd t u) (cAnd f g) := ⟨pw_and h.pt k.pw, sound_and h.snd k.snd⟩
theorem sw_or {a b : Expr} {rest : List Expr} {t u : TT} {f g : ET} {pos : Pos} (h : ST X E a t f) (k : SW X E (.BoolOp .Or (b :: rest) pos) u g) : SW X E (.BoolOp .Or (a :: b :: rest) pos) (tOr t u) (cOr f g) := ⟨pw_or h.pt k.pw, sound_or h.snd k.snd⟩
theorem st_w {e : Expr} {t : TT} {f : ET} (h : SW X E e t f) : ST X E e t f := ⟨h.pw.pt, h.snd⟩
theorem se_one {op} {a : Expr} {t : TE} {f : EE} {pos : Pos} (h : SE X E a t f) : SE X E (.BoolOp op [a] pos) t f := ⟨pe_one h.pe, h.snd⟩
theorem se_and {a b : Expr} {rest : List Expr} {t u : TE} {f g : EE} {pos : Pos} (h : SE X E a t f) (k : SE X E (.BoolOp .And (b :: rest) pos) u g) : SE X E (.BoolOp .And (a :: b :: rest) pos) (tAndV t u) (eAnd f g) := ⟨pe_and h.pe k.pe, sound_andV h.snd k.snd⟩
theorem se_or {a b : Expr} {rest : List Expr} {t u : TE} {f g : EE} {pos : Pos} (h : SE X E a t f) (k : SE X E (.BoolOp .Or (b :: rest) pos) u g) : SE X E (.BoolOp .Or (a :: b :: rest) pos) (tOrV t u) (eOr f g) := ⟨pe_or h.pe k.pe, sound_orV h.snd k.snd⟩
theorem se_not {a : Expr} {t : TE} {f : EE} {pos : Pos} (h : SE X E a t f) : SE X E (.UnaryOp .Not a pos) (tNotV t) (eNot f) := ⟨pe_not h.pe, sound_notV h.snd⟩
theorem se_if {c a b : Expr} {tc : TT} {ta tb : TE} {fc : ET} {fa fb : EE} {pos : Pos} (hc : ST X E c tc fc) (ha : SE X E a ta fa) (hb : SE X E b tb fb) : SE X E (.IfExp c a b pos) (tIf tc ta tb) (eIf fc fa fb) := ⟨pe_ifExp hc.pt ha.pe hb.pe, sound_if hc.snd ha.snd hb.snd⟩
/-! arguments -/
theorem sa_nil : SA X E [] tNil aNil := ⟨pa_nil, sound_nil⟩
theorem sa_cons {e : Expr} {es : List Expr} {t : TE} {u : TA} {f : EE} {g : EA} (h : SE X E e t f) (k : SA X E es u g) (hs : starEach (e :: es) X.env = (false, eval e X.env) :: starEach es X.env := by rfl) : SA X E (e :: es) (tCons t u) (aCons f g) := ⟨pa_cons h.pe k.pa hs, sound_cons h.snd k.snd⟩
theorem sm_nil : SM X E [] tNil mNil := ⟨pa_nil, sound_mnil⟩
theorem sm_f {e : Expr} {es : List Expr} {t : TE} {u : TA} {f : EE} {g : EM} (h : SE X E e t f) (k : SM X E es u g) (hs : starEach (e :: es) X.env = (false, eval e X.env) :: starEach es X.env := by rfl) : SM X E (e :: es) (tCons t u) (mConsF f g) := ⟨pa_cons h.pe k.pa hs, sound_mconsF h.snd k.snd⟩
theorem sm_o {e : Expr} {es : List Expr} {t : TE} {u : TA} {f : EO} {g : EM} (h : SO X E e t f) (k : SM X E es u g) (hs : starEach (e :: es) X.env = (false, eval e X.env) :: starEach es X.env := by rfl) : SM X E (e :: es) (tCons t u) (mConsO f g) := ⟨pa_cons h.pe k.pa hs, sound_mconsO h.snd k.snd⟩
theorem se_tup {es : List Expr} {t : TA} {f : EA} {x1} {pos : Pos} (h : SA X E es t f) : SE X E (.Tuple es x1 pos) (tTup t) (eTup f) := ⟨pe_tup h.pa, sound_tup h.snd⟩
theorem so_lst {es : List Expr} {t : TA} {f : EA} {pos : Pos} (h : SA X E es t f) : SO X E (.List es pos) (tLst t) (oLst f) := ⟨pe_lst h.pa, sound_lst h.snd⟩
theorem so_dnew {pos : Pos} : SO X E (.Dict [] [] pos) tDNewK oDnew := ⟨pe_dnewK, sound_dnewK⟩
/-! subscripts -/
theorem se_ix {a b : Expr} {ta tb : TE} {fa fb : EE} {pos : Pos} (ha : SE X E a ta fa) (hb : SE X E b tb fb) (hs : PlainIx b := by exact fun _ _ => rfl) : SE X E (.Subscript a b pos) (tOp (rIx X.K) ta tb) (eOp oIx fa fb) := ⟨pe_ix ix_seq ha.pe hb.pe hs, sound_op sound_ix ha.snd hb.snd⟩
theorem se_item {a b : Expr} {ta tb : TE} {fa fb : EE} {pos : Pos} (room : X.A.units + 64 < cLine) (ha : SE X E a ta fa) (hb : SE X E b tb fb) (hs : NoSl b := by exact fun _ _ => rfl) : SE X E (.Subscript a b pos) (tItem X.K ta tb) (eItem fa fb) := ⟨pe_item (by omega) ha.pe hb.pe hs, sound_item ha.snd hb.snd⟩
theorem se_get1 {o e : Expr} {td ty : TE} {fd fk : EE} {apos cpos : Pos} (room : X.A.units + 64 < cLine) (hd : SE X E o td fd) (hk : SE X E e ty fk) (m : M1 X o "get" apos e cpos := by exact ⟨rfl, rfl, rfl, rfl⟩) : SE X E (.Call (.Attribute o "get" apos) [e] [] cpos) (tGet1 X.K td ty) (eGet1 fd fk) := ⟨pe_get1 (by omega) hd.pe hk.pe m, sound_get1 hd.snd hk.snd⟩
theorem se_get2 {o e f : Expr} {td ty tx : TE} {fd fk fx : EE} {apos cpos : Pos} (room : X.A.units + 64 < cLine) (hd : SE X E o td fd) (hk : SE X E e ty fk) (hx : SE X E f tx fx) (m : M2 X o "get" apos e f cpos := by exact ⟨rfl, rfl, rfl, rfl⟩) : SE X E (.Call (.Attribute o "get" apos) [e, f] [] cpos) (tGet2 X.K td ty tx) (eGet2 fd fk fx) := ⟨pe_get2 (by omega) hd.pe hk.pe hx.pe m, sound_get2 hd.snd hk.snd hx.snd⟩
structure SPo (X : Cx) (E : XE) (e : Option Expr) (t : TO) (f : EOp) : Prop where
  po : PO X e t
  snd : SoundP X.K X.mg E t f
theorem sp_no : SPo X E none tNoPart pNo := ⟨po_none, sound_pno⟩
theorem sp_so {e : Expr} {t : TE} {f : EE} (h : SE X E e t f) : SPo X E (some e) (tPart t) (pSo f) := ⟨po_some h.pe, sound_pso h.snd⟩
theorem se_slT {e : Expr} {lo hi : Option Expr} {t : TE} {f : EE} {tl th : TO} {fl fh : EOp} {p2 pos : Pos} (h : SE X E e t f) (hl : SPo X E lo tl fl) (hh : SPo X E hi th fh) : SE X E (.Subscript e (.Slice lo hi none p2) pos) (tSl (rSlA X.K) t tl th) (eSl f fl fh) := ⟨pe_slice sl_tupA h.pe hl.po hh.po, sound_slT h.snd hl.snd hh.snd⟩
theorem so_slL {e : Expr} {lo hi : Option Expr} {t : TE} {f : EE} {tl th : TO} {fl fh : EOp} {p2 pos : Pos} (h : SE X E e t f) (hl : SPo X E lo tl fl) (hh : SPo X E hi th fh) : SO X E (.Subscript e (.Slice lo hi none p2) pos) (tSl (rSlL X.K) t tl th) (oSl f fl fh) := ⟨pe_slice sl_list h.pe hl.po hh.po, sound_slL h.snd hl.snd hh.snd⟩
theorem so_cat {a b : Expr} {ta tb : TE} {fa fb : EE} {pos : Pos} (ha : SE X E a ta fa) (hb : SE X E b tb fb) : SO X E (.BinOp a .Add b pos) (tOp (rCatL X.K) ta tb) (oCatL fa fb) := ⟨pe_op op_catL ha.pe hb.pe, sound_catL ha.snd hb.snd⟩
/-! builtins -/
theorem se_b1 {id : String} {x : Str} {r : List V → Hp → VK → Prop} {o : D → Option D} {e : Expr} {t : TE} {f : EE} {p pos : Pos} (hc : CallR X (.builtin id) r) (hs : SoundUn X.K (fun v H Q => r [v] H Q) o) (hm : X.mg x = none) (hv : bootBuiltins x = some (.builtin id)) (h : SE X E e t f)
    (hg : Gl X x := by rfl) (hn : x ≠ "__name__" := by decide) (hd : (x == ("__debug__" : Str)) = false := by decide) (he : starEach [e] X.env = (false, eval e X.env) :: starEach [] X.env := by rfl) (hpl : (backTo pos (starEach [] X.env)).any (·.1) = false := by rfl) :
    SE X E (.Call (.Name x p) [e] [] pos) (tCB r (tCons t tNil)) (eUn o f) := ⟨pe_callB hc hg hm hv (pa_cons h.pe pa_nil he) hn hd he hpl, sound_un hs h.snd⟩
theorem se_b2 {id : String} {x : Str} {r : List V → Hp → VK → Prop} {o : D → D → Option D} {e e' : Expr} {t t' : TE} {f f' : EE} {p pos : Pos} (hc : CallR X (.builtin id) r) (hs : SoundOp X.K (fun v u H Q => r [v, u] H Q) o) (hm : X.mg x = none) (hv : bootBuiltins x = some (.builtin id)) (h : SE X E e t f) (h' : SE X E e' t' f')
    (hg : Gl X x := by rfl) (hn : x ≠ "__name__" := by decide) (hd : (x == ("__debug__" : Str)) = false := by decide) (he : starEach [e, e'] X.env = (false, eval e X.env) :: starEach [e'] X.env := by rfl) (he' : starEach [e'] X.env = (false, eval e' X.env) :: starEach [] X.env := by rfl) (hpl : (backTo pos (starEach [e'] X.env)).any (·.1) = false := by rfl) :
    SE X E (.Call (.Name x p) [e, e'] [] pos) (tCB r (tCons t (tCons t' tNil))) (eOp o f f') := ⟨pe_callB hc hg hm hv (pa_cons h.pe (pa_cons h'.pe pa_nil he') he) hn hd he hpl, sound_op hs h.snd h'.snd⟩
theorem se_t1 {T : String} {x : Str} {r : List V → Hp → VK → Prop} {o : D → Option D} {e : Expr} {t : TE} {f : EE} {p pos : Pos} (hc : CallR X (.type T) r) (hs : SoundUn X.K (fun v H Q => r [v] H Q) o) (hm : X.mg x = none) (hv : bootBuiltins x = some (.type T)) (h : SE X E e t f)
    (hg : Gl X x := by rfl) (hn : x ≠ "__name__" := by decide) (hd : (x == ("__debug__" : Str)) = false := by decide) (he : starEach [e] X.env = (false, eval e X.env) :: starEach [] X.env := by rfl) (hpl : (backTo pos (starEach [] X.env)).any (·.1) = false := by rfl) :
    SE X E (.Call (.Name x p) [e] [] pos) (tCB r (tCons t tNil)) (eUn o f) := ⟨pe_callTy hc hg hm hv (pa_cons h.pe pa_nil he) hn hd he hpl, sound_un hs h.snd⟩
theorem so_list {x : Str} {e : Expr} {t : TE} {f : EE} {p pos : Pos} (hm : X.mg x = none) (hv : bootBuiltins x = some (.type "list")) (h : SE X E e t f)
    (hg : Gl X x := by rfl) (hn : x ≠ "__name__" := by decide) (hd : (x == ("__debug__" : Str)) = false := by decide) (he : starEach [e] X.env = (false, eval e X.env) :: starEach [] X.env := by rfl) (hpl : (backTo pos (starEach [] X.env)).any (·.1) = false := by rfl) :
    SO X E (.Call (.Name x p) [e] [] pos) (tCB (rLstA X.K) (tCons t tNil)) (oList f) := ⟨pe_callTy call_list_of hg hm hv (pa_cons h.pe pa_nil he) hn hd he hpl, sound_list h.snd⟩
theorem se_isi {x y : Str} {T : String} {c : String → Option Bool} {e : Expr} {t : TE} {f : EE} {p p2 pos : Pos} (hc : ∀ n b, c n = some b → kitB n T = some b) (hm : X.mg x = none) (hm2 : X.mg y = none) (hv : bootBuiltins x = some (.builtin "isinstance")) (hv2 : bootBuiltins y = some (.type T)) (h : SE X E e t f)
    (hg : Gl X x := by rfl) (hg2 : Gl X y := by rfl) (hn : x ≠ "__name__" := by decide) (hd : (x == ("__debug__" : Str)) = false := by decide) (hn2 : y ≠ "__name__" := by decide) (hd2 : (y == ("__debug__" : Str)) = false := by decide)
    (he : starEach [e, .Name y p2] X.env = (false, eval e X.env) :: starEach [.Name y p2] X.env := by rfl) (he' : starEach [.Name y p2] X.env = (false, eval (.Name y p2) X.env) :: starEach [] X.env := by rfl) (hpl : (backTo pos (starEach [.Name y p2] X.env)).any (·.1) = false := by rfl) :
    SE X E (.Call (.Name x p) [e, .Name y p2] [] pos) (tCB (rIsi X.K) (tCons t (tCons (tC (V.ty T)) tNil))) (eUn (oIsi c) f) :=
  ⟨pe_callB call_isi hg hm hv (pa_cons h.pe (pa_cons (pe_ty hg2 hm2 hv2 hn2 hd2) pa_nil he') he) hn hd he hpl, sound_un (sound_isi hc) h.snd⟩
end
end Fx

set_option Elab.async false
set_option linter.all false
set_option maxRecDepth 100000
namespace Fx
open PySem PySem.Spec PySem.W PyProof.Rows L2

/-- a def of the module, by data -/
structure Has (P : Program) (w : World) (K : PySem.W.Frag) (mg : Str → Option Value) (base : Heap) (k : Nat) (x : Str) (ps : List Str) (io : List Bool) (f : Fn) : Prop where
  ex : ∃ a fd, mg x = some (.ref a) ∧ keepIn K (.ref a) = true ∧ Binds K fd ps [] ∧ FnG P w K mg base CX0 k a fd io.length ps (spF K mg io f)
  cold : ¬ ∃ ds x o, f ds = .er x o
theorem Has.mk' {P : Program} {w : World} {K : PySem.W.Frag} {mg : Str → Option Value} {base : Heap} {nm : Str} {st : Stmt} {f : Addr} {fd : FuncData} (N ps : List Str) {k n : Nat} (io : List Bool) (b : ES)
    (D : Fun K nm nm st f fd) (S : FnScope N ps (defScope st)) (hn : ps.length = io.length) (hN : io.length ≤ n) (len : N.length = n) (g : mg nm = some (.ref f)) (bd : Binds K fd ps [])
    (body : ∀ (cd : Value) (A : Around) (out : List Env) (s : Shared) (H : Hp) (E : XK), Calm (cxOf CX0 P w K mg base N nm (defScope st) f cd A out s H E).nox.A → Room k (cxOf CX0 P w K mg base N nm (defScope st) f cd A out s H E).nox.A →
      ∃ t, SB (cxOf CX0 P w K mg base N nm (defScope st) f cd A out s H E).nox (fun _ => L2.E0) (defBody st) t b) : Has P w K mg base (k + 1) nm ps io (noer (fnOf io n b)) := by
  subst len
  exact ⟨⟨f, fd, g, D.kp, bd, FnG.data D S hn hN body⟩, fun h => noer_ne h⟩
theorem law_mk {P : Program} {w : World} {K : PySem.W.Frag} {mg : Str → Option Value} {base : Heap} {nm : Str} {st : Stmt} {f : Addr} {fd : FuncData} (N ps : List Str) {k n : Nat} (io : List Bool) (b : ES)
    (D : Fun K nm nm st f fd) (S : FnScope N ps (defScope st)) (hn : ps.length = io.length) (hN : io.length ≤ n) (len : N.length = n)
    (body : ∀ (cd : Value) (A : Around) (out : List Env) (s : Shared) (H : Hp) (E : XK), Calm (cxOf CX0 P w K mg base N nm (defScope st) f cd A out s H E).nox.A → Room k (cxOf CX0 P w K mg base N nm (defScope st) f cd A out s H E).nox.A →
      ∃ t, SB (cxOf CX0 P w K mg base N nm (defScope st) f cd A out s H E).nox (fun _ => L2.E0) (defBody st) t b) : FnG P w K mg base CX0 (k + 1) f fd io.length ps (spF K mg io (noer (fnOf io n b))) := by
  subst len
  exact FnG.data D S hn hN body
theorem room64 {k : Nat} {A : Around} (r : Room k A) : A.units + 64 < cLine := by
  have := r.un
  omega
theorem room0 {k : Nat} {A : Around} (r : Room k A) : A.units < cLine := by
  have := r.un
  omega
section
variable {X : Cx} {E : XE}
theorem se_call {j k : Nat} {x : Str} {ps : List Str} {io : List Bool} {f : Fn} {e : Expr} {es : List Expr} {t : TA} {fa : EA} {p pos : Pos} (h : Has X.prog X.w X.K X.mg X.base j x ps io f) (calm : Calm X.A) (room : Room k X.A) (le : j ≤ k) (args : SA X E (e :: es) t fa)
    (glob : Gl X x := by rfl) (nodbg : (x == ("__debug__" : Str)) = false := by decide) (st : starEach (e :: es) X.env = (false, eval e X.env) :: starEach es X.env := by rfl) (pl : (backTo pos (starEach es X.env)).any (·.1) = false := by rfl) :
    SE X E (.Call (.Name x p) (e :: es) [] pos) (tCall (spF X.K X.mg io f) [] L2.E0 t) (eCall io f fa) := by
  obtain ⟨a, fd, h1, h2, h3, h4⟩ := h.ex
  exact ⟨pe_callG (h4.up le) calm room glob h1 h2 h3 pass0 args.pa nodbg st pl, sound_call args.snd fun z => absurd z h.cold⟩
/-! walks -/
theorem si_seq {tg e : Expr} {t : TE} {f : EE} (h : SE X E e t f) : SI X E tg e (iAny X.K t) (iSeq f) := ⟨pi_or (pi_list h.pe) (pi_or (pi_tup h.pe) (pi_str h.pe)), sound_iseq h.snd⟩
theorem si_r1 {tg a : Expr} {t : TA} {f : EA} {p pos : Pos} (hm : X.mg "range" = none) (h : SA X E [a] t f) (hg : Gl X "range" := by rfl) (hs : starEach [a] X.env = [(false, eval a X.env)] := by rfl) : SI X E tg (.Call (.Name "range" p) [a] [] pos) (iRng1 t) (iR1 f) := ⟨pi_range1 hg hm h.pa hs, sound_r1 h.snd⟩
theorem si_r2 {tg a b : Expr} {t : TA} {f : EA} {p pos : Pos} (hm : X.mg "range" = none) (h : SA X E [a, b] t f) (hg : Gl X "range" := by rfl) (hs : starEach [a, b] X.env = [(false, eval a X.env), (false, eval b X.env)] := by rfl) (hs2 : starEach [b] X.env = [(false, eval b X.env)] := by rfl) :
    SI X E tg (.Call (.Name "range" p) [a, b] [] pos) (iRng2 t) (iR2 f) := ⟨pi_range2 hg hm h.pa hs hs2, sound_r2 h.snd⟩
theorem si_r3 {tg a b c : Expr} {t : TA} {f : EA} {p pos : Pos} (hm : X.mg "range" = none) (h : SA X E [a, b, c] t f) (hg : Gl X "range" := by rfl) (hs : starEach [a, b, c] X.env = (false, eval a X.env) :: starEach [b, c] X.env := by rfl) (hpl : (backTo pos (starEach [b, c] X.env)).any (·.1) = false := by rfl) :
    SI X E tg (.Call (.Name "range" p) [a, b, c] [] pos) (iRng3 t) (iR3 f) := ⟨pi_range3 hg hm h.pa hs hpl, sound_r3 h.snd⟩
theorem si_enm {e : Expr} {t : TE} {f : EE} {p pos tpos : Pos} {elts : List Expr} {kk : Nat} (hm : X.mg "enumerate" = none) (h : SE X E e t f) (hg : Gl X "enumerate" := by rfl) (hs : starEach [e] X.env = [(false, eval e X.env)] := by rfl) (hs' : starEach [e] X.env = (false, eval e X.env) :: starEach [] X.env := by rfl) :
    SI X E (.Tuple elts kk tpos) (.Call (.Name "enumerate" p) [e] [] pos) (iEnumA X.K t) (iEnm f) := ⟨pi_or (pi_enum hg hm (pa_cons h.pe pa_nil hs') hs) (pi_enumT hg hm (pa_cons h.pe pa_nil hs') hs), sound_enm h.snd⟩
theorem si_itm {e : Expr} {t : TE} {f : EE} {apos cpos tpos : Pos} {elts : List Expr} {kk : Nat} (h : SE X E e t f) (base : attributeBase e "items" X.env (eval e X.env) = eval e X.env := by rfl) (line : (apos.endLine == cpos.line) = true := by rfl) :
    SI X E (.Tuple elts kk tpos) (.Call (.Attribute e "items" apos) [] [] cpos) (iItm t) (iIt f) := ⟨pi_itm h.pe base line, sound_itm h.snd⟩
/-! targets -/
theorem sg_name {vs : List Nat} (i : Nat) {x : Str} {pos : Pos} (nd : X.N.Nodup) (hi : X.N[i]? = some x := by rfl) (hx : Loc X.env.scope x := by first | exact Or.inl rfl | exact Or.inr rfl) (mem : i ∈ vs := by decide)
    (hf : X.fn x = true ∨ X.env.scope.names.lookup x = some .local := by first | exact .inl rfl | exact .inr rfl) : SG X vs (.Name x pos) (gName i) (nName i) := ⟨pg_name nd hi hx hf, sound_name mem⟩
theorem sgs_nil {vs : List Nat} : SGs X vs [] gNil nNil := ⟨pgs_nil, sound_gnil⟩
theorem sgs_cons {vs : List Nat} {e : Expr} {es : List Expr} {t : TG} {u : TGs} {g : EG} {r : EGs} (h : SG X vs e t g) (k : SGs X vs es u r) (hs : (assignEach (e :: es) X.env).map (·.2) = assign e X.env :: (assignEach es X.env).map (·.2) := by rfl) : SGs X vs (e :: es) (gCons t u) (nCons g r) := ⟨pgs_cons h.pg k.pg hs, sound_gcons h.snd k.snd⟩
theorem sg_tup {vs : List Nat} {es : List Expr} {u : TGs} {r : EGs} {kk n : Nat} {pos : Pos} (calm : X.calm = true) (h : SGs X vs es u r) (hn : (assignEach es X.env).length = n := by rfl) (hst : (assignEach es X.env).findIdx? (·.1) = none := by rfl) : SG X vs (.Tuple es kk pos) (gTup X.K n u) (nTup n r) := ⟨pg_tup calm h.pg hn hst, sound_gtup h.snd⟩
/-! comprehensions -/
abbrev E1 : XE := fun _ => L2.E0
abbrev cYes : ET := fun en => .ok true en
/-! the weakest readings: what a function on data asks for -/
def tOf (K : PySem.W.Frag) (mg : Str → Option Value) (f : EE) : TE := fun σ H Q => ∃ F A G en, Rp K F A G en σ H ∧ Then (f en) (KoE K F A G σ Q) (KeE K mg E1 F A G σ)
def ttOf (K : PySem.W.Frag) (mg : Str → Option Value) (f : ET) : TT := fun σ H Q => ∃ F A G en, Rp K F A G en σ H ∧ Then (f en) (KoT K F A G σ Q) (KeE K mg E1 F A G σ)
def tyOf (K : PySem.W.Frag) (mg : Str → Option Value) (f : EKy) : TE := fun σ H Q => ∃ F A G en, Rp K F A G en σ H ∧ Then (f en) (KoY K F A G σ Q) (KeE K mg E1 F A G σ)
def gOf (K : PySem.W.Frag) (vs : List Nat) (f : EG) : TG := fun v σ H Q => ∃ F A G en d en', Rp K F A G en σ H ∧ Rv K G d v ∧ f d en = some en' ∧ ∀ σ' G' H', But vs σ σ' → Grow F G G' → Rp K F A G' en' σ' H' → Q σ' H'
theorem se_of {e : Expr} {f : EE} (h : ∃ t, SE X E1 e t f) : SE X E1 e (tOf X.K X.mg f) f := by
  obtain ⟨t, h⟩ := h
  exact ⟨pe_imp h.pe fun σ H Q ⟨F, A, G, en, R, k⟩ => h.snd F A G en σ H R Q k, fun F A G en σ H R Q k => ⟨F, A, G, en, R, k⟩⟩
theorem st_of {e : Expr} {f : ET} (h : ∃ t, ST X E1 e t f) : ST X E1 e (ttOf X.K X.mg f) f := by
  obtain ⟨t, h⟩ := h
  exact ⟨⟨fun pins s σ H Q I ⟨F, A, G, en, R, k⟩ => h.pt.run pins s σ H Q I (h.snd F A G en σ H R Q k)⟩, fun F A G en σ H R Q k => ⟨F, A, G, en, R, k⟩⟩
theorem sy_of {e : Expr} {f : EKy} (h : ∃ t, SY X E1 e t f) : SY X E1 e (tyOf X.K X.mg f) f := by
  obtain ⟨t, h⟩ := h
  exact ⟨pe_imp h.pe fun σ H Q ⟨F, A, G, en, R, k⟩ => h.snd F A G en σ H R Q k, fun F A G en σ H R Q k => ⟨F, A, G, en, R, k⟩⟩
theorem sg_of {vs : List Nat} {e : Expr} {f : EG} (h : ∃ t, SG X vs e t f) : SG X vs e (gOf X.K vs f) f := by
  obtain ⟨t, h⟩ := h
  exact ⟨⟨fun pins s σ H v u Q I r ⟨F, A, G, en, d, en', R, rv, q, k⟩ => h.pg.run pins s σ H v u Q I r (h.snd F A G en σ H R d v rv en' q Q k)⟩, fun F A G en σ H R d v rv en' q Q k => ⟨F, A, G, en, d, en', R, rv, q, k⟩⟩
theorem so_lc {elt tg iter : Expr} {scope : Scope} (own : List (Str × Nat)) {pos : Pos} {wi : TI} {fi : EI} {fg : EG} {fe : EE} (nd : X.N.Nodup) (hi : SI X E tg iter wi fi)
    (hg : ∀ (u : Shared) (H : Hp) (C : Addr) (cl : List (Str × Addr)) (fp : List Addr), ∃ g, SG (X.blk u H scope (compEnvC scope cl C X.env) fp) (own.map (·.2)) tg g fg)
    (he : ∀ (u : Shared) (H : Hp) (C : Addr) (cl : List (Str × Addr)) (fp : List Addr), ∃ t, SE (X.blk u H scope (compEnvC scope cl C X.env) fp) E1 elt t fe)
    (calm : X.calm = true := by rfl) (ok : blkC X.N X.env.scope scope own = true := by first | rfl | decide +kernel) (hs : ∀ x, foldedSetIterable iter X.env x = pure x := by intro _; rfl) :
    SO X E (.ListComp elt [⟨tg, iter, [], 0⟩] scope pos) (tLc wi (gOf X.K (own.map (·.2)) fg) tYes (tOf X.K X.mg fe) (own.map (·.2))) (oLc fi fg cYes fe (own.map (·.2))) :=
  ⟨pe_lc calm nd hi.pi (blkOk_by ok) (fun u H C cl fp => (sg_of (hg u H C cl fp)).pg) (fun u H C cl fp => pts_nil) (fun u H C cl fp => (se_of (he u H C cl fp)).pe) hs,
    sound_lc hi.snd (sg_of (hg X.s_0 X.H_0 0 [] [])).snd (sound_yes (E := E1)) (se_of (he X.s_0 X.H_0 0 [] [])).snd⟩
theorem so_lcif {elt tg iter c : Expr} {scope : Scope} (own : List (Str × Nat)) {pos : Pos} {wi : TI} {fi : EI} {fg : EG} {fc : ET} {fe : EE} (nd : X.N.Nodup) (hi : SI X E tg iter wi fi)
    (hg : ∀ (u : Shared) (H : Hp) (C : Addr) (cl : List (Str × Addr)) (fp : List Addr), ∃ g, SG (X.blk u H scope (compEnvC scope cl C X.env) fp) (own.map (·.2)) tg g fg)
    (hc : ∀ (u : Shared) (H : Hp) (C : Addr) (cl : List (Str × Addr)) (fp : List Addr), ∃ t, ST (X.blk u H scope (compEnvC scope cl C X.env) fp) E1 c t fc)
    (he : ∀ (u : Shared) (H : Hp) (C : Addr) (cl : List (Str × Addr)) (fp : List Addr), ∃ t, SE (X.blk u H scope (compEnvC scope cl C X.env) fp) E1 elt t fe)
    (calm : X.calm = true := by rfl) (ok : blkC X.N X.env.scope scope own = true := by first | rfl | decide +kernel) (hs : ∀ x, foldedSetIterable iter X.env x = pure x := by intro _; rfl) :
    SO X E (.ListComp elt [⟨tg, iter, [c], 0⟩] scope pos) (tLc wi (gOf X.K (own.map (·.2)) fg) (ttOf X.K X.mg fc) (tOf X.K X.mg fe) (own.map (·.2))) (oLc fi fg fc fe (own.map (·.2))) :=
  ⟨pe_lc calm nd hi.pi (blkOk_by ok) (fun u H C cl fp => (sg_of (hg u H C cl fp)).pg) (fun u H C cl fp => pts_one (st_of (hc u H C cl fp)).pt) (fun u H C cl fp => (se_of (he u H C cl fp)).pe) hs,
    sound_lc hi.snd (sg_of (hg X.s_0 X.H_0 0 [] [])).snd (st_of (hc X.s_0 X.H_0 0 [] [])).snd (se_of (he X.s_0 X.H_0 0 [] [])).snd⟩
theorem so_dc {kx vx tg iter : Expr} {scope : Scope} (own : List (Str × Nat)) {pos : Pos} {wi : TI} {fi : EI} {fg : EG} {fk : EKy} {fe : EE} (nd : X.N.Nodup) (room : X.A.units < cLine) (hi : SI X E tg iter wi fi)
    (hg : ∀ (u : Shared) (H : Hp) (C : Addr) (cl : List (Str × Addr)) (fp : List Addr), ∃ g, SG (X.blk u H scope (compEnvC scope cl C X.env) fp) (own.map (·.2)) tg g fg)
    (hk : ∀ (u : Shared) (H : Hp) (C : Addr) (cl : List (Str × Addr)) (fp : List Addr), ∃ t, SY (X.blk u H scope (compEnvC scope cl C X.env) fp) E1 kx t fk)
    (he : ∀ (u : Shared) (H : Hp) (C : Addr) (cl : List (Str × Addr)) (fp : List Addr), ∃ t, SE (X.blk u H scope (compEnvC scope cl C X.env) fp) E1 vx t fe)
    (calm : X.calm = true := by rfl) (ok : blkC X.N X.env.scope scope own = true := by first | rfl | decide +kernel) (hs : ∀ x, foldedSetIterable iter X.env x = pure x := by intro _; rfl) :
    SO X E (.DictComp kx vx [⟨tg, iter, [], 0⟩] scope pos) (tDcA wi (gOf X.K (own.map (·.2)) fg) tYes (tyOf X.K X.mg fk) (tOf X.K X.mg fe) (own.map (·.2))) (oDc fi fg cYes fk fe (own.map (·.2))) :=
  ⟨pe_dcA calm nd room hi.pi (blkOk_by ok) (fun u H C cl fp => (sg_of (hg u H C cl fp)).pg) (fun u H C cl fp => pts_nil) (fun u H C cl fp => (sy_of (hk u H C cl fp)).pe) (fun u H C cl fp => (se_of (he u H C cl fp)).pe) hs,
    sound_dc hi.snd (sg_of (hg X.s_0 X.H_0 0 [] [])).snd (sound_yes (E := E1)) (sy_of (hk X.s_0 X.H_0 0 [] [])).snd (se_of (he X.s_0 X.H_0 0 [] [])).snd⟩
theorem sy_tup {es : List Expr} {t : TA} {f : EA} {x1} {pos : Pos} (h : SA X E es t f) : SY X E (.Tuple es x1 pos) (tTup t) (kTup f) := ⟨pe_tup h.pa, sound_ktup h.snd⟩
theorem sy_sim {e : Expr} {t : TE} {f : EE} (h : SE X E e t f) : SY X E e t (kSim f) := ⟨h.pe, sound_ksim h.snd⟩
/-! statements -/
theorem sb_nil : SB X E [] tNext sNx := ⟨pss_nil, sound_nx⟩
theorem sb_cons {s : Stmt} {r : List Stmt} {t u : TS} {f g : ES} (h : SS X E s t f) (k : SB X E r u g) : SB X E (s :: r) (tSeq t u) (sSeq f g) := ⟨pss_cons h.ps k.ps, sound_seq h.snd k.snd⟩
theorem sb_one {s : Stmt} {t : TS} {f : ES} (h : SS X E s t f) : SB X E [s] t f := ⟨pss_one h.ps, h.snd⟩
theorem sb_never {r : List Stmt} : SB X E r tNever sSt := ⟨pss_never, sound_never⟩
theorem ss_never {s : Stmt} : SS X E s tNever sSt := ⟨ps_never, sound_never⟩
theorem ss_pass {pos : Pos} : SS X E (.Pass pos) tNext sNx := ⟨ps_pass, sound_nx⟩
theorem ss_brk {pos : Pos} : SS X E (.Break pos) tBreak sBk := ⟨ps_break, sound_bk⟩
theorem ss_ct {pos : Pos} : SS X E (.Continue pos) tCont sCt := ⟨ps_continue, sound_ct⟩
theorem ss_ret {e : Expr} {t : TE} {f : EE} {pos : Pos} (h : SE X E e t f) : SS X E (.Return (some e) pos) (tRet t) (sRet f) := ⟨ps_ret h.pe, sound_ret h.snd⟩
theorem ss_retN {pos : Pos} : SS X E (.Return none pos) tRetN sRetN := ⟨ps_retN, sound_retN⟩
theorem ss_if {c : Expr} {a b : List Stmt} {tc : TT} {t u : TS} {fc : ET} {f g : ES} {pos : Pos} (hc : ST X E c tc fc) (ha : SB X E a t f) (hb : SB X E b u g) : SS X E (.If c a b pos) (tIfS tc t u) (sIf fc f g) := ⟨ps_if hc.pt ha.ps hb.ps, sound_ifS hc.snd ha.snd hb.snd⟩
theorem ss_set (i : Nat) {x : Str} {e : Expr} {t : TE} {f : EE} {pos' pos : Pos} (nd : X.N.Nodup) (h : SE X E e t f) (hi : X.N[i]? = some x := by rfl) (hx : Loc X.env.scope x := by first | exact Or.inl rfl | exact Or.inr rfl)
    (hs : swapsWith e (some (.Name x pos')) pos.line X.env = pure false := by rfl) (hf : X.fn x = true ∨ X.env.scope.names.lookup x = some .local := by first | exact .inl rfl | exact .inr rfl) : SS X E (.Assign [.Name x pos'] e pos) (tAsg t (gName i)) (sAsg f (nName i)) :=
  ⟨ps_set nd hi hx h.pe hs hf, sound_asg h.snd (sound_name (vs := [i]) (List.mem_singleton.mpr rfl))⟩
theorem ss_setO (i : Nat) {x : Str} {e : Expr} {t : TE} {f : EO} {pos' pos : Pos} (nd : X.N.Nodup) (h : SO X E e t f) (hi : X.N[i]? = some x := by rfl) (hx : Loc X.env.scope x := by first | exact Or.inl rfl | exact Or.inr rfl)
    (hs : swapsWith e (some (.Name x pos')) pos.line X.env = pure false := by rfl) (hf : X.fn x = true ∨ X.env.scope.names.lookup x = some .local := by first | exact .inl rfl | exact .inr rfl) : SS X E (.Assign [.Name x pos'] e pos) (tAsg t (gName i)) (sSetO i f) :=
  ⟨ps_set nd hi hx h.pe hs hf, sound_setO h.snd⟩
theorem ss_asg {tg e : Expr} {vs : List Nat} {t : TE} {f : EE} {tt : TG} {g : EG} {pos : Pos} (h : SE X E e t f) (hg : SG X vs tg tt g) (hs : swapsWithSole [tg] e pos.line X.env = pure false := by rfl) (hw : swappedStores [tg] e X.env = pure none := by rfl) (h1 : (assignEach [tg] X.env).map (·.2) = [assign tg X.env] := by rfl) : SS X E (.Assign [tg] e pos) (tAsg t tt) (sAsg f g) := ⟨ps_asg h.pe hg.pg hs hw h1, sound_asg h.snd hg.snd⟩
theorem ss_par (i j : Nat) {x y : Str} {a b : Expr} {ta : TA} {f : EM} {px py pt pos : Pos} {kt k2 pt2} (nd : X.N.Nodup) (h : SM X E [a, b] ta f) (calm : X.calm = true := by rfl) (hi : X.N[i]? = some x := by rfl) (hj : X.N[j]? = some y := by rfl) (hij : i ≠ j := by decide)
    (hx : X.env.scope.names.lookup x = some .local := by rfl) (hy : X.env.scope.names.lookup y = some .local := by rfl) (hw : swappedStores [.Tuple [.Name x px, .Name y py] kt pt] (.Tuple [a, b] k2 pt2) X.env = pure (some [x, y]) := by rfl)
    (hs : swapsWithSole [.Tuple [.Name x px, .Name y py] kt pt] (.Tuple [a, b] k2 pt2) pos.line X.env = pure false := by rfl) : SS X E (.Assign [.Tuple [.Name x px, .Name y py] kt pt] (.Tuple [a, b] k2 pt2) pos) (tPar i j ta) (sPar i j f) :=
  ⟨ps_par calm nd hi hj hij hx hy h.pa hw hs, sound_par h.snd⟩
theorem ss_par3 (i j l : Nat) {x y z : Str} {a b c : Expr} {ta : TA} {f : EM} {px py pz pt pos : Pos} {kt k2 pt2} (nd : X.N.Nodup) (h : SM X E [a, b, c] ta f) (calm : X.calm = true := by rfl) (hi : X.N[i]? = some x := by rfl) (hj : X.N[j]? = some y := by rfl) (hl : X.N[l]? = some z := by rfl) (hij : i ≠ j := by decide) (hil : i ≠ l := by decide) (hjl : j ≠ l := by decide)
    (hx : X.env.scope.names.lookup x = some .local := by rfl) (hy : X.env.scope.names.lookup y = some .local := by rfl) (hz : X.env.scope.names.lookup z = some .local := by rfl) (hw : swappedStores [.Tuple [.Name x px, .Name y py, .Name z pz] kt pt] (.Tuple [a, b, c] k2 pt2) X.env = pure (some [x, y, z]) := by rfl)
    (hs : swapsWithSole [.Tuple [.Name x px, .Name y py, .Name z pz] kt pt] (.Tuple [a, b, c] k2 pt2) pos.line X.env = pure false := by rfl) : SS X E (.Assign [.Tuple [.Name x px, .Name y py, .Name z pz] kt pt] (.Tuple [a, b, c] k2 pt2) pos) (tPar3 i j l ta) (sPar3 i j l f) :=
  ⟨ps_par3 calm nd hi hj hl hij hil hjl hx hy hz h.pa hw hs, sound_par3 h.snd _ rfl⟩
theorem ss_for {tg iter : Expr} {vs : List Nat} {body : List Stmt} {wi : TI} {tt : TG} {t : TS} {fi : EI} {g : EG} {b : ES} {pos : Pos} (hi : SI X E tg iter wi fi) (hg : SG X vs tg tt g) (hb : SB X E body t b) (hp : PassesOwn (model X.prog X.w) X.A X.env X.xe := by exact PassesOwn.never) (calm : X.calm = true := by rfl) (hs : ∀ x, foldedSetIterable iter X.env x = pure x := by intro _; rfl) :
    SS X E (.For tg iter body [] pos) (tFor wi tt t) (sFor fi g b) := ⟨ps_for hp calm hi.pi hg.pg hb.ps hs, sound_for hi.snd hg.snd hb.snd⟩
theorem ss_expr {e : Expr} {t : TE} {f : EE} {pos : Pos} (h : SE X E e t f) (hs : swapsWith e none pos.line X.env = pure false := by rfl) : SS X E (.Expr e pos) (tDrop t) (sDrop f) := ⟨ps_expr h.pe hs, sound_drop h.snd⟩
theorem ss_app {o e : Expr} {to te : TE} {fo fe : EE} {apos cpos pos : Pos} (ho : SE X E o to fo) (he : SE X E e te fe) (base : attributeBase o "append" X.env (eval o X.env) = eval o X.env := by rfl)
    (few : ((backTo cpos (starEach [e] X.env)).all (fun x => !x.1) && (backToKw cpos (keywordEach [] X.env)).all (fun x => x.1.isSome) && decide (([e] : List Expr).length + ([] : List Keyword).length + (if ([] : List Keyword).isEmpty then 0 else 1) < 30)) = true := by rfl)
    (line : (apos.endLine == cpos.line) = true := by rfl) (hs : starEach [e] X.env = (false, eval e X.env) :: starEach [] X.env := by rfl) (plain : (backTo cpos (starEach [] X.env)).any (·.1) = false := by rfl)
    (sw : swapsWith (.Call (.Attribute o "append" apos) [e] [] cpos) none pos.line X.env = pure false := by rfl) :
    SS X E (.Expr (.Call (.Attribute o "append" apos) [e] [] cpos) pos) (tDrop (tBM X.K "list" rAppend to (tCons te tNil))) (sApp fo fe) :=
  ⟨ps_expr (pe_bm PySem.F.plainAttrs_list PySem.F.slot_list_append PySem.F.type_list_append mt_append ho.pe (pa_cons he.pe pa_nil hs) base few line hs plain) sw, sound_app ho.snd he.snd⟩
theorem ss_put {o i v : Expr} {td ty tv : TE} {fd fv : EE} {fk : EKy} {pos pos' : Pos} (room : X.A.units + 64 < cLine) (hv : SE X E v tv fv) (hd : SE X E o td fd) (hk : SY X E i ty fk) (hs : swapsWith v (some (.Subscript o i pos')) pos.line X.env = pure false := by rfl) :
    SS X E (.Assign [.Subscript o i pos'] v pos) (sPutA td ty tv) (sPut fd fk fv) := ⟨ps_putA (by omega) hd.pe hk.pe hv.pe hs, sound_put hv.snd hd.snd hk.snd⟩
theorem ss_setI {o i v : Expr} {to ti tv : TE} {fo fi fv : EE} {pos pos' : Pos} (hv : SE X E v tv fv) (ho : SE X E o to fo) (hi : SE X E i ti fi)
    (ha : ∀ v, assign (.Subscript o i pos') X.env v = (do
      let ov ← holding [v] (eval o X.env)
      let iv ← holding [v, ov] (eval i X.env)
      standAt pos'
      holding [v, ov, iv] (setItem ov iv v)
      release [v, ov, iv] []) := by intro _; rfl)
    (hs : swapsWithSole [.Subscript o i pos'] v pos.line X.env = pure false := by rfl) (hw : swappedStores [.Subscript o i pos'] v X.env = pure none := by rfl) :
    SS X E (.Assign [.Subscript o i pos'] v pos) (tAsg tv (gSub to ti rSetL)) (sSetI fo fi fv) := ⟨ps_asg hv.pe (pg_sub ho.pe hi.pe set_list ha) hs hw, sound_setI hv.snd ho.snd hi.snd⟩
theorem ss_setLc (i : Nat) {y : Str} {py spos : Pos} {elt tg iter : Expr} {scope : Scope} (own : List (Str × Nat)) {pos : Pos} {wi : TI} {fi : EI} {fg : EG} {fe : EE} (nd : X.N.Nodup) (hi : SI X E tg iter wi fi)
    (hg : ∀ (u : Shared) (H : Hp) (C : Addr) (cl : List (Str × Addr)) (fp : List Addr), ∃ g, SG (X.blk u H scope (compEnvC scope cl C X.env) fp) (own.map (·.2)) tg g fg)
    (he : ∀ (u : Shared) (H : Hp) (C : Addr) (cl : List (Str × Addr)) (fp : List Addr), ∃ t, SE (X.blk u H scope (compEnvC scope cl C X.env) fp) E1 elt t fe)
    (hy : X.N[i]? = some y := by rfl) (hyl : X.env.scope.names.lookup y = some .local := by rfl) (sw : swapsWith (.ListComp elt [⟨tg, iter, [], 0⟩] scope pos) (some (.Name y py)) spos.line X.env = pure true := by exact sw_true rfl rfl rfl rfl)
    (calm : X.calm = true := by rfl) (ok : blkC X.N X.env.scope scope own = true := by first | rfl | decide +kernel) (hs : ∀ x, foldedSetIterable iter X.env x = pure x := by intro _; rfl) :
    SS X E (.Assign [.Name y py] (.ListComp elt [⟨tg, iter, [], 0⟩] scope pos) spos) (tAsg (tLc wi (gOf X.K (own.map (·.2)) fg) tYes (tOf X.K X.mg fe) (own.map (·.2))) (gName i)) (sSetO i (oLc fi fg cYes fe (own.map (·.2)))) :=
  ⟨ps_setLc calm nd hy hyl sw hi.pi (blkOk_by ok) (fun u H C cl fp => (sg_of (hg u H C cl fp)).pg) (fun u H C cl fp => pts_nil) (fun u H C cl fp => (se_of (he u H C cl fp)).pe) hs,
    sound_setO (sound_lc hi.snd (sg_of (hg X.s_0 X.H_0 0 [] [])).snd (sound_yes (E := E1)) (se_of (he X.s_0 X.H_0 0 [] [])).snd)⟩
theorem ss_setLcif (i : Nat) {y : Str} {py spos : Pos} {elt tg iter c : Expr} {scope : Scope} (own : List (Str × Nat)) {pos : Pos} {wi : TI} {fi : EI} {fg : EG} {fc : ET} {fe : EE} (nd : X.N.Nodup) (hi : SI X E tg iter wi fi)
    (hg : ∀ (u : Shared) (H : Hp) (C : Addr) (cl : List (Str × Addr)) (fp : List Addr), ∃ g, SG (X.blk u H scope (compEnvC scope cl C X.env) fp) (own.map (·.2)) tg g fg)
    (hc : ∀ (u : Shared) (H : Hp) (C : Addr) (cl : List (Str × Addr)) (fp : List Addr), ∃ t, ST (X.blk u H scope (compEnvC scope cl C X.env) fp) E1 c t fc)
    (he : ∀ (u : Shared) (H : Hp) (C : Addr) (cl : List (Str × Addr)) (fp : List Addr), ∃ t, SE (X.blk u H scope (compEnvC scope cl C X.env) fp) E1 elt t fe)
    (hy : X.N[i]? = some y := by rfl) (hyl : X.env.scope.names.lookup y = some .local := by rfl) (sw : swapsWith (.ListComp elt [⟨tg, iter, [c], 0⟩] scope pos) (some (.Name y py)) spos.line X.env = pure true := by exact sw_true rfl rfl rfl rfl)
    (calm : X.calm = true := by rfl) (ok : blkC X.N X.env.scope scope own = true := by first | rfl | decide +kernel) (hs : ∀ x, foldedSetIterable iter X.env x = pure x := by intro _; rfl) :
    SS X E (.Assign [.Name y py] (.ListComp elt [⟨tg, iter, [c], 0⟩] scope pos) spos) (tAsg (tLc wi (gOf X.K (own.map (·.2)) fg) (ttOf X.K X.mg fc) (tOf X.K X.mg fe) (own.map (·.2))) (gName i)) (sSetO i (oLc fi fg fc fe (own.map (·.2)))) :=
  ⟨ps_setLc calm nd hy hyl sw hi.pi (blkOk_by ok) (fun u H C cl fp => (sg_of (hg u H C cl fp)).pg) (fun u H C cl fp => pts_one (st_of (hc u H C cl fp)).pt) (fun u H C cl fp => (se_of (he u H C cl fp)).pe) hs,
    sound_setO (sound_lc hi.snd (sg_of (hg X.s_0 X.H_0 0 [] [])).snd (st_of (hc X.s_0 X.H_0 0 [] [])).snd (se_of (he X.s_0 X.H_0 0 [] [])).snd)⟩
theorem sw_trueD {kx vx : Expr} {gs : List Comprehension} {scope : Scope} {pos py : Pos} {y : Str} {l : Nat} {env : Env} (hk : env.scope.kind = .function) (hy : env.scope.names.lookup y = some .local) (hl : (py.line == pos.line) = true)
    (ha : (scope.names.any fun (n, k) => n == y && (k == .local || k == .cell)) = false) : swapsWith (.DictComp kx vx gs scope pos) (some (.Name y py)) l env = pure true := by
  have e1 : env.kindOf y = some .local := hy
  have e2 : env.blockKind = .function := by simp only [Env.blockKind, hk]; rfl
  simp only [swapsWith, e1, e2, ha, Expr.pos, hl]
  rfl
theorem ss_setDc (i : Nat) {y : Str} {py spos : Pos} {kx vx tg iter : Expr} {scope : Scope} (own : List (Str × Nat)) {pos : Pos} {wi : TI} {fi : EI} {fg : EG} {fk : EKy} {fe : EE} (nd : X.N.Nodup) (room : X.A.units < cLine) (hi : SI X E tg iter wi fi)
    (hg : ∀ (u : Shared) (H : Hp) (C : Addr) (cl : List (Str × Addr)) (fp : List Addr), ∃ g, SG (X.blk u H scope (compEnvC scope cl C X.env) fp) (own.map (·.2)) tg g fg)
    (hk : ∀ (u : Shared) (H : Hp) (C : Addr) (cl : List (Str × Addr)) (fp : List Addr), ∃ t, SY (X.blk u H scope (compEnvC scope cl C X.env) fp) E1 kx t fk)
    (he : ∀ (u : Shared) (H : Hp) (C : Addr) (cl : List (Str × Addr)) (fp : List Addr), ∃ t, SE (X.blk u H scope (compEnvC scope cl C X.env) fp) E1 vx t fe)
    (hy : X.N[i]? = some y := by rfl) (hyl : X.env.scope.names.lookup y = some .local := by rfl) (sw : swapsWith (.DictComp kx vx [⟨tg, iter, [], 0⟩] scope pos) (some (.Name y py)) spos.line X.env = pure true := by exact sw_trueD rfl rfl rfl rfl)
    (calm : X.calm = true := by rfl) (ok : blkC X.N X.env.scope scope own = true := by first | rfl | decide +kernel) (hs : ∀ x, foldedSetIterable iter X.env x = pure x := by intro _; rfl) :
    SS X E (.Assign [.Name y py] (.DictComp kx vx [⟨tg, iter, [], 0⟩] scope pos) spos) (tAsg (tDcA wi (gOf X.K (own.map (·.2)) fg) tYes (tyOf X.K X.mg fk) (tOf X.K X.mg fe) (own.map (·.2))) (gName i)) (sSetO i (oDc fi fg cYes fk fe (own.map (·.2)))) :=
  ⟨ps_setDcA calm nd room hy hyl sw hi.pi (blkOk_by ok) (fun u H C cl fp => (sg_of (hg u H C cl fp)).pg) (fun u H C cl fp => pts_nil) (fun u H C cl fp => (sy_of (hk u H C cl fp)).pe) (fun u H C cl fp => (se_of (he u H C cl fp)).pe) hs,
    sound_setO (sound_dc hi.snd (sg_of (hg X.s_0 X.H_0 0 [] [])).snd (sound_yes (E := E1)) (sy_of (hk X.s_0 X.H_0 0 [] [])).snd (se_of (he X.s_0 X.H_0 0 [] [])).snd)⟩
end
end Fx

set_option Elab.async false
set_option linter.all false
set_option maxRecDepth 100000
namespace Fx
open PySem PySem.Spec PySem.W PyProof.Rows L2

/-! ### the end: the law's def at the caller -/
theorem rvs_intlist {K : PySem.W.Frag} {G : Hp} : ∀ ns : List Int, Rvs K G (ns.map PyData.int) (ns.map V.int)
  | [] => rfl
  | n :: ns => ⟨.int n, ns.map V.int, rfl, rfl, rvs_intlist ns⟩
theorem law_run {P : Program} {w : World} {K : PySem.W.Frag} {mg mb : Str → Option Value} {k : Nat} {fa a : Addr} {fd : FuncData} {x : Str} {f : Fn} {s₁ : Shared} {vs : List Value} {ns : List Int}
    (inK : K.In s₁.heap) (glo : s₁.heap.Ns mainGlobals mg) (blt : s₁.heap.Ns builtinsNs mb) (bltOk : ∀ x : Str, x ≠ "__name__" → mb x = bootBuiltins x) (lim : s₁.heap.NoLimit) (gens : s₁.gens = #[])
    (script : s₁.heap.get? a = some { cls := .type "list", data := .seq vs.toArray }) (are : IntsAre vs ns) (small : ns.length ≤ sizeLine) (room : Room k callerA)
    (F : ∀ base : Heap, K.In base → base.Ns mainGlobals mg → FnG P w K mg base CX0 k fa fd 1 [x] (spF K mg [false] f)) (bind : ∀ (s : Shared) (u : Value), BindsTo s fd ⟨[u], []⟩ [(x, u)])
    (holds : ∃ o, f [.list (ns.map PyData.int)] = .ok (.bool true) o) :
    codeAny (model P w) callerA (.call (.ref fa) ⟨[.ref a], []⟩) (fun r s' => r = .ok (.ret (.bool true)) ∧ OldK s₁.heap s'.heap ∧ s'.os = s₁.os ∧ AllBare s'.gens) s₁ := by
  have rel : Vals (ns.map V.int) vs := vals_ints are
  have go : ∀ H : Hp, SqL K H a (ns.map V.int) → HOk P w H s₁.heap → (∀ b, H b = none ∨ (b = a ∧ K.lookup a = none ∧ ∃ o xs, H b = some (.frz o (.lst xs)))) →
      codeAny (model P w) callerA (.call (.ref fa) ⟨[.ref a], []⟩) (fun r s' => r = .ok (.ret (.bool true)) ∧ OldK s₁.heap s'.heap ∧ s'.os = s₁.os ∧ AllBare s'.gens) s₁ := by
    intro H sq ok one
    have free : ∀ {b : Addr} {o : Obj} {es : Array DictEntry} {ep : Nat}, s₁.heap.get? b = some o → o.data = .dict es ep → H b = none := by
      intro b o es ep e d
      rcases one b with z | ⟨rfl, _⟩
      · exact z
      · rw [script] at e
        cases e
        cases (show Data.seq vs.toArray _ = Data.dict es ep from d)
    have ns' : ∀ {b : Addr} {m : Str → Option Value}, s₁.heap.Ns b m → (hidT s₁.heap H).Ns b m := by
      rintro b m ⟨o, es, ep, e, d, r⟩
      exact ⟨o, es, ep, hidT_get e (free e d), d, r⟩
    have inK' : K.In (hidT s₁.heap H) := by
      intro b o e
      refine hidT_get (inK b o e) ?_
      rcases one b with z | ⟨rfl, z, _⟩
      · exact z
      · rw [z] at e
        cases e
    have md : Mod K mg (hidT s₁.heap H) := ⟨inK', ns' glo, ⟨mb, ns' blt, bltOk⟩, let ⟨mc, e1, e2⟩ := lim; ⟨mc, ns' e1, e2⟩⟩
    have env : Env0 P w K mg (hidT s₁.heap H) callerA [] s₁ H :=
      ⟨rfl, md, fun _ _ e => of_hidT e, Nat.le_of_eq (hidT_size _ _), trivial, fun b hb => absurd (show b ∈ ([] : List Addr) from hb) (by simp), ok, .of_eq gens⟩
    have promise : spF K mg [false] f [.ref a] H (fun v _ => v = .bl true) L2.E0 := by
      refine ⟨[], H, [.list (ns.map PyData.int)], ⟨_, [], _, [], rfl, rfl, ⟨a, _, rfl, sq, rvs_intlist ns⟩, rfl, rfl, rfl⟩, .refl _, List.nodup_nil, ?_⟩
      obtain ⟨o, e⟩ := holds
      rw [e]
      intro v G' H' _ _ _ _ r
      exact r
    refine codeAny_mono ((F _ inK' (ns' glo)).go callerA rfl room [] s₁ H env ⟨[.ref a], []⟩ [.ref a] (bind s₁ (.ref a)) [.ref a] (.cons rfl .nil) _ _ promise) ?_
    intro r s' h
    match r, h with
    | .error e, h => exact (show False from h).elim
    | .ok .next, h => exact (show False from h).elim
    | .ok .brk, h => exact (show False from h).elim
    | .ok .cont, h => exact (show False from h).elim
    | .ok (.ret u), h =>
      obtain ⟨v, H', os, bare, un, ok', ru, e⟩ := h
      obtain rfl : v = .bl true := e
      obtain rfl : u = Value.bool true := ru
      refine ⟨rfl, OldK.of_keep fun b o e => ?_, os, bare⟩
      rcases one b with z | ⟨_, _, ob, xs, z⟩
      · exact un.keep b o e z (fun q => absurd (show b ∈ ([] : List Addr) from q) (by simp)) (by simp)
      · have z' := un.frzs b ob _ z
        obtain ⟨e1, _⟩ := ok b _ z
        obtain ⟨e2, _⟩ := ok' b _ z'
        rw [e] at e1
        cases e1
        exact e2
  cases look : K.lookup a with
  | some o =>
    have e := inK a o look
    rw [script] at e
    cases e
    refine go (fun _ => none) (.inr ⟨_, vs.toArray, _, look, rfl, rfl, rfl, ?_, by simpa using rel⟩) ?_ fun _ => .inl rfl
    · rw [List.size_toArray, are.length]
      exact small
    · intro b u z
      cases (show (none : Option HO) = some u from z)
  | none =>
    refine go (fun b => if b = a then some (.frz { cls := .type "list", data := .seq vs.toArray } (.lst (ns.map V.int))) else none) (.inl (.inr ⟨_, if_pos rfl⟩)) ?_ ?_
    · intro b u z
      by_cases hb : b = a
      · have z' := (if_pos hb).symm.trans z
        cases z'
        subst hb
        exact ⟨script, by rw [List.length_map]; exact small, vs, _, rel, script⟩
      · cases (if_neg hb).symm.trans z
    · intro b
      by_cases hb : b = a
      · exact .inr ⟨hb, look, _, _, if_pos hb⟩
      · exact .inl (if_neg hb)
/-- the goal that the head leaves -/
theorem walk_end {l : PySem.W.OpenLaw} {n k : Nat} {q : Program} {loose : List Str} {XP : (Str → Option Value) → Heap → Prop} {YP : World → Heap → Prop} {d : DefRec} {K : Params → PySem.W.Frag} {f : Fn} {x : Str}
    (most : l.most = some n) (small : n ≤ sizeLine) (nodef : d.params.defaults = []) (room : Room k callerA) (hY : ∀ (w : World) (h : Heap), YP w h → (K w.params).In h)
    (F : ∀ (w : World) (mg : Str → Option Value) (fa : Addr) (h : Heap), (K w.params).In h → h.Ns mainGlobals mg → mg d.name = some (.ref fa) →
      ∃ fd : FuncData, (∀ (s : Shared) (u : Value), BindsTo s fd ⟨[u], []⟩ [(x, u)]) ∧ ∀ base : Heap, (K w.params).In base → base.Ns mainGlobals mg → FnG l.prog w (K w.params) mg base CX0 k fa fd 1 [x] (spF (K w.params) mg [false] f))
    (holds : ∀ ns : List Int, ns.length ≤ n → ∃ o, f [.list (ns.map PyData.int)] = .ok (.bool true) o) : PySem.W.WalkO q loose XP YP l.row.toRowW d [] (fun f vs => PySem.call f vs) := by
  refine Att.attach_call most nodef ?_
  intro w s₀ s₁ mg mb fa o pm cd doc a vs ns G Y ho hd hcd hmg hobj hints hlen hgens
  have inK := hY w _ Y
  obtain ⟨fd, b, F⟩ := F w mg fa _ inK G.T.g hmg
  exact law_run inK G.T.g G.T.b G.T.builtins G.T.nolimit hgens hobj hints (Nat.le_trans hlen small) room F b (holds ns hlen)
end Fx

set_option Elab.async false
set_option linter.all false
set_option maxRecDepth 100000
namespace Fx
open PySem PySem.Spec PySem.W PyProof.Rows L2
section
variable {K : PySem.W.Frag} {mg : Str → Option Value} {F : Hp} {A : List Addr} {G H : Hp} {en : En} {σ : L2.St}
theorem get_snoc {α : Type} {l : List α} {i : Nat} {x y : α} (h : (l ++ [x])[i]? = some y) : (i < l.length ∧ l[i]? = some y) ∨ (i = l.length ∧ y = x) := by
  by_cases hi : i < l.length
  · rw [List.getElem?_append_left hi] at h
    exact .inl ⟨hi, h⟩
  · rw [List.getElem?_append_right (by omega)] at h
    have e : i - l.length = 0 := by
      by_cases z : i - l.length = 0
      · exact z
      · rw [List.getElem?_eq_none (by simp; omega)] at h; cases h
    rw [e] at h
    exact .inr ⟨by omega, (Option.some.inj h).symm⟩
/-- a new thing takes a nameless place -/
theorem Rp.push (R : Rp K F A G en σ H) {a : Addr} {d : D} (o : Own K G H d a) (nw : Nw F A G en σ a) : Rp K F A G (en ++ [.ow d]) (σ ++ [some (.ref a)]) H := by
  have old : ∀ {i : Nat} {w : V}, i < en.length → σ[i]? = some (some w) → (σ ++ [some (.ref a)])[i]? = some (some w) := fun {i w} hi e => by
    rw [List.getElem?_append_left (by rw [R.len]; exact hi)]; exact e
  have last : (σ ++ [some (.ref a)])[en.length]? = some (some (.ref a)) := by
    rw [List.getElem?_append_right (by rw [R.len]; exact Nat.le_refl _), R.len, Nat.sub_self]; rfl
  have back : ∀ {i : Nat} {w : V}, i < en.length → (σ ++ [some (.ref a)])[i]? = some (some w) → σ[i]? = some (some w) := fun {i w} hi e => by
    rw [List.getElem?_append_left (by rw [R.len]; exact hi)] at e; exact e
  refine ⟨R.fx, R.gx, by rw [List.length_append, List.length_append, R.len]; rfl, fun i d' e => ?_, fun i d' e => ?_, fun i k d' e => ?_, fun i j d1 d2 b e e' h h' => ?_, fun i j k d1 d2 e e' => ?_, R.nd, R.al, R.fg⟩
  · rcases get_snoc e with ⟨hi, e⟩ | ⟨_, z⟩
    · obtain ⟨v, h1, h2⟩ := R.fz i d' e
      exact ⟨v, old hi h1, h2⟩
    · cases z
  · rcases get_snoc e with ⟨hi, e⟩ | ⟨rfl, z⟩
    · obtain ⟨b, h1, h2⟩ := R.ow i d' e
      exact ⟨b, old hi h1, h2⟩
    · cases z
      exact ⟨a, last, o, nw.f, nw.g, nw.n⟩
  · rcases get_snoc e with ⟨hi, e⟩ | ⟨_, z⟩
    · obtain ⟨b, h1, h2⟩ := R.io i k d' e
      exact ⟨b, old hi h1, h2⟩
    · cases z
  · rcases get_snoc e with ⟨hi, e⟩ | ⟨rfl, z⟩
    · rcases get_snoc e' with ⟨hj, e'⟩ | ⟨rfl, z'⟩
      · exact R.dj i j d1 d2 b e e' (back hi h) (back hj h')
      · rw [last] at h'
        cases h'
        exact absurd (back hi h) (nw.s i d1 e)
    · rcases get_snoc e' with ⟨hj, e'⟩ | ⟨rfl, z'⟩
      · rw [last] at h
        cases h
        exact absurd (back hj h') (nw.s j d2 e')
      · rfl
  · rcases get_snoc e with ⟨hi, e⟩ | ⟨_, z⟩
    · rcases get_snoc e' with ⟨hj, e'⟩ | ⟨_, z⟩
      · exact R.ij i j k d1 d2 e e'
      · cases z
    · cases z
theorem Rp.pop {s : Sl} {o : Option V} (R : Rp K F A G (en ++ [s]) (σ ++ [o]) H) : Rp K F A G en σ H := by
  have hl : σ.length = en.length := by
    have := R.len
    rw [List.length_append, List.length_append] at this
    exact Nat.add_right_cancel this
  have up : ∀ {i : Nat} {x : Sl}, en[i]? = some x → (en ++ [s])[i]? = some x := fun {i x} e => by
    rw [List.getElem?_append_left (List.getElem?_eq_some_iff.mp e).1]; exact e
  have dn : ∀ {i : Nat} {x : Sl} {w : V}, en[i]? = some x → (σ ++ [o])[i]? = some (some w) → σ[i]? = some (some w) := fun {i x w} e h => by
    rw [List.getElem?_append_left (by rw [hl]; exact (List.getElem?_eq_some_iff.mp e).1)] at h; exact h
  have dn' : ∀ {i : Nat} {x : Sl} {w : V}, en[i]? = some x → σ[i]? = some (some w) → (σ ++ [o])[i]? = some (some w) := fun {i x w} e h => by
    rw [List.getElem?_append_left (by rw [hl]; exact (List.getElem?_eq_some_iff.mp e).1)]; exact h
  refine ⟨R.fx, R.gx, hl, fun i d e => ?_, fun i d e => ?_, fun i k d e => ?_, fun i j d1 d2 b e e' h h' => R.dj i j d1 d2 b (up e) (up e') (dn' e h) (dn' e' h'), fun i j k d1 d2 e e' => R.ij i j k d1 d2 (up e) (up e'), R.nd, R.al, R.fg⟩
  · obtain ⟨v, h1, h2⟩ := R.fz i d (up e)
    exact ⟨v, dn e h1, h2⟩
  · obtain ⟨b, h1, h2⟩ := R.ow i d (up e)
    exact ⟨b, dn e h1, h2⟩
  · obtain ⟨b, h1, h2⟩ := R.io i k d (up e)
    exact ⟨b, dn e h1, h2⟩
/-- f(..), f's result a new thing -/
def eCallO (io : List Bool) (f : Fn) (a : EA) : EO := fun en => (a en).bind fun ls en => (prep io ls en).bind fun ds en =>
  if (iosOf io ls).all (owns en) = true ∧ (iosOf io ls).Nodup then match f ds with
    | .oko d outs => match puts (iosOf io ls) outs en with
      | some en => .ok d en
      | none => .st
    | _ => .st
  else .st
theorem sound_callO {E : XE} {E1 : XK} {io : List Bool} {f : Fn} {t : TA} {fa : EA} (h : SoundA K mg E t fa) : SoundO K mg E (tCall (spF K mg io f) [] E1 t) (eCallO io f fa) := by
  intro F A G en σ H R Q k
  refine h F A G en σ H R _ (Then.imp (Then.bind k) (fun ls en1 k1 vs G1 H1 g1 R1 r1 => ?_) fun _ _ z => z)
  show spF K mg io f (vs ++ []) H1 Q E1
  rw [List.append_nil]
  cases e : prep io ls en1 with
  | st => rw [e] at k1; exact k1.elim
  | er x en2 => exact absurd e (prep_noer io ls en1 x en2)
  | ok ds en2 =>
    rw [e] at k1
    obtain ⟨G2, g2, R2, p2⟩ := prep_ok R1 r1 e
    have k1 : Then (if (iosOf io ls).all (owns en2) = true ∧ (iosOf io ls).Nodup then match f ds with
      | .oko d outs => match puts (iosOf io ls) outs en2 with
        | some en => Rs.ok d en
        | none => .st
      | _ => .st
      else .st) (KoO K F A G σ Q) (KeE K mg E F A G σ) := k1
    by_cases c : (iosOf io ls).all (owns en2) = true ∧ (iosOf io ls).Nodup
    · rw [if_pos c] at k1
      have ho : ∀ i ∈ iosOf io ls, owns en2 i = true := List.all_eq_true.mp c.1
      obtain ⟨B, a, hB⟩ := args_of R2 p2 ho
      refine ⟨B, G2, ds, a, R2.gx, ads_nodup R2 hB ho c.2, ?_⟩
      cases e2 : f ds with
      | st => rw [e2] at k1; exact k1.elim
      | ok d outs => rw [e2] at k1; exact k1.elim
      | er x outs => rw [e2] at k1; exact k1.elim
      | oko d outs =>
        rw [e2] at k1
        intro b G' H' gr l same o own ca ga na
        simp only at k1
        cases e3 : puts (iosOf io ls) outs en2 with
        | none => simp only [e3] at k1; exact k1.elim
        | some en3 =>
          simp only [e3] at k1
          obtain ⟨gg, R3⟩ := R2.after hB ho c.2 gr l same o e3
          exact k1 b G' H' ((g1.trans g2).trans gg) R3 own (R2.fresh_after hB ho c.2 gr e3 ca ga na)
    · rw [if_neg c] at k1; exact k1.elim
/-- f(x), x a new thing that f changes -/
def eCallT (f : Fn) (a : EO) : EE := fun en => (a en).bind fun d en => match f [d] with
  | .ok r [_] => .ok (.fz r) en
  | _ => .st
theorem sound_callT {E : XE} {E1 : XK} {f : Fn} {t : TE} {fa : EO} (h : SoundO K mg E t fa) : SoundE K mg E (tCall (spF K mg [true] f) [] E1 (tCons t tNil)) (eCallT f fa) := by
  intro F A G en σ H R Q k
  refine h F A G en σ H R _ (Then.imp (Then.bind k) (fun d en1 k1 a G1 H1 g1 R1 o1 n1 => ?_) fun _ _ z => z)
  show spF K mg [true] f [.ref a] H1 Q E1
  refine ⟨[a], G1, [d], ⟨a, [], d, [], [], rfl, rfl, rfl, o1, n1.g, rfl, rfl, rfl⟩, R1.gx, by simp, ?_⟩
  split at k1
  · rename_i r d' e
    rw [e]
    intro v G' H' gr l same o rv
    have R2 := R1.push o1 n1
    have own : owns (en1 ++ [Sl.ow d]) en1.length = true := by
      unfold owns
      rw [List.getElem?_append_right (Nat.le_refl _), Nat.sub_self]
      rfl
    have ads : Ads (σ ++ [some (.ref a)]) [en1.length] [a] := by
      refine ⟨rfl, fun p i hp => ?_⟩
      cases p with
      | zero =>
        cases hp
        exact ⟨a, rfl, by rw [List.getElem?_append_right (by rw [R1.len]; exact Nat.le_refl _), R1.len, Nat.sub_self]; rfl⟩
      | succ p => cases hp
    have pp : puts [en1.length] [d'] (en1 ++ [Sl.ow d]) = some (en1 ++ [Sl.ow d']) := by
      have : put (en1 ++ [Sl.ow d]) en1.length d' = some (en1 ++ [Sl.ow d']) := by
        unfold put
        rw [List.getElem?_append_right (Nat.le_refl _), Nat.sub_self]
        show some ((en1 ++ [Sl.ow d]).set en1.length (.ow d')) = _
        rw [List.set_append_right _ _ (Nat.le_refl _), Nat.sub_self]
        rfl
      unfold puts
      rw [this]
      rfl
    obtain ⟨gg, R3⟩ := R2.after ads (fun i hi => by rw [List.mem_singleton.mp hi]; exact own) (by simp) gr l same o pp
    exact k1 v G' H' (g1.trans gg) R3.pop rv
  · exact k1.elim
end
section
variable {X : Cx} {E : XE}
theorem so_call {j k : Nat} {x : Str} {ps : List Str} {io : List Bool} {f : Fn} {e : Expr} {es : List Expr} {t : TA} {fa : EA} {p pos : Pos} (h : Has X.prog X.w X.K X.mg X.base j x ps io f) (calm : Calm X.A) (room : Room k X.A) (le : j ≤ k) (args : SA X E (e :: es) t fa)
    (glob : Gl X x := by rfl) (nodbg : (x == ("__debug__" : Str)) = false := by decide) (st : starEach (e :: es) X.env = (false, eval e X.env) :: starEach es X.env := by rfl) (pl : (backTo pos (starEach es X.env)).any (·.1) = false := by rfl) :
    SO X E (.Call (.Name x p) (e :: es) [] pos) (tCall (spF X.K X.mg io f) [] L2.E0 t) (eCallO io f fa) := by
  obtain ⟨a, fd, h1, h2, h3, h4⟩ := h.ex
  exact ⟨pe_callG (h4.up le) calm room glob h1 h2 h3 pass0 args.pa nodbg st pl, sound_callO args.snd⟩
theorem se_callT {j k : Nat} {x : Str} {ps : List Str} {f : Fn} {e : Expr} {t : TE} {fa : EO} {p pos : Pos} (h : Has X.prog X.w X.K X.mg X.base j x ps [true] f) (calm : Calm X.A) (room : Room k X.A) (le : j ≤ k) (arg : SO X E e t fa)
    (glob : Gl X x := by rfl) (nodbg : (x == ("__debug__" : Str)) = false := by decide) (st : starEach [e] X.env = (false, eval e X.env) :: starEach [] X.env := by rfl) (pl : (backTo pos (starEach [] X.env)).any (·.1) = false := by rfl) :
    SE X E (.Call (.Name x p) [e] [] pos) (tCall (spF X.K X.mg [true] f) [] L2.E0 (tCons t tNil)) (eCallT f fa) := by
  obtain ⟨a, fd, h1, h2, h3, h4⟩ := h.ex
  exact ⟨pe_callG (h4.up le) calm room glob h1 h2 h3 pass0 (pa_cons arg.pe pa_nil st) nodbg st pl, sound_callT arg.snd⟩
theorem ss_retO {e : Expr} {t : TE} {f : EO} {pos : Pos} (h : SO X E e t f) : SS X E (.Return (some e) pos) (tRet t) (sRetO f) := ⟨ps_ret h.pe, sound_retO h.snd⟩
end
end Fx

set_option Elab.async false
set_option linter.all false
namespace Fx
open PySem L2

/-! ### what the functions on data compute: Wp r Q: r is .ok, with Q -/
structure Wp {α : Type} (r : Rs α) (Q : α → En → Prop) : Prop where
  out : match r with
    | .ok a en => Q a en
    | _ => False
theorem wp_ok {α : Type} {a : α} {en : En} {Q : α → En → Prop} : Wp (.ok a en) Q = Q a en := propext ⟨fun h => h.out, fun h => ⟨h⟩⟩
theorem wp_st {α : Type} {Q : α → En → Prop} : Wp (.st : Rs α) Q = False := propext ⟨fun h => h.out, fun h => h.elim⟩
theorem wp_er {α : Type} {x : Er} {en : En} {Q : α → En → Prop} : Wp (.er x en : Rs α) Q = False := propext ⟨fun h => h.out, fun h => h.elim⟩
theorem wp_bind {α β : Type} {r : Rs α} {k : α → En → Rs β} {Q : β → En → Prop} : Wp (r.bind k) Q = Wp r (fun a en => Wp (k a en) Q) := by
  cases r with
  | ok a en => rw [wp_ok]; rfl
  | st => rw [wp_st]; exact wp_st
  | er x en => rw [wp_er]; exact wp_er
theorem wp_nox {α : Type} {r : Rs α} {Q : α → En → Prop} : Wp r.nox Q = Wp r Q := by
  cases r with
  | ok a en => rfl
  | st => rfl
  | er x en => rw [wp_er]; exact wp_st
theorem Wp.imp {α : Type} {r : Rs α} {Q Q' : α → En → Prop} (h : Wp r Q) (k : ∀ a en, Q a en → Q' a en) : Wp r Q' := by
  cases r with
  | ok a en => exact ⟨k a en h.out⟩
  | st => exact h.out.elim
  | er _ _ => exact h.out.elim
theorem wp_ite {α : Type} {c : Prop} [Decidable c] {a b : Rs α} {Q : α → En → Prop} : Wp (if c then a else b) Q = if c then Wp a Q else Wp b Q := by split <;> rfl
theorem wp_eq {α : Type} {r : Rs α} {a : α} {en : En} {Q : α → En → Prop} (h : r = .ok a en) (q : Q a en) : Wp r Q := by rw [h]; exact ⟨q⟩
theorem wp_val {α : Type} {r : Rs α} {Q : α → En → Prop} (h : Wp r Q) : ∃ a en, r = .ok a en ∧ Q a en := by
  cases r with
  | ok a en => exact ⟨a, en, rfl, h.out⟩
  | st => exact h.out.elim
  | er _ _ => exact h.out.elim
/-- a def's result -/
def Fp (r : Fr) (Q : D → List D → Prop) : Prop := match r with
  | .ok d o => Q d o
  | _ => False
theorem fp_val {r : Fr} {Q : D → List D → Prop} (h : Fp r Q) : ∃ d o, r = .ok d o ∧ Q d o := by
  cases r with
  | ok a en => exact ⟨a, en, rfl, h⟩
  | st => exact h.elim
  | oko _ _ => exact h.elim
  | er _ _ => exact h.elim
theorem fp_fn {io : List Bool} {n : Nat} {b : ES} {ds : List D} {Q : D → List D → Prop} (h : Wp (b (enOf io ds 0 ++ List.replicate (n - io.length) .un)) fun o en => match o with
    | .nx => ∃ r, outsOf io 0 en = some r ∧ Q .none r
    | .rt d => ∃ r, outsOf io 0 en = some r ∧ Q d r
    | _ => False) : Fp (noer (fnOf io n b) ds) Q := by
  unfold noer fnOf
  obtain ⟨o, en, e, q⟩ := wp_val h
  rw [e]
  cases o with
  | nx => obtain ⟨r, h1, h2⟩ := q; simp only [h1]; exact h2
  | rt d => obtain ⟨r, h1, h2⟩ := q; simp only [h1]; exact h2
  | bk => exact q.elim
  | ct => exact q.elim
  | ro d => exact q.elim
/-! loops: I by the items that are done -/
theorem wp_loop {g : EG} {b : ES} {Q : Out → En → Prop} (I : List D → En → Prop) : ∀ (ds pre : List D) (en : En), I pre en →
    (∀ pre d post en, ds' = pre ++ d :: post → I pre en → ∃ en', g d en = some en' ∧ Wp (b en') fun o en => match o with
      | .nx => I (pre ++ [d]) en
      | .ct => I (pre ++ [d]) en
      | .bk => Q .nx en
      | .rt d => Q (.rt d) en
      | .ro d => Q (.ro d) en) → (∀ en, I ds' en → Q .nx en) → ds' = pre ++ ds → Wp (loop g b ds en) Q
  | [], pre, en, h, _, fin, e => by
    rw [List.append_nil] at e
    subst e
    exact wp_eq rfl (fin en h)
  | d :: ds, pre, en, h, step, fin, e => by
    obtain ⟨en', h1, h2⟩ := step pre d ds en e h
    unfold loop
    rw [h1]
    simp only [wp_bind]
    refine h2.imp fun o en2 q => ?_
    have e' : ds' = (pre ++ [d]) ++ ds := by rw [e, List.append_assoc]; rfl
    cases o with
    | nx => exact wp_loop I ds (pre ++ [d]) en2 q step fin e'
    | ct => exact wp_loop I ds (pre ++ [d]) en2 q step fin e'
    | bk => exact wp_eq rfl q
    | rt d => exact wp_eq rfl q
    | ro d => exact wp_eq rfl q
theorem wp_for {i : EI} {g : EG} {b : ES} {en : En} {Q : Out → En → Prop} (ds : List D) (en0 : En) (hi : i en = .ok ds en0) (I : List D → En → Prop) (h0 : I [] en0)
    (step : ∀ pre d post en, ds = pre ++ d :: post → I pre en → ∃ en', g d en = some en' ∧ Wp (b en') fun o en => match o with
      | .nx => I (pre ++ [d]) en
      | .ct => I (pre ++ [d]) en
      | .bk => Q .nx en
      | .rt d => Q (.rt d) en
      | .ro d => Q (.ro d) en) (fin : ∀ en, I ds en → Q .nx en) : Wp (sFor i g b en) Q := by
  unfold sFor
  rw [hi]
  exact wp_loop (ds' := ds) I ds [] en0 h0 step fin rfl
/-! list comprehensions whose turns keep the names: f gives the item -/
theorem wp_compL {g : EG} {c : ET} {e : EE} {vs : List Nat} (en0 : En) (p : D → Bool) (f : D → D) : ∀ (ds acc : List D), acc.length + ds.length ≤ 65536 →
    (∀ d ∈ ds, ∃ en1, g d en0 = some en1 ∧ ∃ en2, c en1 = .ok (p d) en2 ∧ (p d = true → ∃ en3, dat e en2 = .ok (f d) en3 ∧ wipeE vs en3 = en0) ∧ (p d = false → wipeE vs en2 = en0)) →
    compL g c e vs ds acc en0 = .ok (acc ++ (ds.filter p).map f) en0
  | [], acc, _, _ => by rw [List.filter_nil, List.map_nil, List.append_nil]; rfl
  | d :: ds, acc, hl, h => by
    obtain ⟨en1, h1, en2, h2, h3, h4⟩ := h d List.mem_cons_self
    unfold compL
    rw [h1]
    simp only [h2, Rs.nox, Rs.bind]
    have hd : ∀ x ∈ ds, _ := fun x hx => h x (List.mem_cons_of_mem _ hx)
    rw [List.length_cons] at hl
    by_cases hp : p d = true
    · obtain ⟨en3, h5, h6⟩ := h3 hp
      rw [if_pos hp, h5]
      simp only
      rw [if_pos (by omega), h6, wp_compL en0 p f ds (acc ++ [f d]) (by rw [List.length_append]; simp; omega) hd, List.filter_cons_of_pos hp, List.map_cons, List.append_assoc]
      rfl
    · have hp' : p d = false := by simpa using hp
      rw [if_neg hp, h4 hp', wp_compL en0 p f ds acc (by omega) hd, List.filter_cons_of_neg hp]
end Fx

set_option Elab.async false
set_option linter.all false
namespace Fx
open PySem
@[simp] theorem sx_noer_eq_1 : type_of% @Fx.noer.eq_1 := @Fx.noer.eq_1
@[simp] theorem sx_fnOf_eq_1 : type_of% @Fx.fnOf.eq_1 := @Fx.fnOf.eq_1
@[simp] theorem sx_enOf_eq_1 : type_of% @Fx.enOf.eq_1 := @Fx.enOf.eq_1
@[simp] theorem sx_enOf_eq_2 : type_of% @Fx.enOf.eq_2 := @Fx.enOf.eq_2
@[simp] theorem sx_enOf_eq_3 : type_of% @Fx.enOf.eq_3 := @Fx.enOf.eq_3
@[simp] theorem sx_outsOf_eq_1 : type_of% @Fx.outsOf.eq_1 := @Fx.outsOf.eq_1
@[simp] theorem sx_outsOf_eq_2 : type_of% @Fx.outsOf.eq_2 := @Fx.outsOf.eq_2
@[simp] theorem sx_outsOf_eq_3 : type_of% @Fx.outsOf.eq_3 := @Fx.outsOf.eq_3
@[simp] theorem sx_outsOf_eq_4 : type_of% @Fx.outsOf.eq_4 := @Fx.outsOf.eq_4
@[simp] theorem sx_Rs_bind_eq_1 : type_of% @Fx.Rs.bind.eq_1 := @Fx.Rs.bind.eq_1
@[simp] theorem sx_Rs_bind_eq_2 : type_of% @Fx.Rs.bind.eq_2 := @Fx.Rs.bind.eq_2
@[simp] theorem sx_Rs_bind_eq_3 : type_of% @Fx.Rs.bind.eq_3 := @Fx.Rs.bind.eq_3
@[simp] theorem sx_Rs_nox_eq_1 : type_of% @Fx.Rs.nox.eq_1 := @Fx.Rs.nox.eq_1
@[simp] theorem sx_Rs_nox_eq_2 : type_of% @Fx.Rs.nox.eq_2 := @Fx.Rs.nox.eq_2
@[simp] theorem sx_Rs_nox_eq_3 : type_of% @Fx.Rs.nox.eq_3 := @Fx.Rs.nox.eq_3
@[simp] theorem sx_sRet_eq_1 : type_of% @Fx.sRet.eq_1 := @Fx.sRet.eq_1
@[simp] theorem sx_sRetO_eq_1 : type_of% @Fx.sRetO.eq_1 := @Fx.sRetO.eq_1
@[simp] theorem sx_sSeq_eq_1 : type_of% @Fx.sSeq.eq_1 := @Fx.sSeq.eq_1
@[simp] theorem sx_sIf_eq_1 : type_of% @Fx.sIf.eq_1 := @Fx.sIf.eq_1
@[simp] theorem sx_sAsg_eq_1 : type_of% @Fx.sAsg.eq_1 := @Fx.sAsg.eq_1
@[simp] theorem sx_sSetO_eq_1 : type_of% @Fx.sSetO.eq_1 := @Fx.sSetO.eq_1
@[simp] theorem sx_sNx_eq_1 : type_of% @Fx.sNx.eq_1 := @Fx.sNx.eq_1
@[simp] theorem sx_sBk_eq_1 : type_of% @Fx.sBk.eq_1 := @Fx.sBk.eq_1
@[simp] theorem sx_sCt_eq_1 : type_of% @Fx.sCt.eq_1 := @Fx.sCt.eq_1
@[simp] theorem sx_sRetN_eq_1 : type_of% @Fx.sRetN.eq_1 := @Fx.sRetN.eq_1
@[simp] theorem sx_sDrop_eq_1 : type_of% @Fx.sDrop.eq_1 := @Fx.sDrop.eq_1
@[simp] theorem sx_dat_eq_1 : type_of% @Fx.dat.eq_1 := @Fx.dat.eq_1
@[simp] theorem sx_dats_eq_1 : type_of% @Fx.dats.eq_1 := @Fx.dats.eq_1
@[simp] theorem sx_frz_eq_1 : type_of% @Fx.frz.eq_1 := @Fx.frz.eq_1
@[simp] theorem sx_frz_eq_2 : type_of% @Fx.frz.eq_2 := @Fx.frz.eq_2
@[simp] theorem sx_frzs_eq_1 : type_of% @Fx.frzs.eq_1 := @Fx.frzs.eq_1
@[simp] theorem sx_frzs_eq_2 : type_of% @Fx.frzs.eq_2 := @Fx.frzs.eq_2
@[simp] theorem sx_eV_eq_1 : type_of% @Fx.eV.eq_1 := @Fx.eV.eq_1
@[simp] theorem sx_eC_eq_1 : type_of% @Fx.eC.eq_1 := @Fx.eC.eq_1
@[simp] theorem sx_eOp_eq_1 : type_of% @Fx.eOp.eq_1 := @Fx.eOp.eq_1
@[simp] theorem sx_eUn_eq_1 : type_of% @Fx.eUn.eq_1 := @Fx.eUn.eq_1
@[simp] theorem sx_eAnd_eq_1 : type_of% @Fx.eAnd.eq_1 := @Fx.eAnd.eq_1
@[simp] theorem sx_eOr_eq_1 : type_of% @Fx.eOr.eq_1 := @Fx.eOr.eq_1
@[simp] theorem sx_eNot_eq_1 : type_of% @Fx.eNot.eq_1 := @Fx.eNot.eq_1
@[simp] theorem sx_eIf_eq_1 : type_of% @Fx.eIf.eq_1 := @Fx.eIf.eq_1
@[simp] theorem sx_eChain_eq_1 : type_of% @Fx.eChain.eq_1 := @Fx.eChain.eq_1
@[simp] theorem sx_eCall_eq_1 : type_of% @Fx.eCall.eq_1 := @Fx.eCall.eq_1
@[simp] theorem sx_eTup_eq_1 : type_of% @Fx.eTup.eq_1 := @Fx.eTup.eq_1
@[simp] theorem sx_ofO_eq_1 : type_of% @Fx.ofO.eq_1 := @Fx.ofO.eq_1
@[simp] theorem sx_oLst_eq_1 : type_of% @Fx.oLst.eq_1 := @Fx.oLst.eq_1
@[simp] theorem sx_oDnew_eq_1 : type_of% @Fx.oDnew.eq_1 := @Fx.oDnew.eq_1
@[simp] theorem sx_aCons_eq_1 : type_of% @Fx.aCons.eq_1 := @Fx.aCons.eq_1
@[simp] theorem sx_aNil_eq_1 : type_of% @Fx.aNil.eq_1 := @Fx.aNil.eq_1
@[simp] theorem sx_prep_eq_1 : type_of% @Fx.prep.eq_1 := @Fx.prep.eq_1
@[simp] theorem sx_prep_eq_2 : type_of% @Fx.prep.eq_2 := @Fx.prep.eq_2
@[simp] theorem sx_prep_eq_3 : type_of% @Fx.prep.eq_3 := @Fx.prep.eq_3
@[simp] theorem sx_prep_eq_4 : type_of% @Fx.prep.eq_4 := @Fx.prep.eq_4
@[simp] theorem sx_iosOf_eq_1 : type_of% @Fx.iosOf.eq_1 := @Fx.iosOf.eq_1
@[simp] theorem sx_iosOf_eq_2 : type_of% @Fx.iosOf.eq_2 := @Fx.iosOf.eq_2
@[simp] theorem sx_iosOf_eq_3 : type_of% @Fx.iosOf.eq_3 := @Fx.iosOf.eq_3
@[simp] theorem sx_puts_eq_1 : type_of% @Fx.puts.eq_1 := @Fx.puts.eq_1
@[simp] theorem sx_puts_eq_2 : type_of% @Fx.puts.eq_2 := @Fx.puts.eq_2
@[simp] theorem sx_puts_eq_3 : type_of% @Fx.puts.eq_3 := @Fx.puts.eq_3
@[simp] theorem sx_put_eq_1 : type_of% @Fx.put.eq_1 := @Fx.put.eq_1
@[simp] theorem sx_owns_eq_1 : type_of% @Fx.owns.eq_1 := @Fx.owns.eq_1
@[simp] theorem sx_rd_eq_1 : type_of% @Fx.rd.eq_1 := @Fx.rd.eq_1
@[simp] theorem sx_rd_eq_2 : type_of% @Fx.rd.eq_2 := @Fx.rd.eq_2
@[simp] theorem sx_cB_eq_1 : type_of% @Fx.cB.eq_1 := @Fx.cB.eq_1
@[simp] theorem sx_cAnd_eq_1 : type_of% @Fx.cAnd.eq_1 := @Fx.cAnd.eq_1
@[simp] theorem sx_cOr_eq_1 : type_of% @Fx.cOr.eq_1 := @Fx.cOr.eq_1
@[simp] theorem sx_cNot_eq_1 : type_of% @Fx.cNot.eq_1 := @Fx.cNot.eq_1
@[simp] theorem sx_oLe_eq_1 : type_of% @Fx.oLe.eq_1 := @Fx.oLe.eq_1
@[simp] theorem sx_oLt_eq_1 : type_of% @Fx.oLt.eq_1 := @Fx.oLt.eq_1
@[simp] theorem sx_oGt_eq_1 : type_of% @Fx.oGt.eq_1 := @Fx.oGt.eq_1
@[simp] theorem sx_oGe_eq_1 : type_of% @Fx.oGe.eq_1 := @Fx.oGe.eq_1
@[simp] theorem sx_cmpI_eq_1 : type_of% @Fx.cmpI.eq_1 := @Fx.cmpI.eq_1
@[simp] theorem sx_cmpI_eq_2 : type_of% @Fx.cmpI.eq_2 := @Fx.cmpI.eq_2
@[simp] theorem sx_oSub_eq_1 : type_of% @Fx.oSub.eq_1 := @Fx.oSub.eq_1
@[simp] theorem sx_iOp_eq_1 : type_of% @Fx.iOp.eq_1 := @Fx.iOp.eq_1
@[simp] theorem sx_iOp_eq_2 : type_of% @Fx.iOp.eq_2 := @Fx.iOp.eq_2
@[simp] theorem sx_oAdd_eq_1 : type_of% @Fx.oAdd.eq_1 := @Fx.oAdd.eq_1
@[simp] theorem sx_oAdd_eq_2 : type_of% @Fx.oAdd.eq_2 := @Fx.oAdd.eq_2
@[simp] theorem sx_oAdd_eq_3 : type_of% @Fx.oAdd.eq_3 := @Fx.oAdd.eq_3
@[simp] theorem sx_oAdd_eq_4 : type_of% @Fx.oAdd.eq_4 := @Fx.oAdd.eq_4
@[simp] theorem sx_oNeg_eq_1 : type_of% @Fx.oNeg.eq_1 := @Fx.oNeg.eq_1
@[simp] theorem sx_oNeg_eq_2 : type_of% @Fx.oNeg.eq_2 := @Fx.oNeg.eq_2
@[simp] theorem sx_oLen_eq_1 : type_of% @Fx.oLen.eq_1 := @Fx.oLen.eq_1
@[simp] theorem sx_oLen_eq_2 : type_of% @Fx.oLen.eq_2 := @Fx.oLen.eq_2
@[simp] theorem sx_oLen_eq_3 : type_of% @Fx.oLen.eq_3 := @Fx.oLen.eq_3
@[simp] theorem sx_oLen_eq_4 : type_of% @Fx.oLen.eq_4 := @Fx.oLen.eq_4
@[simp] theorem sx_oAbs_eq_1 : type_of% @Fx.oAbs.eq_1 := @Fx.oAbs.eq_1
@[simp] theorem sx_oAbs_eq_2 : type_of% @Fx.oAbs.eq_2 := @Fx.oAbs.eq_2
@[simp] theorem sx_oInt_eq_1 : type_of% @Fx.oInt.eq_1 := @Fx.oInt.eq_1
@[simp] theorem sx_oInt_eq_2 : type_of% @Fx.oInt.eq_2 := @Fx.oInt.eq_2
@[simp] theorem sx_oInt_eq_3 : type_of% @Fx.oInt.eq_3 := @Fx.oInt.eq_3
@[simp] theorem sx_oMax2_eq_1 : type_of% @Fx.oMax2.eq_1 := @Fx.oMax2.eq_1
@[simp] theorem sx_oMax2_eq_2 : type_of% @Fx.oMax2.eq_2 := @Fx.oMax2.eq_2
@[simp] theorem sx_oMin2_eq_1 : type_of% @Fx.oMin2.eq_1 := @Fx.oMin2.eq_1
@[simp] theorem sx_oMin2_eq_2 : type_of% @Fx.oMin2.eq_2 := @Fx.oMin2.eq_2
@[simp] theorem sx_oIsi_eq_1 : type_of% @Fx.oIsi.eq_1 := @Fx.oIsi.eq_1
@[simp] theorem sx_tyN_eq_1 : type_of% @Fx.tyN.eq_1 := @Fx.tyN.eq_1
@[simp] theorem sx_tyN_eq_2 : type_of% @Fx.tyN.eq_2 := @Fx.tyN.eq_2
@[simp] theorem sx_tyN_eq_3 : type_of% @Fx.tyN.eq_3 := @Fx.tyN.eq_3
@[simp] theorem sx_tyN_eq_4 : type_of% @Fx.tyN.eq_4 := @Fx.tyN.eq_4
@[simp] theorem sx_tyN_eq_5 : type_of% @Fx.tyN.eq_5 := @Fx.tyN.eq_5
@[simp] theorem sx_tyN_eq_6 : type_of% @Fx.tyN.eq_6 := @Fx.tyN.eq_6
@[simp] theorem sx_tyN_eq_7 : type_of% @Fx.tyN.eq_7 := @Fx.tyN.eq_7
@[simp] theorem sx_cInt_eq_1 : type_of% @Fx.cInt.eq_1 := @Fx.cInt.eq_1
@[simp] theorem sx_cOne_eq_1 : type_of% @Fx.cOne.eq_1 := @Fx.cOne.eq_1
@[simp] theorem sx_oIsN_eq_1 : type_of% @Fx.oIsN.eq_1 := @Fx.oIsN.eq_1
@[simp] theorem sx_oIsN_eq_2 : type_of% @Fx.oIsN.eq_2 := @Fx.oIsN.eq_2
@[simp] theorem sx_oNotN_eq_1 : type_of% @Fx.oNotN.eq_1 := @Fx.oNotN.eq_1
@[simp] theorem sx_oNotN_eq_2 : type_of% @Fx.oNotN.eq_2 := @Fx.oNotN.eq_2
@[simp] theorem sx_isN_eq_1 : type_of% @Fx.isN.eq_1 := @Fx.isN.eq_1
@[simp] theorem sx_isN_eq_2 : type_of% @Fx.isN.eq_2 := @Fx.isN.eq_2
@[simp] theorem sx_nName_eq_1 : type_of% @Fx.nName.eq_1 := @Fx.nName.eq_1
@[simp] theorem sx_nTup_eq_1 : type_of% @Fx.nTup.eq_1 := @Fx.nTup.eq_1
@[simp] theorem sx_nTup_eq_2 : type_of% @Fx.nTup.eq_2 := @Fx.nTup.eq_2
@[simp] theorem sx_nCons_eq_1 : type_of% @Fx.nCons.eq_1 := @Fx.nCons.eq_1
@[simp] theorem sx_nCons_eq_2 : type_of% @Fx.nCons.eq_2 := @Fx.nCons.eq_2
@[simp] theorem sx_nNil_eq_1 : type_of% @Fx.nNil.eq_1 := @Fx.nNil.eq_1
@[simp] theorem sx_nNil_eq_2 : type_of% @Fx.nNil.eq_2 := @Fx.nNil.eq_2
@[simp] theorem sx_sPar_eq_1 : type_of% @Fx.sPar.eq_1 := @Fx.sPar.eq_1
@[simp] theorem sx_sPar3_eq_1 : type_of% @Fx.sPar3.eq_1 := @Fx.sPar3.eq_1
@[simp] theorem sx_setSl_eq_1 : type_of% @Fx.setSl.eq_1 := @Fx.setSl.eq_1
@[simp] theorem sx_mNil_eq_1 : type_of% @Fx.mNil.eq_1 := @Fx.mNil.eq_1
@[simp] theorem sx_mConsF_eq_1 : type_of% @Fx.mConsF.eq_1 := @Fx.mConsF.eq_1
@[simp] theorem sx_mConsO_eq_1 : type_of% @Fx.mConsO.eq_1 := @Fx.mConsO.eq_1
@[simp] theorem sx_oTuple_eq_1 : type_of% @Fx.oTuple.eq_1 := @Fx.oTuple.eq_1
@[simp] theorem sx_oTuple_eq_2 : type_of% @Fx.oTuple.eq_2 := @Fx.oTuple.eq_2
@[simp] theorem sx_oTuple_eq_3 : type_of% @Fx.oTuple.eq_3 := @Fx.oTuple.eq_3
@[simp] theorem sx_oAll_eq_1 : type_of% @Fx.oAll.eq_1 := @Fx.oAll.eq_1
@[simp] theorem sx_oAll_eq_2 : type_of% @Fx.oAll.eq_2 := @Fx.oAll.eq_2
@[simp] theorem sx_oAny_eq_1 : type_of% @Fx.oAny.eq_1 := @Fx.oAny.eq_1
@[simp] theorem sx_oAny_eq_2 : type_of% @Fx.oAny.eq_2 := @Fx.oAny.eq_2
@[simp] theorem sx_boolsD_eq_1 : type_of% @Fx.boolsD.eq_1 := @Fx.boolsD.eq_1
@[simp] theorem sx_boolsD_eq_2 : type_of% @Fx.boolsD.eq_2 := @Fx.boolsD.eq_2
@[simp] theorem sx_boolsD_eq_3 : type_of% @Fx.boolsD.eq_3 := @Fx.boolsD.eq_3
@[simp] theorem sx_oSum_eq_1 : type_of% @Fx.oSum.eq_1 := @Fx.oSum.eq_1
@[simp] theorem sx_oSum_eq_2 : type_of% @Fx.oSum.eq_2 := @Fx.oSum.eq_2
@[simp] theorem sx_intsD_eq_1 : type_of% @Fx.intsD.eq_1 := @Fx.intsD.eq_1
@[simp] theorem sx_intsD_eq_2 : type_of% @Fx.intsD.eq_2 := @Fx.intsD.eq_2
@[simp] theorem sx_intsD_eq_3 : type_of% @Fx.intsD.eq_3 := @Fx.intsD.eq_3
end Fx
namespace Fx
open PySem
theorem shaped_int (i : Int) : SeqAt.shaped (.int i) = true := rfl
@[simp] theorem oEq_int (a b : Int) : oEq (.int a) (.int b) = some (.bool (a == b)) := rfl
@[simp] theorem oNe_int (a b : Int) : oNe (.int a) (.int b) = some (.bool (!(a == b))) := rfl
/-- a statement that goes on -/
theorem wp_nx {f g : ES} {en en' : En} {Q : Out → En → Prop} (h : f en = .ok .nx en') (k : Wp (g en') Q) : Wp (sSeq f g en) Q := by
  unfold sSeq
  rw [h]
  exact k
/-- a statement that may go on -/
theorem wp_seq {f g : ES} {en : En} {Q : Out → En → Prop} (h : Wp (f en) fun o en => match o with
    | .nx => Wp (g en) Q
    | .bk => Q .bk en
    | .ct => Q .ct en
    | .rt d => Q (.rt d) en
    | .ro d => Q (.ro d) en) : Wp (sSeq f g en) Q := by
  unfold sSeq
  rw [wp_bind]
  refine h.imp fun o en q => ?_
  cases o with
  | nx => exact q
  | _ => exact wp_eq rfl q
theorem wp_last {f : ES} {en en' : En} {o : Out} {Q : Out → En → Prop} (h : f en = .ok o en') (k : Q o en') : Wp (f en) Q := wp_eq h k
/-- a test that is known -/
theorem wp_if {c : ET} {f g : ES} {en en' : En} {b : Bool} {Q : Out → En → Prop} (h : c en = .ok b en') (k : Wp (if b = true then f en' else g en') Q) : Wp (sIf c f g en) Q := by
  unfold sIf
  rw [h]
  exact k
theorem wp_ifF {c : ET} {f g : ES} {en en' : En} {Q : Out → En → Prop} (h : c en = .ok false en') (k : Wp (g en') Q) : Wp (sIf c f g en) Q := by
  unfold sIf
  rw [h]
  exact k
theorem wp_ifT {c : ET} {f g : ES} {en en' : En} {Q : Out → En → Prop} (h : c en = .ok true en') (k : Wp (f en') Q) : Wp (sIf c f g en) Q := by
  unfold sIf
  rw [h]
  exact k
/-- a def by its body -/
theorem fn_eq {io : List Bool} {n : Nat} {b : ES} {ds outs : List D} {d : D} {en : En} (h : b (enOf io ds 0 ++ List.replicate (n - io.length) .un) = .ok (.rt d) en) (o : outsOf io 0 en = some outs) : noer (fnOf io n b) ds = .ok d outs := by
  unfold noer fnOf
  rw [h]
  simp only [o]
theorem fn_wp {io : List Bool} {n : Nat} {b : ES} {ds outs : List D} {d : D} (h : Wp (b (enOf io ds 0 ++ List.replicate (n - io.length) .un)) fun o en => o = .rt d ∧ outsOf io 0 en = some outs) : noer (fnOf io n b) ds = .ok d outs := by
  obtain ⟨o, en, e, rfl, q⟩ := wp_val h
  exact fn_eq e q
/-! slots that hold nothing or data -/
def notio : Sl → Bool
  | .io _ _ => false
  | _ => true
def sl : Option D → Sl
  | none => .un
  | some d => .fz d
@[simp] theorem notio_un : notio .un = true := rfl
@[simp] theorem notio_fz (d : D) : notio (.fz d) = true := rfl
@[simp] theorem notio_ow (d : D) : notio (.ow d) = true := rfl
@[simp] theorem notio_sl (o : Option D) : notio (sl o) = true := by cases o <;> rfl
@[simp] theorem may_zero (s : Sl) (en : En) : may (s :: en) 0 = notio s := by cases s <;> rfl
@[simp] theorem may_succ (s : Sl) (en : En) (i : Nat) : may (s :: en) (i + 1) = may en i := rfl
theorem sl_some (d : D) : sl (some d) = .fz d := rfl
theorem sl_none : sl none = .un := rfl
@[simp] theorem may_one (s t : Sl) (en : En) : may (s :: t :: en) 1 = notio t := may_zero t en
/-- a list by a comprehension without tests -/
theorem compL_map {g : EG} {e : EE} {vs : List Nat} {en0 : En} (f : D → D) {ds : List D} (len : ds.length ≤ 65536) (h : ∀ d ∈ ds, ∃ en1, g d en0 = some en1 ∧ ∃ en3, dat e en1 = .ok (f d) en3 ∧ wipeE vs en3 = en0) :
    compL g cYes e vs ds [] en0 = .ok (ds.map f) en0 := by
  have := wp_compL (g := g) (c := cYes) (e := e) (vs := vs) en0 (fun _ => true) f ds [] (by simpa using len) fun d hd => by
    obtain ⟨en1, h1, en3, h2, h3⟩ := h d hd
    exact ⟨en1, h1, en1, rfl, fun _ => ⟨en3, h2, h3⟩, fun z => nomatch z⟩
  rw [this, List.filter_eq_self.mpr (fun _ _ => rfl), List.nil_append]
theorem oLc_map {i : EI} {g : EG} {e : EE} {vs : List Nat} {en en1 en0 : En} (f : D → D) {ds : List D} (hi : i en = .ok ds en1) (hw : wipeE vs en1 = en0) (hw2 : wipeE vs en0 = en0) (len : ds.length ≤ 65536) (h : ∀ d ∈ ds, ∃ en1, g d en0 = some en1 ∧ ∃ en3, dat e en1 = .ok (f d) en3 ∧ wipeE vs en3 = en0) :
    oLc i g cYes e vs en = .ok (.list (ds.map f)) en0 := by
  unfold oLc
  rw [hi]
  show ((compL g cYes e vs ds [] (wipeE vs en1)).nox.bind fun r en => Rs.ok (PyData.list r) (wipeE vs en)) = _
  rw [hw, compL_map f len h]
  show Rs.ok _ (wipeE vs en0) = _
  rw [hw2]
theorem sRet_wp {f : EE} {en en' : En} {d : D} {Q : Out → En → Prop} (h : dat f en = .ok d en') : Wp (sRet f en) Q = Q (.rt d) en' := by
  unfold sRet
  rw [h]
  exact wp_ok
/-- a loop, by the turns -/
theorem wp_forN {i : EI} {g : EG} {b : ES} {en : En} {Q : Out → En → Prop} (ds : List D) (en0 : En) (hi : i en = .ok ds en0) (I : Nat → En → Prop) (h0 : I 0 en0)
    (step : ∀ i d en, ds[i]? = some d → I i en → ∃ en', g d en = some en' ∧ Wp (b en') fun o en => match o with
      | .nx => I (i + 1) en
      | .ct => I (i + 1) en
      | .bk => Q .nx en
      | .rt d => Q (.rt d) en
      | .ro d => Q (.ro d) en) (fin : ∀ en, I ds.length en → Q .nx en) : Wp (sFor i g b en) Q := by
  refine wp_for ds en0 hi (fun pre en => I pre.length en) h0 (fun pre d post en e h => ?_) fin
  have hd : ds[pre.length]? = some d := by rw [e, List.getElem?_append_right (Nat.le_refl _), Nat.sub_self]; rfl
  obtain ⟨en', h1, h2⟩ := step pre.length d en hd h
  refine ⟨en', h1, h2.imp fun o en q => ?_⟩
  cases o <;> first | exact q | (rw [List.length_append]; exact q)
@[simp] theorem ex_fz (d : D) : (∃ o, Sl.fz d = sl o) = True := eq_true ⟨some d, rfl⟩
@[simp] theorem ex_un : (∃ o, Sl.un = sl o) = True := eq_true ⟨none, rfl⟩
@[simp] theorem ex_sl (o : Option D) : (∃ o', sl o = sl o') = True := eq_true ⟨o, rfl⟩
@[simp] theorem wipeE_nil (en : En) : wipeE [] en = en := rfl
@[simp] theorem sx_wipeE_cons : type_of% @Fx.wipeE_cons := @Fx.wipeE_cons
/-- name = a new thing -/
theorem setO_eq {i : Nat} {f : EO} {en en1 en2 : En} {d : D} (h : f en = .ok d en1) (m : may en1 i = true) (e : en1.set i (.ow d) = en2) : sSetO i f en = .ok .nx en2 := by
  unfold sSetO
  rw [h]
  subst e
  exact if_pos m
theorem asg_eq {g : EG} {f : EE} {en en1 en2 : En} {d : D} (h : dat f en = .ok d en1) (e : g d en1 = some en2) : sAsg f g en = .ok .nx en2 := by
  unfold sAsg
  rw [h]
  simp only [Rs.bind, e]
theorem fn_wpE {io : List Bool} {n : Nat} {b : ES} {ds outs : List D} {P : D → Prop} (h : Wp (b (enOf io ds 0 ++ List.replicate (n - io.length) .un)) fun o en => ∃ d, o = .rt d ∧ P d ∧ outsOf io 0 en = some outs) : ∃ d, noer (fnOf io n b) ds = .ok d outs ∧ P d := by
  obtain ⟨o, en, e, d, rfl, p, q⟩ := wp_val h
  exact ⟨d, fn_eq e q, p⟩
/-- a def that ends without a return -/
theorem fn_nx {io : List Bool} {n : Nat} {b : ES} {ds outs : List D} (h : Wp (b (enOf io ds 0 ++ List.replicate (n - io.length) .un)) fun o en => o = .nx ∧ outsOf io 0 en = some outs) : noer (fnOf io n b) ds = .ok .none outs := by
  obtain ⟨o, en, e, rfl, q⟩ := wp_val h
  unfold noer fnOf
  rw [e]
  simp only [q]
/-- the same, the names at the entry told apart -/
theorem fn_nxA {io : List Bool} {n : Nat} {b : ES} {ds outs : List D} (en0 : En) (he : enOf io ds 0 ++ List.replicate (n - io.length) .un = en0) (h : Wp (b en0) fun o en => o = .nx ∧ outsOf io 0 en = some outs) : noer (fnOf io n b) ds = .ok .none outs := by
  subst he
  exact fn_nx h
theorem fn_wpA {io : List Bool} {n : Nat} {b : ES} {ds outs : List D} {d : D} (en0 : En) (he : enOf io ds 0 ++ List.replicate (n - io.length) .un = en0) (h : Wp (b en0) fun o en => o = .rt d ∧ outsOf io 0 en = some outs) : noer (fnOf io n b) ds = .ok d outs := by
  subst he
  exact fn_wp h
theorem fn_wpEA {io : List Bool} {n : Nat} {b : ES} {ds outs : List D} {P : D → Prop} (en0 : En) (he : enOf io ds 0 ++ List.replicate (n - io.length) .un = en0) (h : Wp (b en0) fun o en => ∃ d, o = .rt d ∧ P d ∧ outsOf io 0 en = some outs) : ∃ d, noer (fnOf io n b) ds = .ok d outs ∧ P d := by
  subst he
  exact fn_wpE h
end Fx

set_option Elab.async false
set_option linter.all false
set_option maxRecDepth 100000
/-! further constructs -/
namespace Fx
open PySem PySem.Spec PySem.W PyProof.Rows L2
section
variable {X : Cx} {E : XE}
theorem se_in {i o : Expr} {tk td : TE} {fk fd : EE} {pos : Pos} (room : X.A.units + 64 < cLine) (hk : SE X E i tk fk) (hd : SE X E o td fd) (hm : behindInMarks .In o = false := by rfl) : SE X E (.Compare i [.In] [o] pos) (tIn X.K tk td) (eIn false fk fd) :=
  ⟨pe_cmp (pc_inA (by omega) hk.pe hd.pe) hm, sound_in hk.snd hd.snd⟩
theorem se_notin {i o : Expr} {tk td : TE} {fk fd : EE} {pos : Pos} (room : X.A.units + 64 < cLine) (hk : SE X E i tk fk) (hd : SE X E o td fd) (hm : behindInMarks .NotIn o = false := by rfl) : SE X E (.Compare i [.NotIn] [o] pos) (tNotIn X.K tk td) (eIn true fk fd) :=
  ⟨pe_cmp (pc_notinA (by omega) hk.pe hd.pe) hm, sound_notin hk.snd hd.snd⟩
theorem st_in {i o : Expr} {tk td : TE} {fk fd : EE} {pos : Pos} (room : X.A.units + 64 < cLine) (hk : SE X E i tk fk) (hd : SE X E o td fd) (hm : behindInMarks .In o = false := by rfl) : ST X E (.Compare i [.In] [o] pos) (tB (tIn X.K tk td)) (cB (eIn false fk fd)) :=
  ⟨pt_cmp (pc_inA (by omega) hk.pe hd.pe) hm, sound_B (sound_in hk.snd hd.snd)⟩
theorem st_notin {i o : Expr} {tk td : TE} {fk fd : EE} {pos : Pos} (room : X.A.units + 64 < cLine) (hk : SE X E i tk fk) (hd : SE X E o td fd) (hm : behindInMarks .NotIn o = false := by rfl) : ST X E (.Compare i [.NotIn] [o] pos) (tB (tNotIn X.K tk td)) (cB (eIn true fk fd)) :=
  ⟨pt_cmp (pc_notinA (by omega) hk.pe hd.pe) hm, sound_B (sound_notin hk.snd hd.snd)⟩
end
/-! x in a list of data -/
def oInL (neg : Bool) (x y : D) : Option D := match y with
  | .list ds => if SeqAt.shaped x = true ∧ SeqAt.shaped (.list ds) = true then some (.bool (neg ^^ ds.any fun z => PyData.eqv z x)) else none
  | _ => none
section
variable {K : PySem.W.Frag} {mg : Str → Option Value}
theorem sound_inL : SoundOp K (rInD K) (oInL false) := by
  intro F A G en σ H R x y v u z rx ry e Q k
  unfold oInL at e
  split at e
  · rename_i ds
    split at e
    · rename_i h
      cases e
      refine ⟨x, ds, Rc.dp R.gx (nodict h.1) rx, Rc.dp R.gx (nodict h.2) ry, h.1, h.2, k _ G H (.refl _ _) R ?_⟩
      rw [Bool.false_xor]; rfl
    · cases e
  · cases e
theorem sound_notInL : SoundOp K (rNotInD K) (oInL true) := by
  intro F A G en σ H R x y v u z rx ry e Q k
  unfold oInL at e
  split at e
  · rename_i ds
    split at e
    · rename_i h
      cases e
      refine ⟨x, ds, Rc.dp R.gx (nodict h.1) rx, Rc.dp R.gx (nodict h.2) ry, h.1, h.2, k _ G H (.refl _ _) R ?_⟩
      rw [Bool.true_xor]; rfl
    · cases e
  · cases e
/-! sorted(xs), whole numbers -/
def leI (a b : Int) : Bool := decide (a ≤ b)
def oSortI (f : EE) : EO := fun en => (f en).bind fun x en => match rd x en with
  | some (.list ds) => match intsD ds with
    | some ns => .ok (.list ((ns.mergeSort leI).map .int)) en
    | none => .st
  | _ => .st
theorem intsD_eq : ∀ {ds : List D} {ns : List Int}, intsD ds = some ns → ds = ns.map .int
  | [], ns, h => by cases h; rfl
  | .int i :: ds, ns, h => by
    unfold intsD at h
    obtain ⟨ms, h1, rfl⟩ := Option.map_eq_some_iff.mp h
    rw [intsD_eq h1]; rfl
  | .none :: _, _, h => by cases h
  | .bool _ :: _, _, h => by cases h
  | .str _ :: _, _, h => by cases h
  | .list _ :: _, _, h => by cases h
  | .tuple _ :: _, _, h => by cases h
  | .dict _ :: _, _, h => by cases h
theorem rvsI {G : Hp} : ∀ {ns : List Int} {vs : List V}, Rvs K G (ns.map PyData.int) vs → vs = ns.map V.int
  | [], vs, h => h
  | n :: ns, vs, ⟨v, r, e, h1, h2⟩ => by
    rw [e, rvsI h2, show v = V.int n from h1]; rfl
theorem irvs {G : Hp} : ∀ (ns : List Int), Rvs K G (ns.map PyData.int) (ns.map V.int)
  | [] => rfl
  | n :: ns => ⟨V.int n, _, rfl, rfl, irvs ns⟩
theorem sort_eq {ns ms : List Int} (p : ms.Perm ns) (o : ms.Pairwise (· ≤ ·)) : ms = ns.mergeSort leI := by
  have q := List.mergeSort_perm ns leI
  have s : (ns.mergeSort leI).Pairwise (· ≤ ·) := by
    have := List.pairwise_mergeSort (le := leI) (fun a b c h1 h2 => by unfold leI at *; simp only [decide_eq_true_eq] at *; omega) (fun a b => by unfold leI; simp only [Bool.or_eq_true, decide_eq_true_eq]; omega) ns
    exact this.imp fun h => by unfold leI at h; exact of_decide_eq_true h
  exact List.Perm.eq_of_pairwise (fun a b _ _ h1 h2 => Int.le_antisymm h1 h2) o s (p.trans q.symm)
theorem sound_sortI {E : XE} {t : TE} {f : EE} (h : SoundE K mg E t f) : SoundO K mg E (tCB (rSortedI K) (tCons t tNil)) (oSortI f) := by
  intro F A G en σ H R Q k
  refine h F A G en σ H R _ (Then.imp (Then.bind k) (fun x en1 k1 v G1 H1 g1 R1 r1 => ?_) fun _ _ z => z)
  show rSortedI K [v] H1 Q
  split at k1
  · rename_i ds e1
    split at k1
    · rename_i ns e2
      obtain ⟨a, vs, rfl, h1, h2⟩ := (show Rc K G1 H1 (.list ds) v from rd_rc R1 r1 e1)
      rw [intsD_eq e2] at h2
      have hv := rvsI h2
      subst hv
      refine ⟨a, ns, rfl, h1, fun ms p pm po hp => ?_⟩
      rw [sort_eq pm po]
      refine k1 p G1 _ g1 (R1.fresh hp) ⟨_, upd_same, irvs _⟩ ?_
      have n := R1.free_new hp
      exact ⟨n.f, n.g, n.n, n.s⟩
    · exact k1.elim
  · exact k1.elim
/-! tuple(range(n)), list(range(n)) -/
def eTupR (f : EE) : EE := fun en => (dat f en).bind fun d en => match d with
  | .int n => if 0 ≤ n ∧ n ≤ 65536 then .ok (.fz (.tuple (rng 0 n))) en else .st
  | _ => .st
def oLstR (f : EE) : EO := fun en => (dat f en).bind fun d en => match d with
  | .int n => if 0 ≤ n ∧ n ≤ 65536 then .ok (.list (rng 0 n)) en else .st
  | _ => .st
theorem rng_rvs {G : Hp} (n : Int) : Rvs K G (rng 0 n) (rgV 0 n) := by
  have e1 : rng 0 n = ((List.range (n - 0).toNat).map fun (i : Nat) => (0 + (i : Int))).map PyData.int := by unfold rng; rw [List.map_map]; rfl
  have e2 : rgV 0 n = ((List.range (n - 0).toNat).map fun (i : Nat) => (0 + (i : Int))).map V.int := by unfold rgV; rw [List.map_map]; rfl
  rw [e1, e2]
  exact irvs _
theorem sound_tupR {E : XE} {t : TE} {f : EE} (h : SoundE K mg E t f) : SoundE K mg E (tTupRg (tRg1 t)) (eTupR f) := by
  intro F A G en σ H R Q k
  refine h.dat R (Then.imp (Then.bind k) (fun d en1 k1 v G1 H1 g1 R1 r1 => ?_) fun _ _ z => z)
  split at k1
  · rename_i n
    split at k1
    · rename_i hc
      cases (show v = V.int n from r1)
      refine ⟨n, rfl, RgOk.of_le (by omega) (by omega) (by omega) hc.1, fun p hp => ?_⟩
      obtain ⟨g2, R2⟩ := R1.new (u := .tup (rgV 0 n)) hp (fun _ _ z => nomatch z)
      exact k1 _ _ _ (g1.trans g2) R2 ⟨p, _, rfl, .inl upd_same, rng_rvs n⟩
    · exact k1.elim
  · exact k1.elim
theorem sound_lstR {E : XE} {t : TE} {f : EE} (h : SoundE K mg E t f) : SoundO K mg E (tLstRg (tRg1 t)) (oLstR f) := by
  intro F A G en σ H R Q k
  refine h.dat R (Then.imp (Then.bind k) (fun d en1 k1 v G1 H1 g1 R1 r1 => ?_) fun _ _ z => z)
  split at k1
  · rename_i n
    split at k1
    · rename_i hc
      cases (show v = V.int n from r1)
      refine ⟨n, rfl, RgOk.of_le (by omega) (by omega) (by omega) hc.1, fun p hp => ?_⟩
      refine k1 p G1 _ g1 (R1.fresh hp) ⟨_, upd_same, rng_rvs n⟩ ?_
      have n := R1.free_new hp
      exact ⟨n.f, n.g, n.n, n.s⟩
    · exact k1.elim
  · exact k1.elim
end
section
variable {X : Cx} {E : XE}
theorem so_sortI {x : Str} {e : Expr} {t : TE} {f : EE} {p pos : Pos} (hm : X.mg x = none) (hv : bootBuiltins x = some (.builtin "sorted")) (h : SE X E e t f)
    (hg : Gl X x := by rfl) (hn : x ≠ "__name__" := by decide) (hd : (x == ("__debug__" : Str)) = false := by decide) (he : starEach [e] X.env = (false, eval e X.env) :: starEach [] X.env := by rfl) (hpl : (backTo pos (starEach [] X.env)).any (·.1) = false := by rfl) :
    SO X E (.Call (.Name x p) [e] [] pos) (tCB (rSortedI X.K) (tCons t tNil)) (oSortI f) := ⟨pe_callB cr_sortedI hg hm hv (pa_cons h.pe pa_nil he) hn hd he hpl, sound_sortI h.snd⟩
theorem se_tupR {a : Expr} {t : TE} {f : EE} {p p2 pos pos2 : Pos} (calm : X.calm = true) (hm : X.mg "tuple" = none) (hm2 : X.mg "range" = none) (h : SE X E a t f) (hg : Gl X "tuple" := by rfl) (hg2 : Gl X "range" := by rfl)
    (na : starEach [a] X.env = (false, eval a X.env) :: starEach [] X.env := by rfl) (na2 : starEach [.Call (.Name "range" p2) [a] [] pos2] X.env = (false, eval (.Call (.Name "range" p2) [a] [] pos2) X.env) :: starEach [] X.env := by rfl) :
    SE X E (.Call (.Name "tuple" p) [.Call (.Name "range" p2) [a] [] pos2] [] pos) (tTupRg (tRg1 t)) (eTupR f) := ⟨pe_tupRg calm hg hm (prg_1 hg2 hm2 h.pe na) na2, sound_tupR h.snd⟩
theorem so_lstR {a : Expr} {t : TE} {f : EE} {p p2 pos pos2 : Pos} (calm : X.calm = true) (hm : X.mg "list" = none) (hm2 : X.mg "range" = none) (h : SE X E a t f) (hg : Gl X "list" := by rfl) (hg2 : Gl X "range" := by rfl)
    (na : starEach [a] X.env = (false, eval a X.env) :: starEach [] X.env := by rfl) (na2 : starEach [.Call (.Name "range" p2) [a] [] pos2] X.env = (false, eval (.Call (.Name "range" p2) [a] [] pos2) X.env) :: starEach [] X.env := by rfl) :
    SO X E (.Call (.Name "list" p) [.Call (.Name "range" p2) [a] [] pos2] [] pos) (tLstRg (tRg1 t)) (oLstR f) := ⟨pe_listRg calm hg hm (prg_1 hg2 hm2 h.pe na) na2, sound_lstR h.snd⟩
end
end Fx

set_option Elab.async false
set_option linter.all false
set_option maxRecDepth 100000
/-! dicts written out; == of dicts; t[::-1] -/
namespace Fx
open PySem PySem.Spec PySem.W PyProof.Rows L2
section
variable {K : PySem.W.Frag} {mg : Str → Option Value}
def RvP (K : PySem.W.Frag) (G : Hp) : List (D × D) → List (V × V) → Prop
  | [], vs => vs = []
  | (k, d) :: r, vs => ∃ y v s, vs = (y, v) :: s ∧ Rv K G k y ∧ Rv K G d v ∧ RvP K G r s
abbrev EPs := En → Rs (List (D × D))
def KoPs (K : PySem.W.Frag) (F : Hp) (A : List Addr) (G : Hp) (σ : L2.St) (Q : List (V × V) → Hp → Prop) (ps : List (D × D)) (en' : En) : Prop :=
  ∀ vs G' H', Grow F G G' → Rp K F A G' en' σ H' → RvP K G' ps vs → Q vs H'
def SoundPs (K : PySem.W.Frag) (mg : Str → Option Value) (E : XE) (trs : List (TE × TE)) (f : EPs) : Prop := ∀ F A G en σ H, Rp K F A G en σ H → ∀ Q : List (V × V) → Hp → Prop,
  Then (f en) (KoPs K F A G σ Q) (KeE K mg E F A G σ) → tPairs trs σ H Q
def qNil : EPs := fun en => .ok [] en
def qCons (fk fv : EE) (r : EPs) : EPs := fun en => (dat fk en).bind fun k en => (dat fv en).bind fun v en => (r en).bind fun ps en => .ok ((k, v) :: ps) en
theorem sound_qnil {E : XE} : SoundPs K mg E [] qNil := fun F A G en σ H R Q k => k [] G H (.refl _ _) R rfl
theorem sound_qcons {E : XE} {tk tv : TE} {trs : List (TE × TE)} {fk fv : EE} {r : EPs} (hk : SoundE K mg E tk fk) (hv : SoundE K mg E tv fv) (hr : SoundPs K mg E trs r) : SoundPs K mg E ((tk, tv) :: trs) (qCons fk fv r) := by
  intro F A G en σ H R Q k
  refine hk.dat R (Then.imp (Then.bind k) (fun kd en1 k1 y G1 H1 g1 R1 r1 => ?_) fun _ _ z => z)
  refine hv.dat R1 (Then.imp (Then.bind k1) (fun vd en2 k2 v G2 H2 g2 R2 r2 => ?_) fun x en2 k2 => KeE.grow g1 k2)
  refine hr F A G2 en2 σ H2 R2 _ (Then.imp (Then.bind k2) (fun ps en3 k3 vs G3 H3 g3 R3 r3 => ?_) fun x en2 k2 => KeE.grow (g1.trans g2) k2)
  exact k3 _ G3 H3 ((g1.trans g2).trans g3) R3 ⟨y, v, vs, rfl, Rv.le (g2.trans g3).toLe _ _ r1, Rv.le g3.toLe _ _ r2, r3⟩
def simK : D → Bool
  | .int _ => true
  | .str _ => true
  | _ => false
theorem simK_kD : ∀ {d : D}, simK d = true → ∃ q, d = kD q
  | .int i, _ => ⟨.inl i, rfl⟩
  | .str x, _ => ⟨.inr x, rfl⟩
theorem simK_all : ∀ {ps : List (D × D)} {vs : List (V × V)} {G : Hp}, ps.all (fun p => simK p.1) = true → RvP K G ps vs →
    ∃ kvs : List (Key × V), vs = kvs.map (fun kv => (kV kv.1, kv.2)) ∧ kvs.length = ps.length ∧ ∀ acc xs, RvK K G acc xs → RvK K G (ps.foldl (fun acc p => dPut acc p.1 p.2) acc) (mergeK xs kvs)
  | [], vs, G, _, h => ⟨[], h, rfl, fun _ _ h => h⟩
  | (k, d) :: ps, vs, G, ha, ⟨y, v, s, e, h1, h2, h3⟩ => by
    rw [List.all_cons, Bool.and_eq_true] at ha
    obtain ⟨q, rfl⟩ := simK_kD ha.1
    obtain ⟨kvs, e2, hl, hm⟩ := simK_all ha.2 h3
    refine ⟨(q, v) :: kvs, by rw [e, e2, kV_of h1]; rfl, by rw [List.length_cons, List.length_cons, hl], fun acc xs h => ?_⟩
    exact hm _ _ (h.put q h2)
def oDisp (f : EPs) : EO := fun en => (f en).bind fun ps en => if ps.all (fun p => simK p.1) = true ∧ ps.length ≤ 15 then .ok (.dict (ps.foldl (fun acc p => dPut acc p.1 p.2) [])) en else .st
theorem sound_disp {E : XE} {trs : List (TE × TE)} {f : EPs} (h : SoundPs K mg E trs f) : SoundO K mg E (tDisp trs) (oDisp f) := by
  intro F A G en σ H R Q k p hp
  have n0 := R.free_new hp
  refine h (upd F p (.dK [])) A G en σ _ ((R.fresh hp).guard upd_same n0) _ (Then.imp (Then.bind k) (fun ps en1 k1 vs G1 H1 g1 R1 r1 => ?_) fun x en1 z c dx G' H' g R' w => z c dx G' H' (g.weakF (upd_weak n0.f)) (R'.weakF (upd_weak n0.f)) w)
  split at k1
  · rename_i hc
    obtain ⟨kvs, e2, hl, hm⟩ := simK_all hc.1 r1
    have gp := guard_grow g1 n0.g R1 rfl
    obtain ⟨e0, R2, n2⟩ := R1.unguard n0.f n0.n gp
    exact ⟨e0, kvs, e2, by rw [hl]; exact hc.2, k1 p G1 _ (g1.weakF (upd_weak n0.f)) (R2.build n2) (.inl ⟨_, upd_same, hm [] [] rfl⟩) n2⟩
  · exact k1.elim
end
section
variable {X : Cx} {E : XE}
structure SPs (X : Cx) (E : XE) (pos : Pos) (keys : List (Option Expr)) (values : List Expr) (trs : List (TE × TE)) (f : EPs) : Prop where
  pps : PPs X pos keys values trs
  snd : SoundPs X.K X.mg E trs f
theorem sq_nil {pos : Pos} : SPs X E pos [] [] [] qNil := ⟨pps_nil, sound_qnil⟩
theorem sq_cons {pos : Pos} {k v : Expr} {ks : List (Option Expr)} {vs : List Expr} {tk tv : TE} {trs : List (TE × TE)} {fk fv : EE} {r : EPs} (hk : SE X E k tk fk) (hv : SE X E v tv fv) (hr : SPs X E pos ks vs trs r) :
    SPs X E pos (some k :: ks) (v :: vs) ((tk, tv) :: trs) (qCons fk fv r) := ⟨pps_cons hk.pe hv.pe hr.pps, sound_qcons hk.snd hv.snd hr.snd⟩
theorem so_disp {pos : Pos} {keys : List (Option Expr)} {values : List Expr} {trs : List (TE × TE)} {f : EPs} (h : SPs X E pos keys values trs f) (hall : keys.all (·.isSome) = true := by rfl) (hl : keys.length = values.length := by rfl) (h0 : keys ≠ [] := by exact fun z => nomatch z)
    (h15 : keys.length ≤ 15 := by decide) : SO X E (.Dict keys values pos) (tDisp trs) (oDisp f) := ⟨pe_disp h.pps hall hl h0 h15, sound_disp h.snd⟩
end
end Fx

set_option Elab.async false
set_option linter.all false
set_option maxRecDepth 100000
/-! == of dicts whose keys are tuples -/
namespace Fx
open PySem PySem.Spec PySem.W PyProof.Rows L2
section
variable {prog : Program} {w : World} {K : Type} [DecidableEq K] {knd : HeapKind prog w K} {A : Around} {E : Value → Shared → Prop} {s : Shared}
/-- what the walk over the one dict's entries finds in the other one -/
inductive HitsH (prog : Program) (w : World) (A : Around) (s : Shared) (ys : List (K × Addr × Value)) : List (K × Addr × Value) → Bool → Prop
  | nil : HitsH prog w A s ys [] true
  | miss {k : K} {a : Addr} {v : Value} {r : List (K × Addr × Value)} : (∀ (j : Nat) (p : Addr × Value), ys[j]? ≠ some (k, p)) → HitsH prog w A s ys ((k, a, v) :: r) false
  | hit {k : K} {a : Addr} {v : Value} {j : Nat} {p : Addr × Value} {r : List (K × Addr × Value)} {e b : Bool} : ys[j]? = some (k, p) → SeqAt.EqP prog w A s v p.2 e → HitsH prog w A s ys r b → HitsH prog w A s ys ((k, a, v) :: r) (e && b)
theorem nodup_at {ys : List (K × Addr × Value)} (nd : (ys.map (·.1)).Nodup) {i j : Nat} {k : K} {p q : Addr × Value} (hi : ys[i]? = some (k, p)) (hj : ys[j]? = some (k, q)) : i = j := by
  have h1 : (ys.map (·.1))[i]? = some k := by rw [List.getElem?_map, hi]; rfl
  have h2 : (ys.map (·.1))[j]? = some k := by rw [List.getElem?_map, hj]; rfl
  exact (List.getElem?_inj (List.getElem?_eq_some_iff.mp h1).1 nd).mp (h1.trans h2.symm)
theorem samePairsH {nm : String} {a b : Addr} {xs ys : List (K × Addr × Value)} {r : Bool} {Q : Bool → Shared → Prop} (hu : knd.room A) (ha : (a == sysModules) = false) (hb : (b == sysModules) = false)
    (da : s.heap.DictOfH knd a xs) (db : s.heap.DictOfH knd b ys) (hits : HitsH prog w A s ys xs r) (h : Q (xs.length == ys.length && r) s) :
    wpAny (model prog w) A (Builtin.Dict.samePairs nm a b) Q E s := by
  obtain ⟨oa, es, ep, hoa, _, hda, hea, hia, hna⟩ := da
  obtain ⟨ob, es', ep', hob, _, hdb, heb, hib, hnb⟩ := db
  have hla : es.size = xs.length := size_of_entries hea
  have hlb : es'.size = ys.length := size_of_entries heb
  rw [← hla, ← hlb] at h
  unfold Builtin.Dict.samePairs Builtin.Dict.showsAll
  rw [if_neg (show ¬ (a == sysModules) = true by rw [ha]; exact Bool.false_ne_true), if_neg (show ¬ (b == sysModules) = true by rw [hb]; exact Bool.false_ne_true)]
  refine wpAny_bind (wpAny_pure (wpAny_bind (wpAny_pure ?_)))
  refine wpAny_bind (wpAny_dictEntries hoa hda ?_)
  dsimp only
  refine wpAny_bind (wpAny_dictEntries hob hdb ?_)
  by_cases hsz : es.size = es'.size
  case neg =>
    rw [if_pos (by simpa using hsz)]
    have hbf : (es.size == es'.size) = false := by simpa using hsz
    rw [hbf, Bool.false_and] at h
    exact wpAny_bind (wpAny_rule (wpAny_pure h))
  case pos =>
    have h' : Q r s := by simpa [hsz] using h
    rw [if_neg (by rw [hsz]; simp)]
    refine wpAny_bind (wpAny_dictEpoch hoa hda ?_)
    refine wpAny_bind ?_
    rw [Std.Legacy.Range.forIn_eq_forIn_range']
    simp only [Std.Legacy.Range.size, Nat.sub_zero, Nat.add_sub_cancel, Nat.div_one]
    refine wpAny_forIn_list _
      (fun rest q s' => s' = s ∧ q = (none, ()) ∧ ∃ i, rest = List.range' i (es.size - i) ∧ i ≤ es.size ∧ HitsH prog w A s ys (xs.drop i) r)
      _ ?_ ?_ _ _ ⟨rfl, rfl, 0, by simp, Nat.zero_le _, hits⟩
    · rintro x rest q s' ⟨rfl, rfl, i, hr, hi, hpre⟩
      have hlt : i < es.size := by
        rcases Nat.lt_or_ge i es.size with h | h
        · exact h
        · rw [Nat.sub_eq_zero_of_le h] at hr; simp at hr
      obtain ⟨rfl, hrest⟩ : x = i ∧ rest = List.range' (i + 1) (es.size - (i + 1)) := by
        have e : es.size - i = (es.size - (i + 1)) + 1 := by omega
        rw [e, List.range'_succ] at hr
        injection hr with h1 h2
        exact ⟨h1, h2⟩
      refine wpAny_bind (wpAny_dictEntries hoa hda ?_)
      rw [Array.getElem?_eq_getElem hlt]
      have hlt' : x < xs.length := by rw [← hla]; exact hlt
      obtain ⟨k, c, v, hkv⟩ : ∃ k c v, xs[x] = (k, c, v) := ⟨_, _, _, rfl⟩
      have hdrop : xs.drop x = (k, c, v) :: xs.drop (x + 1) := by rw [← hkv]; exact List.drop_eq_getElem_cons hlt'
      have hes : es[x] = entryOfKey knd (k, c, v) := by
        have := entry_at hea x
        rw [Array.getElem?_eq_getElem hlt, List.getElem?_eq_getElem hlt', hkv] at this
        exact Option.some.inj this
      have hkey : knd.is s'.heap k c := by
        have := hia xs[x] (List.getElem_mem hlt')
        rwa [hkv] at this
      rw [hdrop] at hpre
      rw [hes]
      show wpAny _ _ (holding [.ref c, v] _ >>= _) _ _ _
      have find : ∀ {Q : Option Nat → Shared → Prop}, ((∀ (j : Nat) (p : Addr × Value), ys[j]? ≠ some (k, p)) → Q none s') → (∀ (j : Nat) (p : Addr × Value), ys[j]? = some (k, p) → Q (some j) s') → wpAny (model prog w) A (dictFind b (.ref c) (knd.hash k)) Q E s' :=
        fun {Q} h1 h2 => wpAny_dictFind_heap hu hkey hob hdb heb hib hnb h1 h2
      refine wpAny_bind (wpAny_holding (wpAny_bind (find (fun hn => ?_) fun j p hj => ?_)))
      · cases hpre with
        | miss _ =>
          refine wpAny_pure ?_
          show wpAny _ _ (if (!false) = true then _ else _) _ _ _
          rw [if_pos (by decide)]
          exact wpAny_pure (wpAny_pure h')
        | hit hj _ _ => exact absurd hj (hn _ _)
      · have hjlt : j < es'.size := by rw [hlb]; exact (List.getElem?_eq_some_iff.mp hj).1
        have hes' : es'[j] = entryOfKey knd (k, p) := by
          have := entry_at heb j
          rw [Array.getElem?_eq_getElem hjlt, hj] at this
          exact Option.some.inj this
        refine wpAny_bind (wpAny_dictEntries hob hdb ?_)
        rw [Array.getElem?_eq_getElem hjlt, hes']
        cases hpre with
        | miss hn => exact absurd hj (hn _ _)
        | @hit _ _ _ j' p' _ e b' hj' he hrr =>
          have ej := nodup_at hnb hj hj'
          subst ej
          rw [hj] at hj'
          cases hj'
          refine wpAny_holding (he _ _ ?_)
          cases e with
          | false =>
            show wpAny _ _ (if (!false) = true then _ else _) _ _ _
            rw [if_pos (by decide)]
            exact wpAny_pure (wpAny_pure h')
          | true =>
            show wpAny _ _ (if (!true) = true then _ else _) _ _ _
            rw [if_neg (by decide)]
            refine wpAny_bind (wpAny_dictEpoch hoa hda ?_)
            rw [if_neg (by simp)]
            exact wpAny_pure ⟨rfl, rfl, x + 1, hrest, hlt, by simpa using hrr⟩
    · rintro q s' ⟨rfl, rfl, i, hr, hi, hpre⟩
      have hin : i = es.size := by
        rcases Nat.lt_or_ge i es.size with h | h
        · have e : es.size - i = (es.size - (i + 1)) + 1 := by omega
          rw [e, List.range'_succ] at hr; exact nomatch hr
        · exact Nat.le_antisymm hi h
      refine wpAny_pure ?_
      rw [hin, hla, List.drop_length] at hpre
      cases hpre
      exact h'
theorem rc_dictsH {a b : Addr} {xs ys : List (K × Addr × Value)} {r : Bool} (hu1 : knd.room A.in1) (ha : (a == sysModules) = false) (hb : (b == sysModules) = false)
    (da : s.heap.DictOfH knd a xs) (db : s.heap.DictOfH knd b ys) (hu : A.units < cLine) (hits : HitsH prog w A.in1 s ys xs r) (E Q : Value → Shared → Prop) (h : Q (.bool (xs.length == ys.length && r)) s) : wpAny (model prog w) A (richCompare .Eq (.ref a) (.ref b)) Q E s := by
  refine wpAny_richCompare_same_room (op := .Eq) da.typeIs db.typeIs PySem.F.slot_dict_eq (wpAny_call_entry PySem.F.slot_dict_eq da.typeIs PySem.F.entry_dict_eq ?_ (PySem.F.args_dict_eq_2 _ _)) hu
  show wpAny _ _ (Builtin.Dict.dictSlotArgs "__eq__" ⟨[.ref a, .ref b], []⟩ >>= _) _ _ s
  refine wpAny_bind ?_
  unfold Builtin.Dict.dictSlotArgs
  refine wpAny_bind (wpAny_notOrdered_dict da.typeIs ?_)
  show wpAny _ _ (pure (Value.ref a, Value.ref b)) _ _ s
  refine wpAny_pure ?_
  refine wpAny_bind (wpAny_isInstance (T := "dict") db.typeIs PySem.F.sub_dict_dict ?_)
  simp only [Bool.not_true, Bool.false_eq_true, if_false]
  refine wpAny_bind (wpAny_pure (wpAny_bind (wpAny_pure ?_)))
  refine wpAny_bind (samePairsH hu1 ha hb da db hits ?_)
  refine wpAny_pure ⟨_, rfl, ?_, ?_⟩
  · exact fun x => nomatch x
  · simpa using h
end
/-! the same, over data -/
def DpT (K : PySem.W.Frag) (H : Hp) : List (D × D) → List (List Key × V) → Prop
  | [], vs => vs = []
  | (k, d) :: r, vs => ∃ q v s, vs = (q, v) :: s ∧ k = tD q ∧ Dp K H v d ∧ SeqAt.shaped d = true ∧ DpT K H r s
def eqKv (ks ls : List (D × D)) : Bool := ks.length == ls.length && ks.all fun p => match dGet ls p.1 with
  | some d => PyData.eqv p.2 d
  | none => false
section
variable {X : Cx} {pins : List (Addr × Obj)} {σ : L2.St} {H : Hp} {s : Shared} {A : Around}
theorem DpT.length : ∀ {kd : List (D × D)} {ks : List (List Key × V)}, DpT X.K H kd ks → ks.length = kd.length
  | [], _, h => by rw [show _ = [] from h]; rfl
  | (k, d) :: r, _, ⟨q, v, s, e, _, _, _, h⟩ => by rw [e, List.length_cons, List.length_cons, h.length]
theorem find_of (I : Inv X pins σ H s) : ∀ {ld : List (D × D)} {ls : List (List Key × V)} {ws : List (List Key × Addr × Value)} (q : List Key), DpT X.K H ld ls → KT H ls ws →
    match dGet ld (tD q) with
    | none => ∀ (j : Nat) (p : Addr × Value), ws[j]? ≠ some (q, p)
    | some e => ∃ (j : Nat) (p : Addr × Value) (as : List Addr), ws[j]? = some (q, p) ∧ Reads s.heap p.2 e as ∧ SeqAt.shaped e = true
  | [], _, _, q, h, t => by
    cases (show _ = [] from h)
    cases t
    intro j p z
    simp at z
  | (k, d) :: ld, _, _, q, ⟨q', v, ls, e, ek, dp, sh, h⟩, t => by
    subst e
    subst ek
    cases t with
    | @cons _ w _ ws t1 t2 =>
      have ih := find_of I q h t2
      obtain ⟨t3, _, t5⟩ := t1
      by_cases hq : q' = q
      · subst hq
        obtain ⟨as, rd⟩ := Dp.reads I d v w.2.2 dp t5
        have : dGet ((tD q', d) :: ld) (tD q') = some d := by
          unfold dGet
          rw [List.find?_cons, decide_eq_true rfl]; rfl
        rw [this]
        exact ⟨0, w.2, as, by rw [List.getElem?_cons_zero]; obtain ⟨w1, w2⟩ := w; rw [show w1 = q' from t3.symm], rd, sh⟩
      · have ne : ¬ (kk (tD q') = kk (tD q)) := fun z => by
          rw [kk_tD, kk_tD] at z
          injection z with z
          injection z with z
          exact hq z
        have : dGet ((tD q', d) :: ld) (tD q) = dGet ld (tD q) := by
          unfold dGet
          rw [List.find?_cons, decide_eq_false ne]
        rw [this]
        cases eg : dGet ld (tD q) with
        | none =>
          rw [eg] at ih
          intro j p z
          cases j with
          | zero =>
            rw [List.getElem?_cons_zero] at z
            cases z
            exact hq t3
          | succ j => exact ih j p z
        | some e =>
          rw [eg] at ih
          obtain ⟨j, p, as, h1, h2, h3⟩ := ih
          exact ⟨j + 1, p, as, by rw [List.getElem?_cons_succ]; exact h1, h2, h3⟩
theorem hits_of (I : Inv X pins σ H s) (hu : A.units + 65 < cLine) {ld : List (D × D)} {ls : List (List Key × V)} {ws : List (List Key × Addr × Value)} (hl : DpT X.K H ld ls) (tl : KT H ls ws) :
    ∀ {kd : List (D × D)} {ks : List (List Key × V)} {zs : List (List Key × Addr × Value)}, DpT X.K H kd ks → KT H ks zs → HitsH X.prog X.w A.in1 s ws zs (kd.all fun p => match dGet ld p.1 with
      | some d => PyData.eqv p.2 d
      | none => false)
  | [], _, _, h, t => by
    cases (show _ = [] from h)
    cases t
    exact .nil
  | (k, d) :: kd, _, _, ⟨q, v, ks, e, ek, dp, sh, h⟩, t => by
    subst e
    subst ek
    cases t with
    | @cons _ w _ zs t1 t2 =>
      have ih := hits_of I hu hl tl h t2
      obtain ⟨t3, _, t5⟩ := t1
      obtain ⟨w1, wa, wv⟩ := w
      obtain rfl : q = w1 := t3
      have f := find_of I q hl tl
      rw [List.all_cons]
      cases eg : dGet ld (tD q) with
      | none =>
        rw [eg] at f
        simp only [eg, Bool.false_and]
        exact .miss f
      | some e2 =>
        rw [eg] at f
        obtain ⟨j, p, bs, h1, h2, h3⟩ := f
        obtain ⟨as, rd⟩ := Dp.reads I d v wv dp t5
        simp only [eg]
        exact .hit h1 (keq_at rd h2 sh h3 (by show A.units + 1 + 64 < cLine; omega)).eqP ih
def rEqT (K : PySem.W.Frag) : R2 := fun x y H Q => ∃ a b ks ls kd ld, x = V.ref a ∧ y = V.ref b ∧ DT H a ks ∧ DT H b ls ∧ DpT K H kd ks ∧ DpT K H ld ls ∧ Q (.bl (eqKv kd ld)) H
theorem op_eqT (hu : X.A.units + 65 < cLine) : OpR X (compareOp .Eq) (rEqT X.K) := by
  intro pins s σ H x y v u Q I rx ry h
  obtain ⟨a, b, ks, ls, kd, ld, rfl, rfl, da, db, pa, pb, q⟩ := h
  obtain rfl : v = Value.ref a := rx
  obtain rfl : u = Value.ref b := ry
  obtain ⟨_, na, zs, ra, oa⟩ := dt_at I.hok da
  obtain ⟨_, nb, ws, rb, ob⟩ := dt_at I.hok db
  have e1 : zs.length = kd.length := by rw [← ra.length]; exact pa.length
  have e2 : ws.length = ld.length := by rw [← rb.length]; exact pb.length
  refine rc_dictsH (knd := tupleKind (mixKind X.prog X.w)) (tupleKind_room_in1 (by omega)) na nb oa ob (by omega) (hits_of I hu pb rb pa ra) X.xe _ (fin_bl I q ?_)
  rw [e1, e2]
  rfl
end
def isT (kvs : List (D × D)) : Bool := kvs.all fun p => kin p.1 == some true
def shV (kvs : List (D × D)) : Bool := kvs.all fun p => SeqAt.shaped p.2
def oEqA (x y : D) : Option D := match x, y with
  | .dict ks, .dict ls => if isT ks = true ∧ isT ls = true ∧ shV ks = true ∧ shV ls = true then some (.bool (eqKv ks ls)) else none
  | x, y => oEq x y
section
variable {K : PySem.W.Frag} {mg : Str → Option Value}
theorem RvT.dp {G H : Hp} (l : Le G H) : ∀ {kvs : List (D × D)} {xs : List (List Key × V)}, RvT K G kvs xs → shV kvs = true → DpT K H kvs xs
  | [], _, h, _ => h
  | (k, d) :: r, _, ⟨q, v, s, e, ek, rv, h⟩, sh => by
    unfold shV at sh
    rw [List.all_cons, Bool.and_eq_true] at sh
    exact ⟨q, v, s, e, ek, Rv.dp l d v (nodict sh.1) rv, sh.1, RvT.dp l h sh.2⟩
theorem dict_dp {G H : Hp} (l : Le G H) {kvs : List (D × D)} {v : V} (r : Rc K G H (.dict kvs) v) (t : isT kvs = true) (sh : shV kvs = true) : ∃ a xs, v = .ref a ∧ DT H a xs ∧ DpT K H kvs xs := by
  obtain ⟨a, rfl, ⟨xs, h1, h2⟩ | ⟨xs, h1, h2⟩⟩ := r
  · have : kvs = [] := by
      cases kvs with
      | nil => rfl
      | cons p kvs =>
        obtain ⟨k, d⟩ := p
        obtain ⟨q, v, s, e, ek, rv, h⟩ := h2
        subst ek
        unfold isT at t
        rw [List.all_cons, Bool.and_eq_true] at t
        have := t.1
        unfold kin at this
        rw [show kk (kD q) = some (.inl q) from kk_kD q] at this
        cases this
    subst this
    cases (show xs = [] from h2)
    exact ⟨a, [], rfl, .inr ⟨rfl, h1⟩, rfl⟩
  · exact ⟨a, xs, rfl, .inl h1, RvT.dp l h2 sh⟩
theorem sound_eqA : SoundOp K (fun x y H Q => rEqD K x y H Q ∨ rEqT K x y H Q) oEqA := by
  intro F A G en σ H R x y v u z rx ry e Q k
  unfold oEqA at e
  split at e
  · rename_i ks ls
    split at e
    · rename_i hc
      cases e
      obtain ⟨a, xs, rfl, h1, h2⟩ := dict_dp R.gx rx hc.1 hc.2.2.1
      obtain ⟨b, ys, rfl, h3, h4⟩ := dict_dp R.gx ry hc.2.1 hc.2.2.2
      exact .inr ⟨a, b, xs, ys, ks, ls, rfl, rfl, h1, h3, h2, h4, k _ G H (.refl _ _) R rfl⟩
    · cases e
  · exact .inl (sound_eq F A G en σ H R _ _ v u z rx ry e Q k)
end
end Fx

set_option Elab.async false
set_option linter.all false
set_option maxRecDepth 100000
/-! t[::-1] of a tuple -/
namespace Fx
open PySem PySem.Spec PySem.W PyProof.Rows L2
open Sem (wp)
theorem fm_congr {α β : Type} {f g : α → Option β} : ∀ {l : List α}, (∀ x ∈ l, f x = g x) → l.filterMap f = l.filterMap g
  | [], _ => rfl
  | x :: l, h => by
    rw [List.filterMap_cons, List.filterMap_cons, h x List.mem_cons_self, fm_congr fun y hy => h y (List.mem_cons_of_mem _ hy)]
theorem pick_rev {α : Type} : ∀ (l : List α), (List.range l.length).filterMap (fun m => l[l.length - 1 - m]?) = l.reverse := by
  intro l
  have key : ∀ (k : List α), (List.range k.reverse.length).filterMap (fun m => k.reverse[k.reverse.length - 1 - m]?) = k := by
    intro k
    induction k with
    | nil => rfl
    | cons a k ih =>
      rw [List.reverse_cons, List.length_append, List.length_singleton, List.range_succ_eq_map, List.filterMap_cons, List.filterMap_map]
      have h0 : (k.reverse ++ [a])[k.reverse.length + 1 - 1 - 0]? = some a := by
        rw [List.getElem?_append_right (by omega)]
        simp
      rw [h0]
      simp only
      congr 1
      refine Eq.trans (fm_congr fun m hm => ?_) ih
      rw [List.mem_range] at hm
      show (k.reverse ++ [a])[k.reverse.length + 1 - 1 - (m + 1)]? = _
      rw [List.getElem?_append_left (by omega)]
      congr 1
      omega
  have := key l.reverse
  rwa [List.reverse_reverse] at this
section
variable {prog : Program} {w : World} {A : Around} {E : Value → Shared → Prop} {s : Shared}
theorem adjust_rev (n : Nat) : Builtin.Slice.sliceAdjust none none (-1) (n : Int) = ((n : Int) - 1, -1) := by
  unfold Builtin.Slice.sliceAdjust
  rfl
theorem places_rev (n : Nat) : Builtin.Slice.slicePlaces ((n : Int) - 1) (-1) (-1) = n := by
  unfold Builtin.Slice.slicePlaces
  rw [if_neg (by omega)]
  split
  · have : (-(-1 : Int)) = 1 := by omega
    rw [this, Int.ediv_one]
    omega
  · omega
theorem sliceApplied_rev {sl : Addr} {vl vu vs : Value} {n : Nat} {Q : Int × Int × Nat → Shared → Prop} (hs : s.heap.IsSliceOf sl vl vu vs) (pl : IsPart vl none) (pu : IsPart vu none) (ps : IsPart vs (some (-1)))
    (h : Q ((n : Int) - 1, -1, n) s) : wpAny (model prog w) A (Builtin.Slice.sliceApplied (.ref sl) (pure (n : Int))) Q E s := by
  obtain ⟨os, hos, hcs, hds⟩ := id hs
  unfold Builtin.Slice.sliceApplied Builtin.Slice.sliceFields
  refine wpAny_bind (wpAny_bind (wpAny_field hos hds (x := vl) rfl (wpAny_bind (wpAny_field hos hds (x := vu) rfl (wpAny_bind (wpAny_field hos hds (x := vs) rfl (wpAny_pure ?_)))))))
  refine wpAny_bind (HT.slicePart_ ps ?_)
  show wpAny _ _ (if ((-1 : Int) == 0) = true then _ else _) _ _ s
  rw [if_neg (by decide)]
  refine wpAny_bind (HT.slicePart_ pl (wpAny_bind (HT.slicePart_ pu (wpAny_bind (wpAny_pure ?_)))))
  show wpAny _ _ (match Builtin.Slice.sliceAdjust none none (-1) (n : Int) with | (lo, hi) => pure (lo, (-1 : Int), Builtin.Slice.slicePlaces lo hi (-1))) _ _ s
  rw [adjust_rev n]
  show wpAny _ _ (pure ((n : Int) - 1, (-1 : Int), Builtin.Slice.slicePlaces ((n : Int) - 1) (-1) (-1))) _ _ s
  rw [places_rev]
  exact wpAny_pure h
theorem pick_tup (xs : Array Value) : ((List.range xs.size).filterMap fun (m : Nat) => xs[(((xs.size : Int) - 1) + (m : Int) * (-1)).toNat]?).toArray = xs.toList.reverse.toArray := by
  congr 1
  rw [← pick_rev xs.toList, Array.length_toList]
  refine fm_congr fun m hm => ?_
  rw [List.mem_range] at hm
  rw [Array.getElem?_toList]
  congr 1
  omega
theorem getItem_tuple_rev {t sl : Addr} {items : Array Value} {vl vu vs : Value} {Q : Value → Shared → Prop} (ht : IsTup s.heap t items) (hs : s.heap.IsSliceOf sl vl vu vs) (pl : IsPart vl none) (pu : IsPart vu none) (ps : IsPart vs (some (-1)))
    (h : Q (.ref s.heap.objs.size) { s with heap := s.heap.push { cls := .type "tuple", data := .seq items.toList.reverse.toArray } })
    (hsz : items.size ≤ sizeLine) : wpAny (model prog w) A (getItem (.ref t) (.ref sl)) Q E s := by
  have htake : sizeOk (.seq items.toList.reverse.toArray) := by
    show items.toList.reverse.toArray.size ≤ sizeLine
    rw [List.size_toArray, List.length_reverse, Array.length_toList]
    exact hsz
  obtain ⟨os, hos, hcs, hds⟩ := id hs
  have hTs : s.TypeIs (.ref sl) "slice" := ⟨os, hos, hcs⟩
  unfold getItem
  try with_reducible refine wpAny_holding ?_
  first | refine wpAny_bind (wpAny_pure ?_) | skip
  refine wpAny_bind (wpAny_sequenceKey ht.typeIs (by decide) ?_)
  refine wpAny_bind (wpAny_callSpecial?_slot (name := Str.ofString "__getitem__") ht.typeIs PyProof.Rows.slot_tuple_getitem
    (wpAny_call_entry PyProof.Rows.slot_tuple_getitem ht.typeIs PyProof.Rows.entry_tuple_getitem ?_ (PyProof.Rows.args_tuple_getitem _ _)))
  show wpAny _ _ (Builtin.Tuple.tupleItemsOf (.ref t) >>= _) _ _ s
  refine wpAny_bind (PyProof.Rows.tupleItemsOf_ ht ?_)
  refine wpAny_bind (wpAny_typeOf hTs ?_)
  rw [if_pos (by decide)]
  refine wpAny_bind (sliceApplied_rev hs pl pu ps ?_)
  have hno : ¬ ((((items.size : Int) - 1) == 0 && (-1 : Int) == 1 && items.size == items.size) = true) := by
    intro q
    rw [Bool.and_eq_true, Bool.and_eq_true] at q
    have q1 : (-1 : Int) = 1 := eq_of_beq q.1.2
    omega
  show wpAny _ _ (if (((items.size : Int) - 1) == 0 && (-1 : Int) == 1 && items.size == items.size) = true then _ else _) _ _ s
  rw [if_neg hno, pick_tup]
  first
    | exact wpAny_bind (m := Builtin.Tuple.tupleExact _) (wpAny_newObj_type (wpAny_pure ⟨_, rfl, wpAny_pure h⟩) htake)
    | exact wpAny_bind (m := Builtin.Tuple.tupleExact _) (wpAny_newObj_type (wpAny_bind (wpAny_pure (wpAny_pure ⟨_, rfl, wpAny_pure h⟩))) htake)
    | exact wpAny_bind (wpAny_bind (m := Builtin.Tuple.tupleExact _) (wpAny_newObj_type (wpAny_pure (wpAny_pure ⟨_, rfl, wpAny_pure h⟩)) htake))
    | exact wpAny_bind (wpAny_bind (m := Builtin.Tuple.tupleExact _) (wpAny_newObj_type (wpAny_pure ⟨_, rfl, wpAny_pure h⟩) htake))
end
def tRevT (K : PySem.W.Frag) (te : TE) : TE := fun σ H Q => te σ H fun x H1 => ∃ a xs, x = .ref a ∧ SqT K H1 a xs ∧ ∀ p, H1 p = none → Q (.ref p) (upd H1 p (.tup xs.reverse))
theorem pe_revT {X : Cx} {e : Expr} {te : TE} {k : Nat} {p1 p2 p3 pos : Pos} (he : PE X e te) : PE X (.Subscript e (.Slice none none (some (.UnaryOp .USub (.Constant (.int 1) k p1) p2)) p3) pos) (tRevT X.K te) := by
  refine ⟨fun pins s σ H Q I h => ?_⟩
  refine Subscript_ (thn (he.run pins s σ H _ I h) fun v s1 ⟨x, H1, I1, r1, q1⟩ => ?_)
  obtain ⟨a, xs, ex, hx, q⟩ := q1
  subst ex
  cases r1
  have hst : PO X (some (.UnaryOp .USub (.Constant (.int 1) k p1) p2)) (tPart (tUn (rU fun i => .int (-i)) (tC (.int 1)))) := po_some (pe_un un_neg pe_int)
  refine wpAny_Slice (thn (po_none.run pins s1 σ H1 (fun o H2 => o = none ∧ H2 = H1) I1 ⟨rfl, rfl⟩) fun vl s2 ⟨l, H2, I2, pl, el, e2⟩ => ?_)
  subst el e2
  refine thn (po_none.run pins s2 σ H2 (fun o H3 => o = none ∧ H3 = H2) I2 ⟨rfl, rfl⟩) fun vu s3 ⟨u, H3, I3, pu, eu, e3⟩ => ?_
  subst eu e3
  refine thn (hst.run pins s3 σ H3 (fun o H4 => o = some (-1) ∧ H4 = H3) I3 ⟨1, rfl, -1, rfl, rfl, rfl⟩) fun vs s4 ⟨o, H4, I4, ps, eo, e4⟩ => ?_
  subst eo e4
  have I5 : Inv X pins σ H4 { s4 with heap := s4.heap.push { cls := .type "slice", data := .fields #[vl, vu, vs] } } := I4.kept (t' := s4.toks) fun b ob q => Heap.get?_push_of_some _ q
  obtain ⟨its, r, ht, hz⟩ := I5.tuple hx
  have hlen := r.length
  show wpAny (model X.prog X.w) X.A (subscriptTail e (.Slice none none (some (.UnaryOp .USub (.Constant (.int 1) k p1) p2)) p3) (.ref a) (.ref s4.heap.objs.size)) (EP X pins σ Q) X.xe { s4 with heap := s4.heap.push { cls := .type "slice", data := .fields #[vl, vu, vs] } }
  refine tail_any (ops := [.ref a, .ref s4.heap.objs.size]) ht.typeIs (PyProof.Rows.slot_tuple_getitem.lookup) ?_ (by with_unfolding_all rfl)
  refine getItem_tuple_rev ht (Heap.IsSliceOf.new _ vl vu vs) pl pu ps ?_ (by rw [List.size_toArray]; omega)
  refine ⟨.ref _, _, I5.laid (t' := s4.toks) (o := .tup xs.reverse) (fun b ob q => Heap.get?_push_of_some _ q) (Nat.le_refl _) ?_, rfl, q _ (I5.hok.fresh (Nat.le_refl _))⟩
  exact ⟨by rw [List.length_reverse]; exact hz, _, r.reverse, IsTup.new _ _⟩
def oRev : D → Option D
  | .tuple ds => some (.tuple ds.reverse)
  | _ => none
section
variable {K : PySem.W.Frag} {mg : Str → Option Value}
theorem rvs_rev {G : Hp} : ∀ {ds : List D} {vs : List V}, Rvs K G ds vs → Rvs K G ds.reverse vs.reverse
  | [], _, h => by rw [show _ = [] from h]; rfl
  | d :: ds, _, ⟨v, r, e, h1, h2⟩ => by
    rw [e, List.reverse_cons, List.reverse_cons]
    exact Rvs.append (rvs_rev h2) ⟨v, [], rfl, h1, rfl⟩
theorem sound_rev {E : XE} {t : TE} {f : EE} (h : SoundE K mg E t f) : SoundE K mg E (tRevT K t) (eUn oRev f) := by
  intro F A G en σ H R Q k
  refine h F A G en σ H R _ (Then.imp (Then.bind k) (fun x en1 k1 v G1 H1 g1 R1 r1 => ?_) fun _ _ z => z)
  split at k1
  · rename_i d e1
    unfold oRev at k1
    split at k1
    · rename_i z e2
      split at e2
      · rename_i ds
        cases e2
        obtain ⟨a, vs, rfl, h1, h2⟩ := (show Rv K G1 (.tuple ds) v from rd_rc R1 r1 e1)
        refine ⟨a, vs, rfl, (h1.le R1.gx).sq, fun p hp => ?_⟩
        obtain ⟨g2, R2⟩ := R1.new (u := .tup vs.reverse) hp (fun _ _ z => nomatch z)
        exact k1 _ _ _ (g1.trans g2) R2 ⟨p, _, rfl, .inl upd_same, Rvs.le g2.toLe _ _ (rvs_rev h2)⟩
      · cases e2
    · exact k1.elim
  · exact k1.elim
end
section
variable {X : Cx} {E : XE}
theorem se_rev {e : Expr} {t : TE} {f : EE} {k : Nat} {p1 p2 p3 pos : Pos} (h : SE X E e t f) : SE X E (.Subscript e (.Slice none none (some (.UnaryOp .USub (.Constant (.int 1) k p1) p2)) p3) pos) (tRevT X.K t) (eUn oRev f) := ⟨pe_revT h.pe, sound_rev h.snd⟩
end
theorem room65 {k : Nat} {A : Around} (r : Room k A) : A.units + 65 < cLine := by
  have := r.un
  omega
section
variable {X : Cx} {E : XE}
theorem se_cmpN {op : CmpOp} {r : R2} {o : D → D → Option D} {a b : Expr} {ta tb : TE} {fa fb : EE} {pos : Pos} (ho : OpR X (compareOp op) r) (hs : SoundOp X.K r o) (ha : SE X E a ta fa) (hb : SE X E b tb fb) (hm : behindInMarks op b = false := by rfl) :
    SE X E (.Compare a [op] [b] pos) (tOp r ta tb) (eOp o fa fb) := ⟨pe_cmpR ho ha.pe hb.pe hm, sound_op hs ha.snd hb.snd⟩
theorem st_cmpN {op : CmpOp} {r : R2} {o : D → D → Option D} {a b : Expr} {ta tb : TE} {fa fb : EE} {pos : Pos} (ho : OpR X (compareOp op) r) (hs : SoundOp X.K r o) (ha : SE X E a ta fa) (hb : SE X E b tb fb) (hm : behindInMarks op b = false := by rfl) :
    ST X E (.Compare a [op] [b] pos) (tTest (tOp r ta tb)) (cB (eOp o fa fb)) := ⟨pt_cmpR ho ha.pe hb.pe hm, sound_B (sound_op hs ha.snd hb.snd)⟩
end
end Fx

set_option Elab.async false
set_option linter.all false
set_option maxRecDepth 100000
/-! a call that reads a name's own thing, and lets it be -/
namespace Fx
open PySem PySem.Spec PySem.W PyProof.Rows L2
def flatD : D → Bool
  | .none => true
  | .bool _ => true
  | .int _ => true
  | .str _ => true
  | _ => false
def flatT : D → Bool
  | .tuple ds => ds.all flatD
  | d => flatD d
/-- names and constants -/
abbrev BA := List (Nat ⊕ D)
def bVal (en : En) (b : Nat) : Nat ⊕ D → Option D
  | .inl i => match en[i]? with
    | some (.fz d) => some d
    | some (.ow d) => if i = b then some d else none
    | some (.io _ d) => if i = b then some d else none
    | _ => none
  | .inr d => if flatD d = true then some d else none
def bVals (en : En) (b : Nat) : BA → Option (List D)
  | [] => some []
  | x :: l => match bVal en b x, bVals en b l with
    | some d, some ds => some (d :: ds)
    | _, _ => none
def eCallB (b : Nat) (f : Fn) (l : BA) : EE := fun en => if owns en b = true then match bVals en b l with
    | some ds => match f ds with
      | .ok r _ => if flatT r = true then .ok (.fz r) en else .st
      | _ => .st
    | none => .st
  else .st
def Bv (K : PySem.W.Frag) (G : Hp) (σ : L2.St) : BA → List V → Prop
  | [], vs => vs = []
  | .inl i :: l, vs => ∃ v r, vs = v :: r ∧ σ[i]? = some (some v) ∧ Bv K G σ l r
  | .inr d :: l, vs => ∃ v r, vs = v :: r ∧ Rv K G d v ∧ Bv K G σ l r
section
variable {K : PySem.W.Frag} {mg : Str → Option Value} {F : Hp} {A : List Addr} {G H : Hp} {en : En} {σ : L2.St}
theorem flat_rv {G' : Hp} : ∀ {d : D} {v : V}, flatD d = true → Rv K G d v → Rv K G' d v
  | .none, _, _, h => h
  | .bool _, _, _, h => h
  | .int _, _, _, h => h
  | .str _, _, _, h => h
theorem flats_rvs {G' : Hp} : ∀ {ds : List D} {vs : List V}, ds.all flatD = true → Rvs K G ds vs → Rvs K G' ds vs
  | [], _, _, h => h
  | d :: ds, _, hf, ⟨v, r, e, h1, h2⟩ => by
    rw [List.all_cons, Bool.and_eq_true] at hf
    exact ⟨v, r, e, flat_rv hf.1 h1, flats_rvs hf.2 h2⟩
/-- what is handed in -/
theorem bargs (R : Rp K F A G en σ H) {b : Nat} {a : Addr} {d0 : D} {u : HO} (hs : σ[b]? = some (some (.ref a))) (hr : rd (.sl b) en = some d0) (ga : G a = none) (rv : Rv K (upd G a u) d0 (.ref a)) (le : Le G (upd G a u)) :
    ∀ {H2 : Hp} {l : BA} {ds : List D} {vs : List V}, bVals en b l = some ds → Bv K G σ l vs → Args K (upd G a u) H2 (l.map fun _ => false) [] ds vs
  | H2, [], ds, vs, h, hb => by cases h; exact ⟨rfl, rfl, hb⟩
  | H2, x :: l, ds, vs, h, hb => by
    unfold bVals at h
    cases e1 : bVal en b x with
    | none => rw [e1] at h; cases h
    | some d =>
      cases e2 : bVals en b l with
      | none => rw [e1, e2] at h; cases h
      | some ds' =>
        rw [e1, e2] at h
        cases h
        cases x with
        | inr c =>
          obtain ⟨v, r, rfl, h1, h2⟩ := hb
          have e1' : (if flatD c = true then some c else none) = some d := e1
          split at e1'
          · cases e1'
            exact ⟨_, _, _, _, rfl, rfl, Rv.le le _ _ h1, bargs R hs hr ga rv le e2 h2⟩
          · cases e1'
        | inl i =>
          obtain ⟨v, r, rfl, h1, h2⟩ := hb
          refine ⟨_, _, _, _, rfl, rfl, ?_, bargs R hs hr ga rv le e2 h2⟩
          have e1' : (match en[i]? with
            | some (.fz d) => some d
            | some (.ow d) => if i = b then some d else none
            | some (.io _ d) => if i = b then some d else none
            | _ => none) = some d := e1
          clear e1
          have e1 := e1'
          clear e1'
          split at e1
          · rename_i d' e3
            cases e1
            obtain ⟨w, q1, q2⟩ := R.fz i _ e3
            rw [h1] at q1
            cases q1
            exact Rv.le le _ _ q2
          · rename_i d' e3
            split at e1
            · rename_i hi
              cases e1
              subst hi
              simp only [rd, e3] at hr
              cases hr
              rw [h1] at hs
              cases hs
              exact rv
            · cases e1
          · rename_i k d' e3
            split at e1
            · rename_i hi
              cases e1
              subst hi
              simp only [rd, e3] at hr
              cases hr
              rw [h1] at hs
              cases hs
              exact rv
            · cases e1
          · cases e1
theorem flat_ex : ∀ {d : D}, flatD d = true → ∃ v, Rv K G d v
  | .none, _ => ⟨.non, rfl⟩
  | .bool b, _ => ⟨.bl b, rfl⟩
  | .int i, _ => ⟨.int i, rfl⟩
  | .str x, _ => ⟨.str x, rfl⟩
theorem bv_ex (R : Rp K F A G en σ H) {b : Nat} {a : Addr} (hs : σ[b]? = some (some (.ref a))) : ∀ {l : BA} {ds : List D}, bVals en b l = some ds → ∃ vs, Bv K G σ l vs
  | [], ds, h => ⟨[], rfl⟩
  | x :: l, ds, h => by
    unfold bVals at h
    cases e1 : bVal en b x with
    | none => rw [e1] at h; cases h
    | some d =>
      cases e2 : bVals en b l with
      | none => rw [e1, e2] at h; cases h
      | some ds' =>
        obtain ⟨vs, hv⟩ := bv_ex R hs e2
        cases x with
        | inr c =>
          have e1' : (if flatD c = true then some c else none) = some d := e1
          split at e1'
          · rename_i hf
            obtain ⟨v, r⟩ := flat_ex (K := K) (G := G) hf
            exact ⟨v :: vs, v, vs, rfl, r, hv⟩
          · cases e1'
        | inl i =>
          have e1' : (match en[i]? with
            | some (.fz d) => some d
            | some (.ow d) => if i = b then some d else none
            | some (.io _ d) => if i = b then some d else none
            | _ => none) = some d := e1
          split at e1'
          · rename_i d' e3
            obtain ⟨w, q1, q2⟩ := R.fz i _ e3
            exact ⟨w :: vs, w, vs, rfl, q1, hv⟩
          · split at e1'
            · rename_i hi
              subst hi
              exact ⟨.ref a :: vs, _, vs, rfl, hs, hv⟩
            · cases e1'
          · split at e1'
            · rename_i hi
              subst hi
              exact ⟨.ref a :: vs, _, vs, rfl, hs, hv⟩
            · cases e1'
          · cases e1'
theorem own_rv {a : Addr} {d : D} {u : HO} (o : Own K G H d a) (hu : H a = some u) (le : Le G (upd G a u)) : Rv K (upd G a u) d (.ref a) := by
  cases d with
  | list ds =>
    obtain ⟨vs, q1, q2⟩ := o
    rw [hu] at q1
    cases q1
    exact ⟨a, vs, rfl, .inl (.inl upd_same), Rvs.le le ds vs q2⟩
  | dict kvs =>
    rcases o with ⟨xs, q1, q2⟩ | ⟨xs, q1, q2⟩
    · rw [hu] at q1
      cases q1
      exact ⟨a, rfl, .inl ⟨xs, .inl upd_same, RvK.le le kvs xs q2⟩⟩
    · rw [hu] at q1
      cases q1
      exact ⟨a, rfl, .inr ⟨xs, .inl upd_same, RvT.le le kvs xs q2⟩⟩
  | none => exact o.elim
  | bool _ => exact o.elim
  | int _ => exact o.elim
  | str _ => exact o.elim
  | tuple _ => exact o.elim
/-- behind the call: G1 holds no more than what was frozen ahead, and the answer -/
theorem Rp.borrow (R : Rp K F A G en σ H) {a : Addr} {u : HO} {od : Obj} (hu : H a = some u) (cu : Cn u = true) (fa : F a = none) (ga : G a = none) {G' H' G1 : Hp} (gr : Grow (cut (upd H a (.frz od u)) [] (upd G a u)) (upd G a u) G') (l : Le G' H')
    (same : ∀ b o, cut (upd H a (.frz od u)) [] (upd G a u) b = some o → H' b = some o) (hg : ∀ b, G1 b = G b ∨ (G b = none ∧ b ≠ a ∧ G1 b = G' b ∧ ∃ xs, G' b = some (.tup xs))) : Grow F G G1 ∧ Rp K F A G1 en σ (upd H' a u) := by
  have keep : ∀ {b : Addr} {o : HO}, b ≠ a → G b = none → H b = some o → H' b = some o := fun {b o} ne g0 h0 => same b o (by
    rw [cut_out List.not_mem_nil (by rw [upd_ne ne]; exact g0), upd_ne ne]
    exact h0)
  have sub : ∀ {b : Addr} {o : HO}, G b = some o → G' b = some o := fun {b o} g0 => gr.le b o (by rw [upd_ne (ne_of_none g0 ga)]; exact g0)
  have up : ∀ {b : Addr} {o : HO}, G1 b = some o → b ≠ a ∧ G' b = some o := fun {b o} e => by
    rcases hg b with h | ⟨h0, h1, h2, h3⟩
    · rw [h] at e
      exact ⟨ne_of_none e ga, sub e⟩
    · exact ⟨h1, by rw [← h2]; exact e⟩
  have le1 : ∀ b o, G b = some o → G1 b = some o := fun b o e => by
    rcases hg b with h | ⟨h0, _⟩
    · rw [h]; exact e
    · rw [h0] at e; cases e
  have g1a : G1 a = none := by
    rcases hg a with h | ⟨_, h, _⟩
    · rw [h]; exact ga
    · exact absurd rfl h
  have grow : Grow F G G1 := ⟨le1, fun b e e' => by
    rcases hg b with h | ⟨h0, h1, h2, h3⟩
    · rw [h] at e'; exact absurd e e'
    · exact .inr (by rw [h2]; exact h3)⟩
  have ow : ∀ {d : D} {b : Addr}, Own K G H d b → G b = none → Own K G1 (upd H' a u) d b := fun {d b} o g0 => by
    obtain ⟨w, hw, _⟩ := o.some
    refine o.step grow.toLe ?_
    by_cases z : b = a
    · subst z; rw [upd_same, hu]
    · rw [upd_ne z, keep z g0 hw, hw]
  refine ⟨grow, ⟨fun b o e => ?_, ⟨fun b xs e => ?_, fun b w c e => ?_, fun b e => ?_, fun b xs e => ?_⟩, R.len, fun i d e => ?_, fun i d e => ?_, fun i k d e => ?_, R.dj, R.ij, R.nd, fun b hb e => ?_, fun b o e e' => ?_⟩⟩
  · have ne : b ≠ a := fun z => by rw [z, fa] at e; cases e
    rw [upd_ne ne]
    cases g0 : G b with
    | none => exact keep ne g0 (R.fx b o e)
    | some w =>
      rcases R.fg b o e (by rw [g0]; exact fun z => nomatch z) with ⟨ob, w', rfl⟩ | ⟨xs, rfl⟩
      · exact same b _ (cut_frz List.not_mem_nil (by rw [upd_ne ne]; exact R.fx b _ e))
      · exact same b _ (cut_tup List.not_mem_nil (by rw [upd_ne ne]; exact R.fx b _ e))
  · obtain ⟨ne, g⟩ := up e
    rw [upd_ne ne]
    exact l.tp b xs g
  · have key : ∀ {o : HO}, G1 b = some o → b ≠ a ∧ G' b = some o := up
    rcases e with e | ⟨o, e⟩
    · obtain ⟨ne, g⟩ := key e
      rcases l.rd b w c (.inl g) with q | ⟨o', q⟩
      · exact .inl (by rw [upd_ne ne]; exact q)
      · exact .inr ⟨o', by rw [upd_ne ne]; exact q⟩
    · obtain ⟨ne, g⟩ := key e
      rcases l.rd b w c (.inr ⟨o, g⟩) with q | ⟨o', q⟩
      · exact .inl (by rw [upd_ne ne]; exact q)
      · exact .inr ⟨o', by rw [upd_ne ne]; exact q⟩
  · by_cases z : b = a
    · rw [z]; exact g1a
    · rw [upd_ne z] at e
      cases g : G1 b with
      | none => rfl
      | some o =>
        have := l.dm b e
        rw [(up g).2] at this
        cases this
  · by_cases z : b = a
    · rw [z]; exact .inl g1a
    · rw [upd_ne z] at e
      cases g : G1 b with
      | none => exact .inl rfl
      | some o =>
        rcases l.tq b xs e with q | q
        · rw [(up g).2] at q; cases q
        · rw [(up g).2] at q
          exact .inr q
  · obtain ⟨v, h1, h2⟩ := R.fz i d e
    exact ⟨v, h1, Rv.le grow.toLe d v h2⟩
  · obtain ⟨b, h1, h2, h3, h4, h5⟩ := R.ow i d e
    have nb : G1 b = none := by
      obtain ⟨w, hw, cw, _⟩ := h2.some
      by_cases z : b = a
      · rw [z]; exact g1a
      · rcases hg b with h | ⟨_, _, _, xs, h⟩
        · rw [h]; exact h4
        · have := l.tp b xs h
          rw [keep z h4 hw] at this
          cases this
          cases cw
    exact ⟨b, h1, ow h2 h4, h3, nb, h5⟩
  · obtain ⟨b, h1, hk, h2, h3, h4⟩ := R.io i k d e
    have nb : G1 b = none := by
      obtain ⟨w, hw, cw, _⟩ := h2.some
      by_cases z : b = a
      · rw [z]; exact g1a
      · rcases hg b with h | ⟨_, _, _, xs, h⟩
        · rw [h]; exact h4
        · have := l.tp b xs h
          rw [keep z h4 hw] at this
          cases this
          cases cw
    exact ⟨b, h1, hk, ow h2 h4, h3, nb⟩
  · by_cases z : b = a
    · subst z; rw [upd_same] at e; cases e
    · rw [upd_ne z] at e
      cases hb2 : H b with
      | none => exact R.al b hb hb2
      | some w =>
        cases g0 : G b with
        | none => rw [keep z g0 hb2] at e; cases e
        | some o =>
          have := l.dm b e
          rw [sub g0] at this
          cases this
  · rcases hg b with h | ⟨h0, h1, h2, xs, h3⟩
    · exact R.fg b o e (by rw [← h]; exact e')
    · have hb2 := R.fx b o e
      have := keep h1 h0 hb2
      have q := l.tp b xs h3
      rw [this] at q
      cases q
      exact .inr ⟨xs, rfl⟩
theorem owns_ref (R : Rp K F A G en σ H) {i : Nat} (h : owns en i = true) : ∃ a, σ[i]? = some (some (.ref a)) := by
  unfold owns at h
  cases e : en[i]? with
  | none => rw [e] at h; cases h
  | some s =>
    rw [e] at h
    cases s with
    | un => cases h
    | fz _ => cases h
    | ow d => obtain ⟨a, h1, _⟩ := R.ow i d e; exact ⟨a, h1⟩
    | io k d => obtain ⟨a, h1, _⟩ := R.io i k d e; exact ⟨a, h1⟩
/-- the answer of such a call is numbers, texts, or a tuple of these -/
theorem flat_keep {a : Addr} {u : HO} (cu : Cn u = true) {G' : Hp} (sub : ∀ b o, G b = some o → G' b = some o) (ga' : G' a = some u) : ∀ {d : D} {v : V}, flatT d = true → Rv K G' d v →
    ∃ G1 : Hp, Rv K G1 d v ∧ ∀ b, G1 b = G b ∨ (G b = none ∧ b ≠ a ∧ G1 b = G' b ∧ ∃ xs, G' b = some (.tup xs))
  | .none, v, _, h => ⟨G, h, fun _ => .inl rfl⟩
  | .bool _, v, _, h => ⟨G, h, fun _ => .inl rfl⟩
  | .int _, v, _, h => ⟨G, h, fun _ => .inl rfl⟩
  | .str _, v, _, h => ⟨G, h, fun _ => .inl rfl⟩
  | .tuple ds, v, hf, ⟨T, vs, e, tq, h⟩ => by
    rcases tq with tq | st
    · have ne : T ≠ a := fun z => by rw [z, ga'] at tq; cases tq; cases cu
      cases g : G T with
      | some o =>
        have := sub T o g
        rw [tq] at this
        cases this
        exact ⟨G, ⟨T, vs, e, .inl g, flats_rvs hf h⟩, fun _ => .inl rfl⟩
      | none =>
        refine ⟨upd G T (.tup vs), ⟨T, vs, e, .inl upd_same, flats_rvs hf h⟩, fun b => ?_⟩
        by_cases z : b = T
        · subst z
          exact .inr ⟨g, ne, by rw [upd_same, tq], vs, tq⟩
        · exact .inl (upd_ne z)
    · exact ⟨G, ⟨T, vs, e, .inr st, flats_rvs hf h⟩, fun _ => .inl rfl⟩
theorem sound_callB {E : XE} {E1 : XK} {b : Nat} {f : Fn} {l : BA} {t : TA} (hT : ∀ (G : Hp) σ H (Q : List V → Hp → Prop) vs, Bv K G σ l vs → Q vs H → t σ H Q) (cold : ¬ ∃ ds x o, f ds = .er x o) :
    SoundE K mg E (tLockE (tCall (spF K mg (l.map fun _ => false) f) [] E1 t)) (eCallB b f l) := by
  intro F A G en σ H R Q k
  unfold eCallB at k
  by_cases ho : owns en b = true
  · rw [if_pos ho] at k
    obtain ⟨a, hs⟩ := owns_ref R ho
    obtain ⟨⟨d0, hr, own⟩, fa, ga, _⟩ := owns_at R ho hs
    obtain ⟨u, hu, cu, mu⟩ := own.some
    cases e1 : bVals en b l with
    | none => simp only [e1] at k; exact k.elim
    | some ds =>
      simp only [e1] at k
      obtain ⟨vs, bv⟩ := bv_ex R hs e1
      have leG : Le G (upd G a u) := by
        refine ⟨fun c xs e => ?_, fun c w hc e => ?_, fun c e => ?_, fun c xs e => ?_⟩
        · rw [upd_ne (ne_of_none e ga)]; exact e
        · rcases e with e | ⟨o, e⟩
          · exact .inl (by rw [upd_ne (ne_of_none e ga)]; exact e)
          · exact .inr ⟨o, by rw [upd_ne (ne_of_none e ga)]; exact e⟩
        · by_cases z : c = a
          · rw [z]; exact ga
          · rw [upd_ne z] at e; exact e
        · by_cases z : c = a
          · rw [z]; exact .inl ga
          · rw [upd_ne z] at e; exact .inr e
      refine ⟨a, u, hu, mu, fun od => ?_⟩
      refine hT G σ _ _ vs bv ?_
      show spF K mg _ f (vs ++ []) _ _ E1
      rw [List.append_nil]
      refine ⟨[], upd G a u, ds, bargs R hs hr ga (own_rv own hu leG) leG e1 bv, ?_, List.nodup_nil, ?_⟩
      · refine ⟨fun c xs e => ?_, fun c w hc e => ?_, fun c e => ?_, fun c xs e => ?_⟩
        · have ne : c ≠ a := fun z => by rw [z, upd_same] at e; cases e; cases cu
          rw [upd_ne ne] at e ⊢
          exact R.gx.tp c xs e
        · by_cases z : c = a
          · subst z
            rcases e with e | ⟨o, e⟩
            · rw [upd_same] at e; cases e; exact .inr ⟨od, upd_same⟩
            · rw [upd_same] at e; cases e; cases cu
          · have e' : Rd G c w := by
              rcases e with e | ⟨o, e⟩
              · exact .inl (by rw [upd_ne z] at e; exact e)
              · exact .inr ⟨o, by rw [upd_ne z] at e; exact e⟩
            rcases R.gx.rd c w hc e' with q | ⟨o, q⟩
            · exact .inl (by rw [upd_ne z]; exact q)
            · exact .inr ⟨o, by rw [upd_ne z]; exact q⟩
        · have ne : c ≠ a := fun z => by rw [z, upd_same] at e; cases e
          rw [upd_ne ne] at e ⊢
          exact R.gx.dm c e
        · have ne : c ≠ a := fun z => by rw [z, upd_same] at e; cases e
          rw [upd_ne ne] at e ⊢
          exact R.gx.tq c xs e
      · cases e2 : f ds with
        | st => simp only [e2] at k; exact k.elim
        | oko _ _ => simp only [e2] at k; exact k.elim
        | er x o => exact absurd ⟨ds, x, o, e2⟩ cold
        | ok r outs =>
          simp only [e2] at k
          intro v G' H' gr lg same o rr
          by_cases hf : flatT r = true
          · rw [if_pos hf] at k
            have ga' : G' a = some u := gr.le a u upd_same
            obtain ⟨G1, rv1, hg⟩ := flat_keep (G := G) cu (fun c w e => gr.le c w (by rw [upd_ne (ne_of_none e ga)]; exact e)) ga' hf rr
            obtain ⟨g1, R1⟩ := R.borrow hu cu fa ga gr lg same hg
            exact ⟨same a _ (cut_frz List.not_mem_nil upd_same), k v G1 _ g1 R1 rv1⟩
          · rw [if_neg hf] at k
            exact k.elim
  · rw [if_neg ho] at k
    exact k.elim
end
/-! the rule -/
section
variable {X : Cx} {E : XE}
structure SBA (X : Cx) (es : List Expr) (t : TA) (l : BA) : Prop where
  pa : PA X es t
  snd : ∀ (G : Hp) σ H (Q : List V → Hp → Prop) vs, Bv X.K G σ l vs → Q vs H → t σ H Q
theorem sba_nil : SBA X [] tNil [] := ⟨pa_nil, fun G σ H Q vs h q => by cases (show vs = [] from h); exact q⟩
theorem sba_v (i : Nat) {x : Str} {pos : Pos} {es : List Expr} {t : TA} {l : BA} (k : SBA X es t l) (hN : X.N[i]? = some x := by rfl) (hv : Vis X.env.scope x := by first | exact Or.inl rfl | exact Or.inr (Or.inl rfl) | exact Or.inr (Or.inr rfl)) (hd : (x == ("__debug__" : Str)) = false := by decide)
    (hcd : (x == ("__classdict__" : Str)) = false := by decide) (hs : starEach (.Name x pos :: es) X.env = (false, eval (.Name x pos) X.env) :: starEach es X.env := by rfl) : SBA X (.Name x pos :: es) (tCons (tVar i) t) (.inl i :: l) :=
  ⟨pa_cons (pv i hN hv hd hcd) k.pa hs, fun G σ H Q vs ⟨v, r, e, h1, h2⟩ q => ⟨v, h1, k.snd G σ H _ r h2 (by rw [← e]; exact q)⟩⟩
theorem sba_int {i : Int} {j : Nat} {pos : Pos} {es : List Expr} {t : TA} {l : BA} (k : SBA X es t l) (hs : starEach (.Constant (.int i) j pos :: es) X.env = (false, eval (.Constant (.int i) j pos) X.env) :: starEach es X.env := by rfl) :
    SBA X (.Constant (.int i) j pos :: es) (tCons (tC (.int i)) t) (.inr (.int i) :: l) :=
  ⟨pa_cons pe_int k.pa hs, fun G σ H Q vs ⟨v, r, e, h1, h2⟩ q => k.snd G σ H _ r h2 (by rw [show V.int i :: r = vs by rw [e, show v = V.int i from h1]]; exact q)⟩
theorem se_callB (b : Nat) {j k : Nat} {x : Str} {ps : List Str} {io : List Bool} {f : Fn} {e : Expr} {es : List Expr} {t : TA} {l : BA} {p pos : Pos} (h : Has X.prog X.w X.K X.mg X.base j x ps io f) (calm : Calm X.A) (room : Room k X.A) (le : j ≤ k) (args : SBA X (e :: es) t l)
    (hio : (l.map fun _ => false) = io := by rfl) (glob : Gl X x := by rfl) (nodbg : (x == ("__debug__" : Str)) = false := by decide) (st : starEach (e :: es) X.env = (false, eval e X.env) :: starEach es X.env := by rfl) (pl : (backTo pos (starEach es X.env)).any (·.1) = false := by rfl) :
    SE X E (.Call (.Name x p) (e :: es) [] pos) (tLockE (tCall (spF X.K X.mg (l.map fun _ => false) f) [] L2.E0 t)) (eCallB b f l) := by
  subst hio
  obtain ⟨a, fd, h1, h2, h3, h4⟩ := h.ex
  exact ⟨pe_lock (pe_callG (h4.up le) calm room glob h1 h2 h3 pass0 args.pa nodbg st pl), sound_callB args.snd h.cold⟩
end
end Fx

set_option Elab.async false
set_option linter.all false
set_option maxRecDepth 100000
/-! a, b = x, y where a comprehension reads one of the names: a tuple is made -/
namespace Fx
open PySem PySem.Spec PySem.W PyProof.Rows L2
section
variable {K : PySem.W.Frag} {mg : Str → Option Value} {F : Hp} {A : List Addr} {G H : Hp} {en : En} {σ : L2.St}
theorem sls_fresh {p : Addr} {u : HO} (hp : H p = none) : ∀ {ls : List Sl} {vs : List V} {F : Hp}, Sls K F A G H en σ ls vs → Sls K F A G (upd H p u) en σ ls vs
  | [], _, _, h => h
  | .fz d :: r, _, _, ⟨v, w, e, h1, h2⟩ => ⟨v, w, e, h1, sls_fresh hp h2⟩
  | .ow d :: r, _, _, ⟨a, w, e, h1, h2, h3⟩ => by
    refine ⟨a, w, e, h1.step (Le.refl G) ?_, h2, sls_fresh hp h3⟩
    obtain ⟨o, ho, _⟩ := h1.some
    rw [upd_ne (ne_of_none ho hp)]
  | .un :: _, _, _, h => h.elim
  | .io _ _ :: _, _, _, h => h.elim
theorem sls_length : ∀ {ls : List Sl} {vs : List V} {F : Hp}, Sls K F A G H en σ ls vs → vs.length = ls.length
  | [], _, _, h => by rw [show _ = [] from h]; rfl
  | .fz d :: r, _, _, ⟨v, w, e, h1, h2⟩ => by rw [e, List.length_cons, List.length_cons, sls_length h2]
  | .ow d :: r, _, _, ⟨a, w, e, h1, h2, h3⟩ => by rw [e, List.length_cons, List.length_cons, sls_length h3]
  | .un :: _, _, _, h => h.elim
  | .io _ _ :: _, _, _, h => h.elim
theorem sound_parT {E : XE} {t : TA} {f : EM} {i j : Nat} (h : SoundM K mg E t f) : SoundS K mg E (tAsg (tTup t) (gTup K 2 (gCons (gName i) (gCons (gName j) gNil)))) (sPar i j f) := by
  intro F A G en σ H R Dn k
  refine h F A G en σ H R _ (Then.imp (Then.bind k) (fun ls en1 k1 vs G1 H1 g1 R1 r1 => ?_) fun _ _ z => z.ke)
  match ls, k1, r1 with
  | [s1, s2], k1, r1 =>
    have k1' : Then (match setSl i s1 en1 with
      | some en => match setSl j s2 en with
        | some en => Rs.ok .nx en
        | none => .st
      | none => .st) (KoS K F A G Dn) (KeS K mg E F A G) := k1
    have hl := sls_length r1
    refine ⟨by rw [hl]; show 2 ≤ sizeLine; decide, fun p hp => ⟨p, vs, rfl, .inl (.inl upd_same), hl, ?_⟩⟩
    have R1 := R1.fresh (u := .tup vs) hp
    have r1 := sls_fresh (u := .tup vs) hp r1
    cases q1 : setSl i s1 en1 with
    | none => rw [q1] at k1'; exact k1'.elim
    | some en2 =>
      rw [q1] at k1'
      cases q2 : setSl j s2 en2 with
      | none => simp only [q2] at k1'; exact k1'.elim
      | some en3 =>
        simp only [q2] at k1'
        obtain ⟨v, w, rfl, R2, r2⟩ := sls_store R1 r1 q1
        obtain ⟨v2, w2, rfl, R3, r3⟩ := sls_store R2 r2 q2
        cases r3
        exact ⟨v, [v2], rfl, v2, [], rfl, rfl, k1' _ G1 _ g1 R3⟩
end
section
variable {X : Cx} {E : XE}
theorem ss_parT (i j : Nat) {x y : Str} {a b : Expr} {ta : TA} {f : EM} {px py pt pos : Pos} {kt k2 pt2} (nd : X.N.Nodup) (h : SM X E [a, b] ta f) (calm : X.calm = true := by rfl) (hi : X.N[i]? = some x := by rfl) (hj : X.N[j]? = some y := by rfl)
    (hx : Loc X.env.scope x := by first | exact Or.inl rfl | exact Or.inr rfl) (hy : Loc X.env.scope y := by first | exact Or.inl rfl | exact Or.inr rfl)
    (fx : X.fn x = true ∨ X.env.scope.names.lookup x = some .local := by first | exact .inl rfl | exact .inr rfl) (fy : X.fn y = true ∨ X.env.scope.names.lookup y = some .local := by first | exact .inl rfl | exact .inr rfl)
    (g1 : (assignEach [.Name x px, .Name y py] X.env).map (·.2) = assign (.Name x px) X.env :: (assignEach [.Name y py] X.env).map (·.2) := by rfl) (g2 : (assignEach [.Name y py] X.env).map (·.2) = assign (.Name y py) X.env :: (assignEach [] X.env).map (·.2) := by rfl)
    (hn : (assignEach [.Name x px, .Name y py] X.env).length = 2 := by rfl) (hst : (assignEach [.Name x px, .Name y py] X.env).findIdx? (·.1) = none := by rfl)
    (hs : swapsWithSole [.Tuple [.Name x px, .Name y py] kt pt] (.Tuple [a, b] k2 pt2) pos.line X.env = pure false := by rfl) (hw : swappedStores [.Tuple [.Name x px, .Name y py] kt pt] (.Tuple [a, b] k2 pt2) X.env = pure none := by rfl)
    (h1 : (assignEach [.Tuple [.Name x px, .Name y py] kt pt] X.env).map (·.2) = [assign (.Tuple [.Name x px, .Name y py] kt pt) X.env] := by rfl) :
    SS X E (.Assign [.Tuple [.Name x px, .Name y py] kt pt] (.Tuple [a, b] k2 pt2) pos) (tAsg (tTup ta) (gTup X.K 2 (gCons (gName i) (gCons (gName j) gNil)))) (sPar i j f) :=
  ⟨ps_asg (pe_tup h.pa) (pg_tup calm (pgs_cons (pg_name nd hi hx fx) (pgs_cons (pg_name nd hj hy fy) pgs_nil g2) g1) hn hst) hs hw h1, sound_parT h.snd⟩
end
end Fx

set_option Elab.async false
set_option linter.all false
set_option maxRecDepth 100000
/-! sorted(t) of a tuple of whole numbers -/
namespace Fx
open PySem PySem.Spec PySem.W PyProof.Rows L2 SrtO
section
variable {prog : Program} {w : World} {A : Around} {E : Value → Shared → Prop} {s : Shared}
theorem collect_tup {l : Addr} {vs : List Value} {Q : List Value → Shared → Prop} (hl : IsTup s.heap l vs.toArray)
    (h : Q vs { s with heap := (s.heap.push (seqObj "list" #[] 0)).update s.heap.objs.size (Obj.mapSeq (· ++ vs.toArray)) }) (hsz : vs.length ≤ sizeLine) :
    wpAny (model prog w) A (collect (.ref l)) Q E s := by
  obtain ⟨o, ho, hc, n, hd⟩ := id hl
  unfold collect
  refine wpAny_bind (wpAny_runValue (codeAny_builtin entry_proto_collect' ?_))
  show wpAny _ _ (do again (.builtin "list.__iadd__" ⟨[← newList [], .ref l], []⟩)) _ _ s
  refine wpAny_bind (wpAny_newList (wpAny_pure ⟨Code.quiet_builtin _ (by decide +kernel), codeAny_builtin entry_list_iadd' ?_⟩))
  show wpAny _ _ (Builtin.List.listExtendWith (.ref s.heap.objs.size) (.ref l) (.ref s.heap.objs.size)) _ _ { s with heap := s.heap.push (seqObj "list" #[] 0) }
  unfold Builtin.List.listExtendWith
  have ho' : (s.heap.push (seqObj "list" #[] 0)).get? l = some o := Heap.get?_push_of_some _ ho
  refine wpAny_bind (wpAny_typeOf (T := "tuple") ⟨o, ho', hc⟩ ?_)
  have ht : (Value.type "tuple" == Value.type "tuple") = true := by rfl
  rw [if_pos (by rw [ht]; simp)]
  refine wpAny_bind (listItems_at ho' hd ?_)
  refine wpAny_bind (listItems_at (xs := #[]) (n := 0) (Heap.get?_push_size _ rfl) rfl ?_)
  rw [if_neg (by simp)]
  refine wpAny_bind (listUpdate_at (xs := #[]) (n := 0) (Heap.get?_push_size _ rfl) rfl ?_ (Nat.zero_le _) (by show (#[] ++ vs.toArray).size ≤ sizeLine + 1; simp only [Array.size_append, List.size_toArray, List.length_nil]; omega))
  refine wpAny_pure ?_
  show wpAny (model prog w) A (do
      let o ← load s.heap.objs.size
      match o.data with
      | .seq xs _ => pure xs.toList
      | _ => unsupported "internal:collect") Q E { s with heap := (s.heap.push (seqObj "list" #[] 0)).update s.heap.objs.size (Obj.mapSeq (· ++ vs.toArray)) }
  refine wpAny_bind (wpAny_load (get?_update_seq (Heap.get?_push_size _ rfl) _) ?_)
  show wpAny _ _ (pure ((#[] : Array Value) ++ vs.toArray).toList) Q E _
  rw [show ((#[] : Array Value) ++ vs.toArray).toList = vs by simp]
  exact wpAny_pure h
theorem sorted_tup {l : Addr} {vs : List Value} {ltv : Value → Value → Bool} {Q : Value → Shared → Prop} (O : Swo ltv) (hl : IsTup s.heap l vs.toArray) (hz : vs.length ≤ sizeLine)
    (hS : 2 ≤ vs.length → ∀ (h₁ : Heap) (a : Addr), h₁.get? a = some (seqObj "list" vs.toArray 0) → (∀ b o, s.heap.get? b = some o → b ≠ a ∧ h₁.get? b = some o) → SortableO prog w A.in1.in1 { s with heap := h₁ } a vs ltv)
    (h : ∀ out : List Value, Srtd ltv out → Stb ltv out vs → Q (.ref (s.heap.objs.size + 1)) { s with heap := sortedAll s.heap vs out.toArray }) :
    wpAny (model prog w) A (call (.builtin "sorted") [.ref l]) Q E s := by
  refine Calls.call_function_entry kind_sorted plain_sorted entry_sorted (args_sorted1 _) ?_
  unfold Builtin.«sorted»
  refine wpAny_bind (m := checkCount "sorted" 1 1 _) (wpAny_pure ?_)
  refine wpAny_bind (collect_tup hl ?_ hz)
  refine wpAny_bind (wpAny_newList ?_ hz)
  have hsz : ((s.heap.push (seqObj "list" #[] 0)).update s.heap.objs.size (Obj.mapSeq (· ++ vs.toArray))).objs.size = s.heap.objs.size + 1 := by
    rw [Heap.size_update, size_push']
  have hoL : (((s.heap.push (seqObj "list" #[] 0)).update s.heap.objs.size (Obj.mapSeq (· ++ vs.toArray))).push (seqObj "list" vs.toArray 0)).get? (s.heap.objs.size + 1) = some (seqObj "list" vs.toArray 0) := by
    rw [← hsz]; exact Heap.get?_push_size _ rfl
  have keep : ∀ b o, s.heap.get? b = some o → b ≠ s.heap.objs.size + 1 ∧ (((s.heap.push (seqObj "list" #[] 0)).update s.heap.objs.size (Obj.mapSeq (· ++ vs.toArray))).push (seqObj "list" vs.toArray 0)).get? b = some o := fun b o q => by
    have hlt : b < s.heap.objs.size := Heap.lt_size q
    refine ⟨Nat.ne_of_lt (Nat.lt_succ_of_lt hlt), Heap.get?_push_of_some _ ?_⟩
    rw [Heap.get?_update_ne _ _ _ _ (Nat.ne_of_lt hlt)]
    exact Heap.get?_push_of_some _ q
  show wpAny _ _ _ _ _ { s with heap := ((s.heap.push (seqObj "list" #[] 0)).update s.heap.objs.size (Obj.mapSeq (· ++ vs.toArray))).push (seqObj "list" vs.toArray 0) }
  rw [hsz]
  refine wpAny_bind (wpAny_holding (wpAny_call_entry slot_list_sort ⟨_, hoL, rfl⟩ entry_list_sort (list_sort_ord O hoL hz (fun h2 => hS h2 _ _ hoL keep) fun out hs hb => ⟨_, rfl, ?_⟩) (args_list_sort _)))
  exact wpAny_pure ⟨_, rfl, h out hs hb⟩
end
def rSortedT (K : PySem.W.Frag) : List V → Hp → VK → Prop := fun vs H Q => ∃ (a : Addr) (ns : List Int), vs = [V.ref a] ∧ SqT K H a (ns.map V.int) ∧ ∀ (ns' : List Int) (p : Addr), ns'.Perm ns → ns'.Pairwise (· ≤ ·) → H p = none → Q (.ref p) (upd H p (.lst (ns'.map V.int)))
section
variable {X : Cx}
theorem cr_sortedT : CallR X (.builtin "sorted") (rSortedT X.K) := by
  intro pins s σ H vs us Q I r h
  obtain ⟨a, ns, rfl, hs, q⟩ := h
  obtain ⟨its, rv, hl, hz⟩ := I.tuple hs
  rw [Vals.ref1 r]
  have hi := rv.ints
  refine sorted_tup SrtO.swo_int hl (by rw [← rv.length]; exact hz) (fun h2 h₁ a' _ _ => SrtO.ints_sortable hi h2) fun out h1 h2 => ?_
  obtain ⟨k1, k2, k3⟩ := SrtO.ints_out hi h1 h2
  obtain ⟨ep, he'⟩ := PyProof.Rows.sortedAll_at s.heap its out.toArray
  have hlen : ((out.map SrtO.iv).map V.int).length ≤ sizeLine := by
    rw [List.length_map, k2.length_eq]
    rw [List.length_map] at hz
    exact hz
  exact ⟨.ref _, upd H (s.heap.objs.size + 1) (.lst ((out.map SrtO.iv).map V.int)), I.laid (t' := s.toks) (fun _ _ => PyProof.Rows.sortedAll_old) (Nat.le_succ _) ⟨hlen, out, ep, vals_of_ints k1, he'⟩, rfl, q _ _ k2 k3 (I.hok.fresh (Nat.le_succ _))⟩
end
def oSortA (f : EE) : EO := fun en => (f en).bind fun x en => match rd x en with
  | some (.list ds) => match intsD ds with
    | some ns => .ok (.list ((ns.mergeSort leI).map .int)) en
    | none => .st
  | some (.tuple ds) => match intsD ds with
    | some ns => .ok (.list ((ns.mergeSort leI).map .int)) en
    | none => .st
  | _ => .st
section
variable {K : PySem.W.Frag} {mg : Str → Option Value}
theorem sound_sortA {E : XE} {t : TE} {f : EE} (h : SoundE K mg E t f) : SoundO K mg E (tCB (fun vs H Q => rSortedI K vs H Q ∨ rSortedT K vs H Q) (tCons t tNil)) (oSortA f) := by
  intro F A G en σ H R Q k
  refine h F A G en σ H R _ (Then.imp (Then.bind k) (fun x en1 k1 v G1 H1 g1 R1 r1 => ?_) fun _ _ z => z)
  show rSortedI K [v] H1 Q ∨ rSortedT K [v] H1 Q
  split at k1
  · rename_i ds e1
    split at k1
    · rename_i ns e2
      obtain ⟨a, vs, rfl, h1, h2⟩ := (show Rc K G1 H1 (.list ds) v from rd_rc R1 r1 e1)
      rw [intsD_eq e2] at h2
      have hv := rvsI h2
      subst hv
      refine .inl ⟨a, ns, rfl, h1, fun ms p pm po hp => ?_⟩
      rw [sort_eq pm po]
      refine k1 p G1 _ g1 (R1.fresh hp) ⟨_, upd_same, irvs _⟩ ?_
      have n := R1.free_new hp
      exact ⟨n.f, n.g, n.n, n.s⟩
    · exact k1.elim
  · rename_i ds e1
    split at k1
    · rename_i ns e2
      obtain ⟨a, vs, rfl, h1, h2⟩ := (show Rv K G1 (.tuple ds) v from rd_rc R1 r1 e1)
      rw [intsD_eq e2] at h2
      have hv := rvsI h2
      subst hv
      refine .inr ⟨a, ns, rfl, (h1.le R1.gx).sq, fun ms p pm po hp => ?_⟩
      rw [sort_eq pm po]
      refine k1 p G1 _ g1 (R1.fresh hp) ⟨_, upd_same, irvs _⟩ ?_
      have n := R1.free_new hp
      exact ⟨n.f, n.g, n.n, n.s⟩
    · exact k1.elim
  · exact k1.elim
end
section
variable {X : Cx} {E : XE}
theorem so_sortA {x : Str} {e : Expr} {t : TE} {f : EE} {p pos : Pos} (hm : X.mg x = none) (hv : bootBuiltins x = some (.builtin "sorted")) (h : SE X E e t f)
    (hg : Gl X x := by rfl) (hn : x ≠ "__name__" := by decide) (hd : (x == ("__debug__" : Str)) = false := by decide) (he : starEach [e] X.env = (false, eval e X.env) :: starEach [] X.env := by rfl) (hpl : (backTo pos (starEach [] X.env)).any (·.1) = false := by rfl) :
    SO X E (.Call (.Name x p) [e] [] pos) (tCB (fun vs H Q => rSortedI X.K vs H Q ∨ rSortedT X.K vs H Q) (tCons t tNil)) (oSortA f) := ⟨pe_callB (CallR.or cr_sortedI cr_sortedT) hg hm hv (pa_cons h.pe pa_nil he) hn hd he hpl, sound_sortA h.snd⟩
end
theorem op_eqA {X : Cx} (hu : X.A.units + 65 < cLine) : OpR X (compareOp .Eq) (fun x y H Q => rEqD X.K x y H Q ∨ rEqT X.K x y H Q) := (op_eqD (by omega)).or (op_eqT hu)
end Fx

set_option Elab.async false
set_option linter.all false
set_option maxRecDepth 100000
namespace Fx
open PySem PySem.Spec PySem.W PyProof.Rows L2

/-! ### min, max of a tuple -/
def rBestT (K : PySem.W.Frag) (best : D → List D → D) (vs : List V) (H : Hp) (Q : VK) : Prop := ∃ a ys d ds, vs = [V.ref a] ∧ SqT K H a ys ∧ DpAll K H ys (d :: ds) ∧ AlikeAll (d :: ds) ∧ PyData.depthAll (d :: ds) ≤ 60 ∧
  ∀ (i : Nat) y e, ys[i]? = some y → (d :: ds)[i]? = some e → e = best d ds → Q y H
def oBestA (best : D → List D → D) : D → Option D
  | .list (d :: ds) => if alikeB (d :: ds) = true ∧ PyData.hasDictAll (d :: ds) = false ∧ PyData.depthAll (d :: ds) ≤ 60 then some (best d ds) else none
  | .tuple (d :: ds) => if alikeB (d :: ds) = true ∧ PyData.hasDictAll (d :: ds) = false ∧ PyData.depthAll (d :: ds) ≤ 60 then some (best d ds) else none
  | _ => none
def oMinA : D → Option D := oBestA minD
def oMaxA : D → Option D := oBestA maxD
section
variable {K : PySem.W.Frag} {mg : Str → Option Value}
theorem sound_bestA {best : D → List D → D} : SoundUn K (fun v H Q => rBest K best [v] H Q ∨ rBestT K best [v] H Q) (oBestA best) := by
  intro F A G en σ H R x v z r e Q k
  unfold oBestA at e
  split at e
  · rename_i d ds
    split at e
    · rename_i hc
      cases e
      obtain ⟨a, vs, rfl, h1, h2⟩ := r
      refine .inl ⟨a, vs, d, ds, rfl, h1, Rvs.dp R.gx _ _ hc.2.1 h2, alikeB_ok hc.1, hc.2.2, fun i y e hy he e2 => k _ G H (.refl _ _) R ?_⟩
      have := h2.get' he hy
      rw [e2] at this
      exact this
    · cases e
  · rename_i d ds
    split at e
    · rename_i hc
      cases e
      obtain ⟨a, vs, rfl, h1, h2⟩ := r
      refine .inr ⟨a, vs, d, ds, rfl, (h1.le R.gx).sq, Rvs.dp R.gx _ _ hc.2.1 h2, alikeB_ok hc.1, hc.2.2, fun i y e hy he e2 => k _ G H (.refl _ _) R ?_⟩
      have := h2.get' he hy
      rw [e2] at this
      exact this
    · cases e
  · cases e
end
section
variable {X : Cx}
theorem cr_minT (calm : X.calm = true) (room : X.A.units + 64 < cLine) : CallR X (.builtin "min") (rBestT X.K minD) := by
  intro pins s σ H xs us Q I r h
  obtain ⟨a, ys, d, ds, rfl, ha, dp, al, dep, q⟩ := h
  obtain ⟨u, rfl, rx⟩ := r.one
  obtain rfl : u = Value.ref a := rx
  obtain ⟨its, rv, hl, _⟩ := I.tuple ha
  obtain ⟨as, hr⟩ := Dp.readsAll I _ ys its dp rv
  refine min_tuple_data (I.ok.hd calm) hl hr al (by omega) fun i v h' tk bs hv rd k => ?_
  obtain ⟨bs', rd', hi, _⟩ := readsAll_at hr i v (by simpa using hv)
  have e := ((reads_keeps k rd').unique _ _ rd).1
  have hv2 : its[i]? = some v := by simpa using hv
  obtain ⟨y, hy, ry⟩ := vals_at rv hv2
  refine ⟨y, H, I.kept k, ry, q i y _ hy (List.getElem?_eq_getElem hi) ?_⟩
  rw [← e, List.getD_eq_getElem?_getD, List.getElem?_eq_getElem hi]
  rfl
theorem cr_maxT (calm : X.calm = true) (room : X.A.units + 64 < cLine) : CallR X (.builtin "max") (rBestT X.K maxD) := by
  intro pins s σ H xs us Q I r h
  obtain ⟨a, ys, d, ds, rfl, ha, dp, al, dep, q⟩ := h
  obtain ⟨u, rfl, rx⟩ := r.one
  obtain rfl : u = Value.ref a := rx
  obtain ⟨its, rv, hl, _⟩ := I.tuple ha
  obtain ⟨as, hr⟩ := Dp.readsAll I _ ys its dp rv
  refine max_tuple_data (I.ok.hd calm) hl hr al (by omega) fun i v h' tk bs hv rd k => ?_
  obtain ⟨bs', rd', hi, _⟩ := readsAll_at hr i v (by simpa using hv)
  have e := ((reads_keeps k rd').unique _ _ rd).1
  have hv2 : its[i]? = some v := by simpa using hv
  obtain ⟨y, hy, ry⟩ := vals_at rv hv2
  refine ⟨y, H, I.kept k, ry, q i y _ hy (List.getElem?_eq_getElem hi) ?_⟩
  rw [← e, List.getD_eq_getElem?_getD, List.getElem?_eq_getElem hi]
  rfl
theorem cr_minA (calm : X.calm = true) (room : X.A.units + 64 < cLine) : CallR X (.builtin "min") (fun vs H Q => rBest X.K minD vs H Q ∨ rBestT X.K minD vs H Q) := (cr_minD calm room).or (cr_minT calm room)
theorem cr_maxA (calm : X.calm = true) (room : X.A.units + 64 < cLine) : CallR X (.builtin "max") (fun vs H Q => rBest X.K maxD vs H Q ∨ rBestT X.K maxD vs H Q) := (cr_maxD calm room).or (cr_maxT calm room)
end
theorem sound_minA {K : PySem.W.Frag} : SoundUn K (fun v H Q => rBest K minD [v] H Q ∨ rBestT K minD [v] H Q) oMinA := sound_bestA
theorem sound_maxA {K : PySem.W.Frag} : SoundUn K (fun v H Q => rBest K maxD [v] H Q ∨ rBestT K maxD [v] H Q) oMaxA := sound_bestA
end Fx

set_option Elab.async false
set_option linter.all false
set_option maxRecDepth 100000
/-! zip of lists and tuples in any mix; list(zip(..)), whose pairs stay -/
namespace Fx.ZB
open PySem
open PySem.Sem (wp)

/-- a zip whose pair of the last turn is still held -/
abbrev IsZipB (h : Heap) (z TI TO T : Addr) (b : Bool) : Prop := h.get? z = some { cls := .type "zip", dict := none, data := .fields #[rawInt T, .bool b, .bool false, .ref TI, .ref TO], slots := #[] }
section
variable {prog : Program} {w : World} {A : Around} {E : Value → Shared → Prop} {s : Shared} {z TI TO i1 i2 T : Addr} {fp1 fp2 : List Addr} {n1 n2 i : Nat} {P1 P2 : Nat → Value → Prop} {St1 St2 : Nat → Heap → Prop} {b : Bool}
theorem alive_at {a : Addr} {o : Obj} {Q : Option Obj → Shared → Prop} (ho : s.heap.get? a = some o) (h : Q (some o) s) : wpAny (model prog w) A (loadIfAlive a) Q E s := by
  intro Γ p hΓ
  show Sem.wp _ _ (.loadIfAlive a _) _ _ _ _
  rw [Sem.wp_loadIfAlive, ho]
  exact (wpAny_pure h : wpAny (model prog w) A (pure (some o)) Q E s) Γ p hΓ
/-- the pair is held: it is not free -/
theorem busy_free {Q : Bool → Shared → Prop} (hz : IsZipB s.heap z TI TO T b) (hT : ∃ o, s.heap.get? T = some o) (h : ∀ h', IsZipB h' z TI TO T true → Heap.SameBut z s.heap h' → Q false { s with heap := h' }) :
    wpAny (model prog w) A (Builtin.SmallTypes.ownedTupleIsFree (.ref z)) Q E s := by
  obtain ⟨o, ho⟩ := hT
  unfold Builtin.SmallTypes.ownedTupleIsFree
  refine wpAny_bind (wpAny_field hz rfl (x := rawInt T) rfl ?_)
  show wpAny _ _ (loadIfAlive ((T : Int)).toNat >>= _) _ _ _
  rw [Int.toNat_natCast]
  refine wpAny_bind (alive_at ho ?_)
  simp only [Option.isNone_some, Bool.false_eq_true, if_false]
  refine wpAny_bind (wpAny_field hz rfl (x := .bool b) rfl ?_)
  cases b with
  | true =>
    exact wpAny_pure (h _ hz ⟨rfl, fun _ _ => rfl⟩)
  | false =>
    refine wpAny_bind (wpAny_setField_rec hz (by simp) fun g0 hz0 hs0 => ?_)
    exact wpAny_pure (h _ hz0 hs0)
theorem zipB_next_item {Q : Value → Shared → Prop} (S : ZipSep2 z TI TO i1 i2 fp1 fp2) (D1 : Draws prog w A i1 fp1 n1 P1 St1) (D2 : Draws prog w A i2 fp2 n2 P2 St2)
    (hz : IsZipB s.heap z TI TO T b) (hT : ∃ o, s.heap.get? T = some o) (hTI : IsTupOf2 s.heap TI (.ref i1) (.ref i2)) (st1 : St1 i s.heap) (st2 : St2 i s.heap) (hlt1 : i < n1) (hlt2 : i < n2)
    (hQ : ∀ x1 x2 h' tk, P1 i x1 → P2 i x2 → IsZipB h' z TI TO T true → St1 (i + 1) h' → St2 (i + 1) h' → IsTupOf2 h' s.heap.objs.size x1 x2 → h'.objs.size = s.heap.objs.size + 1 →
      (∀ c o, c ≠ z → c ≠ i1 → c ≠ i2 → s.heap.get? c = some o → h'.get? c = some o) → Q (.ref s.heap.objs.size) { s with heap := h', toks := tk }) :
    wpAny (model prog w) A (Builtin.«zip.__next__» ⟨[.ref z], []⟩) (fun fin s' => ∃ v, fin = .done (.ret v) ∧ Q v s') E s := by
  obtain ⟨hp, g, d, tk0, os⟩ := s
  show wpAny _ _ (field (.ref z) 2 >>= _) _ _ _
  refine wpAny_bind (wpAny_field hz rfl (x := .bool false) rfl ?_)
  show wpAny _ _ (field (.ref z) 3 >>= _) _ _ _
  refine wpAny_bind (wpAny_field hz rfl (x := .ref TI) rfl ?_)
  refine wpAny_bind (wpAny_seqItems hTI rfl ?_)
  show wpAny _ _ (Builtin.SmallTypes.ownedTupleIsFree (.ref z) >>= _) _ _ _
  refine wpAny_bind (busy_free hz hT fun g0 hz0 hs0 => ?_)
  replace hs0 : Heap.SameBut z hp g0 := hs0
  simp only [Bool.false_eq_true, if_false]
  refine wpAny_bind ?_
  rw [← Array.forIn_toList]
  simp only [List.forIn_cons, List.forIn_nil]
  refine wpAny_bind (wpAny_bind (wpAny_holding ?_))
  show wpAny _ _ (Builtin.SmallTypes.nextOf (.ref i1) >>= _) _ _ ⟨g0, g, d, tk0, os⟩
  refine wpAny_bind (D1.item i _ _ _ hlt1 (D1.over st1 hs0 S.zf1) fun x1 p1 tk1 hx1 sn1 hp1 => wpAny_pure ?_)
  replace hp1 : Heap.SameBut i1 g0 p1 := hp1
  refine wpAny_pure ?_
  refine wpAny_bind (wpAny_bind (wpAny_holding ?_))
  show wpAny _ _ (Builtin.SmallTypes.nextOf (.ref i2) >>= _) _ _ ⟨p1, g, d, tk1, os⟩
  refine wpAny_bind (D2.item i _ _ _ hlt2 (D2.over (D2.over st2 hs0 S.zf2) hp1 S.sep1_2) fun x2 p2 tk2 hx2 sn2 hp2 => wpAny_pure ?_)
  replace hp2 : Heap.SameBut i2 p1 p2 := hp2
  refine wpAny_pure (wpAny_pure ?_)
  show wpAny _ _ (newTuple [x1, x2] >>= _) _ _ _
  refine wpAny_bind (wpAny_newTuple ?_)
  have hsz : p2.objs.size = hp.objs.size := by rw [hp2.1, hp1.1, hs0.1]
  have hzz : IsZipB p2 z TI TO T true := hp2.extBut _ _ S.zi2 (hp1.extBut _ _ S.zi1 hz0)
  have hj1 : St1 (i + 1) p2 := D1.over sn1 hp2 S.sep2_1
  refine wpAny_pure ⟨_, rfl, ?_⟩
  show Q (.ref p2.objs.size) ⟨p2.push { cls := .type "tuple", data := .seq #[x1, x2] }, g, d, tk2, os⟩
  have hT2 : IsTupOf2 (p2.push { cls := .type "tuple", data := .seq #[x1, x2] }) p2.objs.size x1 x2 := Heap.get?_push_size _ rfl
  have hs2 : (p2.push { cls := .type "tuple", data := .seq #[x1, x2] }).objs.size = p2.objs.size + 1 := Heap.size_push ..
  have up : ∀ c o, p2.get? c = some o → (p2.push { cls := .type "tuple", data := .seq #[x1, x2] }).get? c = some o := fun c o e => Heap.get?_push_of_some _ e
  rw [hsz] at hT2 hs2 ⊢
  exact hQ x1 x2 _ tk2 hx1 hx2 (up _ _ hzz) (D1.frame _ _ _ hj1 fun c _ o e => up c o e) (D2.frame _ _ _ sn2 fun c _ o e => up c o e) hT2 hs2 fun c o cz c1 c2 e => up c o (hp2.extBut _ _ c2 (hp1.extBut _ _ c1 (hs0.extBut _ _ cz e)))
theorem zipB_next_end {Q : Fin → Shared → Prop} (S : ZipSep2 z TI TO i1 i2 fp1 fp2) (D1 : Draws prog w A i1 fp1 n1 P1 St1) (D2 : Draws prog w A i2 fp2 n2 P2 St2)
    (hz : IsZipB s.heap z TI TO T b) (hT : ∃ o, s.heap.get? T = some o) (hTI : IsTupOf2 s.heap TI (.ref i1) (.ref i2)) (st1 : St1 i s.heap) (st2 : St2 i s.heap) (hle1 : i ≤ n1) (hle2 : i ≤ n2) (hend : i = n1 ∨ i = n2)
    (hE : ∀ h' tk e, (∀ c o, c ≠ z → c ≠ i1 → c ≠ i2 → s.heap.get? c = some o → h'.get? c = some o) → (∃ o, h'.get? e = some o ∧ o.cls = .type "StopIteration") → E (.ref e) { s with heap := h', toks := tk }) :
    wpAny (model prog w) A (Builtin.«zip.__next__» ⟨[.ref z], []⟩) Q E s := by
  obtain ⟨hp, g, d, tk0, os⟩ := s
  show wpAny _ _ (field (.ref z) 2 >>= _) _ _ _
  refine wpAny_bind (wpAny_field hz rfl (x := .bool false) rfl ?_)
  show wpAny _ _ (field (.ref z) 3 >>= _) _ _ _
  refine wpAny_bind (wpAny_field hz rfl (x := .ref TI) rfl ?_)
  refine wpAny_bind (wpAny_seqItems hTI rfl ?_)
  show wpAny _ _ (Builtin.SmallTypes.ownedTupleIsFree (.ref z) >>= _) _ _ _
  refine wpAny_bind (busy_free hz hT fun g0 hz0 hs0 => ?_)
  replace hs0 : Heap.SameBut z hp g0 := hs0
  simp only [Bool.false_eq_true, if_false]
  refine wpAny_bind ?_
  rw [← Array.forIn_toList]
  simp only [List.forIn_cons, List.forIn_nil]
  refine wpAny_bind (wpAny_bind (wpAny_holding ?_))
  show wpAny _ _ (Builtin.SmallTypes.nextOf (.ref i1) >>= _) _ _ ⟨g0, g, d, tk0, os⟩
  by_cases hlt1 : i < n1
  · refine wpAny_bind (D1.item i _ _ _ hlt1 (D1.over st1 hs0 S.zf1) fun x1 p1 tk1 hx1 sn1 hp1 => wpAny_pure ?_)
    replace hp1 : Heap.SameBut i1 g0 p1 := hp1
    refine wpAny_pure ?_
    refine wpAny_bind (wpAny_bind (wpAny_holding ?_))
    show wpAny _ _ (Builtin.SmallTypes.nextOf (.ref i2) >>= _) _ _ ⟨p1, g, d, tk1, os⟩
    have e2 : i = n2 := by omega
    subst e2
    exact wpAny_bind (D2.done _ _ _ (D2.over (D2.over st2 hs0 S.zf2) hp1 S.sep1_2) fun h' e eb he => hE h' tk1 e (fun c o cz c1 c2 q => eb c o c2 (hp1.extBut _ _ c1 (hs0.extBut _ _ cz q))) he)
  · have e1 : i = n1 := by omega
    subst e1
    exact wpAny_bind (D1.done _ _ _ (D1.over st1 hs0 S.zf1) fun h' e eb he => hE h' tk0 e (fun c o cz c1 c2 q => eb c o c1 (hs0.extBut _ _ cz q)) he)
end
end Fx.ZB

set_option Elab.async false
set_option linter.all false
set_option maxRecDepth 100000
/-! loops over zip of lists and tuples in any mix -/
namespace Fx.ZB
open PySem PySem.Spec PyProof.Rows L2

/-- a list or a tuple -/
def SqG (K : PySem.W.Frag) (k : Bool) (H : Hp) (a : Addr) (xs : List V) : Prop := match k with
  | true => SqL K H a xs
  | false => SqT K H a xs
def ItAt (k : Bool) (h : Heap) (it a : Addr) (i : Nat) : Prop := match k with
  | true => h.IsListIter it a i
  | false => h.IsTupleIter it a i
def ItemAt (k : Bool) (h : Heap) (a : Addr) (vs : Array Value) : Prop := match k with
  | true => h.IsList a vs
  | false => h.IsTuple a vs
def itObj (k : Bool) (a : Addr) : Obj := { cls := .type (if k = true then "list_iterator" else "tuple_iterator"), data := .fields #[.ref a, .int 0 0] }
theorem ItAt.keep {k : Bool} {h h' : Heap} {it a : Addr} {i : Nat} (x : ItAt k h it a i) (q : ∀ o, h.get? it = some o → h'.get? it = some o) : ItAt k h' it a i := by
  cases k with
  | true => exact Heap.IsListIter.at x q
  | false => exact Heap.IsTupleIter.at x q
theorem ItAt.obj {k : Bool} {h : Heap} {it a : Addr} {i : Nat} (x : ItAt k h it a i) : ∃ o, h.get? it = some o ∧ ∀ v, o.data ≠ .cell v := by
  cases k with
  | true =>
    obtain ⟨o, e, _, d⟩ := x
    exact ⟨o, e, fun v q => by rw [d] at q; cases q⟩
  | false =>
    obtain ⟨o, e, _, d⟩ := x
    exact ⟨o, e, fun v q => by rw [d] at q; cases q⟩
theorem sq_items {X : Cx} {pins : List (Addr × Obj)} {σ : L2.St} {H : Hp} {s : Shared} (I : Inv X pins σ H s) {k : Bool} {a : Addr} {xs : List V} (h : SqG X.K k H a xs) : ∃ its : List Value, Vals xs its ∧ ItemAt k s.heap a its.toArray := by
  cases k with
  | true =>
    obtain ⟨its, rv, p, _⟩ := I.list h
    exact ⟨its, rv, p.isList⟩
  | false =>
    obtain ⟨its, rv, p, _⟩ := I.tuple h
    exact ⟨its, rv, p⟩
theorem sq_inj {X : Cx} {pins : List (Addr × Obj)} {σ : L2.St} {H : Hp} {s : Shared} (I : Inv X pins σ H s) {k : Bool} {a : Addr} {xs ys : List V} (h : SqG X.K k H a xs) (h' : SqG X.K k H a ys) : xs = ys := by
  cases k with
  | true => exact I.list_inj h h'
  | false => exact I.tuple_inj h h'
theorem begG (k : Bool) (a : Addr) (its : Array Value) : Begins (.ref a) (itObj k a) (fun h => ItemAt k h a its) := by
  cases k with
  | true => exact begins_list a its
  | false => exact begins_tuple a its
theorem itG0 {k : Bool} {h : Heap} {it a : Addr} (e : h.get? it = some (itObj k a)) : ItAt k h it a 0 := by
  cases k with
  | true => exact ⟨_, e, rfl, rfl⟩
  | false => exact ⟨_, e, rfl, rfl⟩
theorem drawG {prog : Program} {w : World} {A : Around} (hh : A.handled = none) (k : Bool) (it l : Addr) (hne : l ≠ it) (items : Array Value) :
    Draws prog w A it [it, l] items.size (fun i v => items[i]? = some v) (fun i h => ItAt k h it l i ∧ ItemAt k h l items) := by
  cases k with
  | true => exact Draws.list hh it l hne items
  | false => exact Draws.tuple hh it l hne items
theorem item_ne {k k' : Bool} {h : Heap} {it l a : Addr} {i : Nat} {vs : Array Value} (x : ItAt k h it l i) (y : ItemAt k' h a vs) : a ≠ it := by
  rintro rfl
  have e1 : ∃ o, h.get? a = some o ∧ (o.cls = .type "list_iterator" ∨ o.cls = .type "tuple_iterator") := by
    cases k with
    | true => obtain ⟨o, e, c, _⟩ := x; exact ⟨o, e, .inl c⟩
    | false => obtain ⟨o, e, c, _⟩ := x; exact ⟨o, e, .inr c⟩
  have e2 : ∃ o, h.get? a = some o ∧ (o.cls = .type "list" ∨ o.cls = .type "tuple") := by
    cases k' with
    | true => obtain ⟨o, e, c, _⟩ := y; exact ⟨o, e, .inl c⟩
    | false => obtain ⟨o, e, c, _⟩ := y; exact ⟨o, e, .inr c⟩
  obtain ⟨o, e, c⟩ := e1
  obtain ⟨o', e', c'⟩ := e2
  rw [e] at e'
  cases e'
  rcases c with c | c <;> rcases c' with c' | c' <;> (rw [c] at c'; revert c'; decide)
/-- the items of two at a and b as they stand at each turn, in new pairs -/
def ItzG (K : PySem.W.Frag) (k1 k2 : Bool) (a b : Addr) : It :=
  ⟨fun i H => ∃ (xs ys : List V) (x y : V), SqG K k1 H a xs ∧ SqG K k2 H b ys ∧ xs[i]? = some x ∧ ys[i]? = some y,
    fun i H v H' => ∃ T x y, v = .ref T ∧ H T = none ∧ H' = upd H T (.tup [x, y]) ∧ (∀ xs, SqG K k1 H a xs → xs[i]? = some x) ∧ ∀ ys, SqG K k2 H b ys → ys[i]? = some y,
    fun i H => ∃ xs ys : List V, SqG K k1 H a xs ∧ SqG K k2 H b ys ∧ (xs.length = i ∧ i ≤ ys.length ∨ ys.length = i ∧ i ≤ xs.length)⟩
theorem turn_zipG {P : Program} {w : World} {K : PySem.W.Frag} {elts : List Expr} {kk : Nat} {tpos : Pos} {k1 k2 : Bool} {a b z TI TO i1 i2 : Addr} (D : ZipSep2 z TI TO i1 i2 [i1, a] [i2, b]) :
    Turn P w K (.Tuple elts kk tpos) (ItzG K k1 k2 a b) [z, TI, TO, i1, i2] z (fun i h => IsZip h z TI TO .none ∧ IsTupOf2 h TI (.ref i1) (.ref i2) ∧ (∃ x y, IsTupOf2 h TO x y) ∧ ItAt k1 h i1 a i ∧ ItAt k2 h i2 b i) where
  mem := by simp
  obj := fun i h st c hc => by
    obtain ⟨hz, hTI, ⟨x, y, hTO⟩, h1, h2⟩ := st
    have e' : c = z ∨ c = TI ∨ c = TO ∨ c = i1 ∨ c = i2 := by simpa using hc
    rcases e' with q | q | q | q | q
    · rw [q]; exact ⟨_, hz, fun v q => nomatch q⟩
    · rw [q]; exact ⟨_, hTI, fun v q => nomatch q⟩
    · rw [q]; exact ⟨_, hTO, fun v q => nomatch q⟩
    · rw [q]; exact h1.obj
    · rw [q]; exact h2.obj
  keep := fun i h h' st k => by
    obtain ⟨hz, hTI, ⟨x, y, hTO⟩, h1, h2⟩ := st
    exact ⟨k z (by simp) _ hz, k TI (by simp) _ hTI, ⟨x, y, k TO (by simp) _ hTO⟩, h1.keep fun o q => k i1 (by simp) o q, h2.keep fun o q => k i2 (by simp) o q⟩
  item := by
    intro X hP hw hK hc i pins s σ H E I hf st hg
    subst hP hw hK
    obtain ⟨hz, hTI, ⟨x0, y0, hTO⟩, h1, h2⟩ := st
    obtain ⟨xs, ys, x, y, hqx, hqy, hx, hy⟩ := hg
    obtain ⟨its, rv, p⟩ := sq_items I hqx
    obtain ⟨its2, rv2, p2⟩ := sq_items I hqy
    obtain ⟨u, hu, ru⟩ := rv.get hx
    obtain ⟨u2, hu2, ru2⟩ := rv2.get hy
    have ne1 : a ≠ i1 := item_ne h1 p
    have ne2 : b ≠ i2 := item_ne h2 p2
    have hzl : z < s.heap.objs.size := Heap.lt_size hz
    have hT : s.TypeIs (.ref z) "zip" := ⟨_, hz, rfl⟩
    have l1 : i < its.toArray.size := by have := (List.getElem?_eq_some_iff.mp hu).1; simpa using this
    have l2 : i < its2.toArray.size := by have := (List.getElem?_eq_some_iff.mp hu2).1; simpa using this
    unfold pyNext
    refine wpAny_bind (wpAny_attempt (wpAny_callSpecial?_slot (name := Str.ofString "__next__") hT PySem.F.slot_zip_next
      (wpAny_call_entry PySem.F.slot_zip_next hT PySem.F.entry_zip_next
        (zipD2_next_item D (drawG (A := X.A.in1) (I.ok.hd hc) k1 i1 a ne1 its.toArray) (drawG (A := X.A.in1) (I.ok.hd hc) k2 i2 b ne2 its2.toArray) hz hTI hTO ⟨h1, p⟩ ⟨h2, p2⟩ l1 l2 fun v1 v2 h' tk hv1 hv2 z' TO' s1' s2' hT' hsz hk => wpAny_pure ?_) (PySem.F.args_zip_next_1 _))))
    have ev1 : v1 = u := by have : its.toArray[i]? = some u := by simpa using hu
                            rw [this] at hv1; cases hv1; rfl
    have ev2 : v2 = u2 := by have : its2.toArray[i]? = some u2 := by simpa using hu2
                             rw [this] at hv2; cases hv2; rfl
    subst ev1 ev2
    obtain ⟨h1', p'⟩ := s1'
    obtain ⟨h2', p2'⟩ := s2'
    refine ⟨_, rfl, wpAny_letOwnedTupleGo_zip (s := { s with heap := h', toks := tk }) z' fun h'' z'' sb => ?_⟩
    have hT2 : h''.get? s.heap.objs.size = some { cls := .type "tuple", data := .seq #[v1, v2] } := (sb.2 _ (Nat.ne_of_gt hzl)).trans hT'
    have new : ObjOk X.prog X.w (upd H s.heap.objs.size (.tup [x, y])) h'' s.heap.objs.size (.tup [x, y]) :=
      ⟨by show 2 ≤ sizeLine; decide, [v1, v2], .cons ru (.cons ru2 .nil), ⟨_, hT2, rfl, _, rfl⟩⟩
    have I1 : Inv X pins σ (upd H s.heap.objs.size (.tup [x, y])) { s with heap := h'', toks := tk } :=
      I.turnedNew (t' := tk) (ch := [z, TI, TO, i1, i2]) (fun c o hb q => (sb.2 c (fun q' => hb (by simp [q']))).trans (hk c o (fun q' => hb (by simp [q'])) (fun q' => hb (by simp [q'])) (fun q' => hb (by simp [q'])) (fun q' => hb (by simp [q'])) q)) hf (Nat.le_refl _) new
    refine ⟨.ref s.heap.objs.size, _, I1, rfl, ⟨_, x, y, rfl, I.hok.fresh (Nat.le_refl _), rfl, fun l hl => by rw [sq_inj I hl hqx]; exact hx, fun l hl => by rw [sq_inj I hl hqy]; exact hy⟩, ⟨z'', ?_, ⟨v1, v2, ?_⟩, ?_, ?_⟩, fun c hcm => ?_⟩
    · exact (sb.2 _ D.TIz).trans (hk _ _ D.TIz D.TITO D.TIi1 D.TIi2 hTI)
    · exact (sb.2 _ D.TOz).trans TO'
    · exact h1'.keep fun o q => (sb.2 _ D.zi1.symm).trans q
    · exact h2'.keep fun o q => (sb.2 _ D.zi2.symm).trans q
    · have hlt : c < s.heap.objs.size := by
        have e' : c = z ∨ c = TI ∨ c = TO ∨ c = i1 ∨ c = i2 := by simpa using hcm
        rcases e' with q | q | q | q | q
        · rw [q]; exact hzl
        · rw [q]; exact Heap.lt_size hTI
        · rw [q]; exact Heap.lt_size hTO
        · rw [q]; obtain ⟨_, e1, _⟩ := h1.obj; exact Heap.lt_size e1
        · rw [q]; obtain ⟨_, e2, _⟩ := h2.obj; exact Heap.lt_size e2
      rw [upd_ne (Nat.ne_of_lt hlt)]
      exact (hf c hcm).1
  done := by
    intro X hP hw hK hc i pins s σ H E I hf st hg
    subst hP hw hK
    obtain ⟨hz, hTI, ⟨x0, y0, hTO⟩, h1, h2⟩ := st
    obtain ⟨xs, ys, hqx, hqy, hend⟩ := hg
    obtain ⟨its, rv, p⟩ := sq_items I hqx
    obtain ⟨its2, rv2, p2⟩ := sq_items I hqy
    have l1 := rv.length
    have l2 := rv2.length
    have ne1 : a ≠ i1 := item_ne h1 p
    have ne2 : b ≠ i2 := item_ne h2 p2
    have hT : s.TypeIs (.ref z) "zip" := ⟨_, hz, rfl⟩
    have s1 : its.toArray.size = xs.length := by rw [List.size_toArray]; exact l1.symm
    have s2 : its2.toArray.size = ys.length := by rw [List.size_toArray]; exact l2.symm
    unfold pyNext
    refine wpAny_bind (wpAny_attempt (wpAny_callSpecial?_slot (name := Str.ofString "__next__") hT PySem.F.slot_zip_next
      (wpAny_call_entry PySem.F.slot_zip_next hT PySem.F.entry_zip_next
        (zipD2_next_end (i := i) D (drawG (A := X.A.in1) (I.ok.hd hc) k1 i1 a ne1 its.toArray) (drawG (A := X.A.in1) (I.ok.hd hc) k2 i2 b ne2 its2.toArray) hz hTI hTO ⟨h1, p⟩ ⟨h2, p2⟩ (by omega) (by omega) (by omega) fun h' tk e hk he => ?_) (PySem.F.args_zip_next_1 _))))
    obtain ⟨o, ho, hcl⟩ := he
    refine wpAny_bind (wpAny_isInstance (T := "StopIteration") (b := true) ⟨o, ho, hcl⟩ isSubtype_stop ?_)
    exact wpAny_pure ⟨rfl, I.turnedL (t' := tk) (ch := [z, TI, TO, i1, i2]) (fun c o hb q => hk c o (fun q' => hb (by simp [q'])) (fun q' => hb (by simp [q'])) (fun q' => hb (by simp [q'])) (fun q' => hb (by simp [q'])) q) hf⟩
  self := fun A i s Q E st h => wpAny_pyIter_zip st.1 h
end Fx.ZB

set_option Elab.async false
set_option linter.all false
set_option maxRecDepth 100000
/-! list(zip(..)) -/
namespace Fx.ZB
open PySem PySem.Spec PyProof.Rows L2

theorem ItemAt.keep {k : Bool} {h h' : Heap} {a : Addr} {vs : Array Value} (x : ItemAt k h a vs) (q : ∀ o, h.get? a = some o → h'.get? a = some o) : ItemAt k h' a vs := by
  cases k with
  | true => exact Heap.IsList.at x q
  | false => exact Heap.IsTuple.at x q
/-- a zip that is read to place i; the pair that was handed out last -/
structure ZAt (z TI TO i1 i2 a b : Addr) (k1 k2 : Bool) (its1 its2 : Array Value) (i : Nat) (m : Option Addr) (h : Heap) : Prop where
  free : m = none → IsZip h z TI TO .none ∧ ∃ x y, IsTupOf2 h TO x y
  busy : ∀ T, m = some T → (∃ q, IsZipB h z TI TO T q) ∧ ∃ o, h.get? T = some o
  ti : IsTupOf2 h TI (.ref i1) (.ref i2)
  s1 : ItAt k1 h i1 a i ∧ ItemAt k1 h a its1
  s2 : ItAt k2 h i2 b i ∧ ItemAt k2 h b its2
theorem ZAt.keep {z TI TO i1 i2 a b : Addr} {k1 k2 : Bool} {its1 its2 : Array Value} {i : Nat} {m : Option Addr} {h h' : Heap} (x : ZAt z TI TO i1 i2 a b k1 k2 its1 its2 i m h) {S : Addr} (n : S ∉ [z, TI, TO, i1, i2, a, b]) (nm : m ≠ some S)
    (q : ∀ c o, c ≠ S → h.get? c = some o → h'.get? c = some o) : ZAt z TI TO i1 i2 a b k1 k2 its1 its2 i m h' := by
  have nn : ∀ c ∈ [z, TI, TO, i1, i2, a, b], c ≠ S := fun c hc e => n (e ▸ hc)
  refine ⟨fun e => ?_, fun T e => ?_, q _ _ (nn TI (by simp)) x.ti, ⟨x.s1.1.keep fun o => q i1 o (nn i1 (by simp)), x.s1.2.keep fun o => q a o (nn a (by simp))⟩, ⟨x.s2.1.keep fun o => q i2 o (nn i2 (by simp)), x.s2.2.keep fun o => q b o (nn b (by simp))⟩⟩
  · obtain ⟨h1, u, v, h2⟩ := x.free e
    exact ⟨q _ _ (nn z (by simp)) h1, u, v, q _ _ (nn TO (by simp)) h2⟩
  · obtain ⟨⟨p, h1⟩, o, h2⟩ := x.busy T e
    exact ⟨⟨p, q _ _ (nn z (by simp)) h1⟩, o, q _ _ (fun z => nm (by rw [e, z])) h2⟩
/-- the next pair -/
theorem zip_next {prog : Program} {w : World} {A : Around} {E : Value → Shared → Prop} {s : Shared} (hh : A.handled = none) {z TI TO i1 i2 a b : Addr} {k1 k2 : Bool} {its1 its2 : Array Value} {i : Nat} {m : Option Addr} (D : ZipSep2 z TI TO i1 i2 [i1, a] [i2, b])
    (st : ZAt z TI TO i1 i2 a b k1 k2 its1 its2 i m s.heap) {u1 u2 : Value} (h1 : its1[i]? = some u1) (h2 : its2[i]? = some u2) {Q : Option Value → Shared → Prop}
    (hQ : ∀ h' tk, ZAt z TI TO i1 i2 a b k1 k2 its1 its2 (i + 1) (some (m.getD s.heap.objs.size)) h' → IsTupOf2 h' s.heap.objs.size u1 u2 → h'.objs.size = s.heap.objs.size + 1 →
      (∀ c o, c ≠ z → c ≠ TO → c ≠ i1 → c ≠ i2 → s.heap.get? c = some o → h'.get? c = some o) → Q (some (.ref s.heap.objs.size)) { s with heap := h', toks := tk }) :
    wpAny (model prog w) A (pyNext (.ref z)) Q E s := by
  have ne1 := item_ne st.s1.1 st.s1.2
  have ne2 := item_ne st.s2.1 st.s2.2
  have l1 := (Array.getElem?_eq_some_iff.mp h1).1
  have l2 := (Array.getElem?_eq_some_iff.mp h2).1
  have D1 := drawG (prog := prog) (w := w) (A := A.in1) hh k1 i1 a ne1 its1
  have D2 := drawG (prog := prog) (w := w) (A := A.in1) hh k2 i2 b ne2 its2
  cases m with
  | none =>
    obtain ⟨hz, x0, y0, hTO⟩ := st.free rfl
    have hT : s.TypeIs (.ref z) "zip" := ⟨_, hz, rfl⟩
    unfold pyNext
    refine wpAny_bind (wpAny_attempt (wpAny_callSpecial?_slot (name := Str.ofString "__next__") hT PySem.F.slot_zip_next
      (wpAny_call_entry PySem.F.slot_zip_next hT PySem.F.entry_zip_next
        (zipD2_next_item D D1 D2 hz st.ti hTO st.s1 st.s2 l1 l2 fun v1 v2 h' tk hv1 hv2 z' TO' s1' s2' hT' hsz hk => wpAny_pure ?_) (PySem.F.args_zip_next_1 _))))
    rw [h1] at hv1
    rw [h2] at hv2
    cases hv1
    cases hv2
    exact hQ h' tk ⟨(fun e => nomatch e), (fun T e => by cases e; exact ⟨⟨false, z'⟩, _, hT'⟩), hk _ _ D.TIz D.TITO D.TIi1 D.TIi2 st.ti, s1', s2'⟩ hT' hsz hk
  | some T =>
    obtain ⟨⟨q, hz⟩, hTl⟩ := st.busy T rfl
    have hT : s.TypeIs (.ref z) "zip" := ⟨_, hz, rfl⟩
    unfold pyNext
    refine wpAny_bind (wpAny_attempt (wpAny_callSpecial?_slot (name := Str.ofString "__next__") hT PySem.F.slot_zip_next
      (wpAny_call_entry PySem.F.slot_zip_next hT PySem.F.entry_zip_next
        (zipB_next_item D D1 D2 hz hTl st.ti st.s1 st.s2 l1 l2 fun v1 v2 h' tk hv1 hv2 z' s1' s2' hT' hsz hk => wpAny_pure ?_) (PySem.F.args_zip_next_1 _))))
    rw [h1] at hv1
    rw [h2] at hv2
    cases hv1
    cases hv2
    have hTl' : ∃ o, h'.get? T = some o := by
      obtain ⟨o, ho⟩ := hTl
      by_cases c0 : T = z
      · exact ⟨_, by rw [c0]; exact z'⟩
      · by_cases c1 : T = i1
        · obtain ⟨o, e, _⟩ := s1'.1.obj
          exact ⟨o, by rw [c1]; exact e⟩
        · by_cases c2 : T = i2
          · obtain ⟨o, e, _⟩ := s2'.1.obj
            exact ⟨o, by rw [c2]; exact e⟩
          · exact ⟨o, hk _ _ c0 c1 c2 ho⟩
    exact hQ h' tk ⟨(fun e => nomatch e), (fun T' e => by cases e; exact ⟨⟨true, z'⟩, hTl'⟩), hk _ _ D.TIz D.TIi1 D.TIi2 st.ti, s1', s2'⟩ hT' hsz fun c o c1 _ c3 c4 e => hk c o c1 c3 c4 e
/-- no pair more -/
theorem zip_done {prog : Program} {w : World} {A : Around} {E : Value → Shared → Prop} {s : Shared} (hh : A.handled = none) {z TI TO i1 i2 a b : Addr} {k1 k2 : Bool} {its1 its2 : Array Value} {i : Nat} {m : Option Addr} (D : ZipSep2 z TI TO i1 i2 [i1, a] [i2, b])
    (st : ZAt z TI TO i1 i2 a b k1 k2 its1 its2 i m s.heap) (h1 : i ≤ its1.size) (h2 : i ≤ its2.size) (he : i = its1.size ∨ i = its2.size) {Q : Option Value → Shared → Prop}
    (hQ : ∀ h' tk, (∀ c o, c ≠ z → c ≠ TO → c ≠ i1 → c ≠ i2 → s.heap.get? c = some o → h'.get? c = some o) → Q none { s with heap := h', toks := tk }) :
    wpAny (model prog w) A (pyNext (.ref z)) Q E s := by
  have ne1 := item_ne st.s1.1 st.s1.2
  have ne2 := item_ne st.s2.1 st.s2.2
  have D1 := drawG (prog := prog) (w := w) (A := A.in1) hh k1 i1 a ne1 its1
  have D2 := drawG (prog := prog) (w := w) (A := A.in1) hh k2 i2 b ne2 its2
  cases m with
  | none =>
    obtain ⟨hz, x0, y0, hTO⟩ := st.free rfl
    have hT : s.TypeIs (.ref z) "zip" := ⟨_, hz, rfl⟩
    unfold pyNext
    refine wpAny_bind (wpAny_attempt (wpAny_callSpecial?_slot (name := Str.ofString "__next__") hT PySem.F.slot_zip_next
      (wpAny_call_entry PySem.F.slot_zip_next hT PySem.F.entry_zip_next
        (zipD2_next_end (i := i) D D1 D2 hz st.ti hTO st.s1 st.s2 h1 h2 he fun h' tk e hk hc => ?_) (PySem.F.args_zip_next_1 _))))
    obtain ⟨o, ho, hcl⟩ := hc
    refine wpAny_bind (wpAny_isInstance (T := "StopIteration") (b := true) ⟨o, ho, hcl⟩ isSubtype_stop ?_)
    exact wpAny_pure (hQ h' tk hk)
  | some T =>
    obtain ⟨⟨q, hz⟩, hTl⟩ := st.busy T rfl
    have hT : s.TypeIs (.ref z) "zip" := ⟨_, hz, rfl⟩
    unfold pyNext
    refine wpAny_bind (wpAny_attempt (wpAny_callSpecial?_slot (name := Str.ofString "__next__") hT PySem.F.slot_zip_next
      (wpAny_call_entry PySem.F.slot_zip_next hT PySem.F.entry_zip_next
        (zipB_next_end (i := i) D D1 D2 hz hTl st.ti st.s1 st.s2 h1 h2 he fun h' tk e hk hc => ?_) (PySem.F.args_zip_next_1 _))))
    obtain ⟨o, ho, hcl⟩ := hc
    refine wpAny_bind (wpAny_isInstance (T := "StopIteration") (b := true) ⟨o, ho, hcl⟩ isSubtype_stop ?_)
    exact wpAny_pure (hQ h' tk fun c o c1 _ c3 c4 e => hk c o c1 c3 c4 e)
/-! the list that is filled -/
def updT (H : Hp) : List (Addr × V × V) → Hp
  | [] => H
  | p :: r => updT (upd H p.1 (.tup [p.2.1, p.2.2])) r
theorem updT_snoc (H : Hp) (l : List (Addr × V × V)) (p : Addr × V × V) : updT H (l ++ [p]) = upd (updT H l) p.1 (.tup [p.2.1, p.2.2]) := by
  induction l generalizing H with
  | nil => rfl
  | cons q r ih => exact ih _
theorem upd_swap {H : Hp} {a b : Addr} (h : a ≠ b) (x y : HO) : upd (upd H a x) b y = upd (upd H b y) a x := by
  funext c
  by_cases h1 : c = a
  · by_cases h2 : c = b
    · exact absurd (h1.symm.trans h2) h
    · rw [upd_ne h2, h1, upd_same, upd_same]
  · by_cases h2 : c = b
    · rw [h2, upd_same, upd_ne (Ne.symm h), upd_same]
    · rw [upd_ne h2, upd_ne h1, upd_ne h1, upd_ne h2]
section
variable {X : Cx} {pins : List (Addr × Obj)} {σ : L2.St} {H1 : Hp} {A1 : Around} {z TI TO i1 i2 a b S : Addr} {k1 k2 : Bool} {its1 its2 : List Value} {xs ys : List V}
/-- the list as it stands behind some turns -/
def filled (H1 : Hp) (S : Addr) (l : List (Addr × V × V)) : Hp := upd (updT H1 l) S (.lst (l.map fun p => .ref p.1))
structure Fill (H1 : Hp) (S : Addr) (base n : Nat) (xs ys : List V) (l : List (Addr × V × V)) : Prop where
  nd : (l.map (·.1)).Nodup
  at_ : ∀ p ∈ l, base ≤ p.1 ∧ p.1 < n ∧ p.1 ≠ S
  val : ∀ (i : Nat) (p : Addr × V × V), l[i]? = some p → xs[i]? = some p.2.1 ∧ ys[i]? = some p.2.2
theorem zip_loop {Rs : Result → Shared → Prop} (hh : A1.handled = none) (D : ZipSep2 z TI TO i1 i2 [i1, a] [i2, b]) (rv1 : Vals xs its1) (rv2 : Vals ys its2) (nS : S ∉ [z, TI, TO, i1, i2, a, b]) {base : Nat} (fr : ∀ N, base ≤ N → H1 N = none) (bS : base ≤ S) (sz1 : xs.length ≤ sizeLine)
    (hdone : ∀ l H s n, Inv X pins σ H s → H = filled H1 S l → l.length = min xs.length ys.length → Fill H1 S base n xs ys l → Rs (.ok (.ret .none)) s) :
    ∀ (k : Nat) (l : List (Addr × V × V)) (m : Option Addr) (s : Shared), l.length + k = min xs.length ys.length → Inv X pins σ (filled H1 S l) s → (∀ c ∈ [z, TI, TO, i1, i2], FpOk X pins (filled H1 S l) c) → (∀ c ∈ [z, TI, TO, i1, i2], c < s.heap.objs.size) →
      S < s.heap.objs.size → base ≤ s.heap.objs.size → Fill H1 S base s.heap.objs.size xs ys l → m ≠ some S → ZAt z TI TO i1 i2 a b k1 k2 its1.toArray its2.toArray l.length m s.heap →
      codeAny (model X.prog X.w) A1 (.builtin "list.extend.loop" ⟨[.ref S, .ref z, .none], []⟩) Rs s := by
  intro k
  have ln1 := rv1.length
  have ln2 := rv2.length
  induction k with
  | zero =>
    intro l m s hk I hf hlt hS hb F nm st
    refine codeAny_builtin PySem.F.entry_extend_loop ?_
    rw [Around.under_plainId PySem.F.plain_extend_loop _]
    show wpAny _ A1.in1 (pyNext (.ref z) >>= _) _ _ s
    refine wpAny_bind (zip_done (A := A1.in1) hh D st (by rw [List.size_toArray]; omega) (by rw [List.size_toArray]; omega) (by rw [List.size_toArray, List.size_toArray]; omega) fun h' tk hk' => ?_)
    refine wpAny_pure (hdone l _ _ _ (I.turnedL (t' := tk) (ch := [z, TI, TO, i1, i2]) (fun c o hb q => hk' c o (fun q' => hb (by simp [q'])) (fun q' => hb (by simp [q'])) (fun q' => hb (by simp [q'])) (fun q' => hb (by simp [q'])) q) hf) rfl (by omega) F)
  | succ k ih =>
    intro l m s hk I hf hlt hS hb F nm st
    have l1 : l.length < xs.length := by omega
    have l2 : l.length < ys.length := by omega
    obtain ⟨u1, hu1, ru1⟩ := rv1.get (List.getElem?_eq_getElem l1)
    obtain ⟨u2, hu2, ru2⟩ := rv2.get (List.getElem?_eq_getElem l2)
    refine codeAny_builtin PySem.F.entry_extend_loop ?_
    rw [Around.under_plainId PySem.F.plain_extend_loop _]
    show wpAny _ A1.in1 (pyNext (.ref z) >>= _) _ _ s
    refine wpAny_bind (zip_next (A := A1.in1) hh D st (u1 := u1) (u2 := u2) (by simpa using hu1) (by simpa using hu2) fun h' tk st' hT hsz hk' => ?_)
    have new : ObjOk X.prog X.w (upd (filled H1 S l) s.heap.objs.size (.tup [xs[l.length], ys[l.length]])) h' s.heap.objs.size (.tup [xs[l.length], ys[l.length]]) :=
      ⟨by show 2 ≤ sizeLine; decide, [u1, u2], .cons ru1 (.cons ru2 .nil), ⟨_, hT, rfl, _, rfl⟩⟩
    have I1 := I.turnedNew (t' := tk) (ch := [z, TI, TO, i1, i2]) (fun c o hb q => hk' c o (fun q' => hb (by simp [q'])) (fun q' => hb (by simp [q'])) (fun q' => hb (by simp [q'])) (fun q' => hb (by simp [q'])) q) hf (Nat.le_refl _) new
    have neS : S ≠ s.heap.objs.size := Nat.ne_of_lt hS
    have hq : upd (filled H1 S l) s.heap.objs.size (.tup [xs[l.length], ys[l.length]]) S = some (.lst (l.map fun p => .ref p.1)) := by
      rw [upd_ne neS]
      exact upd_same
    obtain ⟨_, its, c, r2, hl, e⟩ := I1.lstM hq
    show wpAny _ A1.in1 (updateSeq S (·.push (.ref s.heap.objs.size)) >>= _) _ _ _
    have len := hl
    rw [List.length_map] at len
    have sz : its.length < sizeLine := by omega
    refine wpAny_bind (wpAny_updateSeq e rfl (wpAny_pure ⟨plainId_quiet PySem.F.plain_extend_loop _, ?_⟩) (by rw [List.size_toArray]; omega) (by show (its.toArray.push _).size ≤ sizeLine + 1; rw [Array.size_push, List.size_toArray]; omega))
    have I2 := I1.lset (f := (·.push (Value.ref s.heap.objs.size))) (its' := its ++ [.ref s.heap.objs.size]) (ys := (l.map fun p => V.ref p.1) ++ [.ref s.heap.objs.size]) (t' := tk) hq e (by simp) (r2.append (.cons (show L2.RelV (V.ref s.heap.objs.size) (Value.ref s.heap.objs.size) from rfl) .nil)) (by rw [List.length_append, List.length_map, List.length_singleton]; omega)
    have eH : upd (upd (filled H1 S l) s.heap.objs.size (.tup [xs[l.length], ys[l.length]])) S (.lst ((l.map fun p => V.ref p.1) ++ [.ref s.heap.objs.size])) = filled H1 S (l ++ [(s.heap.objs.size, xs[l.length], ys[l.length])]) := by
      unfold filled
      rw [updT_snoc, List.map_append, upd_swap neS, upd_upd]
      rfl
    rw [eH] at I2
    have hsz2 : (h'.update S (Obj.mapSeq (·.push (Value.ref s.heap.objs.size)))).objs.size = s.heap.objs.size + 1 := by rw [Heap.size_update]; exact hsz
    have lt' : ∀ c : Addr, c < s.heap.objs.size → c < (h'.update S (Obj.mapSeq (·.push (Value.ref s.heap.objs.size)))).objs.size := fun c h => by rw [hsz2]; exact Nat.lt_succ_of_lt h
    refine ih (l ++ [(s.heap.objs.size, xs[l.length], ys[l.length])]) (some (m.getD s.heap.objs.size)) _ (by rw [List.length_append, List.length_singleton]; omega) I2 (fun c hc => ⟨?_, (hf c hc).2⟩) (fun c hc => ?_) ?_ ?_ ⟨?_, fun p hp => ?_, fun i p hp => ?_⟩ ?_ ?_
    · have hcl := hlt c hc
      have cS : c ≠ S := fun e => nS (by rw [← e]; exact List.mem_append_left [a, b] hc)
      rw [← eH, upd_ne cS, upd_ne (Nat.ne_of_lt hcl)]
      exact (hf c hc).1
    · exact lt' c (hlt c hc)
    · exact lt' S hS
    · show base ≤ (h'.update S (Obj.mapSeq (·.push (Value.ref s.heap.objs.size)))).objs.size
      rw [hsz2]; exact Nat.le_succ_of_le hb
    · rw [List.map_append]
      refine List.nodup_append.mpr ⟨F.nd, List.nodup_cons.mpr ⟨(fun q => nomatch q), List.nodup_nil⟩, fun x hx y hy => ?_⟩
      have hy : y = s.heap.objs.size := List.mem_singleton.mp hy
      obtain ⟨p, hp, rfl⟩ := List.mem_map.mp hx
      have := (F.at_ p hp).2.1
      show p.1 ≠ y
      rw [hy]
      exact Nat.ne_of_lt this
    · rcases List.mem_append.mp hp with hp | hp
      · obtain ⟨q1, q2, q3⟩ := F.at_ p hp
        exact ⟨q1, lt' p.1 q2, q3⟩
      · rw [List.mem_singleton.mp hp]
        exact ⟨hb, by show s.heap.objs.size < (h'.update S (Obj.mapSeq (·.push (Value.ref s.heap.objs.size)))).objs.size; rw [hsz2]; exact Nat.lt_succ_self _, neS.symm⟩
    · by_cases c : i < l.length
      · rw [List.getElem?_append_left c] at hp
        exact F.val i p hp
      · rw [List.getElem?_append_right (by omega)] at hp
        have hi := (List.getElem?_eq_some_iff.mp hp).1
        rw [List.length_singleton] at hi
        have e0 : i = l.length := by omega
        subst e0
        rw [Nat.sub_self] at hp
        cases hp
        exact ⟨List.getElem?_eq_getElem l1, List.getElem?_eq_getElem l2⟩
    · cases m with
      | none => exact fun e => neS (Option.some.inj e).symm
      | some T => exact fun e => nm (by rw [← e]; rfl)
    · rw [List.length_append, List.length_singleton]
      exact st'.keep nS (by
        cases m with
        | none => exact fun e => neS (Option.some.inj e).symm
        | some T => exact fun e => nm (by rw [← e]; rfl)) fun c o hc e => (Heap.get?_update_other _ _ (Ne.symm hc)).trans e
end
theorem zip_no_len : typeLookup (.type "zip") "__len__" = pure none := by rw [typeLookup_type, builtinLookup_eq_fast]; kernel_rfl
theorem zip_no_hint : typeLookup (.type "zip") "__length_hint__" = pure none := by rw [typeLookup_type, builtinLookup_eq_fast]; kernel_rfl
theorem zip_hint {M : Program} {w : World} {A : Around} {E : Value → Shared → Prop} {s : Shared} {z : Addr} {Q : Bool → Shared → Prop} (hT : s.TypeIs (.ref z) "zip") (h : Q true s) : wpAny (model M w) A (Builtin.List.listLengthHint (.ref z)) Q E s := by
  unfold Builtin.List.listLengthHint
  refine wpAny_bind (wpAny_specialOf hT zip_no_len ?_)
  show wpAny _ _ (specialOf (Value.ref z) (Str.ofString "__length_hint__") >>= _) _ _ _
  refine wpAny_bind (wpAny_specialOf hT zip_no_hint ?_)
  exact wpAny_pure h
section
variable {X : Cx} {pins : List (Addr × Obj)} {σ : L2.St} {H1 : Hp} {A1 : Around} {z TI TO i1 i2 a b S : Addr} {k1 k2 : Bool} {its1 its2 : List Value} {xs ys : List V}
theorem zip_extend {Rs : Result → Shared → Prop} {s : Shared} (hh : A1.handled = none) (D : ZipSep2 z TI TO i1 i2 [i1, a] [i2, b]) (rv1 : Vals xs its1) (rv2 : Vals ys its2) (nS : S ∉ [z, TI, TO, i1, i2, a, b]) {base : Nat} (fr : ∀ N, base ≤ N → H1 N = none) (bS : base ≤ S) (sz1 : xs.length ≤ sizeLine)
    (hdone : ∀ l H s n, Inv X pins σ H s → H = filled H1 S l → l.length = min xs.length ys.length → Fill H1 S base n xs ys l → Rs (.ok (.ret .none)) s)
    (I : Inv X pins σ (upd H1 S (.lst [])) s) (hf : ∀ c ∈ [z, TI, TO, i1, i2], FpOk X pins (upd H1 S (.lst [])) c) (hlt : ∀ c ∈ [z, TI, TO, i1, i2], c < s.heap.objs.size) (hS : S < s.heap.objs.size) (hb : base ≤ s.heap.objs.size)
    (st : ZAt z TI TO i1 i2 a b k1 k2 its1.toArray its2.toArray 0 none s.heap) :
    wpAny (model X.prog X.w) A1.in1 (Builtin.List.listExtendWith (.ref S) (.ref z) .none)
      (fun fin s' => match fin with | .done f => Rs (.ok f) s' | .again c' => c'.quiet = true ∧ codeAny (model X.prog X.w) A1 c' Rs s') (fun e s' => Rs (.error e) s') s := by
  have hz := (st.free rfl).1
  have hT : s.TypeIs (.ref z) "zip" := ⟨_, hz, rfl⟩
  have nz : S ≠ z := fun e => nS (by rw [e]; exact List.mem_cons_self)
  have loop : ∀ s', Inv X pins σ (upd H1 S (.lst [])) s' → s'.heap.objs.size = s.heap.objs.size → (∀ c o, c ≠ S → s.heap.get? c = some o → s'.heap.get? c = some o) → codeAny (model X.prog X.w) A1 (.builtin "list.extend.loop" ⟨[.ref S, .ref z, .none], []⟩) Rs s' := fun s' I' es hk =>
    zip_loop hh D rv1 rv2 nS fr bS sz1 hdone (min xs.length ys.length) [] none s' (by simp) I' hf (fun c hc => by rw [es]; exact hlt c hc) (by rw [es]; exact hS) (by rw [es]; exact hb) ⟨List.nodup_nil, (fun _ h => nomatch h), (fun _ _ h => nomatch h)⟩ (fun e => nomatch e) (st.keep nS (fun e => nomatch e) hk)
  unfold Builtin.List.listExtendWith
  refine wpAny_bind (wpAny_typeOf hT ?_)
  have h1 : Builtin.List.listSameRef (.ref S) (.ref z) = false := by simp [Builtin.List.listSameRef, nz]
  have h2 : (Value.type "zip" == Value.type "list") = false := by decide
  have h3 : (Value.type "zip" == Value.type "tuple") = false := by decide
  simp only [h1, h2, h3, Bool.or_false, Bool.false_eq_true, if_false]
  refine wpAny_bind (wpAny_pyIter_zip hz ?_)
  refine wpAny_bind (wpAny_holding (zip_hint hT ?_))
  obtain ⟨_, its, k, r3, hl3, e3⟩ := I.lstM upd_same
  cases r3
  refine wpAny_ite_split (fun _ => ?_) (fun _ => wpAny_pure ⟨plainId_quiet PySem.F.plain_extend_loop _, loop s I rfl fun c o _ e => e⟩)
  refine wpAny_bind (wpAny_rule ?_)
  refine wpAny_bind ?_
  show wpAny _ _ (updateSeq S (·.push .none) >>= fun _ => updateSeq S (·.pop)) _ _ _
  refine wpAny_bind (wpAny_updateSeq e3 rfl ?_)
  have I2 := I.lset (f := (·.push Value.none)) (its' := [Value.none]) (ys := [.non]) (t' := s.toks) upd_same e3 (by simp) (.cons rfl .nil) (by rw [List.length_singleton, sizeLine_eq]; decide)
  obtain ⟨_, its4, k4, r4, hl4, e4⟩ := I2.lstM upd_same
  obtain ⟨u4, rfl, ru4⟩ := r4.one
  refine wpAny_updateSeq e4 rfl ?_ (by show 1 ≤ sizeLine; rw [sizeLine_eq]; decide) (by show 0 ≤ sizeLine + 1; exact Nat.zero_le _)
  have I3 := I2.lset (f := (·.pop)) (its := [u4]) (its' := []) (ys := []) (t' := s.toks) upd_same e4 (by rfl) .nil (Nat.zero_le _)
  rw [upd_upd, upd_upd] at I3
  refine wpAny_pure ⟨plainId_quiet PySem.F.plain_extend_loop _, loop _ I3 ?_ fun c o hc e => ?_⟩
  · show ((s.heap.update S _).update S _).objs.size = _
    rw [Heap.size_update, Heap.size_update]
  · exact (Heap.get?_update_other _ _ (Ne.symm hc)).trans ((Heap.get?_update_other _ _ (Ne.symm hc)).trans e)
end
section
variable {X : Cx} {pins : List (Addr × Obj)} {σ : L2.St} {z TI TO i1 i2 a b : Addr} {k1 k2 : Bool} {its1 its2 : List Value} {xs ys : List V}
theorem call_list_zip (hc : X.calm = true) {H : Hp} {s : Shared} {Q : VK} (D : ZipSep2 z TI TO i1 i2 [i1, a] [i2, b]) (rv1 : Vals xs its1) (rv2 : Vals ys its2) (sz1 : xs.length ≤ sizeLine) (I : Inv X pins σ H s) (hf : ∀ c ∈ [z, TI, TO, i1, i2], FpOk X pins H c) (hlt : ∀ c ∈ [z, TI, TO, i1, i2, a, b], c < s.heap.objs.size)
    (st : ZAt z TI TO i1 i2 a b k1 k2 its1.toArray its2.toArray 0 none s.heap)
    (hQ : ∀ S l base n, H S = none → (∀ N, base ≤ N → H N = none) → l.length = min xs.length ys.length → Fill H S base n xs ys l → Q (.ref S) (filled H S l)) :
    wpAny (model X.prog X.w) X.A (call (.type "list") [.ref z]) (EP X pins σ Q) X.xe s := by
  refine callType_codes (Q₁ := fun obj s₁ => obj = .ref s.heap.objs.size ∧ s₁ = { s with heap := s.heap.push { cls := .type "list", data := .seq #[] } }) PySem.F.called_list (PySem.F.typeCall_list_1 _) PySem.F.entry_list_init
    (code_list_new _ ⟨rfl, rfl⟩) fun obj s₁ h₁ => ?_
  obtain ⟨rfl, rfl⟩ := h₁
  have hS : (s.heap.push { cls := .type "list", data := .seq #[] }).get? s.heap.objs.size = some { cls := .type "list", data := .seq #[] } := Heap.get?_push_size _ rfl
  refine ⟨⟨_, hS, rfl⟩, PySem.F.args_list_init_2 _ _, ?_⟩
  have fr : ∀ N, s.heap.objs.size ≤ N → H N = none := fun N h => I.hok.fresh h
  have I1 : Inv X pins σ (upd H s.heap.objs.size (.lst [])) { s with heap := s.heap.push { cls := .type "list", data := .seq #[] } } := I.lnew (its := []) (t' := s.toks) .nil (Nat.zero_le _)
  show wpAny _ _ (do let old ← Builtin.List.listItems (.ref s.heap.objs.size); Builtin.List.listUpdate (.ref s.heap.objs.size) (fun _ => #[]); letGo old.toList.reverse; Builtin.List.listExtendWith (.ref s.heap.objs.size) (.ref z) .none) _ _ _
  refine wpAny_bind ?_
  unfold Builtin.List.listItems
  refine wpAny_bind (wpAny_seqItems hS rfl (wpAny_pure ?_))
  show wpAny _ _ (updateSeq s.heap.objs.size (fun _ => #[]) >>= fun _ => letGo (#[] : Array Value).toList.reverse >>= fun _ => Builtin.List.listExtendWith (.ref s.heap.objs.size) (.ref z) .none) _ _ _
  refine wpAny_bind (wpAny_updateSeq hS rfl ?_)
  have I2 := I1.lset (f := fun _ => #[]) (its := []) (its' := []) (ys := []) (t' := s.toks) upd_same hS rfl .nil (Nat.zero_le _)
  rw [upd_upd] at I2
  refine wpAny_bind (wpAny_letGo ?_)
  have nS : s.heap.objs.size ∉ [z, TI, TO, i1, i2, a, b] := fun h => Nat.lt_irrefl _ (hlt _ h)
  have sz : ((s.heap.push { cls := .type "list", data := .seq #[] }).update s.heap.objs.size (Obj.mapSeq fun _ => #[])).objs.size = s.heap.objs.size + 1 := by rw [Heap.size_update, Heap.size_push]
  have kp : ∀ c o, c ≠ s.heap.objs.size → s.heap.get? c = some o → ((s.heap.push { cls := .type "list", data := .seq #[] }).update s.heap.objs.size (Obj.mapSeq fun _ => #[])).get? c = some o := fun c o hc e =>
    (Heap.get?_update_other _ _ (Ne.symm hc)).trans (Heap.get?_push_of_some _ e)
  refine zip_extend (A1 := X.A.in1) (Rs := wants (fun r s₂ => r = .none ∧ EP X pins σ Q (.ref s.heap.objs.size) s₂) X.xe) (I.ok.hd hc) D rv1 rv2 nS fr (Nat.le_refl _) sz1 (fun l H' s' n I' eH ll F => ⟨rfl, .ref s.heap.objs.size, H', I', rfl, ?_⟩) I2 (fun c hcm => ⟨?_, (hf c hcm).2⟩) (fun c hcm => ?_) ?_ ?_ (st.keep nS (fun e => nomatch e) kp)
  · rw [eH]
    exact hQ _ l _ n (fr _ (Nat.le_refl _)) fr ll F
  · rw [upd_ne (Nat.ne_of_lt (hlt c (List.mem_append_left [a, b] hcm)))]
    exact (hf c hcm).1
  · show c < Array.size _
    rw [sz]
    exact Nat.lt_succ_of_lt (hlt c (List.mem_append_left [a, b] hcm))
  · show s.heap.objs.size < Array.size _
    rw [sz]
    exact Nat.lt_succ_self _
  · show s.heap.objs.size ≤ Array.size _
    rw [sz]
    exact Nat.le_succ _
end
end Fx.ZB

set_option Elab.async false
set_option linter.all false
set_option maxRecDepth 100000
namespace Fx
open PySem PySem.Spec PyProof.Rows L2 ZB

/-- zip(x, y) is made: where it stands -/
def PZip (X : Cx) (e : Expr) (t : L2.St → Hp → (Addr → Addr → List V → List V → Bool → Bool → Hp → Prop) → Prop) : Prop :=
  ∀ (pins : List (Addr × Obj)) (s : Shared) (σ : L2.St) (H : Hp) (Q : Addr → Addr → List V → List V → Bool → Bool → Hp → Prop), Inv X pins σ H s → t σ H Q →
    wpAny (model X.prog X.w) X.A (eval e X.env) (fun v s' => ∃ z TI TO i1 i2 a b k1 k2 xs ys its1 its2 H', v = .ref z ∧ Inv X pins σ H' s' ∧ ZipSep2 z TI TO i1 i2 [i1, a] [i2, b] ∧ Vals xs its1 ∧ Vals ys its2 ∧
      (∀ c ∈ [z, TI, TO, i1, i2], FpOk X pins H' c) ∧ (∀ c ∈ [z, TI, TO, i1, i2, a, b], c < s'.heap.objs.size) ∧ ZAt z TI TO i1 i2 a b k1 k2 its1.toArray its2.toArray 0 none s'.heap ∧ Q a b xs ys k1 k2 H') X.xe s
def tZip (K : PySem.W.Frag) (ta : TA) : L2.St → Hp → (Addr → Addr → List V → List V → Bool → Bool → Hp → Prop) → Prop := fun σ H Q => ta σ H fun vs H1 => ∃ a b xs ys k1 k2, vs = [.ref a, .ref b] ∧ SqG K k1 H1 a xs ∧ SqG K k2 H1 b ys ∧ Q a b xs ys k1 k2 H1
theorem item_lt {k : Bool} {h : Heap} {a : Addr} {vs : Array Value} (x : ItemAt k h a vs) : a < h.objs.size := by
  cases k with
  | true => obtain ⟨o, e, _⟩ := x; exact Heap.lt_size e
  | false => obtain ⟨o, e, _⟩ := x; exact Heap.lt_size e
theorem pzip {X : Cx} {e e2 : Expr} {ta : TA} {p pos : Pos} (hg : Gl X "zip") (hm : X.mg "zip" = none) (ha : PA X [e, e2] ta)
    (hs : starEach [e, e2] X.env = (false, eval e X.env) :: starEach [e2] X.env := by rfl) (hpl : (backTo pos (starEach [e2] X.env)).any (·.1) = false := by rfl) : PZip X (.Call (.Name "zip" p) [e, e2] [] pos) (tZip X.K ta) := by
  intro pins s σ H Q I h
  refine Call_ (ld_blt I hg hm PyProof.Rows.boot_zip (PyProof.Rows.callWith_type1 (thn (ha.run pos pins s σ H _ I h) ?_) hs hpl))
  rintro us s1 ⟨vs, H1, I1, r1, a, b, xs, ys, k1, k2, rfl, hqx, hqy, q⟩
  cases r1 with
  | cons r rr =>
    cases rr with
    | cons r' rr =>
      cases rr
      cases r
      cases r'
      obtain ⟨its, rv, p1⟩ := sq_items I1 hqx
      obtain ⟨its2, rv2, p2⟩ := sq_items I1 hqy
      have la := item_lt p1
      have lb := item_lt p2
      refine zip_begins2 (begG k1 a its.toArray) (begG k2 b its2.toArray) p1 p2 fun h' hz hTI hTO h1 h2 hsz hk => ?_
      have I2 : Inv X pins σ H1 { s1 with heap := h' } := I1.kept (t' := s1.toks) hk
      have S := zip_sep2 (N := s1.heap.objs.size) (fp1 := [a]) (fp2 := [b]) (fun c hc => by rw [List.mem_singleton.mp hc]; exact la) (fun c hc => by rw [List.mem_singleton.mp hc]; exact lb)
      refine ⟨s1.heap.objs.size + 4, s1.heap.objs.size + 2, s1.heap.objs.size + 3, s1.heap.objs.size, s1.heap.objs.size + 1, a, b, k1, k2, xs, ys, its, its2, H1, rfl, I2, S, rv, rv2, fun c hc => ?_, fun c hc => ?_,
        ⟨fun _ => ⟨hz, _, _, hTO⟩, (fun T e => nomatch e), hTI, ⟨itG0 h1, p1.keep fun o q => hk _ _ q⟩, ⟨itG0 h2, p2.keep fun o q => hk _ _ q⟩⟩, q⟩
      · have big : s1.heap.objs.size ≤ c := by
          simp only [List.mem_cons, List.mem_nil_iff, or_false] at hc
          rcases hc with q | q | q | q | q <;> rw [q] <;> first | exact Nat.le_add_right _ _ | exact Nat.le_refl _
        exact I1.fpOk big (I1.hok.fresh big)
      · show c < h'.objs.size
        rw [hsz]
        simp only [List.mem_cons, List.mem_nil_iff, or_false] at hc
        rcases hc with q | q | q | q | q | q | q
        all_goals (rw [q])
        · exact Nat.add_lt_add_left (by decide) _
        · exact Nat.add_lt_add_left (by decide) _
        · exact Nat.add_lt_add_left (by decide) _
        · exact Nat.lt_add_of_pos_right (by decide)
        · exact Nat.add_lt_add_left (by decide) _
        · exact Nat.lt_of_lt_of_le la (Nat.le_add_right _ _)
        · exact Nat.lt_of_lt_of_le lb (Nat.le_add_right _ _)
def iZipX (K : PySem.W.Frag) (ta : TA) : TI := fun σ H R => tZip K ta σ H fun a b _ _ k1 k2 H1 => R (ItzG K k1 k2 a b) H1
theorem pi_zipX {X : Cx} {e e2 : Expr} {ta : TA} {p pos tpos : Pos} {elts : List Expr} {kk : Nat} (hg : Gl X "zip") (hm : X.mg "zip" = none) (ha : PA X [e, e2] ta)
    (hs : starEach [e, e2] X.env = (false, eval e X.env) :: starEach [e2] X.env := by rfl) (hpl : (backTo pos (starEach [e2] X.env)).any (·.1) = false := by rfl) :
    PI X (.Tuple elts kk tpos) (.Call (.Name "zip" p) [e, e2] [] pos) (iZipX X.K ta) := by
  constructor
  intro pins s σ H R I h
  refine wpAny_mono (pzip hg hm ha hs hpl pins s σ H _ I h) ?_ fun _ _ z => z
  rintro v s1 ⟨z, TI, TO, i1, i2, a, b, k1, k2, xs, ys, its1, its2, H1, rfl, I1, S, rv1, rv2, hf, hlt, st, q⟩
  have hz := (st.free rfl).1
  exact wpAny_pyIter_zip hz ⟨z, [z, TI, TO, i1, i2], _, _, H1, rfl, I1, turn_zipG S, ⟨hz, st.ti, (st.free rfl).2, st.s1.1, st.s2.1⟩, hf, q⟩
/-- list(zip(x, y)) -/
def tLZip (K : PySem.W.Frag) (ta : TA) : TE := fun σ H Q => tZip K ta σ H fun _ _ xs ys _ _ H1 => xs.length ≤ sizeLine ∧ ∀ S l base n, H1 S = none → (∀ N, base ≤ N → H1 N = none) → l.length = min xs.length ys.length → Fill H1 S base n xs ys l → Q (.ref S) (filled H1 S l)
theorem pe_lzip {X : Cx} {e e2 : Expr} {ta : TA} {p pos p2 pos2 : Pos} (hc : X.calm = true) (hg : Gl X "list") (hm : X.mg "list" = none) (hg2 : Gl X "zip") (hm2 : X.mg "zip" = none) (ha : PA X [e, e2] ta)
    (hs : starEach [e, e2] X.env = (false, eval e X.env) :: starEach [e2] X.env := by rfl) (hpl : (backTo pos2 (starEach [e2] X.env)).any (·.1) = false := by rfl)
    (na : starEach [.Call (.Name "zip" p2) [e, e2] [] pos2] X.env = (false, eval (.Call (.Name "zip" p2) [e, e2] [] pos2) X.env) :: starEach [] X.env := by rfl) :
    PE X (.Call (.Name "list" p) [.Call (.Name "zip" p2) [e, e2] [] pos2] [] pos) (tLZip X.K ta) := by
  refine ⟨fun pins s σ H Q I h => ?_⟩
  refine Call_ (ld_blt I hg hm boot_list (PyProof.Rows.callWith_type1 (args_cons (thn (pzip hg2 hm2 ha hs hpl pins s σ H _ I h) fun v s1 h1 => args_nil ?_) na) na))
  obtain ⟨z, TI, TO, i1, i2, a, b, k1, k2, xs, ys, its1, its2, H1, rfl, I1, S, rv1, rv2, hf, hlt, st, sz, q⟩ := h1
  exact call_list_zip hc S rv1 rv2 sz I1 hf hlt st q
/-! what the data functions say -/
def seqD : D → Option (List D)
  | .list ds => some ds
  | .tuple ds => some ds
  | _ => none
def zipD (xs ys : List D) : List D := (xs.zip ys).map fun p => .tuple [p.1, p.2]
def iZip (f : EA) : EI := fun en => (dats f en).bind fun ds en => match ds with
  | [x, y] => match seqD x, seqD y with
    | some xs, some ys => .ok (zipD xs ys) en
    | _, _ => .st
  | _ => .st
def oLZip (f : EA) : EO := fun en => (dats f en).bind fun ds en => match ds with
  | [x, y] => match seqD x, seqD y with
    | some xs, some ys => if xs.length ≤ 65536 then .ok (.list (zipD xs ys)) en else .st
    | _, _ => .st
  | _ => .st
section
variable {K : PySem.W.Frag} {mg : Str → Option Value} {F : Hp} {A : List Addr} {G H : Hp} {en : En} {σ : L2.St}
theorem seq_at {d : D} {ds : List D} {v : V} (e : seqD d = some ds) (r : Rv K G d v) : ∃ k a vs, v = .ref a ∧ Rvs K G ds vs ∧ ∀ H, Le G H → SqG K k H a vs := by
  cases d with
  | list xs =>
    cases e
    obtain ⟨a, vs, rfl, h1, h2⟩ := r
    exact ⟨true, a, vs, rfl, h2, fun H l => sqL_le l h1⟩
  | tuple xs =>
    cases e
    obtain ⟨a, vs, rfl, h1, h2⟩ := r
    exact ⟨false, a, vs, rfl, h2, fun H l => (h1.le l).sq⟩
  | _ => cases e
theorem zipD_get {xs ys : List D} {i : Nat} {d : D} (h : (zipD xs ys)[i]? = some d) : ∃ x y, xs[i]? = some x ∧ ys[i]? = some y ∧ d = .tuple [x, y] := by
  unfold zipD at h
  rw [List.getElem?_map] at h
  obtain ⟨p, h1, rfl⟩ := Option.map_eq_some_iff.mp h
  obtain ⟨h2, h3⟩ := List.getElem?_zip_eq_some.mp h1
  exact ⟨p.1, p.2, h2, h3, rfl⟩
theorem zipD_length (xs ys : List D) : (zipD xs ys).length = min xs.length ys.length := by unfold zipD; rw [List.length_map, List.length_zip]
theorem walk_zipG {k1 k2 : Bool} {a b : Addr} {xs ys : List V} {n : Nat} (hn : n = min xs.length ys.length) : L2.Walk (ItzG K k1 k2 a b) n (fun H => SqG K k1 H a xs ∧ SqG K k2 H b ys) (YPair (fun i => xs[i]?) (fun i => ys[i]?)) := by
  subst hn
  refine ⟨fun i H hi q => ?_, fun H q => ⟨xs, ys, q.1, q.2, by omega⟩, fun i H v H' _ q y => ?_⟩
  · have h1 : i < xs.length := by omega
    have h2 : i < ys.length := by omega
    exact ⟨xs, ys, xs[i], ys[i], q.1, q.2, List.getElem?_eq_getElem h1, List.getElem?_eq_getElem h2⟩
  · obtain ⟨T, x, z, h1, h2, h3, h4, h5⟩ := y
    exact ⟨T, x, z, h1, h2, h3, h4 xs q.1, h5 ys q.2⟩
theorem sound_zipX {E : XE} {t : TA} {f : EA} (h : SoundA K mg E t f) : SoundI K mg E (iZipX K t) (iZip f) := by
  intro F A G en σ H R Q k
  refine h.dats R (Then.imp (Then.bind k) (fun ds en1 k1 vs G' H' g R' r => ?_) fun _ _ z => z)
  match ds, k1, r with
  | [x, y], k1, r =>
    obtain ⟨v, r', rfl, h1, h2⟩ := r
    obtain ⟨v2, r2, rfl, h3, h4⟩ := h2
    cases (show r2 = [] from h4)
    have k2 : Then (match seqD x, seqD y with
      | some xs, some ys => Rs.ok (zipD xs ys) en1
      | _, _ => .st) (KoI K F A G σ Q) (KeE K mg E F A G σ) := k1
    cases ex : seqD x with
    | none => rw [ex] at k2; exact k2.elim
    | some xs =>
      cases ey : seqD y with
      | none => rw [ex, ey] at k2; exact k2.elim
      | some ys =>
        rw [ex, ey] at k2
        obtain ⟨q1, a, us, rfl, ru, hu⟩ := seq_at ex h1
        obtain ⟨q2, b, ws, rfl, rw', hw⟩ := seq_at ey h3
        refine ⟨a, b, us, ws, q1, q2, rfl, hu _ R'.gx, hw _ R'.gx, k2 _ F G' H' (fun _ _ z => z) g R' ?_⟩
        refine walk_pair (walk_zipG rfl) ((zipD_length xs ys).trans (by rw [ru.length, rw'.length])) (fun G2 _ _ _ g2 R2 => ⟨hu _ (g2.toLe.trans R2.gx), hw _ (g2.toLe.trans R2.gx)⟩) fun i d hd => ?_
        obtain ⟨x1, y1, e1, e2, rfl⟩ := zipD_get hd
        obtain ⟨u1, f1, f2⟩ := ru.get e1
        obtain ⟨u2, f3, f4⟩ := rw'.get e2
        exact ⟨x1, y1, u1, u2, rfl, f1, f3, f2, f4⟩
/-- the new pairs as data -/
theorem Rp.pairs : ∀ (l : List (Addr × V × V)) {G H : Hp}, Rp K F A G en σ H → (l.map (·.1)).Nodup → (∀ p ∈ l, H p.1 = none) → ∃ G', Grow F G G' ∧ Rp K F A G' en σ (updT H l) ∧ ∀ p ∈ l, G' p.1 = some (.tup [p.2.1, p.2.2])
  | [], G, H, R, _, _ => ⟨G, .refl _ _, R, fun _ h => nomatch h⟩
  | p :: l, G, H, R, nd, fr => by
    obtain ⟨g, R1⟩ := R.new (u := .tup [p.2.1, p.2.2]) (fr p List.mem_cons_self) (fun _ _ z => nomatch z)
    obtain ⟨n1, n2⟩ := List.nodup_cons.mp nd
    obtain ⟨G', g', R', at_⟩ := Rp.pairs l R1 n2 fun q hq => by
      have ne : q.1 ≠ p.1 := fun e => n1 (List.mem_map.mpr ⟨q, hq, e⟩)
      rw [upd_ne ne]
      exact fr q (List.mem_cons_of_mem _ hq)
    refine ⟨G', g.trans g', R', fun q hq => ?_⟩
    rcases List.mem_cons.mp hq with rfl | hq
    · exact g'.le _ _ upd_same
    · exact at_ q hq
theorem updT_at {S : Addr} : ∀ (l : List (Addr × V × V)) {H : Hp}, H S = none → (∀ p ∈ l, p.1 ≠ S) → updT H l S = none
  | [], H, h, _ => h
  | p :: l, H, h, n => updT_at l (by rw [upd_ne (Ne.symm (n p List.mem_cons_self))]; exact h) fun q hq => n q (List.mem_cons_of_mem _ hq)
theorem pairs_rvs {G : Hp} : ∀ (l : List (Addr × V × V)) {xs ys : List D} {us ws : List V}, Rvs K G xs us → Rvs K G ys ws → l.length = min us.length ws.length → (∀ p ∈ l, G p.1 = some (.tup [p.2.1, p.2.2])) → (∀ (i : Nat) (p : Addr × V × V), l[i]? = some p → us[i]? = some p.2.1 ∧ ws[i]? = some p.2.2) →
    Rvs K G (zipD xs ys) (l.map fun p => V.ref p.1)
  | [], [], _, us, ws, r1, r2, hl, _, _ => rfl
  | [], x :: xs, [], us, ws, r1, r2, hl, _, _ => rfl
  | [], x :: xs, y :: ys, us, ws, r1, r2, hl, _, _ => by
    have e1 := r1.length
    have e2 := r2.length
    rw [List.length_cons] at e1 e2
    simp only [List.length_nil] at hl
    omega
  | p :: l, xs, ys, us, ws, r1, r2, hl, at_, val => by
    obtain ⟨v1, v2⟩ := val 0 p rfl
    match us, ws, v1, v2 with
    | u :: us, w :: ws, v1, v2 =>
      cases v1
      cases v2
      cases xs with
      | nil => cases (show (p.2.1 :: us) = [] from r1)
      | cons x xs =>
        cases ys with
        | nil => cases (show (p.2.2 :: ws) = [] from r2)
        | cons y ys =>
          obtain ⟨u', us', e1, a1, a2⟩ := r1
          obtain ⟨w', ws', e2, b1, b2⟩ := r2
          cases e1
          cases e2
          refine ⟨.ref p.1, _, rfl, ⟨p.1, _, rfl, .inl (at_ p List.mem_cons_self), ⟨_, _, rfl, a1, ⟨_, _, rfl, b1, rfl⟩⟩⟩, ?_⟩
          exact pairs_rvs l a2 b2 (by simp only [List.length_cons] at hl; omega) (fun q hq => at_ q (List.mem_cons_of_mem _ hq)) fun i q hq => val (i + 1) q hq
theorem sound_lzip {E : XE} {t : TA} {f : EA} (h : SoundA K mg E t f) : SoundO K mg E (tLZip K t) (oLZip f) := by
  intro F A G en σ H R Q k
  refine h.dats R (Then.imp (Then.bind k) (fun ds en1 k1 vs G' H' g R' r => ?_) fun _ _ z => z)
  match ds, k1, r with
  | [x, y], k1, r =>
    obtain ⟨v, r', rfl, h1, h2⟩ := r
    obtain ⟨v2, r2, rfl, h3, h4⟩ := h2
    cases (show r2 = [] from h4)
    have k2 : Then (match seqD x, seqD y with
      | some xs, some ys => if xs.length ≤ 65536 then Rs.ok (PyData.list (zipD xs ys)) en1 else .st
      | _, _ => .st) (KoO K F A G σ Q) (KeE K mg E F A G σ) := k1
    cases ex : seqD x with
    | none => rw [ex] at k2; exact k2.elim
    | some xs =>
      cases ey : seqD y with
      | none => rw [ex, ey] at k2; exact k2.elim
      | some ys =>
        rw [ex, ey] at k2
        by_cases hl : xs.length ≤ 65536
        · simp only [hl, if_true] at k2
          obtain ⟨q1, a, us, rfl, ru, hu⟩ := seq_at ex h1
          obtain ⟨q2, b, ws, rfl, rw', hw⟩ := seq_at ey h3
          refine ⟨a, b, us, ws, q1, q2, rfl, hu _ R'.gx, hw _ R'.gx, ?_, fun S l base n hS fr hlen Fl => ?_⟩
          · rw [ru.length]; exact Nat.le_trans hl (size_of (Nat.le_refl _))
          · have fr2 : ∀ p ∈ l, H' p.1 = none := fun p hp => fr _ (Fl.at_ p hp).1
            obtain ⟨G2, g2, R2, at_⟩ := Rp.pairs l R' Fl.nd fr2
            have nS := updT_at l hS fun p hp => (Fl.at_ p hp).2.2
            refine k2 S G2 _ (g.trans g2) (R2.fresh nS) ⟨_, upd_same, pairs_rvs l (Rvs.le g2.toLe _ _ ru) (Rvs.le g2.toLe _ _ rw') hlen at_ Fl.val⟩ ?_
            have n := R2.free_new nS
            exact ⟨n.f, n.g, n.n, n.s⟩
        · simp only [hl, if_false] at k2
          exact k2.elim
end
section
variable {X : Cx} {E : XE}
theorem si_zip {e e2 : Expr} {t : TA} {f : EA} {p pos tpos : Pos} {elts : List Expr} {kk : Nat} (hm : X.mg "zip" = none) (h : SA X E [e, e2] t f) (hg : Gl X "zip" := by rfl)
    (hs : starEach [e, e2] X.env = (false, eval e X.env) :: starEach [e2] X.env := by rfl) (hpl : (backTo pos (starEach [e2] X.env)).any (·.1) = false := by rfl) :
    SI X E (.Tuple elts kk tpos) (.Call (.Name "zip" p) [e, e2] [] pos) (iZipX X.K t) (iZip f) := ⟨pi_zipX hg hm h.pa hs hpl, sound_zipX h.snd⟩
theorem so_lzip {e e2 : Expr} {t : TA} {f : EA} {p pos p2 pos2 : Pos} (calm : X.calm = true) (hm : X.mg "list" = none) (hm2 : X.mg "zip" = none) (h : SA X E [e, e2] t f) (hg : Gl X "list" := by rfl) (hg2 : Gl X "zip" := by rfl)
    (hs : starEach [e, e2] X.env = (false, eval e X.env) :: starEach [e2] X.env := by rfl) (hpl : (backTo pos2 (starEach [e2] X.env)).any (·.1) = false := by rfl)
    (na : starEach [.Call (.Name "zip" p2) [e, e2] [] pos2] X.env = (false, eval (.Call (.Name "zip" p2) [e, e2] [] pos2) X.env) :: starEach [] X.env := by rfl) :
    SO X E (.Call (.Name "list" p) [.Call (.Name "zip" p2) [e, e2] [] pos2] [] pos) (tLZip X.K t) (oLZip f) := ⟨pe_lzip calm hg hm hg2 hm2 h.pa hs hpl na, sound_lzip h.snd⟩
end
end Fx

set_option Elab.async false
set_option linter.all false
set_option maxRecDepth 100000
/-! xs.extend(a new list) -/
namespace Fx
open PySem PySem.Spec PyProof.Rows L2
section
variable {K : PySem.W.Frag} {mg : Str → Option Value}
def sExt (fo : EE) (fe : EO) : ES := fun en => (fo en).bind fun x en => match rd x en with
  | some (.list _) => (fe en).bind fun d en => match x, d with
    | .sl i, .list ys => match rd (.sl i) en with
      | some (.list ds) => if ds.length + ys.length ≤ 65536 then match put en i (.list (ds ++ ys)) with
        | some en => .ok .nx en
        | none => .st
        else .st
      | _ => .st
    | _, _ => .st
  | _ => .st
theorem sound_ext {E : XE} {to te : TE} {fo : EE} {fe : EO} (ho : SoundE K mg E to fo) (he : SoundO K mg E te fe) : SoundS K mg E (tDrop (tBM K "list" rExtend to (tCons te tNil))) (sExt fo fe) := by
  intro F A G en σ H R Dn k
  refine ho F A G en σ H R _ (Then.imp (Then.bind k) (fun x en1 k1 v G1 H1 g1 R1 r1 => ?_) fun _ _ z => z.ke)
  split at k1
  · rename_i ds0 e0
    obtain ⟨a, vs0, rfl, h0, _⟩ := (show Rc K G1 H1 (.list ds0) v from rd_rc R1 r1 e0)
    refine ⟨.inl ⟨rfl, vs0, h0⟩, ?_⟩
    refine he F A G1 en1 σ H1 R1 _ (Then.imp (Then.bind k1) (fun d en2 k2 p G2 H2 g2 R2 own nw => ?_) fun x en2 k2 => (KeS.grow g1 k2).ke)
    split at k2
    · rename_i i ys
      split at k2
      · rename_i ds e1
        split at k2
        · rename_i hl
          cases e2 : put en2 i (.list (ds ++ ys)) with
          | none => simp only [e2] at k2; exact k2.elim
          | some en3 =>
            simp only [e2] at k2
            obtain ⟨a', e, ⟨vs, hv, rv⟩, _, _, wr⟩ := R2.owned (show σ[i]? = some (some (.ref a)) from r1) e1 e2
            cases e
            obtain ⟨ws, hw, rw'⟩ := own
            refine ⟨a, p, vs, ws, rfl, rfl, hv, hw, by rw [rv.length, rw'.length]; exact size_of hl, ?_⟩
            exact k2 σ G2 _ (g1.trans g2) (wr _ ⟨_, upd_same, rv.append rw'⟩)
        · exact k2.elim
      · exact k2.elim
    · exact k2.elim
  · exact k1.elim
end
section
variable {X : Cx} {E : XE}
theorem ss_ext {o e : Expr} {to te : TE} {fo : EE} {fe : EO} {apos cpos pos : Pos} (ho : SE X E o to fo) (he : SO X E e te fe) (base : attributeBase o "extend" X.env (eval o X.env) = eval o X.env := by rfl)
    (few : ((backTo cpos (starEach [e] X.env)).all (fun x => !x.1) && (backToKw cpos (keywordEach [] X.env)).all (fun x => x.1.isSome) && decide (([e] : List Expr).length + ([] : List Keyword).length + (if ([] : List Keyword).isEmpty then 0 else 1) < 30)) = true := by rfl)
    (line : (apos.endLine == cpos.line) = true := by rfl) (hs : starEach [e] X.env = (false, eval e X.env) :: starEach [] X.env := by rfl) (plain : (backTo cpos (starEach [] X.env)).any (·.1) = false := by rfl)
    (sw : swapsWith (.Call (.Attribute o "extend" apos) [e] [] cpos) none pos.line X.env = pure false := by rfl) :
    SS X E (.Expr (.Call (.Attribute o "extend" apos) [e] [] cpos) pos) (tDrop (tBM X.K "list" rExtend to (tCons te tNil))) (sExt fo fe) :=
  ⟨ps_expr (pe_bm PySem.F.plainAttrs_list PySem.F.slot_list_extend PySem.F.type_list_extend mt_extend ho.pe (pa_cons he.pe pa_nil hs) base few line hs plain) sw, sound_ext ho.snd he.snd⟩
end
end Fx

set_option Elab.async false
set_option linter.all false
set_option maxRecDepth 100000
namespace Clk
open PySem PySem.Spec PySem.W PyProof.Rows L2 Fx
def b_chain_of : ES := (sSeq (sPar3 6 7 8 (mConsO (oLst aNil) (mConsF (eV 2) (mConsF (eV 5) mNil))))
    (sSeq (sFor (iR3 (aCons (eOp oSub (eV 4) (eC (.int 1))) (aCons (eUn oNeg (eC (.int 1))) (aCons (eUn oNeg (eC (.int 1))) aNil)))) (nName 9) (sFor (iSeq (eV 0)) (nTup 5 (nCons (nName 10) (nCons (nName 11) (nCons (nName 12) (nCons (nName 13) (nCons (nName 14) nNil)))))) (sSeq (sAsg (eGet1 (eOp oIx (eV 1) (eV 9)) (eTup (aCons (eV 13) (aCons (eV 3) aNil)))) (nName 15))
    (sIf (cAnd (cB (eOp oEq (eV 12) (eV 7))) (cAnd (cB (eOp oNotN (eV 15) (eC .none))) (cB (eOp oLe (eOp oAdd (eV 14) (eV 15)) (eV 8))))) (sSeq (sApp (eV 6) (eTup (aCons (eV 10) (aCons (eV 11) aNil))))
    (sSeq (sPar 7 8 (mConsF (eV 13) (mConsF (eOp oSub (eV 8) (eV 14)) mNil)))
    sBk)) sNx))))
    (sRet (eUn oTuple (eV 6)))))
def f_chain_of : Fn := noer (fnOf [false, false, false, false, false, false] 16 b_chain_of)
def b_lesser : ES := (sSeq (sIf (cOr (cB (eOp oIsN (eV 0) (eC .none))) (cB (eOp oIsN (eV 1) (eC .none)))) (sRet (eIf (cB (eOp oIsN (eV 0) (eC .none))) (eV 1) (eV 0))) sNx)
    (sRet (eOp oMin2 (eV 0) (eV 1))))
def f_lesser : Fn := noer (fnOf [false, false] 2 b_lesser)
def b_sums_by_length : ES := (sSeq (sSetO 3 oDnew)
    (sSeq (sFor (iSeq (eV 1)) (nTup 5 (nCons (nName 4) (nCons (nName 5) (nCons (nName 6) (nCons (nName 7) (nCons (nName 8) nNil)))))) (sPut (eV 3) (kTup (aCons (eV 6) (aCons (eV 7) aNil))) (eCall [false, false] f_lesser (aCons (eGet1 (eV 3) (eTup (aCons (eV 6) (aCons (eV 7) aNil)))) (aCons (eV 8) aNil)))))
    (sSeq (sSetO 9 (oLst (aCons (ofO (oDc (iR1 (aCons (eV 0) aNil)) (nName 15) cYes (kTup (aCons (eV 15) (aCons (eV 15) aNil))) (eC (.int 0)) [15])) aNil)))
    (sSeq (sFor (iR1 (aCons (eV 2) aNil)) (nName 10) (sSeq (sSetO 11 oDnew)
    (sSeq (sFor (iIt (eOp oIx (eV 9) (eUn oNeg (eC (.int 1))))) (nTup 2 (nCons (nTup 2 (nCons (nName 6) (nCons (nName 12) nNil))) (nCons (nName 13) nNil))) (sFor (iIt (eV 3)) (nTup 2 (nCons (nTup 2 (nCons (nName 14) (nCons (nName 7) nNil))) (nCons (nName 8) nNil))) (sIf (cB (eOp oEq (eV 14) (eV 12))) (sPut (eV 11) (kTup (aCons (eV 6) (aCons (eV 7) aNil))) (eCall [false, false] f_lesser (aCons (eGet1 (eV 11) (eTup (aCons (eV 6) (aCons (eV 7) aNil)))) (aCons (eOp oAdd (eV 13) (eV 8)) aNil)))) sNx)))
    (sApp (eV 9) (eV 11)))))
    (sRet (eV 9))))))
def f_sums_by_length : Fn := noer (fnOf [false, false, false] 16 b_sums_by_length)
def b_sides_of : ES := (sSeq (sSetO 1 (oLst aNil))
    (sSeq (sFor (iEnm (eV 0)) (nTup 2 (nCons (nName 2) (nCons (nTup 6 (nCons (nName 3) (nCons (nName 4) (nCons (nName 5) (nCons (nName 6) (nCons (nName 7) (nCons (nName 8) nNil))))))) nNil))) (sSeq (sApp (eV 1) (eTup (aCons (eV 2) (aCons (eC (.str "least")) (aCons (eV 3) (aCons (eV 5) (aCons (eOp oSub (eOp oSub (eV 6) (eV 4)) (eV 7)) aNil)))))))
    (sIf (cB (eOp oNotN (eV 8) (eC .none))) (sApp (eV 1) (eTup (aCons (eV 2) (aCons (eC (.str "most")) (aCons (eV 5) (aCons (eV 3) (aCons (eOp oAdd (eOp oSub (eV 8) (eV 6)) (eV 4)) aNil))))))) sNx)))
    (sRet (eV 1))))
def f_sides_of : Fn := noer (fnOf [false] 9 b_sides_of)
def b_high : ES := (sRet (eGet1 (eV 0) (eTup (aCons (eV 1) (aCons (eV 2) aNil)))))
def f_high : Fn := noer (fnOf [false, false, false] 3 b_high)
def b_low : ES := (sSeq (sAsg (eGet1 (eV 0) (eTup (aCons (eV 2) (aCons (eV 1) aNil)))) (nName 3))
    (sRet (eIf (cB (eOp oIsN (eV 3) (eC .none))) (eC .none) (eUn oNeg (eV 3)))))
def f_low : Fn := noer (fnOf [false, false, false] 4 b_low)
def b_together : ES := (sRet (eIf (cOr (cB (eOp oIsN (eV 0) (eC .none))) (cB (eOp oIsN (eV 1) (eC .none)))) (eC .none) (eOp oAdd (eV 0) (eV 1))))
def f_together : Fn := noer (fnOf [false, false] 2 b_together)
def b_highs : ES := (sSeq (sSetO 2 (oDc (iR1 (aCons (eV 0) aNil)) (nName 11) cYes (kTup (aCons (eV 11) (aCons (eV 11) aNil))) (eC (.int 0)) [11]))
    (sSeq (sFor (iSeq (eCall [false] f_sides_of (aCons (eV 1) aNil))) (nTup 5 (nCons (nName 3) (nCons (nName 4) (nCons (nName 5) (nCons (nName 6) (nCons (nName 7) nNil)))))) (sPut (eV 2) (kTup (aCons (eV 5) (aCons (eV 6) aNil))) (eCall [false, false] f_lesser (aCons (eGet1 (eV 2) (eTup (aCons (eV 5) (aCons (eV 6) aNil)))) (aCons (eV 7) aNil)))))
    (sSeq (sFor (iR1 (aCons (eV 0) aNil)) (nName 8) (sFor (iR1 (aCons (eV 0) aNil)) (nName 5) (sSeq (sAsg (eGet1 (eV 2) (eTup (aCons (eV 5) (aCons (eV 8) aNil)))) (nName 9))
    (sFor (iR1 (aCons (eV 0) aNil)) (nName 6) (sSeq (sAsg (eCall [false, false] f_together (aCons (eV 9) (aCons (eGet1 (eV 2) (eTup (aCons (eV 8) (aCons (eV 6) aNil)))) aNil))) (nName 10))
    (sIf (cB (eOp oNotN (eV 10) (eC .none))) (sPut (eV 2) (kTup (aCons (eV 5) (aCons (eV 6) aNil))) (eCall [false, false] f_lesser (aCons (eGet1 (eV 2) (eTup (aCons (eV 5) (aCons (eV 6) aNil)))) (aCons (eV 10) aNil)))) sNx))))))
    (sRet (eV 2)))))
def f_highs : Fn := noer (fnOf [false, false] 12 b_highs)
def b_check_round : ES := (sSeq (sAsg (eCall [false, false] f_highs (aCons (eV 0) (aCons (eV 1) aNil))) (nName 2))
    (sIf (cNot (cB (eUn oAll (ofO (oLc (iR1 (aCons (eV 0) aNil)) (nName 3) cYes (eOp oEq (eItem (eV 2) (eTup (aCons (eV 3) (aCons (eV 3) aNil)))) (eC (.int 0))) [3]))))) sSt sNx))
def f_check_round : Fn := noer (fnOf [false, false] 4 b_check_round)
def b_is_whole : ES := (sRet (eAnd (eUn (oIsi cInt) (eV 0)) (eNot (eUn (oIsi (cOne "bool")) (eV 0)))))
def f_is_whole : Fn := noer (fnOf [false] 1 b_is_whole)
def b_is_between : ES := (sRet (eAnd (eCall [false] f_is_whole (aCons (eV 0) aNil)) (eChain oLe oLe (eV 1) (eV 0) (eV 2))))
def f_is_between : Fn := noer (fnOf [false, false, false] 3 b_is_between)
def b_check_site : ES := (sIf (cNot (cB (eCall [false, false, false] f_is_between (aCons (eV 1) (aCons (eC (.int 0)) (aCons (eOp oSub (eV 0) (eC (.int 1))) aNil)))))) sSt sNx)
def f_check_site : Fn := noer (fnOf [false, false] 2 b_check_site)
def b_is_fact : ES := (sSeq (sIf (cOr (cNot (cB (eUn (oIsi (cOne "tuple")) (eV 1)))) (cB (eOp oNe (eUn oLen (eV 1)) (eC (.int 6))))) (sRet (eC (.bool false))) sNx)
    (sSeq (sAsg (eV 1) (nTup 6 (nCons (nName 2) (nCons (nName 3) (nCons (nName 4) (nCons (nName 5) (nCons (nName 6) (nCons (nName 7) nNil))))))))
    (sSeq (sIf (cOr (cNot (cB (eCall [false, false, false] f_is_between (aCons (eV 2) (aCons (eC (.int 0)) (aCons (eOp oSub (eV 0) (eC (.int 1))) aNil)))))) (cOr (cNot (cB (eCall [false, false, false] f_is_between (aCons (eV 4) (aCons (eC (.int 0)) (aCons (eOp oSub (eV 0) (eC (.int 1))) aNil)))))) (cB (eOp oEq (eV 2) (eV 4))))) (sRet (eC (.bool false))) sNx)
    (sSeq (sIf (cOr (cNot (cB (eCall [false] f_is_whole (aCons (eV 3) aNil)))) (cOr (cNot (cB (eCall [false] f_is_whole (aCons (eV 5) aNil)))) (cB (eOp oGe (eOp oMax2 (eUn oAbs (eV 3)) (eUn oAbs (eV 5))) (eC (.int 1000000000)))))) (sRet (eC (.bool false))) sNx)
    (sRet (eAnd (eCall [false, false, false] f_is_between (aCons (eV 6) (aCons (eC (.int 0)) (aCons (eC (.int 9999)) aNil)))) (eOr (eOp oIsN (eV 7) (eC .none)) (eCall [false, false, false] f_is_between (aCons (eV 7) (aCons (eV 6) (aCons (eC (.int 9999)) aNil)))))))))))
def f_is_fact : Fn := noer (fnOf [false, false] 8 b_is_fact)
def b_are_facts : ES := (sSeq (sIf (cOr (cNot (cB (eUn (oIsi (cOne "tuple")) (eV 1)))) (cB (eOp oGt (eUn oLen (eV 1)) (eC (.int 60))))) (sRet (eC (.bool false))) sNx)
    (sRet (eUn oAll (ofO (oLc (iSeq (eV 1)) (nName 2) cYes (eCall [false, false] f_is_fact (aCons (eV 0) (aCons (eV 2) aNil))) [2])))))
def f_are_facts : Fn := noer (fnOf [false, false] 3 b_are_facts)
def b_check_facts : ES := (sSeq (sIf (cNot (cB (eCall [false, false, false] f_is_between (aCons (eV 0) (aCons (eC (.int 1)) (aCons (eC (.int 12)) aNil)))))) sSt sNx)
    (sIf (cNot (cB (eCall [false, false] f_are_facts (aCons (eV 0) (aCons (eV 1) aNil))))) sSt sNx))
def f_check_facts : Fn := noer (fnOf [false, false] 2 b_check_facts)
def b_bounds : ES := (sSeq (sDrop (eCall [false, false] f_check_facts (aCons (eV 0) (aCons (eV 1) aNil))))
    (sSeq (sDrop (eCall [false, false] f_check_site (aCons (eV 0) (aCons (eV 2) aNil))))
    (sSeq (sDrop (eCall [false, false] f_check_site (aCons (eV 0) (aCons (eV 3) aNil))))
    (sSeq (sDrop (eCall [false, false] f_check_round (aCons (eV 0) (aCons (eV 1) aNil))))
    (sSeq (sAsg (eCall [false, false] f_highs (aCons (eV 0) (aCons (eV 1) aNil))) (nName 4))
    (sRet (eTup (aCons (eCall [false, false, false] f_low (aCons (eV 4) (aCons (eV 2) (aCons (eV 3) aNil)))) (aCons (eCall [false, false, false] f_high (aCons (eV 4) (aCons (eV 2) (aCons (eV 3) aNil)))) aNil)))))))))
def f_bounds : Fn := noer (fnOf [false, false, false, false] 5 b_bounds)
def b_why : ES := (sSeq (sAsg (eOp oIx (eCall [false, false, false, false] f_bounds (aCons (eV 0) (aCons (eV 1) (aCons (eV 2) (aCons (eV 3) aNil))))) (eC (.int 1))) (nName 4))
    (sSeq (sIf (cB (eOp oIsN (eV 4) (eC .none))) (sRet (eC .none)) sNx)
    (sSeq (sAsg (eCall [false] f_sides_of (aCons (eV 1) aNil)) (nName 5))
    (sSeq (sAsg (eCall [false, false, false] f_sums_by_length (aCons (eV 0) (aCons (eV 5) (aCons (eOp oSub (eV 0) (eC (.int 1))) aNil)))) (nName 6))
    (sSeq (sAsg (eUn oMinL (ofO (oLc (iEnm (eV 6)) (nTup 2 (nCons (nName 8) (nCons (nName 9) nNil))) (cB (eOp oEq (eGet1 (eV 9) (eTup (aCons (eV 2) (aCons (eV 3) aNil)))) (eV 4))) (eV 8) [8, 9]))) (nName 7))
    (sRet (eCall [false, false, false, false, false, false] f_chain_of (aCons (eV 5) (aCons (eV 6) (aCons (eV 2) (aCons (eV 3) (aCons (eV 7) (aCons (eV 4) aNil)))))))))))))
def f_why : Fn := noer (fnOf [false, false, false, false] 10 b_why)
end Clk

set_option Elab.async false
set_option linter.all false
namespace Clk

/-! ### sides, paths, tables: plain mathematics -/
structure Side where
  n : Int
  l : Bool
  b : Int
  e : Int
  w : Int
deriving DecidableEq
def Path : Int → List Side → Int → Prop
  | a, [], b => a = b
  | a, s :: r, b => s.b = a ∧ Path s.e r b
def wt : List Side → Int
  | [] => 0
  | s :: r => s.w + wt r
theorem wt_append : ∀ l r, wt (l ++ r) = wt l + wt r
  | [], r => by simp [wt]
  | s :: l, r => by rw [List.cons_append, wt, wt, wt_append l r]; omega
theorem path_append : ∀ {l r : List Side} {a m c : Int}, Path a l m → Path m r c → Path a (l ++ r) c
  | [], r, a, m, c, h, k => by cases (show a = m from h); exact k
  | s :: l, r, a, m, c, h, k => ⟨h.1, path_append h.2 k⟩
theorem path_split : ∀ {l r : List Side} {a c : Int}, Path a (l ++ r) c → ∃ m, Path a l m ∧ Path m r c
  | [], r, a, c, h => ⟨a, rfl, h⟩
  | s :: l, r, a, c, h => by
    obtain ⟨m, h1, h2⟩ := path_split (l := l) h.2
    exact ⟨m, ⟨h.1, h1⟩, h2⟩
theorem path_end : ∀ {l : List Side} {a c d : Int}, Path a l c → Path a l d → c = d
  | [], a, c, d, h, k => h.symm.trans k
  | s :: l, a, c, d, h, k => path_end h.2 k.2

abbrev Tab := Int → Int → Option Int
/-- the facts' clocks can be set: p; all sides lie in 0 .. m-1 -/
structure Sound (m : Nat) (S : List Side) (p : Int → Int) : Prop where
  lo : ∀ s ∈ S, 0 ≤ s.b ∧ s.b < m ∧ 0 ≤ s.e ∧ s.e < m
  pot : ∀ s ∈ S, p s.e - p s.b ≤ s.w
def In (m : Nat) (a : Int) : Prop := 0 ≤ a ∧ a < m
theorem path_pot {m : Nat} {S : List Side} {p : Int → Int} (o : Sound m S p) : ∀ {l : List Side} {a c : Int}, (∀ s ∈ l, s ∈ S) → Path a l c → p c - p a ≤ wt l
  | [], a, c, _, h => by cases (show a = c from h); simp [wt]
  | s :: l, a, c, i, h => by
    have h1 := o.pot s (i s List.mem_cons_self)
    have h2 := path_pot o (fun x hx => i x (List.mem_cons_of_mem _ hx)) h.2
    rw [h.1] at h1
    simp only [wt]
    omega
theorem path_in {m : Nat} {S : List Side} {p : Int → Int} (o : Sound m S p) : ∀ {l : List Side} {a c : Int}, (∀ s ∈ l, s ∈ S) → Path a l c → In m a → In m c
  | [], a, c, _, h, k => by cases (show a = c from h); exact k
  | s :: l, a, c, i, h, _ => by
    have h1 := o.lo s (i s List.mem_cons_self)
    exact path_in o (fun x hx => i x (List.mem_cons_of_mem _ hx)) h.2 ⟨h1.2.2.1, h1.2.2.2⟩
/-- rows: what the least sum of just k sides is -/
structure Rows (m : Nat) (S : List Side) (R : Nat → Tab) (L : Nat) : Prop where
  le : ∀ (l : List Side) a c, (∀ s ∈ l, s ∈ S) → Path a l c → In m a → l.length ≤ L → ∃ v, R l.length a c = some v ∧ v ≤ wt l
  at_ : ∀ k a c v, k ≤ L → R k a c = some v → ∃ l : List Side, l.length = k ∧ (∀ s ∈ l, s ∈ S) ∧ Path a l c ∧ In m a ∧ wt l = v
/-- the least sums -/
structure Dist (m : Nat) (S : List Side) (T : Tab) : Prop where
  at_ : ∀ a c v, T a c = some v → In m a ∧ ∃ l : List Side, (∀ s ∈ l, s ∈ S) ∧ Path a l c ∧ wt l = v
  le : ∀ (l : List Side) a c, (∀ s ∈ l, s ∈ S) → Path a l c → In m a → ∃ v, T a c = some v ∧ v ≤ wt l
theorem dist_tri {m : Nat} {S : List Side} {T : Tab} (d : Dist m S T) {a b c x y : Int} (h : T a b = some x) (k : T b c = some y) : ∃ z, T a c = some z ∧ z ≤ x + y := by
  obtain ⟨ia, l, i1, p1, w1⟩ := d.at_ a b x h
  obtain ⟨ib, r, i2, p2, w2⟩ := d.at_ b c y k
  obtain ⟨z, h1, h2⟩ := d.le (l ++ r) a c (fun s hs => (List.mem_append.mp hs).elim (i1 s) (i2 s)) (path_append p1 p2) ia
  rw [wt_append] at h2
  exact ⟨z, h1, by omega⟩
theorem dist_self {m : Nat} {S : List Side} {p : Int → Int} {T : Tab} (o : Sound m S p) (d : Dist m S T) {a : Int} (h : In m a) : T a a = some 0 := by
  obtain ⟨z, h1, h2⟩ := d.le [] a a (fun _ h => nomatch h) rfl h
  obtain ⟨_, l, i1, p1, w1⟩ := d.at_ a a z h1
  have := path_pot o i1 p1
  simp only [wt] at h2
  rw [h1]
  congr 1
  omega

/-! #### few sides are enough -/
theorem nodup_len : ∀ (l m : List Int), l.Nodup → (∀ x ∈ l, x ∈ m) → l.length ≤ m.length
  | [], m, _, _ => Nat.zero_le _
  | a :: l, m, nd, h => by
    have ha := h a List.mem_cons_self
    have nd' := List.nodup_cons.mp nd
    have := nodup_len l (m.erase a) nd'.2 fun x hx => by
      have ne : x ≠ a := fun z => nd'.1 (z ▸ hx)
      exact (List.mem_erase_of_ne ne).mpr (h x (List.mem_cons_of_mem _ hx))
    rw [List.length_erase_of_mem ha] at this
    have : 0 < m.length := List.length_pos_of_mem ha
    simp only [List.length_cons]
    omega
/-- the sites that a path comes by, but the last -/
def stops : List Side → List Int := List.map (·.b)
theorem dup_split : ∀ {l : List Int}, ¬ l.Nodup → ∃ x l1 l2 l3, l = l1 ++ x :: l2 ++ x :: l3
  | [], h => absurd List.nodup_nil h
  | a :: l, h => by
    by_cases ha : a ∈ l
    · obtain ⟨l2, l3, e⟩ := List.append_of_mem ha
      exact ⟨a, [], l2, l3, by rw [e]; rfl⟩
    · have : ¬ l.Nodup := fun z => h (List.nodup_cons.mpr ⟨ha, z⟩)
      obtain ⟨x, l1, l2, l3, e⟩ := dup_split this
      exact ⟨x, a :: l1, l2, l3, by rw [e]; rfl⟩
theorem map_split {l : List Side} {u v : List Int} (h : l.map (·.b) = u ++ v) : ∃ l1 l2, l = l1 ++ l2 ∧ l1.map (·.b) = u ∧ l2.map (·.b) = v := by
  obtain ⟨l1, l2, h1, h2, h3⟩ := List.map_eq_append_iff.mp h
  exact ⟨l1, l2, h1, h2, h3⟩
theorem path_head {l : List Side} {a c x : Int} {r : List Int} (h : Path a l c) (e : l.map (·.b) = x :: r) : a = x := by
  cases l with
  | nil => cases e
  | cons s l =>
    rw [List.map_cons] at e
    injection e with e1 e2
    exact h.1.symm.trans e1
theorem shorten {m : Nat} {S : List Side} {p : Int → Int} (o : Sound m S p) : ∀ (n : Nat) {l : List Side} {a c : Int}, l.length ≤ n → (∀ s ∈ l, s ∈ S) → Path a l c → In m a → 0 < m →
    ∃ r : List Side, r.length ≤ m - 1 ∧ (∀ s ∈ r, s ∈ S) ∧ Path a r c ∧ wt r ≤ wt l
  | 0, l, a, c, hn, i, h, ia, hm => ⟨l, by omega, i, h, Int.le_refl _⟩
  | n + 1, l, a, c, hn, i, h, ia, hm => by
    by_cases hl : l.length ≤ m - 1
    · exact ⟨l, hl, i, h, Int.le_refl _⟩
    -- the sites it comes by, the last one too
    have ic := path_in o i h ia
    have big : ¬ (l.map (·.b) ++ [c]).Nodup := fun nd => by
      have := nodup_len _ ((List.range m).map fun (k : Nat) => (k : Int)) nd fun x hx => by
        have ix : In m x := by
          rcases List.mem_append.mp hx with hx | hx
          · obtain ⟨s, hs, rfl⟩ := List.mem_map.mp hx
            have := o.lo s (i s hs)
            exact ⟨this.1, this.2.1⟩
          · rw [List.mem_singleton.mp hx]; exact ic
        refine List.mem_map.mpr ⟨x.toNat, List.mem_range.mpr ?_, ?_⟩
        · have := ix.1; have := ix.2; omega
        · have := ix.1; omega
      rw [List.length_append, List.length_map, List.length_map, List.length_range, List.length_singleton] at this
      omega
    obtain ⟨x, u, v, t, e⟩ := dup_split big
    -- cut: l = l1 ++ l2 ++ l3, l2 from x to x
    have cut : ∃ l1 l2 l3, l = l1 ++ (l2 ++ l3) ∧ l2 ≠ [] ∧ Path a l1 x ∧ Path x l2 x ∧ Path x l3 c := by
      rcases List.eq_nil_or_concat t with rfl | ⟨t', z, rfl⟩
      · have e1 : l.map (·.b) = u ++ (x :: v) := by
          have : l.map (·.b) ++ [c] = (u ++ x :: v) ++ [x] := by rw [e]
          exact (List.append_inj' this rfl).1
        have e2 : c = x := by
          have : l.map (·.b) ++ [c] = (u ++ x :: v) ++ [x] := by rw [e]
          have := (List.append_inj' this rfl).2
          injection this
        obtain ⟨l1, l2, rfl, h1, h2⟩ := map_split e1
        obtain ⟨m1, p1, p2⟩ := path_split h
        have q := path_head p2 h2
        subst q
        subst e2
        exact ⟨l1, l2, [], by rw [List.append_nil], (fun z => by rw [z] at h2; cases h2), p1, p2, rfl⟩
      · have e1 : l.map (·.b) = u ++ (x :: v ++ x :: t') := by
          have : l.map (·.b) ++ [c] = (u ++ (x :: v ++ x :: t')) ++ [z] := by rw [e]; simp
          exact (List.append_inj' this rfl).1
        obtain ⟨l1, l', rfl, h1, h2⟩ := map_split e1
        obtain ⟨l2, l3, rfl, h3, h4⟩ := map_split h2
        obtain ⟨m1, p1, p2⟩ := path_split h
        obtain ⟨m2, p3, p4⟩ := path_split p2
        have q := path_head p3 h3
        have q2 := path_head p4 h4
        subst q
        subst q2
        exact ⟨l1, l2, l3, rfl, (fun z => by rw [z] at h3; cases h3), p1, p3, p4⟩
    obtain ⟨l1, l2, l3, rfl, ne, p1, p2, p3⟩ := cut
    have i1 : ∀ s ∈ l1 ++ l3, s ∈ S := fun s hs => i s (by
      rcases List.mem_append.mp hs with z | z
      · exact List.mem_append_left _ z
      · exact List.mem_append_right _ (List.mem_append_right _ z))
    have i2 : ∀ s ∈ l2, s ∈ S := fun s hs => i s (List.mem_append_right _ (List.mem_append_left _ hs))
    have w2 := path_pot o i2 p2
    have len : 0 < l2.length := List.length_pos_iff.mpr ne
    obtain ⟨r, h1, h2, h3, h4⟩ := shorten o n (l := l1 ++ l3) (by simp only [List.length_append] at hn ⊢; omega) i1 (path_append p1 p3) ia hm
    refine ⟨r, h1, h2, h3, ?_⟩
    simp only [wt_append] at h4 ⊢
    omega

/-! #### the told chain -/
def okSide (R : Nat → Tab) (t : Int) (k : Nat) (here left : Int) (s : Side) : Bool := decide (s.b = here) && match R k s.e t with
  | some r => decide (s.w + r ≤ left)
  | none => false
def chain (S : List Side) (R : Nat → Tab) (t : Int) : Nat → Int → Int → List Side
  | 0, _, _ => []
  | k + 1, here, left => match S.find? (okSide R t k here left) with
    | some s => s :: chain S R t k s.e (left - s.w)
    | none => chain S R t k here left
theorem okSide_iff {R : Nat → Tab} {t : Int} {k : Nat} {here left : Int} {s : Side} : okSide R t k here left s = true ↔ s.b = here ∧ ∃ r, R k s.e t = some r ∧ s.w + r ≤ left := by
  unfold okSide
  cases h : R k s.e t with
  | none => simp
  | some r => simp
section
variable {m : Nat} {S : List Side} {p : Int → Int} {R : Nat → Tab} {T : Tab} {L : Nat}
/-- a step of the chain is there, and leads on -/
theorem chain_step (o : Sound m S p) (r : Rows m S R L) (d : Dist m S T) {t : Int} {k : Nat} {here left : Int} (hk : k + 1 ≤ L) (h1 : R (k + 1) here t = some left) (h2 : T here t = some left) :
    ∃ s, S.find? (okSide R t k here left) = some s ∧ s ∈ S ∧ s.b = here ∧ R k s.e t = some (left - s.w) ∧ T s.e t = some (left - s.w) := by
  obtain ⟨l, e, i, pa, ia, w⟩ := r.at_ (k + 1) here t left hk h1
  match l, e, i, pa, w with
  | s0 :: l, e, i, pa, w =>
    have hs0 := i s0 List.mem_cons_self
    have in0 : In m s0.e := ⟨(o.lo s0 hs0).2.2.1, (o.lo s0 hs0).2.2.2⟩
    have il : ∀ s ∈ l, s ∈ S := fun s hs => i s (List.mem_cons_of_mem _ hs)
    have el : l.length = k := by simpa using e
    obtain ⟨v, hv, hv2⟩ := r.le l s0.e t il pa.2 in0 (by omega)
    rw [el] at hv
    have ok0 : okSide R t k here left s0 = true := okSide_iff.mpr ⟨pa.1, v, hv, by simp only [wt] at w; omega⟩
    cases hf : S.find? (okSide R t k here left) with
    | none => exact absurd ok0 (List.find?_eq_none.mp hf s0 hs0)
    | some s =>
      have hs := List.mem_of_find?_eq_some hf
      obtain ⟨hb, x, hx, hle⟩ := okSide_iff.mp (List.find?_some hf)
      obtain ⟨l2, e2, i2, p2, in2, w2⟩ := r.at_ k s.e t x (by omega) hx
      obtain ⟨z, hz, hz2⟩ := d.le (s :: l2) here t (fun y hy => by
        rcases List.mem_cons.mp hy with rfl | hy
        · exact hs
        · exact i2 y hy) ⟨hb, p2⟩ ia
      rw [h2] at hz
      cases hz
      simp only [wt] at hz2
      have ex : x = left - s.w := by omega
      subst ex
      refine ⟨s, rfl, hs, hb, hx, ?_⟩
      obtain ⟨y, hy, hy2⟩ := d.le l2 s.e t i2 p2 in2
      obtain ⟨_, l3, i3, p3, w3⟩ := d.at_ s.e t y hy
      obtain ⟨z, hz, hz3⟩ := d.le (s :: l3) here t (fun q hq => by
        rcases List.mem_cons.mp hq with rfl | hq
        · exact hs
        · exact i3 q hq) ⟨hb, p3⟩ ia
      rw [h2] at hz
      cases hz
      simp only [wt] at hz3
      rw [hy]
      congr 1
      omega
theorem chain_ok (o : Sound m S p) (r : Rows m S R L) (d : Dist m S T) {t : Int} : ∀ (k : Nat) {here left : Int}, k ≤ L → R k here t = some left → T here t = some left →
    (chain S R t k here left).length = k ∧ (∀ s ∈ chain S R t k here left, s ∈ S) ∧ Path here (chain S R t k here left) t ∧ wt (chain S R t k here left) = left
  | 0, here, left, hk, h1, h2 => by
    obtain ⟨l, e, i, pa, ia, w⟩ := r.at_ 0 here t left hk h1
    cases l with
    | nil => exact ⟨rfl, (fun s h => nomatch h), pa, w⟩
    | cons s l => cases e
  | k + 1, here, left, hk, h1, h2 => by
    obtain ⟨s, hf, hs, hb, h3, h4⟩ := chain_step o r d hk h1 h2
    have e : chain S R t (k + 1) here left = s :: chain S R t k s.e (left - s.w) := by
      show (match S.find? (okSide R t k here left) with
        | some s => s :: chain S R t k s.e (left - s.w)
        | none => chain S R t k here left) = _
      rw [hf]
    obtain ⟨c1, c2, c3, c4⟩ := chain_ok o r d k (by omega) h3 h4
    rw [e]
    refine ⟨by rw [List.length_cons, c1], fun x hx => ?_, ⟨hb, c3⟩, by rw [wt, c4]; omega⟩
    rcases List.mem_cons.mp hx with rfl | hx
    · exact hs
    · exact c2 x hx
/-- what is left of a chain is the chain from there -/
theorem chain_rest (o : Sound m S p) (r : Rows m S R L) (d : Dist m S T) {t : Int} : ∀ (l1 : List Side) {l2 : List Side} {k : Nat} {here left h : Int}, k ≤ L → R k here t = some left → T here t = some left →
    chain S R t k here left = l1 ++ l2 → Path here l1 h → chain S R t l2.length h (left - wt l1) = l2
  | [], l2, k, here, left, h, hk, h1, h2, e, pa => by
    cases (show here = h from pa)
    have := (chain_ok o r d k hk h1 h2).1
    rw [e, List.nil_append] at this
    rw [this, wt, Int.sub_zero, e]
    rfl
  | s :: l1, l2, 0, here, left, h, hk, h1, h2, e, pa => by cases e
  | s :: l1, l2, k + 1, here, left, h, hk, h1, h2, e, pa => by
    obtain ⟨s', hf, hs, hb, h3, h4⟩ := chain_step o r d hk h1 h2
    have e' : chain S R t (k + 1) here left = s' :: chain S R t k s'.e (left - s'.w) := by
      show (match S.find? (okSide R t k here left) with
        | some s => s :: chain S R t k s.e (left - s.w)
        | none => chain S R t k here left) = _
      rw [hf]
    rw [e'] at e
    injection e with e1 e2
    subst e1
    have := chain_rest o r d l1 (by omega) h3 h4 e2 pa.2
    rw [wt, show left - (s'.w + wt l1) = left - s'.w - wt l1 by omega]
    exact this
theorem find_less {α : Type} {P Q : α → Bool} (h : ∀ x, P x = true → Q x = true) : ∀ {l : List α} {s : α}, l.find? Q = some s → P s = true → l.find? P = some s
  | [], s, e, _ => by cases e
  | x :: l, s, e, hp => by
    by_cases hq : Q x = true
    · rw [List.find?_cons_of_pos hq] at e
      cases e
      rw [List.find?_cons_of_pos hp]
    · rw [List.find?_cons_of_neg hq] at e
      rw [List.find?_cons_of_neg (fun z => hq (h x z))]
      exact find_less h e hp
/-- what a chain begins with is the chain up to there -/
theorem chain_front (o : Sound m S p) (r : Rows m S R L) (d : Dist m S T) {t : Int} : ∀ (l1 : List Side) {l2 : List Side} {k : Nat} {here left h : Int}, k ≤ L → R k here t = some left → T here t = some left →
    chain S R t k here left = l1 ++ l2 → Path here l1 h → chain S R h l1.length here (wt l1) = l1
  | [], l2, k, here, left, h, hk, h1, h2, e, pa => rfl
  | s :: l1, l2, 0, here, left, h, hk, h1, h2, e, pa => by cases e
  | s :: l1, l2, k + 1, here, left, h, hk, h1, h2, e, pa => by
    obtain ⟨c1, c2, c3, c4⟩ := chain_ok o r d (k + 1) hk h1 h2
    rw [e] at c1 c2 c3 c4
    obtain ⟨s', hf, hs, hb, h3, h4⟩ := chain_step o r d hk h1 h2
    have e' : chain S R t (k + 1) here left = s' :: chain S R t k s'.e (left - s'.w) := by
      show (match S.find? (okSide R t k here left) with
        | some s => s :: chain S R t k s.e (left - s.w)
        | none => chain S R t k here left) = _
      rw [hf]
    rw [e'] at e
    injection e with e1 e2
    subst e1
    have ih := chain_front o r d l1 (by omega) h3 h4 e2 pa.2
    obtain ⟨q, pq1, pq2⟩ := path_split (l := s' :: l1) c3
    have eq : q = h := path_end pq1 pa
    subst eq
    have i1 : ∀ x ∈ l1, x ∈ S := fun x hx => c2 x (by simp [hx])
    have i2 : ∀ x ∈ l2, x ∈ S := fun x hx => c2 x (by simp [hx])
    have ins : In m s'.e := ⟨(o.lo s' hs).2.2.1, (o.lo s' hs).2.2.2⟩
    have len : l1.length + l2.length = k := by simp only [List.length_append, List.length_cons] at c1; omega
    have wl : s'.w + wt l1 + wt l2 = left := by rw [← c4, wt_append, wt]
    have hp : okSide R q l1.length here (s'.w + wt l1) s' = true := by
      obtain ⟨v, hv, hv2⟩ := r.le l1 s'.e q i1 pa.2 ins (by omega)
      exact okSide_iff.mpr ⟨hb, v, hv, by omega⟩
    have imp : ∀ x, (decide (x ∈ S) && okSide R q l1.length here (s'.w + wt l1) x) = true → okSide R t k here left x = true := fun x hx => by
      rw [Bool.and_eq_true] at hx
      have hxS := of_decide_eq_true hx.1
      obtain ⟨xb, v, hv, hle⟩ := okSide_iff.mp hx.2
      obtain ⟨l3, e3, i3, p3, in3, w3⟩ := r.at_ l1.length x.e q v (by omega) hv
      obtain ⟨z, hz, hz2⟩ := r.le (l3 ++ l2) x.e t (fun y hy => (List.mem_append.mp hy).elim (i3 y) (i2 y)) (path_append p3 pq2) in3 (by rw [List.length_append]; omega)
      rw [List.length_append, e3, len] at hz
      rw [wt_append] at hz2
      exact okSide_iff.mpr ⟨xb, z, hz, by omega⟩
    have find : S.find? (okSide R q l1.length here (s'.w + wt l1)) = some s' := by
      have := find_less imp hf (by rw [Bool.and_eq_true]; exact ⟨decide_eq_true hs, hp⟩)
      rw [← this]
      have gen : ∀ (u : List Side), (∀ x ∈ u, x ∈ S) → u.find? (okSide R q l1.length here (s'.w + wt l1)) = u.find? (fun x => decide (x ∈ S) && okSide R q l1.length here (s'.w + wt l1) x) := by
        intro u
        induction u with
        | nil => intro _; rfl
        | cons x u ih =>
          intro hu
          have hx := hu x List.mem_cons_self
          rw [List.find?_cons, List.find?_cons, decide_eq_true hx, Bool.true_and, ih fun y hy => hu y (List.mem_cons_of_mem _ hy)]
      exact gen S fun _ h => h
    show (match S.find? (okSide R q l1.length here (wt (s' :: l1))) with
      | some s => s :: chain S R q l1.length s.e (wt (s' :: l1) - s.w)
      | none => chain S R q l1.length here (wt (s' :: l1))) = _
    have ew : wt (s' :: l1) = s'.w + wt l1 := rfl
    rw [ew, find]
    show s' :: chain S R q l1.length s'.e (s'.w + wt l1 - s'.w) = s' :: l1
    rw [show s'.w + wt l1 - s'.w = wt l1 by omega, ih]

/-! #### how many sides -/
/-- k is the least number of sides by which the least sum is reached -/
def Few (R : Nat → Tab) (T : Tab) (a c : Int) (k : Nat) : Prop := R k a c = T a c ∧ ∀ j, j < k → R j a c ≠ T a c
theorem rows_ge (r : Rows m S R L) (d : Dist m S T) {a c v x : Int} {k : Nat} (hk : k ≤ L) (h : T a c = some v) (hx : R k a c = some x) : v ≤ x := by
  obtain ⟨l, e, i, pa, ia, w⟩ := r.at_ k a c x hk hx
  obtain ⟨z, hz, hz2⟩ := d.le l a c i pa ia
  rw [h] at hz
  cases hz
  omega
theorem few_exists (o : Sound m S p) (r : Rows m S R L) (d : Dist m S T) (hm : 0 < m) (hL : m - 1 ≤ L) {a c v : Int} (h : T a c = some v) : ∃ k, k ≤ m - 1 ∧ R k a c = some v := by
  obtain ⟨ia, l, i, pa, w⟩ := d.at_ a c v h
  obtain ⟨l2, h1, h2, h3, h4⟩ := shorten o l.length (Nat.le_refl _) i pa ia hm
  obtain ⟨x, hx, hx2⟩ := r.le l2 a c h2 h3 ia (by omega)
  have := rows_ge r d (by omega) h hx
  exact ⟨l2.length, h1, by rw [hx]; congr 1; omega⟩
/-- a chain of the least number of sides, cut anywhere -/
theorem chain_cut (o : Sound m S p) (r : Rows m S R L) (d : Dist m S T) {t : Int} {k : Nat} {a v : Int} (hk : k ≤ L) (h2 : T a t = some v) (few : Few R T a t k) {l1 l2 : List Side} (e : chain S R t k a v = l1 ++ l2) :
    ∃ h, Path a l1 h ∧ Path h l2 t ∧ T a h = some (wt l1) ∧ T h t = some (wt l2) ∧ wt l1 + wt l2 = v ∧ Few R T a h l1.length ∧ Few R T h t l2.length ∧ chain S R h l1.length a (wt l1) = l1 ∧ chain S R t l2.length h (wt l2) = l2 := by
  have h1 : R k a t = some v := few.1.trans h2
  obtain ⟨c1, c2, c3, c4⟩ := chain_ok o r d k hk h1 h2
  rw [e] at c1 c2 c3 c4
  obtain ⟨h, p1, p2⟩ := path_split c3
  obtain ⟨ia, _⟩ := d.at_ a t v h2
  have i1 : ∀ x ∈ l1, x ∈ S := fun x hx => c2 x (by simp [hx])
  have i2 : ∀ x ∈ l2, x ∈ S := fun x hx => c2 x (by simp [hx])
  have ih := path_in o i1 p1 ia
  rw [List.length_append] at c1
  rw [wt_append] at c4
  obtain ⟨x, hx, hx2⟩ := d.le l1 a h i1 p1 ia
  obtain ⟨y, hy, hy2⟩ := d.le l2 h t i2 p2 ih
  obtain ⟨z, hz, hz2⟩ := dist_tri d hx hy
  rw [h2] at hz
  cases hz
  have ex : x = wt l1 := by omega
  have ey : y = wt l2 := by omega
  subst ex
  subst ey
  obtain ⟨x', hx', hx3⟩ := r.le l1 a h i1 p1 ia (by omega)
  obtain ⟨y', hy', hy3⟩ := r.le l2 h t i2 p2 ih (by omega)
  have gx := rows_ge r d (by omega) hx hx'
  have gy := rows_ge r d (by omega) hy hy'
  have ex' : x' = wt l1 := by omega
  have ey' : y' = wt l2 := by omega
  subst ex'
  subst ey'
  have f1 : Few R T a h l1.length := ⟨hx'.trans hx.symm, fun j hj z => by
    rw [hx] at z
    obtain ⟨l3, e3, i3, p3, in3, w3⟩ := r.at_ j a h _ (by omega) z
    obtain ⟨q, hq, hq2⟩ := r.le (l3 ++ l2) a t (fun y hy => (List.mem_append.mp hy).elim (i3 y) (i2 y)) (path_append p3 p2) in3 (by rw [List.length_append]; omega)
    rw [wt_append] at hq2
    have := rows_ge r d (by rw [List.length_append]; omega) h2 hq
    refine few.2 (l3 ++ l2).length (by rw [List.length_append]; omega) ?_
    rw [hq, h2]
    congr 1
    omega⟩
  have f2 : Few R T h t l2.length := ⟨hy'.trans hy.symm, fun j hj z => by
    rw [hy] at z
    obtain ⟨l3, e3, i3, p3, in3, w3⟩ := r.at_ j h t _ (by omega) z
    obtain ⟨q, hq, hq2⟩ := r.le (l1 ++ l3) a t (fun y hy => (List.mem_append.mp hy).elim (i1 y) (i3 y)) (path_append p1 p3) ia (by rw [List.length_append]; omega)
    rw [wt_append] at hq2
    have := rows_ge r d (by rw [List.length_append]; omega) h2 hq
    refine few.2 (l1 ++ l3).length (by rw [List.length_append]; omega) ?_
    rw [hq, h2]
    congr 1
    omega⟩
  refine ⟨h, p1, p2, hx, hy, c4, f1, f2, chain_front o r d l1 hk h1 h2 e p1, ?_⟩
  have := chain_rest o r d l1 hk h1 h2 e p1
  rwa [show v - wt l1 = wt l2 by omega] at this
end
end Clk

set_option Elab.async false
set_option linter.all false
namespace Clk
open PySem Fx

def oi : Option Int → D
  | none => .none
  | some v => .int v
def lz : Option Int → Option Int → Option Int
  | none, b => b
  | a, none => a
  | some a, some b => some (min a b)
theorem lesser_ok (a b : Option Int) : f_lesser [oi a, oi b] = .ok (oi (lz a b)) [] := by
  cases a with
  | none => cases b <;> rfl
  | some a =>
    cases b with
    | none => rfl
    | some b =>
      have : f_lesser [oi (some a), oi (some b)] = .ok (.int (if b < a then b else a)) [] := rfl
      rw [this]
      show Fr.ok (.int (if b < a then b else a)) [] = .ok (.int (min a b)) []
      congr 2
      split <;> omega
def pz : Option Int → Option Int → Option Int
  | some a, some b => some (a + b)
  | _, _ => none
theorem together_ok (a b : Option Int) : f_together [oi a, oi b] = .ok (oi (pz a b)) [] := by
  cases a <;> cases b <;> rfl
theorem whole_int (i : Int) : f_is_whole [.int i] = .ok (.bool true) [] := rfl
theorem between_int (i a b : Int) : f_is_between [.int i, .int a, .int b] = .ok (.bool (decide (a ≤ i) && decide (i ≤ b))) [] := by
  unfold f_is_between b_is_between
  by_cases h : a ≤ i <;> simp [h, whole_int]
structure Fact where
  one : Int
  left : Int
  other : Int
  came : Int
  least : Int
  most : Option Int
def fd (f : Fact) : D := .tuple [.int f.one, .int f.left, .int f.other, .int f.came, .int f.least, oi f.most]
structure Good (m : Nat) (f : Fact) : Prop where
  one : 0 ≤ f.one ∧ f.one < m
  other : 0 ≤ f.other ∧ f.other < m
  ne : f.one ≠ f.other
  left : -1000000000 < f.left ∧ f.left < 1000000000
  came : -1000000000 < f.came ∧ f.came < 1000000000
  least : 0 ≤ f.least ∧ f.least ≤ 9999
  most : ∀ v, f.most = some v → f.least ≤ v ∧ v ≤ 9999
theorem is_fact_ok {m : Nat} {f : Fact} (g : Good m f) : f_is_fact [.int m, fd f] = .ok (.bool true) [] := by
  obtain ⟨h1, h2, h3, h4, h5, h6, h7⟩ := g
  unfold f_is_fact b_is_fact
  obtain ⟨one, left, other, came, least, most⟩ := f
  simp only at *
  have e1 : one ≤ (m : Int) - 1 := by omega
  have e2 : other ≤ (m : Int) - 1 := by omega
  refine fn_wp ?_
  simp only [enOf, fd, List.length_cons, List.length_nil, List.replicate, List.append, List.cons_append, List.nil_append]
  refine wp_nx (by simp <;> rfl) ?_
  refine wp_nx (by simp <;> rfl) ?_
  refine wp_nx (by simp [between_int, h1, h2, e1, e2, h3] <;> rfl) ?_
  refine wp_nx (by
    simp [whole_int]
    rw [if_neg (by omega)]) ?_
  cases most with
  | none => simp [between_int, h6, oi, wp_ok]
  | some v =>
    obtain ⟨h8, h9⟩ := h7 v rfl
    simp [between_int, h6, oi, h8, h9, wp_ok]
theorem are_facts_ok {m : Nat} {fs : List Fact} (hl : fs.length ≤ 60) (g : ∀ f ∈ fs, Good m f) : f_are_facts [.int m, .tuple (fs.map fd)] = .ok (.bool true) [] := by
  unfold f_are_facts b_are_facts
  refine fn_wp ?_
  simp only [enOf, List.length_cons, List.length_nil, List.replicate, List.append, List.cons_append, List.nil_append]
  refine wp_nx (by
    simp
    rw [if_neg (by omega)]) ?_
  have q : oLc (iSeq (eV 1)) (nName 2) cYes (eCall [false, false] f_is_fact (aCons (eV 0) (aCons (eV 2) aNil))) [2] [.fz (.int m), .fz (.tuple (fs.map fd)), .un] =
      .ok (.list ((fs.map fd).map fun _ => .bool true)) [.fz (.int m), .fz (.tuple (fs.map fd)), .un] := by
    refine oLc_map (fun _ => .bool true) (ds := fs.map fd) (en1 := [.fz (.int m), .fz (.tuple (fs.map fd)), .un]) (by simp [iSeq]) rfl rfl (by rw [List.length_map]; omega) fun d hd => ?_
    obtain ⟨f, hf, rfl⟩ := List.mem_map.mp hd
    refine ⟨[.fz (.int m), .fz (.tuple (fs.map fd)), .fz (fd f)], by simp, [.fz (.int m), .fz (.tuple (fs.map fd)), .fz (fd f)], by simp [is_fact_ok (g f hf)], rfl⟩
  have bl : ∀ l : List Fact, boolsD ((l.map fd).map fun _ => PyData.bool true) = some (l.map fun _ => true) := by
    intro l
    induction l with
    | nil => rfl
    | cons x l ih => simp only [List.map_cons, boolsD, ih, Option.map_some]
  rw [sRet_wp (en' := [.fz (.int m), .fz (.tuple (fs.map fd)), .un]) (d := .bool true)]
  · exact ⟨rfl, rfl⟩
  · simp only [eUn, ofO, q, Rs.bind, rd, oAll, bl, Option.map_some, dat, frz]
    have : (fs.map fun _ => true).all id = true := by rw [List.all_eq_true]; intro x hx; obtain ⟨_, _, rfl⟩ := List.mem_map.mp hx; rfl
    rw [this]
end Clk

set_option Elab.async false
set_option linter.all false
namespace Clk
open PySem Fx

/-! ### dicts from pairs of sites to sums -/
def key (a b : Int) : D := .tuple [.int a, .int b]
abbrev Al := List (Int × Int × Int)
def enc (ps : Al) : List (D × D) := ps.map fun p => (key p.1 p.2.1, .int p.2.2)
def look (ps : Al) (a b : Int) : Option Int := (ps.find? fun p => decide (p.1 = a ∧ p.2.1 = b)).map (·.2.2)
def store (ps : Al) (a b v : Int) : Al := if (look ps a b).isSome = true then ps.map (fun p => if p.1 = a ∧ p.2.1 = b then (p.1, p.2.1, v) else p) else ps ++ [(a, b, v)]
theorem kk_key (a b : Int) : kk (key a b) = some (.inr [.inl a, .inl b]) := rfl
theorem kk_iff {a b c d : Int} : (kk (key a b) = kk (key c d)) ↔ (a = c ∧ b = d) := by
  rw [kk_key, kk_key]
  simp
theorem dGet_enc (a b : Int) : ∀ ps : Al, dGet (enc ps) (key a b) = (look ps a b).map .int
  | [] => rfl
  | p :: ps => by
    have ih := dGet_enc a b ps
    unfold dGet look enc at *
    rw [List.map_cons, List.find?_cons, List.find?_cons]
    by_cases h : p.1 = a ∧ p.2.1 = b
    · rw [decide_eq_true (kk_iff.mpr h), decide_eq_true h]; rfl
    · rw [decide_eq_false (fun z => h (kk_iff.mp z)), decide_eq_false h]; exact ih
theorem any_enc (a b : Int) : ∀ ps : Al, ((enc ps).any fun p => decide (kk p.1 = kk (key a b))) = (look ps a b).isSome
  | [] => rfl
  | p :: ps => by
    have ih := any_enc a b ps
    unfold look enc at *
    rw [List.map_cons, List.any_cons, List.find?_cons]
    by_cases h : p.1 = a ∧ p.2.1 = b
    · rw [decide_eq_true (kk_iff.mpr h), decide_eq_true h]; rfl
    · rw [decide_eq_false (fun z => h (kk_iff.mp z)), decide_eq_false h, Bool.false_or]; exact ih
theorem dPut_enc (a b v : Int) (ps : Al) : dPut (enc ps) (key a b) (.int v) = enc (store ps a b v) := by
  unfold dPut store
  rw [any_enc]
  split
  · unfold enc
    rw [List.map_map, List.map_map]
    apply List.map_congr_left
    intro p _
    show (if kk (key p.1 p.2.1) = kk (key a b) then (key p.1 p.2.1, PyData.int v) else (key p.1 p.2.1, PyData.int p.2.2)) = _
    by_cases h : p.1 = a ∧ p.2.1 = b
    · rw [if_pos (kk_iff.mpr h)]
      show _ = (fun p : Int × Int × Int => (key p.1 p.2.1, PyData.int p.2.2)) (if p.1 = a ∧ p.2.1 = b then (p.1, p.2.1, v) else p)
      rw [if_pos h]
    · rw [if_neg (fun z => h (kk_iff.mp z))]
      show _ = (fun p : Int × Int × Int => (key p.1 p.2.1, PyData.int p.2.2)) (if p.1 = a ∧ p.2.1 = b then (p.1, p.2.1, v) else p)
      rw [if_neg h]
  · unfold enc
    rw [List.map_append]
    rfl
theorem fits_enc (a b : Int) (ps : Al) : fits (enc ps) (key a b) = true := by
  cases ps <;> rfl
theorem length_enc (ps : Al) : (enc ps).length = ps.length := List.length_map ..
theorem look_map {a b v c d : Int} : ∀ ps : Al, look (ps.map fun p => if p.1 = a ∧ p.2.1 = b then (p.1, p.2.1, v) else p) c d = (look ps c d).map fun x => if c = a ∧ d = b then v else x
  | [] => rfl
  | p :: ps => by
    have ih := look_map (a := a) (b := b) (v := v) (c := c) (d := d) ps
    unfold look at *
    rw [List.map_cons, List.find?_cons, List.find?_cons]
    by_cases h : p.1 = a ∧ p.2.1 = b
    · rw [if_pos h]
      by_cases k : p.1 = c ∧ p.2.1 = d
      · rw [decide_eq_true k]
        show some v = some (if c = a ∧ d = b then v else p.2.2)
        rw [if_pos ⟨k.1 ▸ h.1, k.2 ▸ h.2⟩]
      · rw [decide_eq_false k]; exact ih
    · rw [if_neg h]
      by_cases k : p.1 = c ∧ p.2.1 = d
      · rw [decide_eq_true k]
        show some p.2.2 = some (if c = a ∧ d = b then v else p.2.2)
        rw [if_neg (fun z => h ⟨k.1.trans z.1, k.2.trans z.2⟩)]
      · rw [decide_eq_false k]; exact ih
theorem look_snoc {a b v c d : Int} : ∀ ps : Al, look ps a b = none → look (ps ++ [(a, b, v)]) c d = if c = a ∧ d = b then some v else look ps c d
  | [], _ => by
    unfold look
    rw [List.nil_append, List.find?_cons]
    by_cases k : c = a ∧ d = b
    · rw [if_pos k, decide_eq_true ⟨k.1.symm, k.2.symm⟩]; rfl
    · rw [if_neg k, decide_eq_false (fun z => k ⟨z.1.symm, z.2.symm⟩)]
      first | done | rfl
  | p :: ps, h => by
    unfold look at h
    rw [List.find?_cons] at h
    by_cases hp : p.1 = a ∧ p.2.1 = b
    · rw [decide_eq_true hp] at h; cases h
    · rw [decide_eq_false hp] at h
      have ih := look_snoc (c := c) (d := d) (v := v) ps h
      unfold look at *
      rw [List.cons_append, List.find?_cons, List.find?_cons]
      by_cases k : p.1 = c ∧ p.2.1 = d
      · rw [decide_eq_true k]
        rw [if_neg (fun z => hp ⟨k.1.trans z.1, k.2.trans z.2⟩)]
      · rw [decide_eq_false k]; exact ih
theorem look_store (ps : Al) (a b v c d : Int) : look (store ps a b v) c d = if c = a ∧ d = b then some v else look ps c d := by
  unfold store
  by_cases h : (look ps a b).isSome = true
  · rw [if_pos h, look_map]
    by_cases k : c = a ∧ d = b
    · rw [if_pos k, k.1, k.2]
      obtain ⟨x, hx⟩ := Option.isSome_iff_exists.mp h
      rw [hx, Option.map_some, if_pos ⟨rfl, rfl⟩]
    · rw [if_neg k]
      cases look ps c d with
      | none => rfl
      | some x => rw [Option.map_some, if_neg k]
  · rw [if_neg h]
    refine look_snoc ps ?_
    cases e : look ps a b with
    | none => rfl
    | some x => rw [e] at h; exact absurd rfl h
/-- keys stand once, and are of 0 .. m-1 -/
structure Okk (m : Nat) (ps : Al) : Prop where
  nd : (ps.map fun p => (p.1, p.2.1)).Nodup
  inn : ∀ p ∈ ps, In m p.1 ∧ In m p.2.1
theorem look_none {ps : Al} {a b : Int} (h : look ps a b = none) : (a, b) ∉ ps.map fun p => (p.1, p.2.1) := fun z => by
  obtain ⟨p, hp, e⟩ := List.mem_map.mp z
  injection e with e1 e2
  unfold look at h
  have := List.find?_eq_none.mp (Option.map_eq_none_iff.mp h) p hp
  exact this (decide_eq_true ⟨e1, e2⟩)
theorem look_mem {ps : Al} {a b v : Int} (h : look ps a b = some v) : (a, b, v) ∈ ps := by
  unfold look at h
  obtain ⟨p, hp, e⟩ := Option.map_eq_some_iff.mp h
  have h1 := List.mem_of_find?_eq_some hp
  have h2 : p.1 = a ∧ p.2.1 = b := of_decide_eq_true (List.find?_some (p := fun p : Int × Int × Int => decide (p.1 = a ∧ p.2.1 = b)) hp)
  obtain ⟨x, y, z⟩ := p
  obtain ⟨rfl, rfl⟩ := h2
  cases e
  exact h1
theorem mem_look : ∀ {ps : Al} {a b v : Int}, (ps.map fun p => (p.1, p.2.1)).Nodup → (a, b, v) ∈ ps → look ps a b = some v
  | p :: ps, a, b, v, nd, h => by
    rw [List.map_cons] at nd
    have nd' := List.nodup_cons.mp nd
    unfold look
    rw [List.find?_cons]
    rcases List.mem_cons.mp h with rfl | h
    · rw [decide_eq_true ⟨rfl, rfl⟩]; rfl
    · have : ¬ (p.1 = a ∧ p.2.1 = b) := fun z => nd'.1 (List.mem_map.mpr ⟨(a, b, v), h, by rw [z.1, z.2]⟩)
      rw [decide_eq_false this]
      exact mem_look nd'.2 h
theorem Okk.store {m : Nat} {ps : Al} (o : Okk m ps) {a b : Int} (ha : In m a) (hb : In m b) (v : Int) : Okk m (store ps a b v) := by
  unfold Clk.store
  by_cases h : (look ps a b).isSome = true
  · rw [if_pos h]
    refine ⟨?_, fun p hp => ?_⟩
    · rw [List.map_map]
      have : (List.map ((fun p : Int × Int × Int => (p.1, p.2.1)) ∘ fun p => if p.1 = a ∧ p.2.1 = b then (p.1, p.2.1, v) else p) ps) = ps.map fun p => (p.1, p.2.1) := by
        apply List.map_congr_left
        intro p _
        show (fun p : Int × Int × Int => (p.1, p.2.1)) (if p.1 = a ∧ p.2.1 = b then (p.1, p.2.1, v) else p) = _
        split <;> rfl
      rw [this]
      exact o.nd
    · obtain ⟨q, hq, rfl⟩ := List.mem_map.mp hp
      have := o.inn q hq
      show In m (if q.1 = a ∧ q.2.1 = b then (q.1, q.2.1, v) else q).1 ∧ In m (if q.1 = a ∧ q.2.1 = b then (q.1, q.2.1, v) else q).2.1
      split <;> exact this
  · rw [if_neg h]
    have hn : look ps a b = none := by
      cases e : look ps a b with
      | none => rfl
      | some x => rw [e] at h; exact absurd rfl h
    refine ⟨?_, fun p hp => ?_⟩
    · rw [List.map_append]
      refine List.nodup_append.mpr ⟨o.nd, by simp, fun x hx y hy z => ?_⟩
      rw [List.map_singleton, List.mem_singleton] at hy
      rw [z, hy] at hx
      exact look_none hn hx
    · rcases List.mem_append.mp hp with hp | hp
      · exact o.inn p hp
      · rw [List.mem_singleton.mp hp]; exact ⟨ha, hb⟩
theorem Okk.len {m : Nat} {ps : Al} (o : Okk m ps) : ps.length ≤ m * m := by
  have nd : (ps.map fun p => p.1 * (m : Int) + p.2.1).Nodup := by
    have key : ∀ (qs : List (Int × Int)), qs.Nodup → (∀ q ∈ qs, In m q.1 ∧ In m q.2) → (qs.map fun q => q.1 * (m : Int) + q.2).Nodup := by
      intro qs
      induction qs with
      | nil => intro _ _; exact List.nodup_nil
      | cons q qs ih =>
        intro nd hi
        have nd' := List.nodup_cons.mp nd
        rw [List.map_cons]
        refine List.nodup_cons.mpr ⟨fun z => ?_, ih nd'.2 fun x hx => hi x (List.mem_cons_of_mem _ hx)⟩
        obtain ⟨r, hr, e⟩ := List.mem_map.mp z
        have i1 := hi q List.mem_cons_self
        have i2 := hi r (List.mem_cons_of_mem _ hr)
        have e1 : r.1 = q.1 := by
          have a1 : (r.1 * (m : Int) + r.2) / m = r.1 := by
            rw [Int.add_comm, Int.add_mul_ediv_right _ _ (by have := i2.2.1; have := i2.2.2; omega), Int.ediv_eq_zero_of_lt i2.2.1 i2.2.2, Int.zero_add]
          have a2 : (q.1 * (m : Int) + q.2) / m = q.1 := by
            rw [Int.add_comm, Int.add_mul_ediv_right _ _ (by have := i1.2.1; have := i1.2.2; omega), Int.ediv_eq_zero_of_lt i1.2.1 i1.2.2, Int.zero_add]
          rw [← a1, ← a2, e]
        have e2 : r.2 = q.2 := by rw [e1] at e; omega
        have : r = q := Prod.ext e1 e2
        exact nd'.1 (this ▸ hr)
    have := key (ps.map fun p => (p.1, p.2.1)) o.nd fun q hq => by
      obtain ⟨p, hp, rfl⟩ := List.mem_map.mp hq
      exact o.inn p hp
    rw [List.map_map] at this
    exact this
  have := nodup_len _ ((List.range (m * m)).map fun (k : Nat) => (k : Int)) nd fun x hx => by
    obtain ⟨p, hp, rfl⟩ := List.mem_map.mp hx
    obtain ⟨⟨a1, a2⟩, b1, b2⟩ := o.inn p hp
    have h0 : 0 ≤ p.1 * (m : Int) := Int.mul_nonneg a1 (by omega)
    have h1 : p.1 * (m : Int) ≤ ((m : Int) - 1) * m := Int.mul_le_mul_of_nonneg_right (by omega) (by omega)
    have h2 : ((m : Int) - 1) * m = (m : Int) * m - m := by rw [Int.sub_mul, Int.one_mul]
    refine List.mem_map.mpr ⟨(p.1 * (m : Int) + p.2.1).toNat, List.mem_range.mpr ?_, ?_⟩
    · have : ((m * m : Nat) : Int) = (m : Int) * m := by push_cast; rfl
      omega
    · omega
  rw [List.length_map, List.length_map, List.length_range] at this
  exact this
end Clk

set_option Elab.async false
set_option linter.all false
namespace Clk
open PySem Fx

/-! ### the sides of facts -/
def word (l : Bool) : D := .str (if l = true then "least" else "most")
def sd (s : Side) : D := .tuple [.int s.n, word s.l, .int s.b, .int s.e, .int s.w]
def sidesAt (n : Nat) (f : Fact) : List Side := ⟨n, true, f.one, f.other, f.came - f.left - f.least⟩ :: match f.most with
  | none => []
  | some v => [⟨n, false, f.other, f.one, v - f.came + f.left⟩]
def sidesFrom : Nat → List Fact → List Side
  | _, [] => []
  | n, f :: fs => sidesAt n f ++ sidesFrom (n + 1) fs
theorem sides_snoc (f : Fact) : ∀ (fs : List Fact) (n : Nat), sidesFrom n (fs ++ [f]) = sidesFrom n fs ++ sidesAt (n + fs.length) f
  | [], n => by simp [sidesFrom]
  | g :: fs, n => by
    rw [List.cons_append, sidesFrom, sidesFrom, sides_snoc f fs (n + 1), List.append_assoc, List.length_cons, show n + 1 + fs.length = n + (fs.length + 1) by omega]
theorem sidesAt_len (n : Nat) (f : Fact) : (sidesAt n f).length ≤ 2 := by
  unfold sidesAt
  cases f.most <;> simp
theorem sides_len : ∀ (fs : List Fact) (n : Nat), (sidesFrom n fs).length ≤ 2 * fs.length
  | [], n => Nat.zero_le _
  | f :: fs, n => by
    have h1 := sidesAt_len n f
    have h2 := sides_len fs (n + 1)
    rw [sidesFrom, List.length_append, List.length_cons]
    omega
theorem take_snoc {α : Type} {l : List α} {i : Nat} {x : α} (h : l[i]? = some x) : l.take (i + 1) = l.take i ++ [x] := by
  rw [List.take_add_one, h]
  rfl
theorem sides_ok {fs : List Fact} (hl : fs.length ≤ 60) : f_sides_of [.tuple (fs.map fd)] = .ok (.list ((sidesFrom 0 fs).map sd)) [] := by
  unfold f_sides_of b_sides_of
  refine fn_wp ?_
  simp only [enOf, List.length_cons, List.length_nil, List.replicate, List.append, List.cons_append, List.nil_append]
  refine wp_nx (by simp <;> rfl) ?_
  refine wp_seq ?_
  refine wp_forN (pairsOf (fs.map fd)) [.fz (.tuple (fs.map fd)), .ow (.list []), .un, .un, .un, .un, .un, .un, .un] (by simp [iEnm])
    (fun i en => ∃ o2 o3 o4 o5 o6 o7 o8, en = [.fz (.tuple (fs.map fd)), .ow (.list ((sidesFrom 0 (fs.take i)).map sd)), sl o2, sl o3, sl o4, sl o5, sl o6, sl o7, sl o8])
    ⟨none, none, none, none, none, none, none, rfl⟩ ?_ ?_
  · rintro i d en hd ⟨o2, o3, o4, o5, o6, o7, o8, rfl⟩
    obtain ⟨x, hx, rfl⟩ := pairsOf_get hd
    rw [List.getElem?_map] at hx
    obtain ⟨f, hf, rfl⟩ := Option.map_eq_some_iff.mp hx
    have len : ((sidesFrom 0 (fs.take i)).map sd).length < 65534 := by
      have := sides_len (fs.take i) 0
      rw [List.length_map]
      have : (fs.take i).length ≤ fs.length := by rw [List.length_take]; omega
      omega
    have eq : sidesFrom 0 (fs.take (i + 1)) = sidesFrom 0 (fs.take i) ++ sidesAt i f := by
      have hi : i < fs.length := (List.getElem?_eq_some_iff.mp hf).1
      rw [take_snoc hf, sides_snoc, Nat.zero_add, List.length_take, Nat.min_eq_left (by omega)]
    refine ⟨_, by simp [fd] <;> rfl, ?_⟩
    generalize sidesFrom 0 (fs.take i) = ss at len eq
    have len' : ss.length < 65534 := by simpa using len
    refine wp_nx (en' := [.fz (.tuple (fs.map fd)), .ow (.list (ss.map sd ++ [sd ⟨i, true, f.one, f.other, f.came - f.left - f.least⟩])), .fz (.int i), .fz (.int f.one), .fz (.int f.left), .fz (.int f.other), .fz (.int f.came), .fz (.int f.least), .fz (oi f.most)]) ?_ ?_
    · simp [sApp, show ss.length < 65536 by omega]
      rfl
    · cases hm : f.most with
      | none =>
        simp only [sidesAt, hm] at eq
        simp [wp_ok, oi, eq]
      | some v =>
        simp only [sidesAt, hm] at eq
        simp [wp_ok, oi, sApp, show ss.length + 1 < 65536 by omega, eq]
        rfl
  · rintro en ⟨o2, o3, o4, o5, o6, o7, o8, rfl⟩
    rw [pairsOf_length, List.length_map, List.take_length]
    simp [wp_ok]
end Clk

set_option Elab.async false
set_option linter.all false
namespace Clk
open PySem Fx

def lzi (a : Option Int) (w : Int) : Int := match a with
  | none => w
  | some v => min v w
theorem lesser_int (a : Option Int) (w : Int) : f_lesser [oi a, .int w] = .ok (.int (lzi a w)) [] := by
  have := lesser_ok a (some w)
  cases a <;> exact this
@[simp] theorem getD_oi (o : Option Int) : (o.map PyData.int).getD .none = oi o := by cases o <;> rfl
def rlx (ps : Al) (a b w : Int) : Al := store ps a b (lzi (look ps a b) w)
theorem look_rlx (ps : Al) (a b w c d : Int) : look (rlx ps a b w) c d = if c = a ∧ d = b then some (lzi (look ps a b) w) else look ps c d := look_store ..
def upI (m : Nat) : List Int := (List.range m).map fun (k : Nat) => (k : Int)
theorem rng_nat (m : Nat) : rng 0 (m : Int) = (upI m).map PyData.int := by
  unfold rng upI
  rw [List.map_map, show ((m : Int) - 0).toNat = m by omega]
  apply List.map_congr_left
  intro k _
  show PyData.int (0 + (k : Int)) = PyData.int k
  rw [Int.zero_add]
theorem mem_upI {m : Nat} {a : Int} : a ∈ upI m ↔ In m a := by
  unfold upI
  rw [List.mem_map]
  constructor
  · rintro ⟨k, hk, rfl⟩
    have := List.mem_range.mp hk
    exact ⟨by omega, by omega⟩
  · rintro ⟨h1, h2⟩
    exact ⟨a.toNat, List.mem_range.mpr (by omega), by omega⟩
theorem nodup_map {α β : Type} {f : α → β} (inj : ∀ a b, f a = f b → a = b) : ∀ {l : List α}, l.Nodup → (l.map f).Nodup
  | [], _ => List.nodup_nil
  | a :: l, h => by
    have h' := List.nodup_cons.mp h
    rw [List.map_cons]
    refine List.nodup_cons.mpr ⟨fun z => ?_, nodup_map inj h'.2⟩
    obtain ⟨b, hb, e⟩ := List.mem_map.mp z
    exact h'.1 (inj b a e ▸ hb)
theorem upI_nodup (m : Nat) : (upI m).Nodup := by
  unfold upI
  refine nodup_map ?_ List.nodup_range
  intro a b h
  exact Int.ofNat.inj h
theorem upI_len (m : Nat) : (upI m).length = m := by unfold upI; rw [List.length_map, List.length_range]
theorem upI_get {m i : Nat} (h : i < m) : (upI m)[i]? = some (i : Int) := by
  unfold upI
  rw [List.getElem?_map, List.getElem?_range h]
  rfl
def diag (l : List Int) : Al := l.map fun a => (a, a, 0)
theorem look_diag (l : List Int) (a b : Int) : look (diag l) a b = if a ∈ l ∧ a = b then some 0 else none := by
  induction l with
  | nil => simp [diag, look]
  | cons x l ih =>
    unfold diag look at *
    rw [List.map_cons, List.find?_cons]
    by_cases h : x = a ∧ x = b
    · rw [decide_eq_true h, if_pos ⟨by rw [h.1]; exact List.mem_cons_self, h.1.symm.trans h.2⟩]
      rfl
    · rw [decide_eq_false h]
      simp only [ih]
      by_cases k : a ∈ l ∧ a = b
      · rw [if_pos k, if_pos ⟨List.mem_cons_of_mem _ k.1, k.2⟩]
      · rw [if_neg k, if_neg ?_]
        rintro ⟨z1, z2⟩
        rcases List.mem_cons.mp z1 with z | z
        · exact h ⟨z.symm, z.symm.trans z2⟩
        · exact k ⟨z, z2⟩
theorem okk_diag (m : Nat) : Okk m (diag (upI m)) := by
  refine ⟨?_, fun p hp => ?_⟩
  · unfold diag
    rw [List.map_map]
    refine nodup_map ?_ (upI_nodup m)
    intro a b h
    exact (Prod.mk.inj h).1
  · obtain ⟨a, ha, rfl⟩ := List.mem_map.mp hp
    exact ⟨mem_upI.mp ha, mem_upI.mp ha⟩
/-- {(a, a): 0 for a in ..} -/
theorem compD_diag {g : EG} {k : EKy} {e : EE} {vs : List Nat} {en0 : En} (h : ∀ a : Int, ∃ en1, g (.int a) en0 = some en1 ∧ k en1 = .ok (key a a) en1 ∧ dat e en1 = .ok (.int 0) en1 ∧ wipeE vs en1 = en0) :
    ∀ (l : List Int) (ps : Al), (∀ a ∈ l, look ps a a = none) → l.Nodup → ps.length + l.length ≤ 65536 → compD g cYes k e vs (l.map PyData.int) (enc ps) en0 = .ok (enc (ps ++ diag l)) en0
  | [], ps, _, _, _ => by simp [compD, diag]
  | a :: l, ps, hn, nd, hl => by
    obtain ⟨en1, h1, h2, h3, h4⟩ := h a
    have nd' := List.nodup_cons.mp nd
    rw [List.length_cons] at hl
    rw [List.map_cons]
    unfold compD
    rw [h1]
    simp only [Rs.nox, Rs.bind, if_true, h2, h3, fits_enc, length_enc, true_and]
    rw [if_pos (by omega), dPut_enc, h4]
    have st : store ps a a 0 = ps ++ [(a, a, 0)] := by
      unfold store
      rw [hn a List.mem_cons_self]
      rfl
    rw [st, compD_diag h l (ps ++ [(a, a, 0)]) (fun b hb => ?_) nd'.2 (by rw [List.length_append]; simp; omega), List.append_assoc]
    · rfl
    · rw [look_snoc ps (hn a List.mem_cons_self), if_neg (fun (z : b = a ∧ b = a) => nd'.1 (z.1 ▸ hb))]
      exact hn b (List.mem_cons_of_mem _ hb)
/-! #### the first sums -/
/-- what is found is told by paths; sites are 0 from themselves; W: sides that are seen to -/
structure Fnd (m : Nat) (S : List Side) (W : Side → Prop) (T : Tab) : Prop where
  at_ : ∀ a c v, T a c = some v → In m a ∧ ∃ l : List Side, (∀ s ∈ l, s ∈ S) ∧ Path a l c ∧ wt l = v
  self : ∀ a, In m a → T a a = some 0
  side : ∀ s, W s → ∃ v, T s.b s.e = some v ∧ v ≤ s.w
theorem lzi_le (a : Option Int) (w : Int) : lzi a w ≤ w := by
  unfold lzi
  cases a with
  | none => exact Int.le_refl _
  | some v => exact Int.min_le_right ..
theorem lzi_le' {a : Option Int} {v : Int} (h : a = some v) (w : Int) : lzi a w ≤ v := by
  subst h
  exact Int.min_le_left ..
theorem lzi_or (a : Option Int) (w : Int) : lzi a w = w ∨ a = some (lzi a w) := by
  cases a with
  | none => exact .inl rfl
  | some v =>
    show min v w = w ∨ some v = some (min v w)
    by_cases h : v ≤ w
    · rw [Int.min_eq_left h]; exact .inr rfl
    · rw [Int.min_eq_right (by omega)]; exact .inl rfl
/-- a path's weight is put in -/
theorem Fnd.rlx {m : Nat} {S : List Side} {p : Int → Int} {W : Side → Prop} {ps : Al} (o : Sound m S p) (f : Fnd m S W (look ps)) {a b w : Int} (ia : In m a) {l : List Side} (il : ∀ s ∈ l, s ∈ S) (pa : Path a l b) (ew : wt l = w) : Fnd m S W (look (Clk.rlx ps a b w)) := by
  refine ⟨fun x y v h => ?_, fun x hx => ?_, fun s hs => ?_⟩
  · rw [look_rlx] at h
    by_cases k : x = a ∧ y = b
    · rw [if_pos k] at h
      obtain ⟨rfl, rfl⟩ := k
      cases h
      rcases lzi_or (look ps x y) w with z | z
      · rw [z]; exact ⟨ia, l, il, pa, ew⟩
      · exact f.at_ _ _ _ z
    · rw [if_neg k] at h
      exact f.at_ _ _ _ h
  · rw [look_rlx]
    by_cases k : x = a ∧ x = b
    · rw [if_pos k]
      obtain ⟨k1, k2⟩ := k
      subst k1
      subst k2
      rw [f.self x hx]
      have := path_pot o il pa
      show some (min 0 w) = some 0
      rw [Int.min_eq_left (by omega)]
    · rw [if_neg k]; exact f.self x hx
  · obtain ⟨v, h1, h2⟩ := f.side s hs
    rw [look_rlx]
    by_cases k : s.b = a ∧ s.e = b
    · rw [if_pos k]
      refine ⟨_, rfl, ?_⟩
      rw [k.1, k.2] at h1
      have := lzi_le' h1 w
      omega
    · rw [if_neg k]; exact ⟨v, h1, h2⟩
theorem Fnd.seen {m : Nat} {S : List Side} {p : Int → Int} {W : Side → Prop} {ps : Al} (o : Sound m S p) (f : Fnd m S W (look ps)) {s : Side} (hs : s ∈ S) : Fnd m S (fun x => W x ∨ x = s) (look (Clk.rlx ps s.b s.e s.w)) := by
  have g := f.rlx o (l := [s]) (w := s.w) ⟨(o.lo s hs).1, (o.lo s hs).2.1⟩ (fun x hx => by rw [List.mem_singleton.mp hx]; exact hs) ⟨rfl, rfl⟩ (by simp [wt])
  refine ⟨g.at_, g.self, fun x hx => ?_⟩
  rcases hx with hx | rfl
  · exact g.side x hx
  · rw [look_rlx, if_pos ⟨rfl, rfl⟩]
    exact ⟨_, rfl, lzi_le _ _⟩
end Clk

set_option Elab.async false
set_option linter.all false
namespace Clk
open PySem Fx

/-! ### one middle after another -/
def fwv (T : Tab) (c a b : Int) : Option Int := match pz (T a c) (T c b) with
  | none => T a b
  | some t => some (lzi (T a b) t)
theorem pz_some {a b : Option Int} {t : Int} (h : pz a b = some t) : ∃ x y, a = some x ∧ b = some y ∧ t = x + y := by
  cases a with
  | none => cases h
  | some x =>
    cases b with
    | none => cases h
    | some y => cases h; exact ⟨x, y, rfl, rfl, rfl⟩
theorem fw_or {T : Tab} {c a b n : Int} (h : fwv T c a b = some n) : T a b = some n ∨ ∃ x y, T a c = some x ∧ T c b = some y ∧ n = x + y := by
  unfold fwv at h
  cases e : pz (T a c) (T c b) with
  | none => rw [e] at h; exact .inl h
  | some t =>
    rw [e] at h
    cases h
    obtain ⟨x, y, h1, h2, rfl⟩ := pz_some e
    rcases lzi_or (T a b) (x + y) with z | z
    · exact .inr ⟨x, y, h1, h2, z⟩
    · exact .inl z
theorem fw_old {T : Tab} {c a b t : Int} (h : T a b = some t) : ∃ n, fwv T c a b = some n ∧ n ≤ t := by
  unfold fwv
  cases pz (T a c) (T c b) with
  | none => exact ⟨t, h, Int.le_refl _⟩
  | some u => exact ⟨_, rfl, lzi_le' h u⟩
theorem fw_via {T : Tab} {c a b x y : Int} (h : T a c = some x) (k : T c b = some y) : ∃ n, fwv T c a b = some n ∧ n ≤ x + y := by
  unfold fwv
  rw [h, k]
  exact ⟨_, rfl, lzi_le _ _⟩
theorem fw_col {T : Tab} {c a : Int} (h : T c c = some 0) : fwv T c a c = T a c := by
  unfold fwv
  rw [h]
  cases T a c with
  | none => rfl
  | some x =>
    show some (min x (x + 0)) = some x
    rw [Int.add_zero, Int.min_self]
theorem fw_row {T : Tab} {c b : Int} (h : T c c = some 0) : fwv T c c b = T c b := by
  unfold fwv
  rw [h]
  cases T c b with
  | none => rfl
  | some x =>
    show some (min x (0 + x)) = some x
    rw [Int.zero_add, Int.min_self]
def Tri (m : Nat) (T : Tab) (c0 : Int) : Prop := ∀ d, In m d → d < c0 → ∀ a b x y, T a d = some x → T d b = some y → ∃ z, T a b = some z ∧ z ≤ x + y
theorem fw_tri {m : Nat} {S : List Side} {p : Int → Int} {W : Side → Prop} {T : Tab} (o : Sound m S p) (f : Fnd m S W T) {c : Int} (ic : In m c) (t : Tri m T c) : Tri m (fwv T c) (c + 1) := by
  intro d id hd a b n1 n2 h1 h2
  have cc := f.self c ic
  rcases fw_or h1 with u1 | ⟨x, y, e1, e2, rfl⟩
  · rcases fw_or h2 with u2 | ⟨x', y', e3, e4, rfl⟩
    · by_cases hc : d = c
      · subst hc; exact fw_via u1 u2
      · obtain ⟨z, hz, hz2⟩ := t d id (by omega) a b n1 n2 u1 u2
        obtain ⟨n, hn, hn2⟩ := fw_old (c := c) hz
        exact ⟨n, hn, by omega⟩
    · by_cases hc : d = c
      · subst hc
        rw [cc] at e3
        cases e3
        obtain ⟨n, hn, hn2⟩ := fw_via u1 e4
        exact ⟨n, hn, by omega⟩
      · obtain ⟨z, hz, hz2⟩ := t d id (by omega) a c n1 x' u1 e3
        obtain ⟨n, hn, hn2⟩ := fw_via hz e4
        exact ⟨n, hn, by omega⟩
  · rcases fw_or h2 with u2 | ⟨x', y', e3, e4, rfl⟩
    · by_cases hc : d = c
      · subst hc
        rw [cc] at e2
        cases e2
        obtain ⟨n, hn, hn2⟩ := fw_via e1 u2
        exact ⟨n, hn, by omega⟩
      · obtain ⟨z, hz, hz2⟩ := t d id (by omega) c b y n2 e2 u2
        obtain ⟨n, hn, hn2⟩ := fw_via e1 hz
        exact ⟨n, hn, by omega⟩
    · obtain ⟨_, l1, i1, p1, w1⟩ := f.at_ c d y e2
      obtain ⟨_, l2, i2, p2, w2⟩ := f.at_ d c x' e3
      have g1 := path_pot o i1 p1
      have g2 := path_pot o i2 p2
      obtain ⟨n, hn, hn2⟩ := fw_via e1 e4
      exact ⟨n, hn, by omega⟩
theorem dist_of {m : Nat} {S : List Side} {p : Int → Int} {T : Tab} (o : Sound m S p) (f : Fnd m S (· ∈ S) T) (t : Tri m T m) : Dist m S T := by
  refine ⟨f.at_, ?_⟩
  intro l
  induction l with
  | nil =>
    intro a c _ pa ia
    cases (show a = c from pa)
    exact ⟨0, f.self a ia, Int.le_refl _⟩
  | cons s l ih =>
    intro a c i pa ia
    have hs := i s List.mem_cons_self
    obtain ⟨x, hx, hx2⟩ := f.side s hs
    have ie : In m s.e := ⟨(o.lo s hs).2.2.1, (o.lo s hs).2.2.2⟩
    obtain ⟨y, hy, hy2⟩ := ih s.e c (fun q hq => i q (List.mem_cons_of_mem _ hq)) pa.2 ie
    rw [pa.1] at hx
    obtain ⟨z, hz, hz2⟩ := t s.e ie ie.2 a c x y hx hy
    exact ⟨z, hz, by simp only [wt]; omega⟩
/-- the state within the loops -/
structure Mid (m : Nat) (S : List Side) (T : Tab) (c i j : Int) (ps : Al) : Prop where
  ok : Okk m ps
  fnd : Fnd m S (· ∈ S) (look ps)
  at_ : ∀ a b, look ps a b = if a < i ∨ (a = i ∧ b < j) then fwv T c a b else T a b
theorem Mid.next {m : Nat} {S : List Side} {p : Int → Int} {T : Tab} {c i j : Int} {ps : Al} (o : Sound m S p) (f : Fnd m S (· ∈ S) T) (ic : In m c) (ii : In m i) (ij : In m j) (h : Mid m S T c i j ps) :
    Mid m S T c i (j + 1) (match pz (T i c) (T c j) with
      | none => ps
      | some t => rlx ps i j t) := by
  have now : look ps i j = T i j := by rw [h.at_, if_neg (by omega)]
  cases e : pz (T i c) (T c j) with
  | none =>
    refine ⟨h.ok, h.fnd, fun a b => ?_⟩
    rw [h.at_]
    by_cases k : a = i ∧ b = j
    · rw [if_neg (by omega), if_pos (by omega), k.1, k.2]
      unfold fwv
      rw [e]
    · by_cases k2 : a < i ∨ (a = i ∧ b < j)
      · rw [if_pos k2, if_pos (by omega)]
      · rw [if_neg k2, if_neg (by omega)]
  | some t =>
    obtain ⟨x, y, h1, h2, rfl⟩ := pz_some e
    obtain ⟨_, l1, i1, p1, w1⟩ := f.at_ i c x h1
    obtain ⟨_, l2, i2, p2, w2⟩ := f.at_ c j y h2
    refine ⟨h.ok.store ii ij _, h.fnd.rlx o ii (l := l1 ++ l2) (fun s hs => (List.mem_append.mp hs).elim (i1 s) (i2 s)) (path_append p1 p2) (by rw [wt_append]; omega), fun a b => ?_⟩
    rw [look_rlx]
    by_cases k : a = i ∧ b = j
    · rw [if_pos k, if_pos (by omega), k.1, k.2, now]
      unfold fwv
      rw [e]
    · rw [if_neg k, h.at_]
      by_cases k2 : a < i ∨ (a = i ∧ b < j)
      · rw [if_pos k2, if_pos (by omega)]
      · rw [if_neg k2, if_neg (by omega)]
theorem Mid.row {m : Nat} {S : List Side} {T : Tab} {c i : Int} {ps : Al} (keys : ∀ a b v, T a b = some v → In m a ∧ In m b) (ic : In m c) (h : Mid m S T c i m ps) : Mid m S T c (i + 1) 0 ps := by
  refine ⟨h.ok, h.fnd, fun a b => ?_⟩
  rw [h.at_]
  by_cases k : a < i ∨ (a = i ∧ b < m)
  · rw [if_pos k]
    by_cases k2 : a < i + 1 ∨ (a = i + 1 ∧ b < 0)
    · rw [if_pos k2]
    · omega
  · rw [if_neg k]
    by_cases k2 : a < i + 1 ∨ (a = i + 1 ∧ b < 0)
    · rw [if_pos k2]
      -- out of the range: nothing there
      have n1 : T a b = none := by
        cases e : T a b with
        | none => rfl
        | some v => obtain ⟨⟨_, _⟩, _, _⟩ := keys a b v e; omega
      have n2 : T c b = none := by
        cases e : T c b with
        | none => rfl
        | some v => obtain ⟨⟨_, _⟩, _, _⟩ := keys c b v e; omega
      unfold fwv
      rw [n2, n1]
      cases T a c <;> rfl
    · rw [if_neg k2]
end Clk

set_option Elab.async false
set_option linter.all false
set_option maxRecDepth 20000
namespace Clk
open PySem Fx

theorem inRange_nat {m : Nat} (h : m ≤ 65536) : inRange (m : Int) = true := by
  unfold inRange
  rw [decide_eq_true (by omega), decide_eq_true (by omega)]
  rfl
/-- the walk of range(m) -/
theorem iR1_nat {f : EA} {en en' : En} {m : Nat} (hm : m ≤ 65536) (h : dats f en = .ok [.int m] en') : iR1 f en = .ok ((upI m).map PyData.int) en' := by
  simp only [iR1, h, Rs.bind, inRange_nat hm, if_true, rng_nat]
theorem oDc_diag {i : EI} {g : EG} {k : EKy} {e : EE} {vs : List Nat} {en en1 en0 : En} {m : Nat} (hm : m ≤ 65536) (hi : i en = .ok ((upI m).map PyData.int) en1) (hw : wipeE vs en1 = en0) (hw2 : wipeE vs en0 = en0)
    (h : ∀ a : Int, ∃ en1, g (.int a) en0 = some en1 ∧ k en1 = .ok (key a a) en1 ∧ dat e en1 = .ok (.int 0) en1 ∧ wipeE vs en1 = en0) : oDc i g cYes k e vs en = .ok (.dict (enc (diag (upI m)))) en0 := by
  unfold oDc
  rw [hi]
  show ((compD g cYes k e vs ((upI m).map PyData.int) [] (wipeE vs en1)).nox.bind fun r en => Rs.ok (PyData.dict r) (wipeE vs en)) = _
  rw [hw]
  have := compD_diag h (upI m) [] (fun _ _ => rfl) (upI_nodup m) (by rw [upI_len]; simpa using hm)
  rw [show enc ([] : Al) = [] from rfl, List.nil_append] at this
  rw [this]
  show Rs.ok _ (wipeE vs en0) = _
  rw [hw2]
theorem upI_at {m i : Nat} {d : D} (h : ((upI m).map PyData.int)[i]? = some d) : i < m ∧ d = .int (i : Int) := by
  rw [List.getElem?_map] at h
  obtain ⟨x, h1, h2⟩ := Option.map_eq_some_iff.mp h
  have hi := (List.getElem?_eq_some_iff.mp h1).1
  rw [upI_len] at hi
  rw [upI_get hi] at h1
  cases h1
  exact ⟨hi, h2.symm⟩
theorem len16 {m : Nat} (hm : m ≤ 12) {ps : Al} (o : Okk m ps) : ps.length < 65536 := by
  have h1 := o.len
  have : m * m ≤ 12 * 12 := Nat.mul_le_mul hm hm
  omega
theorem lt64 (a : Option Int) (w : Int) : (oi (some (lzi a w))) = .int (lzi a w) := rfl
/-- sides put in, one by one -/
structure Got (m : Nat) (S : List Side) (T : Tab) : Prop where
  fnd : Fnd m S (· ∈ S) T
theorem tk (a b : Int) : PyData.tuple [.int a, .int b] = key a b := rfl
theorem highs_first {m : Nat} {F : D} (hm : m ≤ 12) : sSetO 2 (oDc (iR1 (aCons (eV 0) aNil)) (nName 11) cYes (kTup (aCons (eV 11) (aCons (eV 11) aNil))) (eC (.int 0)) [11]) [.fz (.int m), .fz F, .un, .un, .un, .un, .un, .un, .un, .un, .un, .un] =
    .ok .nx [.fz (.int m), .fz F, .ow (.dict (enc (diag (upI m)))), .un, .un, .un, .un, .un, .un, .un, .un, .un] := by
  have h16 : m ≤ 65536 := by omega
  have b0 : iR1 (aCons (eV 0) aNil) [.fz (.int m), .fz F, .un, .un, .un, .un, .un, .un, .un, .un, .un, .un] = .ok ((upI m).map PyData.int) [.fz (.int m), .fz F, .un, .un, .un, .un, .un, .un, .un, .un, .un, .un] := iR1_nat h16 (by simp)
  have q := oDc_diag (g := nName 11) (k := kTup (aCons (eV 11) (aCons (eV 11) aNil))) (e := eC (.int 0)) (vs := [11]) h16 b0 rfl rfl fun a =>
    ⟨[.fz (.int m), .fz F, .un, .un, .un, .un, .un, .un, .un, .un, .un, .fz (.int a)], by simp, by simp [kTup, key], by simp, rfl⟩
  exact setO_eq q (by simp) (by simp)
theorem diag_fnd (m : Nat) (S : List Side) : Fnd m S (fun _ => False) (look (diag (upI m))) := by
  refine ⟨fun a c v h => ?_, fun a ha => ?_, fun s hs => hs.elim⟩
  · rw [look_diag] at h
    split at h
    · rename_i hc
      cases h
      exact ⟨mem_upI.mp hc.1, [], (fun _ h => nomatch h), hc.2, rfl⟩
    · cases h
  · rw [look_diag, if_pos ⟨mem_upI.mpr ha, rfl⟩]
theorem Fnd.weak {m : Nat} {S : List Side} {W W' : Side → Prop} {T : Tab} (f : Fnd m S W T) (h : ∀ s, W' s → W s) : Fnd m S W' T := ⟨f.at_, f.self, fun s hs => f.side s (h s hs)⟩
theorem highs_sides {m : Nat} {F : D} {S : List Side} {p : Int → Int} {f : Fn} (hm : m ≤ 12) (o : Sound m S p) (hf : f [F] = .ok (.list (S.map sd)) []) {Q : Out → En → Prop} {rest : ES}
    (k : ∀ ps o3 o4 o5 o6 o7, Okk m ps → Fnd m S (· ∈ S) (look ps) → Wp (rest [.fz (.int m), .fz F, .ow (.dict (enc ps)), sl o3, sl o4, sl o5, sl o6, sl o7, .un, .un, .un, .un]) Q) :
    Wp (sSeq (sFor (iSeq (eCall [false] f (aCons (eV 1) aNil))) (nTup 5 (nCons (nName 3) (nCons (nName 4) (nCons (nName 5) (nCons (nName 6) (nCons (nName 7) nNil)))))) (sPut (eV 2) (kTup (aCons (eV 5) (aCons (eV 6) aNil))) (eCall [false, false] f_lesser (aCons (eGet1 (eV 2) (eTup (aCons (eV 5) (aCons (eV 6) aNil)))) (aCons (eV 7) aNil))))) rest
      [.fz (.int m), .fz F, .ow (.dict (enc (diag (upI m)))), .un, .un, .un, .un, .un, .un, .un, .un, .un]) Q := by
  refine wp_seq ?_
  refine wp_forN (S.map sd) [.fz (.int m), .fz F, .ow (.dict (enc (diag (upI m)))), .un, .un, .un, .un, .un, .un, .un, .un, .un] (by simp [iSeq, hf])
    (fun i en => ∃ ps o3 o4 o5 o6 o7, en = [.fz (.int m), .fz F, .ow (.dict (enc ps)), sl o3, sl o4, sl o5, sl o6, sl o7, .un, .un, .un, .un] ∧ Okk m ps ∧ Fnd m S (· ∈ S.take i) (look ps))
    ⟨diag (upI m), none, none, none, none, none, rfl, okk_diag m, (diag_fnd m S).weak fun s hs => by rw [List.take_zero] at hs; cases hs⟩ ?_ ?_
  · rintro i d en hd ⟨ps, o3, o4, o5, o6, o7, rfl, ok, fn⟩
    rw [List.getElem?_map] at hd
    obtain ⟨s, hs, rfl⟩ := Option.map_eq_some_iff.mp hd
    have mem : s ∈ S := List.mem_of_getElem? hs
    have lo := o.lo s mem
    refine ⟨_, by simp [sd] <;> rfl, ?_⟩
    have ok' : Okk m (rlx ps s.b s.e s.w) := ok.store ⟨lo.1, lo.2.1⟩ ⟨lo.2.2.1, lo.2.2.2⟩ _
    have fn' := fn.seen o mem
    have len := len16 hm ok
    simp [sPut, kTup, eGet1, wp_ok, lesser_int, len, dGet_enc, fits_enc, dPut_enc, length_enc, tk]
    refine ⟨rlx ps s.b s.e s.w, rfl, ok', fn'.weak fun x hx => ?_⟩
    rw [take_snoc hs, List.mem_append, List.mem_singleton] at hx
    exact hx
  · rintro en ⟨ps, o3, o4, o5, o6, o7, rfl, ok, fn⟩
    refine k ps o3 o4 o5 o6 o7 ok (fn.weak fun x hx => ?_)
    rw [List.length_map, List.take_length]
    exact hx
end Clk

set_option Elab.async false
set_option linter.all false
set_option maxRecDepth 20000
namespace Clk
open PySem Fx
theorem oi_some (t : Int) : oi (some t) = .int t := rfl
theorem oi_none : oi none = .none := rfl
theorem tri_zero {m : Nat} {T : Tab} : Tri m T 0 := fun d id hd => absurd id.1 (by omega)
theorem together_oi (a b : Option Int) : f_together [oi a, oi b] = .ok (oi (pz a b)) [] := together_ok a b
theorem highs_mid {m : Nat} {F : D} {S : List Side} {p : Int → Int} (hm : m ≤ 12) (o : Sound m S p) {Q : Out → En → Prop} {ps : Al} {o3 o4 o5 o6 o7 : Option D} (ok : Okk m ps) (fn : Fnd m S (· ∈ S) (look ps))
    (k : ∀ ps en, Okk m ps → Dist m S (look ps) → (∃ r, en = .fz (.int m) :: .fz F :: .ow (.dict (enc ps)) :: r) → Wp (sRet (eV 2) en) Q) :
    Wp (sSeq (sFor (iR1 (aCons (eV 0) aNil)) (nName 8) (sFor (iR1 (aCons (eV 0) aNil)) (nName 5) (sSeq (sAsg (eGet1 (eV 2) (eTup (aCons (eV 5) (aCons (eV 8) aNil)))) (nName 9))
    (sFor (iR1 (aCons (eV 0) aNil)) (nName 6) (sSeq (sAsg (eCall [false, false] f_together (aCons (eV 9) (aCons (eGet1 (eV 2) (eTup (aCons (eV 8) (aCons (eV 6) aNil)))) aNil))) (nName 10))
    (sIf (cB (eOp oNotN (eV 10) (eC .none))) (sPut (eV 2) (kTup (aCons (eV 5) (aCons (eV 6) aNil))) (eCall [false, false] f_lesser (aCons (eGet1 (eV 2) (eTup (aCons (eV 5) (aCons (eV 6) aNil)))) (aCons (eV 10) aNil)))) sNx)))))) (sRet (eV 2))
      [.fz (.int m), .fz F, .ow (.dict (enc ps)), sl o3, sl o4, sl o5, sl o6, sl o7, .un, .un, .un, .un]) Q := by
  have h16 : m ≤ 65536 := by omega
  have rg : ∀ {s2 s3 s4 s5 s6 s7 s8 s9 s10 s11 : Sl}, iR1 (aCons (eV 0) aNil) [.fz (.int m), s2, s3, s4, s5, s6, s7, s8, s9, s10, s11] = .ok ((upI m).map PyData.int) [.fz (.int m), s2, s3, s4, s5, s6, s7, s8, s9, s10, s11] := fun {_ _ _ _ _ _ _ _ _ _} => iR1_nat h16 (by simp)
  have rg12 : ∀ {s1 s2 s3 s4 s5 s6 s7 s8 s9 s10 s11 : Sl}, iR1 (aCons (eV 0) aNil) [.fz (.int m), s1, s2, s3, s4, s5, s6, s7, s8, s9, s10, s11] = .ok ((upI m).map PyData.int) [.fz (.int m), s1, s2, s3, s4, s5, s6, s7, s8, s9, s10, s11] := fun {_ _ _ _ _ _ _ _ _ _ _} => iR1_nat h16 (by simp)
  refine wp_seq ?_
  refine wp_forN ((upI m).map PyData.int) _ rg12
    (fun c en => ∃ ps o3 o4 o5 o6 o7 o8 o9 o10, en = [.fz (.int m), .fz F, .ow (.dict (enc ps)), sl o3, sl o4, sl o5, sl o6, sl o7, sl o8, sl o9, sl o10, .un] ∧ Okk m ps ∧ Fnd m S (· ∈ S) (look ps) ∧ Tri m (look ps) c)
    ⟨ps, o3, o4, o5, o6, o7, none, none, none, rfl, ok, fn, tri_zero⟩ ?_ ?_
  · rintro c d en hd ⟨ps, o3, o4, o5, o6, o7, o8, o9, o10, rfl, ok, fn, tr⟩
    obtain ⟨hc, rfl⟩ := upI_at hd
    have ic : In m (c : Int) := ⟨by omega, by omega⟩
    refine ⟨_, by simp <;> rfl, ?_⟩
    have keys : ∀ a b v, look ps a b = some v → In m a ∧ In m b := fun a b v h => ok.inn _ (look_mem h)
    generalize hT : look ps = T at fn tr keys
    refine wp_forN ((upI m).map PyData.int) _ rg12
      (fun i en => ∃ ps o3 o4 o5 o6 o7 o9 o10, en = [.fz (.int m), .fz F, .ow (.dict (enc ps)), sl o3, sl o4, sl o5, sl o6, sl o7, .fz (.int c), sl o9, sl o10, .un] ∧ Mid m S T c i 0 ps)
      ⟨ps, o3, o4, o5, o6, o7, o9, o10, rfl, ok, hT ▸ fn, fun a b => ?_⟩ ?_ ?_
    · rw [hT]
      split
      · rename_i h
        have n : T a b = none := by
          cases e : T a b with
          | none => rfl
          | some v => obtain ⟨⟨_, _⟩, _, _⟩ := keys a b v e; omega
        unfold fwv
        cases e1 : pz (T a c) (T c b) with
        | none => rfl
        | some t =>
          obtain ⟨x, y, h1, h2, _⟩ := pz_some e1
          have := (keys _ _ _ h1).1.1
          have := (keys _ _ _ h2).2.1
          omega
      · rfl
    · rintro i d en hd ⟨ps, o3, o4, o5, o6, o7, o9, o10, rfl, mid⟩
      obtain ⟨hi, rfl⟩ := upI_at hd
      have ii : In m (i : Int) := ⟨by omega, by omega⟩
      refine ⟨_, by simp <;> rfl, ?_⟩
      have ahead : look ps i c = T i c := by
        rw [mid.at_]
        split
        · exact fw_col (fn.self c ic)
        · rfl
      refine wp_nx (en' := [.fz (.int m), .fz F, .ow (.dict (enc ps)), sl o3, sl o4, .fz (.int i), sl o6, sl o7, .fz (.int c), .fz (oi (T i c)), sl o10, .un]) ?_ ?_
      · simp [eGet1, fits_enc, dGet_enc, tk, ahead]
      refine wp_forN ((upI m).map PyData.int) _ rg12
        (fun j en => ∃ ps o3 o4 o6 o7 o10, en = [.fz (.int m), .fz F, .ow (.dict (enc ps)), sl o3, sl o4, .fz (.int i), sl o6, sl o7, .fz (.int c), .fz (oi (T i c)), sl o10, .un] ∧ Mid m S T c i j ps)
        ⟨ps, o3, o4, o6, o7, o10, rfl, mid⟩ ?_ ?_
      · rintro j d en hd ⟨ps, o3, o4, o6, o7, o10, rfl, mid⟩
        obtain ⟨hj, rfl⟩ := upI_at hd
        have ij : In m (j : Int) := ⟨by omega, by omega⟩
        refine ⟨_, by simp <;> rfl, ?_⟩
        have row : look ps c j = T c j := by
          rw [mid.at_]
          split
          · exact fw_row (fn.self c ic)
          · rfl
        have nx := mid.next o fn ic ii ij
        refine wp_nx (en' := [.fz (.int m), .fz F, .ow (.dict (enc ps)), sl o3, sl o4, .fz (.int i), .fz (.int j), sl o7, .fz (.int c), .fz (oi (T i c)), .fz (oi (pz (T i c) (T c j))), .un]) ?_ ?_
        · simp [eGet1, fits_enc, dGet_enc, tk, row, together_oi]
        have len := len16 hm mid.ok
        cases e : pz (T i c) (T c j) with
        | none =>
          rw [e] at nx
          simp [wp_ok, oi_none]
          exact ⟨ps, rfl, nx⟩
        | some t =>
          rw [e] at nx
          simp [wp_ok, oi_some, sPut, kTup, eGet1, lesser_int, len, dGet_enc, fits_enc, dPut_enc, length_enc, tk]
          exact ⟨rlx ps i j t, rfl, nx⟩
      · rintro en ⟨ps, o3, o4, o6, o7, o10, rfl, mid⟩
        rw [List.length_map, upI_len] at mid
        exact ⟨ps, o3, o4, some (.int i), o6, o7, some (oi (T i c)), o10, rfl, mid.row keys ic⟩
    · rintro en ⟨ps, o3, o4, o5, o6, o7, o9, o10, rfl, mid⟩
      rw [List.length_map, upI_len] at mid
      have eq : look ps = fwv T c := by
        funext a b
        rw [mid.at_]
        split
        · rfl
        · rename_i h
          have n1 : T a b = none := by
            cases e : T a b with
            | none => rfl
            | some v => have := (keys a b v e).1.2; omega
          unfold fwv
          cases e1 : pz (T a c) (T c b) with
          | none => rfl
          | some t =>
            obtain ⟨x, y, h1, h2, _⟩ := pz_some e1
            have := (keys _ _ _ h1).1.2
            omega
      refine ⟨ps, o3, o4, o5, o6, o7, some (.int c), o9, o10, rfl, mid.ok, mid.fnd, ?_⟩
      rw [eq]
      exact fw_tri o fn ic tr
  · rintro en ⟨ps, o3, o4, o5, o6, o7, o8, o9, o10, rfl, ok, fn, tr⟩
    rw [List.length_map, upI_len] at tr
    exact k ps _ ok (dist_of o fn tr) ⟨_, rfl⟩
theorem highs_ok {m : Nat} {fs : List Fact} {p : Int → Int} (hm : m ≤ 12) (hl : fs.length ≤ 60) (o : Sound m (sidesFrom 0 fs) p) :
    ∃ ps, f_highs [.int m, .tuple (fs.map fd)] = .ok (.dict (enc ps)) [] ∧ Okk m ps ∧ Dist m (sidesFrom 0 fs) (look ps) := by
  have main : Wp (b_highs [.fz (.int m), .fz (.tuple (fs.map fd)), .un, .un, .un, .un, .un, .un, .un, .un, .un, .un]) fun o en => ∃ d, o = .rt d ∧ (∃ ps, d = .dict (enc ps) ∧ Okk m ps ∧ Dist m (sidesFrom 0 fs) (look ps)) ∧ outsOf [false, false] 0 en = some [] := by
    refine wp_nx (highs_first hm) ?_
    refine highs_sides hm o (sides_ok hl) fun ps o3 o4 o5 o6 o7 ok fn => ?_
    refine highs_mid hm o ok fn fun ps en ok d he => ?_
    obtain ⟨r, rfl⟩ := he
    rw [sRet_wp (d := .dict (enc ps)) (en' := .fz (.int m) :: .fz (.tuple (fs.map fd)) :: .fz (.dict (enc ps)) :: r)]
    · exact ⟨_, rfl, ⟨ps, rfl, ok, d⟩, rfl⟩
    · simp
  obtain ⟨d, e, ps, rfl, h1, h2⟩ := fn_wpE (io := [false, false]) (ds := [.int m, .tuple (fs.map fd)]) (n := 12) (outs := []) main
  exact ⟨ps, e, h1, h2⟩
end Clk

set_option Elab.async false
set_option linter.all false
set_option maxRecDepth 20000
namespace Clk
open PySem Fx
/-- many and facts that are let, the clocks p -/
structure Fine (m : Nat) (fs : List Fact) (p : Int → Int) : Prop where
  m1 : 1 ≤ m
  m12 : m ≤ 12
  len : fs.length ≤ 60
  good : ∀ f ∈ fs, Good m f
  snd : Sound m (sidesFrom 0 fs) p
abbrev FD (fs : List Fact) : D := .tuple (fs.map fd)
theorem check_facts_ok {m : Nat} {fs : List Fact} {p : Int → Int} (h : Fine m fs p) : f_check_facts [.int m, FD fs] = .ok .none [] := by
  have := h.m1
  have := h.m12
  have e1 : (1 : Int) ≤ m := by omega
  have e2 : (m : Int) ≤ 12 := by omega
  unfold f_check_facts b_check_facts
  simp [between_int, are_facts_ok h.len h.good, e1, e2]
theorem check_site_ok {m : Nat} {a : Int} (h : In m a) : f_check_site [.int m, .int a] = .ok .none [] := by
  have e1 : 0 ≤ a := h.1
  have e2 : a ≤ (m : Int) - 1 := by have := h.2; omega
  unfold f_check_site b_check_site
  simp [between_int, e1, e2]
theorem high_ok {ps : Al} {a b : Int} : f_high [.dict (enc ps), .int a, .int b] = .ok (oi (look ps a b)) [] := by
  unfold f_high b_high
  simp [eGet1, fits_enc, dGet_enc, tk]
def ng (o : Option Int) : Option Int := o.map (- ·)
theorem low_ok {ps : Al} {a b : Int} : f_low [.dict (enc ps), .int a, .int b] = .ok (oi (ng (look ps b a))) [] := by
  unfold f_low b_low
  simp [eGet1, fits_enc, dGet_enc, tk]
  cases look ps b a <;> simp [oi, ng]
theorem allT (m : Nat) : boolsD (((upI m).map PyData.int).map fun _ => PyData.bool true) = some ((upI m).map fun _ => true) ∧ ((upI m).map fun _ => true).all id = true := by
  constructor
  · generalize upI m = l
    induction l with
    | nil => rfl
    | cons x l ih => simp only [List.map_cons, boolsD, ih, Option.map_some]
  · rw [List.all_eq_true]
    intro x hx
    obtain ⟨_, _, rfl⟩ := List.mem_map.mp hx
    rfl
theorem round_all {m : Nat} {F : D} {ps : Al} (h16 : m ≤ 65536) (z : ∀ a, In m a → look ps a a = some 0) : oLc (iR1 (aCons (eV 0) aNil)) (nName 3) cYes (eOp oEq (eItem (eV 2) (eTup (aCons (eV 3) (aCons (eV 3) aNil)))) (eC (.int 0))) [3] [.fz (.int m), .fz F, .fz (.dict (enc ps)), .un] =
    .ok (.list (((upI m).map PyData.int).map fun _ => .bool true)) [.fz (.int m), .fz F, .fz (.dict (enc ps)), .un] := by
  refine oLc_map (fun _ => .bool true) (ds := (upI m).map PyData.int) (en1 := [.fz (.int m), .fz F, .fz (.dict (enc ps)), .un]) (iR1_nat h16 (by simp)) (by simp) (by simp) (by rw [List.length_map, upI_len]; exact h16) fun x hx => ?_
  obtain ⟨a, ha, rfl⟩ := List.mem_map.mp hx
  have z := z a (mem_upI.mp ha)
  exact ⟨[.fz (.int m), .fz F, .fz (.dict (enc ps)), .fz (.int a)], by simp, [.fz (.int m), .fz F, .fz (.dict (enc ps)), .fz (.int a)], by simp [eItem, fits_enc, dGet_enc, tk, z], by simp⟩
theorem round_wp {m : Nat} {F : D} {ps : Al} {L : EO} {H : Fn} {bs : List Bool} {ds : List D} (q : L [.fz (.int m), .fz F, .fz (.dict (enc ps)), .un] = .ok (.list ds) [.fz (.int m), .fz F, .fz (.dict (enc ps)), .un]) (hi : H [.int m, F] = .ok (.dict (enc ps)) []) (bl : boolsD ds = some bs) (al : bs.all id = true) :
    Wp (sSeq (sAsg (eCall [false, false] H (aCons (eV 0) (aCons (eV 1) aNil))) (nName 2)) (sIf (cNot (cB (eUn oAll (ofO L)))) sSt sNx) [.fz (.int m), .fz F, .un, .un]) fun o en => o = .nx ∧ outsOf [false, false] 0 en = some [] := by
  refine wp_nx (en' := [.fz (.int m), .fz F, .fz (.dict (enc ps)), .un]) (by simp [hi]) ?_
  refine wp_ifF (en' := [.fz (.int m), .fz F, .fz (.dict (enc ps)), .un]) (by simp [q, bl, al]) ?_
  simp [wp_ok]
theorem round_ok {m : Nat} {fs : List Fact} {p : Int → Int} (h : Fine m fs p) {ps : Al} (hi : f_highs [.int m, FD fs] = .ok (.dict (enc ps)) []) (d : Dist m (sidesFrom 0 fs) (look ps)) : f_check_round [.int m, FD fs] = .ok .none [] := by
  have h16 : m ≤ 65536 := by have := h.m12; omega
  have q := round_all (F := FD fs) h16 fun a ha => dist_self h.snd d ha
  have w := round_wp q hi (allT m).1 (allT m).2
  exact fn_nxA (b := b_check_round) (io := [false, false]) (n := 4) _ rfl w
theorem bounds_wp {m a b : D} {F x y T : D} {g1 g2 g3 g4 g5 g6 : Fn} (h1 : g1 [m, F] = .ok .none []) (h2 : g2 [m, a] = .ok .none []) (h3 : g2 [m, b] = .ok .none []) (h4 : g3 [m, F] = .ok .none []) (h5 : g4 [T, a, b] = .ok x []) (h6 : g5 [T, a, b] = .ok y []) (hi : g6 [m, F] = .ok T []) :
    Wp (sSeq (sDrop (eCall [false, false] g1 (aCons (eV 0) (aCons (eV 1) aNil))))
    (sSeq (sDrop (eCall [false, false] g2 (aCons (eV 0) (aCons (eV 2) aNil))))
    (sSeq (sDrop (eCall [false, false] g2 (aCons (eV 0) (aCons (eV 3) aNil))))
    (sSeq (sDrop (eCall [false, false] g3 (aCons (eV 0) (aCons (eV 1) aNil))))
    (sSeq (sAsg (eCall [false, false] g6 (aCons (eV 0) (aCons (eV 1) aNil))) (nName 4))
    (sRet (eTup (aCons (eCall [false, false, false] g4 (aCons (eV 4) (aCons (eV 2) (aCons (eV 3) aNil)))) (aCons (eCall [false, false, false] g5 (aCons (eV 4) (aCons (eV 2) (aCons (eV 3) aNil)))) aNil)))))))) [.fz m, .fz F, .fz a, .fz b, .un]) fun o en => o = .rt (.tuple [x, y]) ∧ outsOf [false, false, false, false] 0 en = some [] := by
  simp [wp_ok, h1, h2, h3, h4, h5, h6, hi]
theorem bounds_ok {m : Nat} {fs : List Fact} {p : Int → Int} (h : Fine m fs p) {ps : Al} (hi : f_highs [.int m, FD fs] = .ok (.dict (enc ps)) []) (d : Dist m (sidesFrom 0 fs) (look ps)) {a b : Int} (ia : In m a) (ib : In m b) :
    f_bounds [.int m, FD fs, .int a, .int b] = .ok (.tuple [oi (ng (look ps b a)), oi (look ps a b)]) [] :=
  fn_wpA (b := b_bounds) (io := [false, false, false, false]) (n := 5) _ rfl (bounds_wp (check_facts_ok h) (check_site_ok ia) (check_site_ok ib) (round_ok h hi d) low_ok high_ok hi)
end Clk

set_option Elab.async false
set_option linter.all false
set_option maxRecDepth 20000
namespace Clk
open PySem Fx

/-! ### rows of least sums by just so many sides -/
structure Mins (P : Al) (T : Tab) : Prop where
  at_ : ∀ a b v, T a b = some v → (a, b, v) ∈ P
  le : ∀ a b w, (a, b, w) ∈ P → ∃ v, T a b = some v ∧ v ≤ w
theorem mins_nil : Mins [] (look []) := ⟨(fun _ _ _ h => nomatch h), (fun _ _ _ h => nomatch h)⟩
theorem mins_snoc {P ps : Al} (h : Mins P (look ps)) (a b w : Int) : Mins (P ++ [(a, b, w)]) (look (rlx ps a b w)) := by
  refine ⟨fun x y v q => ?_, fun x y u q => ?_⟩
  · rw [look_rlx] at q
    by_cases k : x = a ∧ y = b
    · rw [if_pos k] at q
      obtain ⟨rfl, rfl⟩ := k
      cases q
      rcases lzi_or (look ps x y) w with z | z
      · rw [z]; exact List.mem_append_right _ List.mem_cons_self
      · exact List.mem_append_left _ (h.at_ _ _ _ z)
    · rw [if_neg k] at q
      exact List.mem_append_left _ (h.at_ _ _ _ q)
  · rw [look_rlx]
    rcases List.mem_append.mp q with q | q
    · obtain ⟨v, h1, h2⟩ := h.le x y u q
      by_cases k : x = a ∧ y = b
      · rw [if_pos k]
        obtain ⟨rfl, rfl⟩ := k
        have := lzi_le' h1 w
        exact ⟨_, rfl, by omega⟩
      · rw [if_neg k]; exact ⟨v, h1, h2⟩
    · rw [List.mem_singleton] at q
      injection q with q1 q2
      injection q2 with q2 q3
      subst q1
      subst q2
      subst q3
      rw [if_pos ⟨rfl, rfl⟩]
      exact ⟨_, rfl, lzi_le _ _⟩
def prodsAt (x : Int × Int × Int) (sm : Al) : Al := (sm.filter fun y => decide (y.1 = x.2.1)).map fun y => (x.1, y.2.1, x.2.2 + y.2.2)
def prods (r sm : Al) : Al := r.flatMap fun x => prodsAt x sm
theorem mem_prods {r sm : Al} {a c v : Int} : (a, c, v) ∈ prods r sm ↔ ∃ d x y, (a, d, x) ∈ r ∧ (d, c, y) ∈ sm ∧ v = x + y := by
  unfold prods prodsAt
  constructor
  · intro h
    obtain ⟨q, hq, h⟩ := List.mem_flatMap.mp h
    obtain ⟨y, hy, e⟩ := List.mem_map.mp h
    obtain ⟨h1, h2⟩ := List.mem_filter.mp hy
    have h2 := of_decide_eq_true h2
    injection e with e1 e2
    injection e2 with e2 e3
    exact ⟨q.2.1, q.2.2, y.2.2, by rw [← e1]; exact hq, by rw [← h2, ← e2]; exact h1, e3.symm⟩
  · rintro ⟨d, x, y, h1, h2, rfl⟩
    exact List.mem_flatMap.mpr ⟨(a, d, x), h1, List.mem_map.mpr ⟨(d, c, y), List.mem_filter.mpr ⟨h2, decide_eq_true rfl⟩, rfl⟩⟩
/-- the rows told as a list of tables -/
structure IsRows (m : Nat) (S : List Side) (sm : Al) (rs : List Al) : Prop where
  ok : ∀ r ∈ rs, Okk m r
  sok : Okk m sm
  sums : Mins (S.map fun s => (s.b, s.e, s.w)) (look sm)
  first : rs[0]? = some (diag (upI m))
  next : ∀ (k : Nat) r r', rs[k]? = some r → rs[k + 1]? = some r' → Mins (prods r sm) (look r')
def tabs (rs : List Al) (k : Nat) : Tab := match rs[k]? with
  | some r => look r
  | none => fun _ _ => none
theorem rows_of {m : Nat} {S : List Side} {p : Int → Int} {sm : Al} {rs : List Al} {L : Nat} (o : Sound m S p) (h : IsRows m S sm rs) (hL : L < rs.length) : Rows m S (tabs rs) L := by
  have get : ∀ k, k ≤ L → ∃ r, rs[k]? = some r := fun k hk => ⟨rs[k], List.getElem?_eq_getElem (by omega)⟩
  have tab : ∀ {k r}, rs[k]? = some r → tabs rs k = look r := fun {k r} e => by unfold tabs; rw [e]
  constructor
  · have key : ∀ (k : Nat) (l : List Side) a c, l.length = k → (∀ s ∈ l, s ∈ S) → Path a l c → In m a → k ≤ L → ∃ v, tabs rs k a c = some v ∧ v ≤ wt l := by
      intro k
      induction k with
      | zero =>
        intro l a c e i pa ia hk
        have : l = [] := List.length_eq_zero_iff.mp e
        subst this
        cases (show a = c from pa)
        rw [tab h.first, look_diag, if_pos ⟨mem_upI.mpr ia, rfl⟩]
        exact ⟨0, rfl, Int.le_refl _⟩
      | succ k ih =>
        intro l a c e i pa ia hk
        rcases List.eq_nil_or_concat l with rfl | ⟨l', s, rfl⟩
        · cases e
        · rw [List.concat_eq_append] at *
          rw [List.length_append, List.length_singleton] at e
          obtain ⟨d, p1, p2⟩ := path_split pa
          have p2b : s.b = d := p2.1
          have p2e : s.e = c := p2.2
          obtain ⟨v, hv, hv2⟩ := ih l' a d (by omega) (fun x hx => i x (List.mem_append_left _ hx)) p1 ia (by omega)
          obtain ⟨r, hr⟩ := get k (by omega)
          obtain ⟨r', hr'⟩ := get (k + 1) hk
          rw [tab hr] at hv
          obtain ⟨x, hx, hx2⟩ := h.sums.le s.b s.e s.w (List.mem_map.mpr ⟨s, i s (by simp), rfl⟩)
          obtain ⟨u, hu, hu2⟩ := (h.next k r r' hr hr').le a c (v + x) (mem_prods.mpr ⟨d, v, x, look_mem hv, by rw [← p2b, ← p2e]; exact look_mem hx, rfl⟩)
          rw [tab hr']
          refine ⟨u, hu, ?_⟩
          rw [wt_append]
          simp only [wt]
          omega
    intro l a c i pa ia hk
    exact key l.length l a c rfl i pa ia hk
  · intro k
    induction k with
    | zero =>
      intro a c v hk q
      rw [tab h.first, look_diag] at q
      split at q
      · rename_i hc
        cases q
        exact ⟨[], rfl, (fun _ z => nomatch z), hc.2, mem_upI.mp hc.1, rfl⟩
      · cases q
    | succ k ih =>
      intro a c v hk q
      obtain ⟨r, hr⟩ := get k (by omega)
      obtain ⟨r', hr'⟩ := get (k + 1) hk
      rw [tab hr'] at q
      obtain ⟨d, x, y, h1, h2, rfl⟩ := mem_prods.mp ((h.next k r r' hr hr').at_ a c v q)
      have e1 := mem_look (h.ok r (List.mem_of_getElem? hr)).nd h1
      obtain ⟨l, e, i, pa, ia, w⟩ := ih a d x (by omega) (by rw [tab hr]; exact e1)
      have e2 := h.sums.at_ d c y (mem_look h.sok.nd h2)
      obtain ⟨s, hs, z⟩ := List.mem_map.mp e2
      injection z with z1 z2
      injection z2 with z2 z3
      refine ⟨l ++ [s], by rw [List.length_append, e]; rfl, fun q hq => ?_, path_append pa ⟨z1, z2⟩, ia, by rw [wt_append, w]; simp only [wt]; omega⟩
      rcases List.mem_append.mp hq with hq | hq
      · exact i q hq
      · rw [List.mem_singleton.mp hq]; exact hs
end Clk

set_option Elab.async false
set_option linter.all false
set_option maxRecDepth 20000
namespace Clk
open PySem Fx

def tri3 (s : Side) : Int × Int × Int := (s.b, s.e, s.w)
theorem sums_sides {m : Nat} {n : Int} {l1 : D} {S : List Side} {p : Int → Int} (hm : m ≤ 12) (o : Sound m S p) {Q : Out → En → Prop} {rest : ES} (e1 : l1 = .list (S.map sd))
    (k : ∀ sm o4 o5 o6 o7 o8, Okk m sm → Mins (S.map tri3) (look sm) → Wp (rest [.fz (.int m), .fz l1, .fz (.int n), .ow (.dict (enc sm)), sl o4, sl o5, sl o6, sl o7, sl o8, .un, .un, .un, .un, .un, .un, .un]) Q) :
    Wp (sSeq (sFor (iSeq (eV 1)) (nTup 5 (nCons (nName 4) (nCons (nName 5) (nCons (nName 6) (nCons (nName 7) (nCons (nName 8) nNil)))))) (sPut (eV 3) (kTup (aCons (eV 6) (aCons (eV 7) aNil))) (eCall [false, false] f_lesser (aCons (eGet1 (eV 3) (eTup (aCons (eV 6) (aCons (eV 7) aNil)))) (aCons (eV 8) aNil))))) rest
      [.fz (.int m), .fz l1, .fz (.int n), .ow (.dict (enc [])), .un, .un, .un, .un, .un, .un, .un, .un, .un, .un, .un, .un]) Q := by
  refine wp_seq ?_
  refine wp_forN (S.map sd) [.fz (.int m), .fz l1, .fz (.int n), .ow (.dict (enc [])), .un, .un, .un, .un, .un, .un, .un, .un, .un, .un, .un, .un] (by simp [iSeq, e1])
    (fun i en => ∃ ps o4 o5 o6 o7 o8, en = [.fz (.int m), .fz l1, .fz (.int n), .ow (.dict (enc ps)), sl o4, sl o5, sl o6, sl o7, sl o8, .un, .un, .un, .un, .un, .un, .un] ∧ Okk m ps ∧ Mins ((S.take i).map tri3) (look ps))
    ⟨[], none, none, none, none, none, rfl, ⟨by simp, (fun _ h => nomatch h)⟩, mins_nil⟩ ?_ ?_
  · rintro i d en hd ⟨ps, o4, o5, o6, o7, o8, rfl, ok, mn⟩
    rw [List.getElem?_map] at hd
    obtain ⟨s, hs, rfl⟩ := Option.map_eq_some_iff.mp hd
    have mem : s ∈ S := List.mem_of_getElem? hs
    have lo := o.lo s mem
    refine ⟨_, by simp [sd] <;> rfl, ?_⟩
    have ok' : Okk m (rlx ps s.b s.e s.w) := ok.store ⟨lo.1, lo.2.1⟩ ⟨lo.2.2.1, lo.2.2.2⟩ _
    have mn' := mins_snoc mn s.b s.e s.w
    have len := len16 hm ok
    simp [sPut, kTup, eGet1, wp_ok, lesser_int, len, dGet_enc, fits_enc, dPut_enc, length_enc, tk]
    refine ⟨rlx ps s.b s.e s.w, rfl, ok', ?_⟩
    rw [← List.map_take, take_snoc hs, List.map_append]
    exact mn'
  · rintro en ⟨ps, o4, o5, o6, o7, o8, rfl, ok, mn⟩
    rw [List.length_map, List.take_length] at mn
    exact k ps o4 o5 o6 o7 o8 ok mn

def ob (b : Bool) (d : D) : Sl := if b = true then .ow d else .fz d
def rd1 (r : Al) : D := .dict (enc r)
theorem prodsAt_snoc {x y : Int × Int × Int} {l : Al} : prodsAt x (l ++ [y]) = if y.1 = x.2.1 then prodsAt x l ++ [(x.1, y.2.1, x.2.2 + y.2.2)] else prodsAt x l := by
  unfold prodsAt
  rw [List.filter_append, List.map_append]
  by_cases h : y.1 = x.2.1
  · rw [if_pos h, List.filter_cons, if_pos (decide_eq_true h)]; rfl
  · rw [if_neg h, List.filter_cons, if_neg (by simpa using h)]; simp
theorem prods_snoc {x : Int × Int × Int} {l sm : Al} : prods (l ++ [x]) sm = prods l sm ++ prodsAt x sm := by
  unfold prods
  rw [List.flatMap_append, List.flatMap_cons, List.flatMap_nil, List.append_nil]
theorem itemsOf_get {ps : Al} {i : Nat} {d : D} (h : (itemsOf (enc ps))[i]? = some d) : ∃ x, ps[i]? = some x ∧ d = .tuple [key x.1 x.2.1, .int x.2.2] := by
  unfold itemsOf enc at h
  rw [List.getElem?_map, List.getElem?_map] at h
  cases e : ps[i]? with
  | none => rw [e] at h; cases h
  | some x => rw [e] at h; cases h; exact ⟨x, rfl, rfl⟩
theorem itemsOf_len (ps : Al) : (itemsOf (enc ps)).length = ps.length := by unfold itemsOf enc; rw [List.length_map, List.length_map]
def b_inner : ES := sFor (iIt (eV 3)) (nTup 2 (nCons (nTup 2 (nCons (nName 14) (nCons (nName 7) nNil))) (nCons (nName 8) nNil))) (sIf (cB (eOp oEq (eV 14) (eV 12))) (sPut (eV 11) (kTup (aCons (eV 6) (aCons (eV 7) aNil))) (eCall [false, false] f_lesser (aCons (eGet1 (eV 11) (eTup (aCons (eV 6) (aCons (eV 7) aNil)))) (aCons (eOp oAdd (eV 13) (eV 8)) aNil)))) sNx)
theorem inner_ok {m : Nat} (hm : m ≤ 12) {s0 s1 s2 s9 s10 : Sl} {o4 o5 o7 o8 o14 : Option D} {b : Bool} {sm ps P : Al} {x : Int × Int × Int} (oks : Okk m sm) (ok : Okk m ps) (mn : Mins P (look ps)) (ix : In m x.1) {Q : Out → En → Prop}
    (k : ∀ ps' o7 o8 o14, Okk m ps' → Mins (P ++ prodsAt x sm) (look ps') → Q .nx [s0, s1, s2, .fz (rd1 sm), sl o4, sl o5, .fz (.int x.1), sl o7, sl o8, s9, s10, .ow (rd1 ps'), .fz (.int x.2.1), .fz (.int x.2.2), sl o14, .un]) :
    Wp (b_inner [s0, s1, s2, ob b (rd1 sm), sl o4, sl o5, .fz (.int x.1), sl o7, sl o8, s9, s10, .ow (rd1 ps), .fz (.int x.2.1), .fz (.int x.2.2), sl o14, .un]) Q := by
  unfold b_inner
  refine wp_forN (itemsOf (enc sm)) [s0, s1, s2, .fz (rd1 sm), sl o4, sl o5, .fz (.int x.1), sl o7, sl o8, s9, s10, .ow (rd1 ps), .fz (.int x.2.1), .fz (.int x.2.2), sl o14, .un] (by cases b <;> simp [iIt, rd1, ob])
    (fun j en => ∃ ps' o7 o8 o14, en = [s0, s1, s2, .fz (rd1 sm), sl o4, sl o5, .fz (.int x.1), sl o7, sl o8, s9, s10, .ow (rd1 ps'), .fz (.int x.2.1), .fz (.int x.2.2), sl o14, .un] ∧ Okk m ps' ∧ Mins (P ++ prodsAt x (sm.take j)) (look ps'))
    ⟨ps, o7, o8, o14, rfl, ok, by simpa [prodsAt] using mn⟩ ?_ ?_
  · rintro j d en hd ⟨ps', o7, o8, o14, rfl, ok, mn⟩
    obtain ⟨y, hy, rfl⟩ := itemsOf_get hd
    have iy := (oks.inn y (List.mem_of_getElem? hy)).2
    have len := len16 hm ok
    refine ⟨_, by simp [key] <;> rfl, ?_⟩
    rw [take_snoc hy, prodsAt_snoc]
    by_cases h : y.1 = x.2.1
    · rw [if_pos h, ← List.append_assoc]
      have ok' : Okk m (rlx ps' x.1 y.2.1 (x.2.2 + y.2.2)) := ok.store ix iy _
      have mn' := mins_snoc mn x.1 y.2.1 (x.2.2 + y.2.2)
      simp [rd1, h, sPut, kTup, eGet1, wp_ok, lesser_int, len, dGet_enc, fits_enc, dPut_enc, length_enc, tk]
      rw [List.append_assoc] at mn'
      exact ⟨_, rfl, ok', mn'⟩
    · rw [if_neg h]
      simp [rd1, h, wp_ok]
      exact ⟨ps', rfl, ok, mn⟩
  · rintro en ⟨ps', o7, o8, o14, rfl, ok, mn⟩
    rw [itemsOf_len, List.take_length] at mn
    exact k ps' o7 o8 o14 ok mn
theorem ix_last (l : List D) (d : D) : oIx (.list (l ++ [d])) (.int (-1)) = some d := by
  have : L2.ixN (l.length + 1) (-1) = some l.length := by
    simp [L2.ixN] <;> omega
  simp [oIx, L2.atI, this]
def b_outer : ES := sFor (iIt (eOp oIx (eV 9) (eUn oNeg (eC (.int 1))))) (nTup 2 (nCons (nTup 2 (nCons (nName 6) (nCons (nName 12) nNil))) (nCons (nName 13) nNil))) b_inner
theorem outer_ok {m : Nat} (hm : m ≤ 12) {s0 s1 s2 s10 : Sl} {o4 o5 o6 o7 o8 o12 o13 o14 : Option D} {b : Bool} {sm r : Al} {rs : List Al} (oks : Okk m sm) (okr : Okk m r) {Q : Out → En → Prop}
    (k : ∀ b ps o6 o7 o8 o12 o13 o14, Okk m ps → Mins (prods r sm) (look ps) → Q .nx [s0, s1, s2, ob b (rd1 sm), sl o4, sl o5, sl o6, sl o7, sl o8, .ow (.list ((rs ++ [r]).map rd1)), s10, .ow (rd1 ps), sl o12, sl o13, sl o14, .un]) :
    Wp (b_outer [s0, s1, s2, ob b (rd1 sm), sl o4, sl o5, sl o6, sl o7, sl o8, .ow (.list ((rs ++ [r]).map rd1)), s10, .ow (rd1 []), sl o12, sl o13, sl o14, .un]) Q := by
  unfold b_outer
  refine wp_forN (itemsOf (enc r)) [s0, s1, s2, ob b (rd1 sm), sl o4, sl o5, sl o6, sl o7, sl o8, .ow (.list ((rs ++ [r]).map rd1)), s10, .ow (rd1 []), sl o12, sl o13, sl o14, .un] (by cases b <;> simp [iIt, rd1, ob, ix_last])
    (fun j en => ∃ b ps o6 o7 o8 o12 o13 o14, en = [s0, s1, s2, ob b (rd1 sm), sl o4, sl o5, sl o6, sl o7, sl o8, .ow (.list ((rs ++ [r]).map rd1)), s10, .ow (rd1 ps), sl o12, sl o13, sl o14, .un] ∧ Okk m ps ∧ Mins (prods (r.take j) sm) (look ps))
    ⟨b, [], o6, o7, o8, o12, o13, o14, rfl, ⟨by simp, (fun _ h => nomatch h)⟩, mins_nil⟩ ?_ ?_
  · rintro j d en hd ⟨b, ps, o6, o7, o8, o12, o13, o14, rfl, ok, mn⟩
    obtain ⟨x, hx, rfl⟩ := itemsOf_get hd
    have ix := (okr.inn x (List.mem_of_getElem? hx)).1
    refine ⟨_, by simp [key] <;> rfl, ?_⟩
    rw [take_snoc hx, prods_snoc]
    exact inner_ok hm (o4 := o4) (o5 := o5) (o7 := o7) (o8 := o8) (o14 := o14) (b := b) oks ok mn ix fun ps' o7 o8 o14 ok mn => ⟨false, ps', some (.int x.1), o7, o8, some (.int x.2.1), some (.int x.2.2), o14, by rw [List.map_append]; rfl, ok, mn⟩
  · rintro en ⟨b, ps, o6, o7, o8, o12, o13, o14, rfl, ok, mn⟩
    rw [itemsOf_len, List.take_length] at mn
    exact k b ps o6 o7 o8 o12 o13 o14 ok mn
end Clk

set_option Elab.async false
set_option linter.all false
set_option maxRecDepth 20000
namespace Clk
open PySem Fx

theorem IsRows.snoc {m : Nat} {S : List Side} {sm r r' : Al} {rs : List Al} (h : IsRows m S sm (rs ++ [r])) (ok : Okk m r') (mn : Mins (prods r sm) (look r')) : IsRows m S sm (rs ++ [r] ++ [r']) := by
  refine ⟨fun q hq => ?_, h.sok, h.sums, ?_, fun k a b ha hb => ?_⟩
  · rcases List.mem_append.mp hq with hq | hq
    · exact h.ok q hq
    · rw [List.mem_singleton.mp hq]; exact ok
  · rw [List.getElem?_append_left (by simp)]; exact h.first
  · have lb := (List.getElem?_eq_some_iff.mp hb).1
    rw [List.length_append, List.length_append, List.length_singleton, List.length_singleton] at lb
    rw [List.getElem?_append_left (by simp; omega)] at ha
    by_cases z : k + 1 < rs.length + 1
    · rw [List.getElem?_append_left (by simp; omega)] at hb
      exact h.next k a b ha hb
    · have kk : k = rs.length := by omega
      subst kk
      rw [List.getElem?_append_right (Nat.le_refl _), Nat.sub_self] at ha
      rw [List.getElem?_append_right (by simp), show rs.length + 1 - (rs ++ [r]).length = 0 by simp] at hb
      cases ha
      cases hb
      exact mn
theorem isRows_one {m : Nat} {S : List Side} {sm : Al} (ok : Okk m sm) (mn : Mins (S.map tri3) (look sm)) : IsRows m S sm ([] ++ [diag (upI m)]) := by
  refine ⟨fun q hq => ?_, ok, mn, rfl, fun k a b ha hb => ?_⟩
  · rw [List.mem_singleton.mp hq]; exact okk_diag m
  · have := (List.getElem?_eq_some_iff.mp hb).1
    simp at this
def b_lens : ES := sFor (iR1 (aCons (eV 2) aNil)) (nName 10) (sSeq (sSetO 11 oDnew) (sSeq b_outer (sApp (eV 9) (eV 11))))
theorem lens_ok {m n : Nat} (hm : m ≤ 12) (hn : n ≤ 1000) {S : List Side} {s0 s1 : Sl} {o4 o5 o6 o7 o8 o10 o11 o12 o13 o14 : Option D} {b : Bool} {sm r : Al} {rs : List Al} (h0 : IsRows m S sm (rs ++ [r])) (hl : rs.length = 0) {Q : Out → En → Prop}
    (k : ∀ b rs o6 o7 o8 o10 o11 o12 o13 o14, IsRows m S sm rs → rs.length = n + 1 → Q .nx [s0, s1, .fz (.int (n : Int)), ob b (rd1 sm), sl o4, sl o5, sl o6, sl o7, sl o8, .ow (.list (rs.map rd1)), sl o10, sl o11, sl o12, sl o13, sl o14, .un]) :
    Wp (b_lens [s0, s1, .fz (.int (n : Int)), ob b (rd1 sm), sl o4, sl o5, sl o6, sl o7, sl o8, .ow (.list ((rs ++ [r]).map rd1)), sl o10, sl o11, sl o12, sl o13, sl o14, .un]) Q := by
  unfold b_lens
  refine wp_forN ((upI n).map PyData.int) [s0, s1, .fz (.int (n : Int)), ob b (rd1 sm), sl o4, sl o5, sl o6, sl o7, sl o8, .ow (.list ((rs ++ [r]).map rd1)), sl o10, sl o11, sl o12, sl o13, sl o14, .un] (iR1_nat (by omega) (by simp))
    (fun c en => ∃ b rs r o6 o7 o8 o10 o11 o12 o13 o14, en = [s0, s1, .fz (.int (n : Int)), ob b (rd1 sm), sl o4, sl o5, sl o6, sl o7, sl o8, .ow (.list ((rs ++ [r]).map rd1)), sl o10, sl o11, sl o12, sl o13, sl o14, .un] ∧ IsRows m S sm (rs ++ [r]) ∧ rs.length = c)
    ⟨b, rs, r, o6, o7, o8, o10, o11, o12, o13, o14, rfl, h0, hl⟩ ?_ ?_
  · rintro c d en hd ⟨b, rs, r, o6, o7, o8, o10, o11, o12, o13, o14, rfl, h, hl⟩
    obtain ⟨hc, rfl⟩ := upI_at hd
    refine ⟨_, by simp <;> rfl, ?_⟩
    refine wp_nx (en' := [s0, s1, .fz (.int (n : Int)), ob b (rd1 sm), sl o4, sl o5, sl o6, sl o7, sl o8, .ow (.list ((rs ++ [r]).map rd1)), .fz (.int c), .ow (rd1 []), sl o12, sl o13, sl o14, .un]) ?_ ?_
    · simp [oDnew, rd1, enc]
    refine wp_seq ?_
    refine outer_ok hm (o4 := o4) (o5 := o5) (o6 := o6) (o7 := o7) (o8 := o8) (o12 := o12) (o13 := o13) (o14 := o14) h.sok (h.ok r (by simp)) fun b ps o6 o7 o8 o12 o13 o14 ok mn => ?_
    have len : rs.length + 1 < 65536 := by omega
    have n' := h.snoc ok mn
    have ap : sApp (eV 9) (eV 11) [s0, s1, .fz (.int (n : Int)), ob b (rd1 sm), sl o4, sl o5, sl o6, sl o7, sl o8, .ow (.list ((rs ++ [r]).map rd1)), .fz (.int c), .ow (rd1 ps), sl o12, sl o13, sl o14, .un]
        = .ok .nx [s0, s1, .fz (.int (n : Int)), ob b (rd1 sm), sl o4, sl o5, sl o6, sl o7, sl o8, .ow (.list ((rs ++ [r] ++ [ps]).map rd1)), sl (some (.int c)), sl (some (rd1 ps)), sl o12, sl o13, sl o14, .un] := by
      simp [sApp, rd1, len]
      exact ⟨rfl, rfl⟩
    rw [ap, wp_ok]
    exact ⟨b, rs ++ [r], ps, o6, o7, o8, some (.int c), some (rd1 ps), o12, o13, o14, rfl, n', by simp [hl]⟩
  · rintro en ⟨b, rs, r, o6, o7, o8, o10, o11, o12, o13, o14, rfl, h, hl⟩
    rw [List.length_map, upI_len] at hl
    exact k b _ o6 o7 o8 o10 o11 o12 o13 o14 h (by simp [hl])
theorem oLst1 {f : EO} {en en1 : En} {d : D} (h : f en = .ok d en1) : oLst (aCons (ofO f) aNil) en = .ok (.list [d]) en1 := by
  simp [h]
theorem body_sums : b_sums_by_length = (sSeq (sSetO 3 oDnew)
    (sSeq (sFor (iSeq (eV 1)) (nTup 5 (nCons (nName 4) (nCons (nName 5) (nCons (nName 6) (nCons (nName 7) (nCons (nName 8) nNil)))))) (sPut (eV 3) (kTup (aCons (eV 6) (aCons (eV 7) aNil))) (eCall [false, false] f_lesser (aCons (eGet1 (eV 3) (eTup (aCons (eV 6) (aCons (eV 7) aNil)))) (aCons (eV 8) aNil)))))
    (sSeq (sSetO 9 (oLst (aCons (ofO (oDc (iR1 (aCons (eV 0) aNil)) (nName 15) cYes (kTup (aCons (eV 15) (aCons (eV 15) aNil))) (eC (.int 0)) [15])) aNil)))
    (sSeq b_lens (sRet (eV 9)))))) := by
  unfold b_sums_by_length b_lens b_outer b_inner
  rfl
theorem sums_main {m n : Nat} (hm : m ≤ 12) (hn : m = n + 1) {S : List Side} {p : Int → Int} (o : Sound m S p) :
   Wp (b_sums_by_length [.fz (.int (m : Int)), .fz (.list (S.map sd)), .fz (.int n), .un, .un, .un, .un, .un, .un, .un, .un, .un, .un, .un, .un, .un]) fun o en => ∃ d, o = .rt d ∧ (∃ sm rs, d = .list (rs.map rd1) ∧ IsRows m S sm rs ∧ rs.length = m) ∧ outsOf [false, false, false] 0 en = some [] := by
    have h16 : m ≤ 65536 := by omega
    rw [body_sums]
    refine wp_nx (en' := [.fz (.int (m : Int)), .fz (.list (S.map sd)), .fz (.int n), .ow (.dict (enc [])), .un, .un, .un, .un, .un, .un, .un, .un, .un, .un, .un, .un]) (by simp [oDnew, enc]) ?_
    refine sums_sides hm o rfl fun sm o4 o5 o6 o7 o8 ok mn => ?_
    have b0 : iR1 (aCons (eV 0) aNil) [.fz (.int (m : Int)), .fz (.list (S.map sd)), .fz (.int n), .ow (.dict (enc sm)), sl o4, sl o5, sl o6, sl o7, sl o8, .un, .un, .un, .un, .un, .un, .un] = .ok ((upI m).map PyData.int) [.fz (.int (m : Int)), .fz (.list (S.map sd)), .fz (.int n), .ow (.dict (enc sm)), sl o4, sl o5, sl o6, sl o7, sl o8, .un, .un, .un, .un, .un, .un, .un] := iR1_nat h16 (by simp)
    have q : oDc (iR1 (aCons (eV 0) aNil)) (nName 15) cYes (kTup (aCons (eV 15) (aCons (eV 15) aNil))) (eC (.int 0)) [15] [.fz (.int (m : Int)), .fz (.list (S.map sd)), .fz (.int n), .ow (.dict (enc sm)), sl o4, sl o5, sl o6, sl o7, sl o8, .un, .un, .un, .un, .un, .un, .un] = .ok (.dict (enc (diag (upI m)))) [.fz (.int (m : Int)), .fz (.list (S.map sd)), .fz (.int n), .ow (.dict (enc sm)), sl o4, sl o5, sl o6, sl o7, sl o8, .un, .un, .un, .un, .un, .un, .un] :=
      oDc_diag h16 b0 rfl rfl fun a => ⟨[.fz (.int (m : Int)), .fz (.list (S.map sd)), .fz (.int n), .ow (.dict (enc sm)), sl o4, sl o5, sl o6, sl o7, sl o8, .un, .un, .un, .un, .un, .un, .fz (.int a)], by simp, by simp [kTup, key], by simp, rfl⟩
    generalize oDc (iR1 (aCons (eV 0) aNil)) (nName 15) cYes (kTup (aCons (eV 15) (aCons (eV 15) aNil))) (eC (.int 0)) [15] = dc at q
    refine wp_nx (en' := [.fz (.int (m : Int)), .fz (.list (S.map sd)), .fz (.int n), ob true (rd1 sm), sl o4, sl o5, sl o6, sl o7, sl o8, .ow (.list ((([] : List Al) ++ [diag (upI m)]).map rd1)), sl none, sl none, sl none, sl none, sl none, .un]) ?_ ?_
    · exact setO_eq (oLst1 q) (by simp) (by simp [sl, ob, rd1])
    refine wp_seq ?_
    refine lens_ok (n := n) hm (by omega) (o4 := o4) (o5 := o5) (o6 := o6) (o7 := o7) (o8 := o8) (o10 := none) (o11 := none) (o12 := none) (o13 := none) (o14 := none) (b := true) (rs := []) (isRows_one ok mn) rfl fun b rs o6 o7 o8 o10 o11 o12 o13 o14 h hl => ?_
    rw [sRet_wp (d := .list (rs.map rd1)) (en' := [.fz (.int (m : Int)), .fz (.list (S.map sd)), .fz (.int n), ob b (rd1 sm), sl o4, sl o5, sl o6, sl o7, sl o8, .fz (.list (rs.map rd1)), sl o10, sl o11, sl o12, sl o13, sl o14, .un])]
    · exact ⟨_, rfl, ⟨sm, rs, rfl, h, by omega⟩, rfl⟩
    · simp
theorem sums_ok {m : Nat} (hm : m ≤ 12) (h1 : 1 ≤ m) {S : List Side} {p : Int → Int} (o : Sound m S p) :
    ∃ sm rs, f_sums_by_length [.int m, .list (S.map sd), .int ((m : Int) - 1)] = .ok (.list (rs.map rd1)) [] ∧ IsRows m S sm rs ∧ rs.length = m := by
  have h16 : m ≤ 65536 := by omega
  obtain ⟨n, hn⟩ : ∃ n, m = n + 1 := ⟨m - 1, by omega⟩
  rw [show ((m : Int) - 1) = (n : Int) by omega]
  have main := sums_main (n := n) hm hn o
  obtain ⟨d, e, ⟨sm, rs, rfl, h1, h2⟩⟩ := fn_wpE (io := [false, false, false]) (ds := [.int (m : Int), .list (S.map sd), .int n]) (n := 16) (outs := []) main
  exact ⟨sm, rs, e, h1, h2⟩
end Clk

set_option Elab.async false
set_option linter.all false
set_option maxRecDepth 20000
namespace Clk
open PySem Fx

def wd (s : Side) : D := .tuple [.int s.n, word s.l]
theorem ix_nat {l : List D} {k : Nat} {d : D} (h : l[k]? = some d) : oIx (.list l) (.int (k : Int)) = some d := by
  have hk := (List.getElem?_eq_some_iff.mp h).1
  have : L2.ixN l.length (k : Int) = some k := by
    simp [L2.ixN] <;> omega
  simp [oIx, L2.atI, this, h]
def b_pick : ES := sFor (iSeq (eV 0)) (nTup 5 (nCons (nName 10) (nCons (nName 11) (nCons (nName 12) (nCons (nName 13) (nCons (nName 14) nNil)))))) (sSeq (sAsg (eGet1 (eOp oIx (eV 1) (eV 9)) (eTup (aCons (eV 13) (aCons (eV 3) aNil)))) (nName 15))
    (sIf (cAnd (cB (eOp oEq (eV 12) (eV 7))) (cAnd (cB (eOp oNotN (eV 15) (eC .none))) (cB (eOp oLe (eOp oAdd (eV 14) (eV 15)) (eV 8))))) (sSeq (sApp (eV 6) (eTup (aCons (eV 10) (aCons (eV 11) aNil))))
    (sSeq (sPar 7 8 (mConsF (eV 13) (mConsF (eOp oSub (eV 8) (eV 14)) mNil)))
    sBk)) sNx))
theorem pick_ok {S : List Side} {s2 s4 s5 : Sl} {rs : List Al} {r : Al} {k : Nat} {t here left : Int} {cs : List D} {o10 o11 o12 o13 o14 o15 : Option D} (hr : rs[k]? = some r) (hc : cs.length < 65536) {Q : Out → En → Prop}
    (q : ∀ h l cs' o10 o11 o12 o13 o14 o15, (h, l, cs') = (match S.find? (okSide (tabs rs) t k here left) with
      | some s => (s.e, left - s.w, cs ++ [wd s])
      | none => (here, left, cs)) → Q .nx [.fz (.list (S.map sd)), .fz (.list (rs.map rd1)), s2, .fz (.int t), s4, s5, .ow (.list cs'), .fz (.int h), .fz (.int l), .fz (.int (k : Int)), sl o10, sl o11, sl o12, sl o13, sl o14, sl o15]) :
    Wp (b_pick [.fz (.list (S.map sd)), .fz (.list (rs.map rd1)), s2, .fz (.int t), s4, s5, .ow (.list cs), .fz (.int here), .fz (.int left), .fz (.int (k : Int)), sl o10, sl o11, sl o12, sl o13, sl o14, sl o15]) Q := by
  have hr' : oIx (.list (rs.map rd1)) (.int (k : Int)) = some (rd1 r) := ix_nat (by rw [List.getElem?_map, hr]; rfl)
  have tab : tabs rs k = look r := by unfold tabs; rw [hr]
  unfold b_pick
  refine wp_forN (S.map sd) [.fz (.list (S.map sd)), .fz (.list (rs.map rd1)), s2, .fz (.int t), s4, s5, .ow (.list cs), .fz (.int here), .fz (.int left), .fz (.int (k : Int)), sl o10, sl o11, sl o12, sl o13, sl o14, sl o15] (by simp [iSeq])
    (fun i en => ∃ o10 o11 o12 o13 o14 o15, en = [.fz (.list (S.map sd)), .fz (.list (rs.map rd1)), s2, .fz (.int t), s4, s5, .ow (.list cs), .fz (.int here), .fz (.int left), .fz (.int (k : Int)), sl o10, sl o11, sl o12, sl o13, sl o14, sl o15] ∧ (S.take i).find? (okSide (tabs rs) t k here left) = none)
    ⟨o10, o11, o12, o13, o14, o15, rfl, rfl⟩ ?_ ?_
  · rintro i d en hd ⟨o10, o11, o12, o13, o14, o15, rfl, no⟩
    rw [List.getElem?_map] at hd
    obtain ⟨s, hs, rfl⟩ := Option.map_eq_some_iff.mp hd
    refine ⟨_, by simp [sd] <;> rfl, ?_⟩
    refine wp_nx (en' := [.fz (.list (S.map sd)), .fz (.list (rs.map rd1)), s2, .fz (.int t), s4, s5, .ow (.list cs), .fz (.int here), .fz (.int left), .fz (.int (k : Int)), .fz (.int s.n), .fz (word s.l), .fz (.int s.b), .fz (.int s.e), .fz (.int s.w), .fz (oi (look r s.e t))]) ?_ ?_
    · simp [eGet1, hr', rd1, fits_enc, dGet_enc, tk]
    · have snoc : (S.take (i + 1)).find? (okSide (tabs rs) t k here left) = if okSide (tabs rs) t k here left s = true then some s else none := by
        rw [take_snoc hs, List.find?_append, no, List.find?_cons]
        cases okSide (tabs rs) t k here left s <;> rfl
      by_cases ok : okSide (tabs rs) t k here left s = true
      · obtain ⟨e1, x, e2, e3⟩ := okSide_iff.mp ok
        rw [tab] at e2
        have whole : S.find? (okSide (tabs rs) t k here left) = some s := by
          rw [← List.take_append_drop (i + 1) S, List.find?_append, snoc, if_pos ok]; rfl
        have fin := q s.e (left - s.w) (cs ++ [wd s]) (some (.int s.n)) (some (word s.l)) (some (.int here)) (some (.int s.e)) (some (.int s.w)) (some (.int x)) (by rw [whole])
        simp [e2, oi_some, e1, e3, sApp, hc, wp_ok]
        exact fin
      · rw [if_neg ok] at snoc
        have nok : ¬ (s.b = here ∧ ∃ x, look r s.e t = some x ∧ s.w + x ≤ left) := fun z => ok (okSide_iff.mpr ⟨z.1, by rw [tab]; exact z.2⟩)
        have same : ∀ o : D, (∃ o10 o11 o12 o13 o14 o15, ([.fz (.list (S.map sd)), .fz (.list (rs.map rd1)), s2, .fz (.int t), s4, s5, .ow (.list cs), .fz (.int here), .fz (.int left), .fz (.int (k : Int)), .fz (.int s.n), .fz (word s.l), .fz (.int s.b), .fz (.int s.e), .fz (.int s.w), .fz o] : En) = [.fz (.list (S.map sd)), .fz (.list (rs.map rd1)), s2, .fz (.int t), s4, s5, .ow (.list cs), .fz (.int here), .fz (.int left), .fz (.int (k : Int)), sl o10, sl o11, sl o12, sl o13, sl o14, sl o15] ∧ (S.take (i + 1)).find? (okSide (tabs rs) t k here left) = none) := fun o =>
          ⟨some (.int s.n), some (word s.l), some (.int s.b), some (.int s.e), some (.int s.w), some o, rfl, snoc⟩
        have skip : (cAnd (cB (eOp oEq (eV 12) (eV 7))) (cAnd (cB (eOp oNotN (eV 15) (eC .none))) (cB (eOp oLe (eOp oAdd (eV 14) (eV 15)) (eV 8))))) [.fz (.list (S.map sd)), .fz (.list (rs.map rd1)), s2, .fz (.int t), s4, s5, .ow (.list cs), .fz (.int here), .fz (.int left), .fz (.int (k : Int)), .fz (.int s.n), .fz (word s.l), .fz (.int s.b), .fz (.int s.e), .fz (.int s.w), .fz (oi (look r s.e t))] = .ok false [.fz (.list (S.map sd)), .fz (.list (rs.map rd1)), s2, .fz (.int t), s4, s5, .ow (.list cs), .fz (.int here), .fz (.int left), .fz (.int (k : Int)), .fz (.int s.n), .fz (word s.l), .fz (.int s.b), .fz (.int s.e), .fz (.int s.w), .fz (oi (look r s.e t))] := by
          by_cases h : s.b = here
          · cases e : look r s.e t with
            | none => simp [h, oi_none]
            | some x =>
              have : ¬ (s.w + x ≤ left) := fun z => nok ⟨h, x, e, z⟩
              simp [h, oi_some, this]
          · simp [h]
        refine wp_ifF skip ?_
        simp only [wp_ok, sNx]
        exact same _
  · rintro en ⟨o10, o11, o12, o13, o14, o15, rfl, no⟩
    rw [List.length_map, List.take_length] at no
    exact q here left cs o10 o11 o12 o13 o14 o15 (by rw [no])
end Clk

set_option Elab.async false
set_option linter.all false
set_option maxRecDepth 20000
namespace Clk
open PySem Fx

theorem rngDown_get {k i : Nat} {d : D} (h : (rngDown ((k : Int) - 1) (-1))[i]? = some d) : ∃ j, k = i + j + 1 ∧ d = .int (j : Int) := by
  unfold rngDown at h
  rw [List.getElem?_map] at h
  obtain ⟨x, h1, h2⟩ := Option.map_eq_some_iff.mp h
  obtain ⟨h3, h4⟩ := List.getElem?_eq_some_iff.mp h1
  rw [List.getElem_range] at h4
  rw [List.length_range] at h3
  subst h4
  refine ⟨k - 1 - i, by omega, ?_⟩
  rw [← h2]
  show PyData.int _ = PyData.int _
  congr 1
  omega
theorem rngDown_len (k : Nat) : (rngDown ((k : Int) - 1) (-1)).length = k := by
  unfold rngDown
  rw [List.length_map, List.length_range]
  omega
def b_down : ES := sFor (iR3 (aCons (eOp oSub (eV 4) (eC (.int 1))) (aCons (eUn oNeg (eC (.int 1))) (aCons (eUn oNeg (eC (.int 1))) aNil)))) (nName 9) b_pick
theorem down_ok {S : List Side} {s2 s5 : Sl} {rs : List Al} {k : Nat} {t here left : Int} (hk : k < rs.length) (h5 : k < 60000) {Q : Out → En → Prop}
    (q : ∀ h l o9 o10 o11 o12 o13 o14 o15, Q .nx [.fz (.list (S.map sd)), .fz (.list (rs.map rd1)), s2, .fz (.int t), .fz (.int (k : Int)), s5, .ow (.list ((chain S (tabs rs) t k here left).map wd)), .fz (.int h), .fz (.int l), sl o9, sl o10, sl o11, sl o12, sl o13, sl o14, sl o15]) :
    Wp (b_down [.fz (.list (S.map sd)), .fz (.list (rs.map rd1)), s2, .fz (.int t), .fz (.int (k : Int)), s5, .ow (.list []), .fz (.int here), .fz (.int left), .un, .un, .un, .un, .un, .un, .un]) Q := by
  unfold b_down
  have r1 : inRange ((k : Int) - 1) = true := by
    unfold inRange
    rw [decide_eq_true (by omega), decide_eq_true (by omega)]
    rfl
  refine wp_forN (rngDown ((k : Int) - 1) (-1)) [.fz (.list (S.map sd)), .fz (.list (rs.map rd1)), s2, .fz (.int t), .fz (.int (k : Int)), s5, .ow (.list []), .fz (.int here), .fz (.int left), .un, .un, .un, .un, .un, .un, .un] (by simp [iR3, r1]; decide)
    (fun i en => ∃ h l pre o9 o10 o11 o12 o13 o14 o15, en = [.fz (.list (S.map sd)), .fz (.list (rs.map rd1)), s2, .fz (.int t), .fz (.int (k : Int)), s5, .ow (.list (pre.map wd)), .fz (.int h), .fz (.int l), sl o9, sl o10, sl o11, sl o12, sl o13, sl o14, sl o15] ∧ pre.length ≤ i ∧ chain S (tabs rs) t k here left = pre ++ chain S (tabs rs) t (k - i) h l)
    ⟨here, left, [], none, none, none, none, none, none, none, rfl, Nat.le_refl _, rfl⟩ ?_ ?_
  · rintro i d en hd ⟨h, l, pre, o9, o10, o11, o12, o13, o14, o15, rfl, hl, hc⟩
    obtain ⟨j, e, rfl⟩ := rngDown_get hd
    obtain ⟨r, hr⟩ : ∃ r, rs[j]? = some r := ⟨rs[j], List.getElem?_eq_getElem (by omega)⟩
    refine ⟨_, by simp <;> rfl, ?_⟩
    refine pick_ok (o10 := o10) (o11 := o11) (o12 := o12) (o13 := o13) (o14 := o14) (o15 := o15) hr (by rw [List.length_map]; omega) fun h' l' cs' o10 o11 o12 o13 o14 o15 z => ?_
    rw [show k - i = j + 1 by omega, chain] at hc
    have e2 : k - (i + 1) = j := by omega
    cases hf : S.find? (okSide (tabs rs) t j h l) with
    | none =>
      rw [hf] at z hc
      cases z
      exact ⟨h, l, pre, some (.int j), o10, o11, o12, o13, o14, o15, rfl, by omega, by rw [e2]; exact hc⟩
    | some s =>
      rw [hf] at z hc
      cases z
      exact ⟨s.e, l - s.w, pre ++ [s], some (.int j), o10, o11, o12, o13, o14, o15, by rw [List.map_append]; rfl, by simp; omega, by rw [e2, List.append_assoc]; exact hc⟩
  · rintro en ⟨h, l, pre, o9, o10, o11, o12, o13, o14, o15, rfl, hl, hc⟩
    rw [rngDown_len, Nat.sub_self, chain, List.append_nil] at hc
    rw [← hc]
    exact q h l o9 o10 o11 o12 o13 o14 o15
theorem body_chain : b_chain_of = (sSeq (sPar3 6 7 8 (mConsO (oLst aNil) (mConsF (eV 2) (mConsF (eV 5) mNil)))) (sSeq b_down (sRet (eUn oTuple (eV 6))))) := by
  unfold b_chain_of b_down b_pick
  rfl
theorem chain_of_ok {S : List Side} {rs : List Al} {k : Nat} {a t v : Int} (hk : k < rs.length) (h5 : k < 60000) :
    f_chain_of [.list (S.map sd), .list (rs.map rd1), .int a, .int t, .int (k : Int), .int v] = .ok (.tuple ((chain S (tabs rs) t k a v).map wd)) [] := by
  unfold f_chain_of
  refine fn_wp ?_
  simp only [enOf, List.length_cons, List.length_nil, List.replicate, List.append, List.cons_append, List.nil_append]
  rw [body_chain]
  refine wp_nx (en' := [.fz (.list (S.map sd)), .fz (.list (rs.map rd1)), .fz (.int a), .fz (.int t), .fz (.int (k : Int)), .fz (.int v), .ow (.list []), .fz (.int a), .fz (.int v), .un, .un, .un, .un, .un, .un, .un]) (by simp) ?_
  refine wp_seq ?_
  refine down_ok hk h5 fun h l o9 o10 o11 o12 o13 o14 o15 => ?_
  simp [wp_ok]
end Clk

set_option Elab.async false
set_option linter.all false
set_option maxRecDepth 20000
/-! the drawing of numbers that all laws have: one text, the law's numbers being parameters -/
namespace Pot
open PySem Fx
def gTake (c1 c2 c3 c4 c5 : Int) : ES := (sSeq (sIf (cB (eOp oGt (eOp oIx (eV 0) (eC (.int 0))) (eC (.int 0)))) (sSeq (sAsg (eOp oMod (eUn oInt (eOp oIx (eV 0) (eC (.int 0)))) (eV 1)) (nName 2))
    (sSeq (sSetI (eV 0) (eC (.int 0)) (eOp oDiv (eOp oIx (eV 0) (eC (.int 0))) (eV 1)))
    (sRet (eV 2)))) sNx)
    (sSeq (sSetI (eV 0) (eC (.int 2)) (eOp oAdd (eOp oIx (eV 0) (eC (.int 2))) (eC (.int 1))))
    (sSeq (sAsg (eOp oIx (ofO (oLst (aCons (eC (.int 2147483647)) (aCons (eC (.int 2147483629)) (aCons (eC (.int 2147483587)) (aCons (eC (.int 2147483579)) (aCons (eC (.int 2147483563)) aNil))))))) (eOp oMod (eUn oInt (eOp oIx (eV 0) (eC (.int 2)))) (eC (.int 5)))) (nName 3))
    (sSeq (sAsg (eOp oMod (eUn oInt (eOp oPow (eUn oInt (eOp oAdd (eOp oAdd (eOp oIx (eV 0) (eC (.int 1))) (eOp oMul (eOp oMul (eC (.int c1)) (eOp oIx (eV 0) (eC (.int 2)))) (eOp oIx (eV 0) (eC (.int 2))))) (eC (.int c2)))) (eC (.int 3)))) (eV 3)) (nName 4))
    (sRet (eOp oMod (eUn oInt (eOp oDiv (eOp oMul (eV 4) (eOp oAdd (eOp oMod (eUn oInt (eV 4)) (eC (.int c3))) (eOp oMul (eC (.int c4)) (eOp oIx (eV 0) (eC (.int 2)))))) (eC (.int c5)))) (eV 1)))))))
def gPot (a b c d e : Int) : ES := (sSeq (sAsg (eIf (cB (eOp oLt (eV 1) (eUn oLen (eV 0)))) (eOp oIx (eV 0) (eV 1)) (eOp oAdd (eOp oAdd (eOp oMod (eUn oInt (eUn oSum (ofO (oSl (eV 0) pNo (pSo (eC (.int 1))))))) (eC (.int 1000003))) (eOp oMul (eC (.int a)) (eV 1))) (eC (.int b)))) (nName 2))
    (sSeq (sAsg (eOp oMul (eOp oMod (eUn oInt (eUn oAbs (eV 2))) (eOp oPow (eOp oPow (eC (.int 10)) (eC (.int 60))) (eC (.int 5)))) (eUn oInt (eOp oGe (eUn oAbs (eV 2)) (eOp oPow (eC (.int 10)) (eC (.int 18)))))) (nName 3))
    (sSeq (sAsg (eOp oMod (eUn oInt (eV 2)) (eC (.int 2305843009213693951))) (nName 4))
    (sRetO (oLst (aCons (eV 3) (aCons (eOp oMod (eUn oInt (eOp oAdd (eOp oAdd (eOp oMul (eV 4) (eC (.int c))) (eOp oMul (eOp oMul (eC (.int d)) (eV 1)) (eV 1))) (eC (.int e)))) (eC (.int 2305843009213693921))) (aCons (eC (.int 0)) aNil))))))))
/-- a pot of which n more numbers may be drawn -/
def Ok (n : Nat) (p : D) : Prop := ∃ a b c : Int, p = .list [.int a, .int b, .int c] ∧ 0 ≤ a ∧ 0 ≤ b ∧ b < 2305843009213693951 ∧ 0 ≤ c ∧ c + n ≤ 100000
theorem Ok.less {n m : Nat} {p : D} (h : Ok n p) (k : m ≤ n) : Ok m p := by
  obtain ⟨a, b, c, rfl, h1, h2, h3, h4, h5⟩ := h
  exact ⟨a, b, c, rfl, h1, h2, h3, h4, by omega⟩
theorem mulOk_l {i j : Int} (h : i.natAbs < 18446744073709551616) : mulOk i j = true := by
  unfold mulOk
  rw [decide_eq_true (show i.natAbs < 2 ^ 64 by omega)]
  rfl
theorem mulOk_r {i j : Int} (h : j.natAbs < 18446744073709551616) : mulOk i j = true := by
  unfold mulOk
  rw [decide_eq_true (show j.natAbs < 2 ^ 64 by omega), Bool.or_true]
  rfl
theorem powOk3 {i : Int} (h : i.natAbs < 1267650600228229401496703205376) : powOk i 3 = true := by
  unfold powOk
  have : Builtin.Int.intBits i ≤ 100 := intBits_le_iff.mpr (by omega)
  rw [decide_eq_true]
  refine ⟨by omega, ?_⟩
  have : ((Builtin.Int.intBits i : Nat) : Int) ≤ 100 := by omega
  have e : (2 : Int) ^ 27 = 134217728 := by decide
  rw [e]
  omega
theorem fmod_rng {x u : Int} (h : 0 < u) : 0 ≤ x.fmod u ∧ x.fmod u < u := ⟨Int.fmod_nonneg_of_pos x h, Int.fmod_lt_of_pos x h⟩
theorem fdiv_rng {x u : Int} (h : 0 < u) (hx : 0 ≤ x) : 0 ≤ x.fdiv u := Int.fdiv_nonneg hx (by omega)
theorem ix0 {a b c : Int} : oIx (.list [.int a, .int b, .int c]) (.int 0) = some (.int a) := rfl
theorem ix1 {a b c : Int} : oIx (.list [.int a, .int b, .int c]) (.int 1) = some (.int b) := rfl
theorem ix2 {a b c : Int} : oIx (.list [.int a, .int b, .int c]) (.int 2) = some (.int c) := rfl
theorem prime {r : Int} (h : 0 ≤ r) (h' : r < 5) : ∃ p, oIx (.list [.int 2147483647, .int 2147483629, .int 2147483587, .int 2147483579, .int 2147483563]) (.int r) = some (.int p) ∧ 0 < p ∧ p < 2147483648 := by
  have : r = 0 ∨ r = 1 ∨ r = 2 ∨ r = 3 ∨ r = 4 := by omega
  rcases this with rfl | rfl | rfl | rfl | rfl
  · exact ⟨_, rfl, by omega, by omega⟩
  · exact ⟨_, rfl, by omega, by omega⟩
  · exact ⟨_, rfl, by omega, by omega⟩
  · exact ⟨_, rfl, by omega, by omega⟩
  · exact ⟨_, rfl, by omega, by omega⟩
theorem oMod_int {x u : Int} (h : 0 < u) : oMod (.int x) (.int u) = some (.int (x.fmod u)) := by
  have : u ≠ 0 := by omega
  simp [oMod, iOp, this]
theorem oDiv_int {x u : Int} (h : 0 < u) (h' : u < 1073741824) : oDiv (.int x) (.int u) = some (.int (x.fdiv u)) := by
  have : u ≠ 0 := by omega
  have h2 : u.natAbs < 1073741824 := by omega
  simp [oDiv, iOp, this, h2]
theorem oMul_int {x u : Int} (h : mulOk x u = true) : oMul (.int x) (.int u) = some (.int (x * u)) := by
  simp [oMul, iOp, h]
theorem oPow3 {x : Int} (h : powOk x 3 = true) : oPow (.int x) (.int 3) = some (.int (x ^ 3)) := by
  simp [oPow, iOp, h]
theorem sq_le {c : Int} (h : 0 ≤ c) (h' : c ≤ 100000) {k : Int} (hk : 0 ≤ k) (hk' : k ≤ 10000000) : 0 ≤ k * c ∧ k * c ≤ 1000000000000 ∧ 0 ≤ k * c * c ∧ k * c * c ≤ 100000000000000000 := by
  have a1 : 0 ≤ k * c := Int.mul_nonneg hk h
  have a2 : k * c ≤ 10000000 * 100000 := Int.mul_le_mul hk' h' h (by omega)
  have a3 : 0 ≤ k * c * c := Int.mul_nonneg a1 h
  have a4 : k * c * c ≤ 1000000000000 * 100000 := Int.mul_le_mul (by omega) h' h (by omega)
  omega
theorem take_ok {c1 c2 c3 c4 c5 : Int} (k1 : 0 ≤ c1 ∧ c1 ≤ 10000000) (k2 : 0 ≤ c2 ∧ c2 ≤ 10000000) (k3 : 0 < c3 ∧ c3 ≤ 10000000) (k4 : 0 ≤ c4 ∧ c4 ≤ 10000000) (k5 : 0 < c5 ∧ c5 ≤ 10000000)
    {n : Nat} {pot : D} (h : Ok (n + 1) pot) {u : Int} (hu : 0 < u) (hu' : u < 1073741824) :
    ∃ v pot', noer (fnOf [true, false] 5 (gTake c1 c2 c3 c4 c5)) [pot, .int u] = .ok (.int v) [pot'] ∧ 0 ≤ v ∧ v < u ∧ Ok n pot' := by
  obtain ⟨a, b, c, rfl, ha, hb, hb', hc, hc'⟩ := h
  by_cases h0 : 0 < a
  · refine ⟨a.fmod u, .list [.int (a.fdiv u), .int b, .int c], ?_, (fmod_rng hu).1, (fmod_rng hu).2, a.fdiv u, b, c, rfl, fdiv_rng hu ha, hb, hb', hc, by omega⟩
    refine fn_wp ?_
    unfold gTake
    simp [wp_ok, sSetI, L2.ixN, ix0, ix1, ix2, h0, oMod_int hu, oDiv_int hu hu']
  · have ia : a = 0 := by omega
    subst ia
    obtain ⟨p, hp, p0, p1⟩ := prime (fmod_rng (x := c + 1) (u := 5) (by omega)).1 (fmod_rng (x := c + 1) (u := 5) (by omega)).2
    obtain ⟨s1, s2, s3, s4⟩ := sq_le (c := c + 1) (by omega) (by omega) k1.1 k1.2
    obtain ⟨t1, t2, _, _⟩ := sq_le (c := c + 1) (by omega) (by omega) k4.1 k4.2
    have q1 := fmod_rng (x := (b + c1 * (c + 1) * (c + 1) + c2) ^ 3) p0
    refine ⟨((((b + c1 * (c + 1) * (c + 1) + c2) ^ 3).fmod p * ((((b + c1 * (c + 1) * (c + 1) + c2) ^ 3).fmod p).fmod c3 + c4 * (c + 1))).fdiv c5).fmod u, .list [.int 0, .int b, .int (c + 1)], ?_, (fmod_rng hu).1, (fmod_rng hu).2, 0, b, c + 1, rfl, by omega, hb, hb', by omega, by omega⟩
    refine fn_wp ?_
    unfold gTake
    simp [wp_ok, sSetI, L2.ixN, ix0, ix1, ix2, oMod_int hu, oMod_int (u := 5) (by omega), hp, oMul_int (x := c1) (u := c + 1) (mulOk_l (by omega)), oMul_int (x := c1 * (c + 1)) (u := c + 1) (mulOk_l (by omega)),
      oPow3 (powOk3 (i := b + c1 * (c + 1) * (c + 1) + c2) (by omega)), oMod_int p0, oMod_int k3.1, oMul_int (x := c4) (u := c + 1) (mulOk_l (by omega)),
      oMul_int (x := ((b + c1 * (c + 1) * (c + 1) + c2) ^ 3).fmod p) (u := (((b + c1 * (c + 1) * (c + 1) + c2) ^ 3).fmod p).fmod c3 + c4 * (c + 1)) (mulOk_l (by omega)), oDiv_int k5.1 (show c5 < 1073741824 by omega)]
theorem pw60 : oPow (.int 10) (.int 60) = some (.int (10 ^ 60)) := by
  have h : powOk 10 60 = true := by decide +kernel
  simp [oPow, iOp, h]
theorem pw300 : oPow (.int (10 ^ 60)) (.int 5) = some (.int ((10 ^ 60) ^ 5)) := by
  have h : powOk (10 ^ 60) 5 = true := by decide +kernel
  simp only [oPow, iOp, h, if_true]
  rfl
theorem pw18 : oPow (.int 10) (.int 18) = some (.int (10 ^ 18)) := by
  have h : powOk 10 18 = true := by decide +kernel
  simp [oPow, iOp, h]
theorem ints_map : ∀ ns : List Int, intsD (ns.map PyData.int) = some ns
  | [] => rfl
  | n :: ns => by rw [List.map_cons, intsD, ints_map ns]; rfl
theorem cell_ok {a b : Int} {ns : List Int} (k1 : 0 ≤ a ∧ a ≤ 10000000) (hl : ns.length ≤ 63) {i : Nat} (hi : i ≤ 100) : ∃ x : Int, sAsg (eIf (cB (eOp oLt (eV 1) (eUn oLen (eV 0)))) (eOp oIx (eV 0) (eV 1)) (eOp oAdd (eOp oAdd (eOp oMod (eUn oInt (eUn oSum (ofO (oSl (eV 0) pNo (pSo (eC (.int 1))))))) (eC (.int 1000003))) (eOp oMul (eC (.int a)) (eV 1))) (eC (.int b)))) (nName 2) [.fz (.list (ns.map .int)), .fz (.int (i : Int)), .un, .un, .un] =
    .ok .nx [.fz (.list (ns.map .int)), .fz (.int (i : Int)), .fz (.int x), .un, .un] := by
  by_cases h : i < ns.length
  · have e : oIx (.list (ns.map PyData.int)) (.int (i : Int)) = some (.int ns[i]) := by
      have : L2.ixN ns.length (i : Int) = some i := by
        simp [L2.ixN] <;> omega
      simp [oIx, L2.atI, this, h]
    refine ⟨ns[i], ?_⟩
    simp [h, e]
  · refine ⟨(cutL ns none (some 1)).sum.fmod 1000003 + a * i + b, ?_⟩
    have e : cutL (ns.map PyData.int) none (some 1) = (cutL ns none (some 1)).map PyData.int := by
      unfold cutL
      rw [List.length_map, List.map_take, List.map_drop]
    simp [h, oSl, pNo, pSo, e, ints_map, oMod_int, oMul_int (x := a) (u := (i : Int)) (mulOk_l (by omega))]
theorem seq_nx {f g : ES} {en en' : En} (h : f en = .ok .nx en') : sSeq f g en = g en' := by
  unfold sSeq
  rw [h]
  rfl
/-- the pot of a cell -/
theorem pot_ok {a b c d e : Int} (k1 : 0 ≤ a ∧ a ≤ 10000000) (k3 : 0 ≤ c ∧ c ≤ 10000000) (k4 : 0 ≤ d ∧ d ≤ 10000000)
    {ns : List Int} (hl : ns.length ≤ 63) {i : Nat} (hi : i ≤ 100) : ∃ p, noer (fnOf [false, false] 5 (gPot a b c d e)) [.list (ns.map .int), .int (i : Int)] = .oko p [] ∧ Ok 90000 p := by
  obtain ⟨x, hx⟩ := cell_ok (a := a) (b := b) k1 hl hi
  have own : ∃ y : Int, 0 ≤ y ∧ sAsg (eOp oMul (eOp oMod (eUn oInt (eUn oAbs (eV 2))) (eOp oPow (eOp oPow (eC (.int 10)) (eC (.int 60))) (eC (.int 5)))) (eUn oInt (eOp oGe (eUn oAbs (eV 2)) (eOp oPow (eC (.int 10)) (eC (.int 18)))))) (nName 3) [.fz (.list (ns.map .int)), .fz (.int (i : Int)), .fz (.int x), .un, .un] =
      .ok .nx [.fz (.list (ns.map .int)), .fz (.int (i : Int)), .fz (.int x), .fz (.int y), .un] := by
    obtain ⟨q, r, t, e1, e2, e3, r0⟩ : ∃ q r t : Int, oPow (.int 10) (.int 60) = some (.int q) ∧ oPow (.int q) (.int 5) = some (.int r) ∧ oPow (.int 10) (.int 18) = some (.int t) ∧ 0 < r := ⟨_, _, _, pw60, pw300, pw18, by decide +kernel⟩
    refine ⟨(if x < 0 then -x else x).fmod r * (if (decide (t ≤ (if x < 0 then -x else x))) = true then 1 else 0), ?_, ?_⟩
    · refine Int.mul_nonneg (fmod_rng r0).1 ?_
      split <;> omega
    · have m : mulOk ((if x < 0 then -x else x).fmod r) (if (decide (t ≤ (if x < 0 then -x else x))) = true then 1 else 0) = true := mulOk_r (by split <;> omega)
      have ab : oAbs (.int x) = some (.int (if x < 0 then -x else x)) := rfl
      generalize (if x < 0 then -x else x) = z at m ab
      have i1 : ∀ b, oInt (.bool b) = some (.int (if b = true then 1 else 0)) := fun b => by cases b <;> rfl
      have l : sAsg (eOp oMul (eOp oMod (eUn oInt (eUn oAbs (eV 2))) (eOp oPow (eOp oPow (eC (.int 10)) (eC (.int 60))) (eC (.int 5)))) (eUn oInt (eOp oGe (eUn oAbs (eV 2)) (eOp oPow (eC (.int 10)) (eC (.int 18)))))) (nName 3) [.fz (.list (ns.map .int)), .fz (.int (i : Int)), .fz (.int x), .un, .un] =
        (match oMul (.int (z.fmod r)) (.int (if decide (t ≤ z) = true then 1 else 0)) with
          | some d => .ok .nx [.fz (.list (ns.map .int)), .fz (.int (i : Int)), .fz (.int x), .fz d, .un]
          | none => .st) := by
        have i2 : oInt (.int z) = some (.int z) := rfl
        have o1 : oMod (.int z) (.int r) = some (.int (z.fmod r)) := oMod_int r0
        have g1 : oGe (.int z) (.int t) = some (.bool (decide (t ≤ z))) := rfl
        simp only [sAsg, dat, eOp, eUn, eV, eC, Rs.bind, rd, ab, e1, e2, e3, i2, o1, g1, i1, nName, List.getElem?_cons_succ, List.getElem?_cons_zero, frz]
        cases oMul (.int (z.fmod r)) (.int (if decide (t ≤ z) = true then 1 else 0)) <;> simp
      rw [l, oMul_int m]
  obtain ⟨y, hy, ey⟩ := own
  obtain ⟨s1, s2, s3, s4⟩ := sq_le (c := (i : Int)) (by omega) (by omega) k4.1 k4.2
  have r1 := fmod_rng (x := x) (u := 2305843009213693951) (by omega)
  have r2 := fmod_rng (x := x.fmod 2305843009213693951 * c + d * i * i + e) (u := 2305843009213693921) (by omega)
  refine ⟨.list [.int y, .int ((x.fmod 2305843009213693951 * c + d * i * i + e).fmod 2305843009213693921), .int 0], ?_, y, _, 0, rfl, hy, r2.1, by omega, by omega, by omega⟩
  have go : gPot a b c d e [.fz (.list (ns.map .int)), .fz (.int (i : Int)), .un, .un, .un] = .ok (.ro (.list [.int y, .int ((x.fmod 2305843009213693951 * c + d * i * i + e).fmod 2305843009213693921), .int 0])) [.fz (.list (ns.map .int)), .fz (.int (i : Int)), .fz (.int x), .fz (.int y), .fz (.int (x.fmod 2305843009213693951))] := by
    unfold gPot
    rw [seq_nx hx, seq_nx ey]
    simp [sRetO, oMod_int, oMul_int (x := x.fmod 2305843009213693951) (u := c) (mulOk_l (by omega)), oMul_int (x := d) (u := (i : Int)) (mulOk_l (by omega)), oMul_int (x := d * i) (u := (i : Int)) (mulOk_l (by omega))]
  unfold noer fnOf
  simp only [enOf, List.length_cons, List.length_nil, List.replicate, List.append, List.cons_append, List.nil_append, go, outsOf]
end Pot

set_option Elab.async false
set_option linter.all false
set_option maxRecDepth 20000
namespace Clk
open PySem Fx

/-! ### why: the least chain -/
/-- a list by a comprehension with a test -/
theorem oLc_filter {i : EI} {g : EG} {c : ET} {e : EE} {vs : List Nat} {en en1 en0 : En} (p : D → Bool) (f : D → D) {ds : List D} (hi : i en = .ok ds en1) (hw : wipeE vs en1 = en0) (hw2 : wipeE vs en0 = en0) (len : ds.length ≤ 65536)
    (h : ∀ d ∈ ds, ∃ en1, g d en0 = some en1 ∧ ∃ en2, c en1 = .ok (p d) en2 ∧ (p d = true → ∃ en3, dat e en2 = .ok (f d) en3 ∧ wipeE vs en3 = en0) ∧ (p d = false → wipeE vs en2 = en0)) :
    oLc i g c e vs en = .ok (.list ((ds.filter p).map f)) en0 := by
  unfold oLc
  rw [hi]
  show ((compL g c e vs ds [] (wipeE vs en1)).nox.bind fun r en => Rs.ok (PyData.list r) (wipeE vs en)) = _
  rw [hw, wp_compL en0 p f ds [] (by simpa using len) h]
  show Rs.ok _ (wipeE vs en0) = _
  rw [hw2, List.nil_append]
theorem foldl_min : ∀ (l : List Int) (x : Int), (l.foldl min x ∈ x :: l) ∧ ∀ y ∈ x :: l, l.foldl min x ≤ y
  | [], x => ⟨List.mem_cons_self, fun y hy => by rw [List.mem_singleton.mp hy]; exact Int.le_refl _⟩
  | z :: l, x => by
    obtain ⟨h1, h2⟩ := foldl_min l (min x z)
    rw [List.foldl_cons]
    have mn := h2 (min x z) List.mem_cons_self
    refine ⟨?_, fun y hy => ?_⟩
    · rcases List.mem_cons.mp h1 with e | e
      · rw [e]
        by_cases k : x ≤ z
        · rw [Int.min_eq_left k]; exact List.mem_cons_self
        · rw [Int.min_eq_right (by omega)]; exact List.mem_cons_of_mem _ List.mem_cons_self
      · exact List.mem_cons_of_mem _ (List.mem_cons_of_mem _ e)
    · rcases List.mem_cons.mp hy with rfl | hy
      · omega
      · rcases List.mem_cons.mp hy with rfl | hy
        · omega
        · exact h2 y (List.mem_cons_of_mem _ hy)
theorem ints_hasDict : ∀ l : List Int, PyData.hasDictAll (l.map PyData.int) = false
  | [] => rfl
  | x :: l => by rw [List.map_cons, PyData.hasDictAll, ints_hasDict l]; rfl
theorem ints_depth : ∀ l : List Int, PyData.depthAll (l.map PyData.int) ≤ 60
  | [] => by decide
  | x :: l => by
    have := ints_depth l
    rw [List.map_cons, PyData.depthAll]
    simp [PyData.depth] <;> omega
theorem oMinL_ints (x : Int) (l : List Int) : oMinL (.list ((x :: l).map .int)) = some (.int (l.foldl min x)) := by
  have h1 : alikeB ((x :: l).map .int) = true := by
    unfold alikeB
    rw [List.all_eq_true]
    intro d hd
    obtain ⟨y, _, rfl⟩ := List.mem_map.mp hd
    rw [Bool.and_eq_true, List.all_eq_true]
    refine ⟨fun e he => ?_, rfl⟩
    obtain ⟨z, _, rfl⟩ := List.mem_map.mp he
    rfl
  have h2 := ints_hasDict (x :: l)
  have h3 := ints_depth (x :: l)
  rw [List.map_cons] at h1 h2 h3 ⊢
  unfold oMinL
  simp only
  rw [if_pos ⟨h1, h2, h3⟩, PySem.W.minD_ints]
theorem pairsOf_range (ds : List D) : pairsOf ds = (List.range ds.length).map fun i => .tuple [.int (i : Nat), ds.getD i .none] := by
  apply List.ext_getElem?
  intro i
  unfold pairsOf
  rw [List.getElem?_map, List.getElem?_map, List.getElem?_zipIdx]
  by_cases h : i < ds.length
  · rw [List.getElem?_eq_getElem h, List.getElem?_range h]
    simp [h]
  · rw [List.getElem?_eq_none (by omega), List.getElem?_eq_none (by simpa using h)]
    rfl
/-- the lengths of the least sums -/
def lens (rs : List Al) (a b v : Int) : List Nat := (List.range rs.length).filter fun i => decide (tabs rs i a b = some v)
theorem eqv_oi (x y : Option Int) : PyData.eqv (oi x) (oi y) = decide (x = y) := by
  cases x <;> cases y <;> first | rfl | skip
  simp only [oi, PyData.eqv, Option.some.injEq]
  rw [Bool.eq_iff_iff]
  simp
theorem oEq_oi (x y : Option Int) : oEq (oi x) (oi y) = some (.bool (decide (x = y))) := by
  have s : ∀ o, SeqAt.shaped (oi o) = true := fun o => by cases o <;> rfl
  unfold oEq
  rw [if_pos ⟨s x, s y⟩, eqv_oi]
theorem lens_lc {rs : List Al} {a b v : Int} (hl : rs.length ≤ 1000) {s0 s1 s4 s5 s7 : Sl} :
    oLc (iEnm (eV 6)) (nTup 2 (nCons (nName 8) (nCons (nName 9) nNil))) (cB (eOp oEq (eGet1 (eV 9) (eTup (aCons (eV 2) (aCons (eV 3) aNil)))) (eV 4))) (eV 8) [8, 9] [s0, s1, .fz (.int a), .fz (.int b), .fz (.int v), s5, .fz (.list (rs.map rd1)), s7, .un, .un] =
      .ok (.list (((lens rs a b v).map fun (i : Nat) => (i : Int)).map .int)) [s0, s1, .fz (.int a), .fz (.int b), .fz (.int v), s5, .fz (.list (rs.map rd1)), s7, .un, .un] := by
  have key := oLc_filter (i := iEnm (eV 6)) (g := nTup 2 (nCons (nName 8) (nCons (nName 9) nNil))) (c := cB (eOp oEq (eGet1 (eV 9) (eTup (aCons (eV 2) (aCons (eV 3) aNil)))) (eV 4))) (e := eV 8) (vs := [8, 9])
    (en := [s0, s1, .fz (.int a), .fz (.int b), .fz (.int v), s5, .fz (.list (rs.map rd1)), s7, .un, .un]) (en1 := [s0, s1, .fz (.int a), .fz (.int b), .fz (.int v), s5, .fz (.list (rs.map rd1)), s7, .un, .un]) (en0 := [s0, s1, .fz (.int a), .fz (.int b), .fz (.int v), s5, .fz (.list (rs.map rd1)), s7, .un, .un])
    (fun d => match d with
      | .tuple [.int i, _] => decide (tabs rs i.toNat a b = some v)
      | _ => false) (fun d => match d with
      | .tuple [x, _] => x
      | _ => .none) (ds := pairsOf (rs.map rd1)) (by simp [iEnm]) (by simp) (by simp) (by rw [pairsOf_length, List.length_map]; omega) ?_
  · rw [key, pairsOf_range, List.filter_map, List.map_map, List.map_map, List.length_map]
    rfl
  · intro d hd
    obtain ⟨i, hi⟩ := List.getElem?_of_mem hd
    obtain ⟨x, h1, rfl⟩ := pairsOf_get hi
    rw [List.getElem?_map] at h1
    obtain ⟨r, hr, rfl⟩ := Option.map_eq_some_iff.mp h1
    have tab : tabs rs i = look r := by unfold tabs; rw [hr]
    have q : oEq (oi (look r a b)) (.int v) = some (.bool (decide (look r a b = some v))) := oEq_oi (look r a b) (some v)
    refine ⟨_, by simp <;> rfl, _, by simp [rd1, eGet1, fits_enc, dGet_enc, tk, q, tab] <;> rfl, fun _ => ⟨_, by simp <;> rfl, by simp⟩, fun _ => by simp⟩
theorem lens_few {m : Nat} {S : List Side} {p : Int → Int} {T : Tab} {rs : List Al} {a b v : Int} (o : Sound m S p) (r : Rows m S (tabs rs) (m - 1)) (d : Dist m S T) (hm : 0 < m) (hl : rs.length = m) (h : T a b = some v) :
    ∃ (x : Int) (l : List Int) (k : Nat), (lens rs a b v).map (fun (i : Nat) => (i : Int)) = x :: l ∧ l.foldl min x = (k : Int) ∧ k < m ∧ Few (tabs rs) T a b k := by
  obtain ⟨k0, h1, h2⟩ := few_exists o r d hm (Nat.le_refl _) h
  have m0 : k0 ∈ lens rs a b v := List.mem_filter.mpr ⟨List.mem_range.mpr (by omega), decide_eq_true h2⟩
  cases e : lens rs a b v with
  | nil => rw [e] at m0; cases m0
  | cons x l =>
    obtain ⟨q1, q2⟩ := foldl_min (l.map fun (i : Nat) => (i : Int)) (x : Int)
    rw [← List.map_cons (f := fun (i : Nat) => (i : Int)), ← e] at q1 q2
    obtain ⟨k, hk, ek⟩ := List.mem_map.mp q1
    obtain ⟨hk1, hk2⟩ := List.mem_filter.mp hk
    have hk3 := of_decide_eq_true hk2
    have hk4 := List.mem_range.mp hk1
    refine ⟨x, l.map fun (i : Nat) => (i : Int), k, rfl, ek.symm, by omega, hk3.trans h.symm, fun j hj z => ?_⟩
    have := q2 (j : Int) (List.mem_map.mpr ⟨j, List.mem_filter.mpr ⟨List.mem_range.mpr (by omega), decide_eq_true (z.trans h)⟩, rfl⟩)
    omega
theorem why_ok {m : Nat} {fs : List Fact} {p : Int → Int} (h : Fine m fs p) {ps : Al} (hi : f_highs [.int m, FD fs] = .ok (.dict (enc ps)) []) (d : Dist m (sidesFrom 0 fs) (look ps)) {sm : Al} {rs : List Al}
    (hs : f_sums_by_length [.int m, .list ((sidesFrom 0 fs).map sd), .int ((m : Int) - 1)] = .ok (.list (rs.map rd1)) []) (ir : IsRows m (sidesFrom 0 fs) sm rs) (hl : rs.length = m) {a b : Int} (ia : In m a) (ib : In m b) :
    ∃ r, f_why [.int m, FD fs, .int a, .int b] = .ok r [] ∧ ((look ps a b = none ∧ r = .none) ∨ ∃ v k, look ps a b = some v ∧ k < m ∧ Few (tabs rs) (look ps) a b k ∧ r = .tuple ((chain (sidesFrom 0 fs) (tabs rs) b k a v).map wd)) := by
  have m12 := h.m12
  have m1 := h.m1
  have bo := bounds_ok h hi d ia ib
  have r : Rows m (sidesFrom 0 fs) (tabs rs) (m - 1) := rows_of h.snd ir (by omega)
  cases e : look ps a b with
  | none =>
    rw [e] at bo
    refine ⟨.none, ?_, .inl ⟨rfl, rfl⟩⟩
    refine fn_wpA [.fz (.int m), .fz (FD fs), .fz (.int a), .fz (.int b), .un, .un, .un, .un, .un, .un] rfl ?_
    unfold b_why
    refine wp_nx (en' := [.fz (.int m), .fz (FD fs), .fz (.int a), .fz (.int b), .fz .none, .un, .un, .un, .un, .un]) (by simp [bo, oIx, L2.atI, L2.ixN, oi]) ?_
    simp [wp_ok, isN]
  | some v =>
    rw [e] at bo
    obtain ⟨x, l, k, q1, q2, q3, q4⟩ := lens_few h.snd r d h.m1 hl e
    refine ⟨_, ?_, .inr ⟨v, k, rfl, q3, q4, rfl⟩⟩
    have so := sides_ok h.len
    have co := chain_of_ok (S := sidesFrom 0 fs) (rs := rs) (k := k) (a := a) (t := b) (v := v) (by omega) (by omega)
    have lc := lens_lc (rs := rs) (a := a) (b := b) (v := v) (by omega) (s0 := .fz (.int m)) (s1 := .fz (FD fs)) (s4 := .un) (s5 := .fz (.list ((sidesFrom 0 fs).map sd))) (s7 := .un)
    rw [q1] at lc
    have mn := oMinL_ints x l
    rw [q2, List.map_cons] at mn
    refine fn_wpA [.fz (.int m), .fz (FD fs), .fz (.int a), .fz (.int b), .un, .un, .un, .un, .un, .un] rfl ?_
    unfold b_why
    generalize oLc (iEnm (eV 6)) (nTup 2 (nCons (nName 8) (nCons (nName 9) nNil))) (cB (eOp oEq (eGet1 (eV 9) (eTup (aCons (eV 2) (aCons (eV 3) aNil)))) (eV 4))) (eV 8) [8, 9] = L at lc
    generalize f_chain_of = fc at co
    generalize f_sums_by_length = fl at hs
    generalize f_sides_of = fo at so
    generalize f_bounds = fb at bo
    refine wp_nx (en' := [.fz (.int m), .fz (FD fs), .fz (.int a), .fz (.int b), .fz (.int v), .un, .un, .un, .un, .un]) (by simp [bo, oIx, L2.atI, L2.ixN, oi]) ?_
    refine wp_nx (en' := [.fz (.int m), .fz (FD fs), .fz (.int a), .fz (.int b), .fz (.int v), .un, .un, .un, .un, .un]) (by simp [isN]) ?_
    refine wp_nx (en' := [.fz (.int m), .fz (FD fs), .fz (.int a), .fz (.int b), .fz (.int v), .fz (.list ((sidesFrom 0 fs).map sd)), .un, .un, .un, .un]) (by simp [so]) ?_
    refine wp_nx (en' := [.fz (.int m), .fz (FD fs), .fz (.int a), .fz (.int b), .fz (.int v), .fz (.list ((sidesFrom 0 fs).map sd)), .fz (.list (rs.map rd1)), .un, .un, .un]) (by simp [hs]) ?_
    refine wp_nx (en' := [.fz (.int m), .fz (FD fs), .fz (.int a), .fz (.int b), .fz (.int v), .fz (.list ((sidesFrom 0 fs).map sd)), .fz (.list (rs.map rd1)), .fz (.int k), .un, .un]) (by simp [lc, mn]) ?_
    simp [wp_ok, co]
end Clk

set_option Elab.async false
set_option linter.all false
set_option maxRecDepth 20000
/-! what the clocks' laws draw: offsets, facts -/
namespace Clk
open PySem Fx

/-- the law's own drawing of a number -/
def TakeOk (tk : Fn) : Prop := ∀ (n : Nat) (pot : D) (u : Int), Pot.Ok (n + 1) pot → 0 < u → u < 1073741824 → ∃ v pot', tk [pot, .int u] = .ok (.int v) [pot'] ∧ 0 ≤ v ∧ v < u ∧ Pot.Ok n pot'
/-- a list by a comprehension without tests, the names being changed -/
theorem compL_inv {g : EG} {e : EE} {vs : List Nat} {ds0 : List D} (I : List D → En → Prop) (st : ∀ acc d en, ds0[acc.length]? = some d → I acc en → ∃ en1, g d en = some en1 ∧ ∃ y en2, dat e en1 = .ok y en2 ∧ I (acc ++ [y]) (wipeE vs en2)) :
    ∀ (ds acc : List D) (en : En), ds0.drop acc.length = ds → acc.length + ds.length ≤ 65536 → I acc en → ∃ r en', compL g cYes e vs ds acc en = .ok r en' ∧ r.length = acc.length + ds.length ∧ I r en'
  | [], acc, en, _, _, h => ⟨acc, en, rfl, rfl, h⟩
  | d :: ds, acc, en, hd, hl, h => by
    rw [List.length_cons] at hl
    have hd0 : ds0[acc.length]? = some d := by
      have : (ds0.drop acc.length)[0]? = some d := by rw [hd]; rfl
      rwa [List.getElem?_drop, Nat.add_zero] at this
    have hd1 : ds0.drop (acc.length + 1) = ds := by
      rw [← List.drop_drop, hd]; rfl
    obtain ⟨en1, h1, y, en2, h2, h3⟩ := st acc d en hd0 h
    obtain ⟨r, en', k1, k2, k3⟩ := compL_inv I st ds (acc ++ [y]) (wipeE vs en2) (by rw [List.length_append]; exact hd1) (by rw [List.length_append]; simp; omega) h3
    refine ⟨r, en', ?_, by rw [k2]; simp; omega, k3⟩
    unfold compL
    rw [h1]
    simp only [cYes, Rs.nox, Rs.bind, if_true, h2]
    rw [if_pos (by omega)]
    exact k1
theorem oLc_inv {i : EI} {g : EG} {e : EE} {vs : List Nat} {en en1 : En} {ds : List D} (I : List D → En → Prop) (hi : i en = .ok ds en1) (len : ds.length ≤ 65536) (h0 : I [] (wipeE vs en1))
    (st : ∀ acc d en, ds[acc.length]? = some d → I acc en → ∃ en1, g d en = some en1 ∧ ∃ y en2, dat e en1 = .ok y en2 ∧ I (acc ++ [y]) (wipeE vs en2)) :
    ∃ r en', oLc i g cYes e vs en = .ok (.list r) (wipeE vs en') ∧ r.length = ds.length ∧ I r en' := by
  obtain ⟨r, en', h1, h2, h3⟩ := compL_inv (g := g) (e := e) (vs := vs) (ds0 := ds) I st ds [] (wipeE vs en1) rfl (by simpa using len) h0
  refine ⟨r, en', ?_, by simpa using h2, h3⟩
  unfold oLc
  rw [hi]
  show ((compL g cYes e vs ds [] (wipeE vs en1)).nox.bind fun r en => Rs.ok (PyData.list r) (wipeE vs en)) = _
  rw [h1]
  rfl
def gOf (tk : Fn) : ES := (sRet (eOp oIx (eV 1) (eCall [true, false] tk (aCons (eV 0) (aCons (eUn oLen (eV 1)) aNil)))))
theorem of_ok {tk : Fn} (t : TakeOk tk) {n : Nat} {pot : D} (h : Pot.Ok (n + 1) pot) {l : List D} (h0 : 0 < l.length) (h1 : l.length < 1000000) : ∃ x pot', noer (fnOf [true, false] 2 (gOf tk)) [pot, .list l] = .ok x [pot'] ∧ x ∈ l ∧ Pot.Ok n pot' := by
  obtain ⟨v, pot', e, v0, v1, ok⟩ := t n pot (l.length : Int) h (by omega) (by omega)
  have hv : v.toNat < l.length := by omega
  have ix : oIx (.list l) (.int v) = some l[v.toNat] := by
    have := ix_nat (List.getElem?_eq_getElem hv)
    rwa [show ((v.toNat : Nat) : Int) = v by omega] at this
  refine ⟨l[v.toNat], pot', ?_, List.getElem_mem hv, ok⟩
  refine fn_wp ?_
  unfold gOf
  simp [wp_ok, e, ix]
def gOffsets (tk : Fn) : ES := (sRet (ofO (oCatL (ofO (oLst (aCons (eC (.int 0)) aNil))) (ofO (oLc (iR1 (aCons (eOp oSub (eV 1) (eC (.int 1))) aNil)) (nName 2) cYes (eOp oSub (eCall [true, false] tk (aCons (eV 0) (aCons (eC (.int 401)) aNil))) (eC (.int 200))) [2])))))
theorem offsets_ok {tk : Fn} (t : TakeOk tk) {n m : Nat} {pot : D} (h : Pot.Ok (n + m) pot) (h0 : 0 < m) (h1 : m < 1000) :
    ∃ os pot', noer (fnOf [true, false] 3 (gOffsets tk)) [pot, .int (m : Int)] = .ok (.list (List.map .int (0 :: os))) [pot'] ∧ os.length + 1 = m ∧ (∀ x ∈ os, -200 ≤ x ∧ x ≤ 200) ∧ Pot.Ok n pot' := by
  have it : iR1 (aCons (eOp oSub (eV 1) (eC (.int 1))) aNil) [.io 0 pot, .fz (.int (m : Int)), .un] = .ok ((upI (m - 1)).map PyData.int) [.io 0 pot, .fz (.int (m : Int)), .un] :=
    iR1_nat (m := m - 1) (by omega) (by
      simp
      omega)
  obtain ⟨r, en', e, hl, os, pot', rfl, rfl, ho, ok⟩ := oLc_inv (i := iR1 (aCons (eOp oSub (eV 1) (eC (.int 1))) aNil)) (g := nName 2) (e := eOp oSub (eCall [true, false] tk (aCons (eV 0) (aCons (eC (.int 401)) aNil))) (eC (.int 200))) (vs := [2])
    (fun acc en => ∃ os pot', acc = List.map .int os ∧ en = [.io 0 pot', .fz (.int (m : Int)), .un] ∧ (∀ x ∈ os, -200 ≤ x ∧ x ≤ 200) ∧ Pot.Ok (n + m - os.length) pot') it (by rw [List.length_map, upI_len]; omega)
    ⟨[], pot, rfl, by simp, (fun _ h => nomatch h), h⟩ (by
      rintro acc d en hd ⟨os, pot', rfl, rfl, ho, ok⟩
      obtain ⟨hc, rfl⟩ := upI_at hd
      rw [List.length_map] at hc
      obtain ⟨v, pot2, e, v0, v1, ok2⟩ := t (n + m - (os.length + 1)) pot' 401 (ok.less (by omega)) (by omega) (by omega)
      refine ⟨_, by simp <;> rfl, .int (v - 200), _, by simp [e] <;> rfl, os ++ [v - 200], pot2, by simp, by simp, ?_, by rw [List.length_append]; exact ok2⟩
      intro x hx
      rcases List.mem_append.mp hx with hx | hx
      · exact ho x hx
      · rw [List.mem_singleton.mp hx]; omega)
  rw [List.length_map, List.length_map, upI_len] at hl
  refine ⟨os, pot', ?_, by omega, ho, ok.less (by omega)⟩
  refine fn_wp ?_
  unfold gOffsets
  simp only [enOf, List.length_cons, List.length_nil, List.replicate, List.append, List.cons_append, List.nil_append]
  generalize oLc (iR1 (aCons (eOp oSub (eV 1) (eC (.int 1))) aNil)) (nName 2) cYes (eOp oSub (eCall [true, false] tk (aCons (eV 0) (aCons (eC (.int 401)) aNil))) (eC (.int 200))) [2] = L at e
  have l2 : 1 + os.length ≤ 65536 := by omega
  simp [wp_ok, e, oCatL, l2]
def gFact (tk of : Fn) : ES := (sSeq (sAsg (eCall [true, false] tk (aCons (eV 0) (aCons (eUn oLen (eV 1)) aNil))) (nName 2))
    (sSeq (sAsg (eOp oMod (eOp oAdd (eOp oAdd (eV 2) (eC (.int 1))) (eCall [true, false] tk (aCons (eV 0) (aCons (eOp oSub (eUn oLen (eV 1)) (eC (.int 1))) aNil)))) (eUn oLen (eV 1))) (nName 3))
    (sSeq (sPar3 4 5 6 (mConsF (eOp oSub (eCall [true, false] tk (aCons (eV 0) (aCons (eC (.int 2001)) aNil))) (eC (.int 700))) (mConsF (eCall [true, false] of (aCons (eV 0) (aCons (ofO (oLst (aCons (eC (.int 0)) (aCons (eC (.int 0)) (aCons (eC (.int 1)) (aCons (eC (.int 2)) (aCons (eC (.int 30)) aNil))))))) aNil))) (mConsF (eCall [true, false] of (aCons (eV 0) (aCons (ofO (oLst (aCons (eC (.int 0)) (aCons (eC (.int 0)) (aCons (eC (.int 1)) (aCons (eC (.int 2)) (aCons (eC (.int 9)) (aCons (eC (.int 200)) aNil)))))))) aNil))) mNil))))
    (sSeq (sAsg (eOp oAdd (eOp oAdd (eOp oAdd (eOp oSub (eV 4) (eOp oIx (eV 1) (eV 2))) (eV 5)) (eCall [true, false] tk (aCons (eV 0) (aCons (eOp oAdd (eV 6) (eC (.int 1))) aNil)))) (eOp oIx (eV 1) (eV 3))) (nName 7))
    (sSeq (sAsg (eIf (cB (eOp oEq (eCall [true, false] tk (aCons (eV 0) (aCons (eC (.int 4)) aNil))) (eC (.int 0)))) (eC .none) (eUn oInt (eOp oAdd (eV 5) (eV 6)))) (nName 8))
    (sRet (eTup (aCons (eUn oInt (eV 2)) (aCons (eUn oInt (eV 4)) (aCons (eUn oInt (eV 3)) (aCons (eUn oInt (eV 7)) (aCons (eUn oInt (eV 5)) (aCons (eV 8) aNil)))))))))))))
def OfOk (of : Fn) : Prop := ∀ (n : Nat) (pot : D) (l : List D), Pot.Ok (n + 1) pot → 0 < l.length → l.length < 1000000 → ∃ x pot', of [pot, .list l] = .ok x [pot'] ∧ x ∈ l ∧ Pot.Ok n pot'
/-- clocks by a list of offsets -/
def clk (os : List Int) (i : Int) : Int := os.getD i.toNat 0
structure Kept (p : Int → Int) (f : Fact) : Prop where
  lo : f.least ≤ (f.came - p f.other) - (f.left - p f.one)
  hi : ∀ v, f.most = some v → (f.came - p f.other) - (f.left - p f.one) ≤ v
/-- the facts tell the clocks but for 200 -/
structure Near (p : Int → Int) (f : Fact) : Prop where
  lo : f.came - f.left - f.least ≤ p f.other - p f.one + 200
  hi : ∀ v, f.most = some v → v - f.came + f.left ≤ p f.one - p f.other + 200
theorem ix_clk {os : List Int} {i : Int} (h0 : 0 ≤ i) (h1 : i < os.length) : oIx (.list (List.map .int os)) (.int i) = some (.int (clk os i)) := by
  have hv : i.toNat < os.length := by omega
  have := ix_nat (l := List.map PyData.int os) (k := i.toNat) (d := .int os[i.toNat]) (by rw [List.getElem?_map, List.getElem?_eq_getElem hv]; rfl)
  rw [show ((i.toNat : Nat) : Int) = i by omega] at this
  rw [this]
  unfold clk
  rw [List.getD_eq_getElem?_getD, List.getElem?_eq_getElem hv]
  rfl
theorem fact_ok {tk of : Fn} (t : TakeOk tk) (q : OfOk of) {n : Nat} {pot : D} (h : Pot.Ok (n + 7) pot) {os : List Int} (l2 : 2 ≤ os.length) (l3 : os.length < 1000) (b : ∀ x ∈ os, -200 ≤ x ∧ x ≤ 200) :
    ∃ f pot', noer (fnOf [true, false] 9 (gFact tk of)) [pot, .list (List.map .int os)] = .ok (fd f) [pot'] ∧ (Good os.length f ∧ Kept (clk os) f) ∧ Near (clk os) f ∧ Pot.Ok n pot' := by
  obtain ⟨v1, p1, e1, a1, b1, k1⟩ := t (n + 6) pot (os.length : Int) h (by omega) (by omega)
  obtain ⟨v2, p2, e2, a2, b2, k2⟩ := t (n + 5) p1 ((os.length : Int) - 1) k1 (by omega) (by omega)
  obtain ⟨v3, p3, e3, a3, b3, k3⟩ := t (n + 4) p2 2001 k2 (by omega) (by omega)
  obtain ⟨x4, p4, e4, a4, k4⟩ := q (n + 3) p3 [.int 0, .int 0, .int 1, .int 2, .int 30] k3 (by simp) (by simp)
  obtain ⟨x5, p5, e5, a5, k5⟩ := q (n + 2) p4 [.int 0, .int 0, .int 1, .int 2, .int 9, .int 200] k4 (by simp) (by simp)
  obtain ⟨v4, rfl, g4⟩ : ∃ v, x4 = .int v ∧ 0 ≤ v ∧ v ≤ 30 := by
    simp at a4
    rcases a4 with rfl | rfl | rfl | rfl
    · exact ⟨_, rfl, by omega, by omega⟩
    · exact ⟨_, rfl, by omega, by omega⟩
    · exact ⟨_, rfl, by omega, by omega⟩
    · exact ⟨_, rfl, by omega, by omega⟩
  obtain ⟨v5, rfl, g5⟩ : ∃ v, x5 = .int v ∧ 0 ≤ v ∧ v ≤ 200 := by
    simp at a5
    rcases a5 with rfl | rfl | rfl | rfl | rfl
    · exact ⟨_, rfl, by omega, by omega⟩
    · exact ⟨_, rfl, by omega, by omega⟩
    · exact ⟨_, rfl, by omega, by omega⟩
    · exact ⟨_, rfl, by omega, by omega⟩
    · exact ⟨_, rfl, by omega, by omega⟩
  obtain ⟨v6, p6, e6, a6, b6, k6⟩ := t (n + 1) p5 (v5 + 1) k5 (by omega) (by omega)
  obtain ⟨v7, p7, e7, a7, b7, k7⟩ := t n p6 4 k6 (by omega) (by omega)
  have L0 : (0 : Int) < os.length := by omega
  have oth := Pot.fmod_rng (x := v1 + 1 + v2) L0
  have ne : v1 ≠ (v1 + 1 + v2).fmod os.length := by
    intro z
    by_cases c : v1 + 1 + v2 < os.length
    · rw [Int.fmod_eq_of_lt (by omega) c] at z
      omega
    · have : (v1 + 1 + v2).fmod os.length = v1 + 1 + v2 - os.length := by
        have h1 : (v1 + 1 + v2 - os.length + os.length).fmod os.length = (v1 + 1 + v2 - os.length).fmod os.length := Int.add_fmod_right ..
        rw [show v1 + 1 + v2 - os.length + os.length = v1 + 1 + v2 by omega] at h1
        rw [h1, Int.fmod_eq_of_lt (by omega) (by omega)]
      omega
  have md : oMod (.int (v1 + 1 + v2)) (.int os.length) = some (.int ((v1 + 1 + v2).fmod os.length)) := Pot.oMod_int L0
  generalize (v1 + 1 + v2).fmod os.length = o at oth ne md
  have i1 := ix_clk (os := os) a1 b1
  have i2 := ix_clk (os := os) oth.1 oth.2
  have bd : ∀ i : Int, 0 ≤ i → i < os.length → -200 ≤ clk os i ∧ clk os i ≤ 200 := fun i h0 h1 => by
    have hv : i.toNat < os.length := by omega
    unfold clk
    rw [List.getD_eq_getElem?_getD, List.getElem?_eq_getElem hv]
    exact b _ (List.getElem_mem hv)
  have c1 := bd v1 a1 b1
  have c2 := bd o oth.1 oth.2
  refine ⟨⟨v1, v3 - 700, o, v3 - 700 - clk os v1 + v4 + v6 + clk os o, v4, if v7 = 0 then none else some (v4 + v5)⟩, p7, ?_, ⟨?_, ?_⟩, ?_, k7⟩
  · refine fn_wpA [.io 0 pot, .fz (.list (List.map .int os)), .un, .un, .un, .un, .un, .un, .un] rfl ?_
    unfold gFact
    refine wp_nx (en' := [.io 0 p1, .fz (.list (List.map .int os)), .fz (.int v1), .un, .un, .un, .un, .un, .un]) (by simp [e1]) ?_
    refine wp_nx (en' := [.io 0 p2, .fz (.list (List.map .int os)), .fz (.int v1), .fz (.int o), .un, .un, .un, .un, .un]) (by simp [e2, md]) ?_
    refine wp_nx (en' := [.io 0 p5, .fz (.list (List.map .int os)), .fz (.int v1), .fz (.int o), .fz (.int (v3 - 700)), .fz (.int v4), .fz (.int v5), .un, .un]) (by simp [e3, e4, e5]) ?_
    refine wp_nx (en' := [.io 0 p6, .fz (.list (List.map .int os)), .fz (.int v1), .fz (.int o), .fz (.int (v3 - 700)), .fz (.int v4), .fz (.int v5), .fz (.int (v3 - 700 - clk os v1 + v4 + v6 + clk os o)), .un]) (by simp [i1, i2, e6]) ?_
    refine wp_nx (en' := [.io 0 p7, .fz (.list (List.map .int os)), .fz (.int v1), .fz (.int o), .fz (.int (v3 - 700)), .fz (.int v4), .fz (.int v5), .fz (.int (v3 - 700 - clk os v1 + v4 + v6 + clk os o)), .fz (oi (if v7 = 0 then none else some (v4 + v5)))]) ?_ ?_
    · by_cases z : v7 = 0
      · simp [e7, z, oi_none]
      · simp [e7, z, oi_some]
    · simp [wp_ok, fd]
  · refine ⟨⟨a1, b1⟩, ⟨oth.1, oth.2⟩, ne, by simp only; omega, by simp only; omega, by simp only; omega, fun v hv => ?_⟩
    simp only at hv ⊢
    split at hv
    · cases hv
    · cases hv; omega
  · refine ⟨by simp only; omega, fun v hv => ?_⟩
    simp only at hv ⊢
    split at hv
    · cases hv
    · cases hv; omega
  · refine ⟨by simp only; omega, fun v hv => ?_⟩
    simp only at hv ⊢
    split at hv
    · cases hv
    · cases hv; omega
end Clk

set_option Elab.async false
set_option linter.all false
set_option maxRecDepth 20000
namespace Clk
open PySem Fx

def FactOk (fa : Fn) : Prop := ∀ (n : Nat) (pot : D) (os : List Int), Pot.Ok (n + 7) pot → 2 ≤ os.length → os.length < 1000 → (∀ x ∈ os, -200 ≤ x ∧ x ≤ 200) →
    ∃ f pot', fa [pot, .list (List.map .int os)] = .ok (fd f) [pot'] ∧ (Good os.length f ∧ Kept (clk os) f) ∧ Near (clk os) f ∧ Pot.Ok n pot'
def gFacts (fa : Fn) : ES := (sRet (eUn oTuple (ofO (oLc (iR1 (aCons (eV 2) aNil)) (nName 3) cYes (eCall [true, false] fa (aCons (eV 0) (aCons (eV 1) aNil))) [3]))))
theorem tuple_wp {io : List Bool} {en en1 : En} {L : EO} {ds outs : List D} (e : L en = .ok (.list ds) en1) (ho : outsOf io 0 en1 = some outs) : Wp (sRet (eUn oTuple (ofO L)) en) fun o en => o = .rt (.tuple ds) ∧ outsOf io 0 en = some outs := by
  rw [sRet_wp (d := .tuple ds) (en' := en1)]
  · exact ⟨rfl, ho⟩
  · simp only [dat, eUn, ofO, e, Rs.bind, rd, oTuple, frz]
theorem facts_ok {fa : Fn} (t : FactOk fa) {n k : Nat} {pot : D} (h : Pot.Ok (n + 7 * k) pot) (hk : k < 1000) {os : List Int} (l2 : 2 ≤ os.length) (l3 : os.length < 1000) (b : ∀ x ∈ os, -200 ≤ x ∧ x ≤ 200) :
    ∃ fs pot', noer (fnOf [true, false, false] 4 (gFacts fa)) [pot, .list (List.map .int os), .int (k : Int)] = .ok (.tuple (List.map fd fs)) [pot'] ∧ fs.length = k ∧ (∀ f ∈ fs, (Good os.length f ∧ Kept (clk os) f) ∧ Near (clk os) f) ∧ Pot.Ok n pot' := by
  have it : iR1 (aCons (eV 2) aNil) [.io 0 pot, .fz (.list (List.map .int os)), .fz (.int (k : Int)), .un] = .ok ((upI k).map PyData.int) [.io 0 pot, .fz (.list (List.map .int os)), .fz (.int (k : Int)), .un] :=
    iR1_nat (by omega) (by simp)
  obtain ⟨r, en', e, hl, fs, pot', rfl, rfl, hf, ok⟩ := oLc_inv (i := iR1 (aCons (eV 2) aNil)) (g := nName 3) (e := eCall [true, false] fa (aCons (eV 0) (aCons (eV 1) aNil))) (vs := [3])
    (fun acc en => ∃ fs pot', acc = List.map fd fs ∧ en = [.io 0 pot', .fz (.list (List.map .int os)), .fz (.int (k : Int)), .un] ∧ (∀ f ∈ fs, (Good os.length f ∧ Kept (clk os) f) ∧ Near (clk os) f) ∧ Pot.Ok (n + 7 * (k - fs.length)) pot') it (by rw [List.length_map, upI_len]; omega)
    ⟨[], pot, rfl, by simp, (fun _ h => nomatch h), h⟩ (by
      rintro acc d en hd ⟨fs, pot', rfl, rfl, hf, ok⟩
      obtain ⟨hc, rfl⟩ := upI_at hd
      rw [List.length_map] at hc
      obtain ⟨f, pot2, e, g, nr, ok2⟩ := t (n + 7 * (k - (fs.length + 1))) pot' os (ok.less (by omega)) l2 l3 b
      refine ⟨_, by simp <;> rfl, fd f, _, by simp [e] <;> rfl, fs ++ [f], pot2, by simp, by simp, ?_, by rw [List.length_append]; exact ok2⟩
      intro x hx
      rcases List.mem_append.mp hx with hx | hx
      · exact hf x hx
      · rw [List.mem_singleton.mp hx]; exact ⟨g, nr⟩)
  rw [List.length_map, List.length_map, upI_len] at hl
  refine ⟨fs, pot', ?_, hl, hf, ok.less (by omega)⟩
  refine fn_wpA [.io 0 pot, .fz (.list (List.map .int os)), .fz (.int (k : Int)), .un] rfl ?_
  unfold gFacts
  exact tuple_wp e rfl
theorem mem_sides : ∀ {fs : List Fact} {n : Nat} {s : Side}, s ∈ sidesFrom n fs → ∃ f ∈ fs, ∃ k, s ∈ sidesAt k f
  | f :: fs, n, s, h => by
    rcases List.mem_append.mp h with h | h
    · exact ⟨f, List.mem_cons_self, n, h⟩
    · obtain ⟨g, hg, k, hk⟩ := mem_sides h
      exact ⟨g, List.mem_cons_of_mem _ hg, k, hk⟩
theorem sound_of {m : Nat} {fs : List Fact} {p : Int → Int} (h : ∀ f ∈ fs, Good m f ∧ Kept p f) : Sound m (sidesFrom 0 fs) p := by
  constructor
  · intro s hs
    obtain ⟨f, hf, k, hk⟩ := mem_sides hs
    obtain ⟨g, kp⟩ := h f hf
    have := g.one
    have := g.other
    unfold sidesAt at hk
    rcases List.mem_cons.mp hk with rfl | hk
    · simp only; omega
    · cases e : f.most with
      | none => rw [e] at hk; cases hk
      | some v => rw [e] at hk; rw [List.mem_singleton.mp hk]; simp only; omega
  · intro s hs
    obtain ⟨f, hf, k, hk⟩ := mem_sides hs
    obtain ⟨g, kp⟩ := h f hf
    have lo := kp.lo
    unfold sidesAt at hk
    rcases List.mem_cons.mp hk with rfl | hk
    · simp only; omega
    · cases e : f.most with
      | none => rw [e] at hk; cases hk
      | some v =>
        rw [e] at hk; rw [List.mem_singleton.mp hk]
        have := kp.hi v e
        simp only; omega
/-- many sites and drawn facts: the start of each law -/
theorem fine_of {m : Nat} {fs : List Fact} {p : Int → Int} (m1 : 1 ≤ m) (m12 : m ≤ 12) (hl : fs.length ≤ 60) (h : ∀ f ∈ fs, Good m f ∧ Kept p f) : Fine m fs p := ⟨m1, m12, hl, fun f hf => (h f hf).1, sound_of h⟩
end Clk

set_option Elab.async false
set_option linter.all false
set_option maxRecDepth 100000
namespace Clk
open PySem PySem.Spec PySem.W PyProof.Rows L2 Fx 
def b_less : ES := (sRet (eUn oTuple (ofO (oLc (iEnm (eV 0)) (nTup 2 (nCons (nName 2) (nCons (nName 3) nNil))) (cB (eOp (oInL true) (eV 2) (eV 1))) (eV 3) [2, 3]))))
def f_less : Fn := noer (fnOf [false, false] 4 b_less)
def b_core : ES := (sSeq (sPar 4 5 (mConsF (eOp oIx (eCall [false, false, false, false] f_bounds (aCons (eV 0) (aCons (eV 1) (aCons (eV 2) (aCons (eV 3) aNil))))) (eC (.int 1))) (mConsO (oLst aNil) mNil)))
    (sSeq (sFor (iR1 (aCons (eUn oLen (eV 1)) aNil)) (nName 6) (sIf (cB (eOp oEq (eGet1 (eCall [false, false] f_highs (aCons (eV 0) (aCons (eCall [false, false] f_less (aCons (eV 1) (aCons (ofO (oCatL (eV 5) (ofO (oLst (aCons (eV 6) aNil))))) aNil))) aNil))) (eTup (aCons (eV 2) (aCons (eV 3) aNil)))) (eV 4))) (sApp (eV 5) (eV 6)) sNx))
    (sRet (eUn oTuple (ofO (oLc (iR1 (aCons (eUn oLen (eV 1)) aNil)) (nName 6) (cB (eOp (oInL true) (eV 6) (eV 5))) (eV 6) [6]))))))
def f_core : Fn := noer (fnOf [false, false, false, false] 7 b_core)
def b_idle_facts : ES := (sSeq (sDrop (eCall [false, false] f_check_facts (aCons (eV 0) (aCons (eV 1) aNil))))
    (sSeq (sDrop (eCall [false, false] f_check_round (aCons (eV 0) (aCons (eV 1) aNil))))
    (sSeq (sAsg (eCall [false, false] f_highs (aCons (eV 0) (aCons (eV 1) aNil))) (nName 2))
    (sRet (eUn oTuple (ofO (oLc (iR1 (aCons (eUn oLen (eV 1)) aNil)) (nName 3) (cB (eOp oEqA (eCall [false, false] f_highs (aCons (eV 0) (aCons (eCall [false, false] f_less (aCons (eV 1) (aCons (ofO (oLst (aCons (eV 3) aNil))) aNil))) aNil))) (eV 2))) (eV 3) [3])))))))
def f_idle_facts : Fn := noer (fnOf [false, false] 4 b_idle_facts)
def b_keeps : ES := (sSeq (sAsg (eV 1) (nTup 6 (nCons (nName 2) (nCons (nName 3) (nCons (nName 4) (nCons (nName 5) (nCons (nName 6) (nCons (nName 7) nNil))))))))
    (sSeq (sAsg (eOp oSub (eOp oSub (eV 5) (eOp oIx (eV 0) (eV 4))) (eOp oSub (eV 3) (eOp oIx (eV 0) (eV 2)))) (nName 8))
    (sRet (eAnd (eOp oLe (eV 6) (eV 8)) (eOr (eOp oIsN (eV 7) (eC .none)) (eOp oLe (eV 8) (eV 7)))))))
def f_keeps : Fn := noer (fnOf [false, false] 9 b_keeps)
def b_are_kept : ES := (sSeq (sIf (cOr (cNot (cB (eUn (oIsi (cOne "tuple")) (eV 2)))) (cOr (cB (eOp oNe (eUn oLen (eV 2)) (eV 0))) (cNot (cB (eUn oAll (ofO (oLc (iSeq (eV 2)) (nName 3) cYes (eCall [false] f_is_whole (aCons (eV 3) aNil)) [3]))))))) (sRet (eC (.bool false))) sNx)
    (sRet (eAnd (eOp oEq (eOp oIx (eV 2) (eC (.int 0))) (eC (.int 0))) (eUn oAll (ofO (oLc (iSeq (eV 1)) (nName 4) cYes (eCall [false, false] f_keeps (aCons (eV 2) (aCons (eV 4) aNil))) [4]))))))
def f_are_kept : Fn := noer (fnOf [false, false, false] 5 b_are_kept)
def b_are_clocks : ES := (sSeq (sDrop (eCall [false, false] f_check_facts (aCons (eV 0) (aCons (eV 1) aNil))))
    (sRet (eCall [false, false, false] f_are_kept (aCons (eV 0) (aCons (eV 1) (aCons (eV 2) aNil))))))
def f_are_clocks : Fn := noer (fnOf [false, false, false] 3 b_are_clocks)
def b_nearest : ES := (sSeq (sIf (cAnd (cB (eOp oNotN (eV 0) (eC .none))) (cB (eOp oGt (eV 0) (eC (.int 0))))) (sRet (eV 0)) sNx)
    (sRet (eIf (cAnd (cB (eOp oNotN (eV 1) (eC .none))) (cB (eOp oLt (eV 1) (eC (.int 0))))) (eV 1) (eC (.int 0)))))
def f_nearest : Fn := noer (fnOf [false, false] 2 b_nearest)
def b_ends_by : ES := (sSeq (sAsg (eTup (aCons (eC .none) (aCons (eC .none) aNil))) (nTup 2 (nCons (nName 3) (nCons (nName 4) nNil))))
    (sSeq (sFor (iIt (eV 1)) (nTup 2 (nCons (nName 5) (nCons (nName 6) nNil))) (sSeq (sPar 7 8 (mConsF (eCall [false, false] f_together (aCons (eCall [false, false, false] f_high (aCons (eV 0) (aCons (eV 5) (aCons (eV 2) aNil)))) (aCons (eV 6) aNil))) (mConsF (eCall [false, false] f_together (aCons (eCall [false, false, false] f_low (aCons (eV 0) (aCons (eV 5) (aCons (eV 2) aNil)))) (aCons (eV 6) aNil))) mNil)))
    (sSeq (sAsg (eCall [false, false] f_lesser (aCons (eV 4) (aCons (eV 7) aNil))) (nName 4))
    (sIf (cAnd (cB (eOp oNotN (eV 8) (eC .none))) (cOr (cB (eOp oIsN (eV 3) (eC .none))) (cB (eOp oGt (eV 8) (eV 3))))) (sAsg (eV 8) (nName 3)) sNx))))
    (sRet (eTup (aCons (eV 3) (aCons (eV 4) aNil))))))
def f_ends_by : Fn := noer (fnOf [false, false, false] 9 b_ends_by)
def b_are_within : ES := (sSeq (sAsg (eCall [false, false, false] f_ends_by (aCons (eV 0) (aCons (eV 1) (aCons (eV 2) aNil)))) (nTup 2 (nCons (nName 4) (nCons (nName 5) nNil))))
    (sRet (eAnd (eOr (eOp oIsN (eV 4) (eC .none)) (eOp oLe (eV 4) (eV 3))) (eOr (eOp oIsN (eV 5) (eC .none)) (eOp oLe (eV 3) (eV 5))))))
def f_are_within : Fn := noer (fnOf [false, false, false, false] 6 b_are_within)
def b_clocks_at : ES := (sSeq (sDrop (eCall [false, false] f_check_facts (aCons (eV 0) (aCons (eV 1) aNil))))
    (sSeq (sDrop (eCall [false, false] f_check_site (aCons (eV 0) (aCons (eV 2) aNil))))
    (sSeq (sDrop (eCall [false, false] f_check_round (aCons (eV 0) (aCons (eV 1) aNil))))
    (sSeq (sIf (cNot (cB (eCall [false] f_is_whole (aCons (eV 3) aNil)))) sSt sNx)
    (sSeq (sAsg (eCall [false, false] f_highs (aCons (eV 0) (aCons (eV 1) aNil))) (nName 4))
    (sSeq (sIf (cNot (cB (eCall [false, false, false, false] f_are_within (aCons (eV 4) (aCons (ofO (oDisp (qCons (eC (.int 0)) (eC (.int 0)) qNil))) (aCons (eV 2) (aCons (eV 3) aNil))))))) (sRet (eC .none)) sNx)
    (sSeq (sSetO 5 (oDisp (qCons (eC (.int 0)) (eC (.int 0)) (qCons (eV 2) (eV 3) qNil))))
    (sSeq (sFor (iR1 (aCons (eV 0) aNil)) (nName 6) (sIf (cB (eIn true (eV 6) (eV 5))) (sSeq (sAsg (eCallB 5 f_ends_by [.inl 4, .inl 5, .inl 6]) (nTup 2 (nCons (nName 7) (nCons (nName 8) nNil))))
    (sPut (eV 5) (kSim (eV 6)) (eCall [false, false] f_nearest (aCons (eV 7) (aCons (eV 8) aNil))))) sNx))
    (sRet (eUn oTuple (ofO (oLc (iR1 (aCons (eV 0) aNil)) (nName 9) cYes (eItem (eV 5) (eV 9)) [9]))))))))))))
def f_clocks_at : Fn := noer (fnOf [false, false, false, false] 10 b_clocks_at)
def b_is_tick : ES := (sRet (eCall [false, false, false] f_is_between (aCons (eV 0) (aCons (eC (.int 0)) (aCons (eC (.int 9999)) aNil)))))
def f_is_tick : Fn := noer (fnOf [false] 1 b_is_tick)
def b_check_tick : ES := (sIf (cNot (cB (eCall [false] f_is_tick (aCons (eV 0) aNil)))) sSt sNx)
def f_check_tick : Fn := noer (fnOf [false] 1 b_check_tick)
def b_perhaps : ES := (sSeq (sDrop (eCall [false, false] f_check_facts (aCons (eV 0) (aCons (eV 1) aNil))))
    (sSeq (sDrop (eCall [false, false] f_check_site (aCons (eV 0) (aCons (eV 2) aNil))))
    (sSeq (sDrop (eCall [false, false] f_check_round (aCons (eV 0) (aCons (eV 1) aNil))))
    (sSeq (sDrop (eCall [false] f_check_tick (aCons (eV 3) aNil)))
    (sRet (eCall [false, false] f_together (aCons (eCall [false, false, false] f_low (aCons (eCall [false, false] f_highs (aCons (eV 0) (aCons (eV 1) aNil))) (aCons (eC (.int 0)) (aCons (eV 2) aNil)))) (aCons (eV 3) aNil))))))))
def f_perhaps : Fn := noer (fnOf [false, false, false, false] 4 b_perhaps)
def b_surely : ES := (sSeq (sDrop (eCall [false, false] f_check_facts (aCons (eV 0) (aCons (eV 1) aNil))))
    (sSeq (sDrop (eCall [false, false] f_check_site (aCons (eV 0) (aCons (eV 2) aNil))))
    (sSeq (sDrop (eCall [false, false] f_check_round (aCons (eV 0) (aCons (eV 1) aNil))))
    (sSeq (sDrop (eCall [false] f_check_tick (aCons (eV 3) aNil)))
    (sRet (eCall [false, false] f_together (aCons (eCall [false, false, false] f_high (aCons (eCall [false, false] f_highs (aCons (eV 0) (aCons (eV 1) aNil))) (aCons (eC (.int 0)) (aCons (eV 2) aNil)))) (aCons (eV 3) aNil))))))))
def f_surely : Fn := noer (fnOf [false, false, false, false] 4 b_surely)
end Clk

set_option Elab.async false
set_option linter.all false
set_option maxRecDepth 20000
/-! what repr can be asked of -/
namespace Rep
open PySem Fx
structure Fit (k j : Nat) (d : D) : Prop where
  sh : d.showable = true
  nd : d.hasDict = false
  len : d.shown.length ≤ k
  dep : d.depth ≤ j
  cp : PyData.strOk d.shown = true
theorem Fit.le {k j k' j' : Nat} {d : D} (h : Fit k j d) (a : k ≤ k') (b : j ≤ j') : Fit k' j' d := ⟨h.sh, h.nd, Nat.le_trans h.len a, Nat.le_trans h.dep b, h.cp⟩
theorem ok {k j : Nat} {d : D} (h : Fit k j d) (a : k ≤ 65536) (b : j ≤ 60) : oRepr d = some (.str d.shown) := by
  unfold oRepr
  rw [if_pos ⟨h.sh, h.nd, Nat.le_trans h.len a, Nat.le_trans h.dep b⟩]
theorem ne_self {k j : Nat} {d : D} (h : Fit k j d) : oNe (.str d.shown) (.str d.shown) = some (.bool false) := by
  have : SeqAt.shaped (.str d.shown) = true := by
    unfold SeqAt.shaped
    rw [show PyData.canLay0 (.str d.shown) = true from h.cp]
    rfl
  have e : PyData.eqv (.str d.shown) (.str d.shown) = true := by simp [PyData.eqv]
  unfold oNe
  rw [if_pos ⟨this, this⟩, e]
  rfl
theorem cp_append {a b : Str} (ha : PyData.strOk a = true) (hb : PyData.strOk b = true) : PyData.strOk (a ++ b) = true := by
  unfold PyData.strOk at *
  rw [show (a ++ b).cps = a.cps ++ b.cps from rfl, Array.all_append, ha, hb]
  rfl
theorem cp_string (s : String) : PyData.strOk (Str.ofString s) = true := by
  rw [Str.ofString_eq_toList]
  unfold PyData.strOk
  rw [Array.all_eq_true]
  intro i hi
  simp only [List.size_toArray, List.length_map] at hi
  simp only [List.getElem_toArray, List.getElem_map, decide_eq_true_eq]
  have := (s.toList[i]).valid
  have v : (s.toList[i]).toNat < 0x110000 := by
    unfold Char.toNat
    rcases this with h | h
    · have : (s.toList[i]).val.toNat < 0xd800 := h
      omega
    · exact h.2
  exact v
theorem cp_join {sep : Str} (hs : PyData.strOk sep = true) : ∀ ts : List Str, (∀ t ∈ ts, PyData.strOk t = true) → PyData.strOk (Str.join sep ts) = true
  | [], _ => by show PyData.strOk Str.empty = true; decide +kernel
  | [x], h => h x List.mem_cons_self
  | x :: y :: r, h => cp_append (cp_append (h x List.mem_cons_self) hs) (cp_join hs (y :: r) fun t ht => h t (List.mem_cons_of_mem _ ht))
theorem none : Fit 4 0 .none := ⟨rfl, rfl, by decide, by decide, by decide +kernel⟩
theorem bool (b : Bool) : Fit 5 0 (.bool b) := by cases b <;> exact ⟨rfl, rfl, by decide, by decide, by decide +kernel⟩
theorem int {i : Int} (h : i.natAbs < 10 ^ 20) : Fit 21 0 (.int i) := by
  have l : (toString i).length ≤ 21 := int_text_length_le10 (k := 20) (by decide) h
  refine ⟨?_, rfl, ?_, Nat.le_refl _, ?_⟩
  · show decide (i.natAbs.log2 < 1920) = true
    rw [decide_eq_true_eq]
    by_cases z : i.natAbs = 0
    · rw [z]; decide
    · exact (Nat.log2_lt z).mpr (Nat.lt_of_lt_of_le h (by decide +kernel))
  · show (Str.ofString (toString i)).length ≤ 21
    rw [ofString_length]; exact l
  · exact cp_string _
theorem all {k j : Nat} : ∀ {ds : List D}, (∀ d ∈ ds, Fit k j d) → PyData.showableAll ds = true ∧ PyData.hasDictAll ds = false ∧ ((PyData.shownAll ds).map (·.length)).sum ≤ ds.length * k ∧ PyData.depthAll ds ≤ j ∧ ∀ t ∈ PyData.shownAll ds, PyData.strOk t = true
  | [], _ => ⟨rfl, rfl, Nat.zero_le _, Nat.zero_le _, fun _ h => nomatch h⟩
  | d :: ds, h => by
    obtain ⟨a1, a2, a3, a4, a5⟩ := all fun x hx => h x (List.mem_cons_of_mem _ hx)
    have b := h d List.mem_cons_self
    refine ⟨by simp only [PyData.showableAll, b.sh, a1]; rfl, by simp only [PyData.hasDictAll, b.nd, a2]; rfl, ?_, ?_, ?_⟩
    · have := b.len
      simp only [PyData.shownAll, List.map_cons, List.sum_cons, List.length_cons, Nat.add_mul]
      omega
    · have := b.dep
      simp only [PyData.depthAll]
      omega
    · intro t ht
      simp only [PyData.shownAll] at ht
      rcases List.mem_cons.mp ht with rfl | ht
      · exact b.cp
      · exact a5 t ht
theorem tuple {k j n : Nat} {ds : List D} (h : ∀ d ∈ ds, Fit k j d) (hl : ds.length ≤ n) : Fit (n * (k + 2) + 3) (j + 1) (.tuple ds) := by
  obtain ⟨a1, a2, a3, a4, a5⟩ := all h
  refine ⟨a1, a2, ?_, by show PyData.depthAll ds + 1 ≤ j + 1; omega, ?_⟩
  · have h2 := tupleText_len_le (PyData.shownAll ds)
    rw [PyData.shownAll_length] at h2
    have : ds.length * (k + 2) ≤ n * (k + 2) := Nat.mul_le_mul_right _ hl
    rw [Nat.mul_add] at this
    show (tupleText (PyData.shownAll ds)).length ≤ _
    omega
  · show PyData.strOk (tupleText (PyData.shownAll ds)) = true
    unfold tupleText
    refine cp_append (cp_append (cp_string _) (cp_join (cp_string _) _ a5)) (cp_string _)
theorem least : Fit 7 0 (.str "least") := ⟨rfl, rfl, by decide +kernel, by decide, by decide +kernel⟩
theorem most : Fit 7 0 (.str "most") := ⟨rfl, rfl, by decide +kernel, by decide, by decide +kernel⟩
end Rep

set_option Elab.async false
set_option linter.all false
set_option maxRecDepth 20000
namespace Clk
open PySem Fx

/-! ### comprehensions over told things -/
theorem compL_enc {α : Type} {g : EG} {c : ET} {e : EE} {vs : List Nat} {en0 : En} (enc : α → D) (p : α → Bool) (h : α → D) : ∀ (xs : List α) (acc : List D), acc.length + xs.length ≤ 65536 →
    (∀ x ∈ xs, ∃ en1, g (enc x) en0 = some en1 ∧ ∃ en2, c en1 = .ok (p x) en2 ∧ (p x = true → ∃ en3, dat e en2 = .ok (h x) en3 ∧ wipeE vs en3 = en0) ∧ (p x = false → wipeE vs en2 = en0)) →
    compL g c e vs (xs.map enc) acc en0 = .ok (acc ++ (xs.filter p).map h) en0
  | [], acc, _, _ => by rw [List.map_nil, List.filter_nil, List.map_nil, List.append_nil]; rfl
  | x :: xs, acc, hl, st => by
    rw [List.length_cons] at hl
    obtain ⟨en1, h1, en2, h2, h3, h4⟩ := st x List.mem_cons_self
    have ih := fun acc hl => compL_enc (g := g) (c := c) (e := e) (vs := vs) (en0 := en0) enc p h xs acc hl fun y hy => st y (List.mem_cons_of_mem _ hy)
    rw [List.map_cons]
    unfold compL
    rw [h1]
    simp only [Rs.nox, Rs.bind, h2]
    cases hp : p x with
    | true =>
      obtain ⟨en3, k1, k2⟩ := h3 hp
      rw [if_pos rfl, k1]
      simp only
      rw [if_pos (by omega), k2, ih _ (by rw [List.length_append, List.length_singleton]; omega), List.filter_cons_of_pos hp, List.map_cons, List.append_assoc]
      rfl
    | false =>
      rw [if_neg (by simp), h4 hp, ih _ (by omega), List.filter_cons_of_neg (by rw [hp]; simp)]
theorem oLc_encF {α : Type} {i : EI} {g : EG} {c : ET} {e : EE} {vs : List Nat} {en en1 en0 : En} (enc : α → D) (p : α → Bool) (h : α → D) {xs : List α} (hi : i en = .ok (xs.map enc) en1) (hw : wipeE vs en1 = en0) (hw2 : wipeE vs en0 = en0) (len : xs.length ≤ 65536)
    (st : ∀ x ∈ xs, ∃ en1, g (enc x) en0 = some en1 ∧ ∃ en2, c en1 = .ok (p x) en2 ∧ (p x = true → ∃ en3, dat e en2 = .ok (h x) en3 ∧ wipeE vs en3 = en0) ∧ (p x = false → wipeE vs en2 = en0)) :
    oLc i g c e vs en = .ok (.list ((xs.filter p).map h)) en0 := by
  unfold oLc
  rw [hi]
  show ((compL g c e vs (xs.map enc) [] (wipeE vs en1)).nox.bind fun r en => Rs.ok (PyData.list r) (wipeE vs en)) = _
  rw [hw, compL_enc enc p h xs [] (by simpa using len) st]
  show Rs.ok _ (wipeE vs en0) = _
  rw [hw2, List.nil_append]
theorem oLc_enc {α : Type} {i : EI} {g : EG} {e : EE} {vs : List Nat} {en en1 en0 : En} (enc : α → D) (h : α → D) {xs : List α} (hi : i en = .ok (xs.map enc) en1) (hw : wipeE vs en1 = en0) (hw2 : wipeE vs en0 = en0) (len : xs.length ≤ 65536)
    (st : ∀ x ∈ xs, ∃ en1, g (enc x) en0 = some en1 ∧ ∃ en3, dat e en1 = .ok (h x) en3 ∧ wipeE vs en3 = en0) : oLc i g cYes e vs en = .ok (.list (xs.map h)) en0 := by
  have := oLc_encF (i := i) (g := g) (c := cYes) (e := e) (vs := vs) (en := en) (en1 := en1) (en0 := en0) enc (fun _ => true) h hi hw hw2 len fun x hx => by
    obtain ⟨en1, h1, en3, h2, h3⟩ := st x hx
    exact ⟨en1, h1, en1, rfl, fun _ => ⟨en3, h2, h3⟩, fun z => nomatch z⟩
  rw [this, List.filter_eq_self.mpr (fun _ _ => rfl)]
theorem bools_map {α : Type} (h : α → Bool) : ∀ xs : List α, boolsD (xs.map fun x => PyData.bool (h x)) = some (xs.map h)
  | [] => rfl
  | x :: xs => by simp only [List.map_cons, boolsD, bools_map h xs, Option.map_some]
theorem all_map {α : Type} (h : α → Bool) (xs : List α) : (xs.map h).all id = xs.all h := by rw [List.all_map]; rfl

/-! ### what facts tell: the table of least sums -/
structure Tabl (m : Nat) (fs : List Fact) (p : Int → Int) (ps : Al) : Prop where
  fine : Fine m fs p
  hi : f_highs [.int (m : Int), FD fs] = .ok (.dict (enc ps)) []
  okk : Okk m ps
  dist : Dist m (sidesFrom 0 fs) (look ps)
theorem tabl_of {m : Nat} {fs : List Fact} {p : Int → Int} (h : Fine m fs p) : ∃ ps, Tabl m fs p ps := by
  obtain ⟨ps, hi, ok, d⟩ := highs_ok h.m12 h.len h.snd
  exact ⟨ps, h, hi, ok, d⟩

/-! ### clocks that keep facts -/
def lasted (p : Int → Int) (f : Fact) : Int := (f.came - p f.other) - (f.left - p f.one)
def keepB (p : Int → Int) (f : Fact) : Bool := decide (f.least ≤ lasted p f) && match f.most with
  | none => true
  | some v => decide (lasted p f ≤ v)
theorem keepB_iff {p : Int → Int} {f : Fact} : keepB p f = true ↔ Kept p f := by
  unfold keepB
  rw [Bool.and_eq_true, decide_eq_true_eq]
  constructor
  · rintro ⟨h1, h2⟩
    refine ⟨h1, fun v e => ?_⟩
    rw [e] at h2
    exact of_decide_eq_true h2
  · rintro ⟨h1, h2⟩
    refine ⟨h1, ?_⟩
    cases e : f.most with
    | none => rfl
    | some v => exact decide_eq_true (h2 v e)
theorem ixT {l : List D} {k : Nat} {d : D} (h : l[k]? = some d) : oIx (.tuple l) (.int (k : Int)) = some d := by
  have hk := (List.getElem?_eq_some_iff.mp h).1
  have : L2.ixN l.length (k : Int) = some k := by
    simp [L2.ixN] <;> omega
  simp [oIx, L2.atI, this, h]
theorem ix_clkT {os : List Int} {i : Int} (h0 : 0 ≤ i) (h1 : i < os.length) : oIx (.tuple (List.map .int os)) (.int i) = some (.int (clk os i)) := by
  have hv : i.toNat < os.length := by omega
  have := ixT (l := List.map PyData.int os) (k := i.toNat) (d := .int os[i.toNat]) (by rw [List.getElem?_map, List.getElem?_eq_getElem hv]; rfl)
  rw [show ((i.toNat : Nat) : Int) = i by omega] at this
  rw [this]
  unfold clk
  rw [List.getD_eq_getElem?_getD, List.getElem?_eq_getElem hv]
  rfl
theorem keeps_ok {m : Nat} {f : Fact} (g : Good m f) {c : List Int} (hc : c.length = m) : f_keeps [.tuple (List.map .int c), fd f] = .ok (.bool (keepB (clk c) f)) [] := by
  have i1 := ix_clkT (os := c) g.one.1 (by have := g.one.2; omega)
  have i2 := ix_clkT (os := c) g.other.1 (by have := g.other.2; omega)
  refine fn_wpA [.fz (.tuple (List.map .int c)), .fz (fd f), .un, .un, .un, .un, .un, .un, .un] rfl ?_
  unfold b_keeps
  refine wp_nx (en' := [.fz (.tuple (List.map .int c)), .fz (fd f), .fz (.int f.one), .fz (.int f.left), .fz (.int f.other), .fz (.int f.came), .fz (.int f.least), .fz (oi f.most), .un]) (by simp [fd]) ?_
  refine wp_nx (en' := [.fz (.tuple (List.map .int c)), .fz (fd f), .fz (.int f.one), .fz (.int f.left), .fz (.int f.other), .fz (.int f.came), .fz (.int f.least), .fz (oi f.most), .fz (.int (lasted (clk c) f))]) (by simp [i1, i2, lasted]) ?_
  unfold keepB
  by_cases h : f.least ≤ lasted (clk c) f
  · cases e : f.most with
    | none => simp [wp_ok, h, oi, isN]
    | some v => simp [wp_ok, h, oi, isN]
  · simp [wp_ok, h]
theorem kept_ok {m : Nat} {fs : List Fact} (hl : fs.length ≤ 60) (g : ∀ f ∈ fs, Good m f) {c : List Int} (hc : c.length = m) (m1 : 1 ≤ m) (m12 : m ≤ 1000) :
    f_are_kept [.int (m : Int), FD fs, .tuple (List.map .int c)] = .ok (.bool (decide (clk c 0 = 0) && fs.all (keepB (clk c)))) [] := by
  have i0 := ix_clkT (os := c) (i := 0) (by omega) (by omega)
  have l1 : oLc (iSeq (eV 2)) (nName 3) cYes (eCall [false] f_is_whole (aCons (eV 3) aNil)) [3] [.fz (.int (m : Int)), .fz (FD fs), .fz (.tuple (List.map .int c)), .un, .un] =
      .ok (.list (c.map fun _ => .bool true)) [.fz (.int (m : Int)), .fz (FD fs), .fz (.tuple (List.map .int c)), .un, .un] :=
    oLc_enc PyData.int (fun _ => .bool true) (xs := c) (en1 := [.fz (.int (m : Int)), .fz (FD fs), .fz (.tuple (List.map .int c)), .un, .un]) (by simp [iSeq]) (by simp) (by simp) (by omega) fun x hx =>
      ⟨[.fz (.int (m : Int)), .fz (FD fs), .fz (.tuple (List.map .int c)), .fz (.int x), .un], by simp, [.fz (.int (m : Int)), .fz (FD fs), .fz (.tuple (List.map .int c)), .fz (.int x), .un], by simp [whole_int], by simp⟩
  have l2 : oLc (iSeq (eV 1)) (nName 4) cYes (eCall [false, false] f_keeps (aCons (eV 2) (aCons (eV 4) aNil))) [4] [.fz (.int (m : Int)), .fz (FD fs), .fz (.tuple (List.map .int c)), .un, .un] =
      .ok (.list (fs.map fun f => .bool (keepB (clk c) f))) [.fz (.int (m : Int)), .fz (FD fs), .fz (.tuple (List.map .int c)), .un, .un] :=
    oLc_enc fd (fun f => .bool (keepB (clk c) f)) (xs := fs) (en1 := [.fz (.int (m : Int)), .fz (FD fs), .fz (.tuple (List.map .int c)), .un, .un]) (by simp [iSeq]) (by simp) (by simp) (by omega) fun f hf =>
      ⟨[.fz (.int (m : Int)), .fz (FD fs), .fz (.tuple (List.map .int c)), .un, .fz (fd f)], by simp, [.fz (.int (m : Int)), .fz (FD fs), .fz (.tuple (List.map .int c)), .un, .fz (fd f)], by simp [keeps_ok (g f hf) hc], by simp⟩
  have b1 : boolsD (c.map fun _ => PyData.bool true) = some (c.map fun _ => true) := bools_map (fun _ => true) c
  have a1 : (c.map fun _ => true).all id = true := by rw [all_map]; simp
  have b2 := bools_map (keepB (clk c)) fs
  have a2 := all_map (keepB (clk c)) fs
  refine fn_wpA [.fz (.int (m : Int)), .fz (FD fs), .fz (.tuple (List.map .int c)), .un, .un] rfl ?_
  unfold b_are_kept
  generalize oLc (iSeq (eV 2)) (nName 3) cYes (eCall [false] f_is_whole (aCons (eV 3) aNil)) [3] = L1 at l1
  generalize oLc (iSeq (eV 1)) (nName 4) cYes (eCall [false, false] f_keeps (aCons (eV 2) (aCons (eV 4) aNil))) [4] = L2 at l2
  refine wp_nx (en' := [.fz (.int (m : Int)), .fz (FD fs), .fz (.tuple (List.map .int c)), .un, .un]) (by simp [l1, b1, a1, hc]) ?_
  by_cases h : clk c 0 = 0
  · simp [wp_ok, i0, h, l2, b2, a2]
  · have hb : (clk c 0 == 0) = false := by simp [h]
    simp [wp_ok, i0, hb, h]
theorem are_clocks_ok {m : Nat} {fs : List Fact} {p : Int → Int} (h : Fine m fs p) {c : List Int} (hc : c.length = m) : f_are_clocks [.int (m : Int), FD fs, .tuple (List.map .int c)] = .ok (.bool (decide (clk c 0 = 0) && fs.all (keepB (clk c)))) [] := by
  have e1 := check_facts_ok h
  have e2 := kept_ok h.len h.good hc h.m1 (by have := h.m12; omega)
  refine fn_wpA [.fz (.int (m : Int)), .fz (FD fs), .fz (.tuple (List.map .int c))] rfl ?_
  unfold b_are_clocks
  generalize f_check_facts = f1 at e1
  generalize f_are_kept = f2 at e2
  simp [wp_ok, e1, e2]
end Clk

set_option Elab.async false
set_option linter.all false
set_option maxRecDepth 20000
namespace Clk
open PySem Fx

/-! ### clocks_at, surely, perhaps: functions of the table alone -/
def nearZ (a b : Option Int) : Int := match a with
  | some x => if 0 < x then x else match b with
    | some y => if y < 0 then y else 0
    | none => 0
  | none => match b with
    | some y => if y < 0 then y else 0
    | none => 0
theorem nearest_ok (a b : Option Int) : f_nearest [oi a, oi b] = .ok (.int (nearZ a b)) [] := by
  refine fn_wpA [.fz (oi a), .fz (oi b)] rfl ?_
  unfold b_nearest nearZ
  cases a with
  | none =>
    cases b with
    | none => simp [oi, isN, wp_ok]
    | some y => by_cases h : y < 0 <;> simp [oi, isN, wp_ok, h]
  | some x =>
    by_cases hx : 0 < x
    · simp [oi, isN, wp_ok, hx]
    · cases b with
      | none => simp [oi, isN, wp_ok, hx]
      | some y => by_cases h : y < 0 <;> simp [oi, isN, wp_ok, hx, h]
abbrev Al1 := List (Int × Int)
def enc1 (tl : Al1) : List (D × D) := tl.map fun p => (.int p.1, .int p.2)
def look1 (tl : Al1) (a : Int) : Option Int := (tl.find? fun p => decide (p.1 = a)).map (·.2)
theorem kk_int (a : Int) : kk (.int a) = some (.inl (.inl a)) := rfl
theorem kk1_iff {a c : Int} : (kk (.int a) = kk (.int c)) ↔ a = c := by
  rw [kk_int, kk_int]
  simp
theorem dGet_enc1 (a : Int) : ∀ tl : Al1, dGet (enc1 tl) (.int a) = (look1 tl a).map .int
  | [] => rfl
  | p :: tl => by
    have ih := dGet_enc1 a tl
    unfold dGet look1 enc1 at *
    rw [List.map_cons, List.find?_cons, List.find?_cons]
    by_cases h : p.1 = a
    · rw [decide_eq_true (kk1_iff.mpr h), decide_eq_true h]; rfl
    · rw [decide_eq_false (fun z => h (kk1_iff.mp z)), decide_eq_false h]; exact ih
theorem any_enc1 (a : Int) : ∀ tl : Al1, ((enc1 tl).any fun p => decide (kk p.1 = kk (.int a))) = (look1 tl a).isSome
  | [] => rfl
  | p :: tl => by
    have ih := any_enc1 a tl
    unfold look1 enc1 at *
    rw [List.map_cons, List.any_cons, List.find?_cons]
    by_cases h : p.1 = a
    · rw [decide_eq_true (kk1_iff.mpr h), decide_eq_true h]; rfl
    · rw [decide_eq_false (fun z => h (kk1_iff.mp z)), decide_eq_false h, Bool.false_or]; exact ih
theorem dPut_enc1 {a v : Int} {tl : Al1} (h : look1 tl a = none) : dPut (enc1 tl) (.int a) (.int v) = enc1 (tl ++ [(a, v)]) := by
  unfold dPut
  rw [any_enc1, h]
  unfold enc1
  rw [List.map_append]
  rfl
theorem fits_enc1 (a : Int) (tl : Al1) : fits (enc1 tl) (.int a) = true := by
  cases tl <;> rfl
theorem look1_snoc {tl : Al1} {a v b : Int} (h : look1 tl a = none) : look1 (tl ++ [(a, v)]) b = if b = a then some v else look1 tl b := by
  unfold look1 at *
  rw [List.find?_append]
  by_cases e : b = a
  · subst e
    rw [if_pos rfl]
    cases q : tl.find? (fun p => decide (p.1 = b)) with
    | none => simp
    | some x => rw [q] at h; cases h
  · rw [if_neg e]
    cases q : tl.find? (fun p => decide (p.1 = b)) with
    | none => simp [Ne.symm e]
    | some x => simp
/-- the ends by one told offset more -/
def endZ (T : Tab) (o : Int) (st : Option Int × Option Int) (p : Int × Int) : Option Int × Option Int :=
  (match pz (ng (T o p.1)) (some p.2) with
    | none => st.1
    | some b => match st.1 with
      | none => some b
      | some l => if l < b then some b else some l, lz st.2 (pz (T p.1 o) (some p.2)))
def endsZ (T : Tab) (tl : Al1) (o : Int) : Option Int × Option Int := tl.foldl (endZ T o) (none, none)
theorem items1 (tl : Al1) : itemsOf (enc1 tl) = tl.map fun p => .tuple [.int p.1, .int p.2] := by
  unfold itemsOf enc1
  rw [List.map_map]
  rfl
theorem together_i (a : Option Int) (b : Int) : f_together [oi a, .int b] = .ok (oi (pz a (some b))) [] := together_ok a (some b)
theorem ends_ok {ps : Al} {tl : Al1} {o : Int} : f_ends_by [.dict (enc ps), .dict (enc1 tl), .int o] = .ok (.tuple [oi (endsZ (look ps) tl o).1, oi (endsZ (look ps) tl o).2]) [] := by
  refine fn_wpA [.fz (.dict (enc ps)), .fz (.dict (enc1 tl)), .fz (.int o), .un, .un, .un, .un, .un, .un] rfl ?_
  unfold b_ends_by
  refine wp_nx (en' := [.fz (.dict (enc ps)), .fz (.dict (enc1 tl)), .fz (.int o), .fz .none, .fz .none, .un, .un, .un, .un]) (by simp) ?_
  refine wp_seq ?_
  refine wp_forN (tl.map fun p => .tuple [.int p.1, .int p.2]) [.fz (.dict (enc ps)), .fz (.dict (enc1 tl)), .fz (.int o), .fz .none, .fz .none, .un, .un, .un, .un] (by simp [iIt, items1])
    (fun i en => ∃ o5 o6 o7 o8, en = [.fz (.dict (enc ps)), .fz (.dict (enc1 tl)), .fz (.int o), .fz (oi (endsZ (look ps) (tl.take i) o).1), .fz (oi (endsZ (look ps) (tl.take i) o).2), sl o5, sl o6, sl o7, sl o8])
    ⟨none, none, none, none, rfl⟩ ?_ ?_
  · rintro i d en hd ⟨o5, o6, o7, o8, rfl⟩
    rw [List.getElem?_map] at hd
    obtain ⟨q, hq, rfl⟩ := Option.map_eq_some_iff.mp hd
    have e1 : endsZ (look ps) (tl.take (i + 1)) o = endZ (look ps) o (endsZ (look ps) (tl.take i) o) q := by
      unfold endsZ
      rw [take_snoc hq, List.foldl_append]
      rfl
    rw [e1]
    generalize endsZ (look ps) (tl.take i) o = st
    obtain ⟨l, g⟩ := st
    refine ⟨[.fz (.dict (enc ps)), .fz (.dict (enc1 tl)), .fz (.int o), .fz (oi l), .fz (oi g), .fz (.int q.1), .fz (.int q.2), sl o7, sl o8], by simp, ?_⟩
    have h1 := high_ok (ps := ps) (a := q.1) (b := o)
    have h2 := low_ok (ps := ps) (a := q.1) (b := o)
    refine wp_nx (en' := [.fz (.dict (enc ps)), .fz (.dict (enc1 tl)), .fz (.int o), .fz (oi l), .fz (oi g), .fz (.int q.1), .fz (.int q.2), .fz (oi (pz (look ps q.1 o) (some q.2))), .fz (oi (pz (ng (look ps o q.1)) (some q.2)))]) (by simp [h1, h2, together_i]) ?_
    refine wp_nx (en' := [.fz (.dict (enc ps)), .fz (.dict (enc1 tl)), .fz (.int o), .fz (oi l), .fz (oi (lz g (pz (look ps q.1 o) (some q.2)))), .fz (.int q.1), .fz (.int q.2), .fz (oi (pz (look ps q.1 o) (some q.2))), .fz (oi (pz (ng (look ps o q.1)) (some q.2)))]) (by simp [lesser_ok]) ?_
    unfold endZ
    cases eb : pz (ng (look ps o q.1)) (some q.2) with
    | none => simp [wp_ok, oi_none, isN]
    | some b =>
      cases l with
      | none => simp [wp_ok, oi_none, oi_some, isN]
      | some l =>
        by_cases h : l < b
        · simp [wp_ok, oi_some, isN, h]
        · simp [wp_ok, oi_some, isN, h]
  · rintro en ⟨o5, o6, o7, o8, rfl⟩
    rw [List.length_map, List.take_length]
    simp [wp_ok]
def withinZ (T : Tab) (tl : Al1) (site off : Int) : Bool := (match (endsZ T tl site).1 with
  | none => true
  | some l => decide (l ≤ off)) && (match (endsZ T tl site).2 with
  | none => true
  | some g => decide (off ≤ g))
theorem within_ok {ps : Al} {tl : Al1} {site off : Int} : f_are_within [.dict (enc ps), .dict (enc1 tl), .int site, .int off] = .ok (.bool (withinZ (look ps) tl site off)) [] := by
  have e := ends_ok (ps := ps) (tl := tl) (o := site)
  refine fn_wpA [.fz (.dict (enc ps)), .fz (.dict (enc1 tl)), .fz (.int site), .fz (.int off), .un, .un] rfl ?_
  unfold b_are_within withinZ
  generalize f_ends_by = f at e
  generalize endsZ (look ps) tl site = st at e
  obtain ⟨l, g⟩ := st
  refine wp_nx (en' := [.fz (.dict (enc ps)), .fz (.dict (enc1 tl)), .fz (.int site), .fz (.int off), .fz (oi l), .fz (oi g)]) (by simp [e]) ?_
  cases l with
  | none => cases g <;> simp [wp_ok, oi, isN]
  | some l =>
    by_cases h : l ≤ off
    · cases g <;> simp [wp_ok, oi, isN, h]
    · simp [wp_ok, oi, isN, h]
end Clk

set_option Elab.async false
set_option linter.all false
set_option maxRecDepth 20000
namespace Clk
open PySem Fx

def toldStep (T : Tab) (tl : Al1) (o : Int) : Al1 := if (look1 tl o).isSome = true then tl else tl ++ [(o, nearZ (endsZ T tl o).1 (endsZ T tl o).2)]
def toldZ (T : Tab) (os : List Int) (site off : Int) : Al1 := os.foldl (toldStep T) [(0, 0), (site, off)]
def clkAt (T : Tab) (m : Nat) (site off : Int) : D := if withinZ T [(0, 0)] site off = true then .tuple ((upI m).map fun k => .int ((look1 (toldZ T (upI m) site off) k).getD 0)) else .none
@[simp] theorem flat_oi (a : Option Int) : flatD (oi a) = true := by cases a <;> rfl
theorem told_len {T : Tab} {tl : Al1} {o : Int} : (toldStep T tl o).length ≤ tl.length + 1 := by
  unfold toldStep
  split
  · omega
  · rw [List.length_append]; simp
theorem told_some {T : Tab} {tl : Al1} {o k : Int} (h : k = o ∨ (look1 tl k).isSome = true) : (look1 (toldStep T tl o) k).isSome = true := by
  unfold toldStep
  split
  · rename_i hs
    rcases h with rfl | h
    · exact hs
    · exact h
  · rename_i hs
    have hn : look1 tl o = none := by
      cases e : look1 tl o with
      | none => rfl
      | some x => rw [e] at hs; exact absurd rfl hs
    rw [look1_snoc hn]
    split
    · rfl
    · rename_i ne
      rcases h with h | h
      · exact absurd h ne
      · exact h
def b_tell : ES := sFor (iR1 (aCons (eV 0) aNil)) (nName 6) (sIf (cB (eIn true (eV 6) (eV 5))) (sSeq (sAsg (eCallB 5 f_ends_by [.inl 4, .inl 5, .inl 6]) (nTup 2 (nCons (nName 7) (nCons (nName 8) nNil))))
    (sPut (eV 5) (kSim (eV 6)) (eCall [false, false] f_nearest (aCons (eV 7) (aCons (eV 8) aNil))))) sNx)
theorem tell_ok {m : Nat} (hm : m ≤ 1000) {F : D} {ps : Al} {site off : Int} {s2 s3 : Sl} {Q : Out → En → Prop}
    (k : ∀ o6 o7 o8, (∀ j, In m j → (look1 (toldZ (look ps) (upI m) site off) j).isSome = true) → Q .nx [.fz (.int (m : Int)), .fz F, s2, s3, .fz (.dict (enc ps)), .ow (.dict (enc1 (toldZ (look ps) (upI m) site off))), sl o6, sl o7, sl o8, .un]) :
    Wp (b_tell [.fz (.int (m : Int)), .fz F, s2, s3, .fz (.dict (enc ps)), .ow (.dict (enc1 [(0, 0), (site, off)])), .un, .un, .un, .un]) Q := by
  unfold b_tell
  refine wp_forN ((upI m).map PyData.int) [.fz (.int (m : Int)), .fz F, s2, s3, .fz (.dict (enc ps)), .ow (.dict (enc1 [(0, 0), (site, off)])), .un, .un, .un, .un] (iR1_nat (by omega) (by simp))
    (fun i en => ∃ o6 o7 o8, en = [.fz (.int (m : Int)), .fz F, s2, s3, .fz (.dict (enc ps)), .ow (.dict (enc1 (toldZ (look ps) ((upI m).take i) site off))), sl o6, sl o7, sl o8, .un] ∧ (toldZ (look ps) ((upI m).take i) site off).length ≤ i + 2 ∧ ∀ j : Int, 0 ≤ j → j < i → (look1 (toldZ (look ps) ((upI m).take i) site off) j).isSome = true)
    ⟨none, none, none, rfl, Nat.le_refl _, fun j h0 h1 => absurd h0 (by omega)⟩ ?_ ?_
  · rintro i d en hd ⟨o6, o7, o8, rfl, hl, hs⟩
    obtain ⟨hi, rfl⟩ := upI_at hd
    have e1 : toldZ (look ps) ((upI m).take (i + 1)) site off = toldStep (look ps) (toldZ (look ps) ((upI m).take i) site off) (i : Int) := by
      unfold toldZ
      rw [take_snoc (upI_get hi), List.foldl_append]
      rfl
    rw [e1]
    generalize toldZ (look ps) ((upI m).take i) site off = tl at *
    refine ⟨[.fz (.int (m : Int)), .fz F, s2, s3, .fz (.dict (enc ps)), .ow (.dict (enc1 tl)), .fz (.int i), sl o7, sl o8, .un], by simp, ?_⟩
    have nl : (toldStep (look ps) tl (i : Int)).length ≤ i + 1 + 2 := by have := told_len (T := look ps) (tl := tl) (o := (i : Int)); omega
    have ns : ∀ j : Int, 0 ≤ j → j < (i + 1 : Nat) → (look1 (toldStep (look ps) tl (i : Int)) j).isSome = true := fun j h0 h1 => told_some (by
      by_cases e : j = (i : Int)
      · exact .inl e
      · exact .inr (hs j h0 (by omega)))
    cases hk : look1 tl (i : Int) with
    | some x =>
      have st : toldStep (look ps) tl (i : Int) = tl := by unfold toldStep; rw [hk]; rfl
      rw [st] at nl ns ⊢
      simp [wp_ok, eIn, fits_enc1, dGet_enc1, hk]
      exact ⟨nl, fun j h0 h1 => ns j h0 (by omega)⟩
    | none =>
      have st : toldStep (look ps) tl (i : Int) = tl ++ [((i : Int), nearZ (endsZ (look ps) tl i).1 (endsZ (look ps) tl i).2)] := by unfold toldStep; rw [hk]; rfl
      rw [st] at nl ns ⊢
      have eo := ends_ok (ps := ps) (tl := tl) (o := (i : Int))
      have en := nearest_ok (endsZ (look ps) tl i).1 (endsZ (look ps) tl i).2
      have dp := dPut_enc1 (v := nearZ (endsZ (look ps) tl i).1 (endsZ (look ps) tl i).2) hk
      have l2 : tl.length < 65536 := by omega
      have le : (enc1 tl).length = tl.length := List.length_map ..
      generalize f_ends_by = fe at eo
      generalize f_nearest = fn at en
      refine wp_ifT (en' := [.fz (.int (m : Int)), .fz F, s2, s3, .fz (.dict (enc ps)), .ow (.dict (enc1 tl)), .fz (.int i), sl o7, sl o8, .un]) (by simp [eIn, fits_enc1, dGet_enc1, hk]) ?_
      refine wp_nx (en' := [.fz (.int (m : Int)), .fz F, s2, s3, .fz (.dict (enc ps)), .ow (.dict (enc1 tl)), .fz (.int i), .fz (oi (endsZ (look ps) tl i).1), .fz (oi (endsZ (look ps) tl i).2), .un]) (by simp [eCallB, owns, bVals, bVal, eo, flatT]) ?_
      refine wp_last (o := .nx) (en' := [.fz (.int (m : Int)), .fz F, s2, s3, .fz (.dict (enc ps)), .ow (.dict (enc1 (tl ++ [((i : Int), nearZ (endsZ (look ps) tl i).1 (endsZ (look ps) tl i).2)]))), .fz (.int i), .fz (oi (endsZ (look ps) tl i).1), .fz (oi (endsZ (look ps) tl i).2), .un]) (by simp [sPut, kSim, en, fits_enc1, dp, l2, le]) ?_
      exact ⟨some (.int i), some _, some _, rfl, nl, ns⟩
  · rintro en ⟨o6, o7, o8, rfl, hl, hs⟩
    have e : ((upI m).map PyData.int).length = m := by rw [List.length_map, upI_len]
    have e2 : (upI m).take m = upI m := List.take_of_length_le (by rw [upI_len]; exact Nat.le_refl _)
    rw [e, e2] at hs
    rw [e, e2]
    exact k o6 o7 o8 fun j ij => hs j ij.1 ij.2
theorem disp0 {en : En} : oDisp (qCons (eC (.int 0)) (eC (.int 0)) qNil) en = .ok (.dict (enc1 [(0, 0)])) en := rfl
theorem disp1 {site off : Int} (h : site ≠ 0) {s0 s1 s4 s5 s6 s7 s8 s9 : Sl} : oDisp (qCons (eC (.int 0)) (eC (.int 0)) (qCons (eV 2) (eV 3) qNil)) [s0, s1, .fz (.int site), .fz (.int off), s4, s5, s6, s7, s8, s9] = .ok (.dict (enc1 [(0, 0), (site, off)])) [s0, s1, .fz (.int site), .fz (.int off), s4, s5, s6, s7, s8, s9] := by
  have n : look1 [(0, 0)] site = none := by
    unfold look1
    simp [Ne.symm h]
  have d := dPut_enc1 (v := off) n
  have e0 : dPut [] (.int 0) (.int 0) = enc1 [(0, 0)] := rfl
  simp [oDisp, qCons, qNil, simK, e0, d]
theorem body_at : b_clocks_at = (sSeq (sDrop (eCall [false, false] f_check_facts (aCons (eV 0) (aCons (eV 1) aNil))))
    (sSeq (sDrop (eCall [false, false] f_check_site (aCons (eV 0) (aCons (eV 2) aNil))))
    (sSeq (sDrop (eCall [false, false] f_check_round (aCons (eV 0) (aCons (eV 1) aNil))))
    (sSeq (sIf (cNot (cB (eCall [false] f_is_whole (aCons (eV 3) aNil)))) sSt sNx)
    (sSeq (sAsg (eCall [false, false] f_highs (aCons (eV 0) (aCons (eV 1) aNil))) (nName 4))
    (sSeq (sIf (cNot (cB (eCall [false, false, false, false] f_are_within (aCons (eV 4) (aCons (ofO (oDisp (qCons (eC (.int 0)) (eC (.int 0)) qNil))) (aCons (eV 2) (aCons (eV 3) aNil))))))) (sRet (eC .none)) sNx)
    (sSeq (sSetO 5 (oDisp (qCons (eC (.int 0)) (eC (.int 0)) (qCons (eV 2) (eV 3) qNil))))
    (sSeq b_tell
    (sRet (eUn oTuple (ofO (oLc (iR1 (aCons (eV 0) aNil)) (nName 9) cYes (eItem (eV 5) (eV 9)) [9])))))))))))) := by
  unfold b_clocks_at b_tell
  rfl
theorem at_wp {g1 g2 g3 g4 g5 g6 : Fn} {L : EO} {m site off : D} {F K v : D} {B : ES} {d0 : D} {tl : D} {w : Bool} {r : D} {s6 s7 s8 : Sl} (h1 : g1 [m, F] = .ok .none []) (h2 : g2 [m, site] = .ok .none []) (h3 : g3 [m, F] = .ok .none []) (h4 : g4 [off] = .ok (.bool true) []) (h5 : g5 [m, F] = .ok K []) (h6 : g6 [K, d0, site, off] = .ok (.bool w) [])
    {D0 D1 : EO} (e0 : D0 [.fz m, .fz F, .fz site, .fz off, .fz K, .un, .un, .un, .un, .un] = .ok d0 [.fz m, .fz F, .fz site, .fz off, .fz K, .un, .un, .un, .un, .un]) {d1 : D} (e1 : D1 [.fz m, .fz F, .fz site, .fz off, .fz K, .un, .un, .un, .un, .un] = .ok d1 [.fz m, .fz F, .fz site, .fz off, .fz K, .un, .un, .un, .un, .un])
    (hB : ∀ Q : Out → En → Prop, (∀ o6 o7 o8, Q .nx [.fz m, .fz F, .fz site, .fz off, .fz K, .ow tl, sl o6, sl o7, sl o8, .un]) → Wp (B [.fz m, .fz F, .fz site, .fz off, .fz K, .ow d1, .un, .un, .un, .un]) Q)
    {ls : List D} (hL : ∀ o6 o7 o8, L [.fz m, .fz F, .fz site, .fz off, .fz K, .ow tl, sl o6, sl o7, sl o8, .un] = .ok (.list ls) [.fz m, .fz F, .fz site, .fz off, .fz K, .ow tl, sl o6, sl o7, sl o8, .un]) :
    Wp ((sSeq (sDrop (eCall [false, false] g1 (aCons (eV 0) (aCons (eV 1) aNil))))
    (sSeq (sDrop (eCall [false, false] g2 (aCons (eV 0) (aCons (eV 2) aNil))))
    (sSeq (sDrop (eCall [false, false] g3 (aCons (eV 0) (aCons (eV 1) aNil))))
    (sSeq (sIf (cNot (cB (eCall [false] g4 (aCons (eV 3) aNil)))) sSt sNx)
    (sSeq (sAsg (eCall [false, false] g5 (aCons (eV 0) (aCons (eV 1) aNil))) (nName 4))
    (sSeq (sIf (cNot (cB (eCall [false, false, false, false] g6 (aCons (eV 4) (aCons (ofO D0) (aCons (eV 2) (aCons (eV 3) aNil))))))) (sRet (eC .none)) sNx)
    (sSeq (sSetO 5 D1)
    (sSeq B
    (sRet (eUn oTuple (ofO L))))))))))) [.fz m, .fz F, .fz site, .fz off, .un, .un, .un, .un, .un, .un]) fun o en => o = .rt (if w = true then .tuple ls else .none) ∧ outsOf [false, false, false, false] 0 en = some [] := by
  refine wp_nx (en' := [.fz m, .fz F, .fz site, .fz off, .un, .un, .un, .un, .un, .un]) (by simp [h1]) ?_
  refine wp_nx (en' := [.fz m, .fz F, .fz site, .fz off, .un, .un, .un, .un, .un, .un]) (by simp [h2]) ?_
  refine wp_nx (en' := [.fz m, .fz F, .fz site, .fz off, .un, .un, .un, .un, .un, .un]) (by simp [h3]) ?_
  refine wp_nx (en' := [.fz m, .fz F, .fz site, .fz off, .un, .un, .un, .un, .un, .un]) (by simp [h4]) ?_
  refine wp_nx (en' := [.fz m, .fz F, .fz site, .fz off, .fz K, .un, .un, .un, .un, .un]) (by simp [h5]) ?_
  cases w with
  | false => simp [e0, h6, wp_ok]
  | true =>
    refine wp_nx (en' := [.fz m, .fz F, .fz site, .fz off, .fz K, .un, .un, .un, .un, .un]) (by simp [e0, h6]) ?_
    refine wp_nx (setO_eq e1 (by simp) (by simp <;> rfl)) ?_
    refine wp_seq ?_
    refine hB _ fun o6 o7 o8 => ?_
    simp [wp_ok, hL]
theorem clocks_at_ok {m : Nat} {fs : List Fact} {p : Int → Int} {ps : Al} (h : Tabl m fs p ps) {site off : Int} (is : In m site) (s0 : site ≠ 0) : f_clocks_at [.int (m : Int), FD fs, .int site, .int off] = .ok (clkAt (look ps) m site off) [] := by
  have m12 := h.fine.m12
  have hL : ∀ o6 o7 o8, (∀ j, In m j → (look1 (toldZ (look ps) (upI m) site off) j).isSome = true) → oLc (iR1 (aCons (eV 0) aNil)) (nName 9) cYes (eItem (eV 5) (eV 9)) [9] [.fz (.int (m : Int)), .fz (FD fs), .fz (.int site), .fz (.int off), .fz (.dict (enc ps)), .ow (.dict (enc1 (toldZ (look ps) (upI m) site off))), sl o6, sl o7, sl o8, .un] =
      .ok (.list ((upI m).map fun k => .int ((look1 (toldZ (look ps) (upI m) site off) k).getD 0))) [.fz (.int (m : Int)), .fz (FD fs), .fz (.int site), .fz (.int off), .fz (.dict (enc ps)), .ow (.dict (enc1 (toldZ (look ps) (upI m) site off))), sl o6, sl o7, sl o8, .un] := fun o6 o7 o8 hs =>
    oLc_enc PyData.int (fun k => .int ((look1 (toldZ (look ps) (upI m) site off) k).getD 0)) (xs := upI m) (en1 := [.fz (.int (m : Int)), .fz (FD fs), .fz (.int site), .fz (.int off), .fz (.dict (enc ps)), .ow (.dict (enc1 (toldZ (look ps) (upI m) site off))), sl o6, sl o7, sl o8, .un]) (iR1_nat (by omega) (by simp)) (by simp) (by simp) (by rw [upI_len]; omega) fun k hk => by
      have := hs k (mem_upI.mp hk)
      obtain ⟨v, hv⟩ := Option.isSome_iff_exists.mp this
      exact ⟨[.fz (.int (m : Int)), .fz (FD fs), .fz (.int site), .fz (.int off), .fz (.dict (enc ps)), .ow (.dict (enc1 (toldZ (look ps) (upI m) site off))), sl o6, sl o7, sl o8, .fz (.int k)], by simp, [.fz (.int (m : Int)), .fz (FD fs), .fz (.int site), .fz (.int off), .fz (.dict (enc ps)), .ow (.dict (enc1 (toldZ (look ps) (upI m) site off))), sl o6, sl o7, sl o8, .fz (.int k)], by simp [eItem, fits_enc1, dGet_enc1, hv], by simp⟩
  have all : ∀ j, In m j → (look1 (toldZ (look ps) (upI m) site off) j).isSome = true := by
    intro j hj
    have key : ∀ (os : List Int) (tl : Al1), (j ∈ os ∨ (look1 tl j).isSome = true) → (look1 (os.foldl (toldStep (look ps)) tl) j).isSome = true := by
      intro os
      induction os with
      | nil => intro tl h; rcases h with h | h; cases h; exact h
      | cons o os ih =>
        intro tl h
        rw [List.foldl_cons]
        refine ih _ ?_
        rcases h with h | h
        · rcases List.mem_cons.mp h with rfl | h
          · exact .inr (told_some (.inl rfl))
          · exact .inl h
        · exact .inr (told_some (.inr h))
    exact key _ _ (.inl (mem_upI.mpr hj))
  refine fn_wpA [.fz (.int (m : Int)), .fz (FD fs), .fz (.int site), .fz (.int off), .un, .un, .un, .un, .un, .un] rfl ?_
  rw [body_at]
  unfold clkAt
  exact at_wp (tl := .dict (enc1 (toldZ (look ps) (upI m) site off))) (v := .none) (r := .none) (s6 := .un) (s7 := .un) (s8 := .un) (check_facts_ok h.fine) (check_site_ok is) (round_ok h.fine h.hi h.dist) (whole_int off) h.hi (within_ok (ps := ps) (tl := [(0, 0)]) (site := site) (off := off)) disp0 (disp1 s0)
    (fun Q k => tell_ok (by omega) fun o6 o7 o8 _ => k o6 o7 o8) fun o6 o7 o8 => hL o6 o7 o8 all
theorem tick_ok {t : Int} (h0 : 0 ≤ t) (h1 : t ≤ 9999) : f_check_tick [.int t] = .ok .none [] := by
  have e : f_is_tick [.int t] = .ok (.bool true) [] := by
    refine fn_wpA [.fz (.int t)] rfl ?_
    unfold b_is_tick
    simp [wp_ok, between_int, h0, h1]
  refine fn_nxA [.fz (.int t)] rfl ?_
  unfold b_check_tick
  generalize f_is_tick = f at e
  simp [wp_ok, e]
theorem tells_wp {g1 g2 g3 g4 g5 g6 g7 : Fn} {m F site t K a r : D} {x y : EE} {sa sb : D} (h1 : g1 [m, F] = .ok .none []) (h2 : g2 [m, site] = .ok .none []) (h3 : g3 [m, F] = .ok .none []) (h4 : g4 [t] = .ok .none []) (h5 : g5 [m, F] = .ok K []) (h6 : g6 [K, .int 0, site] = .ok a []) (h7 : g7 [a, t] = .ok r []) :
    Wp ((sSeq (sDrop (eCall [false, false] g1 (aCons (eV 0) (aCons (eV 1) aNil))))
    (sSeq (sDrop (eCall [false, false] g2 (aCons (eV 0) (aCons (eV 2) aNil))))
    (sSeq (sDrop (eCall [false, false] g3 (aCons (eV 0) (aCons (eV 1) aNil))))
    (sSeq (sDrop (eCall [false] g4 (aCons (eV 3) aNil)))
    (sRet (eCall [false, false] g7 (aCons (eCall [false, false, false] g6 (aCons (eCall [false, false] g5 (aCons (eV 0) (aCons (eV 1) aNil))) (aCons (eC (.int 0)) (aCons (eV 2) aNil)))) (aCons (eV 3) aNil)))))))) [.fz m, .fz F, .fz site, .fz t]) fun o en => o = .rt r ∧ outsOf [false, false, false, false] 0 en = some [] := by
  simp [wp_ok, h1, h2, h3, h4, h5, h6, h7]
theorem surely_ok {m : Nat} {fs : List Fact} {p : Int → Int} {ps : Al} (h : Tabl m fs p ps) {site t : Int} (is : In m site) (h0 : 0 ≤ t) (h1 : t ≤ 9999) : f_surely [.int (m : Int), FD fs, .int site, .int t] = .ok (oi (pz (look ps 0 site) (some t))) [] :=
  fn_wpA (b := b_surely) (io := [false, false, false, false]) (n := 4) _ rfl (tells_wp (x := eC .none) (y := eC .none) (sa := .none) (sb := .none) (check_facts_ok h.fine) (check_site_ok is) (round_ok h.fine h.hi h.dist) (tick_ok h0 h1) h.hi high_ok (together_i _ t))
theorem perhaps_ok {m : Nat} {fs : List Fact} {p : Int → Int} {ps : Al} (h : Tabl m fs p ps) {site t : Int} (is : In m site) (h0 : 0 ≤ t) (h1 : t ≤ 9999) : f_perhaps [.int (m : Int), FD fs, .int site, .int t] = .ok (oi (pz (ng (look ps site 0)) (some t))) [] :=
  fn_wpA (b := b_perhaps) (io := [false, false, false, false]) (n := 4) _ rfl (tells_wp (x := eC .none) (y := eC .none) (sa := .none) (sb := .none) (check_facts_ok h.fine) (check_site_ok is) (round_ok h.fine h.hi h.dist) (tick_ok h0 h1) h.hi low_ok (together_i _ t))
end Clk

set_option Elab.async false
set_option linter.all false
set_option maxRecDepth 20000
namespace Clk
open PySem Fx

/-! ### facts left out -/
structure Drawn (m : Nat) (fs : List Fact) (p : Int → Int) : Prop where
  m1 : 1 ≤ m
  m12 : m ≤ 12
  len : fs.length ≤ 60
  all : ∀ f ∈ fs, Good m f ∧ Kept p f
theorem Drawn.fine {m : Nat} {fs : List Fact} {p : Int → Int} (h : Drawn m fs p) : Fine m fs p := fine_of h.m1 h.m12 h.len h.all
theorem Drawn.sub {m : Nat} {fs gs : List Fact} {p : Int → Int} (h : Drawn m fs p) (hl : gs.length ≤ 60) (hs : ∀ f ∈ gs, f ∈ fs) : Drawn m gs p := ⟨h.m1, h.m12, hl, fun f hf => h.all f (hs f hf)⟩
def lessZ (fs : List Fact) (ns : List Int) : List Fact := (fs.zipIdx.filter fun q => !(ns.any fun n => n == (q.2 : Int))).map (·.1)
theorem less_mem {fs : List Fact} {ns : List Int} {f : Fact} : f ∈ lessZ fs ns ↔ ∃ k : Nat, fs[k]? = some f ∧ (k : Int) ∉ ns := by
  unfold lessZ
  rw [List.mem_map]
  constructor
  · rintro ⟨q, hq, rfl⟩
    obtain ⟨h1, h2⟩ := List.mem_filter.mp hq
    have h3 := List.mem_zipIdx_iff_getElem?.mp h1
    refine ⟨q.2, h3, fun z => ?_⟩
    have : (ns.any fun n => n == (q.2 : Int)) = true := List.any_eq_true.mpr ⟨_, z, by simp⟩
    rw [this] at h2
    cases h2
  · rintro ⟨k, h1, h2⟩
    refine ⟨(f, k), List.mem_filter.mpr ⟨List.mem_zipIdx_iff_getElem?.mpr h1, ?_⟩, rfl⟩
    have : (ns.any fun n => n == (k : Int)) = false := by
      rw [List.any_eq_false]
      intro n hn e
      have : n = (k : Int) := by simpa using e
      exact h2 (this ▸ hn)
    show (!(ns.any fun n => n == (k : Int))) = true
    rw [this]
    rfl
theorem less_len (fs : List Fact) (ns : List Int) : (lessZ fs ns).length ≤ fs.length := by
  unfold lessZ
  rw [List.length_map]
  have := List.length_filter_le (fun q : Fact × Nat => !(ns.any fun n => n == (q.2 : Int))) fs.zipIdx
  rwa [List.length_zipIdx] at this
theorem Drawn.less {m : Nat} {fs : List Fact} {p : Int → Int} (h : Drawn m fs p) (ns : List Int) : Drawn m (lessZ fs ns) p :=
  h.sub (Nat.le_trans (less_len fs ns) h.len) fun f hf => by
    obtain ⟨k, h1, _⟩ := less_mem.mp hf
    exact List.mem_of_getElem? h1
theorem canLay_ints : ∀ ns : List Int, PyData.canLayAll0 (ns.map PyData.int) = true
  | [] => rfl
  | n :: ns => by rw [List.map_cons, PyData.canLayAll0, canLay_ints ns]; rfl
theorem depth_ints : ∀ ns : List Int, PyData.depthAll (ns.map PyData.int) = 0
  | [] => rfl
  | n :: ns => by rw [List.map_cons, PyData.depthAll, depth_ints ns]; rfl
theorem shaped_ints (ns : List Int) : SeqAt.shaped (.list (ns.map PyData.int)) = true := by
  unfold SeqAt.shaped
  rw [show PyData.canLay0 (.list (ns.map PyData.int)) = true from canLay_ints ns]
  have : PyData.depth (.list (ns.map PyData.int)) = 1 := by
    show PyData.depthAll (ns.map PyData.int) + 1 = 1
    rw [depth_ints]
  rw [this]
  rfl
theorem any_ints (i : Int) : ∀ ns : List Int, ((ns.map PyData.int).any fun z => PyData.eqv z (.int i)) = ns.any fun n => n == i
  | [] => rfl
  | n :: ns => by
    rw [List.map_cons, List.any_cons, List.any_cons, any_ints i ns]
    rfl
theorem in_ints (neg : Bool) (i : Int) (ns : List Int) : oInL neg (.int i) (.list (ns.map .int)) = some (.bool (neg ^^ ns.any fun n => n == i)) := by
  unfold oInL
  simp only
  rw [if_pos ⟨rfl, shaped_ints ns⟩, any_ints]
theorem pairs_fd (fs : List Fact) : pairsOf (fs.map fd) = fs.zipIdx.map fun q => .tuple [.int (q.2 : Nat), fd q.1] := by
  unfold pairsOf
  rw [List.zipIdx_map, List.map_map]
  rfl
theorem lessL {fs : List Fact} {ns : List Int} (hl : fs.length ≤ 60) : oLc (iEnm (eV 0)) (nTup 2 (nCons (nName 2) (nCons (nName 3) nNil))) (cB (eOp (oInL true) (eV 2) (eV 1))) (eV 3) [2, 3] [.fz (FD fs), .fz (.list (ns.map .int)), .un, .un] =
    .ok (.list ((fs.zipIdx.filter fun q => !(ns.any fun n => n == (q.2 : Int))).map fun q => fd q.1)) [.fz (FD fs), .fz (.list (ns.map .int)), .un, .un] :=
  oLc_encF (fun q : Fact × Nat => .tuple [.int (q.2 : Nat), fd q.1]) (fun q => !(ns.any fun n => n == (q.2 : Int))) (fun q => fd q.1) (xs := fs.zipIdx) (en1 := [.fz (FD fs), .fz (.list (ns.map .int)), .un, .un]) (by simp [iEnm, pairs_fd]) (by simp) (by simp) (by rw [List.length_zipIdx]; omega) fun q hq =>
    ⟨[.fz (FD fs), .fz (.list (ns.map .int)), .fz (.int (q.2 : Nat)), .fz (fd q.1)], by simp, [.fz (FD fs), .fz (.list (ns.map .int)), .fz (.int (q.2 : Nat)), .fz (fd q.1)], by simp [in_ints], fun _ => ⟨[.fz (FD fs), .fz (.list (ns.map .int)), .fz (.int (q.2 : Nat)), .fz (fd q.1)], by simp, by simp⟩, fun _ => by simp⟩
theorem less_raw {x y : D} {ds : List D} {L : EO} (l : L [.fz x, .fz y, .un, .un] = .ok (.list ds) [.fz x, .fz y, .un, .un]) : noer (fnOf [false, false] 4 (sRet (eUn oTuple (ofO L)))) [x, y] = .ok (.tuple ds) [] :=
  fn_wpA [.fz x, .fz y, .un, .un] rfl (tuple_wp l rfl)
theorem less_eq {fs : List Fact} {ns : List Int} : FD (lessZ fs ns) = .tuple ((fs.zipIdx.filter fun q => !(ns.any fun n => n == (q.2 : Int))).map fun q => fd q.1) := by
  unfold lessZ
  show PyData.tuple (List.map fd _) = _
  rw [List.map_map]
  rfl
theorem less_ok {fs : List Fact} {ns : List Int} (hl : fs.length ≤ 60) : f_less [FD fs, .list (ns.map .int)] = .ok (FD (lessZ fs ns)) [] := by
  rw [less_eq]
  exact less_raw (lessL hl)
/-- the table of some facts, as it is told -/
def tabX (r : Fr) : List (D × D) := match r with
  | .ok (.dict kvs) _ => kvs
  | _ => []
theorem tabX_ok {r : Fr} {kvs : List (D × D)} {o : List D} (h : r = .ok (.dict kvs) o) : tabX r = kvs := by rw [h]; rfl
def tabD (m : Nat) (fs : List Fact) : List (D × D) := tabX (f_highs [.int (m : Int), FD fs])
theorem Tabl.tabD {m : Nat} {fs : List Fact} {p : Int → Int} {ps : Al} (h : Tabl m fs p ps) : Clk.tabD m fs = enc ps := tabX_ok h.hi
/-! #### equal tables -/
theorem isT_enc : ∀ ps : Al, isT (enc ps) = true
  | [] => rfl
  | p :: ps => by
    have := isT_enc ps
    unfold isT enc at *
    rw [List.map_cons, List.all_cons, this]
    rfl
theorem shV_enc : ∀ ps : Al, shV (enc ps) = true
  | [] => rfl
  | p :: ps => by
    have := shV_enc ps
    unfold shV enc at *
    rw [List.map_cons, List.all_cons, this]
    rfl
theorem mem_keys {ps : Al} {a b : Int} : (a, b) ∈ ps.map (fun p => (p.1, p.2.1)) ↔ (look ps a b).isSome = true := by
  constructor
  · intro h
    cases e : look ps a b with
    | none => exact absurd h (look_none e)
    | some v => rfl
  · intro h
    obtain ⟨v, hv⟩ := Option.isSome_iff_exists.mp h
    exact List.mem_map.mpr ⟨_, look_mem hv, rfl⟩
theorem nodup_lenA {α : Type} [DecidableEq α] : ∀ (l m : List α), l.Nodup → (∀ x ∈ l, x ∈ m) → l.length ≤ m.length
  | [], m, _, _ => Nat.zero_le _
  | a :: l, m, nd, h => by
    have ha := h a List.mem_cons_self
    have nd' := List.nodup_cons.mp nd
    have := nodup_lenA l (m.erase a) nd'.2 fun x hx => by
      have ne : x ≠ a := fun z => nd'.1 (z ▸ hx)
      exact (List.mem_erase_of_ne ne).mpr (h x (List.mem_cons_of_mem _ hx))
    rw [List.length_erase_of_mem ha] at this
    have : 0 < m.length := List.length_pos_of_mem ha
    simp only [List.length_cons]
    omega
theorem eqKv_iff {m : Nat} {ps qs : Al} (hp : Okk m ps) (hq : Okk m qs) : eqKv (enc ps) (enc qs) = true ↔ look ps = look qs := by
  unfold eqKv
  rw [Bool.and_eq_true, List.all_eq_true]
  constructor
  · rintro ⟨h1, h2⟩
    have hl : ps.length = qs.length := by
      have := eq_of_beq h1
      rwa [length_enc, length_enc] at this
    have sub : ∀ a b v, look ps a b = some v → look qs a b = some v := fun a b v e => by
      have := h2 (key a b, .int v) (List.mem_map.mpr ⟨(a, b, v), look_mem e, rfl⟩)
      simp only [dGet_enc] at this
      cases e2 : look qs a b with
      | none => rw [e2] at this; cases this
      | some u =>
        rw [e2] at this
        have : (v == u) = true := this
        rw [eq_of_beq this]
    have keys : ∀ k ∈ qs.map (fun p => (p.1, p.2.1)), k ∈ ps.map (fun p => (p.1, p.2.1)) := by
      intro k hk
      by_cases hm : k ∈ ps.map (fun p => (p.1, p.2.1))
      · exact hm
      · have := nodup_lenA (k :: ps.map (fun p : Int × Int × Int => (p.1, p.2.1))) (qs.map fun p => (p.1, p.2.1)) (List.nodup_cons.mpr ⟨hm, hp.nd⟩) fun x hx => by
          rcases List.mem_cons.mp hx with rfl | hx
          · exact hk
          · obtain ⟨a, b⟩ := x
            obtain ⟨v, hv⟩ := Option.isSome_iff_exists.mp (mem_keys.mp hx)
            exact mem_keys.mpr (by rw [sub a b v hv]; rfl)
        rw [List.length_cons, List.length_map, List.length_map] at this
        omega
    funext a b
    cases e : look ps a b with
    | some v => rw [sub a b v e]
    | none =>
      cases e2 : look qs a b with
      | none => rfl
      | some u =>
        have := keys (a, b) (mem_keys.mpr (by rw [e2]; rfl))
        have := mem_keys.mp this
        rw [e] at this
        cases this
  · intro h
    refine ⟨?_, ?_⟩
    · rw [length_enc, length_enc, beq_iff_eq]
      have pm : (ps.map fun p : Int × Int × Int => (p.1, p.2.1)).Perm (qs.map fun p => (p.1, p.2.1)) := by
        refine (List.perm_ext_iff_of_nodup hp.nd hq.nd).mpr fun k => ?_
        obtain ⟨a, b⟩ := k
        rw [mem_keys, mem_keys, h]
      have := pm.length_eq
      rwa [List.length_map, List.length_map] at this
    · intro x hx
      obtain ⟨q, hq2, rfl⟩ := List.mem_map.mp hx
      have := mem_look hp.nd (show (q.1, q.2.1, q.2.2) ∈ ps from hq2)
      simp only [dGet_enc, ← h, this, Option.map_some]
      show (q.2.2 == q.2.2) = true
      exact beq_self_eq_true _
end Clk

set_option Elab.async false
set_option linter.all false
set_option maxRecDepth 20000
namespace Clk
open PySem Fx

theorem eqA_enc (ps qs : Al) : oEqA (.dict (enc ps)) (.dict (enc qs)) = some (.bool (eqKv (enc ps) (enc qs))) := by
  unfold oEqA
  simp only
  rw [if_pos ⟨isT_enc ps, isT_enc qs, shV_enc ps, shV_enc qs⟩]
theorem idleL {gL gH : Fn} {m F K : D} {len : Nat} (hl : len ≤ 1000) (q : Int → Bool) (hq : ∀ i, In len i → ∃ f' d', gL [F, .list [.int i]] = .ok f' [] ∧ gH [m, f'] = .ok d' [] ∧ oEqA d' K = some (.bool (q i))) (hF : oLen F = some (.int (len : Int))) :
    oLc (iR1 (aCons (eUn oLen (eV 1)) aNil)) (nName 3) (cB (eOp oEqA (eCall [false, false] gH (aCons (eV 0) (aCons (eCall [false, false] gL (aCons (eV 1) (aCons (ofO (oLst (aCons (eV 3) aNil))) aNil))) aNil))) (eV 2))) (eV 3) [3] [.fz m, .fz F, .fz K, .un] =
      .ok (.list (((upI len).filter q).map .int)) [.fz m, .fz F, .fz K, .un] := by
  have it : iR1 (aCons (eUn oLen (eV 1)) aNil) [.fz m, .fz F, .fz K, .un] = .ok ((upI len).map PyData.int) [.fz m, .fz F, .fz K, .un] := iR1_nat (by omega) (by
    unfold eUn aCons aNil eV dats
    simp only [Rs.bind, rd, hF, frzs, frz, List.getElem?_cons_succ, List.getElem?_cons_zero])
  refine oLc_encF PyData.int q PyData.int (xs := upI len) (en1 := [.fz m, .fz F, .fz K, .un]) it (by simp) (by simp) (by rw [upI_len]; omega) fun i hi => ?_
  obtain ⟨f', d', e1, e2, e3⟩ := hq i (mem_upI.mp hi)
  exact ⟨[.fz m, .fz F, .fz K, .fz (.int i)], by simp, [.fz m, .fz F, .fz K, .fz (.int i)], by simp [e1, e2, e3], fun _ => ⟨[.fz m, .fz F, .fz K, .fz (.int i)], by simp, by simp⟩, fun _ => by simp⟩
theorem idle_wp {g1 g2 g3 : Fn} {m F K : D} {L : EO} {ls : List D} (h1 : g1 [m, F] = .ok .none []) (h2 : g2 [m, F] = .ok .none []) (h3 : g3 [m, F] = .ok K []) (l : L [.fz m, .fz F, .fz K, .un] = .ok (.list ls) [.fz m, .fz F, .fz K, .un]) :
    Wp ((sSeq (sDrop (eCall [false, false] g1 (aCons (eV 0) (aCons (eV 1) aNil))))
    (sSeq (sDrop (eCall [false, false] g2 (aCons (eV 0) (aCons (eV 1) aNil))))
    (sSeq (sAsg (eCall [false, false] g3 (aCons (eV 0) (aCons (eV 1) aNil))) (nName 2))
    (sRet (eUn oTuple (ofO L)))))) [.fz m, .fz F, .un, .un]) fun o en => o = .rt (.tuple ls) ∧ outsOf [false, false] 0 en = some [] := by
  simp [wp_ok, h1, h2, h3, l]
theorem len_FD (fs : List Fact) : oLen (FD fs) = some (.int (fs.length : Int)) := by
  show some (PyData.int ((List.map fd fs).length : Int)) = _
  rw [List.length_map]
theorem idle_ok {m : Nat} {fs : List Fact} {p : Int → Int} (h : Drawn m fs p) : f_idle_facts [.int (m : Int), FD fs] = .ok (.tuple (((upI fs.length).filter fun n => eqKv (tabD m (lessZ fs [n])) (tabD m fs)).map .int)) [] := by
  obtain ⟨ps, t⟩ := tabl_of h.fine
  rw [t.tabD]
  refine fn_wpA [.fz (.int (m : Int)), .fz (FD fs), .un, .un] rfl (idle_wp (check_facts_ok h.fine) (round_ok h.fine t.hi t.dist) t.hi (idleL (gL := f_less) (gH := f_highs) (by have := h.len; omega) _ (fun i hi => ?_) (len_FD fs)))
  obtain ⟨qs, u⟩ := tabl_of (h.less [i]).fine
  have e := less_ok (fs := fs) (ns := [i]) h.len
  refine ⟨FD (lessZ fs [i]), .dict (enc qs), e, u.hi, ?_⟩
  rw [u.tabD]
  exact eqA_enc qs ps
/-! #### core -/
/-- the bound of two sites by facts but for some -/
def tqX (a b : Int) (r : Fr) : D := match r with
  | .ok (.dict kvs) _ => (dGet kvs (key a b)).getD .none
  | _ => .none
theorem tqX_ok {a b : Int} {r : Fr} {ps : Al} {o : List D} (h : r = .ok (.dict (enc ps)) o) : tqX a b r = oi (look ps a b) := by
  rw [h]
  show ((dGet (enc ps) (key a b)).getD .none) = _
  rw [dGet_enc]
  cases look ps a b <;> rfl
def tq (m : Nat) (fs : List Fact) (a b : Int) (ns : List Int) : D := tqX a b (f_highs [.int (m : Int), FD (lessZ fs ns)])
theorem tq_ok {m : Nat} {fs : List Fact} {p : Int → Int} {ns : List Int} {ps : Al} (h : Tabl m (lessZ fs ns) p ps) (a b : Int) : tq m fs a b ns = oi (look ps a b) := tqX_ok h.hi
def coreStep (T : List Int → D) (t0 : D) (gone : List Int) (n : Int) : List Int := if PyData.eqv (T (gone ++ [n])) t0 = true then gone ++ [n] else gone
def coreZ (T : List Int → D) (t0 : D) (ns : List Int) : List Int := ns.foldl (coreStep T t0) []
theorem coreStep_len {T : List Int → D} {t0 : D} {gone : List Int} {n : Int} : (coreStep T t0 gone n).length ≤ gone.length + 1 := by
  unfold coreStep
  split
  · rw [List.length_append]; simp
  · omega
def b_coreFor (gH gL : Fn) : ES := sFor (iR1 (aCons (eUn oLen (eV 1)) aNil)) (nName 6) (sIf (cB (eOp oEq (eGet1 (eCall [false, false] gH (aCons (eV 0) (aCons (eCall [false, false] gL (aCons (eV 1) (aCons (ofO (oCatL (eV 5) (ofO (oLst (aCons (eV 6) aNil))))) aNil))) aNil))) (eTup (aCons (eV 2) (aCons (eV 3) aNil)))) (eV 4))) (sApp (eV 5) (eV 6)) sNx)
theorem coreFor_ok {gL gH : Fn} {m F t0 : D} {len : Nat} {a b : Int} (hl : len ≤ 60) (T : List Int → D) (hq : ∀ ns : List Int, ∃ f' kvs, gL [F, .list (ns.map .int)] = .ok f' [] ∧ gH [m, f'] = .ok (.dict kvs) [] ∧ fits kvs (key a b) = true ∧ (dGet kvs (key a b)).getD .none = T ns ∧ SeqAt.shaped (T ns) = true) (ht : SeqAt.shaped t0 = true) (hF : oLen F = some (.int (len : Int))) {Q : Out → En → Prop}
    (k : ∀ o6, Q .nx [.fz m, .fz F, .fz (.int a), .fz (.int b), .fz t0, .ow (.list ((coreZ T t0 (upI len)).map .int)), sl o6]) :
    Wp (b_coreFor gH gL [.fz m, .fz F, .fz (.int a), .fz (.int b), .fz t0, .ow (.list []), .un]) Q := by
  have it : iR1 (aCons (eUn oLen (eV 1)) aNil) [.fz m, .fz F, .fz (.int a), .fz (.int b), .fz t0, .ow (.list []), .un] = .ok ((upI len).map PyData.int) [.fz m, .fz F, .fz (.int a), .fz (.int b), .fz t0, .ow (.list []), .un] := iR1_nat (by omega) (by
    unfold eUn aCons aNil eV dats
    simp only [Rs.bind, rd, hF, frzs, frz, List.getElem?_cons_succ, List.getElem?_cons_zero])
  unfold b_coreFor
  refine wp_forN ((upI len).map PyData.int) _ it (fun i en => ∃ o6, en = [.fz m, .fz F, .fz (.int a), .fz (.int b), .fz t0, .ow (.list ((coreZ T t0 ((upI len).take i)).map .int)), sl o6] ∧ (coreZ T t0 ((upI len).take i)).length ≤ i) ⟨none, rfl, Nat.le_refl _⟩ ?_ ?_
  · rintro i d en hd ⟨o6, rfl, hg⟩
    obtain ⟨hi, rfl⟩ := upI_at hd
    have e1 : coreZ T t0 ((upI len).take (i + 1)) = coreStep T t0 (coreZ T t0 ((upI len).take i)) (i : Int) := by
      unfold coreZ
      rw [take_snoc (upI_get hi), List.foldl_append]
      rfl
    rw [e1]
    generalize coreZ T t0 ((upI len).take i) = gone at *
    have hn : (coreStep T t0 gone (i : Int)).length ≤ i + 1 := by have := coreStep_len (T := T) (t0 := t0) (gone := gone) (n := (i : Int)); omega
    obtain ⟨f', kvs, q1, q2, q3, q4, q5⟩ := hq (gone ++ [(i : Int)])
    have q1' : gL [F, .list (gone.map .int ++ [.int (i : Int)])] = .ok f' [] := by rw [List.map_append] at q1; exact q1
    have eq : oEq (T (gone ++ [(i : Int)])) t0 = some (.bool (PyData.eqv (T (gone ++ [(i : Int)])) t0)) := by unfold oEq; rw [if_pos ⟨q5, ht⟩]
    have lc : gone.length + 1 ≤ 65536 := by omega
    have tk' : PyData.tuple [.int a, .int b] = key a b := rfl
    refine ⟨[.fz m, .fz F, .fz (.int a), .fz (.int b), .fz t0, .ow (.list (gone.map .int)), .fz (.int i)], by simp, ?_⟩
    unfold coreStep at hn ⊢
    have lt : gone.length < 65536 := by omega
    by_cases c : PyData.eqv (T (gone ++ [(i : Int)])) t0 = true
    · rw [if_pos c] at hn ⊢
      rw [c] at eq
      refine wp_ifT (en' := [.fz m, .fz F, .fz (.int a), .fz (.int b), .fz t0, .ow (.list (gone.map .int)), .fz (.int i)]) (by simp [oCatL, lc, q1', q2, eGet1, tk', q3, q4, eq]) ?_
      refine wp_last (o := .nx) (en' := [.fz m, .fz F, .fz (.int a), .fz (.int b), .fz t0, .ow (.list ((gone ++ [(i : Int)]).map .int)), .fz (.int i)]) (by simp [sApp, lt]) ?_
      exact ⟨some (.int i), rfl, hn⟩
    · rw [if_neg c] at hn ⊢
      have c' : PyData.eqv (T (gone ++ [(i : Int)])) t0 = false := by simpa using c
      rw [c'] at eq
      refine wp_ifF (en' := [.fz m, .fz F, .fz (.int a), .fz (.int b), .fz t0, .ow (.list (gone.map .int)), .fz (.int i)]) (by simp [oCatL, lc, q1', q2, eGet1, tk', q3, q4, eq]) ?_
      refine wp_last (o := .nx) (en' := [.fz m, .fz F, .fz (.int a), .fz (.int b), .fz t0, .ow (.list (gone.map .int)), .fz (.int i)]) rfl ?_
      exact ⟨some (.int i), rfl, hn⟩
  · rintro en ⟨o6, rfl, hg⟩
    have e : ((upI len).map PyData.int).length = len := by rw [List.length_map, upI_len]
    have e2 : (upI len).take len = upI len := List.take_of_length_le (by rw [upI_len]; exact Nat.le_refl _)
    rw [e, e2]
    exact k o6
theorem coreL {m F t0 : D} {len : Nat} {a b : Int} (hl : len ≤ 60) {gone : List Int} (hF : oLen F = some (.int (len : Int))) {o6 : Option D} :
    oLc (iR1 (aCons (eUn oLen (eV 1)) aNil)) (nName 6) (cB (eOp (oInL true) (eV 6) (eV 5))) (eV 6) [6] [.fz m, .fz F, .fz (.int a), .fz (.int b), .fz t0, .ow (.list (gone.map .int)), sl o6] =
      .ok (.list (((upI len).filter fun n => !(gone.any fun g => g == n)).map .int)) [.fz m, .fz F, .fz (.int a), .fz (.int b), .fz t0, .ow (.list (gone.map .int)), .un] := by
  have it : iR1 (aCons (eUn oLen (eV 1)) aNil) [.fz m, .fz F, .fz (.int a), .fz (.int b), .fz t0, .ow (.list (gone.map .int)), sl o6] = .ok ((upI len).map PyData.int) [.fz m, .fz F, .fz (.int a), .fz (.int b), .fz t0, .ow (.list (gone.map .int)), sl o6] := iR1_nat (by omega) (by
    unfold eUn aCons aNil eV dats
    simp only [Rs.bind, rd, hF, frzs, frz, List.getElem?_cons_succ, List.getElem?_cons_zero])
  exact oLc_encF PyData.int (fun n => !(gone.any fun g => g == n)) PyData.int (xs := upI len) (en1 := [.fz m, .fz F, .fz (.int a), .fz (.int b), .fz t0, .ow (.list (gone.map .int)), sl o6]) it (by simp) (by simp) (by rw [upI_len]; omega) fun i hi =>
    ⟨[.fz m, .fz F, .fz (.int a), .fz (.int b), .fz t0, .ow (.list (gone.map .int)), .fz (.int i)], by simp, [.fz m, .fz F, .fz (.int a), .fz (.int b), .fz t0, .ow (.list (gone.map .int)), .fz (.int i)], by simp [in_ints], fun _ => ⟨[.fz m, .fz F, .fz (.int a), .fz (.int b), .fz t0, .ow (.list (gone.map .int)), .fz (.int i)], by simp, by simp⟩, fun _ => by simp⟩
theorem body_core : b_core = (sSeq (sPar 4 5 (mConsF (eOp oIx (eCall [false, false, false, false] f_bounds (aCons (eV 0) (aCons (eV 1) (aCons (eV 2) (aCons (eV 3) aNil))))) (eC (.int 1))) (mConsO (oLst aNil) mNil)))
    (sSeq (b_coreFor f_highs f_less) (sRet (eUn oTuple (ofO (oLc (iR1 (aCons (eUn oLen (eV 1)) aNil)) (nName 6) (cB (eOp (oInL true) (eV 6) (eV 5))) (eV 6) [6])))))) := by
  unfold b_core b_coreFor
  rfl
theorem core_wp {gB : Fn} {B : ES} {L : EO} {m F x t0 : D} {a b : Int} {g ls : List D} (h1 : gB [m, F, .int a, .int b] = .ok (.tuple [x, t0]) []) (hB : ∀ Q : Out → En → Prop, (∀ o6, Q .nx [.fz m, .fz F, .fz (.int a), .fz (.int b), .fz t0, .ow (.list g), sl o6]) → Wp (B [.fz m, .fz F, .fz (.int a), .fz (.int b), .fz t0, .ow (.list []), .un]) Q)
    (hL : ∀ o6, L [.fz m, .fz F, .fz (.int a), .fz (.int b), .fz t0, .ow (.list g), sl o6] = .ok (.list ls) [.fz m, .fz F, .fz (.int a), .fz (.int b), .fz t0, .ow (.list g), .un]) :
    Wp ((sSeq (sPar 4 5 (mConsF (eOp oIx (eCall [false, false, false, false] gB (aCons (eV 0) (aCons (eV 1) (aCons (eV 2) (aCons (eV 3) aNil))))) (eC (.int 1))) (mConsO (oLst aNil) mNil)))
    (sSeq B (sRet (eUn oTuple (ofO L))))) [.fz m, .fz F, .fz (.int a), .fz (.int b), .un, .un, .un]) fun o en => o = .rt (.tuple ls) ∧ outsOf [false, false, false, false] 0 en = some [] := by
  have ix : oIx (.tuple [x, t0]) (.int 1) = some t0 := rfl
  refine wp_nx (en' := [.fz m, .fz F, .fz (.int a), .fz (.int b), .fz t0, .ow (.list []), .un]) (by simp [h1, ix]) ?_
  refine wp_seq ?_
  refine hB _ fun o6 => ?_
  simp [wp_ok, hL]
theorem shaped_oi (o : Option Int) : SeqAt.shaped (oi o) = true := by cases o <;> rfl
/-- the numbers that are left -/
def leftZ (len : Nat) (gone : List Int) : List Int := (upI len).filter fun n => !(gone.any fun g => g == n)
theorem core_ok {m : Nat} {fs : List Fact} {p : Int → Int} (h : Drawn m fs p) {ps : Al} (t : Tabl m fs p ps) {a b : Int} (ia : In m a) (ib : In m b) :
    f_core [.int (m : Int), FD fs, .int a, .int b] = .ok (.tuple ((leftZ fs.length (coreZ (tq m fs a b) (oi (look ps a b)) (upI fs.length))).map .int)) [] := by
  refine fn_wpA [.fz (.int (m : Int)), .fz (FD fs), .fz (.int a), .fz (.int b), .un, .un, .un] rfl ?_
  rw [body_core]
  refine core_wp (g := (coreZ (tq m fs a b) (oi (look ps a b)) (upI fs.length)).map .int) (bounds_ok t.fine t.hi t.dist ia ib) (fun Q k => ?_) fun o6 => coreL h.len (len_FD fs)
  refine coreFor_ok h.len (tq m fs a b) (fun ns => ?_) (shaped_oi _) (len_FD fs) k
  obtain ⟨qs, u⟩ := tabl_of (h.less ns).fine
  refine ⟨_, _, less_ok h.len, u.hi, fits_enc a b qs, ?_, ?_⟩
  · rw [tq_ok u, dGet_enc]
    cases look qs a b <;> rfl
  · rw [tq_ok u]
    exact shaped_oi _
end Clk

set_option Elab.async false
set_option linter.all false
set_option maxRecDepth 20000
namespace Clk
open PySem Fx

/-! ### equal tables by what facts say -/
/-- a table says all that a fact says -/
structure ImpF (T : Tab) (f : Fact) : Prop where
  lo : ∃ v, T f.one f.other = some v ∧ v ≤ f.came - f.left - f.least
  hi : ∀ x, f.most = some x → ∃ v, T f.other f.one = some v ∧ v ≤ x - f.came + f.left
theorem imp_sides {T : Tab} : ∀ {fs : List Fact} {n : Nat}, (∀ f ∈ fs, ImpF T f) → ∀ s ∈ sidesFrom n fs, ∃ v, T s.b s.e = some v ∧ v ≤ s.w := fun {fs n} h s hs => by
  obtain ⟨f, hf, k, hk⟩ := mem_sides hs
  have q := h f hf
  unfold sidesAt at hk
  rcases List.mem_cons.mp hk with rfl | hk
  · exact q.lo
  · cases e : f.most with
    | none => rw [e] at hk; cases hk
    | some x => rw [e] at hk; rw [List.mem_singleton.mp hk]; exact q.hi x e
theorem sides_of_mem : ∀ {fs : List Fact} {n : Nat} {f : Fact}, f ∈ fs → ∃ k, ∀ s ∈ sidesAt k f, s ∈ sidesFrom n fs
  | g :: fs, n, f, h => by
    rcases List.mem_cons.mp h with rfl | h
    · exact ⟨n, fun s hs => List.mem_append_left _ hs⟩
    · obtain ⟨k, hk⟩ := sides_of_mem (n := n + 1) h
      exact ⟨k, fun s hs => List.mem_append_right _ (hk s hs)⟩
theorem Tabl.imp {m : Nat} {fs : List Fact} {p : Int → Int} {ps : Al} (t : Tabl m fs p ps) {f : Fact} (hf : f ∈ fs) : ImpF (look ps) f := by
  obtain ⟨k, hk⟩ := sides_of_mem (n := 0) hf
  have side : ∀ s ∈ sidesAt k f, ∃ v, look ps s.b s.e = some v ∧ v ≤ s.w := fun s hs => by
    have lo := t.fine.snd.lo s (hk s hs)
    obtain ⟨v, h1, h2⟩ := t.dist.le [s] s.b s.e (fun x hx => by rw [List.mem_singleton.mp hx]; exact hk s hs) ⟨rfl, rfl⟩ ⟨lo.1, lo.2.1⟩
    exact ⟨v, h1, by simpa [wt] using h2⟩
  constructor
  · exact side _ List.mem_cons_self
  · intro x e
    refine side ⟨k, false, f.other, f.one, x - f.came + f.left⟩ ?_
    unfold sidesAt
    rw [e]
    exact List.mem_cons_of_mem _ List.mem_cons_self
theorem dist_le {m : Nat} {S S' : List Side} {T T' : Tab} {p' : Int → Int} (o' : Sound m S' p') (d : Dist m S T) (d' : Dist m S' T') (h : ∀ s ∈ S, ∃ v, T' s.b s.e = some v ∧ v ≤ s.w) {a b v : Int} (e : T a b = some v) : ∃ v', T' a b = some v' ∧ v' ≤ v := by
  have key : ∀ (l : List Side) (a c : Int), (∀ s ∈ l, s ∈ S) → Path a l c → In m a → ∃ v, T' a c = some v ∧ v ≤ wt l := by
    intro l
    induction l with
    | nil =>
      intro a c _ pa ia
      cases (show a = c from pa)
      exact ⟨0, dist_self o' d' ia, Int.le_refl _⟩
    | cons s l ih =>
      intro a c i pa ia
      obtain ⟨v1, h1, h2⟩ := h s (i s List.mem_cons_self)
      have ie : In m s.e := by
        obtain ⟨_, l', i', pa', _⟩ := d'.at_ s.b s.e v1 h1
        exact path_in o' i' pa' (d'.at_ s.b s.e v1 h1).1
      obtain ⟨v2, h3, h4⟩ := ih s.e c (fun x hx => i x (List.mem_cons_of_mem _ hx)) pa.2 ie
      obtain ⟨z, h5, h6⟩ := dist_tri d' h1 h3
      rw [pa.1] at h5
      exact ⟨z, h5, by simp only [wt]; omega⟩
  obtain ⟨ia, l, i, pa, w⟩ := d.at_ a b v e
  obtain ⟨v', h1, h2⟩ := key l a b i pa ia
  exact ⟨v', h1, by omega⟩
theorem tab_eq {m : Nat} {fs gs : List Fact} {p q : Int → Int} {ps qs : Al} (t : Tabl m fs p ps) (u : Tabl m gs q qs) (h1 : ∀ f ∈ gs, ImpF (look ps) f) (h2 : ∀ f ∈ fs, ImpF (look qs) f) : look ps = look qs := by
  funext a b
  have le1 := fun {v} => dist_le (a := a) (b := b) (v := v) u.fine.snd t.dist u.dist (imp_sides h2)
  have le2 := fun {v} => dist_le (a := a) (b := b) (v := v) t.fine.snd u.dist t.dist (imp_sides h1)
  cases e : look ps a b with
  | none =>
    cases e2 : look qs a b with
    | none => rfl
    | some v =>
      obtain ⟨v', h, _⟩ := le2 e2
      rw [e] at h; cases h
  | some v =>
    obtain ⟨v', h, hl⟩ := le1 e
    obtain ⟨v2, h', hl'⟩ := le2 h
    rw [e] at h'
    cases h'
    rw [h]
    congr 1
    omega
/-! #### what is kept -/
theorem kept_pot {m : Nat} {fs : List Fact} {p : Int → Int} {ps : Al} (t : Tabl m fs p ps) {c : Int → Int} : (∀ f ∈ fs, Kept c f) ↔ ∀ a b v, look ps a b = some v → c b - c a ≤ v := by
  constructor
  · intro h a b v e
    have snd : Sound m (sidesFrom 0 fs) c := sound_of fun f hf => ⟨t.fine.good f hf, h f hf⟩
    obtain ⟨ia, l, i, pa, w⟩ := t.dist.at_ a b v e
    have := path_pot snd i pa
    omega
  · intro h f hf
    have q := t.imp hf
    obtain ⟨v, h1, h2⟩ := q.lo
    have := h _ _ _ h1
    refine ⟨by omega, fun x e => ?_⟩
    obtain ⟨v, h3, h4⟩ := q.hi x e
    have := h _ _ _ h3
    omega
theorem keep_all {m : Nat} {fs gs : List Fact} {p q : Int → Int} {ps qs : Al} (t : Tabl m fs p ps) (u : Tabl m gs q qs) (e : look ps = look qs) (c : Int → Int) : fs.all (keepB c) = gs.all (keepB c) := by
  have h : (∀ f ∈ fs, Kept c f) ↔ ∀ f ∈ gs, Kept c f := by rw [kept_pot t, kept_pot u, e]
  have a1 : ∀ l : List Fact, l.all (keepB c) = true ↔ ∀ f ∈ l, Kept c f := fun l => by
    rw [List.all_eq_true]
    exact ⟨fun h f hf => keepB_iff.mp (h f hf), fun h f hf => keepB_iff.mpr (h f hf)⟩
  cases e1 : fs.all (keepB c) with
  | true => exact ((a1 gs).mpr (h.mp ((a1 fs).mp e1))).symm
  | false =>
    cases e2 : gs.all (keepB c) with
    | false => rfl
    | true =>
      rw [(a1 fs).mpr (h.mpr ((a1 gs).mp e2))] at e1
      cases e1
/-! #### how great -/
theorem near_bd {m : Nat} {fs : List Fact} {p : Int → Int} {ps : Al} (t : Tabl m fs p ps) (hn : ∀ f ∈ fs, Near p f) {a b v : Int} (e : look ps a b = some v) : p b - p a ≤ v ∧ v ≤ p b - p a + 200 * (m : Int) := by
  obtain ⟨ia, l, i, pa, w⟩ := t.dist.at_ a b v e
  have lo := path_pot t.fine.snd i pa
  refine ⟨by omega, ?_⟩
  obtain ⟨r, h1, h2, h3, h4⟩ := shorten t.fine.snd l.length (Nat.le_refl _) i pa ia t.fine.m1
  obtain ⟨v', h5, h6⟩ := t.dist.le r a b h2 h3 ia
  rw [e] at h5
  cases h5
  have sw : ∀ s ∈ sidesFrom 0 fs, s.w ≤ p s.e - p s.b + 200 := fun s hs => by
    obtain ⟨f, hf, k, hk⟩ := mem_sides hs
    have q := hn f hf
    unfold sidesAt at hk
    rcases List.mem_cons.mp hk with rfl | hk
    · exact q.lo
    · cases e : f.most with
      | none => rw [e] at hk; cases hk
      | some x => rw [e] at hk; rw [List.mem_singleton.mp hk]; exact q.hi x e
  have key : ∀ (r : List Side) (a c : Int), (∀ s ∈ r, s ∈ sidesFrom 0 fs) → Path a r c → wt r ≤ p c - p a + 200 * (r.length : Int) := by
    intro r
    induction r with
    | nil =>
      intro a c _ pa
      cases (show a = c from pa)
      simp [wt]
    | cons s r ih =>
      intro a c i pa
      have h1 := sw s (i s List.mem_cons_self)
      have h2 := ih s.e c (fun x hx => i x (List.mem_cons_of_mem _ hx)) pa.2
      rw [pa.1] at h1
      simp only [wt, List.length_cons]
      have : (200 : Int) * ((r.length + 1 : Nat) : Int) = 200 * (r.length : Int) + 200 := by push_cast; omega
      omega
  have := key r a b h2 h3
  have hm := t.fine.m1
  have : (200 : Int) * (r.length : Int) ≤ 200 * (m : Int) := by omega
  omega
/-! #### the clocks that are told: how great -/
theorem nearZ_bd {a b : Option Int} {B : Nat} (ha : ∀ x, a = some x → x.natAbs ≤ B) (hb : ∀ x, b = some x → x.natAbs ≤ B) : (nearZ a b).natAbs ≤ B := by
  unfold nearZ
  cases a with
  | none =>
    cases b with
    | none => simp
    | some y => have := hb y rfl; simp only; split <;> omega
  | some x =>
    have := ha x rfl
    cases b with
    | none => simp only; split <;> omega
    | some y => have := hb y rfl; simp only; split <;> (try split) <;> omega
theorem endsZ_bd {T : Tab} {B C : Nat} (hT : ∀ a b v, T a b = some v → v.natAbs ≤ C) (o : Int) : ∀ (tl : Al1) (st : Option Int × Option Int), (∀ p ∈ tl, p.2.natAbs ≤ B) → (∀ x, st.1 = some x → x.natAbs ≤ B + C) → (∀ x, st.2 = some x → x.natAbs ≤ B + C) →
    (∀ x, (tl.foldl (endZ T o) st).1 = some x → x.natAbs ≤ B + C) ∧ ∀ x, (tl.foldl (endZ T o) st).2 = some x → x.natAbs ≤ B + C
  | [], st, _, h1, h2 => ⟨h1, h2⟩
  | p :: tl, st, hp, h1, h2 => by
    have hp0 := hp p List.mem_cons_self
    rw [List.foldl_cons]
    refine endsZ_bd hT o tl (endZ T o st p) (fun q hq => hp q (List.mem_cons_of_mem _ hq)) (fun x e => ?_) (fun x e => ?_)
    · unfold endZ at e
      cases eb : pz (ng (T o p.1)) (some p.2) with
      | none => rw [eb] at e; exact h1 x e
      | some b =>
        have hb : b.natAbs ≤ B + C := by
          cases et : T o p.1 with
          | none => rw [et] at eb; cases eb
          | some v =>
            rw [et] at eb
            have := hT o p.1 v et
            have : -v + p.2 = b := by simpa [pz, ng] using eb
            omega
        rw [eb] at e
        simp only at e
        cases es : st.1 with
        | none => rw [es] at e; cases e; exact hb
        | some l =>
          rw [es] at e
          simp only at e
          have := h1 l es
          split at e <;> (cases e; omega)
    · unfold endZ at e
      simp only at e
      cases eb : pz (T p.1 o) (some p.2) with
      | none =>
        rw [eb] at e
        cases es : st.2 with
        | none => rw [es] at e; cases e
        | some l => rw [es] at e; cases e; exact h2 x es
      | some b =>
        have hb : b.natAbs ≤ B + C := by
          cases et : T p.1 o with
          | none => rw [et] at eb; cases eb
          | some v =>
            rw [et] at eb
            have := hT p.1 o v et
            have : v + p.2 = b := by simpa [pz] using eb
            omega
        rw [eb] at e
        cases es : st.2 with
        | none => rw [es] at e; cases e; exact hb
        | some l =>
          rw [es] at e
          have := h2 l es
          have : min l b = x := by simpa [lz] using e
          omega
theorem toldZ_bd {T : Tab} {C : Nat} (hT : ∀ a b v, T a b = some v → v.natAbs ≤ C) : ∀ (os : List Int) (tl : Al1) (B : Nat), (∀ p ∈ tl, p.2.natAbs ≤ B) → ∀ p ∈ os.foldl (toldStep T) tl, p.2.natAbs ≤ B + C * os.length
  | [], tl, B, h => fun p hp => by have := h p hp; simpa using this
  | o :: os, tl, B, h => fun p hp => by
    rw [List.foldl_cons] at hp
    have := toldZ_bd hT os (toldStep T tl o) (B + C) (fun q hq => by
      unfold toldStep at hq
      split at hq
      · have := h q hq; omega
      · rcases List.mem_append.mp hq with hq | hq
        · have := h q hq; omega
        · rw [List.mem_singleton.mp hq]
          obtain ⟨e1, e2⟩ := endsZ_bd hT o tl (none, none) h (fun x e => nomatch e) (fun x e => nomatch e)
          exact nearZ_bd e1 e2) p hp
    rw [List.length_cons, Nat.mul_add]
    omega
theorem fit_clkAt {T : Tab} {m : Nat} {site off : Int} (hm : m ≤ 12) (hT : ∀ a b v, T a b = some v → v.natAbs ≤ 10 ^ 10) (ho : off.natAbs ≤ 10 ^ 10) : Rep.Fit 1000 1 (clkAt T m site off) := by
  unfold clkAt
  split
  · have : Rep.Fit (12 * (21 + 2) + 3) (0 + 1) (.tuple ((upI m).map fun k => .int ((look1 (toldZ T (upI m) site off) k).getD 0))) := by
      refine Rep.tuple (fun d hd => ?_) (by rw [List.length_map, upI_len]; exact hm)
      obtain ⟨k, _, rfl⟩ := List.mem_map.mp hd
      refine Rep.int ?_
      cases e : look1 (toldZ T (upI m) site off) k with
      | none => decide
      | some v =>
        unfold look1 at e
        obtain ⟨q, hq, rfl⟩ := Option.map_eq_some_iff.mp e
        have := toldZ_bd hT (upI m) [(0, 0), (site, off)] (10 ^ 10) (fun p hp => by
          rcases List.mem_cons.mp hp with rfl | hp
          · decide
          · rw [List.mem_singleton.mp hp]; exact ho) q (List.mem_of_find?_eq_some hq)
        rw [upI_len] at this
        show q.2.natAbs < 10 ^ 20
        have : 10 ^ 10 * m ≤ 10 ^ 10 * 12 := Nat.mul_le_mul_left _ hm
        omega
    exact this.le (by omega) (by omega)
  · exact Rep.none.le (by omega) (by omega)
end Clk

set_option Elab.async false
set_option linter.all false
set_option maxRecDepth 20000
namespace Clk
open PySem Fx

/-! ### told offsets that keep all bounds go on -/
def IsMax (S : Int → Prop) (o : Option Int) : Prop := (∀ x, S x → ∃ l, o = some l ∧ x ≤ l) ∧ ∀ l, o = some l → S l
def IsMin (S : Int → Prop) (o : Option Int) : Prop := (∀ x, S x → ∃ l, o = some l ∧ l ≤ x) ∧ ∀ l, o = some l → S l
def loStep (st b : Option Int) : Option Int := match b with
  | none => st
  | some b => match st with
    | none => some b
    | some l => if l < b then some b else some l
theorem max_step {S : Int → Prop} {o b : Option Int} (h : IsMax S o) : IsMax (fun x => S x ∨ b = some x) (loStep o b) := by
  cases b with
  | none => exact ⟨fun x hx => hx.elim (h.1 x) (fun z => nomatch z), fun l hl => .inl (h.2 l hl)⟩
  | some b =>
    cases o with
    | none =>
      refine ⟨fun x hx => ?_, fun l hl => ?_⟩
      · rcases hx with hx | hx
        · obtain ⟨l, e, _⟩ := h.1 x hx
          cases e
        · cases hx; exact ⟨b, rfl, Int.le_refl _⟩
      · cases hl; exact .inr rfl
    | some l =>
      unfold loStep
      simp only
      by_cases c : l < b
      · rw [if_pos c]
        refine ⟨fun x hx => ?_, fun k hk => by cases hk; exact .inr rfl⟩
        rcases hx with hx | hx
        · obtain ⟨k, e, q⟩ := h.1 x hx
          cases e
          exact ⟨b, rfl, by omega⟩
        · cases hx; exact ⟨b, rfl, Int.le_refl _⟩
      · rw [if_neg c]
        refine ⟨fun x hx => ?_, fun k hk => by cases hk; exact .inl (h.2 l rfl)⟩
        rcases hx with hx | hx
        · exact h.1 x hx
        · cases hx; exact ⟨l, rfl, by omega⟩
theorem min_step {S : Int → Prop} {o b : Option Int} (h : IsMin S o) : IsMin (fun x => S x ∨ b = some x) (lz o b) := by
  cases b with
  | none =>
    have e : lz o none = o := by cases o <;> rfl
    rw [e]
    exact ⟨fun x hx => hx.elim (h.1 x) (fun z => nomatch z), fun l hl => .inl (h.2 l hl)⟩
  | some b =>
    cases o with
    | none =>
      refine ⟨fun x hx => ?_, fun l hl => ?_⟩
      · rcases hx with hx | hx
        · obtain ⟨l, e, _⟩ := h.1 x hx
          cases e
        · cases hx; exact ⟨b, rfl, Int.le_refl _⟩
      · cases hl; exact .inr rfl
    | some l =>
      have e : lz (some l) (some b) = some (min l b) := rfl
      rw [e]
      refine ⟨fun x hx => ⟨_, rfl, ?_⟩, fun k hk => ?_⟩
      · rcases hx with hx | hx
        · obtain ⟨k, e, q⟩ := h.1 x hx
          cases e
          omega
        · cases hx; omega
      · cases hk
        by_cases c : l ≤ b
        · rw [Int.min_eq_left c]; exact .inl (h.2 l rfl)
        · rw [Int.min_eq_right (by omega)]; exact .inr rfl
theorem IsMax.iff {S S' : Int → Prop} {o : Option Int} (h : IsMax S o) (e : ∀ x, S x ↔ S' x) : IsMax S' o := ⟨fun x hx => h.1 x ((e x).mpr hx), fun l hl => (e l).mp (h.2 l hl)⟩
theorem IsMin.iff {S S' : Int → Prop} {o : Option Int} (h : IsMin S o) (e : ∀ x, S x ↔ S' x) : IsMin S' o := ⟨fun x hx => h.1 x ((e x).mpr hx), fun l hl => (e l).mp (h.2 l hl)⟩
theorem ends_fold {T : Tab} {o : Int} : ∀ (tl : Al1) {S S' : Int → Prop} {st : Option Int × Option Int}, IsMax S st.1 → IsMin S' st.2 →
    IsMax (fun x => S x ∨ ∃ p ∈ tl, pz (ng (T o p.1)) (some p.2) = some x) (tl.foldl (endZ T o) st).1 ∧ IsMin (fun x => S' x ∨ ∃ p ∈ tl, pz (T p.1 o) (some p.2) = some x) (tl.foldl (endZ T o) st).2
  | [], S, S', st, h1, h2 => ⟨h1.iff fun x => ⟨.inl, fun h => h.elim id fun ⟨_, z, _⟩ => nomatch z⟩, h2.iff fun x => ⟨.inl, fun h => h.elim id fun ⟨_, z, _⟩ => nomatch z⟩⟩
  | p :: tl, S, S', st, h1, h2 => by
    rw [List.foldl_cons]
    have a1 : IsMax (fun x => S x ∨ pz (ng (T o p.1)) (some p.2) = some x) (endZ T o st p).1 := max_step h1
    have a2 : IsMin (fun x => S' x ∨ pz (T p.1 o) (some p.2) = some x) (endZ T o st p).2 := min_step h2
    obtain ⟨b1, b2⟩ := ends_fold tl a1 a2
    refine ⟨b1.iff fun x => ?_, b2.iff fun x => ?_⟩
    · constructor
      · rintro ((h | h) | ⟨q, hq, h⟩)
        · exact .inl h
        · exact .inr ⟨p, List.mem_cons_self, h⟩
        · exact .inr ⟨q, List.mem_cons_of_mem _ hq, h⟩
      · rintro (h | ⟨q, hq, h⟩)
        · exact .inl (.inl h)
        · rcases List.mem_cons.mp hq with rfl | hq
          · exact .inl (.inr h)
          · exact .inr ⟨q, hq, h⟩
    · constructor
      · rintro ((h | h) | ⟨q, hq, h⟩)
        · exact .inl h
        · exact .inr ⟨p, List.mem_cons_self, h⟩
        · exact .inr ⟨q, List.mem_cons_of_mem _ hq, h⟩
      · rintro (h | ⟨q, hq, h⟩)
        · exact .inl (.inl h)
        · rcases List.mem_cons.mp hq with rfl | hq
          · exact .inl (.inr h)
          · exact .inr ⟨q, hq, h⟩
theorem ends_at {T : Tab} {o : Int} (tl : Al1) : IsMax (fun x => ∃ p ∈ tl, pz (ng (T o p.1)) (some p.2) = some x) (endsZ T tl o).1 ∧ IsMin (fun x => ∃ p ∈ tl, pz (T p.1 o) (some p.2) = some x) (endsZ T tl o).2 := by
  have h0 : IsMax (fun _ => False) (none : Option Int) := ⟨fun _ z => z.elim, fun _ z => nomatch z⟩
  have h1 : IsMin (fun _ => False) (none : Option Int) := ⟨fun _ z => z.elim, fun _ z => nomatch z⟩
  obtain ⟨a, b⟩ := ends_fold (T := T) (o := o) tl (st := (none, none)) h0 h1
  exact ⟨a.iff fun x => ⟨fun h => h.elim False.elim id, .inr⟩, b.iff fun x => ⟨fun h => h.elim False.elim id, .inr⟩⟩
def Feas (T : Tab) (tl : Al1) : Prop := ∀ p ∈ tl, ∀ q ∈ tl, ∀ t, T p.1 q.1 = some t → q.2 - p.2 ≤ t
theorem pz_at {a : Option Int} {b x : Int} (h : pz a (some b) = some x) : ∃ t, a = some t ∧ x = t + b := by
  obtain ⟨t, y, h1, h2, h3⟩ := pz_some h
  cases h2
  exact ⟨t, h1, h3⟩
theorem ng_at {a : Option Int} {t : Int} (h : ng a = some t) : ∃ x, a = some x ∧ t = -x := by
  cases a with
  | none => cases h
  | some x => cases h; exact ⟨x, rfl, rfl⟩
theorem ends_meet {T : Tab} (tri : ∀ a b c x y, T a b = some x → T b c = some y → ∃ z, T a c = some z ∧ z ≤ x + y) {tl : Al1} (F : Feas T tl) {o l g : Int} (h1 : (endsZ T tl o).1 = some l) (h2 : (endsZ T tl o).2 = some g) : l ≤ g := by
  obtain ⟨a, b⟩ := ends_at (T := T) (o := o) tl
  obtain ⟨p, hp, e1⟩ := a.2 l h1
  obtain ⟨q, hq, e2⟩ := b.2 g h2
  obtain ⟨t, e3, rfl⟩ := pz_at e1
  obtain ⟨t1, e4, rfl⟩ := ng_at e3
  obtain ⟨t2, e5, rfl⟩ := pz_at e2
  obtain ⟨z, e6, hz⟩ := tri _ _ _ _ _ e5 e4
  have := F q hq p hp z e6
  omega
theorem near_in {a b : Option Int} (h : ∀ x y, a = some x → b = some y → x ≤ y) : (∀ x, a = some x → x ≤ nearZ a b) ∧ ∀ y, b = some y → nearZ a b ≤ y := by
  unfold nearZ
  cases a with
  | none =>
    cases b with
    | none => exact ⟨fun x e => (nomatch e), fun x e => (nomatch e)⟩
    | some y => exact ⟨fun x e => (nomatch e), fun x e => by cases e; simp only; split <;> omega⟩
  | some x =>
    cases b with
    | none => exact ⟨fun x e => by cases e; simp only; split <;> omega, fun x e => (nomatch e)⟩
    | some y =>
      have := h x y rfl rfl
      exact ⟨fun x e => by cases e; simp only; split <;> (try split) <;> omega, fun x e => by cases e; simp only; split <;> (try split) <;> omega⟩
theorem feas_step {T : Tab} (tri : ∀ a b c x y, T a b = some x → T b c = some y → ∃ z, T a c = some z ∧ z ≤ x + y) {tl : Al1} (F : Feas T tl) {o : Int} (self : T o o = some 0) : Feas T (toldStep T tl o) := by
  unfold toldStep
  split
  · exact F
  · obtain ⟨a, b⟩ := ends_at (T := T) (o := o) tl
    obtain ⟨n1, n2⟩ := near_in fun x y => ends_meet tri F
    generalize nearZ (endsZ T tl o).1 (endsZ T tl o).2 = v at *
    intro p hp q hq t ht
    rcases List.mem_append.mp hp with hp | hp
    · rcases List.mem_append.mp hq with hq | hq
      · exact F p hp q hq t ht
      · rw [List.mem_singleton.mp hq] at ht ⊢
        obtain ⟨g, e1, e2⟩ := b.1 (t + p.2) ⟨p, hp, by rw [show T p.1 o = some t from ht]; rfl⟩
        have := n2 g e1
        show v - p.2 ≤ t
        omega
    · rw [List.mem_singleton.mp hp] at ht ⊢
      rcases List.mem_append.mp hq with hq | hq
      · obtain ⟨l, e1, e2⟩ := a.1 (-t + q.2) ⟨q, hq, by rw [show T o q.1 = some t from ht]; rfl⟩
        have := n1 l e1
        show q.2 - v ≤ t
        omega
      · rw [List.mem_singleton.mp hq] at ht ⊢
        have ht : T o o = some t := ht
        rw [self] at ht
        cases ht
        show v - v ≤ 0
        omega
theorem feas_all {T : Tab} (tri : ∀ a b c x y, T a b = some x → T b c = some y → ∃ z, T a c = some z ∧ z ≤ x + y) : ∀ (os : List Int) {tl : Al1}, Feas T tl → (∀ o ∈ os, T o o = some 0) → Feas T (os.foldl (toldStep T) tl)
  | [], _, F, _ => F
  | o :: os, tl, F, h => feas_all tri os (feas_step tri F (h o List.mem_cons_self)) fun x hx => h x (List.mem_cons_of_mem _ hx)
theorem look1_mem {tl : Al1} {a v : Int} (h : look1 tl a = some v) : (a, v) ∈ tl := by
  unfold look1 at h
  obtain ⟨p, hp, rfl⟩ := Option.map_eq_some_iff.mp h
  have e := of_decide_eq_true (List.find?_some (p := fun p : Int × Int => decide (p.1 = a)) hp)
  have m := List.mem_of_find?_eq_some hp
  rw [← e]
  exact m
theorem told_keeps {T : Tab} : ∀ (os : List Int) {tl : Al1} {a v : Int}, look1 tl a = some v → look1 (os.foldl (toldStep T) tl) a = some v
  | [], _, _, _, h => h
  | o :: os, tl, a, v, h => told_keeps os (by
    unfold toldStep
    split
    · exact h
    · rename_i hs
      have hn : look1 tl o = none := by
        cases e : look1 tl o with
        | none => rfl
        | some x => rw [e] at hs; exact absurd rfl hs
      rw [look1_snoc hn]
      split
      · rename_i e
        rw [e, hn] at h
        cases h
      · exact h)
theorem told_all {T : Tab} {j : Int} : ∀ (os : List Int) {tl : Al1}, (j ∈ os ∨ (look1 tl j).isSome = true) → (look1 (os.foldl (toldStep T) tl) j).isSome = true
  | [], tl, h => h.elim (fun z => nomatch z) id
  | o :: os, tl, h => told_all os (by
    rcases h with h | h
    · rcases List.mem_cons.mp h with rfl | h
      · exact .inr (told_some (.inl rfl))
      · exact .inl h
    · exact .inr (told_some (.inr h)))
/-- clocks that keep the facts of a table -/
def KeepT (m : Nat) (T : Tab) (c : List Int) : Prop := c.length = m ∧ clk c 0 = 0 ∧ ∀ a b t, T a b = some t → clk c b - clk c a ≤ t
theorem clk_map {m : Nat} {f : Int → Int} {a : Int} (h : In m a) : clk ((upI m).map f) a = f a := by
  unfold clk
  have hv : a.toNat < m := by have := h.1; have := h.2; omega
  rw [List.getD_eq_getElem?_getD, List.getElem?_map, upI_get hv]
  show f ((a.toNat : Nat) : Int) = f a
  rw [show ((a.toNat : Nat) : Int) = a by have := h.1; omega]
def loZ (T : Tab) (s : Int) : Option Int := ng (T s 0)
def boundZ (w : Int) (a b : Option Int) : Int := match a with
  | some l => if w < l then l else match b with
    | some g => if g < w then g else w
    | none => w
  | none => match b with
    | some g => if g < w then g else w
    | none => w
structure Closed (m : Nat) (T : Tab) : Prop where
  m1 : 1 ≤ m
  tri : ∀ a b c x y, T a b = some x → T b c = some y → ∃ z, T a c = some z ∧ z ≤ x + y
  self : ∀ a, In m a → T a a = some 0
  keys : ∀ a b v, T a b = some v → In m a ∧ In m b
  some_ : ∃ c, KeepT m T c
theorem Tabl.closed {m : Nat} {fs : List Fact} {c : List Int} {ps : Al} (t : Tabl m fs (clk c) ps) (hc : c.length = m) (z : clk c 0 = 0) (k : ∀ f ∈ fs, Kept (clk c) f) : Closed m (look ps) where
  m1 := t.fine.m1
  tri := fun a b c x y => dist_tri t.dist
  self := fun a ia => dist_self t.fine.snd t.dist ia
  keys := fun a b v e => by
    obtain ⟨ia, l, i, pa, _⟩ := t.dist.at_ a b v e
    exact ⟨ia, path_in t.fine.snd i pa ia⟩
  some_ := ⟨c, hc, z, (kept_pot t).mp k⟩
theorem In.zero {m : Nat} (h : 1 ≤ m) : In m 0 := ⟨Int.le_refl _, by omega⟩
theorem ends_zero {m : Nat} {T : Tab} (C : Closed m T) (s : Int) : endsZ T [(0, 0)] s = (loZ T s, T 0 s) := by
  unfold endsZ endZ loZ
  simp only [List.foldl_cons, List.foldl_nil]
  cases e1 : T s 0 <;> cases e2 : T 0 s <;> simp [pz, ng, lz]
theorem lo_hi {m : Nat} {T : Tab} (C : Closed m T) {s l g : Int} (h1 : loZ T s = some l) (h2 : T 0 s = some g) : l ≤ g := by
  obtain ⟨c, _, _, k⟩ := C.some_
  obtain ⟨x, e, rfl⟩ := ng_at h1
  have := k _ _ _ e
  have := k _ _ _ h2
  omega
theorem within_iff {m : Nat} {T : Tab} (C : Closed m T) {s w : Int} : withinZ T [(0, 0)] s w = true ↔ (∀ l, loZ T s = some l → l ≤ w) ∧ ∀ g, T 0 s = some g → w ≤ g := by
  unfold withinZ
  rw [ends_zero C, Bool.and_eq_true]
  refine and_congr ?_ ?_
  · cases e : loZ T s with
    | none => exact ⟨fun _ l z => (nomatch z), fun _ => rfl⟩
    | some l => exact ⟨fun h k z => by cases z; exact of_decide_eq_true h, fun h => decide_eq_true (h l rfl)⟩
  · cases e : T 0 s with
    | none => exact ⟨fun _ l z => (nomatch z), fun _ => rfl⟩
    | some l => exact ⟨fun h k z => by cases z; exact of_decide_eq_true h, fun h => decide_eq_true (h l rfl)⟩
/-- what clocks_at tells keeps the facts -/
theorem at_keep {m : Nat} {T : Tab} (C : Closed m T) {s w : Int} (is : In m s) (s0 : s ≠ 0) (h : withinZ T [(0, 0)] s w = true) : ∃ c, clkAt T m s w = .tuple (c.map .int) ∧ KeepT m T c ∧ clk c s = w := by
  obtain ⟨h1, h2⟩ := (within_iff C).mp h
  have z0 := C.self 0 (In.zero C.m1)
  have zs := C.self s is
  have F : Feas T [(0, 0), (s, w)] := by
    intro p hp q hq t ht
    rcases List.mem_cons.mp hp with rfl | hp
    · rcases List.mem_cons.mp hq with rfl | hq
      · have ht : T 0 0 = some t := ht
        rw [z0] at ht; cases ht; show (0 : Int) - 0 ≤ 0; omega
      · rw [List.mem_singleton.mp hq] at ht ⊢
        have := h2 t ht
        show w - 0 ≤ t; omega
    · rw [List.mem_singleton.mp hp] at ht ⊢
      rcases List.mem_cons.mp hq with rfl | hq
      · have := h1 (-t) (by unfold loZ; rw [show T s 0 = some t from ht]; rfl)
        show 0 - w ≤ t; omega
      · rw [List.mem_singleton.mp hq] at ht ⊢
        have ht : T s s = some t := ht
        rw [zs] at ht; cases ht; show w - w ≤ 0; omega
  have FA := feas_all C.tri (upI m) F fun o ho => C.self o (mem_upI.mp ho)
  have l0 : look1 (toldZ T (upI m) s w) 0 = some 0 := told_keeps (upI m) (tl := [(0, 0), (s, w)]) rfl
  have ls : look1 (toldZ T (upI m) s w) s = some w := told_keeps (upI m) (tl := [(0, 0), (s, w)]) (by
    unfold look1
    simp [Ne.symm s0])
  have al : ∀ j, In m j → ∃ v, look1 (toldZ T (upI m) s w) j = some v := fun j ij => Option.isSome_iff_exists.mp (told_all (upI m) (.inl (mem_upI.mpr ij)))
  refine ⟨(upI m).map fun k => (look1 (toldZ T (upI m) s w) k).getD 0, ?_, ⟨by rw [List.length_map, upI_len], ?_, fun a b t ht => ?_⟩, ?_⟩
  · unfold clkAt
    rw [if_pos h, List.map_map]
    rfl
  · rw [clk_map (In.zero C.m1), l0]; rfl
  · obtain ⟨ia, ib⟩ := C.keys a b t ht
    obtain ⟨va, ea⟩ := al a ia
    obtain ⟨vb, eb⟩ := al b ib
    rw [clk_map ia, clk_map ib, ea, eb]
    exact FA (a, va) (look1_mem ea) (b, vb) (look1_mem eb) t ht
  · rw [clk_map is, ls]; rfl
theorem bound_in {m : Nat} {T : Tab} (C : Closed m T) (s w : Int) : withinZ T [(0, 0)] s (boundZ w (loZ T s) (T 0 s)) = true := by
  refine (within_iff C).mpr ?_
  have q := fun {l g} => lo_hi C (s := s) (l := l) (g := g)
  unfold boundZ
  cases e1 : loZ T s with
  | none =>
    cases e2 : T 0 s with
    | none => exact ⟨fun l z => (nomatch z), fun l z => (nomatch z)⟩
    | some g => exact ⟨fun l z => (nomatch z), fun l z => by cases z; simp only; split <;> omega⟩
  | some l =>
    cases e2 : T 0 s with
    | none => exact ⟨fun k z => by cases z; simp only; split <;> omega, fun l z => (nomatch z)⟩
    | some g =>
      have := q e1 e2
      exact ⟨fun k z => by cases z; simp only; split <;> (try split) <;> omega, fun k z => by cases z; simp only; split <;> (try split) <;> omega⟩
theorem keep_bound {m : Nat} {T : Tab} (C : Closed m T) {c : List Int} (k : KeepT m T c) (s : Int) : boundZ (clk c s) (loZ T s) (T 0 s) = clk c s := by
  obtain ⟨_, z, k⟩ := k
  have h1 : ∀ l, loZ T s = some l → l ≤ clk c s := fun l e => by
    obtain ⟨x, e', rfl⟩ := ng_at e
    have := k _ _ _ e'
    omega
  have h2 : ∀ g, T 0 s = some g → clk c s ≤ g := fun g e => by
    have := k _ _ _ e
    omega
  unfold boundZ
  cases e1 : loZ T s with
  | none =>
    cases e2 : T 0 s with
    | none => rfl
    | some g => have := h2 g e2; simp only; rw [if_neg (by omega)]
  | some l =>
    have := h1 l e1
    cases e2 : T 0 s with
    | none => simp only; rw [if_neg (by omega)]
    | some g => have := h2 g e2; simp only; rw [if_neg (by omega), if_neg (by omega)]
/-! the least, the greatest offsets -/
theorem keep_low {m : Nat} {T : Tab} (C : Closed m T) (h : ∀ s, In m s → loZ T s ≠ none) : KeepT m T ((upI m).map fun s => (loZ T s).getD 0) := by
  refine ⟨by rw [List.length_map, upI_len], ?_, fun a b t ht => ?_⟩
  · rw [clk_map (In.zero C.m1)]
    unfold loZ
    rw [C.self 0 (In.zero C.m1)]
    rfl
  · obtain ⟨ia, ib⟩ := C.keys a b t ht
    rw [clk_map ia, clk_map ib]
    have ha := h a ia
    have hb := h b ib
    unfold loZ at *
    cases e1 : T a 0 with
    | none => rw [e1] at ha; exact absurd rfl ha
    | some x =>
      cases e2 : T b 0 with
      | none => rw [e2] at hb; exact absurd rfl hb
      | some y =>
        obtain ⟨z, e3, hz⟩ := C.tri _ _ _ _ _ ht e2
        rw [e1] at e3
        cases e3
        show -y - -x ≤ t
        omega
theorem keep_high {m : Nat} {T : Tab} (C : Closed m T) (h : ∀ s, In m s → T 0 s ≠ none) : KeepT m T ((upI m).map fun s => (T 0 s).getD 0) := by
  refine ⟨by rw [List.length_map, upI_len], ?_, fun a b t ht => ?_⟩
  · rw [clk_map (In.zero C.m1), C.self 0 (In.zero C.m1)]
    rfl
  · obtain ⟨ia, ib⟩ := C.keys a b t ht
    rw [clk_map ia, clk_map ib]
    have ha := h a ia
    have hb := h b ib
    cases e1 : T 0 a with
    | none => exact absurd e1 ha
    | some x =>
      cases e2 : T 0 b with
      | none => exact absurd e2 hb
      | some y =>
        obtain ⟨z, e3, hz⟩ := C.tri _ _ _ _ _ e1 ht
        rw [e2] at e3
        cases e3
        show y - x ≤ t
        omega
/-! two clocks, site by site -/
theorem clk_zip {m : Nat} {f : Int → Int → Int} {x y : List Int} (hx : x.length = m) (hy : y.length = m) {a : Int} (h : In m a) : clk (List.zipWith f x y) a = f (clk x a) (clk y a) := by
  have hv : a.toNat < m := by have := h.1; have := h.2; omega
  unfold clk
  rw [List.getD_eq_getElem?_getD, List.getD_eq_getElem?_getD, List.getD_eq_getElem?_getD, List.getElem?_zipWith, List.getElem?_eq_getElem (by omega : a.toNat < x.length), List.getElem?_eq_getElem (by omega : a.toNat < y.length)]
  rfl
theorem keep_zip {m : Nat} {T : Tab} (C : Closed m T) {f : Int → Int → Int} (f0 : f 0 0 = 0) (mono : ∀ a b c d t : Int, b - a ≤ t → d - c ≤ t → f b d - f a c ≤ t) {x y : List Int} (kx : KeepT m T x) (ky : KeepT m T y) : KeepT m T (List.zipWith f x y) := by
  obtain ⟨x1, x2, x3⟩ := kx
  obtain ⟨y1, y2, y3⟩ := ky
  refine ⟨by rw [List.length_zipWith]; omega, ?_, fun a b t ht => ?_⟩
  · rw [clk_zip x1 y1 (In.zero C.m1), x2, y2, f0]
  · obtain ⟨ia, ib⟩ := C.keys a b t ht
    rw [clk_zip x1 y1 ia, clk_zip x1 y1 ib]
    exact mono _ _ _ _ _ (x3 a b t ht) (y3 a b t ht)
theorem keep_min {m : Nat} {T : Tab} (C : Closed m T) {x y : List Int} (kx : KeepT m T x) (ky : KeepT m T y) : KeepT m T (List.zipWith min x y) := keep_zip C (by decide) (fun a b c d t => by omega) kx ky
theorem keep_max {m : Nat} {T : Tab} (C : Closed m T) {x y : List Int} (kx : KeepT m T x) (ky : KeepT m T y) : KeepT m T (List.zipWith max x y) := keep_zip C (by decide) (fun a b c d t => by omega) kx ky
theorem keep_down {m : Nat} {T : Tab} (C : Closed m T) {x y : List Int} (kx : KeepT m T x) (ky : KeepT m T y) : KeepT m T (List.zipWith (fun a b => (a + b).fdiv 2) x y) := keep_zip C (by decide) (fun a b c d t h1 h2 => by
  rw [Int.fdiv_eq_ediv_of_nonneg _ (by omega), Int.fdiv_eq_ediv_of_nonneg _ (by omega)]
  omega) kx ky
theorem keep_up {m : Nat} {T : Tab} (C : Closed m T) {x y : List Int} (kx : KeepT m T x) (ky : KeepT m T y) : KeepT m T (List.zipWith (fun a b => (a + b + 1).fdiv 2) x y) := keep_zip C (by decide) (fun a b c d t h1 h2 => by
  rw [Int.fdiv_eq_ediv_of_nonneg _ (by omega), Int.fdiv_eq_ediv_of_nonneg _ (by omega)]
  omega) kx ky
end Clk

set_option Elab.async false
set_option linter.all false
set_option maxRecDepth 100000
namespace K31
open PySem PySem.Spec PySem.W PyProof.Rows L2 Fx Clk
def b__law_lots : ES := (sSeq (sSetO 2 (oLZip (aCons (eV 0) (aCons (eV 1) aNil))))
    (sSeq (sSetO 3 (oLst (aCons (eUn oTuple (ofO (oLc (iSeq (eV 2)) (nName 4) cYes (eUn oMinA (eV 4)) [4]))) (aCons (eUn oTuple (ofO (oLc (iSeq (eV 2)) (nName 4) cYes (eUn oMaxA (eV 4)) [4]))) aNil))))
    (sSeq (sApp (eV 3) (eUn oTuple (ofO (oLc (iSeq (eV 2)) (nTup 2 (nCons (nName 5) (nCons (nName 6) nNil))) cYes (eOp oDiv (eOp oAdd (eV 5) (eV 6)) (eC (.int 2))) [5, 6]))))
    (sRet (ofO (oCatL (eV 3) (ofO (oLst (aCons (eUn oTuple (ofO (oLc (iSeq (eV 2)) (nTup 2 (nCons (nName 5) (nCons (nName 6) nNil))) cYes (eOp oDiv (eOp oAdd (eOp oAdd (eV 5) (eV 6)) (eC (.int 1))) (eC (.int 2))) [5, 6]))) aNil)))))))))
def f__law_lots : Fn := noer (fnOf [false, false] 7 b__law_lots)
def b__law_bound : ES := (sSeq (sIf (cAnd (cB (eOp oNotN (eV 1) (eC .none))) (cB (eOp oLt (eV 0) (eV 1)))) (sRet (eV 1)) sNx)
    (sRet (eIf (cAnd (cB (eOp oNotN (eV 2) (eC .none))) (cB (eOp oGt (eV 0) (eV 2)))) (eV 2) (eV 0))))
def f__law_bound : Fn := noer (fnOf [false, false, false] 3 b__law_bound)
def b__law_take : ES := (sSeq (sIf (cB (eOp oGt (eOp oIx (eV 0) (eC (.int 0))) (eC (.int 0)))) (sSeq (sAsg (eOp oMod (eUn oInt (eOp oIx (eV 0) (eC (.int 0)))) (eV 1)) (nName 2))
    (sSeq (sSetI (eV 0) (eC (.int 0)) (eOp oDiv (eOp oIx (eV 0) (eC (.int 0))) (eV 1)))
    (sRet (eV 2)))) sNx)
    (sSeq (sSetI (eV 0) (eC (.int 2)) (eOp oAdd (eOp oIx (eV 0) (eC (.int 2))) (eC (.int 1))))
    (sSeq (sAsg (eOp oIx (ofO (oLst (aCons (eC (.int 2147483647)) (aCons (eC (.int 2147483629)) (aCons (eC (.int 2147483587)) (aCons (eC (.int 2147483579)) (aCons (eC (.int 2147483563)) aNil))))))) (eOp oMod (eUn oInt (eOp oIx (eV 0) (eC (.int 2)))) (eC (.int 5)))) (nName 3))
    (sSeq (sAsg (eOp oMod (eUn oInt (eOp oPow (eUn oInt (eOp oAdd (eOp oAdd (eOp oIx (eV 0) (eC (.int 1))) (eOp oMul (eOp oMul (eC (.int 96211)) (eOp oIx (eV 0) (eC (.int 2)))) (eOp oIx (eV 0) (eC (.int 2))))) (eC (.int 5003)))) (eC (.int 3)))) (eV 3)) (nName 4))
    (sRet (eOp oMod (eUn oInt (eOp oDiv (eOp oMul (eV 4) (eOp oAdd (eOp oMod (eUn oInt (eV 4)) (eC (.int 15217))) (eOp oMul (eC (.int 1597)) (eOp oIx (eV 0) (eC (.int 2)))))) (eC (.int 593)))) (eV 1)))))))
def f__law_take : Fn := noer (fnOf [true, false] 5 b__law_take)
def b__law_of : ES := (sRet (eOp oIx (eV 1) (eCall [true, false] f__law_take (aCons (eV 0) (aCons (eUn oLen (eV 1)) aNil)))))
def f__law_of : Fn := noer (fnOf [true, false] 2 b__law_of)
def b__law_drawn_fact : ES := (sSeq (sAsg (eCall [true, false] f__law_take (aCons (eV 0) (aCons (eUn oLen (eV 1)) aNil))) (nName 2))
    (sSeq (sAsg (eOp oMod (eOp oAdd (eOp oAdd (eV 2) (eC (.int 1))) (eCall [true, false] f__law_take (aCons (eV 0) (aCons (eOp oSub (eUn oLen (eV 1)) (eC (.int 1))) aNil)))) (eUn oLen (eV 1))) (nName 3))
    (sSeq (sPar3 4 5 6 (mConsF (eOp oSub (eCall [true, false] f__law_take (aCons (eV 0) (aCons (eC (.int 2001)) aNil))) (eC (.int 700))) (mConsF (eCall [true, false] f__law_of (aCons (eV 0) (aCons (ofO (oLst (aCons (eC (.int 0)) (aCons (eC (.int 0)) (aCons (eC (.int 1)) (aCons (eC (.int 2)) (aCons (eC (.int 30)) aNil))))))) aNil))) (mConsF (eCall [true, false] f__law_of (aCons (eV 0) (aCons (ofO (oLst (aCons (eC (.int 0)) (aCons (eC (.int 0)) (aCons (eC (.int 1)) (aCons (eC (.int 2)) (aCons (eC (.int 9)) (aCons (eC (.int 200)) aNil)))))))) aNil))) mNil))))
    (sSeq (sAsg (eOp oAdd (eOp oAdd (eOp oAdd (eOp oSub (eV 4) (eOp oIx (eV 1) (eV 2))) (eV 5)) (eCall [true, false] f__law_take (aCons (eV 0) (aCons (eOp oAdd (eV 6) (eC (.int 1))) aNil)))) (eOp oIx (eV 1) (eV 3))) (nName 7))
    (sSeq (sAsg (eIf (cB (eOp oEq (eCall [true, false] f__law_take (aCons (eV 0) (aCons (eC (.int 4)) aNil))) (eC (.int 0)))) (eC .none) (eUn oInt (eOp oAdd (eV 5) (eV 6)))) (nName 8))
    (sRet (eTup (aCons (eUn oInt (eV 2)) (aCons (eUn oInt (eV 4)) (aCons (eUn oInt (eV 3)) (aCons (eUn oInt (eV 7)) (aCons (eUn oInt (eV 5)) (aCons (eV 8) aNil)))))))))))))
def f__law_drawn_fact : Fn := noer (fnOf [true, false] 9 b__law_drawn_fact)
def b__law_facts : ES := (sRet (eUn oTuple (ofO (oLc (iR1 (aCons (eV 2) aNil)) (nName 3) cYes (eCall [true, false] f__law_drawn_fact (aCons (eV 0) (aCons (eV 1) aNil))) [3]))))
def f__law_facts : Fn := noer (fnOf [true, false, false] 4 b__law_facts)
def b__law_offsets : ES := (sRet (ofO (oCatL (ofO (oLst (aCons (eC (.int 0)) aNil))) (ofO (oLc (iR1 (aCons (eOp oSub (eV 1) (eC (.int 1))) aNil)) (nName 2) cYes (eOp oSub (eCall [true, false] f__law_take (aCons (eV 0) (aCons (eC (.int 401)) aNil))) (eC (.int 200))) [2])))))
def f__law_offsets : Fn := noer (fnOf [true, false] 3 b__law_offsets)
def b__law_right : ES := (sSeq (sAsg (eOp oAdd (eC (.int 3)) (eCall [true, false] f__law_take (aCons (eV 0) (aCons (eC (.int 2)) aNil)))) (nName 1))
    (sSeq (sAsg (eCall [true, false] f__law_offsets (aCons (eV 0) (aCons (eV 1) aNil))) (nName 2))
    (sSeq (sAsg (eCall [true, false, false] f__law_facts (aCons (eV 0) (aCons (eV 2) (aCons (eC (.int 6)) aNil)))) (nName 3))
    (sSeq (sSetO 4 (oLc (iR1 (aCons (eC (.int 2)) aNil)) (nName 14) cYes (eTup (aCons (eOp oAdd (eC (.int 1)) (eCall [true, false] f__law_take (aCons (eV 0) (aCons (eOp oSub (eV 1) (eC (.int 1))) aNil)))) (aCons (eOp oSub (eCall [true, false] f__law_take (aCons (eV 0) (aCons (eC (.int 601)) aNil))) (eC (.int 300))) aNil))) [14]))
    (sSeq (sPar 5 6 (mConsO (oLst (aCons (eUn oTuple (eV 2)) aNil)) (mConsO (oLc (iR1 (aCons (eV 1) aNil)) (nName 7) cYes (eCall [false, false, false, false] f_bounds (aCons (eV 1) (aCons (eV 3) (aCons (eC (.int 0)) (aCons (eV 7) aNil))))) [7]) mNil)))
    (sSeq (sFor (iSeq (eV 4)) (nTup 2 (nCons (nName 7) (nCons (nName 8) nNil))) (sSeq (sAsg (eCall [false, false, false] f__law_bound (aCons (eV 8) (aCons (eOp oIx (eOp oIx (eV 6) (eV 7)) (eC (.int 0))) (aCons (eOp oIx (eOp oIx (eV 6) (eV 7)) (eC (.int 1))) aNil)))) (nName 9))
    (sSeq (sAsg (eCall [false, false, false, false] f_clocks_at (aCons (eV 1) (aCons (eV 3) (aCons (eV 7) (aCons (eV 9) aNil))))) (nName 10))
    (sSeq (sIf (cOr (cB (eOp oIsN (eV 10) (eC .none))) (cOr (cB (eOp oNe (eUn oLen (eV 10)) (eV 1))) (cOr (cB (eOp oNe (eOp oIx (eV 10) (eV 7)) (eV 9))) (cB (eOp oNe (eOp oIx (eV 10) (eC (.int 0))) (eC (.int 0))))))) (sRet (eC (.bool false))) sNx)
    (sSeq (sApp (eV 5) (eV 10))
    (sSeq (sFor (iSeq (eOp oIx (eV 6) (eV 7))) (nName 11) (sIf (cAnd (cB (eOp oNotN (eV 11) (eC .none))) (cB (eOp oIsN (eCall [false, false, false, false] f_clocks_at (aCons (eV 1) (aCons (eV 3) (aCons (eV 7) (aCons (eV 11) aNil))))) (eC .none)))) (sRet (eC (.bool false))) sNx))
    (sIf (cAnd (cB (eOp oNotN (eOp oIx (eOp oIx (eV 6) (eV 7)) (eC (.int 1))) (eC .none))) (cB (eOp oNotN (eCall [false, false, false, false] f_clocks_at (aCons (eV 1) (aCons (eV 3) (aCons (eV 7) (aCons (eOp oAdd (eOp oIx (eOp oIx (eV 6) (eV 7)) (eC (.int 1))) (eC (.int 1))) aNil))))) (eC .none)))) (sRet (eC (.bool false))) sNx)))))))
    (sSeq (sExt (eV 5) (oLc (iR1 (aCons (eC (.int 2)) aNil)) (nName 15) (cB (eOp (oInL true) (eC .none) (ofO (oLc (iSeq (eV 6)) (nName 11) cYes (eOp oIx (eV 11) (eV 15)) [11])))) (eUn oTuple (ofO (oLc (iSeq (eV 6)) (nName 11) cYes (eOp oIx (eV 11) (eV 15)) [11]))) [15]))
    (sSeq (sFor (iSeq (eV 5)) (nName 12) (sSeq (sIf (cNot (cB (eCall [false, false, false] f_are_clocks (aCons (eV 1) (aCons (eV 3) (aCons (eV 12) aNil)))))) (sRet (eC (.bool false))) sNx)
    (sSeq (sFor (iZip (aCons (eV 6) (aCons (eV 12) aNil))) (nTup 2 (nCons (nName 11) (nCons (nName 9) nNil))) (sIf (cB (eOp oNe (eCall [false, false, false] f__law_bound (aCons (eV 9) (aCons (eOp oIx (eV 11) (eC (.int 0))) (aCons (eOp oIx (eV 11) (eC (.int 1))) aNil)))) (eV 9))) (sRet (eC (.bool false))) sNx))
    (sFor (iSeq (eV 5)) (nName 13) (sIf (cNot (cB (eUn oAll (ofO (oLc (iSeq (eCall [false, false] f__law_lots (aCons (eV 12) (aCons (eV 13) aNil)))) (nName 16) cYes (eCall [false, false, false] f_are_clocks (aCons (eV 1) (aCons (eV 3) (aCons (eV 16) aNil)))) [16]))))) (sRet (eC (.bool false))) sNx)))))
    (sRet (eC (.bool true)))))))))))
def f__law_right : Fn := noer (fnOf [true] 17 b__law_right)
def b__law_pot : ES := (sSeq (sAsg (eIf (cB (eOp oLt (eV 1) (eUn oLen (eV 0)))) (eOp oIx (eV 0) (eV 1)) (eOp oAdd (eOp oAdd (eOp oMod (eUn oInt (eUn oSum (ofO (oSl (eV 0) pNo (pSo (eC (.int 1))))))) (eC (.int 1000003))) (eOp oMul (eC (.int 6007)) (eV 1))) (eC (.int 4409)))) (nName 2))
    (sSeq (sAsg (eOp oMul (eOp oMod (eUn oInt (eUn oAbs (eV 2))) (eOp oPow (eOp oPow (eC (.int 10)) (eC (.int 60))) (eC (.int 5)))) (eUn oInt (eOp oGe (eUn oAbs (eV 2)) (eOp oPow (eC (.int 10)) (eC (.int 18)))))) (nName 3))
    (sSeq (sAsg (eOp oMod (eUn oInt (eV 2)) (eC (.int 2305843009213693951))) (nName 4))
    (sRetO (oLst (aCons (eV 3) (aCons (eOp oMod (eUn oInt (eOp oAdd (eOp oAdd (eOp oMul (eV 4) (eC (.int 95101))) (eOp oMul (eOp oMul (eC (.int 13709)) (eV 1)) (eV 1))) (eC (.int 1361)))) (eC (.int 2305843009213693921))) (aCons (eC (.int 0)) aNil))))))))
def f__law_pot : Fn := noer (fnOf [false, false] 5 b__law_pot)
def b_law : ES := (sRet (eUn oAll (ofO (oLc (iR1 (aCons (eOp oMax2 (eC (.int 1)) (eOp oMin2 (eC (.int 2)) (eUn oLen (eV 0)))) aNil)) (nName 1) cYes (eCallT f__law_right (eCallO [false, false] f__law_pot (aCons (eV 0) (aCons (eV 1) aNil)))) [1]))))
def f_law : Fn := noer (fnOf [false] 2 b_law)
end K31

set_option Elab.async false
set_option linter.all false
set_option maxRecDepth 20000
namespace K31
open PySem Fx Clk

abbrev tupI (c : List Int) : D := .tuple (c.map .int)
def pr (p : Int × Int) : D := .tuple [.int p.1, .int p.2]
theorem zip_pr (x y : List Int) : zipD (x.map .int) (y.map .int) = (x.zip y).map pr := by
  unfold zipD
  rw [List.zip_map, List.map_map]
  rfl
theorem min_pr (p : Int × Int) : oMinA (pr p) = some (.int (min p.1 p.2)) := by
  have h : alikeB [PyData.int p.1, .int p.2] = true ∧ PyData.hasDictAll [PyData.int p.1, .int p.2] = false ∧ PyData.depthAll [PyData.int p.1, .int p.2] ≤ 60 := ⟨rfl, rfl, by show (0 : Nat) ≤ 60; omega⟩
  unfold oMinA oBestA pr
  simp only
  rw [if_pos h]
  exact congrArg some (PySem.W.minD_ints p.1 [p.2])
theorem max_pr (p : Int × Int) : oMaxA (pr p) = some (.int (max p.1 p.2)) := by
  have h : alikeB [PyData.int p.1, .int p.2] = true ∧ PyData.hasDictAll [PyData.int p.1, .int p.2] = false ∧ PyData.depthAll [PyData.int p.1, .int p.2] ≤ 60 := ⟨rfl, rfl, by show (0 : Nat) ≤ 60; omega⟩
  unfold oMaxA oBestA pr
  simp only
  rw [if_pos h]
  exact congrArg some (PySem.W.maxD_ints p.1 [p.2])
theorem two_pos : (0 : Int) < 2 := by decide
def lMin : EO := oLc (iSeq (eV 2)) (nName 4) cYes (eUn oMinA (eV 4)) [4]
def lMax : EO := oLc (iSeq (eV 2)) (nName 4) cYes (eUn oMaxA (eV 4)) [4]
def lDn : EO := oLc (iSeq (eV 2)) (nTup 2 (nCons (nName 5) (nCons (nName 6) nNil))) cYes (eOp oDiv (eOp oAdd (eV 5) (eV 6)) (eC (.int 2))) [5, 6]
def lUp : EO := oLc (iSeq (eV 2)) (nTup 2 (nCons (nName 5) (nCons (nName 6) nNil))) cYes (eOp oDiv (eOp oAdd (eOp oAdd (eV 5) (eV 6)) (eC (.int 1))) (eC (.int 2))) [5, 6]
theorem body_lots : b__law_lots = (sSeq (sSetO 2 (oLZip (aCons (eV 0) (aCons (eV 1) aNil))))
    (sSeq (sSetO 3 (oLst (aCons (eUn oTuple (ofO lMin)) (aCons (eUn oTuple (ofO lMax)) aNil))))
    (sSeq (sApp (eV 3) (eUn oTuple (ofO lDn)))
    (sRet (ofO (oCatL (eV 3) (ofO (oLst (aCons (eUn oTuple (ofO lUp)) aNil))))))))) := by
  unfold b__law_lots lMin lMax lDn lUp
  rfl
section
variable {x y : D} {ps : List (Int × Int)} {b : Bool} {s3 : Sl}
theorem lMin_ok (hl : ps.length ≤ 12) : lMin [.fz x, .fz y, ob b (.list (ps.map pr)), s3, .un, .un, .un] = .ok (.list (ps.map fun p => .int (min p.1 p.2))) [.fz x, .fz y, .fz (.list (ps.map pr)), s3, .un, .un, .un] :=
  oLc_enc pr (fun p => .int (min p.1 p.2)) (xs := ps) (en1 := [.fz x, .fz y, .fz (.list (ps.map pr)), s3, .un, .un, .un]) (by cases b <;> simp [iSeq, ob]) (by simp) (by simp) (by omega) fun p hp =>
    ⟨[.fz x, .fz y, .fz (.list (ps.map pr)), s3, .fz (pr p), .un, .un], by simp, [.fz x, .fz y, .fz (.list (ps.map pr)), s3, .fz (pr p), .un, .un], by simp [min_pr], by simp⟩
theorem lMax_ok (hl : ps.length ≤ 12) : lMax [.fz x, .fz y, .fz (.list (ps.map pr)), s3, .un, .un, .un] = .ok (.list (ps.map fun p => .int (max p.1 p.2))) [.fz x, .fz y, .fz (.list (ps.map pr)), s3, .un, .un, .un] :=
  oLc_enc pr (fun p => .int (max p.1 p.2)) (xs := ps) (en1 := [.fz x, .fz y, .fz (.list (ps.map pr)), s3, .un, .un, .un]) (by simp [iSeq]) (by simp) (by simp) (by omega) fun p hp =>
    ⟨[.fz x, .fz y, .fz (.list (ps.map pr)), s3, .fz (pr p), .un, .un], by simp, [.fz x, .fz y, .fz (.list (ps.map pr)), s3, .fz (pr p), .un, .un], by simp [max_pr], by simp⟩
theorem div2 (i : Int) : oDiv (.int i) (.int 2) = some (.int (i.fdiv 2)) := Pot.oDiv_int (by omega) (by omega)
theorem lDn_ok (hl : ps.length ≤ 12) : lDn [.fz x, .fz y, .fz (.list (ps.map pr)), s3, .un, .un, .un] = .ok (.list (ps.map fun p => .int ((p.1 + p.2).fdiv 2))) [.fz x, .fz y, .fz (.list (ps.map pr)), s3, .un, .un, .un] :=
  oLc_enc pr (fun p => .int ((p.1 + p.2).fdiv 2)) (xs := ps) (en1 := [.fz x, .fz y, .fz (.list (ps.map pr)), s3, .un, .un, .un]) (by simp [iSeq]) (by simp) (by simp) (by omega) fun p hp =>
    ⟨[.fz x, .fz y, .fz (.list (ps.map pr)), s3, .un, .fz (.int p.1), .fz (.int p.2)], by simp [pr], [.fz x, .fz y, .fz (.list (ps.map pr)), s3, .un, .fz (.int p.1), .fz (.int p.2)], by simp [div2], by simp⟩
theorem lUp_ok (hl : ps.length ≤ 12) : lUp [.fz x, .fz y, .fz (.list (ps.map pr)), s3, .un, .un, .un] = .ok (.list (ps.map fun p => .int ((p.1 + p.2 + 1).fdiv 2))) [.fz x, .fz y, .fz (.list (ps.map pr)), s3, .un, .un, .un] :=
  oLc_enc pr (fun p => .int ((p.1 + p.2 + 1).fdiv 2)) (xs := ps) (en1 := [.fz x, .fz y, .fz (.list (ps.map pr)), s3, .un, .un, .un]) (by simp [iSeq]) (by simp) (by simp) (by omega) fun p hp =>
    ⟨[.fz x, .fz y, .fz (.list (ps.map pr)), s3, .un, .fz (.int p.1), .fz (.int p.2)], by simp [pr], [.fz x, .fz y, .fz (.list (ps.map pr)), s3, .un, .fz (.int p.1), .fz (.int p.2)], by simp [div2], by simp⟩
end
theorem zip_with (f : Int → Int → Int) (x y : List Int) : (x.zip y).map (fun p => PyData.int (f p.1 p.2)) = (List.zipWith f x y).map .int := by
  rw [List.zip, List.map_zipWith, List.map_zipWith]
theorem lots_wp {x y : D} {P : D} {A1 A2 A3 A4 : List D} {Z L1 L2 L3 L4 : EO} (z : Z [.fz x, .fz y, .un, .un, .un, .un, .un] = .ok P [.fz x, .fz y, .un, .un, .un, .un, .un])
    (h1 : L1 [.fz x, .fz y, .ow P, .un, .un, .un, .un] = .ok (.list A1) [.fz x, .fz y, .fz P, .un, .un, .un, .un]) (h2 : L2 [.fz x, .fz y, .fz P, .un, .un, .un, .un] = .ok (.list A2) [.fz x, .fz y, .fz P, .un, .un, .un, .un])
    (h3 : L3 [.fz x, .fz y, .fz P, .ow (.list [.tuple A1, .tuple A2]), .un, .un, .un] = .ok (.list A3) [.fz x, .fz y, .fz P, .ow (.list [.tuple A1, .tuple A2]), .un, .un, .un])
    (h4 : L4 [.fz x, .fz y, .fz P, .ow (.list [.tuple A1, .tuple A2, .tuple A3]), .un, .un, .un] = .ok (.list A4) [.fz x, .fz y, .fz P, .ow (.list [.tuple A1, .tuple A2, .tuple A3]), .un, .un, .un]) :
    Wp ((sSeq (sSetO 2 Z)
    (sSeq (sSetO 3 (oLst (aCons (eUn oTuple (ofO L1)) (aCons (eUn oTuple (ofO L2)) aNil))))
    (sSeq (sApp (eV 3) (eUn oTuple (ofO L3)))
    (sRet (ofO (oCatL (eV 3) (ofO (oLst (aCons (eUn oTuple (ofO L4)) aNil))))))))) [.fz x, .fz y, .un, .un, .un, .un, .un]) fun o en => o = .rt (.list [.tuple A1, .tuple A2, .tuple A3, .tuple A4]) ∧ outsOf [false, false] 0 en = some [] := by
  refine wp_nx (en' := [.fz x, .fz y, .ow P, .un, .un, .un, .un]) (setO_eq z (by simp) (by simp)) ?_
  refine wp_nx (en' := [.fz x, .fz y, .fz P, .ow (.list [.tuple A1, .tuple A2]), .un, .un, .un]) (setO_eq (en1 := [.fz x, .fz y, .fz P, .un, .un, .un, .un]) (d := .list [.tuple A1, .tuple A2]) (by simp [oLst, h1, h2, oTuple]) (by simp) (by simp)) ?_
  refine wp_nx (en' := [.fz x, .fz y, .fz P, .ow (.list [.tuple A1, .tuple A2, .tuple A3]), .un, .un, .un]) (by simp [sApp, h3, oTuple]) ?_
  simp [wp_ok, oCatL, oLst, h4, oTuple]
theorem lots_ok {x y : List Int} {m : Nat} (hm : m ≤ 12) (hx : x.length = m) (hy : y.length = m) :
    f__law_lots [tupI x, tupI y] = .ok (.list [tupI (List.zipWith min x y), tupI (List.zipWith max x y), tupI (List.zipWith (fun a b => (a + b).fdiv 2) x y), tupI (List.zipWith (fun a b => (a + b + 1).fdiv 2) x y)]) [] := by
  have hl : (x.zip y).length ≤ 12 := by rw [List.length_zip]; omega
  refine fn_wpA [.fz (tupI x), .fz (tupI y), .un, .un, .un, .un, .un] rfl ?_
  rw [body_lots]
  unfold tupI
  rw [← zip_with min, ← zip_with max, ← zip_with fun a b => (a + b).fdiv 2, ← zip_with fun a b => (a + b + 1).fdiv 2]
  refine lots_wp (P := .list ((x.zip y).map pr)) ?_ (lMin_ok (b := true) hl) (lMax_ok hl) (lDn_ok hl) (lUp_ok hl)
  have hz := zip_pr x y
  have l1 : (x.map PyData.int).length ≤ 65536 := by rw [List.length_map]; omega
  simp [oLZip, seqD, hz, l1]
  omega
end K31

set_option Elab.async false
set_option linter.all false
set_option maxRecDepth 20000
namespace K31
open PySem Fx Clk

def gPicks (tk : Fn) : EO := (oLc (iR1 (aCons (eC (.int 2)) aNil)) (nName 14) cYes (eTup (aCons (eOp oAdd (eC (.int 1)) (eCall [true, false] tk (aCons (eV 0) (aCons (eOp oSub (eV 1) (eC (.int 1))) aNil)))) (aCons (eOp oSub (eCall [true, false] tk (aCons (eV 0) (aCons (eC (.int 601)) aNil))) (eC (.int 300))) aNil))) [14])
def gEnds (fb : Fn) : EO := (oLc (iR1 (aCons (eV 1) aNil)) (nName 7) cYes (eCall [false, false, false, false] fb (aCons (eV 1) (aCons (eV 3) (aCons (eC (.int 0)) (aCons (eV 7) aNil))))) [7])
def gCol : EO := (oLc (iSeq (eV 6)) (nName 11) cYes (eOp oIx (eV 11) (eV 15)) [11])
def gExt : EO := (oLc (iR1 (aCons (eC (.int 2)) aNil)) (nName 15) (cB (eOp (oInL true) (eC .none) (ofO gCol))) (eUn oTuple (ofO gCol)) [15])
def gSome (fa fl : Fn) : EO := (oLc (iSeq (eCall [false, false] fl (aCons (eV 12) (aCons (eV 13) aNil)))) (nName 16) cYes (eCall [false, false, false] fa (aCons (eV 1) (aCons (eV 3) (aCons (eV 16) aNil)))) [16])
def gLoop1 (fbd fat : Fn) : ES := (sFor (iSeq (eV 4)) (nTup 2 (nCons (nName 7) (nCons (nName 8) nNil))) (sSeq (sAsg (eCall [false, false, false] fbd (aCons (eV 8) (aCons (eOp oIx (eOp oIx (eV 6) (eV 7)) (eC (.int 0))) (aCons (eOp oIx (eOp oIx (eV 6) (eV 7)) (eC (.int 1))) aNil)))) (nName 9))
    (sSeq (sAsg (eCall [false, false, false, false] fat (aCons (eV 1) (aCons (eV 3) (aCons (eV 7) (aCons (eV 9) aNil))))) (nName 10))
    (sSeq (sIf (cOr (cB (eOp oIsN (eV 10) (eC .none))) (cOr (cB (eOp oNe (eUn oLen (eV 10)) (eV 1))) (cOr (cB (eOp oNe (eOp oIx (eV 10) (eV 7)) (eV 9))) (cB (eOp oNe (eOp oIx (eV 10) (eC (.int 0))) (eC (.int 0))))))) (sRet (eC (.bool false))) sNx)
    (sSeq (sApp (eV 5) (eV 10))
    (sSeq (sFor (iSeq (eOp oIx (eV 6) (eV 7))) (nName 11) (sIf (cAnd (cB (eOp oNotN (eV 11) (eC .none))) (cB (eOp oIsN (eCall [false, false, false, false] fat (aCons (eV 1) (aCons (eV 3) (aCons (eV 7) (aCons (eV 11) aNil))))) (eC .none)))) (sRet (eC (.bool false))) sNx))
    (sIf (cAnd (cB (eOp oNotN (eOp oIx (eOp oIx (eV 6) (eV 7)) (eC (.int 1))) (eC .none))) (cB (eOp oNotN (eCall [false, false, false, false] fat (aCons (eV 1) (aCons (eV 3) (aCons (eV 7) (aCons (eOp oAdd (eOp oIx (eOp oIx (eV 6) (eV 7)) (eC (.int 1))) (eC (.int 1))) aNil))))) (eC .none)))) (sRet (eC (.bool false))) sNx)))))))
def gLoop2 (fa fbd fl : Fn) : ES := (sFor (iSeq (eV 5)) (nName 12) (sSeq (sIf (cNot (cB (eCall [false, false, false] fa (aCons (eV 1) (aCons (eV 3) (aCons (eV 12) aNil)))))) (sRet (eC (.bool false))) sNx)
    (sSeq (sFor (iZip (aCons (eV 6) (aCons (eV 12) aNil))) (nTup 2 (nCons (nName 11) (nCons (nName 9) nNil))) (sIf (cB (eOp oNe (eCall [false, false, false] fbd (aCons (eV 9) (aCons (eOp oIx (eV 11) (eC (.int 0))) (aCons (eOp oIx (eV 11) (eC (.int 1))) aNil)))) (eV 9))) (sRet (eC (.bool false))) sNx))
    (sFor (iSeq (eV 5)) (nName 13) (sIf (cNot (cB (eUn oAll (ofO (gSome fa fl))))) (sRet (eC (.bool false))) sNx)))))
def gRight (tk fo ff fbd fat fb fa fl : Fn) : ES := (sSeq (sAsg (eOp oAdd (eC (.int 3)) (eCall [true, false] tk (aCons (eV 0) (aCons (eC (.int 2)) aNil)))) (nName 1))
    (sSeq (sAsg (eCall [true, false] fo (aCons (eV 0) (aCons (eV 1) aNil))) (nName 2))
    (sSeq (sAsg (eCall [true, false, false] ff (aCons (eV 0) (aCons (eV 2) (aCons (eC (.int 6)) aNil)))) (nName 3))
    (sSeq (sSetO 4 (gPicks tk))
    (sSeq (sPar 5 6 (mConsO (oLst (aCons (eUn oTuple (eV 2)) aNil)) (mConsO (gEnds fb) mNil)))
    (sSeq (gLoop1 fbd fat)
    (sSeq (sExt (eV 5) (gExt))
    (sSeq (gLoop2 fa fbd fl)
    (sRet (eC (.bool true)))))))))))
theorem body_r : b__law_right = gRight f__law_take f__law_offsets f__law_facts f__law_bound f_clocks_at f_bounds f_are_clocks f__law_lots := by
  unfold b__law_right gRight gPicks gEnds gExt gCol gLoop1 gLoop2 gSome
  rfl
theorem ix_upi {m : Nat} {a : Int} (h : In m a) (g : Int → D) : oIx (.list ((upI m).map g)) (.int a) = some (g a) := by
  have hv : a.toNat < m := by have := h.1; have := h.2; omega
  have e : ((a.toNat : Nat) : Int) = a := by have := h.1; omega
  have := ix_nat (l := (upI m).map g) (k := a.toNat) (d := g a) (by
    rw [List.getElem?_map, upI_get hv]
    show some (g ((a.toNat : Nat) : Int)) = _
    rw [e])
  rwa [e] at this
def endD (lo hi : Int → Option Int) (s : Int) : D := .tuple [oi (lo s), oi (hi s)]
theorem ix_e0 {x y : D} : oIx (.tuple [x, y]) (.int 0) = some x := rfl
theorem ix_e1 {x y : D} : oIx (.tuple [x, y]) (.int 1) = some y := rfl
structure Hyp (m : Nat) (F : D) (lo hi : Int → Option Int) (KP : List Int → Prop) (fbd fat fa fl : Fn) : Prop where
  m1 : 1 ≤ m
  m12 : m ≤ 12
  len : ∀ c, KP c → c.length = m
  zero : ∀ c, KP c → clk c 0 = 0
  bd : ∀ w a b, fbd [.int w, oi a, oi b] = .ok (.int (boundZ w a b)) []
  at_ : ∀ s w, In m s → s ≠ 0 → ∃ c, fat [.int (m : Int), F, .int s, .int (boundZ w (lo s) (hi s))] = .ok (tupI c) [] ∧ KP c ∧ clk c s = boundZ w (lo s) (hi s)
  low : ∀ s e, In m s → s ≠ 0 → lo s = some e → ∃ c, fat [.int (m : Int), F, .int s, .int e] = .ok (tupI c) []
  high : ∀ s e, In m s → s ≠ 0 → hi s = some e → ∃ c, fat [.int (m : Int), F, .int s, .int e] = .ok (tupI c) []
  over : ∀ s e, In m s → s ≠ 0 → hi s = some e → fat [.int (m : Int), F, .int s, .int (e + 1)] = .ok .none []
  keep : ∀ c, KP c → fa [.int (m : Int), F, tupI c] = .ok (.bool true) []
  bk : ∀ c s, KP c → In m s → boundZ (clk c s) (lo s) (hi s) = clk c s
  lots : ∀ x y, KP x → KP y → ∃ zs : List (List Int), fl [tupI x, tupI y] = .ok (.list (zs.map tupI)) [] ∧ (∀ z ∈ zs, KP z) ∧ zs.length ≤ 10
  lows : (∀ s, In m s → lo s ≠ none) → KP ((upI m).map fun s => (lo s).getD 0)
  highs : (∀ s, In m s → hi s ≠ none) → KP ((upI m).map fun s => (hi s).getD 0)
section
variable {m : Nat} {F ofs : D} {lo hi : Int → Option Int} {KP : List Int → Prop} {fbd fat fa fl : Fn} {s0 : Sl}
theorem ends_for {fat : Fn} {M F : D} {s : Int} {l : List (Option Int)} (h : ∀ o ∈ l, ∀ e, o = some e → ∃ c, fat [M, F, .int s, .int e] = .ok (tupI c) []) {f : EE} {sa sb sc sd se sf : Sl} {o11 : Option D} {s4 s5 s6 : Sl} (s0 s2 : Sl) {Q : Out → En → Prop}
    (it : iSeq f [s0, .fz M, s2, .fz F, s4, s5, s6, .fz (.int s), sa, sb, sc, sl o11, sd, se, sf, .un, .un] = .ok (l.map oi) [s0, .fz M, s2, .fz F, s4, s5, s6, .fz (.int s), sa, sb, sc, sl o11, sd, se, sf, .un, .un])
    (q : ∀ o11, Q .nx [s0, .fz M, s2, .fz F, s4, s5, s6, .fz (.int s), sa, sb, sc, sl o11, sd, se, sf, .un, .un]) :
    Wp (sFor (iSeq f) (nName 11) (sIf (cAnd (cB (eOp oNotN (eV 11) (eC .none))) (cB (eOp oIsN (eCall [false, false, false, false] fat (aCons (eV 1) (aCons (eV 3) (aCons (eV 7) (aCons (eV 11) aNil))))) (eC .none)))) (sRet (eC (.bool false))) sNx)
      [s0, .fz M, s2, .fz F, s4, s5, s6, .fz (.int s), sa, sb, sc, sl o11, sd, se, sf, .un, .un]) Q := by
  refine wp_forN (l.map oi) _ it (fun i en => ∃ o11, en = [s0, .fz M, s2, .fz F, s4, s5, s6, .fz (.int s), sa, sb, sc, sl o11, sd, se, sf, .un, .un]) ⟨o11, rfl⟩ ?_ ?_
  · rintro i d en hd ⟨o11, rfl⟩
    rw [List.getElem?_map] at hd
    obtain ⟨o, ho, rfl⟩ := Option.map_eq_some_iff.mp hd
    refine ⟨[s0, .fz M, s2, .fz F, s4, s5, s6, .fz (.int s), sa, sb, sc, .fz (oi o), sd, se, sf, .un, .un], by simp, ?_⟩
    have hm := List.mem_of_getElem? ho
    cases o with
    | none => simp [wp_ok, oi, isN]
    | some e =>
      obtain ⟨c, hc⟩ := h _ hm e rfl
      simp [wp_ok, oi, isN, hc]
  · rintro en ⟨o11, rfl⟩
    exact q o11
theorem loop1_ok (H : Hyp m F lo hi KP fbd fat fa fl) {s2 : Sl} {picks : List (Int × Int)} (hp : ∀ p ∈ picks, In m p.1 ∧ p.1 ≠ 0) (lp : picks.length ≤ 10) {cs0 : List (List Int)} (k0 : ∀ c ∈ cs0, KP c) (l0 : cs0.length = 1) {Q : Out → En → Prop}
    (q : ∀ (cs : List (List Int)) (o7 o8 o9 o10 o11 : Option D), (∀ c ∈ cs, KP c) → cs.length ≤ 11 → Q .nx [s0, .fz (.int (m : Int)), s2, .fz F, .fz (.list (picks.map pr)), .ow (.list (cs.map tupI)), .ow (.list ((upI m).map (endD lo hi))), sl o7, sl o8, sl o9, sl o10, sl o11, .un, .un, .un, .un, .un]) :
    Wp (gLoop1 fbd fat [s0, .fz (.int (m : Int)), s2, .fz F, .ow (.list (picks.map pr)), .ow (.list (cs0.map tupI)), .ow (.list ((upI m).map (endD lo hi))), .un, .un, .un, .un, .un, .un, .un, .un, .un, .un]) Q := by
  unfold gLoop1
  refine wp_forN (picks.map pr) [s0, .fz (.int (m : Int)), s2, .fz F, .fz (.list (picks.map pr)), .ow (.list (cs0.map tupI)), .ow (.list ((upI m).map (endD lo hi))), .un, .un, .un, .un, .un, .un, .un, .un, .un, .un] (by simp [iSeq])
    (fun i en => ∃ (cs : List (List Int)) (o7 o8 o9 o10 o11 : Option D), en = [s0, .fz (.int (m : Int)), s2, .fz F, .fz (.list (picks.map pr)), .ow (.list (cs.map tupI)), .ow (.list ((upI m).map (endD lo hi))), sl o7, sl o8, sl o9, sl o10, sl o11, .un, .un, .un, .un, .un] ∧ (∀ c ∈ cs, KP c) ∧ cs.length = 1 + i)
    ⟨cs0, none, none, none, none, none, rfl, k0, l0⟩ ?_ ?_
  · rintro i d en hd ⟨cs, o7, o8, o9, o10, o11, rfl, hk, hl⟩
    rw [List.getElem?_map] at hd
    obtain ⟨p, hpi, rfl⟩ := Option.map_eq_some_iff.mp hd
    have hi' := (List.getElem?_eq_some_iff.mp hpi).1
    obtain ⟨is, n0⟩ := hp p (List.mem_of_getElem? hpi)
    have ix := ix_upi is (endD lo hi)
    obtain ⟨c, a1, a2, a3⟩ := H.at_ p.1 p.2 is n0
    have b1 := H.bd p.2 (lo p.1) (hi p.1)
    have i1 := ix_clkT (os := c) is.1 (by rw [H.len c a2]; exact is.2)
    have i0 := ix_clkT (os := c) (i := 0) (by omega) (by rw [H.len c a2]; have := H.m1; omega)
    rw [a3] at i1
    rw [H.zero c a2] at i0
    have ln : oLen (tupI c) = some (.int (m : Int)) := by
      show some (PyData.int ((c.map PyData.int).length : Int)) = _
      rw [List.length_map, H.len c a2]
    have ls : cs.length < 65536 := by omega
    have dd : endD lo hi p.1 = .tuple [oi (lo p.1), oi (hi p.1)] := rfl
    rw [dd] at ix
    generalize boundZ p.2 (lo p.1) (hi p.1) = w at *
    generalize (upI m).map (endD lo hi) = E at *
    generalize picks.map pr = P at *
    refine ⟨[s0, .fz (.int (m : Int)), s2, .fz F, .fz (.list P), .ow (.list (cs.map tupI)), .ow (.list E), .fz (.int p.1), .fz (.int p.2), sl o9, sl o10, sl o11, .un, .un, .un, .un, .un], by simp [pr], ?_⟩
    refine wp_nx (en' := [s0, .fz (.int (m : Int)), s2, .fz F, .fz (.list P), .ow (.list (cs.map tupI)), .ow (.list E), .fz (.int p.1), .fz (.int p.2), .fz (.int w), sl o10, sl o11, .un, .un, .un, .un, .un]) (by simp [ix, ix_e0, ix_e1, b1]) ?_
    refine wp_nx (en' := [s0, .fz (.int (m : Int)), s2, .fz F, .fz (.list P), .ow (.list (cs.map tupI)), .ow (.list E), .fz (.int p.1), .fz (.int p.2), .fz (.int w), .fz (tupI c), sl o11, .un, .un, .un, .un, .un]) (by simp [a1]) ?_
    refine wp_nx (en' := [s0, .fz (.int (m : Int)), s2, .fz F, .fz (.list P), .ow (.list (cs.map tupI)), .ow (.list E), .fz (.int p.1), .fz (.int p.2), .fz (.int w), .fz (tupI c), sl o11, .un, .un, .un, .un, .un]) (by
      have nn : isN (tupI c) = false := rfl
      have i1 : oIx (tupI c) (.int p.1) = some (.int w) := i1
      have i0 : oIx (tupI c) (.int 0) = some (.int 0) := i0
      generalize tupI c = tc at *
      simp [nn, ln, i1, i0]) ?_
    refine wp_nx (en' := [s0, .fz (.int (m : Int)), s2, .fz F, .fz (.list P), .ow (.list ((cs ++ [c]).map tupI)), .ow (.list E), .fz (.int p.1), .fz (.int p.2), .fz (.int w), .fz (tupI c), sl o11, .un, .un, .un, .un, .un]) (by simp [sApp, ls]) ?_
    refine wp_seq ?_
    refine ends_for (l := [lo p.1, hi p.1]) (fun o ho e he => ?_) _ _ (by simp [iSeq, ix]) fun o11 => ?_
    · rcases List.mem_cons.mp ho with ho | ho
      · exact H.low p.1 e is n0 (ho ▸ he)
      · exact H.high p.1 e is n0 ((List.mem_singleton.mp ho) ▸ he)
    · refine wp_last (o := .nx) (en' := [s0, .fz (.int (m : Int)), s2, .fz F, .fz (.list P), .ow (.list ((cs ++ [c]).map tupI)), .ow (.list E), .fz (.int p.1), .fz (.int p.2), .fz (.int w), .fz (tupI c), sl o11, .un, .un, .un, .un, .un]) ?_ ?_
      · cases e : hi p.1 with
        | none =>
          rw [e] at ix
          simp [ix, ix_e1, oi, isN]
        | some g =>
          rw [e] at ix
          have ov := H.over p.1 g is n0 e
          simp [ix, ix_e1, oi, isN, ov]
      · refine ⟨cs ++ [c], some _, some _, some _, some _, o11, rfl, fun x hx => ?_, by rw [List.length_append, List.length_singleton]; omega⟩
        rcases List.mem_append.mp hx with hx | hx
        · exact hk x hx
        · rw [List.mem_singleton.mp hx]; exact a2
  · rintro en ⟨cs, o7, o8, o9, o10, o11, rfl, hk, hl⟩
    rw [List.length_map] at hl
    exact q cs o7 o8 o9 o10 o11 hk (by omega)
end
end K31

set_option Elab.async false
set_option linter.all false
set_option maxRecDepth 20000
namespace K31
open PySem Fx Clk

/-! ### the least and the greatest offsets -/
theorem canLay_ois {g : Int → Option Int} : ∀ ns : List Int, PyData.canLayAll0 (ns.map fun s => oi (g s)) = true
  | [] => rfl
  | n :: ns => by
    rw [List.map_cons, PyData.canLayAll0, canLay_ois ns]
    cases g n <;> rfl
theorem depth_ois {g : Int → Option Int} : ∀ ns : List Int, PyData.depthAll (ns.map fun s => oi (g s)) = 0
  | [] => rfl
  | n :: ns => by
    rw [List.map_cons, PyData.depthAll, depth_ois ns]
    cases g n <;> rfl
theorem shaped_ois {g : Int → Option Int} (ns : List Int) : SeqAt.shaped (.list (ns.map fun s => oi (g s))) = true := by
  unfold SeqAt.shaped
  rw [show PyData.canLay0 (.list (ns.map fun s => oi (g s))) = true from canLay_ois ns]
  have : PyData.depth (.list (ns.map fun s => oi (g s))) = 1 := by
    show PyData.depthAll (ns.map fun s => oi (g s)) + 1 = 1
    rw [depth_ois]
  rw [this]
  rfl
theorem any_ois {g : Int → Option Int} : ∀ ns : List Int, ((ns.map fun s => oi (g s)).any fun z => PyData.eqv z .none) = ns.any fun s => (g s).isNone
  | [] => rfl
  | n :: ns => by
    rw [List.map_cons, List.any_cons, List.any_cons, any_ois ns]
    cases g n <;> rfl
theorem in_ois {g : Int → Option Int} (ns : List Int) : oInL true .none (.list (ns.map fun s => oi (g s))) = some (.bool (!(ns.any fun s => (g s).isNone))) := by
  unfold oInL
  simp only
  rw [if_pos ⟨rfl, shaped_ois ns⟩, any_ois]
  simp
theorem all_some {g : Int → Option Int} : ∀ {ns : List Int}, (ns.any fun s => (g s).isNone) = false → (ns.map fun s => oi (g s)) = (ns.map fun s => (g s).getD 0).map .int
  | [], _ => rfl
  | n :: ns, h => by
    rw [List.any_cons, Bool.or_eq_false_iff] at h
    rw [List.map_cons, List.map_cons, List.map_cons, all_some h.2]
    cases e : g n with
    | none => rw [e] at h; cases h.1
    | some v => rfl
section
variable {m : Nat} {lo hi : Int → Option Int} {s0 s1 s2 s3 s4 s5 s7 s8 s9 s10 s12 s13 s14 s16 : Sl}
theorem col_ok (hm : m ≤ 12) {b : Bool} {o11 : Option D} {at_ : Int} {g : Int → Option Int} (hg : ∀ s, oIx (endD lo hi s) (.int at_) = some (oi (g s))) :
    gCol [s0, s1, s2, s3, s4, s5, ob b (.list ((upI m).map (endD lo hi))), s7, s8, s9, s10, sl o11, s12, s13, s14, .fz (.int at_), s16] = .ok (.list ((upI m).map fun s => oi (g s))) [s0, s1, s2, s3, s4, s5, .fz (.list ((upI m).map (endD lo hi))), s7, s8, s9, s10, .un, s12, s13, s14, .fz (.int at_), s16] :=
  oLc_enc (endD lo hi) (fun s => oi (g s)) (xs := upI m) (en1 := [s0, s1, s2, s3, s4, s5, .fz (.list ((upI m).map (endD lo hi))), s7, s8, s9, s10, sl o11, s12, s13, s14, .fz (.int at_), s16]) (by cases b <;> simp [iSeq, ob]) (by simp) (by simp) (by rw [upI_len]; omega) fun s _ =>
    ⟨[s0, s1, s2, s3, s4, s5, .fz (.list ((upI m).map (endD lo hi))), s7, s8, s9, s10, .fz (endD lo hi s), s12, s13, s14, .fz (.int at_), s16], by simp, [s0, s1, s2, s3, s4, s5, .fz (.list ((upI m).map (endD lo hi))), s7, s8, s9, s10, .fz (endD lo hi s), s12, s13, s14, .fz (.int at_), s16], by
      have := hg s
      generalize endD lo hi s = x at *
      simp [this], by simp⟩
theorem compL_one {g : EG} {c : ET} {e : EE} {vs : List Nat} {d : D} {ds acc : List D} {en en1 en2 en4 : En} {b : Bool} {y : D} (h1 : g d en = some en1) (h2 : c en1 = .ok b en2) (h3 : b = true → ∃ en3, dat e en2 = .ok y en3 ∧ wipeE vs en3 = en4) (h4 : b = false → wipeE vs en2 = en4) (hl : acc.length < 65536) :
    compL g c e vs (d :: ds) acc en = compL g c e vs ds (acc ++ if b = true then [y] else []) en4 := by
  rw [compL, h1]
  simp only [Rs.nox, Rs.bind, h2]
  cases b with
  | true =>
    obtain ⟨en3, h5, h6⟩ := h3 rfl
    simp only [if_true, h5, hl, h6]
  | false =>
    simp only [Bool.false_eq_true, if_false, h4 rfl, List.append_nil]
theorem ext_ok (hm : m ≤ 12) {KP : List Int → Prop} (lows : (∀ s, In m s → lo s ≠ none) → KP ((upI m).map fun s => (lo s).getD 0)) (highs : (∀ s, In m s → hi s ≠ none) → KP ((upI m).map fun s => (hi s).getD 0)) {o11 : Option D} :
    ∃ es : List (List Int), gExt [s0, s1, s2, s3, s4, s5, .ow (.list ((upI m).map (endD lo hi))), s7, s8, s9, s10, sl o11, s12, s13, s14, .un, s16] = .ok (.list (es.map tupI)) [s0, s1, s2, s3, s4, s5, .fz (.list ((upI m).map (endD lo hi))), s7, s8, s9, s10, .un, s12, s13, s14, .un, s16] ∧ (∀ c ∈ es, KP c) ∧ es.length ≤ 2 := by
  have it : iR1 (aCons (eC (.int 2)) aNil) [s0, s1, s2, s3, s4, s5, .ow (.list ((upI m).map (endD lo hi))), s7, s8, s9, s10, sl o11, s12, s13, s14, .un, s16] = .ok [.int 0, .int 1] [s0, s1, s2, s3, s4, s5, .ow (.list ((upI m).map (endD lo hi))), s7, s8, s9, s10, sl o11, s12, s13, s14, .un, s16] := iR1_nat (m := 2) (by omega) (by simp)
  have step : ∀ {b : Bool} {o11 : Option D} {at_ : Int} {g : Int → Option Int} {ds acc : List D}, (∀ s, oIx (endD lo hi s) (.int at_) = some (oi (g s))) → acc.length < 65536 →
      compL (nName 15) (cB (eOp (oInL true) (eC .none) (ofO gCol))) (eUn oTuple (ofO gCol)) [15] (.int at_ :: ds) acc [s0, s1, s2, s3, s4, s5, ob b (.list ((upI m).map (endD lo hi))), s7, s8, s9, s10, sl o11, s12, s13, s14, .un, s16] =
        compL (nName 15) (cB (eOp (oInL true) (eC .none) (ofO gCol))) (eUn oTuple (ofO gCol)) [15] ds (acc ++ if (!((upI m).any fun s => (g s).isNone)) = true then [.tuple ((upI m).map fun s => oi (g s))] else []) [s0, s1, s2, s3, s4, s5, .fz (.list ((upI m).map (endD lo hi))), s7, s8, s9, s10, .un, s12, s13, s14, .un, s16] := fun {b o11 at_ g ds acc} hg hl => by
    have c1 := col_ok (s0 := s0) (s1 := s1) (s2 := s2) (s3 := s3) (s4 := s4) (s5 := s5) (s7 := s7) (s8 := s8) (s9 := s9) (s10 := s10) (s12 := s12) (s13 := s13) (s14 := s14) (s16 := s16) hm (b := b) (o11 := o11) hg
    have c2 := col_ok (s0 := s0) (s1 := s1) (s2 := s2) (s3 := s3) (s4 := s4) (s5 := s5) (s7 := s7) (s8 := s8) (s9 := s9) (s10 := s10) (s12 := s12) (s13 := s13) (s14 := s14) (s16 := s16) hm (b := false) (o11 := none) hg
    have i1 := in_ois (g := g) (upI m)
    have fz : ob false (.list ((upI m).map (endD lo hi))) = .fz (.list ((upI m).map (endD lo hi))) := rfl
    have un : sl none = .un := rfl
    rw [fz, un] at c2
    generalize gCol = L at c1 c2 ⊢
    generalize (upI m).map (endD lo hi) = E at *
    generalize (upI m).map (fun s => oi (g s)) = C at *
    refine compL_one (en1 := [s0, s1, s2, s3, s4, s5, ob b (.list E), s7, s8, s9, s10, sl o11, s12, s13, s14, .fz (.int at_), s16]) (en2 := [s0, s1, s2, s3, s4, s5, .fz (.list E), s7, s8, s9, s10, .un, s12, s13, s14, .fz (.int at_), s16]) (by cases b <;> simp [ob]) (by simp [c1, i1]) (fun _ => ⟨[s0, s1, s2, s3, s4, s5, .fz (.list E), s7, s8, s9, s10, .un, s12, s13, s14, .fz (.int at_), s16], by simp [c2, oTuple], by simp⟩) (fun _ => by simp) hl
  have h0 : ∀ s, oIx (endD lo hi s) (.int 0) = some (oi (lo s)) := fun s => rfl
  have h1 : ∀ s, oIx (endD lo hi s) (.int 1) = some (oi (hi s)) := fun s => rfl
  have st0 := step (b := true) (o11 := o11) (ds := [.int 1]) (acc := []) h0 (by decide)
  have st1 := step (b := false) (o11 := none) (ds := []) (acc := [] ++ if (!((upI m).any fun s => (lo s).isNone)) = true then [.tuple ((upI m).map fun s => oi (lo s))] else []) h1 (by split <;> simp)
  have key : ∀ (g : Int → Option Int), ((∀ s, In m s → g s ≠ none) → KP ((upI m).map fun s => (g s).getD 0)) → ∃ es : List (List Int), (if (!((upI m).any fun s => (g s).isNone)) = true then [PyData.tuple ((upI m).map fun s => oi (g s))] else []) = es.map tupI ∧ (∀ c ∈ es, KP c) ∧ es.length ≤ 1 := fun g hk => by
    cases e : (upI m).any fun s => (g s).isNone with
    | true => exact ⟨[], rfl, (fun _ z => nomatch z), by simp⟩
    | false =>
      refine ⟨[(upI m).map fun s => (g s).getD 0], ?_, fun c hc => ?_, by simp⟩
      · simp only [Bool.not_false, if_true]
        rw [all_some e]
        rfl
      · rw [List.mem_singleton.mp hc]
        refine hk fun s is z => ?_
        have := List.any_eq_false.mp e s (mem_upI.mpr is)
        rw [z] at this
        exact this rfl
  obtain ⟨e0, q0, k0, l0⟩ := key lo lows
  obtain ⟨e1, q1, k1, l1⟩ := key hi highs
  refine ⟨e0 ++ e1, ?_, fun c hc => (List.mem_append.mp hc).elim (k0 c) (k1 c), by rw [List.length_append]; omega⟩
  unfold gExt oLc
  rw [it]
  have w0 : wipeE [15] [s0, s1, s2, s3, s4, s5, .ow (.list ((upI m).map (endD lo hi))), s7, s8, s9, s10, sl o11, s12, s13, s14, .un, s16] = [s0, s1, s2, s3, s4, s5, ob true (.list ((upI m).map (endD lo hi))), s7, s8, s9, s10, sl o11, s12, s13, s14, .un, s16] := by simp [ob]
  show ((compL _ _ _ _ [.int 0, .int 1] [] (wipeE [15] _)).nox.bind _) = _
  rw [w0, st0]
  rw [q0] at st1 ⊢
  have st1' : compL (nName 15) (cB (eOp (oInL true) (eC .none) (ofO gCol))) (eUn oTuple (ofO gCol)) [15] [.int 1] ([] ++ e0.map tupI) [s0, s1, s2, s3, s4, s5, .fz (.list ((upI m).map (endD lo hi))), s7, s8, s9, s10, .un, s12, s13, s14, .un, s16] = _ := st1
  rw [st1', q1, List.nil_append, ← List.map_append]
  show Rs.ok _ (wipeE [15] _) = _
  congr 1
end
end K31

set_option Elab.async false
set_option linter.all false
set_option maxRecDepth 20000
namespace K31
open PySem Fx Clk

section
variable {m : Nat} {F : D} {lo hi : Int → Option Int} {KP : List Int → Prop} {fbd fat fa fl : Fn} {s0 s2 s4 : Sl}
theorem some_ok (H : Hyp m F lo hi KP fbd fat fa fl) {x y : List Int} (hx : KP x) (hy : KP y) {s5 s6 s7 s8 s9 s10 s11 s14 s15 : Sl} :
    ∃ bs, gSome fa fl [s0, .fz (.int (m : Int)), s2, .fz F, s4, s5, s6, s7, s8, s9, s10, s11, .fz (tupI x), .fz (tupI y), s14, s15, .un] = .ok (.list bs) [s0, .fz (.int (m : Int)), s2, .fz F, s4, s5, s6, s7, s8, s9, s10, s11, .fz (tupI x), .fz (tupI y), s14, s15, .un] ∧ ∃ vs, boolsD bs = some vs ∧ vs.all id = true := by
  obtain ⟨zs, e, hk, hl⟩ := H.lots x y hx hy
  refine ⟨zs.map fun _ => .bool true, ?_, zs.map fun _ => true, bools_map (fun _ => true) zs, by rw [all_map]; simp⟩
  exact oLc_enc tupI (fun _ => .bool true) (xs := zs) (en1 := [s0, .fz (.int (m : Int)), s2, .fz F, s4, s5, s6, s7, s8, s9, s10, s11, .fz (tupI x), .fz (tupI y), s14, s15, .un]) (by
      generalize tupI x = tx at *
      generalize tupI y = ty at *
      simp [iSeq, e]) (by simp) (by simp) (by omega) fun z hz =>
    ⟨[s0, .fz (.int (m : Int)), s2, .fz F, s4, s5, s6, s7, s8, s9, s10, s11, .fz (tupI x), .fz (tupI y), s14, s15, .fz (tupI z)], by simp, [s0, .fz (.int (m : Int)), s2, .fz F, s4, s5, s6, s7, s8, s9, s10, s11, .fz (tupI x), .fz (tupI y), s14, s15, .fz (tupI z)], by
      have k := H.keep z (hk z hz)
      generalize tupI z = tz at *
      simp [k], by simp⟩
theorem bounds_for (H : Hyp m F lo hi KP fbd fat fa fl) {c : List Int} (hc : KP c) {s5 s7 s8 s10 s13 s14 s15 s16 : Sl} {o9 o11 : Option D} {Q : Out → En → Prop}
    (q : ∀ o9 o11, Q .nx [s0, .fz (.int (m : Int)), s2, .fz F, s4, s5, .fz (.list ((upI m).map (endD lo hi))), s7, s8, sl o9, s10, sl o11, .fz (tupI c), s13, s14, s15, s16]) :
    Wp (sFor (iZip (aCons (eV 6) (aCons (eV 12) aNil))) (nTup 2 (nCons (nName 11) (nCons (nName 9) nNil))) (sIf (cB (eOp oNe (eCall [false, false, false] fbd (aCons (eV 9) (aCons (eOp oIx (eV 11) (eC (.int 0))) (aCons (eOp oIx (eV 11) (eC (.int 1))) aNil)))) (eV 9))) (sRet (eC (.bool false))) sNx)
      [s0, .fz (.int (m : Int)), s2, .fz F, s4, s5, .fz (.list ((upI m).map (endD lo hi))), s7, s8, sl o9, s10, sl o11, .fz (tupI c), s13, s14, s15, s16]) Q := by
  refine wp_forN (zipD ((upI m).map (endD lo hi)) (c.map .int)) [s0, .fz (.int (m : Int)), s2, .fz F, s4, s5, .fz (.list ((upI m).map (endD lo hi))), s7, s8, sl o9, s10, sl o11, .fz (tupI c), s13, s14, s15, s16] ?_
    (fun i en => ∃ o9 o11, en = [s0, .fz (.int (m : Int)), s2, .fz F, s4, s5, .fz (.list ((upI m).map (endD lo hi))), s7, s8, sl o9, s10, sl o11, .fz (tupI c), s13, s14, s15, s16]) ⟨o9, o11, rfl⟩ ?_ ?_
  · have e1 : seqD (.list ((upI m).map (endD lo hi))) = some ((upI m).map (endD lo hi)) := rfl
    have e2 : seqD (tupI c) = some (c.map .int) := rfl
    generalize tupI c = tc at *
    generalize (upI m).map (endD lo hi) = E at *
    simp [iZip, e1, e2]
  · rintro i d en hd ⟨o9, o11, rfl⟩
    obtain ⟨x, y, h1, h2, rfl⟩ := zipD_get hd
    rw [List.getElem?_map] at h1 h2
    obtain ⟨s, hs, rfl⟩ := Option.map_eq_some_iff.mp h1
    obtain ⟨v, hv, rfl⟩ := Option.map_eq_some_iff.mp h2
    have hi' := (List.getElem?_eq_some_iff.mp hs).1
    rw [upI_len] at hi'
    rw [upI_get hi'] at hs
    cases hs
    have is : In m (i : Int) := ⟨by omega, by omega⟩
    have cv : clk c (i : Int) = v := by
      unfold clk
      rw [Int.toNat_natCast, List.getD_eq_getElem?_getD, hv]
      rfl
    have b1 := H.bd v (lo i) (hi i)
    have b2 := H.bk c (i : Int) hc is
    rw [cv] at b2
    rw [b2] at b1
    have x0 : oIx (endD lo hi i) (.int 0) = some (oi (lo i)) := rfl
    have x1 : oIx (endD lo hi i) (.int 1) = some (oi (hi i)) := rfl
    refine ⟨[s0, .fz (.int (m : Int)), s2, .fz F, s4, s5, .fz (.list ((upI m).map (endD lo hi))), s7, s8, .fz (.int v), s10, .fz (endD lo hi i), .fz (tupI c), s13, s14, s15, s16], by simp, ?_⟩
    refine wp_last (o := .nx) (en' := [s0, .fz (.int (m : Int)), s2, .fz F, s4, s5, .fz (.list ((upI m).map (endD lo hi))), s7, s8, .fz (.int v), s10, .fz (endD lo hi i), .fz (tupI c), s13, s14, s15, s16]) ?_ ⟨some _, some _, rfl⟩
    generalize tupI c = tc at *
    generalize endD lo hi (i : Int) = ed at *
    generalize (upI m).map (endD lo hi) = E at *
    simp [x0, x1, b1]
  · rintro en ⟨o9, o11, rfl⟩
    exact q o9 o11
theorem loop2_ok (H : Hyp m F lo hi KP fbd fat fa fl) {cs : List (List Int)} (hk : ∀ c ∈ cs, KP c) {o7 o8 o9 o10 : Option D} {Q : Out → En → Prop}
    (q : ∀ o9 o11 o12 o13, Q .nx [s0, .fz (.int (m : Int)), s2, .fz F, s4, .fz (.list (cs.map tupI)), .fz (.list ((upI m).map (endD lo hi))), sl o7, sl o8, sl o9, sl o10, sl o11, sl o12, sl o13, .un, .un, .un]) :
    Wp (gLoop2 fa fbd fl [s0, .fz (.int (m : Int)), s2, .fz F, s4, .ow (.list (cs.map tupI)), .fz (.list ((upI m).map (endD lo hi))), sl o7, sl o8, sl o9, sl o10, .un, .un, .un, .un, .un, .un]) Q := by
  unfold gLoop2
  refine wp_forN (cs.map tupI) [s0, .fz (.int (m : Int)), s2, .fz F, s4, .fz (.list (cs.map tupI)), .fz (.list ((upI m).map (endD lo hi))), sl o7, sl o8, sl o9, sl o10, .un, .un, .un, .un, .un, .un] (by simp [iSeq])
    (fun i en => ∃ o9 o11 o12 o13, en = [s0, .fz (.int (m : Int)), s2, .fz F, s4, .fz (.list (cs.map tupI)), .fz (.list ((upI m).map (endD lo hi))), sl o7, sl o8, sl o9, sl o10, sl o11, sl o12, sl o13, .un, .un, .un]) ⟨o9, none, none, none, rfl⟩ ?_ ?_
  · rintro i d en hd ⟨o9, o11, o12, o13, rfl⟩
    rw [List.getElem?_map] at hd
    obtain ⟨c, hci, rfl⟩ := Option.map_eq_some_iff.mp hd
    have hc := hk c (List.mem_of_getElem? hci)
    refine ⟨[s0, .fz (.int (m : Int)), s2, .fz F, s4, .fz (.list (cs.map tupI)), .fz (.list ((upI m).map (endD lo hi))), sl o7, sl o8, sl o9, sl o10, sl o11, .fz (tupI c), sl o13, .un, .un, .un], by simp, ?_⟩
    refine wp_nx (en' := [s0, .fz (.int (m : Int)), s2, .fz F, s4, .fz (.list (cs.map tupI)), .fz (.list ((upI m).map (endD lo hi))), sl o7, sl o8, sl o9, sl o10, sl o11, .fz (tupI c), sl o13, .un, .un, .un]) ?_ ?_
    · have k := H.keep c hc
      generalize (upI m).map (endD lo hi) = E at *
      generalize cs.map tupI = C at *
      generalize tupI c = tc at *
      simp [k]
    refine wp_seq ?_
    refine bounds_for H hc fun o9 o11 => ?_
    refine wp_forN (cs.map tupI) [s0, .fz (.int (m : Int)), s2, .fz F, s4, .fz (.list (cs.map tupI)), .fz (.list ((upI m).map (endD lo hi))), sl o7, sl o8, sl o9, sl o10, sl o11, .fz (tupI c), sl o13, .un, .un, .un] (by simp [iSeq])
      (fun j en => ∃ o13, en = [s0, .fz (.int (m : Int)), s2, .fz F, s4, .fz (.list (cs.map tupI)), .fz (.list ((upI m).map (endD lo hi))), sl o7, sl o8, sl o9, sl o10, sl o11, .fz (tupI c), sl o13, .un, .un, .un]) ⟨o13, rfl⟩ ?_ ?_
    · rintro j d en hd ⟨o13, rfl⟩
      rw [List.getElem?_map] at hd
      obtain ⟨y, hy, rfl⟩ := Option.map_eq_some_iff.mp hd
      obtain ⟨bs, e, vs, v1, v2⟩ := some_ok (s0 := s0) (s2 := s2) (s4 := s4) (s5 := .fz (.list (cs.map tupI))) (s6 := .fz (.list ((upI m).map (endD lo hi)))) (s7 := sl o7) (s8 := sl o8) (s9 := sl o9) (s10 := sl o10) (s11 := sl o11) (s14 := .un) (s15 := .un) H hc (hk y (List.mem_of_getElem? hy))
      refine ⟨[s0, .fz (.int (m : Int)), s2, .fz F, s4, .fz (.list (cs.map tupI)), .fz (.list ((upI m).map (endD lo hi))), sl o7, sl o8, sl o9, sl o10, sl o11, .fz (tupI c), .fz (tupI y), .un, .un, .un], by simp, ?_⟩
      refine wp_last (o := .nx) (en' := [s0, .fz (.int (m : Int)), s2, .fz F, s4, .fz (.list (cs.map tupI)), .fz (.list ((upI m).map (endD lo hi))), sl o7, sl o8, sl o9, sl o10, sl o11, .fz (tupI c), .fz (tupI y), .un, .un, .un]) ?_ ⟨some _, rfl⟩
      generalize gSome fa fl = L at *
      generalize (upI m).map (endD lo hi) = E at *
      generalize cs.map tupI = C at *
      generalize tupI c = tc at *
      generalize tupI y = ty at *
      simp [e, v1, v2]
    · rintro en ⟨o13, rfl⟩
      exact ⟨o9, o11, some _, o13, rfl⟩
  · rintro en ⟨o9, o11, o12, o13, rfl⟩
    exact q o9 o11 o12 o13
theorem right_wp {tk fo ff fb : Fn} {v : Int} {pot p1 p2 p3 p4 : D} {os : List Int} {picks : List (Int × Int)} (H : Hyp m F lo hi KP fbd fat fa fl) (e1 : tk [pot, .int 2] = .ok (.int v) [p1]) (hv : (3 + v : Int) = (m : Int)) (e2 : fo [p1, .int (m : Int)] = .ok (.list (os.map .int)) [p2]) (e3 : ff [p2, .list (os.map .int), .int 6] = .ok F [p3])
    (ko : KP os) (e4 : gPicks tk [.io 0 p3, .fz (.int (m : Int)), .fz (.list (os.map .int)), .fz F, .un, .un, .un, .un, .un, .un, .un, .un, .un, .un, .un, .un, .un] = .ok (.list (picks.map pr)) [.io 0 p4, .fz (.int (m : Int)), .fz (.list (os.map .int)), .fz F, .un, .un, .un, .un, .un, .un, .un, .un, .un, .un, .un, .un, .un])
    (hp : ∀ p ∈ picks, In m p.1 ∧ p.1 ≠ 0) (lp : picks.length ≤ 10)
    (e5 : gEnds fb [.io 0 p4, .fz (.int (m : Int)), .fz (.list (os.map .int)), .fz F, .ow (.list (picks.map pr)), .un, .un, .un, .un, .un, .un, .un, .un, .un, .un, .un, .un] = .ok (.list ((upI m).map (endD lo hi))) [.io 0 p4, .fz (.int (m : Int)), .fz (.list (os.map .int)), .fz F, .ow (.list (picks.map pr)), .un, .un, .un, .un, .un, .un, .un, .un, .un, .un, .un, .un]) :
    noer (fnOf [true] 17 (gRight tk fo ff fbd fat fb fa fl)) [pot] = .ok (.bool true) [p4] := by
  refine fn_wpA [.io 0 pot, .un, .un, .un, .un, .un, .un, .un, .un, .un, .un, .un, .un, .un, .un, .un, .un] rfl ?_
  unfold gRight
  generalize hE : (upI m).map (endD lo hi) = E at e5
  generalize gEnds fb = LE at e5 ⊢
  generalize gPicks tk = LP at e4 ⊢
  have ot : oTuple (.list (os.map .int)) = some (tupI os) := rfl
  generalize os.map PyData.int = O at *
  generalize hP : picks.map pr = P at *
  refine wp_nx (en' := [.io 0 p1, .fz (.int (m : Int)), .un, .un, .un, .un, .un, .un, .un, .un, .un, .un, .un, .un, .un, .un, .un]) (by simp [e1, hv]) ?_
  refine wp_nx (en' := [.io 0 p2, .fz (.int (m : Int)), .fz (.list O), .un, .un, .un, .un, .un, .un, .un, .un, .un, .un, .un, .un, .un, .un]) (by simp [e2]) ?_
  refine wp_nx (en' := [.io 0 p3, .fz (.int (m : Int)), .fz (.list O), .fz F, .un, .un, .un, .un, .un, .un, .un, .un, .un, .un, .un, .un, .un]) (by simp [e3]) ?_
  refine wp_nx (en' := [.io 0 p4, .fz (.int (m : Int)), .fz (.list O), .fz F, .ow (.list P), .un, .un, .un, .un, .un, .un, .un, .un, .un, .un, .un, .un]) (setO_eq e4 (by simp) (by simp)) ?_
  refine wp_nx (en' := [.io 0 p4, .fz (.int (m : Int)), .fz (.list O), .fz F, .ow (.list P), .ow (.list [tupI os]), .ow (.list E), .un, .un, .un, .un, .un, .un, .un, .un, .un, .un]) (by
    generalize tupI os = to at *
    simp [ot, e5]) ?_
  subst hE hP
  refine wp_seq ?_
  refine loop1_ok (lo := lo) (hi := hi) (cs0 := [os]) H hp lp (fun c hc => by rw [List.mem_singleton.mp hc]; exact ko) rfl fun cs o7 o8 o9 o10 o11 hk hl => ?_
  obtain ⟨es, e6, k6, l6⟩ := ext_ok (s0 := .io 0 p4) (s1 := .fz (.int (m : Int))) (s2 := .fz (.list O)) (s3 := .fz F) (s4 := .fz (.list (picks.map pr))) (s5 := .ow (.list (cs.map tupI))) (s7 := sl o7) (s8 := sl o8) (s9 := sl o9) (s10 := sl o10) (s12 := .un) (s13 := .un) (s14 := .un) (s16 := .un) H.m12 H.lows H.highs (o11 := o11)
  refine wp_nx (en' := [.io 0 p4, .fz (.int (m : Int)), .fz (.list O), .fz F, .fz (.list (picks.map pr)), .ow (.list ((cs ++ es).map tupI)), .fz (.list ((upI m).map (endD lo hi))), sl o7, sl o8, sl o9, sl o10, .un, .un, .un, .un, .un, .un]) ?_ ?_
  · have ll : (cs.map tupI).length + (es.map tupI).length ≤ 65536 := by rw [List.length_map, List.length_map]; omega
    rw [List.map_append]
    generalize gExt = L at e6 ⊢
    generalize (upI m).map (endD lo hi) = E at *
    generalize picks.map pr = P at *
    generalize cs.map tupI = C at *
    generalize es.map tupI = C2 at *
    simp [sExt, e6, ll]
  refine wp_seq ?_
  refine loop2_ok H (fun c hc => (List.mem_append.mp hc).elim (hk c) (k6 c)) fun o9 o11 o12 o13 => ?_
  simp [wp_ok]
end
end K31

set_option Elab.async false
set_option linter.all false
set_option maxRecDepth 20000
namespace K31
open PySem Fx Clk

theorem take_law : TakeOk f__law_take := fun n pot u h h0 h1 => Pot.take_ok (c1 := 96211) (c2 := 5003) (c3 := 15217) (c4 := 1597) (c5 := 593) (by omega) (by omega) (by omega) (by omega) (by omega) h h0 h1
theorem of_law : OfOk f__law_of := fun n pot l h h0 h1 => of_ok take_law h h0 h1
theorem fact_law : FactOk f__law_drawn_fact := fun n pot os h h0 h1 b => fact_ok take_law of_law h h0 h1 b
theorem picks_lc {tk : Fn} (t : TakeOk tk) {n m : Nat} (m2 : 2 ≤ m) (m12 : m ≤ 12) {pot : D} (h : Pot.Ok (n + 4) pot) {s2 s3 : Sl} :
    ∃ (ps : List (Int × Int)) (pot' : D), gPicks tk [.io 0 pot, .fz (.int (m : Int)), s2, s3, .un, .un, .un, .un, .un, .un, .un, .un, .un, .un, .un, .un, .un] = .ok (.list (ps.map pr)) [.io 0 pot', .fz (.int (m : Int)), s2, s3, .un, .un, .un, .un, .un, .un, .un, .un, .un, .un, .un, .un, .un] ∧
      ps.length = 2 ∧ (∀ p ∈ ps, In m p.1 ∧ p.1 ≠ 0) ∧ Pot.Ok n pot' := by
  have it : iR1 (aCons (eC (.int 2)) aNil) [.io 0 pot, .fz (.int (m : Int)), s2, s3, .un, .un, .un, .un, .un, .un, .un, .un, .un, .un, .un, .un, .un] = .ok ((upI 2).map PyData.int) [.io 0 pot, .fz (.int (m : Int)), s2, s3, .un, .un, .un, .un, .un, .un, .un, .un, .un, .un, .un, .un, .un] := iR1_nat (m := 2) (by omega) (by simp)
  obtain ⟨r, en', e, hl, ps, pot', rfl, rfl, hp, ok⟩ := oLc_inv (i := iR1 (aCons (eC (.int 2)) aNil)) (g := nName 14) (e := eTup (aCons (eOp oAdd (eC (.int 1)) (eCall [true, false] tk (aCons (eV 0) (aCons (eOp oSub (eV 1) (eC (.int 1))) aNil)))) (aCons (eOp oSub (eCall [true, false] tk (aCons (eV 0) (aCons (eC (.int 601)) aNil))) (eC (.int 300))) aNil))) (vs := [14])
    (fun acc en => ∃ (ps : List (Int × Int)) (pot' : D), acc = List.map pr ps ∧ en = [.io 0 pot', .fz (.int (m : Int)), s2, s3, .un, .un, .un, .un, .un, .un, .un, .un, .un, .un, .un, .un, .un] ∧ (∀ p ∈ ps, In m p.1 ∧ p.1 ≠ 0) ∧ Pot.Ok (n + 2 * (2 - ps.length)) pot') it (by rw [List.length_map, upI_len]; omega)
    ⟨[], pot, rfl, by simp, (fun _ z => nomatch z), h⟩ (by
      rintro acc d en hd ⟨ps, pot', rfl, rfl, hp, ok⟩
      obtain ⟨hc, rfl⟩ := upI_at hd
      rw [List.length_map] at hc
      obtain ⟨v, pot2, e1, v0, v1, ok2⟩ := t (n + 2 * (2 - (ps.length + 1)) + 1) pot' ((m : Int) - 1) (ok.less (by omega)) (by omega) (by omega)
      obtain ⟨u, pot3, e2, u0, u1, ok3⟩ := t (n + 2 * (2 - (ps.length + 1))) pot2 601 ok2 (by omega) (by omega)
      refine ⟨[.io 0 pot', .fz (.int (m : Int)), s2, s3, .un, .un, .un, .un, .un, .un, .un, .un, .un, .un, .fz (.int (((List.map pr ps).length : Nat) : Int)), .un, .un], by simp, pr (1 + v, u - 300), [.io 0 pot3, .fz (.int (m : Int)), s2, s3, .un, .un, .un, .un, .un, .un, .un, .un, .un, .un, .fz (.int (((List.map pr ps).length : Nat) : Int)), .un, .un], ?_, ps ++ [(1 + v, u - 300)], pot3, by simp, by simp, ?_, ?_⟩
      · simp [e1, e2, pr]
      · intro p hp'
        rcases List.mem_append.mp hp' with hp' | hp'
        · exact hp p hp'
        · rw [List.mem_singleton.mp hp']
          exact ⟨⟨by show (0 : Int) ≤ 1 + v; omega, by show 1 + v < (m : Int); omega⟩, by show 1 + v ≠ 0; omega⟩
      · rw [List.length_append]; exact ok3)
  rw [List.length_map, List.length_map, upI_len] at hl
  refine ⟨ps, pot', ?_, hl, hp, ok.less (by omega)⟩
  unfold gPicks
  rw [e]
  simp
theorem ends_lc {fb : Fn} {m : Nat} (m1 : 1 ≤ m) (m12 : m ≤ 12) {F : D} {T : Tab} (hb : ∀ s, In m s → fb [.int (m : Int), F, .int 0, .int s] = .ok (endD (loZ T) (T 0) s) []) {s0 s2 s4 s5 s6 : Sl} :
    gEnds fb [s0, .fz (.int (m : Int)), s2, .fz F, s4, .un, .un, .un, .un, .un, .un, .un, .un, .un, .un, .un, .un] = .ok (.list ((upI m).map (endD (loZ T) (T 0)))) [s0, .fz (.int (m : Int)), s2, .fz F, s4, .un, .un, .un, .un, .un, .un, .un, .un, .un, .un, .un, .un] :=
  oLc_enc PyData.int (endD (loZ T) (T 0)) (xs := upI m) (en1 := [s0, .fz (.int (m : Int)), s2, .fz F, s4, .un, .un, .un, .un, .un, .un, .un, .un, .un, .un, .un, .un]) (iR1_nat (by omega) (by simp)) (by simp) (by simp) (by rw [upI_len]; omega) fun s hs => by
    have b := hb s (mem_upI.mp hs)
    refine ⟨[s0, .fz (.int (m : Int)), s2, .fz F, s4, .un, .un, .fz (.int s), .un, .un, .un, .un, .un, .un, .un, .un, .un], by simp, [s0, .fz (.int (m : Int)), s2, .fz F, s4, .un, .un, .fz (.int s), .un, .un, .un, .un, .un, .un, .un, .un, .un], ?_, by simp⟩
    generalize endD (loZ T) (T 0) s = x at *
    simp [b]
theorem bound_ok (w : Int) (a b : Option Int) : f__law_bound [.int w, oi a, oi b] = .ok (.int (boundZ w a b)) [] := by
  refine fn_wpA [.fz (.int w), .fz (oi a), .fz (oi b)] rfl ?_
  unfold b__law_bound boundZ
  cases a with
  | none =>
    cases b with
    | none => simp [oi, isN, wp_ok]
    | some y => by_cases h : y < w <;> simp [oi, isN, wp_ok, h]
  | some x =>
    by_cases hx : w < x
    · simp [oi, isN, wp_ok, hx]
    · cases b with
      | none => simp [oi, isN, wp_ok, hx]
      | some y => by_cases h : y < w <;> simp [oi, isN, wp_ok, hx, h]
theorem hyp_law {m : Nat} {fs : List Fact} {os : List Int} {ps : Al} (t : Tabl m fs (clk os) ps) (lo : os.length = m) (z : clk os 0 = 0) (k : ∀ f ∈ fs, Kept (clk os) f) :
    Hyp m (FD fs) (loZ (look ps)) (look ps 0) (KeepT m (look ps)) f__law_bound f_clocks_at f_are_clocks f__law_lots := by
  have C := t.closed lo z k
  have m12 := t.fine.m12
  exact {
    m1 := t.fine.m1
    m12 := m12
    len := fun c h => h.1
    zero := fun c h => h.2.1
    bd := bound_ok
    at_ := fun s w is n0 => by
      obtain ⟨c, h1, h2, h3⟩ := at_keep C is n0 (bound_in C s w)
      exact ⟨c, by rw [clocks_at_ok t is n0, h1], h2, h3⟩
    low := fun s e is n0 he => by
      obtain ⟨c, h1, _, _⟩ := at_keep C is n0 (w := e) ((within_iff C).mpr ⟨fun l hl => by rw [he] at hl; cases hl; exact Int.le_refl _, fun g hg => lo_hi C he hg⟩)
      exact ⟨c, by rw [clocks_at_ok t is n0, h1]⟩
    high := fun s e is n0 he => by
      obtain ⟨c, h1, _, _⟩ := at_keep C is n0 (w := e) ((within_iff C).mpr ⟨fun l hl => lo_hi C hl he, fun g hg => by rw [he] at hg; cases hg; exact Int.le_refl _⟩)
      exact ⟨c, by rw [clocks_at_ok t is n0, h1]⟩
    over := fun s e is n0 he => by
      rw [clocks_at_ok t is n0]
      unfold clkAt
      rw [if_neg fun h => by
        have := ((within_iff C).mp h).2 e he
        omega]
    keep := fun c h => by
      obtain ⟨h1, h2, h3⟩ := h
      have kf := (kept_pot t (c := clk c)).mpr h3
      have al : fs.all (keepB (clk c)) = true := List.all_eq_true.mpr fun f hf => keepB_iff.mpr (kf f hf)
      show f_are_clocks [.int (m : Int), FD fs, .tuple (c.map .int)] = _
      rw [are_clocks_ok t.fine h1, al, h2]
      rfl
    bk := fun c s h is => keep_bound C h s
    lots := fun x y hx hy => ⟨[List.zipWith min x y, List.zipWith max x y, List.zipWith (fun a b : Int => (a + b).fdiv 2) x y, List.zipWith (fun a b : Int => (a + b + 1).fdiv 2) x y], lots_ok m12 hx.1 hy.1, fun w hw => by
      rcases List.mem_cons.mp hw with rfl | hw
      · exact keep_min C hx hy
      · rcases List.mem_cons.mp hw with rfl | hw
        · exact keep_max C hx hy
        · rcases List.mem_cons.mp hw with rfl | hw
          · exact keep_down C hx hy
          · rw [List.mem_singleton.mp hw]
            exact keep_up C hx hy, by simp⟩
    lows := keep_low C
    highs := keep_high C }
theorem right_law {n : Nat} {pot : D} (h : Pot.Ok (n + 60) pot) : ∃ pot', f__law_right [pot] = .ok (.bool true) [pot'] := by
  obtain ⟨v, p1, e1, v0, v1, k1⟩ := take_law (n + 59) pot 2 (h.less (by omega)) (by omega) (by omega)
  obtain ⟨m, hm⟩ : ∃ m : Nat, (3 + v : Int) = (m : Int) := ⟨(3 + v).toNat, by omega⟩
  obtain ⟨os, p2, e2, l2, b2, k2⟩ := offsets_ok take_law (n := n + 50) (m := m) (k1.less (by omega)) (by omega) (by omega)
  have lo : (0 :: os).length = m := by rw [List.length_cons]; exact l2
  have bo : ∀ x ∈ 0 :: os, -200 ≤ x ∧ x ≤ 200 := fun x hx => by
    rcases List.mem_cons.mp hx with rfl | hx
    · omega
    · exact b2 x hx
  have z0 : clk (0 :: os) 0 = 0 := rfl
  generalize 0 :: os = oz at *
  obtain ⟨fs, p3, e3, l3, g3, k3⟩ := facts_ok fact_law (n := n + 6) (k := 6) (k2.less (by omega)) (by omega) (os := oz) (by omega) (by omega) bo
  rw [lo] at g3
  obtain ⟨ps, p4, e4, l4, hp, _⟩ := picks_lc take_law (n := n) (m := m) (by omega) (by omega) (k3.less (by omega)) (s2 := .fz (.list (oz.map .int))) (s3 := .fz (FD fs))
  have D : Drawn m fs (clk oz) := ⟨by omega, by omega, by omega, fun f hf => (g3 f hf).1⟩
  obtain ⟨al, T⟩ := tabl_of D.fine
  have kf : ∀ f ∈ fs, Kept (clk oz) f := fun f hf => (g3 f hf).1.2
  have H := hyp_law T lo z0 kf
  have i0 : In m 0 := In.zero (by omega)
  refine ⟨p4, ?_⟩
  unfold f__law_right
  rw [body_r]
  exact right_wp H e1 hm e2 e3 ⟨lo, z0, (kept_pot T).mp kf⟩ e4 hp (by omega) (ends_lc (by omega) (by omega) (fun s is => bounds_ok T.fine T.hi T.dist i0 is) (s5 := .un) (s6 := .un))
theorem pot_law {ns : List Int} (hl : ns.length ≤ 63) {i : Nat} (hi : i ≤ 100) : ∃ p, f__law_pot [.list (ns.map .int), .int (i : Int)] = .oko p [] ∧ Pot.Ok 90000 p :=
  Pot.pot_ok (a := 6007) (b := 4409) (c := 95101) (d := 13709) (e := 1361) (by omega) (by omega) (by omega) hl hi
theorem places {ns : List Int} {s1 : Sl} : ∃ k : Nat, k ≤ 2 ∧ iR1 (aCons (eOp oMax2 (eC (.int 1)) (eOp oMin2 (eC (.int 2)) (eUn oLen (eV 0)))) aNil) [.fz (.list (ns.map .int)), s1] = .ok ((upI k).map PyData.int) [.fz (.list (ns.map .int)), s1] := by
  refine ⟨if ns.length = 0 then 1 else if ns.length = 1 then 1 else 2, by split <;> (try split) <;> omega, ?_⟩
  refine iR1_nat (by split <;> (try split) <;> omega) ?_
  match h : ns.length with
  | 0 => simp [h]
  | 1 => simp [h]
  | n + 2 =>
    have a1 : ¬ ((n : Int) + 1 + 1 < 2) := by omega
    simp [h, a1]
theorem laws_lc {ns : List Int} {fp fr : Fn} (hp : ∀ i : Nat, i ≤ 100 → ∃ p, fp [.list (ns.map .int), .int (i : Int)] = .oko p [] ∧ Pot.Ok 90000 p) (hr : ∀ p, Pot.Ok 90000 p → ∃ p', fr [p] = .ok (.bool true) [p']) :
    ∃ k : Nat, oLc (iR1 (aCons (eOp oMax2 (eC (.int 1)) (eOp oMin2 (eC (.int 2)) (eUn oLen (eV 0)))) aNil)) (nName 1) cYes (eCallT fr (eCallO [false, false] fp (aCons (eV 0) (aCons (eV 1) aNil)))) [1] [.fz (.list (ns.map .int)), .un] = .ok (.list ((upI k).map fun _ => .bool true)) [.fz (.list (ns.map .int)), .un] := by
  obtain ⟨k, hk, it⟩ := places (ns := ns) (s1 := .un)
  refine ⟨k, oLc_enc PyData.int (fun _ => .bool true) (xs := upI k) (en1 := [.fz (.list (ns.map .int)), .un]) it (by simp) (by simp) (by rw [upI_len]; omega) fun a ha => ?_⟩
  have ia := mem_upI.mp ha
  obtain ⟨p, e1, ok⟩ := hp a.toNat (by have := ia.2; omega)
  obtain ⟨p', e2⟩ := hr p ok
  rw [show ((a.toNat : Nat) : Int) = a by have := ia.1; omega] at e1
  exact ⟨[.fz (.list (ns.map .int)), .fz (.int a)], by simp, [.fz (.list (ns.map .int)), .fz (.int a)], by simp [eCallT, eCallO, e1, e2], by simp⟩
theorem law_wp {L : EO} {d : D} {r : List D} {bs : List Bool} (e : L [.fz d, .un] = .ok (.list r) [.fz d, .un]) (h1 : boolsD r = some bs) (h2 : bs.all id = true) : Wp (sRet (eUn oAll (ofO L)) [.fz d, .un]) fun o en => o = .rt (.bool true) ∧ outsOf [false] 0 en = some [] := by
  simp [wp_ok, e, h1, h2]
theorem holds (ns : List Int) (hl : ns.length ≤ 63) : ∃ o, f_law [.list (ns.map .int)] = .ok (.bool true) o := by
  obtain ⟨k, e⟩ := laws_lc (fun i hi => pot_law hl hi) (fun p ok => right_law (n := 80000) (ok.less (by omega)))
  have b := bools_map (fun _ : Int => true) (upI k)
  exact ⟨[], fn_wpA [.fz (.list (ns.map .int)), .un] rfl (law_wp e b (by rw [all_map]; simp))⟩
end K31

set_option Elab.async false
set_option linter.all false
set_option maxRecDepth 100000
set_option maxHeartbeats 4000000
namespace K31
open PySem PySem.Spec PySem.W PyProof.Rows L2 Fx Clk
def top (i : Nat) : Stmt := PySem.Challenge.pw_shownassigned_k31_whole_clocks_between_c.main.body.getD i (.Pass ⟨0, 0, 0, 0⟩)
structure Z (mg : Str → Option Value) : Prop where
  z_abs : mg "abs" = none
  z_all : mg "all" = none
  z_bool : mg "bool" = none
  z_enumerate : mg "enumerate" = none
  z_int : mg "int" = none
  z_isinstance : mg "isinstance" = none
  z_len : mg "len" = none
  z_list : mg "list" = none
  z_max : mg "max" = none
  z_min : mg "min" = none
  z_range : mg "range" = none
  z_sum : mg "sum" = none
  z_tuple : mg "tuple" = none
  z_zip : mg "zip" = none
  c_FACT_PARTS : Con mg "FACT_PARTS" (.int 6)
  c_LEAST : Con mg "LEAST" (.str "least")
  c_MOST : Con mg "MOST" (.str "most")
  c_MOST_FACTS : Con mg "MOST_FACTS" (.int 60)
  c_MOST_READING : Con mg "MOST_READING" (.int 1000000000)
  c_MOST_SITES : Con mg "MOST_SITES" (.int 12)
  c_MOST_TICK : Con mg "MOST_TICK" (.int 9999)
abbrev s__law_lots : Stmt := top 46
theorem sc__law_lots : FnScope ["one", "other", "pairs", "found", "pair", "first", "second"] ["one", "other"] (defScope s__law_lots) := ⟨rfl, rfl, rfl, by decide +kernel, rfl, by decide +kernel, by decide +kernel⟩
abbrev s_keeps : Stmt := top 31
theorem sc_keeps : FnScope ["clocks", "fact", "one", "left", "other", "came", "least", "most", "lasted"] ["clocks", "fact"] (defScope s_keeps) := ⟨rfl, rfl, rfl, by decide +kernel, rfl, by decide +kernel, by decide +kernel⟩
abbrev s_is_whole : Stmt := top 8
theorem sc_is_whole : FnScope ["value"] ["value"] (defScope s_is_whole) := ⟨rfl, rfl, rfl, by decide +kernel, rfl, by decide +kernel, by decide +kernel⟩
abbrev s_are_kept : Stmt := top 32
theorem sc_are_kept : FnScope ["many", "facts", "value", "offset", "fact"] ["many", "facts", "value"] (defScope s_are_kept) := ⟨rfl, rfl, rfl, by decide +kernel, rfl, by decide +kernel, by decide +kernel⟩
abbrev s_is_between : Stmt := top 9
theorem sc_is_between : FnScope ["value", "low", "high"] ["value", "low", "high"] (defScope s_is_between) := ⟨rfl, rfl, rfl, by decide +kernel, rfl, by decide +kernel, by decide +kernel⟩
abbrev s_is_fact : Stmt := top 17
theorem sc_is_fact : FnScope ["many", "value", "one", "left", "other", "came", "least", "most"] ["many", "value"] (defScope s_is_fact) := ⟨rfl, rfl, rfl, by decide +kernel, rfl, by decide +kernel, by decide +kernel⟩
abbrev s_are_facts : Stmt := top 18
theorem sc_are_facts : FnScope ["many", "value", "fact"] ["many", "value"] (defScope s_are_facts) := ⟨rfl, rfl, rfl, by decide +kernel, rfl, by decide +kernel, by decide +kernel⟩
abbrev s_check_facts : Stmt := top 19
theorem sc_check_facts : FnScope ["many", "facts"] ["many", "facts"] (defScope s_check_facts) := ⟨rfl, rfl, rfl, by decide +kernel, rfl, by decide +kernel, by decide +kernel⟩
abbrev s_are_clocks : Stmt := top 33
theorem sc_are_clocks : FnScope ["many", "facts", "value"] ["many", "facts", "value"] (defScope s_are_clocks) := ⟨rfl, rfl, rfl, by decide +kernel, rfl, by decide +kernel, by decide +kernel⟩
abbrev s__law_bound : Stmt := top 47
theorem sc__law_bound : FnScope ["number", "low_v", "high_v"] ["number", "low_v", "high_v"] (defScope s__law_bound) := ⟨rfl, rfl, rfl, by decide +kernel, rfl, by decide +kernel, by decide +kernel⟩
abbrev s_nearest : Stmt := top 35
theorem sc_nearest : FnScope ["least", "greatest"] ["least", "greatest"] (defScope s_nearest) := ⟨rfl, rfl, rfl, by decide +kernel, rfl, by decide +kernel, by decide +kernel⟩
abbrev s_lesser : Stmt := top 22
theorem sc_lesser : FnScope ["one", "other"] ["one", "other"] (defScope s_lesser) := ⟨rfl, rfl, rfl, by decide +kernel, rfl, by decide +kernel, by decide +kernel⟩
abbrev s_together : Stmt := top 23
theorem sc_together : FnScope ["one", "other"] ["one", "other"] (defScope s_together) := ⟨rfl, rfl, rfl, by decide +kernel, rfl, by decide +kernel, by decide +kernel⟩
abbrev s_low : Stmt := top 30
theorem sc_low : FnScope ["known", "one", "other", "back"] ["known", "one", "other"] (defScope s_low) := ⟨rfl, rfl, rfl, by decide +kernel, rfl, by decide +kernel, by decide +kernel⟩
abbrev s_high : Stmt := top 29
theorem sc_high : FnScope ["known", "one", "other"] ["known", "one", "other"] (defScope s_high) := ⟨rfl, rfl, rfl, by decide +kernel, rfl, by decide +kernel, by decide +kernel⟩
abbrev s_ends_by : Stmt := top 37
theorem sc_ends_by : FnScope ["known", "told", "other", "least", "greatest", "site", "offset", "top", "bottom"] ["known", "told", "other"] (defScope s_ends_by) := ⟨rfl, rfl, rfl, by decide +kernel, rfl, by decide +kernel, by decide +kernel⟩
abbrev s_are_within : Stmt := top 38
theorem sc_are_within : FnScope ["known", "told", "site", "offset", "least", "greatest"] ["known", "told", "site", "offset"] (defScope s_are_within) := ⟨rfl, rfl, rfl, by decide +kernel, rfl, by decide +kernel, by decide +kernel⟩
abbrev s_sides_of : Stmt := top 21
theorem sc_sides_of : FnScope ["facts", "found", "number", "one", "left", "other", "came", "least", "most"] ["facts"] (defScope s_sides_of) := ⟨rfl, rfl, rfl, by decide +kernel, rfl, by decide +kernel, by decide +kernel⟩
abbrev s_highs : Stmt := top 27
theorem sc_highs : FnScope ["many", "facts", "found", "number", "word", "begin", "end", "weight", "middle", "ahead", "total", "site"] ["many", "facts"] (defScope s_highs) := ⟨rfl, rfl, rfl, by decide +kernel, rfl, by decide +kernel, by decide +kernel⟩
abbrev s_check_round : Stmt := top 28
theorem sc_check_round : FnScope ["many", "facts", "known", "site"] ["many", "facts"] (defScope s_check_round) := ⟨rfl, rfl, rfl, by decide +kernel, rfl, by decide +kernel, by decide +kernel⟩
abbrev s_check_site : Stmt := top 20
theorem sc_check_site : FnScope ["many", "site"] ["many", "site"] (defScope s_check_site) := ⟨rfl, rfl, rfl, by decide +kernel, rfl, by decide +kernel, by decide +kernel⟩
abbrev s_clocks_at : Stmt := top 36
theorem sc_clocks_at : FnScope ["many", "facts", "site", "offset", "known", "told", "other", "least", "greatest", "number"] ["many", "facts", "site", "offset"] (defScope s_clocks_at) := ⟨rfl, rfl, rfl, by decide +kernel, rfl, by decide +kernel, by decide +kernel⟩
abbrev s_bounds : Stmt := top 34
theorem sc_bounds : FnScope ["many", "facts", "one", "other", "known"] ["many", "facts", "one", "other"] (defScope s_bounds) := ⟨rfl, rfl, rfl, by decide +kernel, rfl, by decide +kernel, by decide +kernel⟩
abbrev s__law_take : Stmt := top 41
theorem sc__law_take : FnScope ["pot", "upto", "digit", "prime", "blend"] ["pot", "upto"] (defScope s__law_take) := ⟨rfl, rfl, rfl, by decide +kernel, rfl, by decide +kernel, by decide +kernel⟩
abbrev s__law_of : Stmt := top 42
theorem sc__law_of : FnScope ["pot", "some"] ["pot", "some"] (defScope s__law_of) := ⟨rfl, rfl, rfl, by decide +kernel, rfl, by decide +kernel, by decide +kernel⟩
abbrev s__law_drawn_fact : Stmt := top 44
theorem sc__law_drawn_fact : FnScope ["pot", "offsets", "one", "other", "left", "least", "wide", "came", "most"] ["pot", "offsets"] (defScope s__law_drawn_fact) := ⟨rfl, rfl, rfl, by decide +kernel, rfl, by decide +kernel, by decide +kernel⟩
abbrev s__law_facts : Stmt := top 45
theorem sc__law_facts : FnScope ["pot", "offsets", "many", "lap"] ["pot", "offsets", "many"] (defScope s__law_facts) := ⟨rfl, rfl, rfl, by decide +kernel, rfl, by decide +kernel, by decide +kernel⟩
abbrev s__law_offsets : Stmt := top 43
theorem sc__law_offsets : FnScope ["pot", "many", "site"] ["pot", "many"] (defScope s__law_offsets) := ⟨rfl, rfl, rfl, by decide +kernel, rfl, by decide +kernel, by decide +kernel⟩
abbrev s__law_right : Stmt := top 48
theorem sc__law_right : FnScope ["pot", "many", "offsets", "facts", "picks", "lots", "ends", "site", "wish", "offset", "clocks", "end", "one", "other", "lap", "at", "some"] ["pot"] (defScope s__law_right) := ⟨rfl, rfl, rfl, by decide +kernel, rfl, by decide +kernel, by decide +kernel⟩
abbrev s__law_pot : Stmt := top 40
theorem sc__law_pot : FnScope ["script", "place", "cell", "own", "small"] ["script", "place"] (defScope s__law_pot) := ⟨rfl, rfl, rfl, by decide +kernel, rfl, by decide +kernel, by decide +kernel⟩
abbrev s_law : Stmt := top 49
theorem sc_law : FnScope ["script", "place"] ["script"] (defScope s_law) := ⟨rfl, rfl, rfl, by decide +kernel, rfl, by decide +kernel, by decide +kernel⟩
section
variable {P : Program} {w : World} {K : PySem.W.Frag} {mg : Str → Option Value} {base : Heap} {f : Addr} {fd : FuncData}
theorem ok__law_lots (W : Z mg)  (D : Fun K "_law_lots" "_law_lots" s__law_lots f fd) (a : mg "_law_lots" = some (.ref f)) (bd : Binds K fd ["one", "other"] []) : Has P w K mg base 1 "_law_lots" ["one", "other"] [false, false] f__law_lots := by
  exact Has.mk' ["one", "other", "pairs", "found", "pair", "first", "second"] ["one", "other"] [false, false] b__law_lots D sc__law_lots rfl (by decide) rfl a bd fun cd A out s H E calm room => ⟨_, (sb_cons (ss_setO 2 sc__law_lots.nd (so_lzip rfl W.z_list W.z_zip (sa_cons (se_v 0 (by rfl) (by first | exact Or.inl rfl | exact Or.inr (Or.inl rfl) | exact Or.inr (Or.inr rfl)) (by decide) (by decide)) (sa_cons (se_v 1 (by rfl) (by first | exact Or.inl rfl | exact Or.inr (Or.inl rfl) | exact Or.inr (Or.inr rfl)) (by decide) (by decide)) sa_nil (by rfl)) (by rfl)) (by rfl) (by rfl) (by rfl) (by rfl) (by rfl)) (by rfl) (by first | exact Or.inl rfl | exact Or.inr rfl) (by rfl) (by first | exact Or.inl rfl | exact Or.inr rfl))
    (sb_cons (ss_setO 3 sc__law_lots.nd (so_lst (sa_cons (se_t1 call_tuple_of sound_tuple W.z_tuple boot_tuple (SO.se (so_lc [("pair", 4)] sc__law_lots.nd (si_seq (se_v 2 (by rfl) (by first | exact Or.inl rfl | exact Or.inr (Or.inl rfl) | exact Or.inr (Or.inr rfl)) (by decide) (by decide))) (fun _ _ _ _ _ => ⟨_, (sg_name 4 sc__law_lots.nd (by rfl) (by first | exact Or.inl rfl | exact Or.inr rfl) (by decide) (by first | exact Or.inl rfl | exact Or.inr rfl))⟩) (fun _ _ _ _ _ => ⟨_, (se_b1 (cr_minA rfl (room64 room)) sound_minA W.z_min boot_min (se_v 4 (by rfl) (by first | exact Or.inl rfl | exact Or.inr (Or.inl rfl) | exact Or.inr (Or.inr rfl)) (by decide) (by decide)) (by rfl) (by decide) (by decide) (by rfl) (by rfl))⟩) (by rfl) (by first | rfl | decide +kernel) (by intro _; rfl))) (by rfl) (by decide) (by decide) (by rfl) (by rfl)) (sa_cons (se_t1 call_tuple_of sound_tuple W.z_tuple boot_tuple (SO.se (so_lc [("pair", 4)] sc__law_lots.nd (si_seq (se_v 2 (by rfl) (by first | exact Or.inl rfl | exact Or.inr (Or.inl rfl) | exact Or.inr (Or.inr rfl)) (by decide) (by decide))) (fun _ _ _ _ _ => ⟨_, (sg_name 4 sc__law_lots.nd (by rfl) (by first | exact Or.inl rfl | exact Or.inr rfl) (by decide) (by first | exact Or.inl rfl | exact Or.inr rfl))⟩) (fun _ _ _ _ _ => ⟨_, (se_b1 (cr_maxA rfl (room64 room)) sound_maxA W.z_max boot_max (se_v 4 (by rfl) (by first | exact Or.inl rfl | exact Or.inr (Or.inl rfl) | exact Or.inr (Or.inr rfl)) (by decide) (by decide)) (by rfl) (by decide) (by decide) (by rfl) (by rfl))⟩) (by rfl) (by first | rfl | decide +kernel) (by intro _; rfl))) (by rfl) (by decide) (by decide) (by rfl) (by rfl)) sa_nil (by rfl)) (by rfl))) (by rfl) (by first | exact Or.inl rfl | exact Or.inr rfl) (by rfl) (by first | exact Or.inl rfl | exact Or.inr rfl))
    (sb_cons (ss_app (se_v 3 (by rfl) (by first | exact Or.inl rfl | exact Or.inr (Or.inl rfl) | exact Or.inr (Or.inr rfl)) (by decide) (by decide)) (se_t1 call_tuple_of sound_tuple W.z_tuple boot_tuple (SO.se (so_lc [("first", 5), ("second", 6)] sc__law_lots.nd (si_seq (se_v 2 (by rfl) (by first | exact Or.inl rfl | exact Or.inr (Or.inl rfl) | exact Or.inr (Or.inr rfl)) (by decide) (by decide))) (fun _ _ _ _ _ => ⟨_, (sg_tup rfl (sgs_cons (sg_name 5 sc__law_lots.nd (by rfl) (by first | exact Or.inl rfl | exact Or.inr rfl) (by decide) (by first | exact Or.inl rfl | exact Or.inr rfl)) (sgs_cons (sg_name 6 sc__law_lots.nd (by rfl) (by first | exact Or.inl rfl | exact Or.inr rfl) (by decide) (by first | exact Or.inl rfl | exact Or.inr rfl)) sgs_nil (by rfl)) (by rfl)) (by rfl) (by rfl))⟩) (fun _ _ _ _ _ => ⟨_, (se_op op_fdivN sound_div (se_op op_addA sound_add (se_v 5 (by rfl) (by first | exact Or.inl rfl | exact Or.inr (Or.inl rfl) | exact Or.inr (Or.inr rfl)) (by decide) (by decide)) (se_v 6 (by rfl) (by first | exact Or.inl rfl | exact Or.inr (Or.inl rfl) | exact Or.inr (Or.inr rfl)) (by decide) (by decide))) se_int)⟩) (by rfl) (by first | rfl | decide +kernel) (by intro _; rfl))) (by rfl) (by decide) (by decide) (by rfl) (by rfl)) (by rfl) (by rfl) (by rfl) (by rfl) (by rfl) (by rfl))
    (sb_one (ss_ret (SO.se (so_cat (se_v 3 (by rfl) (by first | exact Or.inl rfl | exact Or.inr (Or.inl rfl) | exact Or.inr (Or.inr rfl)) (by decide) (by decide)) (SO.se (so_lst (sa_cons (se_t1 call_tuple_of sound_tuple W.z_tuple boot_tuple (SO.se (so_lc [("first", 5), ("second", 6)] sc__law_lots.nd (si_seq (se_v 2 (by rfl) (by first | exact Or.inl rfl | exact Or.inr (Or.inl rfl) | exact Or.inr (Or.inr rfl)) (by decide) (by decide))) (fun _ _ _ _ _ => ⟨_, (sg_tup rfl (sgs_cons (sg_name 5 sc__law_lots.nd (by rfl) (by first | exact Or.inl rfl | exact Or.inr rfl) (by decide) (by first | exact Or.inl rfl | exact Or.inr rfl)) (sgs_cons (sg_name 6 sc__law_lots.nd (by rfl) (by first | exact Or.inl rfl | exact Or.inr rfl) (by decide) (by first | exact Or.inl rfl | exact Or.inr rfl)) sgs_nil (by rfl)) (by rfl)) (by rfl) (by rfl))⟩) (fun _ _ _ _ _ => ⟨_, (se_op op_fdivN sound_div (se_op op_addA sound_add (se_op op_addA sound_add (se_v 5 (by rfl) (by first | exact Or.inl rfl | exact Or.inr (Or.inl rfl) | exact Or.inr (Or.inr rfl)) (by decide) (by decide)) (se_v 6 (by rfl) (by first | exact Or.inl rfl | exact Or.inr (Or.inl rfl) | exact Or.inr (Or.inr rfl)) (by decide) (by decide))) se_int) se_int)⟩) (by rfl) (by first | rfl | decide +kernel) (by intro _; rfl))) (by rfl) (by decide) (by decide) (by rfl) (by rfl)) sa_nil (by rfl)))))))))))⟩
theorem ok_keeps (W : Z mg)  (D : Fun K "keeps" "keeps" s_keeps f fd) (a : mg "keeps" = some (.ref f)) (bd : Binds K fd ["clocks", "fact"] []) : Has P w K mg base 1 "keeps" ["clocks", "fact"] [false, false] f_keeps := by
  exact Has.mk' ["clocks", "fact", "one", "left", "other", "came", "least", "most", "lasted"] ["clocks", "fact"] [false, false] b_keeps D sc_keeps rfl (by decide) rfl a bd fun cd A out s H E calm room => ⟨_, (sb_cons (ss_asg (se_v 1 (by rfl) (by first | exact Or.inl rfl | exact Or.inr (Or.inl rfl) | exact Or.inr (Or.inr rfl)) (by decide) (by decide)) (sg_tup rfl (sgs_cons (sg_name (vs := [2, 3, 4, 5, 6, 7]) 2 sc_keeps.nd (by rfl) (by first | exact Or.inl rfl | exact Or.inr rfl) (by decide) (by first | exact Or.inl rfl | exact Or.inr rfl)) (sgs_cons (sg_name (vs := [2, 3, 4, 5, 6, 7]) 3 sc_keeps.nd (by rfl) (by first | exact Or.inl rfl | exact Or.inr rfl) (by decide) (by first | exact Or.inl rfl | exact Or.inr rfl)) (sgs_cons (sg_name (vs := [2, 3, 4, 5, 6, 7]) 4 sc_keeps.nd (by rfl) (by first | exact Or.inl rfl | exact Or.inr rfl) (by decide) (by first | exact Or.inl rfl | exact Or.inr rfl)) (sgs_cons (sg_name (vs := [2, 3, 4, 5, 6, 7]) 5 sc_keeps.nd (by rfl) (by first | exact Or.inl rfl | exact Or.inr rfl) (by decide) (by first | exact Or.inl rfl | exact Or.inr rfl)) (sgs_cons (sg_name (vs := [2, 3, 4, 5, 6, 7]) 6 sc_keeps.nd (by rfl) (by first | exact Or.inl rfl | exact Or.inr rfl) (by decide) (by first | exact Or.inl rfl | exact Or.inr rfl)) (sgs_cons (sg_name (vs := [2, 3, 4, 5, 6, 7]) 7 sc_keeps.nd (by rfl) (by first | exact Or.inl rfl | exact Or.inr rfl) (by decide) (by first | exact Or.inl rfl | exact Or.inr rfl)) sgs_nil (by rfl)) (by rfl)) (by rfl)) (by rfl)) (by rfl)) (by rfl)) (by rfl) (by rfl)) (by rfl) (by rfl) (by rfl))
    (sb_cons (ss_set 8 sc_keeps.nd (se_op op_sub sound_sub (se_op op_sub sound_sub (se_v 5 (by rfl) (by first | exact Or.inl rfl | exact Or.inr (Or.inl rfl) | exact Or.inr (Or.inr rfl)) (by decide) (by decide)) (se_ix (se_v 0 (by rfl) (by first | exact Or.inl rfl | exact Or.inr (Or.inl rfl) | exact Or.inr (Or.inr rfl)) (by decide) (by decide)) (se_v 4 (by rfl) (by first | exact Or.inl rfl | exact Or.inr (Or.inl rfl) | exact Or.inr (Or.inr rfl)) (by decide) (by decide)) (by exact fun _ _ => rfl))) (se_op op_sub sound_sub (se_v 3 (by rfl) (by first | exact Or.inl rfl | exact Or.inr (Or.inl rfl) | exact Or.inr (Or.inr rfl)) (by decide) (by decide)) (se_ix (se_v 0 (by rfl) (by first | exact Or.inl rfl | exact Or.inr (Or.inl rfl) | exact Or.inr (Or.inr rfl)) (by decide) (by decide)) (se_v 2 (by rfl) (by first | exact Or.inl rfl | exact Or.inr (Or.inl rfl) | exact Or.inr (Or.inr rfl)) (by decide) (by decide)) (by exact fun _ _ => rfl)))) (by rfl) (by first | exact Or.inl rfl | exact Or.inr rfl) (by rfl) (by first | exact Or.inl rfl | exact Or.inr rfl))
    (sb_one (ss_ret (se_and (se_cmp op_le sound_cmpI (se_v 6 (by rfl) (by first | exact Or.inl rfl | exact Or.inr (Or.inl rfl) | exact Or.inr (Or.inr rfl)) (by decide) (by decide)) (se_v 8 (by rfl) (by first | exact Or.inl rfl | exact Or.inr (Or.inl rfl) | exact Or.inr (Or.inr rfl)) (by decide) (by decide)) (by exact nomark _)) (se_one (se_or (se_cmp op_isN sound_isN (se_v 7 (by rfl) (by first | exact Or.inl rfl | exact Or.inr (Or.inl rfl) | exact Or.inr (Or.inr rfl)) (by decide) (by decide)) se_non (by exact nomark _)) (se_one (se_cmp op_le sound_cmpI (se_v 8 (by rfl) (by first | exact Or.inl rfl | exact Or.inr (Or.inl rfl) | exact Or.inr (Or.inr rfl)) (by decide) (by decide)) (se_v 7 (by rfl) (by first | exact Or.inl rfl | exact Or.inr (Or.inl rfl) | exact Or.inr (Or.inr rfl)) (by decide) (by decide)) (by exact nomark _))))))))))⟩
theorem ok_is_whole (W : Z mg)  (D : Fun K "is_whole" "is_whole" s_is_whole f fd) (a : mg "is_whole" = some (.ref f)) (bd : Binds K fd ["value"] []) : Has P w K mg base 1 "is_whole" ["value"] [false] f_is_whole := by
  exact Has.mk' ["value"] ["value"] [false] b_is_whole D sc_is_whole rfl (by decide) rfl a bd fun cd A out s H E calm room => ⟨_, (sb_one (ss_ret (se_and (se_isi cInt_ok W.z_isinstance W.z_int boot_isinstance boot_int (se_v 0 (by rfl) (by first | exact Or.inl rfl | exact Or.inr (Or.inl rfl) | exact Or.inr (Or.inr rfl)) (by decide) (by decide)) (by rfl) (by rfl) (by decide) (by decide) (by decide) (by decide) (by rfl) (by rfl) (by rfl)) (se_one (se_not (se_isi cBool_ok W.z_isinstance W.z_bool boot_isinstance boot_bool (se_v 0 (by rfl) (by first | exact Or.inl rfl | exact Or.inr (Or.inl rfl) | exact Or.inr (Or.inr rfl)) (by decide) (by decide)) (by rfl) (by rfl) (by decide) (by decide) (by decide) (by decide) (by rfl) (by rfl) (by rfl)))))))⟩
theorem ok_are_kept (W : Z mg) (h_keeps : Has P w K mg base 1 "keeps" ["clocks", "fact"] [false, false] f_keeps) (h_is_whole : Has P w K mg base 1 "is_whole" ["value"] [false] f_is_whole) (D : Fun K "are_kept" "are_kept" s_are_kept f fd) (a : mg "are_kept" = some (.ref f)) (bd : Binds K fd ["many", "facts", "value"] []) : Has P w K mg base 2 "are_kept" ["many", "facts", "value"] [false, false, false] f_are_kept := by
  exact Has.mk' ["many", "facts", "value", "offset", "fact"] ["many", "facts", "value"] [false, false, false] b_are_kept D sc_are_kept rfl (by decide) rfl a bd fun cd A out s H E calm room => ⟨_, (sb_cons (ss_if (st_w (sw_or (st_not (st_val (se_isi cTuple_ok W.z_isinstance W.z_tuple boot_isinstance boot_tuple (se_v 2 (by rfl) (by first | exact Or.inl rfl | exact Or.inr (Or.inl rfl) | exact Or.inr (Or.inr rfl)) (by decide) (by decide)) (by rfl) (by rfl) (by decide) (by decide) (by decide) (by decide) (by rfl) (by rfl) (by rfl)) (by intro _; rfl))) (sw_or (st_cmp (op_neD (room64 room)) sound_ne (se_b1 call_len sound_len W.z_len boot_len (se_v 2 (by rfl) (by first | exact Or.inl rfl | exact Or.inr (Or.inl rfl) | exact Or.inr (Or.inr rfl)) (by decide) (by decide)) (by rfl) (by decide) (by decide) (by rfl) (by rfl)) (se_v 0 (by rfl) (by first | exact Or.inl rfl | exact Or.inr (Or.inl rfl) | exact Or.inr (Or.inr rfl)) (by decide) (by decide)) (by exact nomark _)) (sw_or1 (st_not (st_val (se_b1 (cr_all rfl) sound_all W.z_all boot_all (SO.se (so_lc [("offset", 3)] sc_are_kept.nd (si_seq (se_v 2 (by rfl) (by first | exact Or.inl rfl | exact Or.inr (Or.inl rfl) | exact Or.inr (Or.inr rfl)) (by decide) (by decide))) (fun _ _ _ _ _ => ⟨_, (sg_name 3 sc_are_kept.nd (by rfl) (by first | exact Or.inl rfl | exact Or.inr rfl) (by decide) (by first | exact Or.inl rfl | exact Or.inr rfl))⟩) (fun _ _ _ _ _ => ⟨_, (se_call h_is_whole calm room (by decide) (sa_cons (se_v 3 (by rfl) (by first | exact Or.inl rfl | exact Or.inr (Or.inl rfl) | exact Or.inr (Or.inr rfl)) (by decide) (by decide)) sa_nil (by rfl)) (by rfl) (by decide) (by rfl) (by rfl))⟩) (by rfl) (by first | rfl | decide +kernel) (by intro _; rfl))) (by rfl) (by decide) (by decide) (by rfl) (by rfl)) (by intro _; rfl))))))) (sb_one (ss_ret se_bl)) sb_nil)
    (sb_one (ss_ret (se_and (se_cmp (op_eqD (room64 room)) sound_eq (se_ix (se_v 2 (by rfl) (by first | exact Or.inl rfl | exact Or.inr (Or.inl rfl) | exact Or.inr (Or.inr rfl)) (by decide) (by decide)) se_int (by exact fun _ _ => rfl)) se_int (by exact nomark _)) (se_one (se_b1 (cr_all rfl) sound_all W.z_all boot_all (SO.se (so_lc [("fact", 4)] sc_are_kept.nd (si_seq (se_v 1 (by rfl) (by first | exact Or.inl rfl | exact Or.inr (Or.inl rfl) | exact Or.inr (Or.inr rfl)) (by decide) (by decide))) (fun _ _ _ _ _ => ⟨_, (sg_name 4 sc_are_kept.nd (by rfl) (by first | exact Or.inl rfl | exact Or.inr rfl) (by decide) (by first | exact Or.inl rfl | exact Or.inr rfl))⟩) (fun _ _ _ _ _ => ⟨_, (se_call h_keeps calm room (by decide) (sa_cons (se_v 2 (by rfl) (by first | exact Or.inl rfl | exact Or.inr (Or.inl rfl) | exact Or.inr (Or.inr rfl)) (by decide) (by decide)) (sa_cons (se_v 4 (by rfl) (by first | exact Or.inl rfl | exact Or.inr (Or.inl rfl) | exact Or.inr (Or.inr rfl)) (by decide) (by decide)) sa_nil (by rfl)) (by rfl)) (by rfl) (by decide) (by rfl) (by rfl))⟩) (by rfl) (by first | rfl | decide +kernel) (by intro _; rfl))) (by rfl) (by decide) (by decide) (by rfl) (by rfl)))))))⟩
theorem ok_is_between (W : Z mg) (h_is_whole : Has P w K mg base 1 "is_whole" ["value"] [false] f_is_whole) (D : Fun K "is_between" "is_between" s_is_between f fd) (a : mg "is_between" = some (.ref f)) (bd : Binds K fd ["value", "low", "high"] []) : Has P w K mg base 2 "is_between" ["value", "low", "high"] [false, false, false] f_is_between := by
  exact Has.mk' ["value", "low", "high"] ["value", "low", "high"] [false, false, false] b_is_between D sc_is_between rfl (by decide) rfl a bd fun cd A out s H E calm room => ⟨_, (sb_one (ss_ret (se_and (se_call h_is_whole calm room (by decide) (sa_cons (se_v 0 (by rfl) (by first | exact Or.inl rfl | exact Or.inr (Or.inl rfl) | exact Or.inr (Or.inr rfl)) (by decide) (by decide)) sa_nil (by rfl)) (by rfl) (by decide) (by rfl) (by rfl)) (se_one (se_chain op_le sound_cmpI op_le sound_cmpI (se_v 1 (by rfl) (by first | exact Or.inl rfl | exact Or.inr (Or.inl rfl) | exact Or.inr (Or.inr rfl)) (by decide) (by decide)) (se_v 0 (by rfl) (by first | exact Or.inl rfl | exact Or.inr (Or.inl rfl) | exact Or.inr (Or.inr rfl)) (by decide) (by decide)) (se_v 2 (by rfl) (by first | exact Or.inl rfl | exact Or.inr (Or.inl rfl) | exact Or.inr (Or.inr rfl)) (by decide) (by decide)) (by with_unfolding_all rfl))))))⟩
theorem ok_is_fact (W : Z mg) (h_is_between : Has P w K mg base 2 "is_between" ["value", "low", "high"] [false, false, false] f_is_between) (h_is_whole : Has P w K mg base 1 "is_whole" ["value"] [false] f_is_whole) (D : Fun K "is_fact" "is_fact" s_is_fact f fd) (a : mg "is_fact" = some (.ref f)) (bd : Binds K fd ["many", "value"] []) : Has P w K mg base 3 "is_fact" ["many", "value"] [false, false] f_is_fact := by
  exact Has.mk' ["many", "value", "one", "left", "other", "came", "least", "most"] ["many", "value"] [false, false] b_is_fact D sc_is_fact rfl (by decide) rfl a bd fun cd A out s H E calm room => ⟨_, (sb_cons (ss_if (st_w (sw_or (st_not (st_val (se_isi cTuple_ok W.z_isinstance W.z_tuple boot_isinstance boot_tuple (se_v 1 (by rfl) (by first | exact Or.inl rfl | exact Or.inr (Or.inl rfl) | exact Or.inr (Or.inr rfl)) (by decide) (by decide)) (by rfl) (by rfl) (by decide) (by decide) (by decide) (by decide) (by rfl) (by rfl) (by rfl)) (by intro _; rfl))) (sw_or1 (st_cmp (op_neD (room64 room)) sound_ne (se_b1 call_len sound_len W.z_len boot_len (se_v 1 (by rfl) (by first | exact Or.inl rfl | exact Or.inr (Or.inl rfl) | exact Or.inr (Or.inr rfl)) (by decide) (by decide)) (by rfl) (by decide) (by decide) (by rfl) (by rfl)) (se_gi W.c_FACT_PARTS (by rfl) (by decide)) (by exact nomark _))))) (sb_one (ss_ret se_bl)) sb_nil)
    (sb_cons (ss_asg (se_v 1 (by rfl) (by first | exact Or.inl rfl | exact Or.inr (Or.inl rfl) | exact Or.inr (Or.inr rfl)) (by decide) (by decide)) (sg_tup rfl (sgs_cons (sg_name (vs := [2, 3, 4, 5, 6, 7]) 2 sc_is_fact.nd (by rfl) (by first | exact Or.inl rfl | exact Or.inr rfl) (by decide) (by first | exact Or.inl rfl | exact Or.inr rfl)) (sgs_cons (sg_name (vs := [2, 3, 4, 5, 6, 7]) 3 sc_is_fact.nd (by rfl) (by first | exact Or.inl rfl | exact Or.inr rfl) (by decide) (by first | exact Or.inl rfl | exact Or.inr rfl)) (sgs_cons (sg_name (vs := [2, 3, 4, 5, 6, 7]) 4 sc_is_fact.nd (by rfl) (by first | exact Or.inl rfl | exact Or.inr rfl) (by decide) (by first | exact Or.inl rfl | exact Or.inr rfl)) (sgs_cons (sg_name (vs := [2, 3, 4, 5, 6, 7]) 5 sc_is_fact.nd (by rfl) (by first | exact Or.inl rfl | exact Or.inr rfl) (by decide) (by first | exact Or.inl rfl | exact Or.inr rfl)) (sgs_cons (sg_name (vs := [2, 3, 4, 5, 6, 7]) 6 sc_is_fact.nd (by rfl) (by first | exact Or.inl rfl | exact Or.inr rfl) (by decide) (by first | exact Or.inl rfl | exact Or.inr rfl)) (sgs_cons (sg_name (vs := [2, 3, 4, 5, 6, 7]) 7 sc_is_fact.nd (by rfl) (by first | exact Or.inl rfl | exact Or.inr rfl) (by decide) (by first | exact Or.inl rfl | exact Or.inr rfl)) sgs_nil (by rfl)) (by rfl)) (by rfl)) (by rfl)) (by rfl)) (by rfl)) (by rfl) (by rfl)) (by rfl) (by rfl) (by rfl))
    (sb_cons (ss_if (st_w (sw_or (st_not (st_val (se_call h_is_between calm room (by decide) (sa_cons (se_v 2 (by rfl) (by first | exact Or.inl rfl | exact Or.inr (Or.inl rfl) | exact Or.inr (Or.inr rfl)) (by decide) (by decide)) (sa_cons se_int (sa_cons (se_op op_sub sound_sub (se_v 0 (by rfl) (by first | exact Or.inl rfl | exact Or.inr (Or.inl rfl) | exact Or.inr (Or.inr rfl)) (by decide) (by decide)) se_int) sa_nil (by rfl)) (by rfl)) (by rfl)) (by rfl) (by decide) (by rfl) (by rfl)) (by intro _; rfl))) (sw_or (st_not (st_val (se_call h_is_between calm room (by decide) (sa_cons (se_v 4 (by rfl) (by first | exact Or.inl rfl | exact Or.inr (Or.inl rfl) | exact Or.inr (Or.inr rfl)) (by decide) (by decide)) (sa_cons se_int (sa_cons (se_op op_sub sound_sub (se_v 0 (by rfl) (by first | exact Or.inl rfl | exact Or.inr (Or.inl rfl) | exact Or.inr (Or.inr rfl)) (by decide) (by decide)) se_int) sa_nil (by rfl)) (by rfl)) (by rfl)) (by rfl) (by decide) (by rfl) (by rfl)) (by intro _; rfl))) (sw_or1 (st_cmp (op_eqD (room64 room)) sound_eq (se_v 2 (by rfl) (by first | exact Or.inl rfl | exact Or.inr (Or.inl rfl) | exact Or.inr (Or.inr rfl)) (by decide) (by decide)) (se_v 4 (by rfl) (by first | exact Or.inl rfl | exact Or.inr (Or.inl rfl) | exact Or.inr (Or.inr rfl)) (by decide) (by decide)) (by exact nomark _)))))) (sb_one (ss_ret se_bl)) sb_nil)
    (sb_cons (ss_if (st_w (sw_or (st_not (st_val (se_call h_is_whole calm room (by decide) (sa_cons (se_v 3 (by rfl) (by first | exact Or.inl rfl | exact Or.inr (Or.inl rfl) | exact Or.inr (Or.inr rfl)) (by decide) (by decide)) sa_nil (by rfl)) (by rfl) (by decide) (by rfl) (by rfl)) (by intro _; rfl))) (sw_or (st_not (st_val (se_call h_is_whole calm room (by decide) (sa_cons (se_v 5 (by rfl) (by first | exact Or.inl rfl | exact Or.inr (Or.inl rfl) | exact Or.inr (Or.inr rfl)) (by decide) (by decide)) sa_nil (by rfl)) (by rfl) (by decide) (by rfl) (by rfl)) (by intro _; rfl))) (sw_or1 (st_cmp op_ge sound_cmpI (se_b2 (call_max2 rfl) sound_max2 W.z_max boot_max (se_b1 call_abs sound_abs W.z_abs boot_abs (se_v 3 (by rfl) (by first | exact Or.inl rfl | exact Or.inr (Or.inl rfl) | exact Or.inr (Or.inr rfl)) (by decide) (by decide)) (by rfl) (by decide) (by decide) (by rfl) (by rfl)) (se_b1 call_abs sound_abs W.z_abs boot_abs (se_v 5 (by rfl) (by first | exact Or.inl rfl | exact Or.inr (Or.inl rfl) | exact Or.inr (Or.inr rfl)) (by decide) (by decide)) (by rfl) (by decide) (by decide) (by rfl) (by rfl)) (by rfl) (by decide) (by decide) (by rfl) (by rfl) (by rfl)) (se_gi W.c_MOST_READING (by rfl) (by decide)) (by exact nomark _)))))) (sb_one (ss_ret se_bl)) sb_nil)
    (sb_one (ss_ret (se_and (se_call h_is_between calm room (by decide) (sa_cons (se_v 6 (by rfl) (by first | exact Or.inl rfl | exact Or.inr (Or.inl rfl) | exact Or.inr (Or.inr rfl)) (by decide) (by decide)) (sa_cons se_int (sa_cons (se_gi W.c_MOST_TICK (by rfl) (by decide)) sa_nil (by rfl)) (by rfl)) (by rfl)) (by rfl) (by decide) (by rfl) (by rfl)) (se_one (se_or (se_cmp op_isN sound_isN (se_v 7 (by rfl) (by first | exact Or.inl rfl | exact Or.inr (Or.inl rfl) | exact Or.inr (Or.inr rfl)) (by decide) (by decide)) se_non (by exact nomark _)) (se_one (se_call h_is_between calm room (by decide) (sa_cons (se_v 7 (by rfl) (by first | exact Or.inl rfl | exact Or.inr (Or.inl rfl) | exact Or.inr (Or.inr rfl)) (by decide) (by decide)) (sa_cons (se_v 6 (by rfl) (by first | exact Or.inl rfl | exact Or.inr (Or.inl rfl) | exact Or.inr (Or.inr rfl)) (by decide) (by decide)) (sa_cons (se_gi W.c_MOST_TICK (by rfl) (by decide)) sa_nil (by rfl)) (by rfl)) (by rfl)) (by rfl) (by decide) (by rfl) (by rfl))))))))))))⟩
theorem ok_are_facts (W : Z mg) (h_is_fact : Has P w K mg base 3 "is_fact" ["many", "value"] [false, false] f_is_fact) (D : Fun K "are_facts" "are_facts" s_are_facts f fd) (a : mg "are_facts" = some (.ref f)) (bd : Binds K fd ["many", "value"] []) : Has P w K mg base 4 "are_facts" ["many", "value"] [false, false] f_are_facts := by
  exact Has.mk' ["many", "value", "fact"] ["many", "value"] [false, false] b_are_facts D sc_are_facts rfl (by decide) rfl a bd fun cd A out s H E calm room => ⟨_, (sb_cons (ss_if (st_w (sw_or (st_not (st_val (se_isi cTuple_ok W.z_isinstance W.z_tuple boot_isinstance boot_tuple (se_v 1 (by rfl) (by first | exact Or.inl rfl | exact Or.inr (Or.inl rfl) | exact Or.inr (Or.inr rfl)) (by decide) (by decide)) (by rfl) (by rfl) (by decide) (by decide) (by decide) (by decide) (by rfl) (by rfl) (by rfl)) (by intro _; rfl))) (sw_or1 (st_cmp op_gt sound_cmpI (se_b1 call_len sound_len W.z_len boot_len (se_v 1 (by rfl) (by first | exact Or.inl rfl | exact Or.inr (Or.inl rfl) | exact Or.inr (Or.inr rfl)) (by decide) (by decide)) (by rfl) (by decide) (by decide) (by rfl) (by rfl)) (se_gi W.c_MOST_FACTS (by rfl) (by decide)) (by exact nomark _))))) (sb_one (ss_ret se_bl)) sb_nil)
    (sb_one (ss_ret (se_b1 (cr_all rfl) sound_all W.z_all boot_all (SO.se (so_lc [("fact", 2)] sc_are_facts.nd (si_seq (se_v 1 (by rfl) (by first | exact Or.inl rfl | exact Or.inr (Or.inl rfl) | exact Or.inr (Or.inr rfl)) (by decide) (by decide))) (fun _ _ _ _ _ => ⟨_, (sg_name 2 sc_are_facts.nd (by rfl) (by first | exact Or.inl rfl | exact Or.inr rfl) (by decide) (by first | exact Or.inl rfl | exact Or.inr rfl))⟩) (fun _ _ _ _ _ => ⟨_, (se_call h_is_fact calm room (by decide) (sa_cons (se_v 0 (by rfl) (by first | exact Or.inl rfl | exact Or.inr (Or.inl rfl) | exact Or.inr (Or.inr rfl)) (by decide) (by decide)) (sa_cons (se_v 2 (by rfl) (by first | exact Or.inl rfl | exact Or.inr (Or.inl rfl) | exact Or.inr (Or.inr rfl)) (by decide) (by decide)) sa_nil (by rfl)) (by rfl)) (by rfl) (by decide) (by rfl) (by rfl))⟩) (by rfl) (by first | rfl | decide +kernel) (by intro _; rfl))) (by rfl) (by decide) (by decide) (by rfl) (by rfl)))))⟩
theorem ok_check_facts (W : Z mg) (h_are_facts : Has P w K mg base 4 "are_facts" ["many", "value"] [false, false] f_are_facts) (h_is_between : Has P w K mg base 2 "is_between" ["value", "low", "high"] [false, false, false] f_is_between) (D : Fun K "check_facts" "check_facts" s_check_facts f fd) (a : mg "check_facts" = some (.ref f)) (bd : Binds K fd ["many", "facts"] []) : Has P w K mg base 5 "check_facts" ["many", "facts"] [false, false] f_check_facts := by
  exact Has.mk' ["many", "facts"] ["many", "facts"] [false, false] b_check_facts D sc_check_facts rfl (by decide) rfl a bd fun cd A out s H E calm room => ⟨_, (sb_cons (ss_if (st_not (st_val (se_call h_is_between calm room (by decide) (sa_cons (se_v 0 (by rfl) (by first | exact Or.inl rfl | exact Or.inr (Or.inl rfl) | exact Or.inr (Or.inr rfl)) (by decide) (by decide)) (sa_cons se_int (sa_cons (se_gi W.c_MOST_SITES (by rfl) (by decide)) sa_nil (by rfl)) (by rfl)) (by rfl)) (by rfl) (by decide) (by rfl) (by rfl)) (by intro _; rfl))) sb_never sb_nil)
    (sb_one (ss_if (st_not (st_val (se_call h_are_facts calm room (by decide) (sa_cons (se_v 0 (by rfl) (by first | exact Or.inl rfl | exact Or.inr (Or.inl rfl) | exact Or.inr (Or.inr rfl)) (by decide) (by decide)) (sa_cons (se_v 1 (by rfl) (by first | exact Or.inl rfl | exact Or.inr (Or.inl rfl) | exact Or.inr (Or.inr rfl)) (by decide) (by decide)) sa_nil (by rfl)) (by rfl)) (by rfl) (by decide) (by rfl) (by rfl)) (by intro _; rfl))) sb_never sb_nil)))⟩
theorem ok_are_clocks (W : Z mg) (h_are_kept : Has P w K mg base 2 "are_kept" ["many", "facts", "value"] [false, false, false] f_are_kept) (h_check_facts : Has P w K mg base 5 "check_facts" ["many", "facts"] [false, false] f_check_facts) (D : Fun K "are_clocks" "are_clocks" s_are_clocks f fd) (a : mg "are_clocks" = some (.ref f)) (bd : Binds K fd ["many", "facts", "value"] []) : Has P w K mg base 6 "are_clocks" ["many", "facts", "value"] [false, false, false] f_are_clocks := by
  exact Has.mk' ["many", "facts", "value"] ["many", "facts", "value"] [false, false, false] b_are_clocks D sc_are_clocks rfl (by decide) rfl a bd fun cd A out s H E calm room => ⟨_, (sb_cons (ss_expr (se_call h_check_facts calm room (by decide) (sa_cons (se_v 0 (by rfl) (by first | exact Or.inl rfl | exact Or.inr (Or.inl rfl) | exact Or.inr (Or.inr rfl)) (by decide) (by decide)) (sa_cons (se_v 1 (by rfl) (by first | exact Or.inl rfl | exact Or.inr (Or.inl rfl) | exact Or.inr (Or.inr rfl)) (by decide) (by decide)) sa_nil (by rfl)) (by rfl)) (by rfl) (by decide) (by rfl) (by rfl)) (by rfl))
    (sb_one (ss_ret (se_call h_are_kept calm room (by decide) (sa_cons (se_v 0 (by rfl) (by first | exact Or.inl rfl | exact Or.inr (Or.inl rfl) | exact Or.inr (Or.inr rfl)) (by decide) (by decide)) (sa_cons (se_v 1 (by rfl) (by first | exact Or.inl rfl | exact Or.inr (Or.inl rfl) | exact Or.inr (Or.inr rfl)) (by decide) (by decide)) (sa_cons (se_v 2 (by rfl) (by first | exact Or.inl rfl | exact Or.inr (Or.inl rfl) | exact Or.inr (Or.inr rfl)) (by decide) (by decide)) sa_nil (by rfl)) (by rfl)) (by rfl)) (by rfl) (by decide) (by rfl) (by rfl)))))⟩
theorem ok__law_bound (W : Z mg)  (D : Fun K "_law_bound" "_law_bound" s__law_bound f fd) (a : mg "_law_bound" = some (.ref f)) (bd : Binds K fd ["number", "low_v", "high_v"] []) : Has P w K mg base 1 "_law_bound" ["number", "low_v", "high_v"] [false, false, false] f__law_bound := by
  exact Has.mk' ["number", "low_v", "high_v"] ["number", "low_v", "high_v"] [false, false, false] b__law_bound D sc__law_bound rfl (by decide) rfl a bd fun cd A out s H E calm room => ⟨_, (sb_cons (ss_if (st_w (sw_and (st_cmp op_notN sound_notN (se_v 1 (by rfl) (by first | exact Or.inl rfl | exact Or.inr (Or.inl rfl) | exact Or.inr (Or.inr rfl)) (by decide) (by decide)) se_non (by exact nomark _)) (sw_and1 (st_cmp op_lt sound_cmpI (se_v 0 (by rfl) (by first | exact Or.inl rfl | exact Or.inr (Or.inl rfl) | exact Or.inr (Or.inr rfl)) (by decide) (by decide)) (se_v 1 (by rfl) (by first | exact Or.inl rfl | exact Or.inr (Or.inl rfl) | exact Or.inr (Or.inr rfl)) (by decide) (by decide)) (by exact nomark _))))) (sb_one (ss_ret (se_v 1 (by rfl) (by first | exact Or.inl rfl | exact Or.inr (Or.inl rfl) | exact Or.inr (Or.inr rfl)) (by decide) (by decide)))) sb_nil)
    (sb_one (ss_ret (se_if (st_w (sw_and (st_cmp op_notN sound_notN (se_v 2 (by rfl) (by first | exact Or.inl rfl | exact Or.inr (Or.inl rfl) | exact Or.inr (Or.inr rfl)) (by decide) (by decide)) se_non (by exact nomark _)) (sw_and1 (st_cmp op_gt sound_cmpI (se_v 0 (by rfl) (by first | exact Or.inl rfl | exact Or.inr (Or.inl rfl) | exact Or.inr (Or.inr rfl)) (by decide) (by decide)) (se_v 2 (by rfl) (by first | exact Or.inl rfl | exact Or.inr (Or.inl rfl) | exact Or.inr (Or.inr rfl)) (by decide) (by decide)) (by exact nomark _))))) (se_v 2 (by rfl) (by first | exact Or.inl rfl | exact Or.inr (Or.inl rfl) | exact Or.inr (Or.inr rfl)) (by decide) (by decide)) (se_v 0 (by rfl) (by first | exact Or.inl rfl | exact Or.inr (Or.inl rfl) | exact Or.inr (Or.inr rfl)) (by decide) (by decide))))))⟩
theorem ok_nearest (W : Z mg)  (D : Fun K "nearest" "nearest" s_nearest f fd) (a : mg "nearest" = some (.ref f)) (bd : Binds K fd ["least", "greatest"] []) : Has P w K mg base 1 "nearest" ["least", "greatest"] [false, false] f_nearest := by
  exact Has.mk' ["least", "greatest"] ["least", "greatest"] [false, false] b_nearest D sc_nearest rfl (by decide) rfl a bd fun cd A out s H E calm room => ⟨_, (sb_cons (ss_if (st_w (sw_and (st_cmp op_notN sound_notN (se_v 0 (by rfl) (by first | exact Or.inl rfl | exact Or.inr (Or.inl rfl) | exact Or.inr (Or.inr rfl)) (by decide) (by decide)) se_non (by exact nomark _)) (sw_and1 (st_cmp op_gt sound_cmpI (se_v 0 (by rfl) (by first | exact Or.inl rfl | exact Or.inr (Or.inl rfl) | exact Or.inr (Or.inr rfl)) (by decide) (by decide)) se_int (by exact nomark _))))) (sb_one (ss_ret (se_v 0 (by rfl) (by first | exact Or.inl rfl | exact Or.inr (Or.inl rfl) | exact Or.inr (Or.inr rfl)) (by decide) (by decide)))) sb_nil)
    (sb_one (ss_ret (se_if (st_w (sw_and (st_cmp op_notN sound_notN (se_v 1 (by rfl) (by first | exact Or.inl rfl | exact Or.inr (Or.inl rfl) | exact Or.inr (Or.inr rfl)) (by decide) (by decide)) se_non (by exact nomark _)) (sw_and1 (st_cmp op_lt sound_cmpI (se_v 1 (by rfl) (by first | exact Or.inl rfl | exact Or.inr (Or.inl rfl) | exact Or.inr (Or.inr rfl)) (by decide) (by decide)) se_int (by exact nomark _))))) (se_v 1 (by rfl) (by first | exact Or.inl rfl | exact Or.inr (Or.inl rfl) | exact Or.inr (Or.inr rfl)) (by decide) (by decide)) se_int))))⟩
theorem ok_lesser (W : Z mg)  (D : Fun K "lesser" "lesser" s_lesser f fd) (a : mg "lesser" = some (.ref f)) (bd : Binds K fd ["one", "other"] []) : Has P w K mg base 1 "lesser" ["one", "other"] [false, false] f_lesser := by
  exact Has.mk' ["one", "other"] ["one", "other"] [false, false] b_lesser D sc_lesser rfl (by decide) rfl a bd fun cd A out s H E calm room => ⟨_, (sb_cons (ss_if (st_w (sw_or (st_cmp op_isN sound_isN (se_v 0 (by rfl) (by first | exact Or.inl rfl | exact Or.inr (Or.inl rfl) | exact Or.inr (Or.inr rfl)) (by decide) (by decide)) se_non (by exact nomark _)) (sw_or1 (st_cmp op_isN sound_isN (se_v 1 (by rfl) (by first | exact Or.inl rfl | exact Or.inr (Or.inl rfl) | exact Or.inr (Or.inr rfl)) (by decide) (by decide)) se_non (by exact nomark _))))) (sb_one (ss_ret (se_if (st_cmp op_isN sound_isN (se_v 0 (by rfl) (by first | exact Or.inl rfl | exact Or.inr (Or.inl rfl) | exact Or.inr (Or.inr rfl)) (by decide) (by decide)) se_non (by exact nomark _)) (se_v 1 (by rfl) (by first | exact Or.inl rfl | exact Or.inr (Or.inl rfl) | exact Or.inr (Or.inr rfl)) (by decide) (by decide)) (se_v 0 (by rfl) (by first | exact Or.inl rfl | exact Or.inr (Or.inl rfl) | exact Or.inr (Or.inr rfl)) (by decide) (by decide))))) sb_nil)
    (sb_one (ss_ret (se_b2 (call_min2 rfl) sound_min2 W.z_min boot_min (se_v 0 (by rfl) (by first | exact Or.inl rfl | exact Or.inr (Or.inl rfl) | exact Or.inr (Or.inr rfl)) (by decide) (by decide)) (se_v 1 (by rfl) (by first | exact Or.inl rfl | exact Or.inr (Or.inl rfl) | exact Or.inr (Or.inr rfl)) (by decide) (by decide)) (by rfl) (by decide) (by decide) (by rfl) (by rfl) (by rfl)))))⟩
theorem ok_together (W : Z mg)  (D : Fun K "together" "together" s_together f fd) (a : mg "together" = some (.ref f)) (bd : Binds K fd ["one", "other"] []) : Has P w K mg base 1 "together" ["one", "other"] [false, false] f_together := by
  exact Has.mk' ["one", "other"] ["one", "other"] [false, false] b_together D sc_together rfl (by decide) rfl a bd fun cd A out s H E calm room => ⟨_, (sb_one (ss_ret (se_if (st_w (sw_or (st_cmp op_isN sound_isN (se_v 0 (by rfl) (by first | exact Or.inl rfl | exact Or.inr (Or.inl rfl) | exact Or.inr (Or.inr rfl)) (by decide) (by decide)) se_non (by exact nomark _)) (sw_or1 (st_cmp op_isN sound_isN (se_v 1 (by rfl) (by first | exact Or.inl rfl | exact Or.inr (Or.inl rfl) | exact Or.inr (Or.inr rfl)) (by decide) (by decide)) se_non (by exact nomark _))))) se_non (se_op op_addA sound_add (se_v 0 (by rfl) (by first | exact Or.inl rfl | exact Or.inr (Or.inl rfl) | exact Or.inr (Or.inr rfl)) (by decide) (by decide)) (se_v 1 (by rfl) (by first | exact Or.inl rfl | exact Or.inr (Or.inl rfl) | exact Or.inr (Or.inr rfl)) (by decide) (by decide))))))⟩
theorem ok_low (W : Z mg)  (D : Fun K "low" "low" s_low f fd) (a : mg "low" = some (.ref f)) (bd : Binds K fd ["known", "one", "other"] []) : Has P w K mg base 1 "low" ["known", "one", "other"] [false, false, false] f_low := by
  exact Has.mk' ["known", "one", "other", "back"] ["known", "one", "other"] [false, false, false] b_low D sc_low rfl (by decide) rfl a bd fun cd A out s H E calm room => ⟨_, (sb_cons (ss_set 3 sc_low.nd (se_get1 (room64 room) (se_v 0 (by rfl) (by first | exact Or.inl rfl | exact Or.inr (Or.inl rfl) | exact Or.inr (Or.inr rfl)) (by decide) (by decide)) (se_tup (sa_cons (se_v 2 (by rfl) (by first | exact Or.inl rfl | exact Or.inr (Or.inl rfl) | exact Or.inr (Or.inr rfl)) (by decide) (by decide)) (sa_cons (se_v 1 (by rfl) (by first | exact Or.inl rfl | exact Or.inr (Or.inl rfl) | exact Or.inr (Or.inr rfl)) (by decide) (by decide)) sa_nil (by rfl)) (by rfl))) (by exact ⟨rfl, rfl, rfl, rfl⟩)) (by rfl) (by first | exact Or.inl rfl | exact Or.inr rfl) (by rfl) (by first | exact Or.inl rfl | exact Or.inr rfl))
    (sb_one (ss_ret (se_if (st_cmp op_isN sound_isN (se_v 3 (by rfl) (by first | exact Or.inl rfl | exact Or.inr (Or.inl rfl) | exact Or.inr (Or.inr rfl)) (by decide) (by decide)) se_non (by exact nomark _)) se_non (se_un un_neg sound_neg (se_v 3 (by rfl) (by first | exact Or.inl rfl | exact Or.inr (Or.inl rfl) | exact Or.inr (Or.inr rfl)) (by decide) (by decide)))))))⟩
theorem ok_high (W : Z mg)  (D : Fun K "high" "high" s_high f fd) (a : mg "high" = some (.ref f)) (bd : Binds K fd ["known", "one", "other"] []) : Has P w K mg base 1 "high" ["known", "one", "other"] [false, false, false] f_high := by
  exact Has.mk' ["known", "one", "other"] ["known", "one", "other"] [false, false, false] b_high D sc_high rfl (by decide) rfl a bd fun cd A out s H E calm room => ⟨_, (sb_one (ss_ret (se_get1 (room64 room) (se_v 0 (by rfl) (by first | exact Or.inl rfl | exact Or.inr (Or.inl rfl) | exact Or.inr (Or.inr rfl)) (by decide) (by decide)) (se_tup (sa_cons (se_v 1 (by rfl) (by first | exact Or.inl rfl | exact Or.inr (Or.inl rfl) | exact Or.inr (Or.inr rfl)) (by decide) (by decide)) (sa_cons (se_v 2 (by rfl) (by first | exact Or.inl rfl | exact Or.inr (Or.inl rfl) | exact Or.inr (Or.inr rfl)) (by decide) (by decide)) sa_nil (by rfl)) (by rfl))) (by exact ⟨rfl, rfl, rfl, rfl⟩))))⟩
theorem ok_ends_by (W : Z mg) (h_lesser : Has P w K mg base 1 "lesser" ["one", "other"] [false, false] f_lesser) (h_together : Has P w K mg base 1 "together" ["one", "other"] [false, false] f_together) (h_low : Has P w K mg base 1 "low" ["known", "one", "other"] [false, false, false] f_low) (h_high : Has P w K mg base 1 "high" ["known", "one", "other"] [false, false, false] f_high) (D : Fun K "ends_by" "ends_by" s_ends_by f fd) (a : mg "ends_by" = some (.ref f)) (bd : Binds K fd ["known", "told", "other"] []) : Has P w K mg base 2 "ends_by" ["known", "told", "other"] [false, false, false] f_ends_by := by
  exact Has.mk' ["known", "told", "other", "least", "greatest", "site", "offset", "top", "bottom"] ["known", "told", "other"] [false, false, false] b_ends_by D sc_ends_by rfl (by decide) rfl a bd fun cd A out s H E calm room => ⟨_, (sb_cons (ss_asg (se_tup (sa_cons se_non (sa_cons se_non sa_nil (by rfl)) (by rfl))) (sg_tup rfl (sgs_cons (sg_name (vs := [3, 4]) 3 sc_ends_by.nd (by rfl) (by first | exact Or.inl rfl | exact Or.inr rfl) (by decide) (by first | exact Or.inl rfl | exact Or.inr rfl)) (sgs_cons (sg_name (vs := [3, 4]) 4 sc_ends_by.nd (by rfl) (by first | exact Or.inl rfl | exact Or.inr rfl) (by decide) (by first | exact Or.inl rfl | exact Or.inr rfl)) sgs_nil (by rfl)) (by rfl)) (by rfl) (by rfl)) (by rfl) (by rfl) (by rfl))
    (sb_cons (ss_for (si_itm (se_v 1 (by rfl) (by first | exact Or.inl rfl | exact Or.inr (Or.inl rfl) | exact Or.inr (Or.inr rfl)) (by decide) (by decide)) (by rfl) (by rfl)) (sg_tup rfl (sgs_cons (sg_name (vs := [5, 6]) 5 sc_ends_by.nd (by rfl) (by first | exact Or.inl rfl | exact Or.inr rfl) (by decide) (by first | exact Or.inl rfl | exact Or.inr rfl)) (sgs_cons (sg_name (vs := [5, 6]) 6 sc_ends_by.nd (by rfl) (by first | exact Or.inl rfl | exact Or.inr rfl) (by decide) (by first | exact Or.inl rfl | exact Or.inr rfl)) sgs_nil (by rfl)) (by rfl)) (by rfl) (by rfl)) (sb_cons (ss_par 7 8 sc_ends_by.nd (sm_f (se_call h_together calm room (by decide) (sa_cons (se_call h_high calm room (by decide) (sa_cons (se_v 0 (by rfl) (by first | exact Or.inl rfl | exact Or.inr (Or.inl rfl) | exact Or.inr (Or.inr rfl)) (by decide) (by decide)) (sa_cons (se_v 5 (by rfl) (by first | exact Or.inl rfl | exact Or.inr (Or.inl rfl) | exact Or.inr (Or.inr rfl)) (by decide) (by decide)) (sa_cons (se_v 2 (by rfl) (by first | exact Or.inl rfl | exact Or.inr (Or.inl rfl) | exact Or.inr (Or.inr rfl)) (by decide) (by decide)) sa_nil (by rfl)) (by rfl)) (by rfl)) (by rfl) (by decide) (by rfl) (by rfl)) (sa_cons (se_v 6 (by rfl) (by first | exact Or.inl rfl | exact Or.inr (Or.inl rfl) | exact Or.inr (Or.inr rfl)) (by decide) (by decide)) sa_nil (by rfl)) (by rfl)) (by rfl) (by decide) (by rfl) (by rfl)) (sm_f (se_call h_together calm room (by decide) (sa_cons (se_call h_low calm room (by decide) (sa_cons (se_v 0 (by rfl) (by first | exact Or.inl rfl | exact Or.inr (Or.inl rfl) | exact Or.inr (Or.inr rfl)) (by decide) (by decide)) (sa_cons (se_v 5 (by rfl) (by first | exact Or.inl rfl | exact Or.inr (Or.inl rfl) | exact Or.inr (Or.inr rfl)) (by decide) (by decide)) (sa_cons (se_v 2 (by rfl) (by first | exact Or.inl rfl | exact Or.inr (Or.inl rfl) | exact Or.inr (Or.inr rfl)) (by decide) (by decide)) sa_nil (by rfl)) (by rfl)) (by rfl)) (by rfl) (by decide) (by rfl) (by rfl)) (sa_cons (se_v 6 (by rfl) (by first | exact Or.inl rfl | exact Or.inr (Or.inl rfl) | exact Or.inr (Or.inr rfl)) (by decide) (by decide)) sa_nil (by rfl)) (by rfl)) (by rfl) (by decide) (by rfl) (by rfl)) sm_nil (by rfl)) (by rfl)) (by rfl) (by rfl) (by rfl) (by decide) (by rfl) (by rfl) (by rfl) (by rfl))
    (sb_cons (ss_set 4 sc_ends_by.nd (se_call h_lesser calm room (by decide) (sa_cons (se_v 4 (by rfl) (by first | exact Or.inl rfl | exact Or.inr (Or.inl rfl) | exact Or.inr (Or.inr rfl)) (by decide) (by decide)) (sa_cons (se_v 7 (by rfl) (by first | exact Or.inl rfl | exact Or.inr (Or.inl rfl) | exact Or.inr (Or.inr rfl)) (by decide) (by decide)) sa_nil (by rfl)) (by rfl)) (by rfl) (by decide) (by rfl) (by rfl)) (by rfl) (by first | exact Or.inl rfl | exact Or.inr rfl) (by rfl) (by first | exact Or.inl rfl | exact Or.inr rfl))
    (sb_one (ss_if (st_w (sw_and (st_cmp op_notN sound_notN (se_v 8 (by rfl) (by first | exact Or.inl rfl | exact Or.inr (Or.inl rfl) | exact Or.inr (Or.inr rfl)) (by decide) (by decide)) se_non (by exact nomark _)) (sw_and1 (st_w (sw_or (st_cmp op_isN sound_isN (se_v 3 (by rfl) (by first | exact Or.inl rfl | exact Or.inr (Or.inl rfl) | exact Or.inr (Or.inr rfl)) (by decide) (by decide)) se_non (by exact nomark _)) (sw_or1 (st_cmp op_gt sound_cmpI (se_v 8 (by rfl) (by first | exact Or.inl rfl | exact Or.inr (Or.inl rfl) | exact Or.inr (Or.inr rfl)) (by decide) (by decide)) (se_v 3 (by rfl) (by first | exact Or.inl rfl | exact Or.inr (Or.inl rfl) | exact Or.inr (Or.inr rfl)) (by decide) (by decide)) (by exact nomark _)))))))) (sb_one (ss_set 3 sc_ends_by.nd (se_v 8 (by rfl) (by first | exact Or.inl rfl | exact Or.inr (Or.inl rfl) | exact Or.inr (Or.inr rfl)) (by decide) (by decide)) (by rfl) (by first | exact Or.inl rfl | exact Or.inr rfl) (by rfl) (by first | exact Or.inl rfl | exact Or.inr rfl))) sb_nil)))) (by exact PassesOwn.never) (by rfl) (by intro _; rfl))
    (sb_one (ss_ret (se_tup (sa_cons (se_v 3 (by rfl) (by first | exact Or.inl rfl | exact Or.inr (Or.inl rfl) | exact Or.inr (Or.inr rfl)) (by decide) (by decide)) (sa_cons (se_v 4 (by rfl) (by first | exact Or.inl rfl | exact Or.inr (Or.inl rfl) | exact Or.inr (Or.inr rfl)) (by decide) (by decide)) sa_nil (by rfl)) (by rfl)))))))⟩
theorem ok_are_within (W : Z mg) (h_ends_by : Has P w K mg base 2 "ends_by" ["known", "told", "other"] [false, false, false] f_ends_by) (D : Fun K "are_within" "are_within" s_are_within f fd) (a : mg "are_within" = some (.ref f)) (bd : Binds K fd ["known", "told", "site", "offset"] []) : Has P w K mg base 3 "are_within" ["known", "told", "site", "offset"] [false, false, false, false] f_are_within := by
  exact Has.mk' ["known", "told", "site", "offset", "least", "greatest"] ["known", "told", "site", "offset"] [false, false, false, false] b_are_within D sc_are_within rfl (by decide) rfl a bd fun cd A out s H E calm room => ⟨_, (sb_cons (ss_asg (se_call h_ends_by calm room (by decide) (sa_cons (se_v 0 (by rfl) (by first | exact Or.inl rfl | exact Or.inr (Or.inl rfl) | exact Or.inr (Or.inr rfl)) (by decide) (by decide)) (sa_cons (se_v 1 (by rfl) (by first | exact Or.inl rfl | exact Or.inr (Or.inl rfl) | exact Or.inr (Or.inr rfl)) (by decide) (by decide)) (sa_cons (se_v 2 (by rfl) (by first | exact Or.inl rfl | exact Or.inr (Or.inl rfl) | exact Or.inr (Or.inr rfl)) (by decide) (by decide)) sa_nil (by rfl)) (by rfl)) (by rfl)) (by rfl) (by decide) (by rfl) (by rfl)) (sg_tup rfl (sgs_cons (sg_name (vs := [4, 5]) 4 sc_are_within.nd (by rfl) (by first | exact Or.inl rfl | exact Or.inr rfl) (by decide) (by first | exact Or.inl rfl | exact Or.inr rfl)) (sgs_cons (sg_name (vs := [4, 5]) 5 sc_are_within.nd (by rfl) (by first | exact Or.inl rfl | exact Or.inr rfl) (by decide) (by first | exact Or.inl rfl | exact Or.inr rfl)) sgs_nil (by rfl)) (by rfl)) (by rfl) (by rfl)) (by rfl) (by rfl) (by rfl))
    (sb_one (ss_ret (se_and (se_or (se_cmp op_isN sound_isN (se_v 4 (by rfl) (by first | exact Or.inl rfl | exact Or.inr (Or.inl rfl) | exact Or.inr (Or.inr rfl)) (by decide) (by decide)) se_non (by exact nomark _)) (se_one (se_cmp op_le sound_cmpI (se_v 4 (by rfl) (by first | exact Or.inl rfl | exact Or.inr (Or.inl rfl) | exact Or.inr (Or.inr rfl)) (by decide) (by decide)) (se_v 3 (by rfl) (by first | exact Or.inl rfl | exact Or.inr (Or.inl rfl) | exact Or.inr (Or.inr rfl)) (by decide) (by decide)) (by exact nomark _)))) (se_one (se_or (se_cmp op_isN sound_isN (se_v 5 (by rfl) (by first | exact Or.inl rfl | exact Or.inr (Or.inl rfl) | exact Or.inr (Or.inr rfl)) (by decide) (by decide)) se_non (by exact nomark _)) (se_one (se_cmp op_le sound_cmpI (se_v 3 (by rfl) (by first | exact Or.inl rfl | exact Or.inr (Or.inl rfl) | exact Or.inr (Or.inr rfl)) (by decide) (by decide)) (se_v 5 (by rfl) (by first | exact Or.inl rfl | exact Or.inr (Or.inl rfl) | exact Or.inr (Or.inr rfl)) (by decide) (by decide)) (by exact nomark _)))))))))⟩
theorem ok_sides_of (W : Z mg)  (D : Fun K "sides_of" "sides_of" s_sides_of f fd) (a : mg "sides_of" = some (.ref f)) (bd : Binds K fd ["facts"] []) : Has P w K mg base 1 "sides_of" ["facts"] [false] f_sides_of := by
  exact Has.mk' ["facts", "found", "number", "one", "left", "other", "came", "least", "most"] ["facts"] [false] b_sides_of D sc_sides_of rfl (by decide) rfl a bd fun cd A out s H E calm room => ⟨_, (sb_cons (ss_setO 1 sc_sides_of.nd (so_lst sa_nil) (by rfl) (by first | exact Or.inl rfl | exact Or.inr rfl) (by rfl) (by first | exact Or.inl rfl | exact Or.inr rfl))
    (sb_cons (ss_for (si_enm W.z_enumerate (se_v 0 (by rfl) (by first | exact Or.inl rfl | exact Or.inr (Or.inl rfl) | exact Or.inr (Or.inr rfl)) (by decide) (by decide)) (by rfl) (by rfl) (by rfl)) (sg_tup rfl (sgs_cons (sg_name (vs := [2, 3, 4, 5, 6, 7, 8]) 2 sc_sides_of.nd (by rfl) (by first | exact Or.inl rfl | exact Or.inr rfl) (by decide) (by first | exact Or.inl rfl | exact Or.inr rfl)) (sgs_cons (sg_tup rfl (sgs_cons (sg_name (vs := [2, 3, 4, 5, 6, 7, 8]) 3 sc_sides_of.nd (by rfl) (by first | exact Or.inl rfl | exact Or.inr rfl) (by decide) (by first | exact Or.inl rfl | exact Or.inr rfl)) (sgs_cons (sg_name (vs := [2, 3, 4, 5, 6, 7, 8]) 4 sc_sides_of.nd (by rfl) (by first | exact Or.inl rfl | exact Or.inr rfl) (by decide) (by first | exact Or.inl rfl | exact Or.inr rfl)) (sgs_cons (sg_name (vs := [2, 3, 4, 5, 6, 7, 8]) 5 sc_sides_of.nd (by rfl) (by first | exact Or.inl rfl | exact Or.inr rfl) (by decide) (by first | exact Or.inl rfl | exact Or.inr rfl)) (sgs_cons (sg_name (vs := [2, 3, 4, 5, 6, 7, 8]) 6 sc_sides_of.nd (by rfl) (by first | exact Or.inl rfl | exact Or.inr rfl) (by decide) (by first | exact Or.inl rfl | exact Or.inr rfl)) (sgs_cons (sg_name (vs := [2, 3, 4, 5, 6, 7, 8]) 7 sc_sides_of.nd (by rfl) (by first | exact Or.inl rfl | exact Or.inr rfl) (by decide) (by first | exact Or.inl rfl | exact Or.inr rfl)) (sgs_cons (sg_name (vs := [2, 3, 4, 5, 6, 7, 8]) 8 sc_sides_of.nd (by rfl) (by first | exact Or.inl rfl | exact Or.inr rfl) (by decide) (by first | exact Or.inl rfl | exact Or.inr rfl)) sgs_nil (by rfl)) (by rfl)) (by rfl)) (by rfl)) (by rfl)) (by rfl)) (by rfl) (by rfl)) sgs_nil (by rfl)) (by rfl)) (by rfl) (by rfl)) (sb_cons (ss_app (se_v 1 (by rfl) (by first | exact Or.inl rfl | exact Or.inr (Or.inl rfl) | exact Or.inr (Or.inr rfl)) (by decide) (by decide)) (se_tup (sa_cons (se_v 2 (by rfl) (by first | exact Or.inl rfl | exact Or.inr (Or.inl rfl) | exact Or.inr (Or.inr rfl)) (by decide) (by decide)) (sa_cons (se_gs W.c_LEAST (by rfl) (by decide)) (sa_cons (se_v 3 (by rfl) (by first | exact Or.inl rfl | exact Or.inr (Or.inl rfl) | exact Or.inr (Or.inr rfl)) (by decide) (by decide)) (sa_cons (se_v 5 (by rfl) (by first | exact Or.inl rfl | exact Or.inr (Or.inl rfl) | exact Or.inr (Or.inr rfl)) (by decide) (by decide)) (sa_cons (se_op op_sub sound_sub (se_op op_sub sound_sub (se_v 6 (by rfl) (by first | exact Or.inl rfl | exact Or.inr (Or.inl rfl) | exact Or.inr (Or.inr rfl)) (by decide) (by decide)) (se_v 4 (by rfl) (by first | exact Or.inl rfl | exact Or.inr (Or.inl rfl) | exact Or.inr (Or.inr rfl)) (by decide) (by decide))) (se_v 7 (by rfl) (by first | exact Or.inl rfl | exact Or.inr (Or.inl rfl) | exact Or.inr (Or.inr rfl)) (by decide) (by decide))) sa_nil (by rfl)) (by rfl)) (by rfl)) (by rfl)) (by rfl))) (by rfl) (by rfl) (by rfl) (by rfl) (by rfl) (by rfl))
    (sb_one (ss_if (st_cmp op_notN sound_notN (se_v 8 (by rfl) (by first | exact Or.inl rfl | exact Or.inr (Or.inl rfl) | exact Or.inr (Or.inr rfl)) (by decide) (by decide)) se_non (by exact nomark _)) (sb_one (ss_app (se_v 1 (by rfl) (by first | exact Or.inl rfl | exact Or.inr (Or.inl rfl) | exact Or.inr (Or.inr rfl)) (by decide) (by decide)) (se_tup (sa_cons (se_v 2 (by rfl) (by first | exact Or.inl rfl | exact Or.inr (Or.inl rfl) | exact Or.inr (Or.inr rfl)) (by decide) (by decide)) (sa_cons (se_gs W.c_MOST (by rfl) (by decide)) (sa_cons (se_v 5 (by rfl) (by first | exact Or.inl rfl | exact Or.inr (Or.inl rfl) | exact Or.inr (Or.inr rfl)) (by decide) (by decide)) (sa_cons (se_v 3 (by rfl) (by first | exact Or.inl rfl | exact Or.inr (Or.inl rfl) | exact Or.inr (Or.inr rfl)) (by decide) (by decide)) (sa_cons (se_op op_addA sound_add (se_op op_sub sound_sub (se_v 8 (by rfl) (by first | exact Or.inl rfl | exact Or.inr (Or.inl rfl) | exact Or.inr (Or.inr rfl)) (by decide) (by decide)) (se_v 6 (by rfl) (by first | exact Or.inl rfl | exact Or.inr (Or.inl rfl) | exact Or.inr (Or.inr rfl)) (by decide) (by decide))) (se_v 4 (by rfl) (by first | exact Or.inl rfl | exact Or.inr (Or.inl rfl) | exact Or.inr (Or.inr rfl)) (by decide) (by decide))) sa_nil (by rfl)) (by rfl)) (by rfl)) (by rfl)) (by rfl))) (by rfl) (by rfl) (by rfl) (by rfl) (by rfl) (by rfl))) sb_nil))) (by exact PassesOwn.never) (by rfl) (by intro _; rfl))
    (sb_one (ss_ret (se_v 1 (by rfl) (by first | exact Or.inl rfl | exact Or.inr (Or.inl rfl) | exact Or.inr (Or.inr rfl)) (by decide) (by decide))))))⟩
theorem ok_highs (W : Z mg) (h_lesser : Has P w K mg base 1 "lesser" ["one", "other"] [false, false] f_lesser) (h_together : Has P w K mg base 1 "together" ["one", "other"] [false, false] f_together) (h_sides_of : Has P w K mg base 1 "sides_of" ["facts"] [false] f_sides_of) (D : Fun K "highs" "highs" s_highs f fd) (a : mg "highs" = some (.ref f)) (bd : Binds K fd ["many", "facts"] []) : Has P w K mg base 2 "highs" ["many", "facts"] [false, false] f_highs := by
  exact Has.mk' ["many", "facts", "found", "number", "word", "begin", "end", "weight", "middle", "ahead", "total", "site"] ["many", "facts"] [false, false] b_highs D sc_highs rfl (by decide) rfl a bd fun cd A out s H E calm room => ⟨_, (sb_cons (ss_setDc 2 [("site", 11)] sc_highs.nd (room0 room) (si_r1 W.z_range (sa_cons (se_v 0 (by rfl) (by first | exact Or.inl rfl | exact Or.inr (Or.inl rfl) | exact Or.inr (Or.inr rfl)) (by decide) (by decide)) sa_nil (by rfl)) (by rfl) (by rfl)) (fun _ _ _ _ _ => ⟨_, (sg_name 11 sc_highs.nd (by rfl) (by first | exact Or.inl rfl | exact Or.inr rfl) (by decide) (by first | exact Or.inl rfl | exact Or.inr rfl))⟩) (fun _ _ _ _ _ => ⟨_, (sy_tup (sa_cons (se_v 11 (by rfl) (by first | exact Or.inl rfl | exact Or.inr (Or.inl rfl) | exact Or.inr (Or.inr rfl)) (by decide) (by decide)) (sa_cons (se_v 11 (by rfl) (by first | exact Or.inl rfl | exact Or.inr (Or.inl rfl) | exact Or.inr (Or.inr rfl)) (by decide) (by decide)) sa_nil (by rfl)) (by rfl)))⟩) (fun _ _ _ _ _ => ⟨_, se_int⟩) (by rfl) (by rfl) (by exact sw_trueD rfl rfl rfl rfl) (by rfl) (by first | rfl | decide +kernel) (by intro _; rfl))
    (sb_cons (ss_for (si_seq (se_call h_sides_of calm room (by decide) (sa_cons (se_v 1 (by rfl) (by first | exact Or.inl rfl | exact Or.inr (Or.inl rfl) | exact Or.inr (Or.inr rfl)) (by decide) (by decide)) sa_nil (by rfl)) (by rfl) (by decide) (by rfl) (by rfl))) (sg_tup rfl (sgs_cons (sg_name (vs := [3, 4, 5, 6, 7]) 3 sc_highs.nd (by rfl) (by first | exact Or.inl rfl | exact Or.inr rfl) (by decide) (by first | exact Or.inl rfl | exact Or.inr rfl)) (sgs_cons (sg_name (vs := [3, 4, 5, 6, 7]) 4 sc_highs.nd (by rfl) (by first | exact Or.inl rfl | exact Or.inr rfl) (by decide) (by first | exact Or.inl rfl | exact Or.inr rfl)) (sgs_cons (sg_name (vs := [3, 4, 5, 6, 7]) 5 sc_highs.nd (by rfl) (by first | exact Or.inl rfl | exact Or.inr rfl) (by decide) (by first | exact Or.inl rfl | exact Or.inr rfl)) (sgs_cons (sg_name (vs := [3, 4, 5, 6, 7]) 6 sc_highs.nd (by rfl) (by first | exact Or.inl rfl | exact Or.inr rfl) (by decide) (by first | exact Or.inl rfl | exact Or.inr rfl)) (sgs_cons (sg_name (vs := [3, 4, 5, 6, 7]) 7 sc_highs.nd (by rfl) (by first | exact Or.inl rfl | exact Or.inr rfl) (by decide) (by first | exact Or.inl rfl | exact Or.inr rfl)) sgs_nil (by rfl)) (by rfl)) (by rfl)) (by rfl)) (by rfl)) (by rfl) (by rfl)) (sb_one (ss_put (room64 room) (se_call h_lesser calm room (by decide) (sa_cons (se_get1 (room64 room) (se_v 2 (by rfl) (by first | exact Or.inl rfl | exact Or.inr (Or.inl rfl) | exact Or.inr (Or.inr rfl)) (by decide) (by decide)) (se_tup (sa_cons (se_v 5 (by rfl) (by first | exact Or.inl rfl | exact Or.inr (Or.inl rfl) | exact Or.inr (Or.inr rfl)) (by decide) (by decide)) (sa_cons (se_v 6 (by rfl) (by first | exact Or.inl rfl | exact Or.inr (Or.inl rfl) | exact Or.inr (Or.inr rfl)) (by decide) (by decide)) sa_nil (by rfl)) (by rfl))) (by exact ⟨rfl, rfl, rfl, rfl⟩)) (sa_cons (se_v 7 (by rfl) (by first | exact Or.inl rfl | exact Or.inr (Or.inl rfl) | exact Or.inr (Or.inr rfl)) (by decide) (by decide)) sa_nil (by rfl)) (by rfl)) (by rfl) (by decide) (by rfl) (by rfl)) (se_v 2 (by rfl) (by first | exact Or.inl rfl | exact Or.inr (Or.inl rfl) | exact Or.inr (Or.inr rfl)) (by decide) (by decide)) (sy_tup (sa_cons (se_v 5 (by rfl) (by first | exact Or.inl rfl | exact Or.inr (Or.inl rfl) | exact Or.inr (Or.inr rfl)) (by decide) (by decide)) (sa_cons (se_v 6 (by rfl) (by first | exact Or.inl rfl | exact Or.inr (Or.inl rfl) | exact Or.inr (Or.inr rfl)) (by decide) (by decide)) sa_nil (by rfl)) (by rfl))) (by rfl))) (by exact PassesOwn.never) (by rfl) (by intro _; rfl))
    (sb_cons (ss_for (si_r1 W.z_range (sa_cons (se_v 0 (by rfl) (by first | exact Or.inl rfl | exact Or.inr (Or.inl rfl) | exact Or.inr (Or.inr rfl)) (by decide) (by decide)) sa_nil (by rfl)) (by rfl) (by rfl)) (sg_name (vs := [8]) 8 sc_highs.nd (by rfl) (by first | exact Or.inl rfl | exact Or.inr rfl) (by decide) (by first | exact Or.inl rfl | exact Or.inr rfl)) (sb_one (ss_for (si_r1 W.z_range (sa_cons (se_v 0 (by rfl) (by first | exact Or.inl rfl | exact Or.inr (Or.inl rfl) | exact Or.inr (Or.inr rfl)) (by decide) (by decide)) sa_nil (by rfl)) (by rfl) (by rfl)) (sg_name (vs := [5]) 5 sc_highs.nd (by rfl) (by first | exact Or.inl rfl | exact Or.inr rfl) (by decide) (by first | exact Or.inl rfl | exact Or.inr rfl)) (sb_cons (ss_set 9 sc_highs.nd (se_get1 (room64 room) (se_v 2 (by rfl) (by first | exact Or.inl rfl | exact Or.inr (Or.inl rfl) | exact Or.inr (Or.inr rfl)) (by decide) (by decide)) (se_tup (sa_cons (se_v 5 (by rfl) (by first | exact Or.inl rfl | exact Or.inr (Or.inl rfl) | exact Or.inr (Or.inr rfl)) (by decide) (by decide)) (sa_cons (se_v 8 (by rfl) (by first | exact Or.inl rfl | exact Or.inr (Or.inl rfl) | exact Or.inr (Or.inr rfl)) (by decide) (by decide)) sa_nil (by rfl)) (by rfl))) (by exact ⟨rfl, rfl, rfl, rfl⟩)) (by rfl) (by first | exact Or.inl rfl | exact Or.inr rfl) (by rfl) (by first | exact Or.inl rfl | exact Or.inr rfl))
    (sb_one (ss_for (si_r1 W.z_range (sa_cons (se_v 0 (by rfl) (by first | exact Or.inl rfl | exact Or.inr (Or.inl rfl) | exact Or.inr (Or.inr rfl)) (by decide) (by decide)) sa_nil (by rfl)) (by rfl) (by rfl)) (sg_name (vs := [6]) 6 sc_highs.nd (by rfl) (by first | exact Or.inl rfl | exact Or.inr rfl) (by decide) (by first | exact Or.inl rfl | exact Or.inr rfl)) (sb_cons (ss_set 10 sc_highs.nd (se_call h_together calm room (by decide) (sa_cons (se_v 9 (by rfl) (by first | exact Or.inl rfl | exact Or.inr (Or.inl rfl) | exact Or.inr (Or.inr rfl)) (by decide) (by decide)) (sa_cons (se_get1 (room64 room) (se_v 2 (by rfl) (by first | exact Or.inl rfl | exact Or.inr (Or.inl rfl) | exact Or.inr (Or.inr rfl)) (by decide) (by decide)) (se_tup (sa_cons (se_v 8 (by rfl) (by first | exact Or.inl rfl | exact Or.inr (Or.inl rfl) | exact Or.inr (Or.inr rfl)) (by decide) (by decide)) (sa_cons (se_v 6 (by rfl) (by first | exact Or.inl rfl | exact Or.inr (Or.inl rfl) | exact Or.inr (Or.inr rfl)) (by decide) (by decide)) sa_nil (by rfl)) (by rfl))) (by exact ⟨rfl, rfl, rfl, rfl⟩)) sa_nil (by rfl)) (by rfl)) (by rfl) (by decide) (by rfl) (by rfl)) (by rfl) (by first | exact Or.inl rfl | exact Or.inr rfl) (by rfl) (by first | exact Or.inl rfl | exact Or.inr rfl))
    (sb_one (ss_if (st_cmp op_notN sound_notN (se_v 10 (by rfl) (by first | exact Or.inl rfl | exact Or.inr (Or.inl rfl) | exact Or.inr (Or.inr rfl)) (by decide) (by decide)) se_non (by exact nomark _)) (sb_one (ss_put (room64 room) (se_call h_lesser calm room (by decide) (sa_cons (se_get1 (room64 room) (se_v 2 (by rfl) (by first | exact Or.inl rfl | exact Or.inr (Or.inl rfl) | exact Or.inr (Or.inr rfl)) (by decide) (by decide)) (se_tup (sa_cons (se_v 5 (by rfl) (by first | exact Or.inl rfl | exact Or.inr (Or.inl rfl) | exact Or.inr (Or.inr rfl)) (by decide) (by decide)) (sa_cons (se_v 6 (by rfl) (by first | exact Or.inl rfl | exact Or.inr (Or.inl rfl) | exact Or.inr (Or.inr rfl)) (by decide) (by decide)) sa_nil (by rfl)) (by rfl))) (by exact ⟨rfl, rfl, rfl, rfl⟩)) (sa_cons (se_v 10 (by rfl) (by first | exact Or.inl rfl | exact Or.inr (Or.inl rfl) | exact Or.inr (Or.inr rfl)) (by decide) (by decide)) sa_nil (by rfl)) (by rfl)) (by rfl) (by decide) (by rfl) (by rfl)) (se_v 2 (by rfl) (by first | exact Or.inl rfl | exact Or.inr (Or.inl rfl) | exact Or.inr (Or.inr rfl)) (by decide) (by decide)) (sy_tup (sa_cons (se_v 5 (by rfl) (by first | exact Or.inl rfl | exact Or.inr (Or.inl rfl) | exact Or.inr (Or.inr rfl)) (by decide) (by decide)) (sa_cons (se_v 6 (by rfl) (by first | exact Or.inl rfl | exact Or.inr (Or.inl rfl) | exact Or.inr (Or.inr rfl)) (by decide) (by decide)) sa_nil (by rfl)) (by rfl))) (by rfl))) sb_nil))) (by exact PassesOwn.never) (by rfl) (by intro _; rfl)))) (by exact PassesOwn.never) (by rfl) (by intro _; rfl))) (by exact PassesOwn.never) (by rfl) (by intro _; rfl))
    (sb_one (ss_ret (se_v 2 (by rfl) (by first | exact Or.inl rfl | exact Or.inr (Or.inl rfl) | exact Or.inr (Or.inr rfl)) (by decide) (by decide)))))))⟩
theorem ok_check_round (W : Z mg) (h_highs : Has P w K mg base 2 "highs" ["many", "facts"] [false, false] f_highs) (D : Fun K "check_round" "check_round" s_check_round f fd) (a : mg "check_round" = some (.ref f)) (bd : Binds K fd ["many", "facts"] []) : Has P w K mg base 3 "check_round" ["many", "facts"] [false, false] f_check_round := by
  exact Has.mk' ["many", "facts", "known", "site"] ["many", "facts"] [false, false] b_check_round D sc_check_round rfl (by decide) rfl a bd fun cd A out s H E calm room => ⟨_, (sb_cons (ss_set 2 sc_check_round.nd (se_call h_highs calm room (by decide) (sa_cons (se_v 0 (by rfl) (by first | exact Or.inl rfl | exact Or.inr (Or.inl rfl) | exact Or.inr (Or.inr rfl)) (by decide) (by decide)) (sa_cons (se_v 1 (by rfl) (by first | exact Or.inl rfl | exact Or.inr (Or.inl rfl) | exact Or.inr (Or.inr rfl)) (by decide) (by decide)) sa_nil (by rfl)) (by rfl)) (by rfl) (by decide) (by rfl) (by rfl)) (by rfl) (by first | exact Or.inl rfl | exact Or.inr rfl) (by rfl) (by first | exact Or.inl rfl | exact Or.inr rfl))
    (sb_one (ss_if (st_not (st_val (se_b1 (cr_all rfl) sound_all W.z_all boot_all (SO.se (so_lc [("site", 3)] sc_check_round.nd (si_r1 W.z_range (sa_cons (se_v 0 (by rfl) (by first | exact Or.inl rfl | exact Or.inr (Or.inl rfl) | exact Or.inr (Or.inr rfl)) (by decide) (by decide)) sa_nil (by rfl)) (by rfl) (by rfl)) (fun _ _ _ _ _ => ⟨_, (sg_name 3 sc_check_round.nd (by rfl) (by first | exact Or.inl rfl | exact Or.inr rfl) (by decide) (by first | exact Or.inl rfl | exact Or.inr rfl))⟩) (fun _ _ _ _ _ => ⟨_, (se_cmp (op_eqD (room64 room)) sound_eq (se_item (room64 room) (se_v 2 (by rfl) (by first | exact Or.inl rfl | exact Or.inr (Or.inl rfl) | exact Or.inr (Or.inr rfl)) (by decide) (by decide)) (se_tup (sa_cons (se_v 3 (by rfl) (by first | exact Or.inl rfl | exact Or.inr (Or.inl rfl) | exact Or.inr (Or.inr rfl)) (by decide) (by decide)) (sa_cons (se_v 3 (by rfl) (by first | exact Or.inl rfl | exact Or.inr (Or.inl rfl) | exact Or.inr (Or.inr rfl)) (by decide) (by decide)) sa_nil (by rfl)) (by rfl))) (by exact fun _ _ => rfl)) se_int (by exact nomark _))⟩) (by rfl) (by first | rfl | decide +kernel) (by intro _; rfl))) (by rfl) (by decide) (by decide) (by rfl) (by rfl)) (by intro _; rfl))) sb_never sb_nil)))⟩
theorem ok_check_site (W : Z mg) (h_is_between : Has P w K mg base 2 "is_between" ["value", "low", "high"] [false, false, false] f_is_between) (D : Fun K "check_site" "check_site" s_check_site f fd) (a : mg "check_site" = some (.ref f)) (bd : Binds K fd ["many", "site"] []) : Has P w K mg base 3 "check_site" ["many", "site"] [false, false] f_check_site := by
  exact Has.mk' ["many", "site"] ["many", "site"] [false, false] b_check_site D sc_check_site rfl (by decide) rfl a bd fun cd A out s H E calm room => ⟨_, (sb_one (ss_if (st_not (st_val (se_call h_is_between calm room (by decide) (sa_cons (se_v 1 (by rfl) (by first | exact Or.inl rfl | exact Or.inr (Or.inl rfl) | exact Or.inr (Or.inr rfl)) (by decide) (by decide)) (sa_cons se_int (sa_cons (se_op op_sub sound_sub (se_v 0 (by rfl) (by first | exact Or.inl rfl | exact Or.inr (Or.inl rfl) | exact Or.inr (Or.inr rfl)) (by decide) (by decide)) se_int) sa_nil (by rfl)) (by rfl)) (by rfl)) (by rfl) (by decide) (by rfl) (by rfl)) (by intro _; rfl))) sb_never sb_nil))⟩
theorem ok_clocks_at (W : Z mg) (h_nearest : Has P w K mg base 1 "nearest" ["least", "greatest"] [false, false] f_nearest) (h_ends_by : Has P w K mg base 2 "ends_by" ["known", "told", "other"] [false, false, false] f_ends_by) (h_are_within : Has P w K mg base 3 "are_within" ["known", "told", "site", "offset"] [false, false, false, false] f_are_within) (h_highs : Has P w K mg base 2 "highs" ["many", "facts"] [false, false] f_highs) (h_is_whole : Has P w K mg base 1 "is_whole" ["value"] [false] f_is_whole) (h_check_round : Has P w K mg base 3 "check_round" ["many", "facts"] [false, false] f_check_round) (h_check_site : Has P w K mg base 3 "check_site" ["many", "site"] [false, false] f_check_site) (h_check_facts : Has P w K mg base 5 "check_facts" ["many", "facts"] [false, false] f_check_facts) (D : Fun K "clocks_at" "clocks_at" s_clocks_at f fd) (a : mg "clocks_at" = some (.ref f)) (bd : Binds K fd ["many", "facts", "site", "offset"] []) : Has P w K mg base 6 "clocks_at" ["many", "facts", "site", "offset"] [false, false, false, false] f_clocks_at := by
  exact Has.mk' ["many", "facts", "site", "offset", "known", "told", "other", "least", "greatest", "number"] ["many", "facts", "site", "offset"] [false, false, false, false] b_clocks_at D sc_clocks_at rfl (by decide) rfl a bd fun cd A out s H E calm room => ⟨_, (sb_cons (ss_expr (se_call h_check_facts calm room (by decide) (sa_cons (se_v 0 (by rfl) (by first | exact Or.inl rfl | exact Or.inr (Or.inl rfl) | exact Or.inr (Or.inr rfl)) (by decide) (by decide)) (sa_cons (se_v 1 (by rfl) (by first | exact Or.inl rfl | exact Or.inr (Or.inl rfl) | exact Or.inr (Or.inr rfl)) (by decide) (by decide)) sa_nil (by rfl)) (by rfl)) (by rfl) (by decide) (by rfl) (by rfl)) (by rfl))
    (sb_cons (ss_expr (se_call h_check_site calm room (by decide) (sa_cons (se_v 0 (by rfl) (by first | exact Or.inl rfl | exact Or.inr (Or.inl rfl) | exact Or.inr (Or.inr rfl)) (by decide) (by decide)) (sa_cons (se_v 2 (by rfl) (by first | exact Or.inl rfl | exact Or.inr (Or.inl rfl) | exact Or.inr (Or.inr rfl)) (by decide) (by decide)) sa_nil (by rfl)) (by rfl)) (by rfl) (by decide) (by rfl) (by rfl)) (by rfl))
    (sb_cons (ss_expr (se_call h_check_round calm room (by decide) (sa_cons (se_v 0 (by rfl) (by first | exact Or.inl rfl | exact Or.inr (Or.inl rfl) | exact Or.inr (Or.inr rfl)) (by decide) (by decide)) (sa_cons (se_v 1 (by rfl) (by first | exact Or.inl rfl | exact Or.inr (Or.inl rfl) | exact Or.inr (Or.inr rfl)) (by decide) (by decide)) sa_nil (by rfl)) (by rfl)) (by rfl) (by decide) (by rfl) (by rfl)) (by rfl))
    (sb_cons (ss_if (st_not (st_val (se_call h_is_whole calm room (by decide) (sa_cons (se_v 3 (by rfl) (by first | exact Or.inl rfl | exact Or.inr (Or.inl rfl) | exact Or.inr (Or.inr rfl)) (by decide) (by decide)) sa_nil (by rfl)) (by rfl) (by decide) (by rfl) (by rfl)) (by intro _; rfl))) sb_never sb_nil)
    (sb_cons (ss_set 4 sc_clocks_at.nd (se_call h_highs calm room (by decide) (sa_cons (se_v 0 (by rfl) (by first | exact Or.inl rfl | exact Or.inr (Or.inl rfl) | exact Or.inr (Or.inr rfl)) (by decide) (by decide)) (sa_cons (se_v 1 (by rfl) (by first | exact Or.inl rfl | exact Or.inr (Or.inl rfl) | exact Or.inr (Or.inr rfl)) (by decide) (by decide)) sa_nil (by rfl)) (by rfl)) (by rfl) (by decide) (by rfl) (by rfl)) (by rfl) (by first | exact Or.inl rfl | exact Or.inr rfl) (by rfl) (by first | exact Or.inl rfl | exact Or.inr rfl))
    (sb_cons (ss_if (st_not (st_val (se_call h_are_within calm room (by decide) (sa_cons (se_v 4 (by rfl) (by first | exact Or.inl rfl | exact Or.inr (Or.inl rfl) | exact Or.inr (Or.inr rfl)) (by decide) (by decide)) (sa_cons (SO.se (so_disp (sq_cons se_int se_int sq_nil) (by rfl) (by rfl) (by exact fun z => nomatch z) (by decide))) (sa_cons (se_v 2 (by rfl) (by first | exact Or.inl rfl | exact Or.inr (Or.inl rfl) | exact Or.inr (Or.inr rfl)) (by decide) (by decide)) (sa_cons (se_v 3 (by rfl) (by first | exact Or.inl rfl | exact Or.inr (Or.inl rfl) | exact Or.inr (Or.inr rfl)) (by decide) (by decide)) sa_nil (by rfl)) (by rfl)) (by rfl)) (by rfl)) (by rfl) (by decide) (by rfl) (by rfl)) (by intro _; rfl))) (sb_one (ss_ret se_non)) sb_nil)
    (sb_cons (ss_setO 5 sc_clocks_at.nd (so_disp (sq_cons se_int se_int (sq_cons (se_v 2 (by rfl) (by first | exact Or.inl rfl | exact Or.inr (Or.inl rfl) | exact Or.inr (Or.inr rfl)) (by decide) (by decide)) (se_v 3 (by rfl) (by first | exact Or.inl rfl | exact Or.inr (Or.inl rfl) | exact Or.inr (Or.inr rfl)) (by decide) (by decide)) sq_nil)) (by rfl) (by rfl) (by exact fun z => nomatch z) (by decide)) (by rfl) (by first | exact Or.inl rfl | exact Or.inr rfl) (by rfl) (by first | exact Or.inl rfl | exact Or.inr rfl))
    (sb_cons (ss_for (si_r1 W.z_range (sa_cons (se_v 0 (by rfl) (by first | exact Or.inl rfl | exact Or.inr (Or.inl rfl) | exact Or.inr (Or.inr rfl)) (by decide) (by decide)) sa_nil (by rfl)) (by rfl) (by rfl)) (sg_name (vs := [6]) 6 sc_clocks_at.nd (by rfl) (by first | exact Or.inl rfl | exact Or.inr rfl) (by decide) (by first | exact Or.inl rfl | exact Or.inr rfl)) (sb_one (ss_if (st_notin (room64 room) (se_v 6 (by rfl) (by first | exact Or.inl rfl | exact Or.inr (Or.inl rfl) | exact Or.inr (Or.inr rfl)) (by decide) (by decide)) (se_v 5 (by rfl) (by first | exact Or.inl rfl | exact Or.inr (Or.inl rfl) | exact Or.inr (Or.inr rfl)) (by decide) (by decide)) (by rfl)) (sb_cons (ss_asg (se_callB 5 h_ends_by calm room (by decide) (sba_v 4 (sba_v 5 (sba_v 6 sba_nil (by rfl) (by first | exact Or.inl rfl | exact Or.inr (Or.inl rfl) | exact Or.inr (Or.inr rfl)) (by decide) (by decide) (by rfl)) (by rfl) (by first | exact Or.inl rfl | exact Or.inr (Or.inl rfl) | exact Or.inr (Or.inr rfl)) (by decide) (by decide) (by rfl)) (by rfl) (by first | exact Or.inl rfl | exact Or.inr (Or.inl rfl) | exact Or.inr (Or.inr rfl)) (by decide) (by decide) (by rfl)) (by rfl) (by rfl) (by decide) (by rfl) (by rfl)) (sg_tup rfl (sgs_cons (sg_name (vs := [7, 8]) 7 sc_clocks_at.nd (by rfl) (by first | exact Or.inl rfl | exact Or.inr rfl) (by decide) (by first | exact Or.inl rfl | exact Or.inr rfl)) (sgs_cons (sg_name (vs := [7, 8]) 8 sc_clocks_at.nd (by rfl) (by first | exact Or.inl rfl | exact Or.inr rfl) (by decide) (by first | exact Or.inl rfl | exact Or.inr rfl)) sgs_nil (by rfl)) (by rfl)) (by rfl) (by rfl)) (by rfl) (by rfl) (by rfl))
    (sb_one (ss_put (room64 room) (se_call h_nearest calm room (by decide) (sa_cons (se_v 7 (by rfl) (by first | exact Or.inl rfl | exact Or.inr (Or.inl rfl) | exact Or.inr (Or.inr rfl)) (by decide) (by decide)) (sa_cons (se_v 8 (by rfl) (by first | exact Or.inl rfl | exact Or.inr (Or.inl rfl) | exact Or.inr (Or.inr rfl)) (by decide) (by decide)) sa_nil (by rfl)) (by rfl)) (by rfl) (by decide) (by rfl) (by rfl)) (se_v 5 (by rfl) (by first | exact Or.inl rfl | exact Or.inr (Or.inl rfl) | exact Or.inr (Or.inr rfl)) (by decide) (by decide)) (sy_sim (se_v 6 (by rfl) (by first | exact Or.inl rfl | exact Or.inr (Or.inl rfl) | exact Or.inr (Or.inr rfl)) (by decide) (by decide))) (by rfl)))) sb_nil)) (by exact PassesOwn.never) (by rfl) (by intro _; rfl))
    (sb_one (ss_ret (se_t1 call_tuple_of sound_tuple W.z_tuple boot_tuple (SO.se (so_lc [("number", 9)] sc_clocks_at.nd (si_r1 W.z_range (sa_cons (se_v 0 (by rfl) (by first | exact Or.inl rfl | exact Or.inr (Or.inl rfl) | exact Or.inr (Or.inr rfl)) (by decide) (by decide)) sa_nil (by rfl)) (by rfl) (by rfl)) (fun _ _ _ _ _ => ⟨_, (sg_name 9 sc_clocks_at.nd (by rfl) (by first | exact Or.inl rfl | exact Or.inr rfl) (by decide) (by first | exact Or.inl rfl | exact Or.inr rfl))⟩) (fun _ _ _ _ _ => ⟨_, (se_item (room64 room) (se_v 5 (by rfl) (by first | exact Or.inl rfl | exact Or.inr (Or.inl rfl) | exact Or.inr (Or.inr rfl)) (by decide) (by decide)) (se_v 9 (by rfl) (by first | exact Or.inl rfl | exact Or.inr (Or.inl rfl) | exact Or.inr (Or.inr rfl)) (by decide) (by decide)) (by exact fun _ _ => rfl))⟩) (by rfl) (by first | rfl | decide +kernel) (by intro _; rfl))) (by rfl) (by decide) (by decide) (by rfl) (by rfl))))))))))))⟩
theorem ok_bounds (W : Z mg) (h_high : Has P w K mg base 1 "high" ["known", "one", "other"] [false, false, false] f_high) (h_low : Has P w K mg base 1 "low" ["known", "one", "other"] [false, false, false] f_low) (h_highs : Has P w K mg base 2 "highs" ["many", "facts"] [false, false] f_highs) (h_check_round : Has P w K mg base 3 "check_round" ["many", "facts"] [false, false] f_check_round) (h_check_site : Has P w K mg base 3 "check_site" ["many", "site"] [false, false] f_check_site) (h_check_facts : Has P w K mg base 5 "check_facts" ["many", "facts"] [false, false] f_check_facts) (D : Fun K "bounds" "bounds" s_bounds f fd) (a : mg "bounds" = some (.ref f)) (bd : Binds K fd ["many", "facts", "one", "other"] []) : Has P w K mg base 6 "bounds" ["many", "facts", "one", "other"] [false, false, false, false] f_bounds := by
  exact Has.mk' ["many", "facts", "one", "other", "known"] ["many", "facts", "one", "other"] [false, false, false, false] b_bounds D sc_bounds rfl (by decide) rfl a bd fun cd A out s H E calm room => ⟨_, (sb_cons (ss_expr (se_call h_check_facts calm room (by decide) (sa_cons (se_v 0 (by rfl) (by first | exact Or.inl rfl | exact Or.inr (Or.inl rfl) | exact Or.inr (Or.inr rfl)) (by decide) (by decide)) (sa_cons (se_v 1 (by rfl) (by first | exact Or.inl rfl | exact Or.inr (Or.inl rfl) | exact Or.inr (Or.inr rfl)) (by decide) (by decide)) sa_nil (by rfl)) (by rfl)) (by rfl) (by decide) (by rfl) (by rfl)) (by rfl))
    (sb_cons (ss_expr (se_call h_check_site calm room (by decide) (sa_cons (se_v 0 (by rfl) (by first | exact Or.inl rfl | exact Or.inr (Or.inl rfl) | exact Or.inr (Or.inr rfl)) (by decide) (by decide)) (sa_cons (se_v 2 (by rfl) (by first | exact Or.inl rfl | exact Or.inr (Or.inl rfl) | exact Or.inr (Or.inr rfl)) (by decide) (by decide)) sa_nil (by rfl)) (by rfl)) (by rfl) (by decide) (by rfl) (by rfl)) (by rfl))
    (sb_cons (ss_expr (se_call h_check_site calm room (by decide) (sa_cons (se_v 0 (by rfl) (by first | exact Or.inl rfl | exact Or.inr (Or.inl rfl) | exact Or.inr (Or.inr rfl)) (by decide) (by decide)) (sa_cons (se_v 3 (by rfl) (by first | exact Or.inl rfl | exact Or.inr (Or.inl rfl) | exact Or.inr (Or.inr rfl)) (by decide) (by decide)) sa_nil (by rfl)) (by rfl)) (by rfl) (by decide) (by rfl) (by rfl)) (by rfl))
    (sb_cons (ss_expr (se_call h_check_round calm room (by decide) (sa_cons (se_v 0 (by rfl) (by first | exact Or.inl rfl | exact Or.inr (Or.inl rfl) | exact Or.inr (Or.inr rfl)) (by decide) (by decide)) (sa_cons (se_v 1 (by rfl) (by first | exact Or.inl rfl | exact Or.inr (Or.inl rfl) | exact Or.inr (Or.inr rfl)) (by decide) (by decide)) sa_nil (by rfl)) (by rfl)) (by rfl) (by decide) (by rfl) (by rfl)) (by rfl))
    (sb_cons (ss_set 4 sc_bounds.nd (se_call h_highs calm room (by decide) (sa_cons (se_v 0 (by rfl) (by first | exact Or.inl rfl | exact Or.inr (Or.inl rfl) | exact Or.inr (Or.inr rfl)) (by decide) (by decide)) (sa_cons (se_v 1 (by rfl) (by first | exact Or.inl rfl | exact Or.inr (Or.inl rfl) | exact Or.inr (Or.inr rfl)) (by decide) (by decide)) sa_nil (by rfl)) (by rfl)) (by rfl) (by decide) (by rfl) (by rfl)) (by rfl) (by first | exact Or.inl rfl | exact Or.inr rfl) (by rfl) (by first | exact Or.inl rfl | exact Or.inr rfl))
    (sb_one (ss_ret (se_tup (sa_cons (se_call h_low calm room (by decide) (sa_cons (se_v 4 (by rfl) (by first | exact Or.inl rfl | exact Or.inr (Or.inl rfl) | exact Or.inr (Or.inr rfl)) (by decide) (by decide)) (sa_cons (se_v 2 (by rfl) (by first | exact Or.inl rfl | exact Or.inr (Or.inl rfl) | exact Or.inr (Or.inr rfl)) (by decide) (by decide)) (sa_cons (se_v 3 (by rfl) (by first | exact Or.inl rfl | exact Or.inr (Or.inl rfl) | exact Or.inr (Or.inr rfl)) (by decide) (by decide)) sa_nil (by rfl)) (by rfl)) (by rfl)) (by rfl) (by decide) (by rfl) (by rfl)) (sa_cons (se_call h_high calm room (by decide) (sa_cons (se_v 4 (by rfl) (by first | exact Or.inl rfl | exact Or.inr (Or.inl rfl) | exact Or.inr (Or.inr rfl)) (by decide) (by decide)) (sa_cons (se_v 2 (by rfl) (by first | exact Or.inl rfl | exact Or.inr (Or.inl rfl) | exact Or.inr (Or.inr rfl)) (by decide) (by decide)) (sa_cons (se_v 3 (by rfl) (by first | exact Or.inl rfl | exact Or.inr (Or.inl rfl) | exact Or.inr (Or.inr rfl)) (by decide) (by decide)) sa_nil (by rfl)) (by rfl)) (by rfl)) (by rfl) (by decide) (by rfl) (by rfl)) sa_nil (by rfl)) (by rfl))))))))))⟩
theorem ok__law_take (W : Z mg)  (D : Fun K "_law_take" "_law_take" s__law_take f fd) (a : mg "_law_take" = some (.ref f)) (bd : Binds K fd ["pot", "upto"] []) : Has P w K mg base 1 "_law_take" ["pot", "upto"] [true, false] f__law_take := by
  exact Has.mk' ["pot", "upto", "digit", "prime", "blend"] ["pot", "upto"] [true, false] b__law_take D sc__law_take rfl (by decide) rfl a bd fun cd A out s H E calm room => ⟨_, (sb_cons (ss_if (st_cmp op_gt sound_cmpI (se_ix (se_v 0 (by rfl) (by first | exact Or.inl rfl | exact Or.inr (Or.inl rfl) | exact Or.inr (Or.inr rfl)) (by decide) (by decide)) se_int (by exact fun _ _ => rfl)) se_int (by exact nomark _)) (sb_cons (ss_set 2 sc__law_take.nd (se_op op_modN sound_mod (se_t1 call_int1 sound_int W.z_int boot_int (se_ix (se_v 0 (by rfl) (by first | exact Or.inl rfl | exact Or.inr (Or.inl rfl) | exact Or.inr (Or.inr rfl)) (by decide) (by decide)) se_int (by exact fun _ _ => rfl)) (by rfl) (by decide) (by decide) (by rfl) (by rfl)) (se_v 1 (by rfl) (by first | exact Or.inl rfl | exact Or.inr (Or.inl rfl) | exact Or.inr (Or.inr rfl)) (by decide) (by decide))) (by rfl) (by first | exact Or.inl rfl | exact Or.inr rfl) (by rfl) (by first | exact Or.inl rfl | exact Or.inr rfl))
    (sb_cons (ss_setI (se_op op_fdivN sound_div (se_ix (se_v 0 (by rfl) (by first | exact Or.inl rfl | exact Or.inr (Or.inl rfl) | exact Or.inr (Or.inr rfl)) (by decide) (by decide)) se_int (by exact fun _ _ => rfl)) (se_v 1 (by rfl) (by first | exact Or.inl rfl | exact Or.inr (Or.inl rfl) | exact Or.inr (Or.inr rfl)) (by decide) (by decide))) (se_v 0 (by rfl) (by first | exact Or.inl rfl | exact Or.inr (Or.inl rfl) | exact Or.inr (Or.inr rfl)) (by decide) (by decide)) se_int (by intro _; rfl) (by rfl) (by rfl))
    (sb_one (ss_ret (se_v 2 (by rfl) (by first | exact Or.inl rfl | exact Or.inr (Or.inl rfl) | exact Or.inr (Or.inr rfl)) (by decide) (by decide)))))) sb_nil)
    (sb_cons (ss_setI (se_op op_addA sound_add (se_ix (se_v 0 (by rfl) (by first | exact Or.inl rfl | exact Or.inr (Or.inl rfl) | exact Or.inr (Or.inr rfl)) (by decide) (by decide)) se_int (by exact fun _ _ => rfl)) se_int) (se_v 0 (by rfl) (by first | exact Or.inl rfl | exact Or.inr (Or.inl rfl) | exact Or.inr (Or.inr rfl)) (by decide) (by decide)) se_int (by intro _; rfl) (by rfl) (by rfl))
    (sb_cons (ss_set 3 sc__law_take.nd (se_ix (SO.se (so_lst (sa_cons se_int (sa_cons se_int (sa_cons se_int (sa_cons se_int (sa_cons se_int sa_nil (by rfl)) (by rfl)) (by rfl)) (by rfl)) (by rfl)))) (se_op op_modN sound_mod (se_t1 call_int1 sound_int W.z_int boot_int (se_ix (se_v 0 (by rfl) (by first | exact Or.inl rfl | exact Or.inr (Or.inl rfl) | exact Or.inr (Or.inr rfl)) (by decide) (by decide)) se_int (by exact fun _ _ => rfl)) (by rfl) (by decide) (by decide) (by rfl) (by rfl)) se_int) (by exact fun _ _ => rfl)) (by rfl) (by first | exact Or.inl rfl | exact Or.inr rfl) (by rfl) (by first | exact Or.inl rfl | exact Or.inr rfl))
    (sb_cons (ss_set 4 sc__law_take.nd (se_op op_modN sound_mod (se_t1 call_int1 sound_int W.z_int boot_int (se_op op_powA sound_pow (se_t1 call_int1 sound_int W.z_int boot_int (se_op op_addA sound_add (se_op op_addA sound_add (se_ix (se_v 0 (by rfl) (by first | exact Or.inl rfl | exact Or.inr (Or.inl rfl) | exact Or.inr (Or.inr rfl)) (by decide) (by decide)) se_int (by exact fun _ _ => rfl)) (se_op op_mulA sound_mul (se_op op_mulA sound_mul se_int (se_ix (se_v 0 (by rfl) (by first | exact Or.inl rfl | exact Or.inr (Or.inl rfl) | exact Or.inr (Or.inr rfl)) (by decide) (by decide)) se_int (by exact fun _ _ => rfl))) (se_ix (se_v 0 (by rfl) (by first | exact Or.inl rfl | exact Or.inr (Or.inl rfl) | exact Or.inr (Or.inr rfl)) (by decide) (by decide)) se_int (by exact fun _ _ => rfl)))) se_int) (by rfl) (by decide) (by decide) (by rfl) (by rfl)) se_int) (by rfl) (by decide) (by decide) (by rfl) (by rfl)) (se_v 3 (by rfl) (by first | exact Or.inl rfl | exact Or.inr (Or.inl rfl) | exact Or.inr (Or.inr rfl)) (by decide) (by decide))) (by rfl) (by first | exact Or.inl rfl | exact Or.inr rfl) (by rfl) (by first | exact Or.inl rfl | exact Or.inr rfl))
    (sb_one (ss_ret (se_op op_modN sound_mod (se_t1 call_int1 sound_int W.z_int boot_int (se_op op_fdivN sound_div (se_op op_mulA sound_mul (se_v 4 (by rfl) (by first | exact Or.inl rfl | exact Or.inr (Or.inl rfl) | exact Or.inr (Or.inr rfl)) (by decide) (by decide)) (se_op op_addA sound_add (se_op op_modN sound_mod (se_t1 call_int1 sound_int W.z_int boot_int (se_v 4 (by rfl) (by first | exact Or.inl rfl | exact Or.inr (Or.inl rfl) | exact Or.inr (Or.inr rfl)) (by decide) (by decide)) (by rfl) (by decide) (by decide) (by rfl) (by rfl)) se_int) (se_op op_mulA sound_mul se_int (se_ix (se_v 0 (by rfl) (by first | exact Or.inl rfl | exact Or.inr (Or.inl rfl) | exact Or.inr (Or.inr rfl)) (by decide) (by decide)) se_int (by exact fun _ _ => rfl))))) se_int) (by rfl) (by decide) (by decide) (by rfl) (by rfl)) (se_v 1 (by rfl) (by first | exact Or.inl rfl | exact Or.inr (Or.inl rfl) | exact Or.inr (Or.inr rfl)) (by decide) (by decide)))))))))⟩
theorem ok__law_of (W : Z mg) (h__law_take : Has P w K mg base 1 "_law_take" ["pot", "upto"] [true, false] f__law_take) (D : Fun K "_law_of" "_law_of" s__law_of f fd) (a : mg "_law_of" = some (.ref f)) (bd : Binds K fd ["pot", "some"] []) : Has P w K mg base 2 "_law_of" ["pot", "some"] [true, false] f__law_of := by
  exact Has.mk' ["pot", "some"] ["pot", "some"] [true, false] b__law_of D sc__law_of rfl (by decide) rfl a bd fun cd A out s H E calm room => ⟨_, (sb_one (ss_ret (se_ix (se_v 1 (by rfl) (by first | exact Or.inl rfl | exact Or.inr (Or.inl rfl) | exact Or.inr (Or.inr rfl)) (by decide) (by decide)) (se_call h__law_take calm room (by decide) (sa_cons (se_v 0 (by rfl) (by first | exact Or.inl rfl | exact Or.inr (Or.inl rfl) | exact Or.inr (Or.inr rfl)) (by decide) (by decide)) (sa_cons (se_b1 call_len sound_len W.z_len boot_len (se_v 1 (by rfl) (by first | exact Or.inl rfl | exact Or.inr (Or.inl rfl) | exact Or.inr (Or.inr rfl)) (by decide) (by decide)) (by rfl) (by decide) (by decide) (by rfl) (by rfl)) sa_nil (by rfl)) (by rfl)) (by rfl) (by decide) (by rfl) (by rfl)) (by exact fun _ _ => rfl))))⟩
theorem ok__law_drawn_fact (W : Z mg) (h__law_take : Has P w K mg base 1 "_law_take" ["pot", "upto"] [true, false] f__law_take) (h__law_of : Has P w K mg base 2 "_law_of" ["pot", "some"] [true, false] f__law_of) (D : Fun K "_law_drawn_fact" "_law_drawn_fact" s__law_drawn_fact f fd) (a : mg "_law_drawn_fact" = some (.ref f)) (bd : Binds K fd ["pot", "offsets"] []) : Has P w K mg base 3 "_law_drawn_fact" ["pot", "offsets"] [true, false] f__law_drawn_fact := by
  exact Has.mk' ["pot", "offsets", "one", "other", "left", "least", "wide", "came", "most"] ["pot", "offsets"] [true, false] b__law_drawn_fact D sc__law_drawn_fact rfl (by decide) rfl a bd fun cd A out s H E calm room => ⟨_, (sb_cons (ss_set 2 sc__law_drawn_fact.nd (se_call h__law_take calm room (by decide) (sa_cons (se_v 0 (by rfl) (by first | exact Or.inl rfl | exact Or.inr (Or.inl rfl) | exact Or.inr (Or.inr rfl)) (by decide) (by decide)) (sa_cons (se_b1 call_len sound_len W.z_len boot_len (se_v 1 (by rfl) (by first | exact Or.inl rfl | exact Or.inr (Or.inl rfl) | exact Or.inr (Or.inr rfl)) (by decide) (by decide)) (by rfl) (by decide) (by decide) (by rfl) (by rfl)) sa_nil (by rfl)) (by rfl)) (by rfl) (by decide) (by rfl) (by rfl)) (by rfl) (by first | exact Or.inl rfl | exact Or.inr rfl) (by rfl) (by first | exact Or.inl rfl | exact Or.inr rfl))
    (sb_cons (ss_set 3 sc__law_drawn_fact.nd (se_op op_modN sound_mod (se_op op_addA sound_add (se_op op_addA sound_add (se_v 2 (by rfl) (by first | exact Or.inl rfl | exact Or.inr (Or.inl rfl) | exact Or.inr (Or.inr rfl)) (by decide) (by decide)) se_int) (se_call h__law_take calm room (by decide) (sa_cons (se_v 0 (by rfl) (by first | exact Or.inl rfl | exact Or.inr (Or.inl rfl) | exact Or.inr (Or.inr rfl)) (by decide) (by decide)) (sa_cons (se_op op_sub sound_sub (se_b1 call_len sound_len W.z_len boot_len (se_v 1 (by rfl) (by first | exact Or.inl rfl | exact Or.inr (Or.inl rfl) | exact Or.inr (Or.inr rfl)) (by decide) (by decide)) (by rfl) (by decide) (by decide) (by rfl) (by rfl)) se_int) sa_nil (by rfl)) (by rfl)) (by rfl) (by decide) (by rfl) (by rfl))) (se_b1 call_len sound_len W.z_len boot_len (se_v 1 (by rfl) (by first | exact Or.inl rfl | exact Or.inr (Or.inl rfl) | exact Or.inr (Or.inr rfl)) (by decide) (by decide)) (by rfl) (by decide) (by decide) (by rfl) (by rfl))) (by rfl) (by first | exact Or.inl rfl | exact Or.inr rfl) (by rfl) (by first | exact Or.inl rfl | exact Or.inr rfl))
    (sb_cons (ss_par3 4 5 6 sc__law_drawn_fact.nd (sm_f (se_op op_sub sound_sub (se_call h__law_take calm room (by decide) (sa_cons (se_v 0 (by rfl) (by first | exact Or.inl rfl | exact Or.inr (Or.inl rfl) | exact Or.inr (Or.inr rfl)) (by decide) (by decide)) (sa_cons se_int sa_nil (by rfl)) (by rfl)) (by rfl) (by decide) (by rfl) (by rfl)) se_int) (sm_f (se_call h__law_of calm room (by decide) (sa_cons (se_v 0 (by rfl) (by first | exact Or.inl rfl | exact Or.inr (Or.inl rfl) | exact Or.inr (Or.inr rfl)) (by decide) (by decide)) (sa_cons (SO.se (so_lst (sa_cons se_int (sa_cons se_int (sa_cons se_int (sa_cons se_int (sa_cons se_int sa_nil (by rfl)) (by rfl)) (by rfl)) (by rfl)) (by rfl)))) sa_nil (by rfl)) (by rfl)) (by rfl) (by decide) (by rfl) (by rfl)) (sm_f (se_call h__law_of calm room (by decide) (sa_cons (se_v 0 (by rfl) (by first | exact Or.inl rfl | exact Or.inr (Or.inl rfl) | exact Or.inr (Or.inr rfl)) (by decide) (by decide)) (sa_cons (SO.se (so_lst (sa_cons se_int (sa_cons se_int (sa_cons se_int (sa_cons se_int (sa_cons se_int (sa_cons se_int sa_nil (by rfl)) (by rfl)) (by rfl)) (by rfl)) (by rfl)) (by rfl)))) sa_nil (by rfl)) (by rfl)) (by rfl) (by decide) (by rfl) (by rfl)) sm_nil (by rfl)) (by rfl)) (by rfl)) (by rfl) (by rfl) (by rfl) (by rfl) (by decide) (by decide) (by decide) (by rfl) (by rfl) (by rfl) (by rfl) (by rfl))
    (sb_cons (ss_set 7 sc__law_drawn_fact.nd (se_op op_addA sound_add (se_op op_addA sound_add (se_op op_addA sound_add (se_op op_sub sound_sub (se_v 4 (by rfl) (by first | exact Or.inl rfl | exact Or.inr (Or.inl rfl) | exact Or.inr (Or.inr rfl)) (by decide) (by decide)) (se_ix (se_v 1 (by rfl) (by first | exact Or.inl rfl | exact Or.inr (Or.inl rfl) | exact Or.inr (Or.inr rfl)) (by decide) (by decide)) (se_v 2 (by rfl) (by first | exact Or.inl rfl | exact Or.inr (Or.inl rfl) | exact Or.inr (Or.inr rfl)) (by decide) (by decide)) (by exact fun _ _ => rfl))) (se_v 5 (by rfl) (by first | exact Or.inl rfl | exact Or.inr (Or.inl rfl) | exact Or.inr (Or.inr rfl)) (by decide) (by decide))) (se_call h__law_take calm room (by decide) (sa_cons (se_v 0 (by rfl) (by first | exact Or.inl rfl | exact Or.inr (Or.inl rfl) | exact Or.inr (Or.inr rfl)) (by decide) (by decide)) (sa_cons (se_op op_addA sound_add (se_v 6 (by rfl) (by first | exact Or.inl rfl | exact Or.inr (Or.inl rfl) | exact Or.inr (Or.inr rfl)) (by decide) (by decide)) se_int) sa_nil (by rfl)) (by rfl)) (by rfl) (by decide) (by rfl) (by rfl))) (se_ix (se_v 1 (by rfl) (by first | exact Or.inl rfl | exact Or.inr (Or.inl rfl) | exact Or.inr (Or.inr rfl)) (by decide) (by decide)) (se_v 3 (by rfl) (by first | exact Or.inl rfl | exact Or.inr (Or.inl rfl) | exact Or.inr (Or.inr rfl)) (by decide) (by decide)) (by exact fun _ _ => rfl))) (by rfl) (by first | exact Or.inl rfl | exact Or.inr rfl) (by rfl) (by first | exact Or.inl rfl | exact Or.inr rfl))
    (sb_cons (ss_set 8 sc__law_drawn_fact.nd (se_if (st_cmp (op_eqD (room64 room)) sound_eq (se_call h__law_take calm room (by decide) (sa_cons (se_v 0 (by rfl) (by first | exact Or.inl rfl | exact Or.inr (Or.inl rfl) | exact Or.inr (Or.inr rfl)) (by decide) (by decide)) (sa_cons se_int sa_nil (by rfl)) (by rfl)) (by rfl) (by decide) (by rfl) (by rfl)) se_int (by exact nomark _)) se_non (se_t1 call_int1 sound_int W.z_int boot_int (se_op op_addA sound_add (se_v 5 (by rfl) (by first | exact Or.inl rfl | exact Or.inr (Or.inl rfl) | exact Or.inr (Or.inr rfl)) (by decide) (by decide)) (se_v 6 (by rfl) (by first | exact Or.inl rfl | exact Or.inr (Or.inl rfl) | exact Or.inr (Or.inr rfl)) (by decide) (by decide))) (by rfl) (by decide) (by decide) (by rfl) (by rfl))) (by rfl) (by first | exact Or.inl rfl | exact Or.inr rfl) (by rfl) (by first | exact Or.inl rfl | exact Or.inr rfl))
    (sb_one (ss_ret (se_tup (sa_cons (se_t1 call_int1 sound_int W.z_int boot_int (se_v 2 (by rfl) (by first | exact Or.inl rfl | exact Or.inr (Or.inl rfl) | exact Or.inr (Or.inr rfl)) (by decide) (by decide)) (by rfl) (by decide) (by decide) (by rfl) (by rfl)) (sa_cons (se_t1 call_int1 sound_int W.z_int boot_int (se_v 4 (by rfl) (by first | exact Or.inl rfl | exact Or.inr (Or.inl rfl) | exact Or.inr (Or.inr rfl)) (by decide) (by decide)) (by rfl) (by decide) (by decide) (by rfl) (by rfl)) (sa_cons (se_t1 call_int1 sound_int W.z_int boot_int (se_v 3 (by rfl) (by first | exact Or.inl rfl | exact Or.inr (Or.inl rfl) | exact Or.inr (Or.inr rfl)) (by decide) (by decide)) (by rfl) (by decide) (by decide) (by rfl) (by rfl)) (sa_cons (se_t1 call_int1 sound_int W.z_int boot_int (se_v 7 (by rfl) (by first | exact Or.inl rfl | exact Or.inr (Or.inl rfl) | exact Or.inr (Or.inr rfl)) (by decide) (by decide)) (by rfl) (by decide) (by decide) (by rfl) (by rfl)) (sa_cons (se_t1 call_int1 sound_int W.z_int boot_int (se_v 5 (by rfl) (by first | exact Or.inl rfl | exact Or.inr (Or.inl rfl) | exact Or.inr (Or.inr rfl)) (by decide) (by decide)) (by rfl) (by decide) (by decide) (by rfl) (by rfl)) (sa_cons (se_v 8 (by rfl) (by first | exact Or.inl rfl | exact Or.inr (Or.inl rfl) | exact Or.inr (Or.inr rfl)) (by decide) (by decide)) sa_nil (by rfl)) (by rfl)) (by rfl)) (by rfl)) (by rfl)) (by rfl))))))))))⟩
theorem ok__law_facts (W : Z mg) (h__law_drawn_fact : Has P w K mg base 3 "_law_drawn_fact" ["pot", "offsets"] [true, false] f__law_drawn_fact) (D : Fun K "_law_facts" "_law_facts" s__law_facts f fd) (a : mg "_law_facts" = some (.ref f)) (bd : Binds K fd ["pot", "offsets", "many"] []) : Has P w K mg base 4 "_law_facts" ["pot", "offsets", "many"] [true, false, false] f__law_facts := by
  exact Has.mk' ["pot", "offsets", "many", "lap"] ["pot", "offsets", "many"] [true, false, false] b__law_facts D sc__law_facts rfl (by decide) rfl a bd fun cd A out s H E calm room => ⟨_, (sb_one (ss_ret (se_t1 call_tuple_of sound_tuple W.z_tuple boot_tuple (SO.se (so_lc [("lap", 3)] sc__law_facts.nd (si_r1 W.z_range (sa_cons (se_v 2 (by rfl) (by first | exact Or.inl rfl | exact Or.inr (Or.inl rfl) | exact Or.inr (Or.inr rfl)) (by decide) (by decide)) sa_nil (by rfl)) (by rfl) (by rfl)) (fun _ _ _ _ _ => ⟨_, (sg_name 3 sc__law_facts.nd (by rfl) (by first | exact Or.inl rfl | exact Or.inr rfl) (by decide) (by first | exact Or.inl rfl | exact Or.inr rfl))⟩) (fun _ _ _ _ _ => ⟨_, (se_call h__law_drawn_fact calm room (by decide) (sa_cons (se_v 0 (by rfl) (by first | exact Or.inl rfl | exact Or.inr (Or.inl rfl) | exact Or.inr (Or.inr rfl)) (by decide) (by decide)) (sa_cons (se_v 1 (by rfl) (by first | exact Or.inl rfl | exact Or.inr (Or.inl rfl) | exact Or.inr (Or.inr rfl)) (by decide) (by decide)) sa_nil (by rfl)) (by rfl)) (by rfl) (by decide) (by rfl) (by rfl))⟩) (by rfl) (by first | rfl | decide +kernel) (by intro _; rfl))) (by rfl) (by decide) (by decide) (by rfl) (by rfl))))⟩
theorem ok__law_offsets (W : Z mg) (h__law_take : Has P w K mg base 1 "_law_take" ["pot", "upto"] [true, false] f__law_take) (D : Fun K "_law_offsets" "_law_offsets" s__law_offsets f fd) (a : mg "_law_offsets" = some (.ref f)) (bd : Binds K fd ["pot", "many"] []) : Has P w K mg base 2 "_law_offsets" ["pot", "many"] [true, false] f__law_offsets := by
  exact Has.mk' ["pot", "many", "site"] ["pot", "many"] [true, false] b__law_offsets D sc__law_offsets rfl (by decide) rfl a bd fun cd A out s H E calm room => ⟨_, (sb_one (ss_ret (SO.se (so_cat (SO.se (so_lst (sa_cons se_int sa_nil (by rfl)))) (SO.se (so_lc [("site", 2)] sc__law_offsets.nd (si_r1 W.z_range (sa_cons (se_op op_sub sound_sub (se_v 1 (by rfl) (by first | exact Or.inl rfl | exact Or.inr (Or.inl rfl) | exact Or.inr (Or.inr rfl)) (by decide) (by decide)) se_int) sa_nil (by rfl)) (by rfl) (by rfl)) (fun _ _ _ _ _ => ⟨_, (sg_name 2 sc__law_offsets.nd (by rfl) (by first | exact Or.inl rfl | exact Or.inr rfl) (by decide) (by first | exact Or.inl rfl | exact Or.inr rfl))⟩) (fun _ _ _ _ _ => ⟨_, (se_op op_sub sound_sub (se_call h__law_take calm room (by decide) (sa_cons (se_v 0 (by rfl) (by first | exact Or.inl rfl | exact Or.inr (Or.inl rfl) | exact Or.inr (Or.inr rfl)) (by decide) (by decide)) (sa_cons se_int sa_nil (by rfl)) (by rfl)) (by rfl) (by decide) (by rfl) (by rfl)) se_int)⟩) (by rfl) (by first | rfl | decide +kernel) (by intro _; rfl)))))))⟩
theorem ok__law_right (W : Z mg) (h__law_lots : Has P w K mg base 1 "_law_lots" ["one", "other"] [false, false] f__law_lots) (h_are_clocks : Has P w K mg base 6 "are_clocks" ["many", "facts", "value"] [false, false, false] f_are_clocks) (h__law_bound : Has P w K mg base 1 "_law_bound" ["number", "low_v", "high_v"] [false, false, false] f__law_bound) (h_clocks_at : Has P w K mg base 6 "clocks_at" ["many", "facts", "site", "offset"] [false, false, false, false] f_clocks_at) (h_bounds : Has P w K mg base 6 "bounds" ["many", "facts", "one", "other"] [false, false, false, false] f_bounds) (h__law_take : Has P w K mg base 1 "_law_take" ["pot", "upto"] [true, false] f__law_take) (h__law_facts : Has P w K mg base 4 "_law_facts" ["pot", "offsets", "many"] [true, false, false] f__law_facts) (h__law_offsets : Has P w K mg base 2 "_law_offsets" ["pot", "many"] [true, false] f__law_offsets) (D : Fun K "_law_right" "_law_right" s__law_right f fd) (a : mg "_law_right" = some (.ref f)) (bd : Binds K fd ["pot"] []) : Has P w K mg base 7 "_law_right" ["pot"] [true] f__law_right := by
  exact Has.mk' ["pot", "many", "offsets", "facts", "picks", "lots", "ends", "site", "wish", "offset", "clocks", "end", "one", "other", "lap", "at", "some"] ["pot"] [true] b__law_right D sc__law_right rfl (by decide) rfl a bd fun cd A out s H E calm room => ⟨_, (sb_cons (ss_set 1 sc__law_right.nd (se_op op_addA sound_add se_int (se_call h__law_take calm room (by decide) (sa_cons (se_v 0 (by rfl) (by first | exact Or.inl rfl | exact Or.inr (Or.inl rfl) | exact Or.inr (Or.inr rfl)) (by decide) (by decide)) (sa_cons se_int sa_nil (by rfl)) (by rfl)) (by rfl) (by decide) (by rfl) (by rfl))) (by rfl) (by first | exact Or.inl rfl | exact Or.inr rfl) (by rfl) (by first | exact Or.inl rfl | exact Or.inr rfl))
    (sb_cons (ss_set 2 sc__law_right.nd (se_call h__law_offsets calm room (by decide) (sa_cons (se_v 0 (by rfl) (by first | exact Or.inl rfl | exact Or.inr (Or.inl rfl) | exact Or.inr (Or.inr rfl)) (by decide) (by decide)) (sa_cons (se_v 1 (by rfl) (by first | exact Or.inl rfl | exact Or.inr (Or.inl rfl) | exact Or.inr (Or.inr rfl)) (by decide) (by decide)) sa_nil (by rfl)) (by rfl)) (by rfl) (by decide) (by rfl) (by rfl)) (by rfl) (by first | exact Or.inl rfl | exact Or.inr rfl) (by rfl) (by first | exact Or.inl rfl | exact Or.inr rfl))
    (sb_cons (ss_set 3 sc__law_right.nd (se_call h__law_facts calm room (by decide) (sa_cons (se_v 0 (by rfl) (by first | exact Or.inl rfl | exact Or.inr (Or.inl rfl) | exact Or.inr (Or.inr rfl)) (by decide) (by decide)) (sa_cons (se_v 2 (by rfl) (by first | exact Or.inl rfl | exact Or.inr (Or.inl rfl) | exact Or.inr (Or.inr rfl)) (by decide) (by decide)) (sa_cons se_int sa_nil (by rfl)) (by rfl)) (by rfl)) (by rfl) (by decide) (by rfl) (by rfl)) (by rfl) (by first | exact Or.inl rfl | exact Or.inr rfl) (by rfl) (by first | exact Or.inl rfl | exact Or.inr rfl))
    (sb_cons (ss_setLc 4 [("lap", 14)] sc__law_right.nd (si_r1 W.z_range (sa_cons se_int sa_nil (by rfl)) (by rfl) (by rfl)) (fun _ _ _ _ _ => ⟨_, (sg_name 14 sc__law_right.nd (by rfl) (by first | exact Or.inl rfl | exact Or.inr rfl) (by decide) (by first | exact Or.inl rfl | exact Or.inr rfl))⟩) (fun _ _ _ _ _ => ⟨_, (se_tup (sa_cons (se_op op_addA sound_add se_int (se_call h__law_take calm room (by decide) (sa_cons (se_v 0 (by rfl) (by first | exact Or.inl rfl | exact Or.inr (Or.inl rfl) | exact Or.inr (Or.inr rfl)) (by decide) (by decide)) (sa_cons (se_op op_sub sound_sub (se_v 1 (by rfl) (by first | exact Or.inl rfl | exact Or.inr (Or.inl rfl) | exact Or.inr (Or.inr rfl)) (by decide) (by decide)) se_int) sa_nil (by rfl)) (by rfl)) (by rfl) (by decide) (by rfl) (by rfl))) (sa_cons (se_op op_sub sound_sub (se_call h__law_take calm room (by decide) (sa_cons (se_v 0 (by rfl) (by first | exact Or.inl rfl | exact Or.inr (Or.inl rfl) | exact Or.inr (Or.inr rfl)) (by decide) (by decide)) (sa_cons se_int sa_nil (by rfl)) (by rfl)) (by rfl) (by decide) (by rfl) (by rfl)) se_int) sa_nil (by rfl)) (by rfl)))⟩) (by rfl) (by rfl) (by exact sw_true rfl rfl rfl rfl) (by rfl) (by first | rfl | decide +kernel) (by intro _; rfl))
    (sb_cons (ss_parT 5 6 sc__law_right.nd (sm_o (so_lst (sa_cons (se_t1 call_tuple_of sound_tuple W.z_tuple boot_tuple (se_v 2 (by rfl) (by first | exact Or.inl rfl | exact Or.inr (Or.inl rfl) | exact Or.inr (Or.inr rfl)) (by decide) (by decide)) (by rfl) (by decide) (by decide) (by rfl) (by rfl)) sa_nil (by rfl))) (sm_o (so_lc [("site", 7)] sc__law_right.nd (si_r1 W.z_range (sa_cons (se_v 1 (by rfl) (by first | exact Or.inl rfl | exact Or.inr (Or.inl rfl) | exact Or.inr (Or.inr rfl)) (by decide) (by decide)) sa_nil (by rfl)) (by rfl) (by rfl)) (fun _ _ _ _ _ => ⟨_, (sg_name 7 sc__law_right.nd (by rfl) (by first | exact Or.inl rfl | exact Or.inr rfl) (by decide) (by first | exact Or.inl rfl | exact Or.inr rfl))⟩) (fun _ _ _ _ _ => ⟨_, (se_call h_bounds calm room (by decide) (sa_cons (se_v 1 (by rfl) (by first | exact Or.inl rfl | exact Or.inr (Or.inl rfl) | exact Or.inr (Or.inr rfl)) (by decide) (by decide)) (sa_cons (se_v 3 (by rfl) (by first | exact Or.inl rfl | exact Or.inr (Or.inl rfl) | exact Or.inr (Or.inr rfl)) (by decide) (by decide)) (sa_cons se_int (sa_cons (se_v 7 (by rfl) (by first | exact Or.inl rfl | exact Or.inr (Or.inl rfl) | exact Or.inr (Or.inr rfl)) (by decide) (by decide)) sa_nil (by rfl)) (by rfl)) (by rfl)) (by rfl)) (by rfl) (by decide) (by rfl) (by rfl))⟩) (by rfl) (by first | rfl | decide +kernel) (by intro _; rfl)) sm_nil (by rfl)) (by rfl)) (by rfl) (by rfl) (by rfl) (by first | exact Or.inl rfl | exact Or.inr rfl) (by first | exact Or.inl rfl | exact Or.inr rfl) (by first | exact Or.inl rfl | exact Or.inr rfl) (by first | exact Or.inl rfl | exact Or.inr rfl) (by rfl) (by rfl) (by rfl) (by rfl) (by rfl) (by rfl) (by rfl))
    (sb_cons (ss_for (si_seq (se_v 4 (by rfl) (by first | exact Or.inl rfl | exact Or.inr (Or.inl rfl) | exact Or.inr (Or.inr rfl)) (by decide) (by decide))) (sg_tup rfl (sgs_cons (sg_name (vs := [7, 8]) 7 sc__law_right.nd (by rfl) (by first | exact Or.inl rfl | exact Or.inr rfl) (by decide) (by first | exact Or.inl rfl | exact Or.inr rfl)) (sgs_cons (sg_name (vs := [7, 8]) 8 sc__law_right.nd (by rfl) (by first | exact Or.inl rfl | exact Or.inr rfl) (by decide) (by first | exact Or.inl rfl | exact Or.inr rfl)) sgs_nil (by rfl)) (by rfl)) (by rfl) (by rfl)) (sb_cons (ss_set 9 sc__law_right.nd (se_call h__law_bound calm room (by decide) (sa_cons (se_v 8 (by rfl) (by first | exact Or.inl rfl | exact Or.inr (Or.inl rfl) | exact Or.inr (Or.inr rfl)) (by decide) (by decide)) (sa_cons (se_ix (se_ix (se_v 6 (by rfl) (by first | exact Or.inl rfl | exact Or.inr (Or.inl rfl) | exact Or.inr (Or.inr rfl)) (by decide) (by decide)) (se_v 7 (by rfl) (by first | exact Or.inl rfl | exact Or.inr (Or.inl rfl) | exact Or.inr (Or.inr rfl)) (by decide) (by decide)) (by exact fun _ _ => rfl)) se_int (by exact fun _ _ => rfl)) (sa_cons (se_ix (se_ix (se_v 6 (by rfl) (by first | exact Or.inl rfl | exact Or.inr (Or.inl rfl) | exact Or.inr (Or.inr rfl)) (by decide) (by decide)) (se_v 7 (by rfl) (by first | exact Or.inl rfl | exact Or.inr (Or.inl rfl) | exact Or.inr (Or.inr rfl)) (by decide) (by decide)) (by exact fun _ _ => rfl)) se_int (by exact fun _ _ => rfl)) sa_nil (by rfl)) (by rfl)) (by rfl)) (by rfl) (by decide) (by rfl) (by rfl)) (by rfl) (by first | exact Or.inl rfl | exact Or.inr rfl) (by rfl) (by first | exact Or.inl rfl | exact Or.inr rfl))
    (sb_cons (ss_set 10 sc__law_right.nd (se_call h_clocks_at calm room (by decide) (sa_cons (se_v 1 (by rfl) (by first | exact Or.inl rfl | exact Or.inr (Or.inl rfl) | exact Or.inr (Or.inr rfl)) (by decide) (by decide)) (sa_cons (se_v 3 (by rfl) (by first | exact Or.inl rfl | exact Or.inr (Or.inl rfl) | exact Or.inr (Or.inr rfl)) (by decide) (by decide)) (sa_cons (se_v 7 (by rfl) (by first | exact Or.inl rfl | exact Or.inr (Or.inl rfl) | exact Or.inr (Or.inr rfl)) (by decide) (by decide)) (sa_cons (se_v 9 (by rfl) (by first | exact Or.inl rfl | exact Or.inr (Or.inl rfl) | exact Or.inr (Or.inr rfl)) (by decide) (by decide)) sa_nil (by rfl)) (by rfl)) (by rfl)) (by rfl)) (by rfl) (by decide) (by rfl) (by rfl)) (by rfl) (by first | exact Or.inl rfl | exact Or.inr rfl) (by rfl) (by first | exact Or.inl rfl | exact Or.inr rfl))
    (sb_cons (ss_if (st_w (sw_or (st_cmp op_isN sound_isN (se_v 10 (by rfl) (by first | exact Or.inl rfl | exact Or.inr (Or.inl rfl) | exact Or.inr (Or.inr rfl)) (by decide) (by decide)) se_non (by exact nomark _)) (sw_or (st_cmp (op_neD (room64 room)) sound_ne (se_b1 call_len sound_len W.z_len boot_len (se_v 10 (by rfl) (by first | exact Or.inl rfl | exact Or.inr (Or.inl rfl) | exact Or.inr (Or.inr rfl)) (by decide) (by decide)) (by rfl) (by decide) (by decide) (by rfl) (by rfl)) (se_v 1 (by rfl) (by first | exact Or.inl rfl | exact Or.inr (Or.inl rfl) | exact Or.inr (Or.inr rfl)) (by decide) (by decide)) (by exact nomark _)) (sw_or (st_cmp (op_neD (room64 room)) sound_ne (se_ix (se_v 10 (by rfl) (by first | exact Or.inl rfl | exact Or.inr (Or.inl rfl) | exact Or.inr (Or.inr rfl)) (by decide) (by decide)) (se_v 7 (by rfl) (by first | exact Or.inl rfl | exact Or.inr (Or.inl rfl) | exact Or.inr (Or.inr rfl)) (by decide) (by decide)) (by exact fun _ _ => rfl)) (se_v 9 (by rfl) (by first | exact Or.inl rfl | exact Or.inr (Or.inl rfl) | exact Or.inr (Or.inr rfl)) (by decide) (by decide)) (by exact nomark _)) (sw_or1 (st_cmp (op_neD (room64 room)) sound_ne (se_ix (se_v 10 (by rfl) (by first | exact Or.inl rfl | exact Or.inr (Or.inl rfl) | exact Or.inr (Or.inr rfl)) (by decide) (by decide)) se_int (by exact fun _ _ => rfl)) se_int (by exact nomark _))))))) (sb_one (ss_ret se_bl)) sb_nil)
    (sb_cons (ss_app (se_v 5 (by rfl) (by first | exact Or.inl rfl | exact Or.inr (Or.inl rfl) | exact Or.inr (Or.inr rfl)) (by decide) (by decide)) (se_v 10 (by rfl) (by first | exact Or.inl rfl | exact Or.inr (Or.inl rfl) | exact Or.inr (Or.inr rfl)) (by decide) (by decide)) (by rfl) (by rfl) (by rfl) (by rfl) (by rfl) (by rfl))
    (sb_cons (ss_for (si_seq (se_ix (se_v 6 (by rfl) (by first | exact Or.inl rfl | exact Or.inr (Or.inl rfl) | exact Or.inr (Or.inr rfl)) (by decide) (by decide)) (se_v 7 (by rfl) (by first | exact Or.inl rfl | exact Or.inr (Or.inl rfl) | exact Or.inr (Or.inr rfl)) (by decide) (by decide)) (by exact fun _ _ => rfl))) (sg_name (vs := [11]) 11 sc__law_right.nd (by rfl) (by first | exact Or.inl rfl | exact Or.inr rfl) (by decide) (by first | exact Or.inl rfl | exact Or.inr rfl)) (sb_one (ss_if (st_w (sw_and (st_cmp op_notN sound_notN (se_v 11 (by rfl) (by first | exact Or.inl rfl | exact Or.inr (Or.inl rfl) | exact Or.inr (Or.inr rfl)) (by decide) (by decide)) se_non (by exact nomark _)) (sw_and1 (st_cmp op_isN sound_isN (se_call h_clocks_at calm room (by decide) (sa_cons (se_v 1 (by rfl) (by first | exact Or.inl rfl | exact Or.inr (Or.inl rfl) | exact Or.inr (Or.inr rfl)) (by decide) (by decide)) (sa_cons (se_v 3 (by rfl) (by first | exact Or.inl rfl | exact Or.inr (Or.inl rfl) | exact Or.inr (Or.inr rfl)) (by decide) (by decide)) (sa_cons (se_v 7 (by rfl) (by first | exact Or.inl rfl | exact Or.inr (Or.inl rfl) | exact Or.inr (Or.inr rfl)) (by decide) (by decide)) (sa_cons (se_v 11 (by rfl) (by first | exact Or.inl rfl | exact Or.inr (Or.inl rfl) | exact Or.inr (Or.inr rfl)) (by decide) (by decide)) sa_nil (by rfl)) (by rfl)) (by rfl)) (by rfl)) (by rfl) (by decide) (by rfl) (by rfl)) se_non (by exact nomark _))))) (sb_one (ss_ret se_bl)) sb_nil)) (by exact PassesOwn.never) (by rfl) (by intro _; rfl))
    (sb_one (ss_if (st_w (sw_and (st_cmp op_notN sound_notN (se_ix (se_ix (se_v 6 (by rfl) (by first | exact Or.inl rfl | exact Or.inr (Or.inl rfl) | exact Or.inr (Or.inr rfl)) (by decide) (by decide)) (se_v 7 (by rfl) (by first | exact Or.inl rfl | exact Or.inr (Or.inl rfl) | exact Or.inr (Or.inr rfl)) (by decide) (by decide)) (by exact fun _ _ => rfl)) se_int (by exact fun _ _ => rfl)) se_non (by exact nomark _)) (sw_and1 (st_cmp op_notN sound_notN (se_call h_clocks_at calm room (by decide) (sa_cons (se_v 1 (by rfl) (by first | exact Or.inl rfl | exact Or.inr (Or.inl rfl) | exact Or.inr (Or.inr rfl)) (by decide) (by decide)) (sa_cons (se_v 3 (by rfl) (by first | exact Or.inl rfl | exact Or.inr (Or.inl rfl) | exact Or.inr (Or.inr rfl)) (by decide) (by decide)) (sa_cons (se_v 7 (by rfl) (by first | exact Or.inl rfl | exact Or.inr (Or.inl rfl) | exact Or.inr (Or.inr rfl)) (by decide) (by decide)) (sa_cons (se_op op_addA sound_add (se_ix (se_ix (se_v 6 (by rfl) (by first | exact Or.inl rfl | exact Or.inr (Or.inl rfl) | exact Or.inr (Or.inr rfl)) (by decide) (by decide)) (se_v 7 (by rfl) (by first | exact Or.inl rfl | exact Or.inr (Or.inl rfl) | exact Or.inr (Or.inr rfl)) (by decide) (by decide)) (by exact fun _ _ => rfl)) se_int (by exact fun _ _ => rfl)) se_int) sa_nil (by rfl)) (by rfl)) (by rfl)) (by rfl)) (by rfl) (by decide) (by rfl) (by rfl)) se_non (by exact nomark _))))) (sb_one (ss_ret se_bl)) sb_nil))))))) (by exact PassesOwn.never) (by rfl) (by intro _; rfl))
    (sb_cons (ss_ext (se_v 5 (by rfl) (by first | exact Or.inl rfl | exact Or.inr (Or.inl rfl) | exact Or.inr (Or.inr rfl)) (by decide) (by decide)) (so_lcif [("at", 15)] sc__law_right.nd (si_r1 W.z_range (sa_cons se_int sa_nil (by rfl)) (by rfl) (by rfl)) (fun _ _ _ _ _ => ⟨_, (sg_name 15 sc__law_right.nd (by rfl) (by first | exact Or.inl rfl | exact Or.inr rfl) (by decide) (by first | exact Or.inl rfl | exact Or.inr rfl))⟩) (fun _ _ _ _ _ => ⟨_, (st_cmpN (op_notInD (room65 room)) sound_notInL se_non (SO.se (so_lc [("end", 11)] sc__law_right.nd (si_seq (se_v 6 (by rfl) (by first | exact Or.inl rfl | exact Or.inr (Or.inl rfl) | exact Or.inr (Or.inr rfl)) (by decide) (by decide))) (fun _ _ _ _ _ => ⟨_, (sg_name 11 sc__law_right.nd (by rfl) (by first | exact Or.inl rfl | exact Or.inr rfl) (by decide) (by first | exact Or.inl rfl | exact Or.inr rfl))⟩) (fun _ _ _ _ _ => ⟨_, (se_ix (se_v 11 (by rfl) (by first | exact Or.inl rfl | exact Or.inr (Or.inl rfl) | exact Or.inr (Or.inr rfl)) (by decide) (by decide)) (se_v 15 (by rfl) (by first | exact Or.inl rfl | exact Or.inr (Or.inl rfl) | exact Or.inr (Or.inr rfl)) (by decide) (by decide)) (by exact fun _ _ => rfl))⟩) (by rfl) (by first | rfl | decide +kernel) (by intro _; rfl))) (by rfl))⟩) (fun _ _ _ _ _ => ⟨_, (se_t1 call_tuple_of sound_tuple W.z_tuple boot_tuple (SO.se (so_lc [("end", 11)] sc__law_right.nd (si_seq (se_v 6 (by rfl) (by first | exact Or.inl rfl | exact Or.inr (Or.inl rfl) | exact Or.inr (Or.inr rfl)) (by decide) (by decide))) (fun _ _ _ _ _ => ⟨_, (sg_name 11 sc__law_right.nd (by rfl) (by first | exact Or.inl rfl | exact Or.inr rfl) (by decide) (by first | exact Or.inl rfl | exact Or.inr rfl))⟩) (fun _ _ _ _ _ => ⟨_, (se_ix (se_v 11 (by rfl) (by first | exact Or.inl rfl | exact Or.inr (Or.inl rfl) | exact Or.inr (Or.inr rfl)) (by decide) (by decide)) (se_v 15 (by rfl) (by first | exact Or.inl rfl | exact Or.inr (Or.inl rfl) | exact Or.inr (Or.inr rfl)) (by decide) (by decide)) (by exact fun _ _ => rfl))⟩) (by rfl) (by first | rfl | decide +kernel) (by intro _; rfl))) (by rfl) (by decide) (by decide) (by rfl) (by rfl))⟩) (by rfl) (by first | rfl | decide +kernel) (by intro _; rfl)) (by rfl) (by rfl) (by rfl) (by rfl) (by rfl) (by rfl))
    (sb_cons (ss_for (si_seq (se_v 5 (by rfl) (by first | exact Or.inl rfl | exact Or.inr (Or.inl rfl) | exact Or.inr (Or.inr rfl)) (by decide) (by decide))) (sg_name (vs := [12]) 12 sc__law_right.nd (by rfl) (by first | exact Or.inl rfl | exact Or.inr rfl) (by decide) (by first | exact Or.inl rfl | exact Or.inr rfl)) (sb_cons (ss_if (st_not (st_val (se_call h_are_clocks calm room (by decide) (sa_cons (se_v 1 (by rfl) (by first | exact Or.inl rfl | exact Or.inr (Or.inl rfl) | exact Or.inr (Or.inr rfl)) (by decide) (by decide)) (sa_cons (se_v 3 (by rfl) (by first | exact Or.inl rfl | exact Or.inr (Or.inl rfl) | exact Or.inr (Or.inr rfl)) (by decide) (by decide)) (sa_cons (se_v 12 (by rfl) (by first | exact Or.inl rfl | exact Or.inr (Or.inl rfl) | exact Or.inr (Or.inr rfl)) (by decide) (by decide)) sa_nil (by rfl)) (by rfl)) (by rfl)) (by rfl) (by decide) (by rfl) (by rfl)) (by intro _; rfl))) (sb_one (ss_ret se_bl)) sb_nil)
    (sb_cons (ss_for (si_zip W.z_zip (sa_cons (se_v 6 (by rfl) (by first | exact Or.inl rfl | exact Or.inr (Or.inl rfl) | exact Or.inr (Or.inr rfl)) (by decide) (by decide)) (sa_cons (se_v 12 (by rfl) (by first | exact Or.inl rfl | exact Or.inr (Or.inl rfl) | exact Or.inr (Or.inr rfl)) (by decide) (by decide)) sa_nil (by rfl)) (by rfl)) (by rfl) (by rfl) (by rfl)) (sg_tup rfl (sgs_cons (sg_name (vs := [11, 9]) 11 sc__law_right.nd (by rfl) (by first | exact Or.inl rfl | exact Or.inr rfl) (by decide) (by first | exact Or.inl rfl | exact Or.inr rfl)) (sgs_cons (sg_name (vs := [11, 9]) 9 sc__law_right.nd (by rfl) (by first | exact Or.inl rfl | exact Or.inr rfl) (by decide) (by first | exact Or.inl rfl | exact Or.inr rfl)) sgs_nil (by rfl)) (by rfl)) (by rfl) (by rfl)) (sb_one (ss_if (st_cmp (op_neD (room64 room)) sound_ne (se_call h__law_bound calm room (by decide) (sa_cons (se_v 9 (by rfl) (by first | exact Or.inl rfl | exact Or.inr (Or.inl rfl) | exact Or.inr (Or.inr rfl)) (by decide) (by decide)) (sa_cons (se_ix (se_v 11 (by rfl) (by first | exact Or.inl rfl | exact Or.inr (Or.inl rfl) | exact Or.inr (Or.inr rfl)) (by decide) (by decide)) se_int (by exact fun _ _ => rfl)) (sa_cons (se_ix (se_v 11 (by rfl) (by first | exact Or.inl rfl | exact Or.inr (Or.inl rfl) | exact Or.inr (Or.inr rfl)) (by decide) (by decide)) se_int (by exact fun _ _ => rfl)) sa_nil (by rfl)) (by rfl)) (by rfl)) (by rfl) (by decide) (by rfl) (by rfl)) (se_v 9 (by rfl) (by first | exact Or.inl rfl | exact Or.inr (Or.inl rfl) | exact Or.inr (Or.inr rfl)) (by decide) (by decide)) (by exact nomark _)) (sb_one (ss_ret se_bl)) sb_nil)) (by exact PassesOwn.never) (by rfl) (by intro _; rfl))
    (sb_one (ss_for (si_seq (se_v 5 (by rfl) (by first | exact Or.inl rfl | exact Or.inr (Or.inl rfl) | exact Or.inr (Or.inr rfl)) (by decide) (by decide))) (sg_name (vs := [13]) 13 sc__law_right.nd (by rfl) (by first | exact Or.inl rfl | exact Or.inr rfl) (by decide) (by first | exact Or.inl rfl | exact Or.inr rfl)) (sb_one (ss_if (st_not (st_val (se_b1 (cr_all rfl) sound_all W.z_all boot_all (SO.se (so_lc [("some", 16)] sc__law_right.nd (si_seq (se_call h__law_lots calm room (by decide) (sa_cons (se_v 12 (by rfl) (by first | exact Or.inl rfl | exact Or.inr (Or.inl rfl) | exact Or.inr (Or.inr rfl)) (by decide) (by decide)) (sa_cons (se_v 13 (by rfl) (by first | exact Or.inl rfl | exact Or.inr (Or.inl rfl) | exact Or.inr (Or.inr rfl)) (by decide) (by decide)) sa_nil (by rfl)) (by rfl)) (by rfl) (by decide) (by rfl) (by rfl))) (fun _ _ _ _ _ => ⟨_, (sg_name 16 sc__law_right.nd (by rfl) (by first | exact Or.inl rfl | exact Or.inr rfl) (by decide) (by first | exact Or.inl rfl | exact Or.inr rfl))⟩) (fun _ _ _ _ _ => ⟨_, (se_call h_are_clocks calm room (by decide) (sa_cons (se_v 1 (by rfl) (by first | exact Or.inl rfl | exact Or.inr (Or.inl rfl) | exact Or.inr (Or.inr rfl)) (by decide) (by decide)) (sa_cons (se_v 3 (by rfl) (by first | exact Or.inl rfl | exact Or.inr (Or.inl rfl) | exact Or.inr (Or.inr rfl)) (by decide) (by decide)) (sa_cons (se_v 16 (by rfl) (by first | exact Or.inl rfl | exact Or.inr (Or.inl rfl) | exact Or.inr (Or.inr rfl)) (by decide) (by decide)) sa_nil (by rfl)) (by rfl)) (by rfl)) (by rfl) (by decide) (by rfl) (by rfl))⟩) (by rfl) (by first | rfl | decide +kernel) (by intro _; rfl))) (by rfl) (by decide) (by decide) (by rfl) (by rfl)) (by intro _; rfl))) (sb_one (ss_ret se_bl)) sb_nil)) (by exact PassesOwn.never) (by rfl) (by intro _; rfl))))) (by exact PassesOwn.never) (by rfl) (by intro _; rfl))
    (sb_one (ss_ret se_bl))))))))))⟩
theorem ok__law_pot (W : Z mg)  (D : Fun K "_law_pot" "_law_pot" s__law_pot f fd) (a : mg "_law_pot" = some (.ref f)) (bd : Binds K fd ["script", "place"] []) : Has P w K mg base 1 "_law_pot" ["script", "place"] [false, false] f__law_pot := by
  exact Has.mk' ["script", "place", "cell", "own", "small"] ["script", "place"] [false, false] b__law_pot D sc__law_pot rfl (by decide) rfl a bd fun cd A out s H E calm room => ⟨_, (sb_cons (ss_set 2 sc__law_pot.nd (se_if (st_cmp op_lt sound_cmpI (se_v 1 (by rfl) (by first | exact Or.inl rfl | exact Or.inr (Or.inl rfl) | exact Or.inr (Or.inr rfl)) (by decide) (by decide)) (se_b1 call_len sound_len W.z_len boot_len (se_v 0 (by rfl) (by first | exact Or.inl rfl | exact Or.inr (Or.inl rfl) | exact Or.inr (Or.inr rfl)) (by decide) (by decide)) (by rfl) (by decide) (by decide) (by rfl) (by rfl)) (by exact nomark _)) (se_ix (se_v 0 (by rfl) (by first | exact Or.inl rfl | exact Or.inr (Or.inl rfl) | exact Or.inr (Or.inr rfl)) (by decide) (by decide)) (se_v 1 (by rfl) (by first | exact Or.inl rfl | exact Or.inr (Or.inl rfl) | exact Or.inr (Or.inr rfl)) (by decide) (by decide)) (by exact fun _ _ => rfl)) (se_op op_addA sound_add (se_op op_addA sound_add (se_op op_modN sound_mod (se_t1 call_int1 sound_int W.z_int boot_int (se_b1 (cr_sum rfl) sound_sum W.z_sum boot_sum (SO.se (so_slL (se_v 0 (by rfl) (by first | exact Or.inl rfl | exact Or.inr (Or.inl rfl) | exact Or.inr (Or.inr rfl)) (by decide) (by decide)) sp_no (sp_so se_int))) (by rfl) (by decide) (by decide) (by rfl) (by rfl)) (by rfl) (by decide) (by decide) (by rfl) (by rfl)) se_int) (se_op op_mulA sound_mul se_int (se_v 1 (by rfl) (by first | exact Or.inl rfl | exact Or.inr (Or.inl rfl) | exact Or.inr (Or.inr rfl)) (by decide) (by decide)))) se_int)) (by rfl) (by first | exact Or.inl rfl | exact Or.inr rfl) (by rfl) (by first | exact Or.inl rfl | exact Or.inr rfl))
    (sb_cons (ss_set 3 sc__law_pot.nd (se_op op_mulA sound_mul (se_op op_modN sound_mod (se_t1 call_int1 sound_int W.z_int boot_int (se_b1 call_abs sound_abs W.z_abs boot_abs (se_v 2 (by rfl) (by first | exact Or.inl rfl | exact Or.inr (Or.inl rfl) | exact Or.inr (Or.inr rfl)) (by decide) (by decide)) (by rfl) (by decide) (by decide) (by rfl) (by rfl)) (by rfl) (by decide) (by decide) (by rfl) (by rfl)) (se_op op_powA sound_pow (se_op op_powA sound_pow se_int se_int) se_int)) (se_t1 call_int1 sound_int W.z_int boot_int (se_cmp op_ge sound_cmpI (se_b1 call_abs sound_abs W.z_abs boot_abs (se_v 2 (by rfl) (by first | exact Or.inl rfl | exact Or.inr (Or.inl rfl) | exact Or.inr (Or.inr rfl)) (by decide) (by decide)) (by rfl) (by decide) (by decide) (by rfl) (by rfl)) (se_op op_powA sound_pow se_int se_int) (by exact nomark _)) (by rfl) (by decide) (by decide) (by rfl) (by rfl))) (by rfl) (by first | exact Or.inl rfl | exact Or.inr rfl) (by rfl) (by first | exact Or.inl rfl | exact Or.inr rfl))
    (sb_cons (ss_set 4 sc__law_pot.nd (se_op op_modN sound_mod (se_t1 call_int1 sound_int W.z_int boot_int (se_v 2 (by rfl) (by first | exact Or.inl rfl | exact Or.inr (Or.inl rfl) | exact Or.inr (Or.inr rfl)) (by decide) (by decide)) (by rfl) (by decide) (by decide) (by rfl) (by rfl)) se_int) (by rfl) (by first | exact Or.inl rfl | exact Or.inr rfl) (by rfl) (by first | exact Or.inl rfl | exact Or.inr rfl))
    (sb_one (ss_retO (so_lst (sa_cons (se_v 3 (by rfl) (by first | exact Or.inl rfl | exact Or.inr (Or.inl rfl) | exact Or.inr (Or.inr rfl)) (by decide) (by decide)) (sa_cons (se_op op_modN sound_mod (se_t1 call_int1 sound_int W.z_int boot_int (se_op op_addA sound_add (se_op op_addA sound_add (se_op op_mulA sound_mul (se_v 4 (by rfl) (by first | exact Or.inl rfl | exact Or.inr (Or.inl rfl) | exact Or.inr (Or.inr rfl)) (by decide) (by decide)) se_int) (se_op op_mulA sound_mul (se_op op_mulA sound_mul se_int (se_v 1 (by rfl) (by first | exact Or.inl rfl | exact Or.inr (Or.inl rfl) | exact Or.inr (Or.inr rfl)) (by decide) (by decide))) (se_v 1 (by rfl) (by first | exact Or.inl rfl | exact Or.inr (Or.inl rfl) | exact Or.inr (Or.inr rfl)) (by decide) (by decide)))) se_int) (by rfl) (by decide) (by decide) (by rfl) (by rfl)) se_int) (sa_cons se_int sa_nil (by rfl)) (by rfl)) (by rfl))))))))⟩
theorem ok_law (W : Z mg) (h__law_right : Has P w K mg base 7 "_law_right" ["pot"] [true] f__law_right) (h__law_pot : Has P w K mg base 1 "_law_pot" ["script", "place"] [false, false] f__law_pot) (D : Fun K "law" "law" s_law f fd) : FnG P w K mg base CX0 8 f fd 1 ["script"] (spF K mg [false] f_law) := by
  exact law_mk ["script", "place"] ["script"] [false] b_law D sc_law rfl (by decide) rfl fun cd A out s H E calm room => ⟨_, (sb_one (ss_ret (se_b1 (cr_all rfl) sound_all W.z_all boot_all (SO.se (so_lc [("place", 1)] sc_law.nd (si_r1 W.z_range (sa_cons (se_b2 (call_max2 rfl) sound_max2 W.z_max boot_max se_int (se_b2 (call_min2 rfl) sound_min2 W.z_min boot_min se_int (se_b1 call_len sound_len W.z_len boot_len (se_v 0 (by rfl) (by first | exact Or.inl rfl | exact Or.inr (Or.inl rfl) | exact Or.inr (Or.inr rfl)) (by decide) (by decide)) (by rfl) (by decide) (by decide) (by rfl) (by rfl)) (by rfl) (by decide) (by decide) (by rfl) (by rfl) (by rfl)) (by rfl) (by decide) (by decide) (by rfl) (by rfl) (by rfl)) sa_nil (by rfl)) (by rfl) (by rfl)) (fun _ _ _ _ _ => ⟨_, (sg_name 1 sc_law.nd (by rfl) (by first | exact Or.inl rfl | exact Or.inr rfl) (by decide) (by first | exact Or.inl rfl | exact Or.inr rfl))⟩) (fun _ _ _ _ _ => ⟨_, (se_callT h__law_right calm room (by decide) (so_call h__law_pot calm room (by decide) (sa_cons (se_v 0 (by rfl) (by first | exact Or.inl rfl | exact Or.inr (Or.inl rfl) | exact Or.inr (Or.inr rfl)) (by decide) (by decide)) (sa_cons (se_v 1 (by rfl) (by first | exact Or.inl rfl | exact Or.inr (Or.inl rfl) | exact Or.inr (Or.inr rfl)) (by decide) (by decide)) sa_nil (by rfl)) (by rfl)) (by rfl) (by decide) (by rfl) (by rfl)) (by rfl) (by decide) (by rfl) (by rfl))⟩) (by rfl) (by first | rfl | decide +kernel) (by intro _; rfl))) (by rfl) (by decide) (by decide) (by rfl) (by rfl))))⟩
end
theorem all {l : PySem.W.OpenLaw} {w : World} {K : PySem.W.Frag} {h : Heap} {mg : Str → Option Value} {fa : Addr} (X : K.In h) (G : h.Ns mainGlobals mg) (hfa : mg "law" = some (.ref fa))
    {f0 : Addr} {od0 an0 : Option Addr} {sl0 : Array (Option Value)} {oc0 kV0 dc0 pm0 cd0 ct0 : Value}
    (a0 : PySem.W.nsIn K mainGlobals "_law_lots" = some (some (.ref f0))) (l0 : K.lookup f0 = some ⟨oc0, od0, .func (PySem.W.fnOf "_law_lots" "_law_lots" (defArgs s__law_lots) (defBody s__law_lots) (defScope s__law_lots) .none kV0 dc0 pm0 an0 cd0 ct0), sl0⟩) (c0 : PySem.W.codeIn K cd0 "_law_lots" = true) (k0 : PySem.W.keepIn K (.ref f0) = true)
    {f1 : Addr} {od1 an1 : Option Addr} {sl1 : Array (Option Value)} {oc1 kV1 dc1 pm1 cd1 ct1 : Value}
    (a1 : PySem.W.nsIn K mainGlobals "keeps" = some (some (.ref f1))) (l1 : K.lookup f1 = some ⟨oc1, od1, .func (PySem.W.fnOf "keeps" "keeps" (defArgs s_keeps) (defBody s_keeps) (defScope s_keeps) .none kV1 dc1 pm1 an1 cd1 ct1), sl1⟩) (c1 : PySem.W.codeIn K cd1 "keeps" = true) (k1 : PySem.W.keepIn K (.ref f1) = true)
    {f2 : Addr} {od2 an2 : Option Addr} {sl2 : Array (Option Value)} {oc2 kV2 dc2 pm2 cd2 ct2 : Value}
    (a2 : PySem.W.nsIn K mainGlobals "is_whole" = some (some (.ref f2))) (l2 : K.lookup f2 = some ⟨oc2, od2, .func (PySem.W.fnOf "is_whole" "is_whole" (defArgs s_is_whole) (defBody s_is_whole) (defScope s_is_whole) .none kV2 dc2 pm2 an2 cd2 ct2), sl2⟩) (c2 : PySem.W.codeIn K cd2 "is_whole" = true) (k2 : PySem.W.keepIn K (.ref f2) = true)
    {f3 : Addr} {od3 an3 : Option Addr} {sl3 : Array (Option Value)} {oc3 kV3 dc3 pm3 cd3 ct3 : Value}
    (a3 : PySem.W.nsIn K mainGlobals "are_kept" = some (some (.ref f3))) (l3 : K.lookup f3 = some ⟨oc3, od3, .func (PySem.W.fnOf "are_kept" "are_kept" (defArgs s_are_kept) (defBody s_are_kept) (defScope s_are_kept) .none kV3 dc3 pm3 an3 cd3 ct3), sl3⟩) (c3 : PySem.W.codeIn K cd3 "are_kept" = true) (k3 : PySem.W.keepIn K (.ref f3) = true)
    {f4 : Addr} {od4 an4 : Option Addr} {sl4 : Array (Option Value)} {oc4 kV4 dc4 pm4 cd4 ct4 : Value}
    (a4 : PySem.W.nsIn K mainGlobals "is_between" = some (some (.ref f4))) (l4 : K.lookup f4 = some ⟨oc4, od4, .func (PySem.W.fnOf "is_between" "is_between" (defArgs s_is_between) (defBody s_is_between) (defScope s_is_between) .none kV4 dc4 pm4 an4 cd4 ct4), sl4⟩) (c4 : PySem.W.codeIn K cd4 "is_between" = true) (k4 : PySem.W.keepIn K (.ref f4) = true)
    {f5 : Addr} {od5 an5 : Option Addr} {sl5 : Array (Option Value)} {oc5 kV5 dc5 pm5 cd5 ct5 : Value}
    (a5 : PySem.W.nsIn K mainGlobals "is_fact" = some (some (.ref f5))) (l5 : K.lookup f5 = some ⟨oc5, od5, .func (PySem.W.fnOf "is_fact" "is_fact" (defArgs s_is_fact) (defBody s_is_fact) (defScope s_is_fact) .none kV5 dc5 pm5 an5 cd5 ct5), sl5⟩) (c5 : PySem.W.codeIn K cd5 "is_fact" = true) (k5 : PySem.W.keepIn K (.ref f5) = true)
    {f6 : Addr} {od6 an6 : Option Addr} {sl6 : Array (Option Value)} {oc6 kV6 dc6 pm6 cd6 ct6 : Value}
    (a6 : PySem.W.nsIn K mainGlobals "are_facts" = some (some (.ref f6))) (l6 : K.lookup f6 = some ⟨oc6, od6, .func (PySem.W.fnOf "are_facts" "are_facts" (defArgs s_are_facts) (defBody s_are_facts) (defScope s_are_facts) .none kV6 dc6 pm6 an6 cd6 ct6), sl6⟩) (c6 : PySem.W.codeIn K cd6 "are_facts" = true) (k6 : PySem.W.keepIn K (.ref f6) = true)
    {f7 : Addr} {od7 an7 : Option Addr} {sl7 : Array (Option Value)} {oc7 kV7 dc7 pm7 cd7 ct7 : Value}
    (a7 : PySem.W.nsIn K mainGlobals "check_facts" = some (some (.ref f7))) (l7 : K.lookup f7 = some ⟨oc7, od7, .func (PySem.W.fnOf "check_facts" "check_facts" (defArgs s_check_facts) (defBody s_check_facts) (defScope s_check_facts) .none kV7 dc7 pm7 an7 cd7 ct7), sl7⟩) (c7 : PySem.W.codeIn K cd7 "check_facts" = true) (k7 : PySem.W.keepIn K (.ref f7) = true)
    {f8 : Addr} {od8 an8 : Option Addr} {sl8 : Array (Option Value)} {oc8 kV8 dc8 pm8 cd8 ct8 : Value}
    (a8 : PySem.W.nsIn K mainGlobals "are_clocks" = some (some (.ref f8))) (l8 : K.lookup f8 = some ⟨oc8, od8, .func (PySem.W.fnOf "are_clocks" "are_clocks" (defArgs s_are_clocks) (defBody s_are_clocks) (defScope s_are_clocks) .none kV8 dc8 pm8 an8 cd8 ct8), sl8⟩) (c8 : PySem.W.codeIn K cd8 "are_clocks" = true) (k8 : PySem.W.keepIn K (.ref f8) = true)
    {f9 : Addr} {od9 an9 : Option Addr} {sl9 : Array (Option Value)} {oc9 kV9 dc9 pm9 cd9 ct9 : Value}
    (a9 : PySem.W.nsIn K mainGlobals "_law_bound" = some (some (.ref f9))) (l9 : K.lookup f9 = some ⟨oc9, od9, .func (PySem.W.fnOf "_law_bound" "_law_bound" (defArgs s__law_bound) (defBody s__law_bound) (defScope s__law_bound) .none kV9 dc9 pm9 an9 cd9 ct9), sl9⟩) (c9 : PySem.W.codeIn K cd9 "_law_bound" = true) (k9 : PySem.W.keepIn K (.ref f9) = true)
    {f10 : Addr} {od10 an10 : Option Addr} {sl10 : Array (Option Value)} {oc10 kV10 dc10 pm10 cd10 ct10 : Value}
    (a10 : PySem.W.nsIn K mainGlobals "nearest" = some (some (.ref f10))) (l10 : K.lookup f10 = some ⟨oc10, od10, .func (PySem.W.fnOf "nearest" "nearest" (defArgs s_nearest) (defBody s_nearest) (defScope s_nearest) .none kV10 dc10 pm10 an10 cd10 ct10), sl10⟩) (c10 : PySem.W.codeIn K cd10 "nearest" = true) (k10 : PySem.W.keepIn K (.ref f10) = true)
    {f11 : Addr} {od11 an11 : Option Addr} {sl11 : Array (Option Value)} {oc11 kV11 dc11 pm11 cd11 ct11 : Value}
    (a11 : PySem.W.nsIn K mainGlobals "lesser" = some (some (.ref f11))) (l11 : K.lookup f11 = some ⟨oc11, od11, .func (PySem.W.fnOf "lesser" "lesser" (defArgs s_lesser) (defBody s_lesser) (defScope s_lesser) .none kV11 dc11 pm11 an11 cd11 ct11), sl11⟩) (c11 : PySem.W.codeIn K cd11 "lesser" = true) (k11 : PySem.W.keepIn K (.ref f11) = true)
    {f12 : Addr} {od12 an12 : Option Addr} {sl12 : Array (Option Value)} {oc12 kV12 dc12 pm12 cd12 ct12 : Value}
    (a12 : PySem.W.nsIn K mainGlobals "together" = some (some (.ref f12))) (l12 : K.lookup f12 = some ⟨oc12, od12, .func (PySem.W.fnOf "together" "together" (defArgs s_together) (defBody s_together) (defScope s_together) .none kV12 dc12 pm12 an12 cd12 ct12), sl12⟩) (c12 : PySem.W.codeIn K cd12 "together" = true) (k12 : PySem.W.keepIn K (.ref f12) = true)
    {f13 : Addr} {od13 an13 : Option Addr} {sl13 : Array (Option Value)} {oc13 kV13 dc13 pm13 cd13 ct13 : Value}
    (a13 : PySem.W.nsIn K mainGlobals "low" = some (some (.ref f13))) (l13 : K.lookup f13 = some ⟨oc13, od13, .func (PySem.W.fnOf "low" "low" (defArgs s_low) (defBody s_low) (defScope s_low) .none kV13 dc13 pm13 an13 cd13 ct13), sl13⟩) (c13 : PySem.W.codeIn K cd13 "low" = true) (k13 : PySem.W.keepIn K (.ref f13) = true)
    {f14 : Addr} {od14 an14 : Option Addr} {sl14 : Array (Option Value)} {oc14 kV14 dc14 pm14 cd14 ct14 : Value}
    (a14 : PySem.W.nsIn K mainGlobals "high" = some (some (.ref f14))) (l14 : K.lookup f14 = some ⟨oc14, od14, .func (PySem.W.fnOf "high" "high" (defArgs s_high) (defBody s_high) (defScope s_high) .none kV14 dc14 pm14 an14 cd14 ct14), sl14⟩) (c14 : PySem.W.codeIn K cd14 "high" = true) (k14 : PySem.W.keepIn K (.ref f14) = true)
    {f15 : Addr} {od15 an15 : Option Addr} {sl15 : Array (Option Value)} {oc15 kV15 dc15 pm15 cd15 ct15 : Value}
    (a15 : PySem.W.nsIn K mainGlobals "ends_by" = some (some (.ref f15))) (l15 : K.lookup f15 = some ⟨oc15, od15, .func (PySem.W.fnOf "ends_by" "ends_by" (defArgs s_ends_by) (defBody s_ends_by) (defScope s_ends_by) .none kV15 dc15 pm15 an15 cd15 ct15), sl15⟩) (c15 : PySem.W.codeIn K cd15 "ends_by" = true) (k15 : PySem.W.keepIn K (.ref f15) = true)
    {f16 : Addr} {od16 an16 : Option Addr} {sl16 : Array (Option Value)} {oc16 kV16 dc16 pm16 cd16 ct16 : Value}
    (a16 : PySem.W.nsIn K mainGlobals "are_within" = some (some (.ref f16))) (l16 : K.lookup f16 = some ⟨oc16, od16, .func (PySem.W.fnOf "are_within" "are_within" (defArgs s_are_within) (defBody s_are_within) (defScope s_are_within) .none kV16 dc16 pm16 an16 cd16 ct16), sl16⟩) (c16 : PySem.W.codeIn K cd16 "are_within" = true) (k16 : PySem.W.keepIn K (.ref f16) = true)
    {f17 : Addr} {od17 an17 : Option Addr} {sl17 : Array (Option Value)} {oc17 kV17 dc17 pm17 cd17 ct17 : Value}
    (a17 : PySem.W.nsIn K mainGlobals "sides_of" = some (some (.ref f17))) (l17 : K.lookup f17 = some ⟨oc17, od17, .func (PySem.W.fnOf "sides_of" "sides_of" (defArgs s_sides_of) (defBody s_sides_of) (defScope s_sides_of) .none kV17 dc17 pm17 an17 cd17 ct17), sl17⟩) (c17 : PySem.W.codeIn K cd17 "sides_of" = true) (k17 : PySem.W.keepIn K (.ref f17) = true)
    {f18 : Addr} {od18 an18 : Option Addr} {sl18 : Array (Option Value)} {oc18 kV18 dc18 pm18 cd18 ct18 : Value}
    (a18 : PySem.W.nsIn K mainGlobals "highs" = some (some (.ref f18))) (l18 : K.lookup f18 = some ⟨oc18, od18, .func (PySem.W.fnOf "highs" "highs" (defArgs s_highs) (defBody s_highs) (defScope s_highs) .none kV18 dc18 pm18 an18 cd18 ct18), sl18⟩) (c18 : PySem.W.codeIn K cd18 "highs" = true) (k18 : PySem.W.keepIn K (.ref f18) = true)
    {f19 : Addr} {od19 an19 : Option Addr} {sl19 : Array (Option Value)} {oc19 kV19 dc19 pm19 cd19 ct19 : Value}
    (a19 : PySem.W.nsIn K mainGlobals "check_round" = some (some (.ref f19))) (l19 : K.lookup f19 = some ⟨oc19, od19, .func (PySem.W.fnOf "check_round" "check_round" (defArgs s_check_round) (defBody s_check_round) (defScope s_check_round) .none kV19 dc19 pm19 an19 cd19 ct19), sl19⟩) (c19 : PySem.W.codeIn K cd19 "check_round" = true) (k19 : PySem.W.keepIn K (.ref f19) = true)
    {f20 : Addr} {od20 an20 : Option Addr} {sl20 : Array (Option Value)} {oc20 kV20 dc20 pm20 cd20 ct20 : Value}
    (a20 : PySem.W.nsIn K mainGlobals "check_site" = some (some (.ref f20))) (l20 : K.lookup f20 = some ⟨oc20, od20, .func (PySem.W.fnOf "check_site" "check_site" (defArgs s_check_site) (defBody s_check_site) (defScope s_check_site) .none kV20 dc20 pm20 an20 cd20 ct20), sl20⟩) (c20 : PySem.W.codeIn K cd20 "check_site" = true) (k20 : PySem.W.keepIn K (.ref f20) = true)
    {f21 : Addr} {od21 an21 : Option Addr} {sl21 : Array (Option Value)} {oc21 kV21 dc21 pm21 cd21 ct21 : Value}
    (a21 : PySem.W.nsIn K mainGlobals "clocks_at" = some (some (.ref f21))) (l21 : K.lookup f21 = some ⟨oc21, od21, .func (PySem.W.fnOf "clocks_at" "clocks_at" (defArgs s_clocks_at) (defBody s_clocks_at) (defScope s_clocks_at) .none kV21 dc21 pm21 an21 cd21 ct21), sl21⟩) (c21 : PySem.W.codeIn K cd21 "clocks_at" = true) (k21 : PySem.W.keepIn K (.ref f21) = true)
    {f22 : Addr} {od22 an22 : Option Addr} {sl22 : Array (Option Value)} {oc22 kV22 dc22 pm22 cd22 ct22 : Value}
    (a22 : PySem.W.nsIn K mainGlobals "bounds" = some (some (.ref f22))) (l22 : K.lookup f22 = some ⟨oc22, od22, .func (PySem.W.fnOf "bounds" "bounds" (defArgs s_bounds) (defBody s_bounds) (defScope s_bounds) .none kV22 dc22 pm22 an22 cd22 ct22), sl22⟩) (c22 : PySem.W.codeIn K cd22 "bounds" = true) (k22 : PySem.W.keepIn K (.ref f22) = true)
    {f23 : Addr} {od23 an23 : Option Addr} {sl23 : Array (Option Value)} {oc23 kV23 dc23 pm23 cd23 ct23 : Value}
    (a23 : PySem.W.nsIn K mainGlobals "_law_take" = some (some (.ref f23))) (l23 : K.lookup f23 = some ⟨oc23, od23, .func (PySem.W.fnOf "_law_take" "_law_take" (defArgs s__law_take) (defBody s__law_take) (defScope s__law_take) .none kV23 dc23 pm23 an23 cd23 ct23), sl23⟩) (c23 : PySem.W.codeIn K cd23 "_law_take" = true) (k23 : PySem.W.keepIn K (.ref f23) = true)
    {f24 : Addr} {od24 an24 : Option Addr} {sl24 : Array (Option Value)} {oc24 kV24 dc24 pm24 cd24 ct24 : Value}
    (a24 : PySem.W.nsIn K mainGlobals "_law_of" = some (some (.ref f24))) (l24 : K.lookup f24 = some ⟨oc24, od24, .func (PySem.W.fnOf "_law_of" "_law_of" (defArgs s__law_of) (defBody s__law_of) (defScope s__law_of) .none kV24 dc24 pm24 an24 cd24 ct24), sl24⟩) (c24 : PySem.W.codeIn K cd24 "_law_of" = true) (k24 : PySem.W.keepIn K (.ref f24) = true)
    {f25 : Addr} {od25 an25 : Option Addr} {sl25 : Array (Option Value)} {oc25 kV25 dc25 pm25 cd25 ct25 : Value}
    (a25 : PySem.W.nsIn K mainGlobals "_law_drawn_fact" = some (some (.ref f25))) (l25 : K.lookup f25 = some ⟨oc25, od25, .func (PySem.W.fnOf "_law_drawn_fact" "_law_drawn_fact" (defArgs s__law_drawn_fact) (defBody s__law_drawn_fact) (defScope s__law_drawn_fact) .none kV25 dc25 pm25 an25 cd25 ct25), sl25⟩) (c25 : PySem.W.codeIn K cd25 "_law_drawn_fact" = true) (k25 : PySem.W.keepIn K (.ref f25) = true)
    {f26 : Addr} {od26 an26 : Option Addr} {sl26 : Array (Option Value)} {oc26 kV26 dc26 pm26 cd26 ct26 : Value}
    (a26 : PySem.W.nsIn K mainGlobals "_law_facts" = some (some (.ref f26))) (l26 : K.lookup f26 = some ⟨oc26, od26, .func (PySem.W.fnOf "_law_facts" "_law_facts" (defArgs s__law_facts) (defBody s__law_facts) (defScope s__law_facts) .none kV26 dc26 pm26 an26 cd26 ct26), sl26⟩) (c26 : PySem.W.codeIn K cd26 "_law_facts" = true) (k26 : PySem.W.keepIn K (.ref f26) = true)
    {f27 : Addr} {od27 an27 : Option Addr} {sl27 : Array (Option Value)} {oc27 kV27 dc27 pm27 cd27 ct27 : Value}
    (a27 : PySem.W.nsIn K mainGlobals "_law_offsets" = some (some (.ref f27))) (l27 : K.lookup f27 = some ⟨oc27, od27, .func (PySem.W.fnOf "_law_offsets" "_law_offsets" (defArgs s__law_offsets) (defBody s__law_offsets) (defScope s__law_offsets) .none kV27 dc27 pm27 an27 cd27 ct27), sl27⟩) (c27 : PySem.W.codeIn K cd27 "_law_offsets" = true) (k27 : PySem.W.keepIn K (.ref f27) = true)
    {f28 : Addr} {od28 an28 : Option Addr} {sl28 : Array (Option Value)} {oc28 kV28 dc28 pm28 cd28 ct28 : Value}
    (a28 : PySem.W.nsIn K mainGlobals "_law_right" = some (some (.ref f28))) (l28 : K.lookup f28 = some ⟨oc28, od28, .func (PySem.W.fnOf "_law_right" "_law_right" (defArgs s__law_right) (defBody s__law_right) (defScope s__law_right) .none kV28 dc28 pm28 an28 cd28 ct28), sl28⟩) (c28 : PySem.W.codeIn K cd28 "_law_right" = true) (k28 : PySem.W.keepIn K (.ref f28) = true)
    {f29 : Addr} {od29 an29 : Option Addr} {sl29 : Array (Option Value)} {oc29 kV29 dc29 pm29 cd29 ct29 : Value}
    (a29 : PySem.W.nsIn K mainGlobals "_law_pot" = some (some (.ref f29))) (l29 : K.lookup f29 = some ⟨oc29, od29, .func (PySem.W.fnOf "_law_pot" "_law_pot" (defArgs s__law_pot) (defBody s__law_pot) (defScope s__law_pot) .none kV29 dc29 pm29 an29 cd29 ct29), sl29⟩) (c29 : PySem.W.codeIn K cd29 "_law_pot" = true) (k29 : PySem.W.keepIn K (.ref f29) = true)
    {f30 : Addr} {od30 an30 : Option Addr} {sl30 : Array (Option Value)} {oc30 kV30 dc30 pm30 cd30 ct30 : Value}
    (a30 : PySem.W.nsIn K mainGlobals "law" = some (some (.ref f30))) (l30 : K.lookup f30 = some ⟨oc30, od30, .func (PySem.W.fnOf "law" "law" (defArgs s_law) (defBody s_law) (defScope s_law) .none kV30 dc30 pm30 an30 cd30 ct30), sl30⟩) (c30 : PySem.W.codeIn K cd30 "law" = true) (k30 : PySem.W.keepIn K (.ref f30) = true)
    (z_abs : PySem.W.nsIn K mainGlobals "abs" = some none)
    (z_all : PySem.W.nsIn K mainGlobals "all" = some none)
    (z_bool : PySem.W.nsIn K mainGlobals "bool" = some none)
    (z_enumerate : PySem.W.nsIn K mainGlobals "enumerate" = some none)
    (z_int : PySem.W.nsIn K mainGlobals "int" = some none)
    (z_isinstance : PySem.W.nsIn K mainGlobals "isinstance" = some none)
    (z_len : PySem.W.nsIn K mainGlobals "len" = some none)
    (z_list : PySem.W.nsIn K mainGlobals "list" = some none)
    (z_max : PySem.W.nsIn K mainGlobals "max" = some none)
    (z_min : PySem.W.nsIn K mainGlobals "min" = some none)
    (z_range : PySem.W.nsIn K mainGlobals "range" = some none)
    (z_sum : PySem.W.nsIn K mainGlobals "sum" = some none)
    (z_tuple : PySem.W.nsIn K mainGlobals "tuple" = some none)
    (z_zip : PySem.W.nsIn K mainGlobals "zip" = some none)
    {t_FACT_PARTS : Tok} (c_FACT_PARTS : PySem.W.nsIn K mainGlobals "FACT_PARTS" = some (some (.int 6 t_FACT_PARTS)))
    {t_LEAST : Tok} (c_LEAST : PySem.W.nsIn K mainGlobals "LEAST" = some (some (.str "least" t_LEAST)))
    {t_MOST : Tok} (c_MOST : PySem.W.nsIn K mainGlobals "MOST" = some (some (.str "most" t_MOST)))
    {t_MOST_FACTS : Tok} (c_MOST_FACTS : PySem.W.nsIn K mainGlobals "MOST_FACTS" = some (some (.int 60 t_MOST_FACTS)))
    {t_MOST_READING : Tok} (c_MOST_READING : PySem.W.nsIn K mainGlobals "MOST_READING" = some (some (.int 1000000000 t_MOST_READING)))
    {t_MOST_SITES : Tok} (c_MOST_SITES : PySem.W.nsIn K mainGlobals "MOST_SITES" = some (some (.int 12 t_MOST_SITES)))
    {t_MOST_TICK : Tok} (c_MOST_TICK : PySem.W.nsIn K mainGlobals "MOST_TICK" = some (some (.int 9999 t_MOST_TICK)))
    : ∃ fd : FuncData, (∀ (s : Shared) (u : Value), BindsTo s fd ⟨[u], []⟩ [("script", u)]) ∧ ∀ base : Heap, K.In base → base.Ns mainGlobals mg → FnG l.prog w K mg base CX0 8 fa fd 1 ["script"] (spF K mg [false] f_law) := by
  have e := hfa.symm.trans (PySem.W.mg_of X G a30)
  cases e
  have W : Z mg := {
    z_abs := PySem.W.mg_none_of X G z_abs
    z_all := PySem.W.mg_none_of X G z_all
    z_bool := PySem.W.mg_none_of X G z_bool
    z_enumerate := PySem.W.mg_none_of X G z_enumerate
    z_int := PySem.W.mg_none_of X G z_int
    z_isinstance := PySem.W.mg_none_of X G z_isinstance
    z_len := PySem.W.mg_none_of X G z_len
    z_list := PySem.W.mg_none_of X G z_list
    z_max := PySem.W.mg_none_of X G z_max
    z_min := PySem.W.mg_none_of X G z_min
    z_range := PySem.W.mg_none_of X G z_range
    z_sum := PySem.W.mg_none_of X G z_sum
    z_tuple := PySem.W.mg_none_of X G z_tuple
    z_zip := PySem.W.mg_none_of X G z_zip
    c_FACT_PARTS := ⟨_, PySem.W.mg_of X G c_FACT_PARTS, ⟨_, rfl⟩⟩
    c_LEAST := ⟨_, PySem.W.mg_of X G c_LEAST, ⟨_, rfl⟩⟩
    c_MOST := ⟨_, PySem.W.mg_of X G c_MOST, ⟨_, rfl⟩⟩
    c_MOST_FACTS := ⟨_, PySem.W.mg_of X G c_MOST_FACTS, ⟨_, rfl⟩⟩
    c_MOST_READING := ⟨_, PySem.W.mg_of X G c_MOST_READING, ⟨_, rfl⟩⟩
    c_MOST_SITES := ⟨_, PySem.W.mg_of X G c_MOST_SITES, ⟨_, rfl⟩⟩
    c_MOST_TICK := ⟨_, PySem.W.mg_of X G c_MOST_TICK, ⟨_, rfl⟩⟩
  }
  have F0 := fun_mk (st := s__law_lots) l0 c0 k0
  have b0 := F0.binds (ps := ["one", "other"]) fun _ _ _ _ _ _ us hl => match us, hl with | [_, _], _ => rfl
  have F1 := fun_mk (st := s_keeps) l1 c1 k1
  have b1 := F1.binds (ps := ["clocks", "fact"]) fun _ _ _ _ _ _ us hl => match us, hl with | [_, _], _ => rfl
  have F2 := fun_mk (st := s_is_whole) l2 c2 k2
  have b2 := F2.binds (ps := ["value"]) fun _ _ _ _ _ _ us hl => match us, hl with | [_], _ => rfl
  have F3 := fun_mk (st := s_are_kept) l3 c3 k3
  have b3 := F3.binds (ps := ["many", "facts", "value"]) fun _ _ _ _ _ _ us hl => match us, hl with | [_, _, _], _ => rfl
  have F4 := fun_mk (st := s_is_between) l4 c4 k4
  have b4 := F4.binds (ps := ["value", "low", "high"]) fun _ _ _ _ _ _ us hl => match us, hl with | [_, _, _], _ => rfl
  have F5 := fun_mk (st := s_is_fact) l5 c5 k5
  have b5 := F5.binds (ps := ["many", "value"]) fun _ _ _ _ _ _ us hl => match us, hl with | [_, _], _ => rfl
  have F6 := fun_mk (st := s_are_facts) l6 c6 k6
  have b6 := F6.binds (ps := ["many", "value"]) fun _ _ _ _ _ _ us hl => match us, hl with | [_, _], _ => rfl
  have F7 := fun_mk (st := s_check_facts) l7 c7 k7
  have b7 := F7.binds (ps := ["many", "facts"]) fun _ _ _ _ _ _ us hl => match us, hl with | [_, _], _ => rfl
  have F8 := fun_mk (st := s_are_clocks) l8 c8 k8
  have b8 := F8.binds (ps := ["many", "facts", "value"]) fun _ _ _ _ _ _ us hl => match us, hl with | [_, _, _], _ => rfl
  have F9 := fun_mk (st := s__law_bound) l9 c9 k9
  have b9 := F9.binds (ps := ["number", "low_v", "high_v"]) fun _ _ _ _ _ _ us hl => match us, hl with | [_, _, _], _ => rfl
  have F10 := fun_mk (st := s_nearest) l10 c10 k10
  have b10 := F10.binds (ps := ["least", "greatest"]) fun _ _ _ _ _ _ us hl => match us, hl with | [_, _], _ => rfl
  have F11 := fun_mk (st := s_lesser) l11 c11 k11
  have b11 := F11.binds (ps := ["one", "other"]) fun _ _ _ _ _ _ us hl => match us, hl with | [_, _], _ => rfl
  have F12 := fun_mk (st := s_together) l12 c12 k12
  have b12 := F12.binds (ps := ["one", "other"]) fun _ _ _ _ _ _ us hl => match us, hl with | [_, _], _ => rfl
  have F13 := fun_mk (st := s_low) l13 c13 k13
  have b13 := F13.binds (ps := ["known", "one", "other"]) fun _ _ _ _ _ _ us hl => match us, hl with | [_, _, _], _ => rfl
  have F14 := fun_mk (st := s_high) l14 c14 k14
  have b14 := F14.binds (ps := ["known", "one", "other"]) fun _ _ _ _ _ _ us hl => match us, hl with | [_, _, _], _ => rfl
  have F15 := fun_mk (st := s_ends_by) l15 c15 k15
  have b15 := F15.binds (ps := ["known", "told", "other"]) fun _ _ _ _ _ _ us hl => match us, hl with | [_, _, _], _ => rfl
  have F16 := fun_mk (st := s_are_within) l16 c16 k16
  have b16 := F16.binds (ps := ["known", "told", "site", "offset"]) fun _ _ _ _ _ _ us hl => match us, hl with | [_, _, _, _], _ => rfl
  have F17 := fun_mk (st := s_sides_of) l17 c17 k17
  have b17 := F17.binds (ps := ["facts"]) fun _ _ _ _ _ _ us hl => match us, hl with | [_], _ => rfl
  have F18 := fun_mk (st := s_highs) l18 c18 k18
  have b18 := F18.binds (ps := ["many", "facts"]) fun _ _ _ _ _ _ us hl => match us, hl with | [_, _], _ => rfl
  have F19 := fun_mk (st := s_check_round) l19 c19 k19
  have b19 := F19.binds (ps := ["many", "facts"]) fun _ _ _ _ _ _ us hl => match us, hl with | [_, _], _ => rfl
  have F20 := fun_mk (st := s_check_site) l20 c20 k20
  have b20 := F20.binds (ps := ["many", "site"]) fun _ _ _ _ _ _ us hl => match us, hl with | [_, _], _ => rfl
  have F21 := fun_mk (st := s_clocks_at) l21 c21 k21
  have b21 := F21.binds (ps := ["many", "facts", "site", "offset"]) fun _ _ _ _ _ _ us hl => match us, hl with | [_, _, _, _], _ => rfl
  have F22 := fun_mk (st := s_bounds) l22 c22 k22
  have b22 := F22.binds (ps := ["many", "facts", "one", "other"]) fun _ _ _ _ _ _ us hl => match us, hl with | [_, _, _, _], _ => rfl
  have F23 := fun_mk (st := s__law_take) l23 c23 k23
  have b23 := F23.binds (ps := ["pot", "upto"]) fun _ _ _ _ _ _ us hl => match us, hl with | [_, _], _ => rfl
  have F24 := fun_mk (st := s__law_of) l24 c24 k24
  have b24 := F24.binds (ps := ["pot", "some"]) fun _ _ _ _ _ _ us hl => match us, hl with | [_, _], _ => rfl
  have F25 := fun_mk (st := s__law_drawn_fact) l25 c25 k25
  have b25 := F25.binds (ps := ["pot", "offsets"]) fun _ _ _ _ _ _ us hl => match us, hl with | [_, _], _ => rfl
  have F26 := fun_mk (st := s__law_facts) l26 c26 k26
  have b26 := F26.binds (ps := ["pot", "offsets", "many"]) fun _ _ _ _ _ _ us hl => match us, hl with | [_, _, _], _ => rfl
  have F27 := fun_mk (st := s__law_offsets) l27 c27 k27
  have b27 := F27.binds (ps := ["pot", "many"]) fun _ _ _ _ _ _ us hl => match us, hl with | [_, _], _ => rfl
  have F28 := fun_mk (st := s__law_right) l28 c28 k28
  have b28 := F28.binds (ps := ["pot"]) fun _ _ _ _ _ _ us hl => match us, hl with | [_], _ => rfl
  have F29 := fun_mk (st := s__law_pot) l29 c29 k29
  have b29 := F29.binds (ps := ["script", "place"]) fun _ _ _ _ _ _ us hl => match us, hl with | [_, _], _ => rfl
  have F30 := fun_mk (st := s_law) l30 c30 k30
  refine ⟨PySem.W.fnOf "law" "law" (defArgs s_law) (defBody s_law) (defScope s_law) .none kV30 dc30 pm30 an30 cd30 ct30, fun s u => .of_eq rfl, fun base _ _ => ?_⟩
  have H0 : Has l.prog w K mg base 1 "_law_lots" ["one", "other"] [false, false] f__law_lots := ok__law_lots W  F0 (PySem.W.mg_of X G a0) b0
  have H1 : Has l.prog w K mg base 1 "keeps" ["clocks", "fact"] [false, false] f_keeps := ok_keeps W  F1 (PySem.W.mg_of X G a1) b1
  have H2 : Has l.prog w K mg base 1 "is_whole" ["value"] [false] f_is_whole := ok_is_whole W  F2 (PySem.W.mg_of X G a2) b2
  have H3 : Has l.prog w K mg base 2 "are_kept" ["many", "facts", "value"] [false, false, false] f_are_kept := ok_are_kept W H1 H2 F3 (PySem.W.mg_of X G a3) b3
  have H4 : Has l.prog w K mg base 2 "is_between" ["value", "low", "high"] [false, false, false] f_is_between := ok_is_between W H2 F4 (PySem.W.mg_of X G a4) b4
  have H5 : Has l.prog w K mg base 3 "is_fact" ["many", "value"] [false, false] f_is_fact := ok_is_fact W H4 H2 F5 (PySem.W.mg_of X G a5) b5
  have H6 : Has l.prog w K mg base 4 "are_facts" ["many", "value"] [false, false] f_are_facts := ok_are_facts W H5 F6 (PySem.W.mg_of X G a6) b6
  have H7 : Has l.prog w K mg base 5 "check_facts" ["many", "facts"] [false, false] f_check_facts := ok_check_facts W H6 H4 F7 (PySem.W.mg_of X G a7) b7
  have H8 : Has l.prog w K mg base 6 "are_clocks" ["many", "facts", "value"] [false, false, false] f_are_clocks := ok_are_clocks W H3 H7 F8 (PySem.W.mg_of X G a8) b8
  have H9 : Has l.prog w K mg base 1 "_law_bound" ["number", "low_v", "high_v"] [false, false, false] f__law_bound := ok__law_bound W  F9 (PySem.W.mg_of X G a9) b9
  have H10 : Has l.prog w K mg base 1 "nearest" ["least", "greatest"] [false, false] f_nearest := ok_nearest W  F10 (PySem.W.mg_of X G a10) b10
  have H11 : Has l.prog w K mg base 1 "lesser" ["one", "other"] [false, false] f_lesser := ok_lesser W  F11 (PySem.W.mg_of X G a11) b11
  have H12 : Has l.prog w K mg base 1 "together" ["one", "other"] [false, false] f_together := ok_together W  F12 (PySem.W.mg_of X G a12) b12
  have H13 : Has l.prog w K mg base 1 "low" ["known", "one", "other"] [false, false, false] f_low := ok_low W  F13 (PySem.W.mg_of X G a13) b13
  have H14 : Has l.prog w K mg base 1 "high" ["known", "one", "other"] [false, false, false] f_high := ok_high W  F14 (PySem.W.mg_of X G a14) b14
  have H15 : Has l.prog w K mg base 2 "ends_by" ["known", "told", "other"] [false, false, false] f_ends_by := ok_ends_by W H11 H12 H13 H14 F15 (PySem.W.mg_of X G a15) b15
  have H16 : Has l.prog w K mg base 3 "are_within" ["known", "told", "site", "offset"] [false, false, false, false] f_are_within := ok_are_within W H15 F16 (PySem.W.mg_of X G a16) b16
  have H17 : Has l.prog w K mg base 1 "sides_of" ["facts"] [false] f_sides_of := ok_sides_of W  F17 (PySem.W.mg_of X G a17) b17
  have H18 : Has l.prog w K mg base 2 "highs" ["many", "facts"] [false, false] f_highs := ok_highs W H11 H12 H17 F18 (PySem.W.mg_of X G a18) b18
  have H19 : Has l.prog w K mg base 3 "check_round" ["many", "facts"] [false, false] f_check_round := ok_check_round W H18 F19 (PySem.W.mg_of X G a19) b19
  have H20 : Has l.prog w K mg base 3 "check_site" ["many", "site"] [false, false] f_check_site := ok_check_site W H4 F20 (PySem.W.mg_of X G a20) b20
  have H21 : Has l.prog w K mg base 6 "clocks_at" ["many", "facts", "site", "offset"] [false, false, false, false] f_clocks_at := ok_clocks_at W H10 H15 H16 H18 H2 H19 H20 H7 F21 (PySem.W.mg_of X G a21) b21
  have H22 : Has l.prog w K mg base 6 "bounds" ["many", "facts", "one", "other"] [false, false, false, false] f_bounds := ok_bounds W H14 H13 H18 H19 H20 H7 F22 (PySem.W.mg_of X G a22) b22
  have H23 : Has l.prog w K mg base 1 "_law_take" ["pot", "upto"] [true, false] f__law_take := ok__law_take W  F23 (PySem.W.mg_of X G a23) b23
  have H24 : Has l.prog w K mg base 2 "_law_of" ["pot", "some"] [true, false] f__law_of := ok__law_of W H23 F24 (PySem.W.mg_of X G a24) b24
  have H25 : Has l.prog w K mg base 3 "_law_drawn_fact" ["pot", "offsets"] [true, false] f__law_drawn_fact := ok__law_drawn_fact W H23 H24 F25 (PySem.W.mg_of X G a25) b25
  have H26 : Has l.prog w K mg base 4 "_law_facts" ["pot", "offsets", "many"] [true, false, false] f__law_facts := ok__law_facts W H25 F26 (PySem.W.mg_of X G a26) b26
  have H27 : Has l.prog w K mg base 2 "_law_offsets" ["pot", "many"] [true, false] f__law_offsets := ok__law_offsets W H23 F27 (PySem.W.mg_of X G a27) b27
  have H28 : Has l.prog w K mg base 7 "_law_right" ["pot"] [true] f__law_right := ok__law_right W H0 H8 H9 H21 H22 H23 H26 H27 F28 (PySem.W.mg_of X G a28) b28
  have H29 : Has l.prog w K mg base 1 "_law_pot" ["script", "place"] [false, false] f__law_pot := ok__law_pot W  F29 (PySem.W.mg_of X G a29) b29
  exact ok_law W H28 H29 F30
end K31
open PySem PySem.W PyProof.Rows
set_option maxHeartbeats 0 in
theorem PySem.Challenge.cw_shownassigned_k31_whole_clocks_between_c_holds : PySem.Challenge.rw_shownassigned_k31_whole_clocks_between_c.Holds := by
  w_on; o_law; k_head; (case hw => w_witness2)
  k_fill
  refine Fx.walk_end (l := PySem.Challenge.rw_shownassigned_k31_whole_clocks_between_c) (n := 63) (k := 8) (x := "script") (f := K31.f_law) rfl (by decide) rfl ⟨rfl, by decide, by decide⟩ (fun w h Y => PySem.W.kIn_of Y) ?F K31.holds
  case F =>
    intro w mg fa h KX G hmg
    refine' K31.all KX G hmg ?a0 ?l0 ?c0 ?k0 ?a1 ?l1 ?c1 ?k1 ?a2 ?l2 ?c2 ?k2 ?a3 ?l3 ?c3 ?k3 ?a4 ?l4 ?c4 ?k4 ?a5 ?l5 ?c5 ?k5 ?a6 ?l6 ?c6 ?k6 ?a7 ?l7 ?c7 ?k7 ?a8 ?l8 ?c8 ?k8 ?a9 ?l9 ?c9 ?k9 ?a10 ?l10 ?c10 ?k10 ?a11 ?l11 ?c11 ?k11 ?a12 ?l12 ?c12 ?k12 ?a13 ?l13 ?c13 ?k13 ?a14 ?l14 ?c14 ?k14 ?a15 ?l15 ?c15 ?k15 ?a16 ?l16 ?c16 ?k16 ?a17 ?l17 ?c17 ?k17 ?a18 ?l18 ?c18 ?k18 ?a19 ?l19 ?c19 ?k19 ?a20 ?l20 ?c20 ?k20 ?a21 ?l21 ?c21 ?k21 ?a22 ?l22 ?c22 ?k22 ?a23 ?l23 ?c23 ?k23 ?a24 ?l24 ?c24 ?k24 ?a25 ?l25 ?c25 ?k25 ?a26 ?l26 ?c26 ?k26 ?a27 ?l27 ?c27 ?k27 ?a28 ?l28 ?c28 ?k28 ?a29 ?l29 ?c29 ?k29 ?a30 ?l30 ?c30 ?k30 ?z_abs ?z_all ?z_bool ?z_enumerate ?z_int ?z_isinstance ?z_len ?z_list ?z_max ?z_min ?z_range ?z_sum ?z_tuple ?z_zip ?c_FACT_PARTS ?c_LEAST ?c_MOST ?c_MOST_FACTS ?c_MOST_READING ?c_MOST_SITES ?c_MOST_TICK
    (case a0 => k_is); (case l0 => k_is); (case c0 => k_is); (case k0 => k_is); (case a1 => k_is); (case l1 => k_is); (case c1 => k_is); (case k1 => k_is); (case a2 => k_is); (case l2 => k_is); (case c2 => k_is); (case k2 => k_is); (case a3 => k_is); (case l3 => k_is); (case c3 => k_is); (case k3 => k_is); (case a4 => k_is); (case l4 => k_is); (case c4 => k_is); (case k4 => k_is); (case a5 => k_is); (case l5 => k_is); (case c5 => k_is); (case k5 => k_is); (case a6 => k_is); (case l6 => k_is); (case c6 => k_is); (case k6 => k_is); (case a7 => k_is); (case l7 => k_is); (case c7 => k_is); (case k7 => k_is); (case a8 => k_is); (case l8 => k_is); (case c8 => k_is); (case k8 => k_is); (case a9 => k_is); (case l9 => k_is); (case c9 => k_is); (case k9 => k_is); (case a10 => k_is); (case l10 => k_is); (case c10 => k_is); (case k10 => k_is); (case a11 => k_is); (case l11 => k_is); (case c11 => k_is); (case k11 => k_is); (case a12 => k_is); (case l12 => k_is); (case c12 => k_is); (case k12 => k_is); (case a13 => k_is); (case l13 => k_is); (case c13 => k_is); (case k13 => k_is); (case a14 => k_is); (case l14 => k_is); (case c14 => k_is); (case k14 => k_is); (case a15 => k_is); (case l15 => k_is); (case c15 => k_is); (case k15 => k_is); (case a16 => k_is); (case l16 => k_is); (case c16 => k_is); (case k16 => k_is); (case a17 => k_is); (case l17 => k_is); (case c17 => k_is); (case k17 => k_is); (case a18 => k_is); (case l18 => k_is); (case c18 => k_is); (case k18 => k_is); (case a19 => k_is); (case l19 => k_is); (case c19 => k_is); (case k19 => k_is); (case a20 => k_is); (case l20 => k_is); (case c20 => k_is); (case k20 => k_is); (case a21 => k_is); (case l21 => k_is); (case c21 => k_is); (case k21 => k_is); (case a22 => k_is); (case l22 => k_is); (case c22 => k_is); (case k22 => k_is); (case a23 => k_is); (case l23 => k_is); (case c23 => k_is); (case k23 => k_is); (case a24 => k_is); (case l24 => k_is); (case c24 => k_is); (case k24 => k_is); (case a25 => k_is); (case l25 => k_is); (case c25 => k_is); (case k25 => k_is); (case a26 => k_is); (case l26 => k_is); (case c26 => k_is); (case k26 => k_is); (case a27 => k_is); (case l27 => k_is); (case c27 => k_is); (case k27 => k_is); (case a28 => k_is); (case l28 => k_is); (case c28 => k_is); (case k28 => k_is); (case a29 => k_is); (case l29 => k_is); (case c29 => k_is); (case k29 => k_is); (case a30 => k_is); (case l30 => k_is); (case c30 => k_is); (case k30 => k_is); (case z_abs => k_is); (case z_all => k_is); (case z_bool => k_is); (case z_enumerate => k_is); (case z_int => k_is); (case z_isinstance => k_is); (case z_len => k_is); (case z_list => k_is); (case z_max => k_is); (case z_min => k_is); (case z_range => k_is); (case z_sum => k_is); (case z_tuple => k_is); (case z_zip => k_is); (case c_FACT_PARTS => k_is); (case c_LEAST => k_is); (case c_MOST => k_is); (case c_MOST_FACTS => k_is); (case c_MOST_READING => k_is); (case c_MOST_SITES => k_is); (case c_MOST_TICK => k_is)
