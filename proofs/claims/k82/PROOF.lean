import PyProof.Rows.All
import Wide.All
import OpenK.AllK
import Wide.FinOn
import HandS.ForMost
import HandS.ForExc
import HandS.IsInst
import HandS.TryMany
import HandS.FStr
import HandS.Wide
import HandS.TupAny
import HandS.Style
import HandS.RaiseMore
import HandS.ExcSuper
import HandS.ExcField
import KE.KExcSuper
import HandS.ExcIs
import HandS.Replace
import HandS.ReplaceLit
import HandS.Text
import KE.IntTextLaws
import PySem.Challenge.RW_ringtolls_k82_whole_cuts_recovered
set_option Elab.async false
set_option linter.all false
set_option maxRecDepth 100000
set_option maxHeartbeats 4000000
namespace Mi
open PySem PySem.Spec PyProof.Rows L2
inductive D where
  | non | bl (b : Bool) | int (i : Int) | str (s : Str)
  | tup (l : List D) | lst (l : List D)
  | ins (c : Nat) (ns : List Str) (l : List D)
  | dc0
  | scr (l : List Int)
mutual
inductive At (K : PySem.W.Frag) (cl : Nat → Addr) (B : Hp) : V → D → Prop
  | non : At K cl B .non .non
  | bl (b : Bool) : At K cl B (.bl b) (.bl b)
  | int (i : Int) : At K cl B (.int i) (.int i)
  | str (s : Str) : At K cl B (.str s) (.str s)
  | tup {p : Addr} {vs : List V} {ds : List D} : SqT K B p vs → AtL K cl B vs ds → At K cl B (.ref p) (.tup ds)
  | lst {p : Addr} {vs : List V} {ds : List D} : B p = some (.lst vs) → AtL K cl B vs ds → At K cl B (.ref p) (.lst ds)
  | ins {p dx : Addr} {c : Nat} {ns : List Str} {vs : List V} {ds : List D} : B p = some (.ins (cl c) dx (ns.zip vs)) → vs.length = ns.length → AtL K cl B vs ds → At K cl B (.ref p) (.ins c ns ds)
  | dc0 {p : Addr} : B p = some (.dK []) → At K cl B (.ref p) .dc0
  | scr {p : Addr} {l : List Int} : SqL K B p (l.map V.int) → At K cl B (.ref p) (.scr l)
inductive AtL (K : PySem.W.Frag) (cl : Nat → Addr) (B : Hp) : List V → List D → Prop
  | nil : AtL K cl B [] []
  | cons {v : V} {vs : List V} {d : D} {ds : List D} : At K cl B v d → AtL K cl B vs ds → AtL K cl B (v :: vs) (d :: ds)
end
section
variable {K : PySem.W.Frag} {cl : Nat → Addr} {B B' : Hp}
theorem sqT_mono {p : Addr} {vs : List V} (e : Same B B') (h : SqT K B p vs) : SqT K B' p vs := by
  rcases h with (h | ⟨o, h⟩) | h
  · exact .inl (.inl (e _ _ h))
  · exact .inl (.inr ⟨o, e _ _ h⟩)
  · exact .inr h
theorem sqL_mono {p : Addr} {vs : List V} (e : Same B B') (h : SqL K B p vs) : SqL K B' p vs := by
  rcases h with (h | ⟨o, h⟩) | h
  · exact .inl (.inl (e _ _ h))
  · exact .inl (.inr ⟨o, e _ _ h⟩)
  · exact .inr h
mutual
theorem At.mono (e : Same B B') : ∀ (d : D) (v : V), At K cl B v d → At K cl B' v d
  | .non, _, h => by cases h; exact .non
  | .bl b, _, h => by cases h; exact .bl b
  | .int i, _, h => by cases h; exact .int i
  | .str s, _, h => by cases h; exact .str s
  | .tup ds, _, h => by
    cases h with
    | tup h1 h2 => exact .tup (sqT_mono e h1) (At.monoL e ds _ h2)
  | .lst ds, _, h => by
    cases h with
    | lst h1 h2 => exact .lst (e _ _ h1) (At.monoL e ds _ h2)
  | .ins c ns ds, _, h => by
    cases h with
    | ins h1 h2 h3 => exact .ins (e _ _ h1) h2 (At.monoL e ds _ h3)
  | .dc0, _, h => by
    cases h with
    | dc0 h1 => exact .dc0 (e _ _ h1)
  | .scr l, _, h => by
    cases h with
    | scr h1 => exact .scr (sqL_mono e h1)
theorem At.monoL (e : Same B B') : ∀ (ds : List D) (vs : List V), AtL K cl B vs ds → AtL K cl B' vs ds
  | [], _, h => by cases h; exact .nil
  | d :: ds, _, h => by
    cases h with
    | cons h1 h2 => exact .cons (At.mono e d _ h1) (At.monoL e ds _ h2)
end
theorem At.up (h : At K cl B v d) (e : Same B B') : At K cl B' v d := At.mono e d v h
theorem AtL.up {vs : List V} {ds : List D} (h : AtL K cl B vs ds) (e : Same B B') : AtL K cl B' vs ds := At.monoL e ds vs h
theorem AtL.len : ∀ {vs : List V} {ds : List D}, AtL K cl B vs ds → vs.length = ds.length
  | _, _, .nil => rfl
  | _, _, .cons _ t => congrArg Nat.succ (AtL.len t)
theorem AtL.app : ∀ {vs ws : List V} {ds es : List D}, AtL K cl B vs ds → AtL K cl B ws es → AtL K cl B (vs ++ ws) (ds ++ es)
  | _, _, _, _, .nil, h => h
  | _, _, _, _, .cons a t, h => .cons a (AtL.app t h)
theorem AtL.one {v : V} {d : D} (h : At K cl B v d) : AtL K cl B [v] [d] := .cons h .nil
theorem AtL.get : ∀ {vs : List V} {ds : List D} {i : Nat} {d : D}, AtL K cl B vs ds → ds[i]? = some d → ∃ v, vs[i]? = some v ∧ At K cl B v d
  | _, _, 0, d, .cons a t, h => by
    have e := Option.some.inj h
    subst e
    exact ⟨_, rfl, a⟩
  | _, _, i + 1, d, .cons a t, h => by
    obtain ⟨v, h1, h2⟩ := AtL.get (i := i) t (by simpa using h)
    exact ⟨v, by simpa using h1, h2⟩
theorem AtL.getV {vs : List V} {ds : List D} {i : Nat} {v : V} (h : AtL K cl B vs ds) (hv : vs[i]? = some v) : ∃ d, ds[i]? = some d ∧ At K cl B v d := by
  have hl := h.len
  have hi : i < vs.length := (List.getElem?_eq_some_iff.mp hv).1
  have hi' : i < ds.length := by omega
  obtain ⟨w, h1, h2⟩ := h.get (List.getElem?_eq_getElem hi')
  rw [hv] at h1
  cases h1
  exact ⟨_, List.getElem?_eq_getElem hi', h2⟩
theorem AtL.take : ∀ {vs : List V} {ds : List D} (n : Nat), AtL K cl B vs ds → AtL K cl B (vs.take n) (ds.take n)
  | _, _, 0, _ => .nil
  | _, _, _ + 1, .nil => .nil
  | _, _, n + 1, .cons a t => .cons a (AtL.take n t)
theorem AtL.drop : ∀ {vs : List V} {ds : List D} (n : Nat), AtL K cl B vs ds → AtL K cl B (vs.drop n) (ds.drop n)
  | _, _, 0, h => h
  | _, _, _ + 1, .nil => .nil
  | _, _, n + 1, .cons _ t => AtL.drop n t
theorem AtL.set : ∀ {vs : List V} {ds : List D} {v : V} {d : D} (i : Nat), AtL K cl B vs ds → At K cl B v d → AtL K cl B (vs.set i v) (ds.set i d)
  | _, _, _, _, _, .nil, _ => .nil
  | _, _, _, _, 0, .cons _ t, h => .cons h t
  | _, _, _, _, i + 1, .cons a t, h => .cons a (AtL.set i t h)
theorem AtL.rev {vs : List V} {ds : List D} (h : AtL K cl B vs ds) : AtL K cl B vs.reverse ds.reverse := by
  induction vs generalizing ds with
  | nil => cases h; exact .nil
  | cons v vs ih =>
    cases h with
    | cons a t => rw [List.reverse_cons, List.reverse_cons]; exact (ih t).app (.one a)
theorem AtL.ints (ns : List Int) : AtL K cl B (ns.map V.int) (ns.map D.int) := by
  induction ns with
  | nil => exact .nil
  | cons n ns ih => exact .cons (.int n) ih
theorem AtL.strs (ns : List Str) : AtL K cl B (ns.map V.str) (ns.map D.str) := by
  induction ns with
  | nil => exact .nil
  | cons n ns ih => exact .cons (.str n) ih
end
inductive Sl where
  | un | dat (d : D) | own (l : List D)
abbrev En := List Sl
inductive R (α : Type) where
  | ok (a : α) | exc (c : Nat) (d : D) | bad
abbrev M (α : Type) := En → R (α × En)
def ret {α : Type} (a : α) : M α := fun es => .ok (a, es)
def bnd {α β : Type} (m : M α) (f : α → M β) : M β := fun es => match m es with
  | .ok (a, es1) => f a es1
  | .exc c d => .exc c d
  | .bad => .bad
def bad {α : Type} : M α := fun _ => .bad
def lft {α : Type} (r : R α) : M α := fun es => match r with
  | .ok a => .ok (a, es)
  | .exc c d => .exc c d
  | .bad => .bad
inductive Out where
  | nx | rt (d : D) | bk | ct
def Frs (B F B' : Hp) : Prop := ∀ x o, B' x = some o → B x = none → F x = none
theorem Frs.refl (B F : Hp) : Frs B F B := fun x o h n => by rw [n] at h; cases h
theorem Frs.trans {B F B1 B2 : Hp} (a : Frs B F B1) (b : Frs B1 F B2) : Frs B F B2 := fun x o h n => by
  cases e : B1 x with
  | none => exact b x o h e
  | some u => exact a x u e n
structure Rel (K : PySem.W.Frag) (cl : Nat → Addr) (zA : Option Addr) (F B H : Hp) (es : En) (σ : L2.St) : Prop where
  bh : Same B H
  fh : Same F H
  len : es.length = σ.length
  dat : ∀ (i : Nat) (d : D), es[i]? = some (.dat d) → ∃ v, σ[i]? = some (some v) ∧ At K cl B v d
  own : ∀ (i : Nat) (l : List D), es[i]? = some (.own l) → ∃ (p : Addr) (vs : List V), σ[i]? = some (some (.ref p)) ∧ B p = none ∧ F p = none ∧ H p = some (.lst vs) ∧ AtL K cl B vs l
  apart : ∀ (i j : Nat) (l m : List D) (p : Addr), i ≠ j → es[i]? = some (.own l) → es[j]? = some (.own m) → σ[i]? = some (some (.ref p)) → σ[j]? = some (some (.ref p)) → False
  zero : ∀ (p : Addr) (l : List D), zA = some p → es[0]? = some (.own l) → σ[0]? = some (some (.ref p))
def Exk (K : PySem.W.Frag) (cl : Nat → Addr) (E : XK) (F B : Hp) (c : Nat) (d : D) : Prop := ∀ (v : V) (dx : Addr) (B' H' : Hp), Same B B' → Frs B F B' → Same F H' → Same B' H' → F dx = none → B' dx = none →
  H' dx = some (.xd [(("value" : Str), v)]) → At K cl B' v d → E (.ref (cl c)) (some dx) H'
def Po (K : PySem.W.Frag) (cl : Nat → Addr) (E : XK) (F B : Hp) {α : Type} (r : R (α × En)) (k : α → En → Hp → Hp → Prop) : Prop := match r with
  | .ok (a, es) => ∀ B' H', Same B B' → Frs B F B' → k a es B' H'
  | .exc c d => Exk K cl E F B c d
  | .bad => False
section
variable {K : PySem.W.Frag} {cl : Nat → Addr} {zA : Option Addr} {E : XK} {F B B' H H' : Hp} {es : En} {σ : L2.St}
theorem Exk.up {c : Nat} {d : D} (e : Same B B') (f : Frs B F B') (h : Exk K cl E F B c d) : Exk K cl E F B' c d := fun v dx B2 H2 a b => h v dx B2 H2 (e.trans a) (f.trans b)
theorem Po.up {α : Type} {r : R (α × En)} {k : α → En → Hp → Hp → Prop} (e : Same B B') (f : Frs B F B') (h : Po K cl E F B r k) : Po K cl E F B' r k := by
  cases r with
  | ok p => exact fun B2 H2 a b => h B2 H2 (e.trans a) (f.trans b)
  | exc c d => exact Exk.up e f h
  | bad => exact h
theorem Po.imp {α : Type} {r : R (α × En)} {k k' : α → En → Hp → Hp → Prop} (h : Po K cl E F B r k) (hk : ∀ a es B' H', Same B B' → Frs B F B' → k a es B' H' → k' a es B' H') : Po K cl E F B r k' := by
  cases r with
  | ok p => exact fun B2 H2 a b => hk _ _ _ _ a b (h B2 H2 a b)
  | exc c d => exact h
  | bad => exact h
theorem Po.bnd {α β : Type} {m : M α} {f : α → M β} {k : β → En → Hp → Hp → Prop} (h : Po K cl E F B (bnd m f es) k) :
    Po K cl E F B (m es) (fun a es1 B1 _ => Po K cl E F B1 (f a es1) k) := by
  unfold Mi.bnd at h
  cases e : m es with
  | ok p =>
    rw [e] at h
    exact fun B1 H1 a b => Po.up a b h
  | exc c d => rw [e] at h; exact h
  | bad => rw [e] at h; exact h
theorem Rel.grow (r : Rel K cl zA F B H es σ) (bb : Same B B') (hh : Same H H') (bh : Same B' H') (fr : Frs B H B') : Rel K cl zA F B' H' es σ where
  bh := bh
  fh := r.fh.trans hh
  len := r.len
  dat := fun i d e => by
    obtain ⟨v, h1, h2⟩ := r.dat i d e
    exact ⟨v, h1, h2.up bb⟩
  own := fun i l e => by
    obtain ⟨p, vs, h1, h2, h3, h4, h5⟩ := r.own i l e
    refine ⟨p, vs, h1, ?_, h3, hh _ _ h4, h5.up bb⟩
    cases q : B' p with
    | none => rfl
    | some o =>
      have z := fr p o q h2
      rw [h4] at z
      cases z
  apart := r.apart
  zero := r.zero
theorem Rel.frs (r : Rel K cl zA F B H es σ) (fr : Frs B H B') : Frs B F B' := fun x o h n => r.fh.free (fr x o h n)
theorem Rel.same (r : Rel K cl zA F B H es σ) : Same F H := r.fh
theorem same_new {p : Addr} {o : HO} (n : H p = none) : Same H (upd H p o) := fun b u e => by rw [upd_ne (ne_of_none e n)]; exact e
theorem Rel.news (r : Rel K cl zA F B H es σ) {p : Addr} {o : HO} (n : H p = none) : Rel K cl zA F (upd B p o) (upd H p o) es σ ∧ Same B (upd B p o) ∧ Frs B F (upd B p o) := by
  have nb : B p = none := r.bh.free n
  have f : Frs B H (upd B p o) := fun x u h e => by
    by_cases hx : x = p
    · rw [hx]; exact n
    · rw [upd_ne hx, e] at h; cases h
  refine ⟨r.grow (same_new nb) (same_new n) (fun b u e => ?_) f, same_new nb, r.frs f⟩
  by_cases hb : b = p
  · subst hb
    rw [upd_same] at e ⊢
    exact e
  · rw [upd_ne hb] at e ⊢
    exact r.bh _ _ e
theorem Rel.put (r : Rel K cl zA F B H es σ) {i : Nat} {v : V} {d : D} (h : At K cl B v d) : Rel K cl zA F B H (es.set i (.dat d)) (σ.set i (some v)) where
  bh := r.bh
  fh := r.fh
  len := by rw [List.length_set, List.length_set]; exact r.len
  dat := fun j e q => by
    by_cases hj : i = j
    · subst hj
      have hi : i < es.length := by
        have := (List.getElem?_eq_some_iff.mp q).1
        rwa [List.length_set] at this
      rw [List.getElem?_set_self hi] at q
      cases q
      exact ⟨v, by rw [List.getElem?_set_self (by rw [← r.len]; exact hi)], h⟩
    · rw [List.getElem?_set_ne hj] at q ⊢
      exact r.dat j e q
  own := fun j l q => by
    by_cases hj : i = j
    · subst hj
      have hi : i < es.length := by
        have := (List.getElem?_eq_some_iff.mp q).1
        rwa [List.length_set] at this
      rw [List.getElem?_set_self hi] at q
      cases q
    · rw [List.getElem?_set_ne hj] at q ⊢
      exact r.own j l q
  apart := fun a b l m p ne ha hb sa sb => by
    by_cases hia : i = a
    · subst hia
      have hi : i < es.length := by
        have := (List.getElem?_eq_some_iff.mp ha).1
        rwa [List.length_set] at this
      rw [List.getElem?_set_self hi] at ha
      cases ha
    · by_cases hib : i = b
      · subst hib
        have hi : i < es.length := by
          have := (List.getElem?_eq_some_iff.mp hb).1
          rwa [List.length_set] at this
        rw [List.getElem?_set_self hi] at hb
        cases hb
      · rw [List.getElem?_set_ne hia] at ha sa
        rw [List.getElem?_set_ne hib] at hb sb
        exact r.apart a b l m p ne ha hb sa sb
  zero := fun p l e q => by
    by_cases hi : i = 0
    · subst hi
      have hi : 0 < es.length := by
        have := (List.getElem?_eq_some_iff.mp q).1
        rwa [List.length_set] at this
      rw [List.getElem?_set_self hi] at q
      cases q
    · rw [List.getElem?_set_ne hi] at q ⊢
      exact r.zero p l e q
theorem Rel.drop (r : Rel K cl zA F B H es σ) {i : Nat} {w : Option V} : Rel K cl zA F B H (es.set i .un) (σ.set i w) where
  bh := r.bh
  fh := r.fh
  len := by rw [List.length_set, List.length_set]; exact r.len
  dat := fun j e q => by
    by_cases hj : i = j
    · subst hj
      have hi : i < es.length := by
        have := (List.getElem?_eq_some_iff.mp q).1
        rwa [List.length_set] at this
      rw [List.getElem?_set_self hi] at q
      cases q
    · rw [List.getElem?_set_ne hj] at q ⊢
      exact r.dat j e q
  own := fun j l q => by
    by_cases hj : i = j
    · subst hj
      have hi : i < es.length := by
        have := (List.getElem?_eq_some_iff.mp q).1
        rwa [List.length_set] at this
      rw [List.getElem?_set_self hi] at q
      cases q
    · rw [List.getElem?_set_ne hj] at q ⊢
      exact r.own j l q
  apart := fun a b l m p ne ha hb sa sb => by
    by_cases hia : i = a
    · subst hia
      have hi : i < es.length := by
        have := (List.getElem?_eq_some_iff.mp ha).1
        rwa [List.length_set] at this
      rw [List.getElem?_set_self hi] at ha
      cases ha
    · by_cases hib : i = b
      · subst hib
        have hi : i < es.length := by
          have := (List.getElem?_eq_some_iff.mp hb).1
          rwa [List.length_set] at this
        rw [List.getElem?_set_self hi] at hb
        cases hb
      · rw [List.getElem?_set_ne hia] at ha sa
        rw [List.getElem?_set_ne hib] at hb sb
        exact r.apart a b l m p ne ha hb sa sb
  zero := fun p l e q => by
    by_cases hi : i = 0
    · subst hi
      have hi : 0 < es.length := by
        have := (List.getElem?_eq_some_iff.mp q).1
        rwa [List.length_set] at this
      rw [List.getElem?_set_self hi] at q
      cases q
    · rw [List.getElem?_set_ne hi] at q ⊢
      exact r.zero p l e q
theorem Rel.putOwn (r : Rel K cl zA F B H es σ) {i : Nat} {p : Addr} {vs : List V} {l : List D} (i0 : i ≠ 0) (n : H p = none) (h : AtL K cl B vs l) : Rel K cl zA F B (upd H p (.lst vs)) (es.set i (.own l)) (σ.set i (some (.ref p))) := by
  have nb : B p = none := r.bh.free n
  have nf : F p = none := r.fh.free n
  have notp : ∀ (j : Nat) (m : List D) (q : Addr), es[j]? = some (.own m) → σ[j]? = some (some (.ref q)) → q ≠ p := fun j m q e s => by
    obtain ⟨p', vs', h1, _, _, h4, _⟩ := r.own j m e
    rw [s] at h1
    cases h1
    exact ne_of_none h4 n
  refine ⟨r.bh.trans (same_new n), r.fh.trans (same_new n), by rw [List.length_set, List.length_set]; exact r.len, fun j e q => ?_, fun j m q => ?_, fun a b l' m q ne ha hb sa sb => ?_, fun q l e z => by rw [List.getElem?_set_ne i0] at z ⊢; exact r.zero q l e z⟩
  · by_cases hj : i = j
    · subst hj
      have hi : i < es.length := by
        have := (List.getElem?_eq_some_iff.mp q).1
        rwa [List.length_set] at this
      rw [List.getElem?_set_self hi] at q
      cases q
    · rw [List.getElem?_set_ne hj] at q ⊢
      exact r.dat j e q
  · by_cases hj : i = j
    · subst hj
      have hi : i < es.length := by
        have := (List.getElem?_eq_some_iff.mp q).1
        rwa [List.length_set] at this
      rw [List.getElem?_set_self hi] at q
      cases q
      exact ⟨p, vs, by rw [List.getElem?_set_self (by rw [← r.len]; exact hi)], nb, nf, upd_same, h⟩
    · rw [List.getElem?_set_ne hj] at q ⊢
      obtain ⟨p', vs', h1, h2, h3, h4, h5⟩ := r.own j m q
      exact ⟨p', vs', h1, h2, h3, by rw [upd_ne (ne_of_none h4 n)]; exact h4, h5⟩
  · by_cases hia : i = a
    · subst hia
      have hi : i < es.length := by
        have := (List.getElem?_eq_some_iff.mp ha).1
        rwa [List.length_set] at this
      rw [List.getElem?_set_self (by rw [← r.len]; exact hi)] at sa
      cases sa
      rw [List.getElem?_set_ne ne] at hb sb
      exact notp b m p hb sb rfl
    · rw [List.getElem?_set_ne hia] at ha sa
      by_cases hib : i = b
      · subst hib
        have hi : i < es.length := by
          have := (List.getElem?_eq_some_iff.mp hb).1
          rwa [List.length_set] at this
        rw [List.getElem?_set_self (by rw [← r.len]; exact hi)] at sb
        cases sb
        exact notp a l' p ha sa rfl
      · rw [List.getElem?_set_ne hib] at hb sb
        exact r.apart a b l' m q ne ha hb sa sb
theorem Rel.chg (r : Rel K cl zA F B H es σ) {i : Nat} {p : Addr} {ws : List V} {l m : List D} (hi : es[i]? = some (.own l)) (hs : σ[i]? = some (some (.ref p))) (h : AtL K cl B ws m) :
    Rel K cl zA F B (upd H p (.lst ws)) (es.set i (.own m)) σ := by
  obtain ⟨p', vs', h1, h2, h3, h4, h5⟩ := r.own i l hi
  rw [hs] at h1
  cases h1
  have hl : i < es.length := (List.getElem?_eq_some_iff.mp hi).1
  have ex : ∀ {G : Hp}, Same G H → G p = none → Same G (upd H p (.lst ws)) := fun s n b o e => by
    rw [upd_ne (ne_of_none e n)]
    exact s _ _ e
  refine ⟨ex r.bh h2, ex r.fh h3, by rw [List.length_set]; exact r.len, fun j e q => ?_, fun j k q => ?_, fun a b l' m' q ne ha hb sa sb => ?_, fun q l' e z => ?_⟩
  rotate_right
  · by_cases h0 : i = 0
    · subst h0
      exact r.zero q l e hi
    · rw [List.getElem?_set_ne h0] at z
      exact r.zero q l' e z
  · by_cases hj : i = j
    · subst hj
      rw [List.getElem?_set_self hl] at q
      cases q
    · rw [List.getElem?_set_ne hj] at q
      exact r.dat j e q
  · by_cases hj : i = j
    · subst hj
      rw [List.getElem?_set_self hl] at q
      cases q
      exact ⟨p, ws, hs, h2, h3, upd_same, h⟩
    · rw [List.getElem?_set_ne hj] at q
      obtain ⟨p', vs', g1, g2, g3, g4, g5⟩ := r.own j k q
      refine ⟨p', vs', g1, g2, g3, ?_, g5⟩
      rw [upd_ne (fun z => ?_)]
      · exact g4
      · subst z
        exact r.apart i j _ _ _ hj hi q hs g1
  · have oa : ∃ l0 : List D, es[a]? = some (.own l0) := by
      by_cases hia : i = a
      · subst hia
        exact ⟨l, hi⟩
      · rw [List.getElem?_set_ne hia] at ha
        exact ⟨_, ha⟩
    have ob : ∃ l0 : List D, es[b]? = some (.own l0) := by
      by_cases hib : i = b
      · subst hib
        exact ⟨l, hi⟩
      · rw [List.getElem?_set_ne hib] at hb
        exact ⟨_, hb⟩
    obtain ⟨l1, oa⟩ := oa
    obtain ⟨l2, ob⟩ := ob
    exact r.apart a b l1 l2 q ne oa ob sa sb
theorem Rel.freeze (r : Rel K cl zA F B H es σ) {i : Nat} {l : List D} (hi : es[i]? = some (.own l)) :
    ∃ (p : Addr) (vs : List V), σ[i]? = some (some (.ref p)) ∧ Rel K cl zA F (upd B p (.lst vs)) H (es.set i (.dat (.lst l))) σ ∧ Same B (upd B p (.lst vs)) ∧ Frs B F (upd B p (.lst vs)) ∧ At K cl (upd B p (.lst vs)) (.ref p) (.lst l) := by
  obtain ⟨p, vs, h1, h2, h3, h4, h5⟩ := r.own i l hi
  have sb : Same B (upd B p (.lst vs)) := same_new h2
  have hl : i < es.length := (List.getElem?_eq_some_iff.mp hi).1
  have ha : At K cl (upd B p (.lst vs)) (.ref p) (.lst l) := .lst upd_same (h5.up sb)
  refine ⟨p, vs, h1, ⟨fun b o e => ?_, r.fh, by rw [List.length_set]; exact r.len, fun j e q => ?_, fun j k q => ?_, fun a b l' m' q ne ha hb sa sb => ?_, fun q l' e z => ?_⟩, sb, fun x o e n => ?_, ha⟩
  · by_cases hb : b = p
    · subst hb
      rw [upd_same] at e
      cases e
      exact h4
    · rw [upd_ne hb] at e
      exact r.bh _ _ e
  · by_cases hj : i = j
    · subst hj
      rw [List.getElem?_set_self hl] at q
      cases q
      exact ⟨_, h1, ha⟩
    · rw [List.getElem?_set_ne hj] at q
      obtain ⟨v, g1, g2⟩ := r.dat j e q
      exact ⟨v, g1, g2.up sb⟩
  · by_cases hj : i = j
    · subst hj
      rw [List.getElem?_set_self hl] at q
      cases q
    · rw [List.getElem?_set_ne hj] at q
      obtain ⟨p', vs', g1, g2, g3, g4, g5⟩ := r.own j k q
      refine ⟨p', vs', g1, ?_, g3, g4, g5.up sb⟩
      rw [upd_ne (fun z => ?_)]
      · exact g2
      · subst z
        exact r.apart i j _ _ _ hj hi q h1 g1
  · by_cases hia : i = a
    · subst hia
      rw [List.getElem?_set_self hl] at ha
      cases ha
    · by_cases hib : i = b
      · subst hib
        rw [List.getElem?_set_self hl] at hb
        cases hb
      · rw [List.getElem?_set_ne hia] at ha
        rw [List.getElem?_set_ne hib] at hb
        exact r.apart a b l' m' q ne ha hb sa sb
  · by_cases h0 : i = 0
    · subst h0
      rw [List.getElem?_set_self hl] at z
      cases z
    · rw [List.getElem?_set_ne h0] at z
      exact r.zero q l' e z
  · by_cases hx : x = p
    · rw [hx]; exact h3
    · rw [upd_ne hx, n] at e
      cases e
end
end Mi
namespace Mi
open PySem PySem.Spec PyProof.Rows L2
abbrev FinE (K : PySem.W.Frag) (cl : Nat → Addr) (zA : Option Addr) (F B : Hp) (es : En) (σ : L2.St) (d : D) (Q : VK) : Prop := ∀ (v : V) (B' H' : Hp), Same B B' → Frs B F B' → Rel K cl zA F B' H' es σ → At K cl B' v d → Q v H'
def opt {α : Type} (o : Option α) : M α := fun es => match o with
  | some a => .ok (a, es)
  | none => .bad
def SimE (K : PySem.W.Frag) (cl : Nat → Addr) (E : XK) (te : TE) (m : M D) : Prop := ∀ (zA : Option Addr) (F B H : Hp) (es : En) (σ : L2.St) (Q : VK), Rel K cl zA F B H es σ →
  Po K cl E F B (m es) (fun d es' B' H' => ∀ v, Rel K cl zA F B' H' es' σ → At K cl B' v d → Q v H') → te σ H Q
def SimT (K : PySem.W.Frag) (cl : Nat → Addr) (E : XK) (tt : TT) (m : M Bool) : Prop := ∀ (zA : Option Addr) (F B H : Hp) (es : En) (σ : L2.St) (Q : Bool → Hp → Prop), Rel K cl zA F B H es σ →
  Po K cl E F B (m es) (fun b es' B' H' => Rel K cl zA F B' H' es' σ → Q b H') → tt σ H Q
def SimA (K : PySem.W.Frag) (cl : Nat → Addr) (E : XK) (ta : TA) (m : M (List D)) : Prop := ∀ (zA : Option Addr) (F B H : Hp) (es : En) (σ : L2.St) (Q : List V → Hp → Prop), Rel K cl zA F B H es σ →
  Po K cl E F B (m es) (fun ds es' B' H' => ∀ vs, Rel K cl zA F B' H' es' σ → AtL K cl B' vs ds → Q vs H') → ta σ H Q
def SimO (K : PySem.W.Frag) (cl : Nat → Addr) (E : XK) (to : TO) (m : M (Option Int)) : Prop := ∀ (zA : Option Addr) (F B H : Hp) (es : En) (σ : L2.St) (Q : Option Int → Hp → Prop), Rel K cl zA F B H es σ →
  Po K cl E F B (m es) (fun o es' B' H' => Rel K cl zA F B' H' es' σ → Q o H') → to σ H Q
def SimR2 (K : PySem.W.Frag) (cl : Nat → Addr) (r : R2) (f : D → D → Option D) : Prop := ∀ (zA : Option Addr) (F B H : Hp) (es : En) (σ : L2.St) (x y : V) (dx dy d : D) (Q : VK), Rel K cl zA F B H es σ → At K cl B x dx → At K cl B y dy → f dx dy = some d →
  FinE K cl zA F B es σ d Q → r x y H Q
def SimR1 (K : PySem.W.Frag) (cl : Nat → Addr) (r : V → Hp → VK → Prop) (f : D → Option D) : Prop := ∀ (zA : Option Addr) (F B H : Hp) (es : En) (σ : L2.St) (x : V) (dx d : D) (Q : VK), Rel K cl zA F B H es σ → At K cl B x dx → f dx = some d →
  FinE K cl zA F B es σ d Q → r x H Q
def SimC (K : PySem.W.Frag) (cl : Nat → Addr) (r : List V → Hp → VK → Prop) (f : List D → Option D) : Prop := ∀ (zA : Option Addr) (F B H : Hp) (es : En) (σ : L2.St) (xs : List V) (ds : List D) (d : D) (Q : VK), Rel K cl zA F B H es σ → AtL K cl B xs ds → f ds = some d →
  FinE K cl zA F B es σ d Q → r xs H Q
def SimM (K : PySem.W.Frag) (cl : Nat → Addr) (r : V → List V → Hp → VK → Prop) (f : D → List D → Option D) : Prop := ∀ (zA : Option Addr) (F B H : Hp) (es : En) (σ : L2.St) (x : V) (xs : List V) (dx : D) (ds : List D) (d : D) (Q : VK), Rel K cl zA F B H es σ → At K cl B x dx → AtL K cl B xs ds → f dx ds = some d →
  FinE K cl zA F B es σ d Q → r x xs H Q
section
variable {K : PySem.W.Frag} {cl : Nat → Addr} {zA : Option Addr} {E : XK} {F B H : Hp} {es : En} {σ : L2.St}
theorem Same.rfl' (H : Hp) : Same H H := fun _ _ h => h
theorem FinE.here {d : D} {Q : VK} {v : V} (h : FinE K cl zA F B es σ d Q) (r : Rel K cl zA F B H es σ) (a : At K cl B v d) : Q v H := h v B H (Same.rfl' B) (Frs.refl B F) r a
theorem FinE.new {d : D} {Q : VK} {p : Addr} {o : HO} (h : FinE K cl zA F B es σ d Q) (r : Rel K cl zA F B H es σ) (n : H p = none) (a : At K cl (upd B p o) (.ref p) d) : Q (.ref p) (upd H p o) := by
  obtain ⟨r1, s1, f1⟩ := r.news (o := o) n
  exact h _ _ _ s1 f1 r1 a
theorem FinE.tup {ds : List D} {vs : List V} {Q : VK} {p : Addr} (h : FinE K cl zA F B es σ (.tup ds) Q) (r : Rel K cl zA F B H es σ) (n : H p = none) (a : AtL K cl B vs ds) : Q (.ref p) (upd H p (.tup vs)) :=
  h.new r n (.tup (.inl (.inl upd_same)) (a.up (same_new (r.bh.free n))))
theorem FinE.lst {ds : List D} {vs : List V} {Q : VK} {p : Addr} (h : FinE K cl zA F B es σ (.lst ds) Q) (r : Rel K cl zA F B H es σ) (n : H p = none) (a : AtL K cl B vs ds) : Q (.ref p) (upd H p (.lst vs)) :=
  h.new r n (.lst upd_same (a.up (same_new (r.bh.free n))))
theorem Po.opt {α : Type} {o : Option α} {k : α → En → Hp → Hp → Prop} (h : Po K cl E F B (opt o es) k) : ∃ a, o = some a ∧ ∀ B' H', Same B B' → Frs B F B' → k a es B' H' := by
  cases o with
  | none => exact h.elim
  | some a => exact ⟨a, rfl, h⟩
theorem Po.ret {α : Type} {a : α} {k : α → En → Hp → Hp → Prop} (h : Po K cl E F B (ret a es) k) : ∀ B' H', Same B B' → Frs B F B' → k a es B' H' := h
theorem Po.ret0 {α : Type} {a : α} {k : α → En → Hp → Hp → Prop} (h : Po K cl E F B (Mi.ret a es) k) (H' : Hp) : k a es B H' := h B H' (Same.rfl' B) (Frs.refl B F)
end
def mVar (i : Nat) : M D := fun es => match es[i]? with
  | some (.dat d) => .ok (d, es)
  | some (.own l) => .ok (.lst l, es.set i (.dat (.lst l)))
  | _ => .bad
def mC (d : D) : M D := Mi.ret d
def mBin (f : D → D → Option D) (a b : M D) : M D := Mi.bnd a fun x => Mi.bnd b fun y => Mi.opt (f x y)
def mUn (f : D → Option D) (a : M D) : M D := Mi.bnd a fun x => Mi.opt (f x)
def isBl : D → Option Bool
  | .bl b => some b
  | _ => none
def mTst (m : M D) : M Bool := Mi.bnd m fun d => Mi.opt (isBl d)
def tru : D → Option Bool
  | .non => some false
  | .bl b => some b
  | .int i => some (i != 0)
  | .str s => if s.length ≤ sizeLine then some ((s.length : Int) != 0) else none
  | .tup l => some (!l.isEmpty)
  | .lst l => some (!l.isEmpty)
  | .dc0 => some false
  | .scr l => some (!l.isEmpty)
  | .ins .. => none
def mTru (m : M D) : M Bool := Mi.bnd m fun d => Mi.opt (tru d)
def mNotT (m : M Bool) : M Bool := Mi.bnd m fun b => Mi.ret (!b)
def mAndT (m n : M Bool) : M Bool := Mi.bnd m fun b => if b = true then n else Mi.ret false
def mOrT (m n : M Bool) : M Bool := Mi.bnd m fun b => if b = true then Mi.ret true else n
def mAnd (m n : M D) : M D := Mi.bnd m fun d => Mi.bnd (Mi.opt (isBl d)) fun b => if b = true then n else Mi.ret (.bl false)
def mOr (m n : M D) : M D := Mi.bnd m fun d => Mi.bnd (Mi.opt (isBl d)) fun b => if b = true then Mi.ret (.bl true) else n
def mNot (m : M D) : M D := Mi.bnd m fun d => Mi.bnd (Mi.opt (isBl d)) fun b => Mi.ret (.bl (!b))
def mIfE (t : M Bool) (a b : M D) : M D := Mi.bnd t fun c => if c = true then a else b
def mChn (f g : D → D → Option D) (a b c : M D) : M D := Mi.bnd a fun x => Mi.bnd b fun y => Mi.bnd (Mi.opt (f x y)) fun k => Mi.bnd (Mi.opt (isBl k)) fun k => if k = true then Mi.bnd c fun z => Mi.opt (g y z) else Mi.ret (.bl false)
def mNil : M (List D) := Mi.ret []
def mCons (a : M D) (r : M (List D)) : M (List D) := Mi.bnd a fun x => Mi.bnd r fun xs => Mi.ret (x :: xs)
def fit (f : List D → D) (l : List D) : Option D := if l.length ≤ sizeLine then some (f l) else none
def mTup (a : M (List D)) : M D := Mi.bnd a fun l => Mi.opt (fit .tup l)
def mLst (a : M (List D)) : M D := Mi.bnd a fun l => Mi.opt (fit .lst l)
def mCB (f : List D → Option D) (a : M (List D)) : M D := Mi.bnd a fun l => Mi.opt (f l)
def mMth (f : D → List D → Option D) (a : M D) (b : M (List D)) : M D := Mi.bnd a fun x => Mi.bnd b fun l => Mi.opt (f x l)
def isI : D → Option Int
  | .int i => some i
  | _ => none
def mNo : M (Option Int) := Mi.ret none
def mPart (a : M D) : M (Option Int) := Mi.bnd a fun x => Mi.bnd (Mi.opt (isI x)) fun i => Mi.ret (some i)
def mSl (f : D → Option Int → Option Int → Option D) (a : M D) (l u : M (Option Int)) : M D := Mi.bnd a fun x => Mi.bnd l fun i => Mi.bnd u fun j => Mi.opt (f x i j)
section
variable {K : PySem.W.Frag} {cl : Nat → Addr} {E : XK}
theorem sim_var {i : Nat} : SimE K cl E (tVar i) (mVar i) := by
  intro zA F B H es σ Q r h
  unfold mVar at h
  cases e : es[i]? with
  | none => rw [e] at h; exact h.elim
  | some x =>
    rw [e] at h
    cases x with
    | un => exact h.elim
    | dat d =>
      obtain ⟨v, h1, h2⟩ := r.dat i d e
      exact ⟨v, h1, h B H (Same.rfl' B) (Frs.refl B F) v r h2⟩
    | own l =>
      obtain ⟨p, vs, h1, h2, h3, h4, h5⟩ := r.freeze e
      exact ⟨.ref p, h1, h _ H h3 h4 _ h2 h5⟩
theorem sim_c {v : V} {d : D} (a : ∀ B, At K cl B v d) : SimE K cl E (tC v) (mC d) := fun zA F B H es σ Q r h => Po.ret0 h H v r (a B)
theorem sim_bin {ta tb : TE} {ma mb : M D} {r : R2} {f : D → D → Option D} (ha : SimE K cl E ta ma) (hb : SimE K cl E tb mb) (hr : SimR2 K cl r f) : SimE K cl E (tOp r ta tb) (mBin f ma mb) := by
  intro zA F B H es σ Q r h
  refine ha _ F B H es σ _ r (Po.imp (Po.bnd h) fun dx es1 B1 H1 _ _ h1 vx r1 ax => ?_)
  refine hb _ F B1 H1 es1 σ _ r1 (Po.imp (Po.bnd h1) fun dy es2 B2 H2 e2 f2 h2 vy r2 ay => ?_)
  obtain ⟨d, hd, hk⟩ := Po.opt h2
  exact hr _ F B2 H2 es2 σ vx vy dx dy d Q r2 (ax.up e2) ay hd fun v B' H' s f r' a => hk B' H' s f v r' a
theorem sim_un {ta : TE} {ma : M D} {r : V → Hp → VK → Prop} {f : D → Option D} (ha : SimE K cl E ta ma) (hr : SimR1 K cl r f) : SimE K cl E (tUn r ta) (mUn f ma) := by
  intro zA F B H es σ Q r h
  refine ha _ F B H es σ _ r (Po.imp (Po.bnd h) fun dx es1 B1 H1 _ _ h1 vx r1 ax => ?_)
  obtain ⟨d, hd, hk⟩ := Po.opt h1
  exact hr _ F B1 H1 es1 σ vx dx d Q r1 ax hd fun v B' H' s f r' a => hk B' H' s f v r' a
theorem at_bl {B : Hp} {v : V} {d : D} {b : Bool} (a : At K cl B v d) (e : isBl d = some b) : v = .bl b := by
  cases a <;> first | (cases e; rfl) | cases e
theorem at_i {B : Hp} {v : V} {d : D} {i : Int} (a : At K cl B v d) (e : isI d = some i) : v = .int i := by
  cases a <;> first | (cases e; rfl) | cases e
theorem sim_tst {te : TE} {m : M D} (ha : SimE K cl E te m) : SimT K cl E (tTest te) (mTst m) := by
  intro zA F B H es σ Q r h
  refine ha _ F B H es σ _ r (Po.imp (Po.bnd h) fun d es1 B1 H1 _ _ h1 v r1 a => ?_)
  obtain ⟨b, hb, hk⟩ := Po.opt h1
  exact ⟨b, at_bl a hb, hk B1 H1 (Same.rfl' _) (Frs.refl _ _) r1⟩
theorem sim_tstB {te : TE} {m : M D} (ha : SimE K cl E te m) : SimT K cl E (tB te) (mTst m) := by
  intro zA F B H es σ Q r h
  refine ha _ F B H es σ _ r (Po.imp (Po.bnd h) fun d es1 B1 H1 _ _ h1 v r1 a => ?_)
  obtain ⟨b, hb, hk⟩ := Po.opt h1
  exact ⟨b, at_bl a hb, hk B1 H1 (Same.rfl' _) (Frs.refl _ _) r1⟩
theorem empty_len {B : Hp} {vs : List V} {ds : List D} (h : AtL K cl B vs ds) : vs.isEmpty = ds.isEmpty := by
  cases h <;> rfl
theorem at_tru {F B H : Hp} {es : En} {σ : L2.St} {v : V} {d : D} {b : Bool} (r : Rel K cl zA F B H es σ) (a : At K cl B v d) (e : tru d = some b) : TruV K v H b := by
  cases a with
  | non => cases e; rfl
  | bl => cases e; rfl
  | int => cases e; rfl
  | str s =>
    simp only [tru] at e
    split at e
    · rename_i hz
      cases e
      exact ⟨hz, rfl⟩
    · cases e
  | tup h1 h2 =>
    cases e
    exact .inr (.inl ⟨_, sqT_mono r.bh h1, by rw [empty_len h2]⟩)
  | lst h1 h2 =>
    cases e
    exact .inl ⟨_, .inl (.inl (r.bh _ _ h1)), by rw [empty_len h2]⟩
  | ins h1 h2 h3 => cases e
  | dc0 h1 =>
    cases e
    exact .inr (.inr ⟨_, r.bh _ _ h1, rfl⟩)
  | @scr p l h1 =>
    cases e
    exact .inl ⟨_, sqL_mono r.bh h1, by cases l <;> rfl⟩
theorem sim_tru {te : TE} {m : M D} (ha : SimE K cl E te m) : SimT K cl E (fun σ H Q => te σ H fun x H' => ∃ k, TruV K x H' k ∧ Q k H') (mTru m) := by
  intro zA F B H es σ Q r h
  refine ha _ F B H es σ _ r (Po.imp (Po.bnd h) fun d es1 B1 H1 _ _ h1 v r1 a => ?_)
  obtain ⟨b, hb, hk⟩ := Po.opt h1
  exact ⟨b, at_tru r1 a hb, hk B1 H1 (Same.rfl' _) (Frs.refl _ _) r1⟩
theorem sim_notT {t : TT} {m : M Bool} (ha : SimT K cl E t m) : SimT K cl E (tNot t) (mNotT m) := by
  intro zA F B H es σ Q r h
  exact ha _ F B H es σ _ r (Po.imp (Po.bnd h) fun b es1 B1 H1 _ _ h1 r1 => Po.ret0 h1 H1 r1)
theorem sim_andT {t u : TT} {m n : M Bool} (ha : SimT K cl E t m) (hb : SimT K cl E u n) : SimT K cl E (tAnd t u) (mAndT m n) := by
  intro zA F B H es σ Q r h
  refine ha _ F B H es σ _ r (Po.imp (Po.bnd h) fun b es1 B1 H1 _ _ h1 r1 => ?_)
  cases b with
  | true => exact hb _ F B1 H1 es1 σ Q r1 h1
  | false => exact Po.ret0 (show Po K cl E F B1 (Mi.ret false es1) _ from h1) H1 r1
theorem sim_orT {t u : TT} {m n : M Bool} (ha : SimT K cl E t m) (hb : SimT K cl E u n) : SimT K cl E (tOr t u) (mOrT m n) := by
  intro zA F B H es σ Q r h
  refine ha _ F B H es σ _ r (Po.imp (Po.bnd h) fun b es1 B1 H1 _ _ h1 r1 => ?_)
  cases b with
  | false => exact hb _ F B1 H1 es1 σ Q r1 h1
  | true => exact Po.ret0 (show Po K cl E F B1 (Mi.ret true es1) _ from h1) H1 r1
theorem sim_and {t u : TE} {m n : M D} (ha : SimE K cl E t m) (hb : SimE K cl E u n) : SimE K cl E (tAndV t u) (mAnd m n) := by
  intro zA F B H es σ Q r h
  refine ha _ F B H es σ _ r (Po.imp (Po.bnd h) fun d es1 B1 H1 _ _ h1 v r1 a => ?_)
  obtain ⟨b, hb1, hk⟩ := Po.opt (Po.bnd h1)
  refine ⟨b, at_bl a hb1, ?_⟩
  have h2 := hk B1 H1 (Same.rfl' _) (Frs.refl _ _)
  cases b with
  | true => exact hb _ F B1 H1 es1 σ Q r1 h2
  | false => exact Po.ret0 (show Po K cl E F B1 (Mi.ret (D.bl false) es1) _ from h2) H1 _ r1 (.bl false)
theorem sim_or {t u : TE} {m n : M D} (ha : SimE K cl E t m) (hb : SimE K cl E u n) : SimE K cl E (tOrV t u) (mOr m n) := by
  intro zA F B H es σ Q r h
  refine ha _ F B H es σ _ r (Po.imp (Po.bnd h) fun d es1 B1 H1 _ _ h1 v r1 a => ?_)
  obtain ⟨b, hb1, hk⟩ := Po.opt (Po.bnd h1)
  refine ⟨b, at_bl a hb1, ?_⟩
  have h2 := hk B1 H1 (Same.rfl' _) (Frs.refl _ _)
  cases b with
  | false => exact hb _ F B1 H1 es1 σ Q r1 h2
  | true => exact Po.ret0 (show Po K cl E F B1 (Mi.ret (D.bl true) es1) _ from h2) H1 _ r1 (.bl true)
theorem sim_not {t : TE} {m : M D} (ha : SimE K cl E t m) : SimE K cl E (tNotV t) (mNot m) := by
  intro zA F B H es σ Q r h
  refine ha _ F B H es σ _ r (Po.imp (Po.bnd h) fun d es1 B1 H1 _ _ h1 v r1 a => ?_)
  obtain ⟨b, hb1, hk⟩ := Po.opt (Po.bnd h1)
  exact ⟨b, at_bl a hb1, Po.ret0 (hk B1 H1 (Same.rfl' _) (Frs.refl _ _)) H1 _ r1 (.bl _)⟩
theorem sim_ifE {t : TT} {ta tb : TE} {m : M Bool} {ma mb : M D} (ht : SimT K cl E t m) (ha : SimE K cl E ta ma) (hb : SimE K cl E tb mb) : SimE K cl E (tIf t ta tb) (mIfE m ma mb) := by
  intro zA F B H es σ Q r h
  refine ht _ F B H es σ _ r (Po.imp (Po.bnd h) fun b es1 B1 H1 _ _ h1 r1 => ?_)
  cases b with
  | true => exact ha _ F B1 H1 es1 σ Q r1 h1
  | false => exact hb _ F B1 H1 es1 σ Q r1 h1
theorem sim_chn {ta tb tc : TE} {ma mb mc : M D} {r r' : R2} {f g : D → D → Option D} (ha : SimE K cl E ta ma) (hb : SimE K cl E tb mb) (hc : SimE K cl E tc mc) (hr : SimR2 K cl r f) (hr' : SimR2 K cl r' g) :
    SimE K cl E (tChain r r' ta tb tc) (mChn f g ma mb mc) := by
  intro zA F B H es σ Q r h
  refine ha _ F B H es σ _ r (Po.imp (Po.bnd h) fun dx es1 B1 H1 _ _ h1 vx r1 ax => ?_)
  refine hb _ F B1 H1 es1 σ _ r1 (Po.imp (Po.bnd h1) fun dy es2 B2 H2 e2 f2 h2 vy r2 ay => ?_)
  obtain ⟨k, hk1, hk⟩ := Po.opt (Po.bnd h2)
  refine hr _ F B2 H2 es2 σ vx vy dx dy k _ r2 (ax.up e2) ay hk1 fun v B' H' s f r' a => ?_
  obtain ⟨b, hb1, hk2⟩ := Po.opt (Po.bnd (hk B' H' s f))
  refine ⟨b, at_bl a hb1, ?_⟩
  have h3 := hk2 B' H' (Same.rfl' _) (Frs.refl _ _)
  cases b with
  | false => exact Po.ret0 (show Po K cl E F B' (Mi.ret (D.bl false) es2) _ from h3) H' _ r' (.bl false)
  | true =>
    refine hc _ F B' H' es2 σ _ r' (Po.imp (Po.bnd h3) fun dz es4 B4 H4 e4 f4 h4 vz r4 az => ?_)
    obtain ⟨d, hd, hk5⟩ := Po.opt h4
    exact hr' _ F B4 H4 es4 σ vy vz dy dz d Q r4 ((ay.up s).up e4) az hd fun v B' H' s f r' a => hk5 B' H' s f v r' a
theorem sim_nil : SimA K cl E tNil mNil := fun zA F B H es σ Q r h => Po.ret0 h H [] r .nil
theorem sim_cons {ta : TE} {tr : TA} {ma : M D} {mr : M (List D)} (ha : SimE K cl E ta ma) (hr : SimA K cl E tr mr) : SimA K cl E (tCons ta tr) (mCons ma mr) := by
  intro zA F B H es σ Q r h
  refine ha _ F B H es σ _ r (Po.imp (Po.bnd h) fun dx es1 B1 H1 _ _ h1 vx r1 ax => ?_)
  refine hr _ F B1 H1 es1 σ _ r1 (Po.imp (Po.bnd h1) fun dy es2 B2 H2 e2 f2 h2 vs r2 ay => ?_)
  exact Po.ret0 h2 H2 (vx :: vs) r2 (.cons (ax.up e2) ay)
theorem fit_ok {g : List D → D} {l : List D} {d : D} (h : fit g l = some d) : l.length ≤ sizeLine ∧ d = g l := by
  unfold fit at h
  split at h
  · rename_i hz
    exact ⟨hz, (Option.some.inj h).symm⟩
  · cases h
theorem sim_tup {ta : TA} {ma : M (List D)} (ha : SimA K cl E ta ma) : SimE K cl E (tTup ta) (mTup ma) := by
  intro zA F B H es σ Q r h
  refine ha _ F B H es σ _ r (Po.imp (Po.bnd h) fun ds es1 B1 H1 _ _ h1 vs r1 a => ?_)
  obtain ⟨d, hd, hk⟩ := Po.opt h1
  obtain ⟨hz, rfl⟩ := fit_ok hd
  refine ⟨by rw [a.len]; exact hz, fun p n => ?_⟩
  exact FinE.tup (fun v B' H' s f r' a' => hk B' H' s f v r' a') r1 n a
theorem sim_lst {ta : TA} {ma : M (List D)} (ha : SimA K cl E ta ma) : SimE K cl E (tLst ta) (mLst ma) := by
  intro zA F B H es σ Q r h
  refine ha _ F B H es σ _ r (Po.imp (Po.bnd h) fun ds es1 B1 H1 _ _ h1 vs r1 a => ?_)
  obtain ⟨d, hd, hk⟩ := Po.opt h1
  obtain ⟨hz, rfl⟩ := fit_ok hd
  refine ⟨by rw [a.len]; exact hz, fun p n => ?_⟩
  exact FinE.lst (fun v B' H' s f r' a' => hk B' H' s f v r' a') r1 n a
theorem sim_cb {ta : TA} {ma : M (List D)} {r : List V → Hp → VK → Prop} {f : List D → Option D} (ha : SimA K cl E ta ma) (hr : SimC K cl r f) : SimE K cl E (tCB r ta) (mCB f ma) := by
  intro zA F B H es σ Q r h
  refine ha _ F B H es σ _ r (Po.imp (Po.bnd h) fun ds es1 B1 H1 _ _ h1 vs r1 a => ?_)
  obtain ⟨d, hd, hk⟩ := Po.opt h1
  exact hr _ F B1 H1 es1 σ vs ds d Q r1 a hd fun v B' H' s f r' a' => hk B' H' s f v r' a'
theorem sim_no : SimO K cl E tNoPart mNo := fun zA F B H es σ Q r h => Po.ret0 h H r
theorem sim_part {te : TE} {m : M D} (ha : SimE K cl E te m) : SimO K cl E (tPart te) (mPart m) := by
  intro zA F B H es σ Q r h
  refine ha _ F B H es σ _ r (Po.imp (Po.bnd h) fun d es1 B1 H1 _ _ h1 v r1 a => ?_)
  obtain ⟨i, hi, hk⟩ := Po.opt (Po.bnd h1)
  exact ⟨i, at_i a hi, Po.ret0 (hk B1 H1 (Same.rfl' _) (Frs.refl _ _)) H1 r1⟩
def SimSl (K : PySem.W.Frag) (cl : Nat → Addr) (r : V → Option Int → Option Int → Hp → VK → Prop) (f : D → Option Int → Option Int → Option D) : Prop := ∀ (zA : Option Addr) (F B H : Hp) (es : En) (σ : L2.St) (x : V) (dx d : D) (i j : Option Int) (Q : VK), Rel K cl zA F B H es σ → At K cl B x dx → f dx i j = some d →
  FinE K cl zA F B es σ d Q → r x i j H Q
theorem sim_sl {te : TE} {tl tu : TO} {m : M D} {ml mu : M (Option Int)} {r : V → Option Int → Option Int → Hp → VK → Prop} {f : D → Option Int → Option Int → Option D} (ha : SimE K cl E te m) (hl : SimO K cl E tl ml) (hu : SimO K cl E tu mu) (hr : SimSl K cl r f) :
    SimE K cl E (tSl r te tl tu) (mSl f m ml mu) := by
  intro zA F B H es σ Q r h
  refine ha _ F B H es σ _ r (Po.imp (Po.bnd h) fun dx es1 B1 H1 _ _ h1 vx r1 ax => ?_)
  refine hl _ F B1 H1 es1 σ _ r1 (Po.imp (Po.bnd h1) fun i es2 B2 H2 e2 _ h2 r2 => ?_)
  refine hu _ F B2 H2 es2 σ _ r2 (Po.imp (Po.bnd h2) fun j es3 B3 H3 e3 _ h3 r3 => ?_)
  obtain ⟨d, hd, hk⟩ := Po.opt h3
  exact hr _ F B3 H3 es3 σ vx dx d i j Q r3 ((ax.up e2).up e3) hd fun v B' H' s f r' a => hk B' H' s f v r' a
end
end Mi
namespace Mi
open PySem PySem.Spec PyProof.Rows L2
def okB (b : Bool) (d : D) : Option D := if b = true then some d else none
theorem okB_ok {b : Bool} {d e : D} (h : okB b d = some e) : b = true ∧ e = d := by
  unfold okB at h
  split at h
  · rename_i hb
    exact ⟨hb, (Option.some.inj h).symm⟩
  · cases h
def dAdd : D → D → Option D
  | .int i, .int j => some (.int (i + j))
  | .str s, .str t => okB (decide (s.length + t.length ≤ sizeLine)) (.str (s ++ t))
  | .lst l, .lst m => okB (decide (l.length + m.length ≤ sizeLine)) (.lst (l ++ m))
  | .tup l, .tup m => okB (decide (l.length + m.length ≤ sizeLine)) (.tup (l ++ m))
  | _, _ => none
def dSub : D → D → Option D
  | .int i, .int j => some (.int (i - j))
  | _, _ => none
def dMul : D → D → Option D
  | .int i, .int j => okB (decide (i.natAbs.log2 + j.natAbs.log2 < 1000000)) (.int (i * j))
  | .lst l, .int k => okB (decide (-(2 ^ 63) ≤ k ∧ k < 2 ^ 63 ∧ l.length * k.toNat ≤ sizeLine)) (.lst (List.replicate k.toNat l).flatten)
  | _, _ => none
def dDiv : D → D → Option D
  | .int i, .int j => okB (decide (0 < j ∧ j.natAbs.log2 < 9000)) (.int (i / j))
  | _, _ => none
def dMod : D → D → Option D
  | .int i, .int j => okB (decide (0 < j)) (.int (i % j))
  | _, _ => none
def dPow : D → D → Option D
  | .int i, .int j => okB (decide (0 ≤ j ∧ j ≤ 1000000 ∧ i.natAbs < 2 ^ 64)) (.int (i ^ j.toNat))
  | _, _ => none
def dNeg : D → Option D
  | .int i => some (.int (-i))
  | _ => none
def dLt : D → D → Option D
  | .int i, .int j => some (.bl (decide (i < j)))
  | _, _ => none
def dLe : D → D → Option D
  | .int i, .int j => some (.bl (decide (i ≤ j)))
  | _, _ => none
def dGt : D → D → Option D
  | .int i, .int j => some (.bl (decide (j < i)))
  | _, _ => none
def dGe : D → D → Option D
  | .int i, .int j => some (.bl (decide (j ≤ i)))
  | _, _ => none
def isN : D → Bool
  | .non => true
  | _ => false
def dIs : D → D → Option D
  | a, .non => some (.bl (isN a))
  | _, _ => none
def dIsn : D → D → Option D
  | a, .non => some (.bl (!isN a))
  | _, _ => none
mutual
def toPy : D → Option PyData
  | .non => some .none
  | .bl b => some (.bool b)
  | .int i => some (.int i)
  | .str s => some (.str s)
  | .tup l => (toPyL l).map .tuple
  | .lst l => (toPyL l).map .list
  | _ => none
def toPyL : List D → Option (List PyData)
  | [] => some []
  | d :: ds => match toPy d, toPyL ds with
    | some x, some xs => some (x :: xs)
    | _, _ => none
end
def flat : D → Option V
  | .non => some .non
  | .bl b => some (.bl b)
  | .int i => some (.int i)
  | .str s => some (.str s)
  | _ => none
def deepB (a b : D) : Option Bool := match toPy a, toPy b with
  | some x, some y => if SeqAt.shaped x && SeqAt.shaped y then some (PyData.eqv x y) else none
  | _, _ => none
def eqB (a b : D) : Option Bool := match flat a, flat b with
  | some x, some y => if scal x y = true then some (decide (x = y)) else deepB a b
  | _, _ => deepB a b
def dEq (a b : D) : Option D := (eqB a b).map .bl
def dNe (a b : D) : Option D := (eqB a b).map fun k => .bl (!k)
def flats : List D → Option (List V)
  | [] => some []
  | d :: ds => match flat d, flats ds with
    | some x, some xs => some (x :: xs)
    | _, _ => none
def inB (a b : D) : Option Bool := match b with
  | .str z => match a with
    | .str s => match s.cps.toList with
      | [c] => some (decide (c ∈ z.cps.toList))
      | _ => some (!(Builtin.Str.occurrences z s 0 z.length 1).isEmpty)
    | _ => none
  | .tup l => match flat a, flats l with
    | some x, some xs => if flatV x && xs.all flatV then some (inV x xs) else none
    | _, _ => none
  | .lst l => match flat a, flats l with
    | some x, some xs => if flatV x && xs.all flatV then some (inV x xs) else none
    | _, _ => none
  | _ => none
def dIn (a b : D) : Option D := (inB a b).map .bl
def dNin (a b : D) : Option D := (inB a b).map fun k => .bl (!k)
def dIx : D → D → Option D
  | .tup l, .int i => atI l i
  | .lst l, .int i => atI l i
  | .scr l, .int i => (atI l i).map D.int
  | .str s, .int i => if s.length ≤ sizeLine then (atI s.cps.toList i).map fun c => .str ⟨#[c]⟩ else none
  | _, _ => none
def cutD (l : List D) (lo hi : Option Int) : List D := (l.drop (HT.sIx l.length 0 lo)).take (HT.sIx l.length l.length hi - HT.sIx l.length 0 lo)
def dSl : D → Option Int → Option Int → Option D
  | .lst l, lo, hi => some (.lst (cutD l lo hi))
  | .tup l, lo, hi => some (.tup (cutD l lo hi))
  | .str s, lo, hi => if s.length ≤ sizeLine then some (.str (cutS s lo hi)) else none
  | _, _, _ => none
def dRev : D → Option D
  | .lst l => some (.lst l.reverse)
  | _ => none
section
variable {K : PySem.W.Frag} {cl : Nat → Addr}
def orR (r r' : R2) : R2 := fun x y H Q => r x y H Q ∨ r' x y H Q
def rAddD (K : PySem.W.Frag) : R2 := fun x y H Q => (rI0 fun i j => .int (i + j)) x y H Q ∨ (fun x y H Q => (∃ i j, x = V.str i ∧ y = .str j ∧ i.length + j.length ≤ sizeLine ∧ Q (.str (i ++ j)) H) ∨ rCat x y H Q ∨ rCatA K x y H Q) x y H Q
theorem op_addD {X : Cx} : OpR X (binaryOp .Add) (rAddD X.K) := op_add.or (op_add_str.or (op_cat.or op_catA))
theorem sim_add : SimR2 K cl (rAddD K) dAdd := by
  intro zA F B H es σ x y dx dy d Q r ax ay hd q
  cases ax with
  | int i =>
    cases ay with
    | int j => cases hd; exact .inl ⟨i, j, rfl, rfl, q.here r (.int _)⟩
    | _ => simp [dAdd] at hd
  | str s =>
    cases ay with
    | str t =>
      obtain ⟨hz, rfl⟩ := okB_ok hd
      exact .inr (.inl ⟨s, t, rfl, rfl, of_decide_eq_true hz, q.here r (.str _)⟩)
    | _ => simp [dAdd] at hd
  | lst h1 h2 =>
    cases ay with
    | lst g1 g2 =>
      obtain ⟨hz, rfl⟩ := okB_ok hd
      refine .inr (.inr (.inl ⟨_, _, _, _, rfl, rfl, r.bh _ _ h1, r.bh _ _ g1, ?_, fun p n => q.lst r n (h2.app g2)⟩))
      rw [h2.len, g2.len]
      exact of_decide_eq_true hz
    | _ => simp [dAdd] at hd
  | @tup p vs ds h1 h2 =>
    cases ay with
    | @tup p2 vs2 ds2 g1 g2 =>
      obtain ⟨hz, rfl⟩ := okB_ok hd
      refine .inr (.inr (.inr ⟨_, _, _, _, rfl, rfl, sqT_mono r.bh h1, sqT_mono r.bh g1, ?_, fun e => ?_, fun _ e => ?_, fun _ _ p n => q.tup r n (h2.app g2)⟩))
      · rw [h2.len, g2.len]
        exact of_decide_eq_true hz
      · subst e
        cases h2
        exact q.here r (.tup g1 g2)
      · subst e
        cases g2
        exact q.here r (by rw [List.append_nil]; exact .tup h1 h2)
    | _ => simp [dAdd] at hd
  | _ => simp [dAdd] at hd
theorem sim_i0 {g : Int → Int → V} {f : D → D → Option D} {gd : Int → Int → D} (hf : ∀ i j, f (.int i) (.int j) = some (gd i j)) (hn : ∀ a b, isI a = none ∨ isI b = none → f a b = none) (hg : ∀ (B : Hp) i j, At K cl B (g i j) (gd i j)) : SimR2 K cl (rI0 g) f := by
  intro zA F B H es σ x y dx dy d Q r ax ay hd q
  cases ax with
  | int i =>
    cases ay with
    | int j =>
      rw [hf] at hd
      cases hd
      exact ⟨i, j, rfl, rfl, q.here r (hg _ i j)⟩
    | _ => rw [hn _ _ (.inr rfl)] at hd; cases hd
  | _ => rw [hn _ _ (.inl rfl)] at hd; cases hd
theorem sim_iC {C : Int → Int → Prop} {g : Int → Int → V} {f : D → D → Option D} {gd : Int → Int → D} (hf : ∀ i j d, f (.int i) (.int j) = some d → C i j ∧ d = gd i j) (hn : ∀ a b, isI a = none ∨ isI b = none → f a b = none) (hg : ∀ (B : Hp) i j, At K cl B (g i j) (gd i j)) : SimR2 K cl (rI C g) f := by
  intro zA F B H es σ x y dx dy d Q r ax ay hd q
  cases ax with
  | int i =>
    cases ay with
    | int j =>
      obtain ⟨hc, rfl⟩ := hf _ _ _ hd
      exact ⟨i, j, rfl, rfl, hc, q.here r (hg _ i j)⟩
    | _ => rw [hn _ _ (.inr rfl)] at hd; cases hd
  | _ => rw [hn _ _ (.inl rfl)] at hd; cases hd
theorem sim_sub : SimR2 K cl (rI0 fun i j => .int (i - j)) dSub := sim_i0 (gd := fun i j => .int (i - j)) (fun _ _ => rfl) (fun a b h => by cases a <;> cases b <;> first | rfl | (rcases h with h | h <;> cases h)) fun _ _ _ => .int _
theorem sim_lt : SimR2 K cl (rI0 fun i j => .bl (decide (i < j))) dLt := sim_i0 (gd := fun i j => .bl (decide (i < j))) (fun _ _ => rfl) (fun a b h => by cases a <;> cases b <;> first | rfl | (rcases h with h | h <;> cases h)) fun _ _ _ => .bl _
theorem sim_le : SimR2 K cl (rI0 fun i j => .bl (decide (i ≤ j))) dLe := sim_i0 (gd := fun i j => .bl (decide (i ≤ j))) (fun _ _ => rfl) (fun a b h => by cases a <;> cases b <;> first | rfl | (rcases h with h | h <;> cases h)) fun _ _ _ => .bl _
theorem sim_gt : SimR2 K cl (rI0 fun i j => .bl (decide (j < i))) dGt := sim_i0 (gd := fun i j => .bl (decide (j < i))) (fun _ _ => rfl) (fun a b h => by cases a <;> cases b <;> first | rfl | (rcases h with h | h <;> cases h)) fun _ _ _ => .bl _
theorem sim_ge : SimR2 K cl (rI0 fun i j => .bl (decide (j ≤ i))) dGe := sim_i0 (gd := fun i j => .bl (decide (j ≤ i))) (fun _ _ => rfl) (fun a b h => by cases a <;> cases b <;> first | rfl | (rcases h with h | h <;> cases h)) fun _ _ _ => .bl _
theorem sim_div : SimR2 K cl (rI CDivW fun i j => .int (i / j)) dDiv := sim_iC (gd := fun i j => .int (i / j)) (fun i j _ h => ⟨show 0 < j ∧ j.natAbs.log2 < 9000 from of_decide_eq_true (okB_ok h).1, (okB_ok h).2⟩) (fun a b h => by cases a <;> cases b <;> first | rfl | (rcases h with h | h <;> cases h)) fun _ _ _ => .int _
theorem sim_mod : SimR2 K cl (rI (fun _ j => 0 < j) fun i j => .int (i % j)) dMod := sim_iC (gd := fun i j => .int (i % j)) (fun _ _ _ h => ⟨of_decide_eq_true (okB_ok h).1, (okB_ok h).2⟩) (fun a b h => by cases a <;> cases b <;> first | rfl | (rcases h with h | h <;> cases h)) fun _ _ _ => .int _
theorem sim_pow : SimR2 K cl (rI CPow fun i j => .int (i ^ j.toNat)) dPow := sim_iC (gd := fun i j => .int (i ^ j.toNat)) (fun i j _ h => ⟨show 0 ≤ j ∧ j ≤ 1000000 ∧ i.natAbs < 2 ^ 64 from of_decide_eq_true (okB_ok h).1, (okB_ok h).2⟩) (fun a b h => by cases a <;> cases b <;> first | rfl | (rcases h with h | h <;> cases h)) fun _ _ _ => .int _
theorem sim_neg : SimR1 K cl (rU fun i => .int (-i)) dNeg := by
  intro zA F B H es σ x dx d Q r ax hd q
  cases ax with
  | int i => cases hd; exact ⟨i, rfl, q.here r (.int _)⟩
  | _ => simp [dNeg] at hd
def rMulD : R2 := fun x y H Q => (rI CMulW fun i j => .int (i * j)) x y H Q ∨ rRep x y H Q
theorem op_mulD {X : Cx} : OpR X (binaryOp .Mult) rMulD := op_mulW.or op_rep
theorem AtL.flat_rep {B : Hp} {vs : List V} {ds : List D} (h : AtL K cl B vs ds) : ∀ n : Nat, AtL K cl B (List.replicate n vs).flatten (List.replicate n ds).flatten
  | 0 => .nil
  | n + 1 => by
    rw [List.replicate_succ, List.replicate_succ, List.flatten_cons, List.flatten_cons]
    exact h.app (AtL.flat_rep h n)
theorem sim_mul : SimR2 K cl rMulD dMul := by
  intro zA F B H es σ x y dx dy d Q r ax ay hd q
  cases ax with
  | int i =>
    cases ay with
    | int j =>
      obtain ⟨hz, rfl⟩ := okB_ok hd
      exact .inl ⟨i, j, rfl, rfl, (show i.natAbs.log2 + j.natAbs.log2 < 1000000 from of_decide_eq_true hz), q.here r (.int _)⟩
    | _ => simp [dMul] at hd
  | lst h1 h2 =>
    cases ay with
    | int k =>
      obtain ⟨hz, rfl⟩ := okB_ok hd
      have hz := of_decide_eq_true hz
      refine .inr ⟨_, k, _, rfl, rfl, r.bh _ _ h1, hz.1, hz.2.1, ?_, fun p n => ?_⟩
      · rw [h2.len]; exact hz.2.2
      · exact q.lst r n (h2.flat_rep _)
    | _ => simp [dMul] at hd
  | _ => simp [dMul] at hd
theorem isN_dec {B : Hp} {v : V} {d : D} (a : At K cl B v d) : isN d = decide (v = .non) := by
  cases a <;> simp [isN]
theorem sim_is : SimR2 K cl (fun x y H Q => y = .non ∧ Q (.bl (decide (x = .non))) H) dIs := by
  intro zA F B H es σ x y dx dy d Q r ax ay hd q
  cases ay with
  | non =>
    simp [dIs] at hd
    subst hd
    exact ⟨rfl, q.here r (by rw [isN_dec ax]; exact .bl _)⟩
  | _ => simp [dIs] at hd
theorem sim_isn : SimR2 K cl (fun x y H Q => y = .non ∧ Q (.bl (!decide (x = .non))) H) dIsn := by
  intro zA F B H es σ x y dx dy d Q r ax ay hd q
  cases ay with
  | non =>
    simp [dIsn] at hd
    subst hd
    exact ⟨rfl, q.here r (by rw [isN_dec ax]; exact .bl _)⟩
  | _ => simp [dIsn] at hd
mutual
theorem at_dp {F B H : Hp} {es : En} {σ : L2.St} (r : Rel K cl zA F B H es σ) : ∀ (d : D) (v : V) (x : PyData), At K cl B v d → toPy d = some x → Dp K H v x
  | .non, _, _, a, e => by cases a; cases e; exact .non
  | .bl b, _, _, a, e => by cases a; cases e; exact .bl b
  | .int i, _, _, a, e => by cases a; cases e; exact .int i
  | .str s, _, _, a, e => by cases a; cases e; exact .str s
  | .tup l, _, _, a, e => by
    cases a with
    | tup h1 h2 =>
      simp only [toPy] at e
      cases el : toPyL l with
      | none => rw [el] at e; cases e
      | some xs =>
        rw [el] at e
        cases e
        exact .tup (sqT_mono r.bh h1) (at_dpL r l _ xs h2 el)
  | .lst l, _, _, a, e => by
    cases a with
    | lst h1 h2 =>
      simp only [toPy] at e
      cases el : toPyL l with
      | none => rw [el] at e; cases e
      | some xs =>
        rw [el] at e
        cases e
        exact .lst (.inl (.inl (r.bh _ _ h1))) (at_dpL r l _ xs h2 el)
  | .ins .., _, _, _, e => by cases e
  | .dc0, _, _, _, e => by cases e
theorem at_dpL {F B H : Hp} {es : En} {σ : L2.St} (r : Rel K cl zA F B H es σ) : ∀ (ds : List D) (vs : List V) (xs : List PyData), AtL K cl B vs ds → toPyL ds = some xs → DpAll K H vs xs
  | [], _, _, a, e => by cases a; cases e; exact .nil
  | d :: ds, _, _, a, e => by
    cases a with
    | cons a1 a2 =>
      simp only [toPyL] at e
      cases e1 : toPy d with
      | none => rw [e1] at e; cases e
      | some x =>
        cases e2 : toPyL ds with
        | none => rw [e1, e2] at e; cases e
        | some xs =>
          rw [e1, e2] at e
          cases e
          exact .cons (at_dp r d _ x a1 e1) (at_dpL r ds _ xs a2 e2)
end
theorem at_flat {B : Hp} {v : V} {d : D} {x : V} (a : At K cl B v d) (e : flat d = some x) : v = x := by
  cases a <;> first | (cases e; rfl) | cases e
theorem at_flats {B : Hp} : ∀ {ds : List D} {vs xs : List V}, AtL K cl B vs ds → flats ds = some xs → vs = xs
  | [], _, _, a, e => by cases a; cases e; rfl
  | d :: ds, _, _, a, e => by
    cases a with
    | cons a1 a2 =>
      simp only [flats] at e
      cases e1 : flat d with
      | none => rw [e1] at e; cases e
      | some x =>
        cases e2 : flats ds with
        | none => rw [e1, e2] at e; cases e
        | some xs =>
          rw [e1, e2] at e
          cases e
          rw [at_flat a1 e1, at_flats a2 e2]
theorem eqB_how {F B H : Hp} {es : En} {σ : L2.St} {x y : V} {dx dy : D} {k : Bool} (r : Rel K cl zA F B H es σ) (ax : At K cl B x dx) (ay : At K cl B y dy) (e : eqB dx dy = some k) :
    (scal x y = true ∧ k = decide (x = y)) ∨ ∃ p q, Dp K H x p ∧ Dp K H y q ∧ SeqAt.shaped p = true ∧ SeqAt.shaped q = true ∧ k = PyData.eqv p q := by
  have deep : deepB dx dy = some k → ∃ p q, Dp K H x p ∧ Dp K H y q ∧ SeqAt.shaped p = true ∧ SeqAt.shaped q = true ∧ k = PyData.eqv p q := fun e => by
    unfold deepB at e
    cases e1 : toPy dx with
    | none => rw [e1] at e; cases e
    | some p =>
      cases e2 : toPy dy with
      | none => rw [e1, e2] at e; cases e
      | some q =>
        rw [e1, e2] at e
        simp only at e
        split at e
        · rename_i hs
          rw [Bool.and_eq_true] at hs
          cases e
          exact ⟨p, q, at_dp r dx x p ax e1, at_dp r dy y q ay e2, hs.1, hs.2, rfl⟩
        · cases e
  unfold eqB at e
  cases e1 : flat dx with
  | none => rw [e1] at e; exact .inr (deep e)
  | some u =>
    cases e2 : flat dy with
    | none => rw [e1, e2] at e; exact .inr (deep e)
    | some w =>
      rw [e1, e2] at e
      simp only at e
      split at e
      · rename_i hs
        cases e
        rw [at_flat ax e1, at_flat ay e2]
        exact .inl ⟨hs, rfl⟩
      · exact .inr (deep e)
def rEqK (K : PySem.W.Frag) : R2 := fun x y H Q => rEq x y H Q ∨ rEqD K x y H Q
def rNeK (K : PySem.W.Frag) : R2 := fun x y H Q => rNe x y H Q ∨ rNeD K x y H Q
theorem op_eqK {X : Cx} (hu : X.A.units + 64 < cLine) : OpR X (compareOp .Eq) (rEqK X.K) := op_eq.or (op_eqD hu)
theorem op_neK {X : Cx} (hu : X.A.units + 64 < cLine) : OpR X (compareOp .NotEq) (rNeK X.K) := op_ne.or (op_neD hu)
theorem sim_eq : SimR2 K cl (rEqK K) dEq := by
  intro zA F B H es σ x y dx dy d Q r ax ay hd q
  unfold dEq at hd
  cases e : eqB dx dy with
  | none => rw [e] at hd; cases hd
  | some k =>
    rw [e] at hd
    cases hd
    rcases eqB_how r ax ay e with ⟨h1, rfl⟩ | ⟨p, p', h1, h2, h3, h4, rfl⟩
    · exact .inl ⟨h1, q.here r (.bl _)⟩
    · exact .inr ⟨p, p', h1, h2, h3, h4, q.here r (.bl _)⟩
theorem sim_ne : SimR2 K cl (rNeK K) dNe := by
  intro zA F B H es σ x y dx dy d Q r ax ay hd q
  unfold dNe at hd
  cases e : eqB dx dy with
  | none => rw [e] at hd; cases hd
  | some k =>
    rw [e] at hd
    cases hd
    rcases eqB_how r ax ay e with ⟨h1, rfl⟩ | ⟨p, p', h1, h2, h3, h4, rfl⟩
    · exact .inl ⟨h1, q.here r (.bl _)⟩
    · exact .inr ⟨p, p', h1, h2, h3, h4, q.here r (.bl _)⟩
def rInD (K : PySem.W.Frag) : R2 := fun x y H Q => (fun x y H Q => ∃ (c : Nat) (z : Str), x = V.str ⟨#[c]⟩ ∧ y = .str z ∧ Q (.bl (decide (c ∈ z.cps.toList))) H) x y H Q ∨
  (fun x y H Q => (fun x y H Q => ∃ i j, x = V.str i ∧ y = .str j ∧ Q (.bl (!(Builtin.Str.occurrences j i 0 j.length 1).isEmpty)) H) x y H Q ∨ rIn K false x y H Q) x y H Q
def rNinD (K : PySem.W.Frag) : R2 := fun x y H Q => (fun x y H Q => ∃ (c : Nat) (z : Str), x = V.str ⟨#[c]⟩ ∧ y = .str z ∧ Q (.bl (!decide (c ∈ z.cps.toList))) H) x y H Q ∨
  (fun x y H Q => (fun x y H Q => ∃ i j, x = V.str i ∧ y = .str j ∧ Q (.bl (!(!(Builtin.Str.occurrences j i 0 j.length 1).isEmpty))) H) x y H Q ∨ rIn K true x y H Q) x y H Q
theorem op_inD {X : Cx} : OpR X (compareOp .In) (rInD X.K) := op_in_sign.or (op_in_str.or op_in_seq)
theorem op_ninD {X : Cx} : OpR X (compareOp .NotIn) (rNinD X.K) := op_notIn_sign.or (op_notin_str.or op_notIn_seq)
theorem inB_how {F B H : Hp} {es : En} {σ : L2.St} {x y : V} {dx dy : D} {k : Bool} (r : Rel K cl zA F B H es σ) (ax : At K cl B x dx) (ay : At K cl B y dy) (e : inB dx dy = some k) :
    (∃ (c : Nat) (z : Str), x = V.str ⟨#[c]⟩ ∧ y = .str z ∧ k = decide (c ∈ z.cps.toList)) ∨ (∃ i j, x = V.str i ∧ y = .str j ∧ k = !(Builtin.Str.occurrences j i 0 j.length 1).isEmpty) ∨
    ∃ p xs, y = .ref p ∧ (SqL K H p xs ∨ SqT K H p xs) ∧ flatV x = true ∧ xs.all flatV = true ∧ k = inV x xs := by
  have seq : ∀ (l : List D) (vs : List V) (p : Addr), y = .ref p → AtL K cl B vs l → (SqL K H p vs ∨ SqT K H p vs) → (match flat dx, flats l with
      | some x, some xs => if flatV x && xs.all flatV then some (inV x xs) else none
      | _, _ => none) = some k → ∃ p xs, y = .ref p ∧ (SqL K H p xs ∨ SqT K H p xs) ∧ flatV x = true ∧ xs.all flatV = true ∧ k = inV x xs := fun l vs p ey al hs e => by
    cases e1 : flat dx with
    | none => rw [e1] at e; cases e
    | some u =>
      cases e2 : flats l with
      | none => rw [e1, e2] at e; cases e
      | some us =>
        rw [e1, e2] at e
        simp only at e
        split at e
        · rename_i hf
          rw [Bool.and_eq_true] at hf
          cases e
          have z1 := at_flat ax e1
          have z2 := at_flats al e2
          subst z1
          subst z2
          exact ⟨p, vs, ey, hs, hf.1, hf.2, rfl⟩
        · cases e
  cases ay with
  | str z =>
    cases ax with
    | str s =>
      simp only [inB] at e
      cases hs : s.cps.toList with
      | nil =>
        rw [hs] at e
        cases e
        exact .inr (.inl ⟨s, z, rfl, rfl, rfl⟩)
      | cons c t =>
        cases t with
        | nil =>
          rw [hs] at e
          cases e
          refine .inl ⟨c, z, ?_, rfl, rfl⟩
          have : s = ⟨#[c]⟩ := by
            cases s with
            | mk a =>
              congr 1
              have h2 : a.toList = [c] := hs
              rw [← Array.toArray_toList (xs := a), h2]
          rw [this]
        | cons _ _ =>
          rw [hs] at e
          cases e
          exact .inr (.inl ⟨s, z, rfl, rfl, rfl⟩)
    | _ => simp [inB] at e
  | tup h1 h2 => exact .inr (.inr (seq _ _ _ rfl h2 (.inr (sqT_mono r.bh h1)) e))
  | lst h1 h2 => exact .inr (.inr (seq _ _ _ rfl h2 (.inl (.inl (.inl (r.bh _ _ h1)))) e))
  | _ => simp [inB] at e
theorem sim_in : SimR2 K cl (rInD K) dIn := by
  intro zA F B H es σ x y dx dy d Q r ax ay hd q
  unfold dIn at hd
  cases e : inB dx dy with
  | none => rw [e] at hd; cases hd
  | some k =>
    rw [e] at hd
    cases hd
    have fin := q.here r (.bl k)
    rcases inB_how r ax ay e with ⟨c, z, h1, h2, rfl⟩ | ⟨i, j, h1, h2, rfl⟩ | ⟨p, xs, h1, h2, h3, h4, rfl⟩
    · exact .inl ⟨c, z, h1, h2, fin⟩
    · exact .inr (.inl ⟨i, j, h1, h2, fin⟩)
    · exact .inr (.inr ⟨p, xs, h1, h2, h3, h4, fin⟩)
theorem sim_nin : SimR2 K cl (rNinD K) dNin := by
  intro zA F B H es σ x y dx dy d Q r ax ay hd q
  unfold dNin at hd
  cases e : inB dx dy with
  | none => rw [e] at hd; cases hd
  | some k =>
    rw [e] at hd
    cases hd
    have fin := q.here r (.bl (!k))
    rcases inB_how r ax ay e with ⟨c, z, h1, h2, rfl⟩ | ⟨i, j, h1, h2, rfl⟩ | ⟨p, xs, h1, h2, h3, h4, rfl⟩
    · exact .inl ⟨c, z, h1, h2, fin⟩
    · exact .inr (.inl ⟨i, j, h1, h2, fin⟩)
    · exact .inr (.inr ⟨p, xs, h1, h2, h3, h4, fin⟩)
theorem atI_at {B : Hp} {vs : List V} {ds : List D} {i : Int} {d : D} (h : AtL K cl B vs ds) (e : atI ds i = some d) : ∃ v, atI vs i = some v ∧ At K cl B v d := by
  unfold atI at e ⊢
  rw [h.len]
  cases q : ixN ds.length i with
  | none => rw [q] at e; cases e
  | some j =>
    rw [q] at e
    exact h.get e
theorem atI_map (l : List Int) (i : Int) : atI (l.map V.int) i = (atI l i).map V.int := by
  unfold atI
  rw [List.length_map]
  cases ixN l.length i with
  | none => rfl
  | some j => simp
theorem sim_ix : SimR2 K cl (rIx K) dIx := by
  intro zA F B H es σ x y dx dy d Q r ax ay hd q
  cases ay with
  | int i =>
    cases ax with
    | tup h1 h2 =>
      obtain ⟨v, hv, av⟩ := atI_at h2 hd
      exact .inr (.inl ⟨_, _, i, v, rfl, rfl, sqT_mono r.bh h1, hv, q.here r av⟩)
    | lst h1 h2 =>
      obtain ⟨v, hv, av⟩ := atI_at h2 hd
      exact .inl ⟨_, _, i, v, rfl, rfl, .inl (.inl (r.bh _ _ h1)), hv, q.here r av⟩
    | @scr p l h1 =>
      simp only [dIx] at hd
      cases e : atI l i with
      | none => rw [e] at hd; cases hd
      | some n =>
        rw [e] at hd
        cases hd
        exact .inl ⟨_, _, i, .int n, rfl, rfl, sqL_mono r.bh h1, by rw [atI_map, e]; rfl, q.here r (.int n)⟩
    | str s =>
      simp only [dIx] at hd
      split at hd
      · rename_i hz
        cases e : atI s.cps.toList i with
        | none => rw [e] at hd; cases hd
        | some c =>
          rw [e] at hd
          cases hd
          exact .inr (.inr ⟨s, i, c, rfl, rfl, hz, e, q.here r (.str _)⟩)
      · cases hd
    | _ => simp [dIx] at hd
  | _ => cases ax <;> simp [dIx] at hd
theorem cut_at {B : Hp} {vs : List V} {ds : List D} {lo hi : Option Int} (h : AtL K cl B vs ds) : AtL K cl B (cutV vs lo hi) (cutD ds lo hi) := by
  unfold cutV cutD
  rw [h.len]
  exact (h.drop _).take _
def rSlD (K : PySem.W.Frag) : V → Option Int → Option Int → Hp → VK → Prop := fun x lo hi H Q => rSlL K x lo hi H Q ∨ (fun x lo hi H Q => rSlA K x lo hi H Q ∨ rSlS x lo hi H Q) x lo hi H Q
theorem sl_D {X : Cx} : SlR X (rSlD X.K) := sl_list.or (sl_tupA.or sl_str)
theorem sim_slice : SimSl K cl (rSlD K) dSl := by
  intro zA F B H es σ x dx d lo hi Q r ax hd q
  cases ax with
  | lst h1 h2 =>
    cases hd
    exact .inl ⟨_, _, rfl, .inl (.inl (r.bh _ _ h1)), fun p n => q.lst r n (cut_at h2)⟩
  | @tup p vs ds h1 h2 =>
    cases hd
    refine .inr (.inl ⟨_, _, rfl, sqT_mono r.bh h1, fun e => ?_, fun _ p n => q.tup r n (cut_at h2)⟩)
    have hw : cutD ds lo hi = ds := by
      unfold cutD
      rw [← h2.len, e.1, e.2]
      rw [List.drop_zero, h2.len, Nat.sub_zero, List.take_length]
    rw [hw] at q
    exact q.here r (.tup h1 h2)
  | str s =>
    simp only [dSl] at hd
    split at hd
    · rename_i hz
      cases hd
      exact .inr (.inr ⟨s, rfl, hz, q.here r (.str _)⟩)
    · cases hd
  | _ => simp [dSl] at hd
end
end Mi
namespace Mi
open PySem PySem.Spec PyProof.Rows L2
def SimS (K : PySem.W.Frag) (cl : Nat → Addr) (E : XK) (t : TS) (m : M Out) : Prop := ∀ (zA : Option Addr) (F B H : Hp) (es : En) (σ : L2.St) (Dn : Ends), Rel K cl zA F B H es σ →
  Po K cl E F B (m es) (fun o es' B' H' => match o with
    | .nx => ∀ σ', Rel K cl zA F B' H' es' σ' → Dn.nx σ' H'
    | .rt d => ∀ v σ', Rel K cl zA F B' H' es' σ' → At K cl B' v d → Dn.rt v H'
    | .bk => ∀ σ', Rel K cl zA F B' H' es' σ' → Dn.bk σ' H'
    | .ct => ∀ σ', Rel K cl zA F B' H' es' σ' → Dn.ct σ' H') → t Dn σ H
abbrev EndP (K : PySem.W.Frag) (cl : Nat → Addr) (zA : Option Addr) (F : Hp) (Dn : Ends) : Out → En → Hp → Hp → Prop := fun o es' B' H' => match o with
    | .nx => ∀ σ', Rel K cl zA F B' H' es' σ' → Dn.nx σ' H'
    | .rt d => ∀ v σ', Rel K cl zA F B' H' es' σ' → At K cl B' v d → Dn.rt v H'
    | .bk => ∀ σ', Rel K cl zA F B' H' es' σ' → Dn.bk σ' H'
    | .ct => ∀ σ', Rel K cl zA F B' H' es' σ' → Dn.ct σ' H'
def SimG (K : PySem.W.Frag) (cl : Nat → Addr) (is : List Nat) (g : TG) (b : D → M Unit) : Prop := ∀ (zA : Option Addr) (F B H : Hp) (es : En) (σ : L2.St) (v : V) (d : D) (es' : En) (Q : L2.St → Hp → Prop), Rel K cl zA F B H es σ → At K cl B v d → b d es = .ok ((), es') →
  (∀ σ' : L2.St, Rel K cl zA F B H es' σ' → σ'.length = σ.length → (∀ j, j ∉ is → σ'[j]? = σ[j]?) → Q σ' H) → g v σ H Q
def SimGs (K : PySem.W.Frag) (cl : Nat → Addr) (is : List Nat) (g : TGs) (b : List D → M Unit) : Prop := ∀ (zA : Option Addr) (F B H : Hp) (es : En) (σ : L2.St) (vs : List V) (ds : List D) (es' : En) (Q : L2.St → Hp → Prop), Rel K cl zA F B H es σ → AtL K cl B vs ds → b ds es = .ok ((), es') →
  (∀ σ' : L2.St, Rel K cl zA F B H es' σ' → σ'.length = σ.length → (∀ j, j ∉ is → σ'[j]? = σ[j]?) → Q σ' H) → g vs σ H Q
def mNext : M Out := Mi.ret .nx
def mSeq (m n : M Out) : M Out := Mi.bnd m fun o => match o with
  | .nx => n
  | .rt d => Mi.ret (.rt d)
  | .bk => Mi.ret .bk
  | .ct => Mi.ret .ct
def bName (i : Nat) (d : D) : M Unit := fun es => .ok ((), es.set i (.dat d))
def bNames : List Nat → List D → M Unit
  | [], [] => Mi.ret ()
  | i :: is, d :: ds => fun es => bNames is ds (es.set i (.dat d))
  | _, _ => Mi.bad
def bTup (is : List Nat) : D → M Unit
  | .tup l => bNames is l
  | _ => Mi.bad
def mAsg (b : D → M Unit) (m : M D) : M Out := Mi.bnd m fun d => Mi.bnd (b d) fun _ => Mi.ret .nx
def mDrop (m : M D) : M Out := Mi.bnd m fun _ => Mi.ret .nx
def mRet (m : M D) : M Out := Mi.bnd m fun d => Mi.ret (.rt d)
def mRetN : M Out := Mi.ret (.rt .non)
def mIf (t : M Bool) (a b : M Out) : M Out := Mi.bnd t fun c => if c = true then a else b
def mBrk : M Out := Mi.ret .bk
def mCnt : M Out := Mi.ret .ct
def mPar (is : List Nat) (m : M (List D)) : M Out := Mi.bnd m fun l => Mi.bnd (bNames is l) fun _ => Mi.ret .nx
def mAsgO (i : Nat) (m : M (List D)) : M Out := Mi.bnd m fun l => fun es => if l.length ≤ sizeLine then .ok (.nx, es.set i (.own l)) else .bad
def ownAt (i : Nat) (es : En) : Option (List D) := match es[i]? with
  | some (.own l) => some l
  | _ => none
def mApp (i : Nat) (m : M D) : M D := fun es => match ownAt i es with
  | some _ => Mi.bnd m (fun d es1 => match ownAt i es1 with
    | some l => if l.length < sizeLine then .ok (.non, es1.set i (.own (l ++ [d]))) else .bad
    | none => .bad) es
  | none => .bad
def mIxO (i : Nat) (m : M D) : M D := fun es => match ownAt i es with
  | some _ => Mi.bnd m (fun d es1 => match ownAt i es1 with
    | some l => Mi.opt ((isI d).bind (atI l)) es1
    | none => .bad) es
  | none => .bad
def mSetO (i : Nat) (mk m : M D) : M Out := Mi.bnd m fun x es0 => match ownAt i es0 with
  | some _ => Mi.bnd mk (fun k es1 => match ownAt i es1 with
    | some l => Mi.opt ((isI k).bind (ixN l.length)) es1 |> fun r => match r with
      | .ok (j, _) => .ok (.nx, es1.set i (.own (l.set j x)))
      | _ => .bad
    | none => .bad) es0
  | none => .bad
section
variable {K : PySem.W.Frag} {cl : Nat → Addr} {zA : Option Addr} {E : XK} {F B H : Hp} {es : En} {σ : L2.St}
theorem own_at {i : Nat} {l : List D} (h : ownAt i es = some l) : es[i]? = some (.own l) := by
  unfold ownAt at h
  split at h
  · rename_i q e
    cases h
    exact e
  · cases h
theorem sim_next : SimS K cl E tNext mNext := fun zA F B H es σ Dn r h => Po.ret0 h H σ r
theorem sim_seq {t u : TS} {m n : M Out} (ht : SimS K cl E t m) (hu : SimS K cl E u n) : SimS K cl E (tSeq t u) (mSeq m n) := by
  intro zA F B H es σ Dn r h
  refine ht _ F B H es σ { Dn with nx := u Dn } r (Po.imp (Po.bnd h) fun o es1 B1 H1 e1 f1 h1 => ?_)
  cases o with
  | nx => exact fun σ' r1 => hu _ F B1 H1 es1 σ' Dn r1 h1
  | rt d => exact Po.ret0 (show Po K cl E F B1 (Mi.ret (Out.rt d) es1) (EndP K cl zA F Dn) from h1) H1
  | bk => exact Po.ret0 (show Po K cl E F B1 (Mi.ret Out.bk es1) (EndP K cl zA F Dn) from h1) H1
  | ct => exact Po.ret0 (show Po K cl E F B1 (Mi.ret Out.ct es1) (EndP K cl zA F Dn) from h1) H1
theorem sim_gname {i : Nat} : SimG K cl [i] (gName i) (bName i) := by
  intro zA F B H es σ v d es' Q r a e h
  cases e
  exact h _ (r.put a) (List.length_set) fun j hj => List.getElem?_set_ne fun e => hj (by rw [e]; exact List.mem_singleton_self _)
theorem sim_gnil : SimGs K cl [] gNil (bNames []) := by
  intro zA F B H es σ vs ds es' Q r a e h
  cases a with
  | nil => cases e; exact ⟨rfl, h _ r rfl fun _ _ => rfl⟩
  | cons _ _ => cases e
theorem sim_gcons {i : Nat} {is : List Nat} {g : TGs} (hg : SimGs K cl is g (bNames is)) : SimGs K cl (i :: is) (gCons (gName i) g) (bNames (i :: is)) := by
  intro zA F B H es σ vs ds es' Q r a e h
  cases a with
  | nil => cases e
  | @cons v vs d ds a1 a2 => exact ⟨v, vs, rfl, hg _ F B H _ _ vs ds es' Q (r.put a1) a2 e fun σ' r' hl hj => h σ' r' (by rw [hl, List.length_set]) fun j hn => by
    rw [hj j fun z => hn (List.mem_cons_of_mem _ z)]
    exact List.getElem?_set_ne fun e => hn (by rw [e]; exact List.mem_cons_self)⟩
theorem bNames_len : ∀ {is : List Nat} {ds : List D} {es es' : En}, bNames is ds es = .ok ((), es') → ds.length = is.length
  | [], [], _, _, _ => rfl
  | [], _ :: _, _, _, h => by cases h
  | _ :: _, [], _, _, h => by cases h
  | _ :: is, _ :: ds, _, _, h => congrArg Nat.succ (bNames_len (is := is) (ds := ds) h)
theorem sim_gtup {is : List Nat} {n : Nat} {g : TGs} (hn : is.length = n) (hg : SimGs K cl is g (bNames is)) : SimG K cl is (gTup K n g) (bTup is) := by
  intro zA F B H es σ v d es' Q r a e h
  cases a with
  | @tup p vs ds h1 h2 => exact ⟨p, vs, rfl, sqT_mono r.bh h1, by rw [h2.len, bNames_len e, hn], hg _ F B H es σ vs ds es' Q r h2 e h⟩
  | _ => cases e
theorem Po.unit {α : Type} {m : M Unit} {f : M α} {k : α → En → Hp → Hp → Prop} (h : Po K cl E F B (Mi.bnd m (fun _ => f) es) k) (he : ∀ c d, m es ≠ .exc c d) : ∃ es', m es = .ok ((), es') ∧ Po K cl E F B (f es') k := by
  unfold Mi.bnd at h
  cases e : m es with
  | ok p => rw [e] at h; exact ⟨p.2, rfl, h⟩
  | exc c d => exact absurd e (he c d)
  | bad => rw [e] at h; exact h.elim
theorem bNames_ne : ∀ {is : List Nat} {ds : List D} {es : En} (c : Nat) (d : D), bNames is ds es ≠ .exc c d
  | [], [], _, _, _ => fun h => by cases h
  | [], _ :: _, _, _, _ => fun h => by cases h
  | _ :: _, [], _, _, _ => fun h => by cases h
  | _ :: is, _ :: ds, _, c, d => bNames_ne (is := is) (ds := ds) c d
theorem bTup_ne {is : List Nat} {x : D} {es : En} (c : Nat) (d : D) : bTup is x es ≠ .exc c d := by
  cases x <;> first | exact bNames_ne c d | (intro h; cases h)
theorem sim_asg {te : TE} {m : M D} {g : TG} {b : D → M Unit} {is : List Nat} (hb : ∀ x es c d, b x es ≠ .exc c d) (he : SimE K cl E te m) (hg : SimG K cl is g b) : SimS K cl E (tAsg te g) (mAsg b m) := by
  intro zA F B H es σ Dn r h
  refine he _ F B H es σ _ r (Po.imp (Po.bnd h) fun d es1 B1 H1 e1 f1 h1 v r1 a => ?_)
  obtain ⟨es2, e2, h2⟩ := Po.unit h1 (hb _ _)
  exact hg _ F B1 H1 es1 σ v d es2 _ r1 a e2 fun σ' r' _ _ => Po.ret0 h2 H1 σ' r'
theorem sim_drop {te : TE} {m : M D} (he : SimE K cl E te m) : SimS K cl E (tDrop te) (mDrop m) := by
  intro zA F B H es σ Dn r h
  exact he _ F B H es σ _ r (Po.imp (Po.bnd h) fun d es1 B1 H1 e1 f1 h1 v r1 a => Po.ret0 h1 H1 σ r1)
theorem sim_ret {te : TE} {m : M D} (he : SimE K cl E te m) : SimS K cl E (tRet te) (mRet m) := by
  intro zA F B H es σ Dn r h
  exact he _ F B H es σ _ r (Po.imp (Po.bnd h) fun d es1 B1 H1 e1 f1 h1 v r1 a => Po.ret0 h1 H1 v σ r1 a)
theorem sim_retN : SimS K cl E tRetN mRetN := fun zA F B H es σ Dn r h => Po.ret0 h H .non σ r .non
theorem sim_if {t : TT} {m : M Bool} {ta tb : TS} {ma mb : M Out} (ht : SimT K cl E t m) (ha : SimS K cl E ta ma) (hb : SimS K cl E tb mb) : SimS K cl E (tIfS t ta tb) (mIf m ma mb) := by
  intro zA F B H es σ Dn r h
  refine ht _ F B H es σ _ r (Po.imp (Po.bnd h) fun b es1 B1 H1 _ _ h1 r1 => ?_)
  cases b with
  | true => exact ha _ F B1 H1 es1 σ Dn r1 h1
  | false => exact hb _ F B1 H1 es1 σ Dn r1 h1
theorem sim_brk : SimS K cl E tBreak mBrk := fun zA F B H es σ Dn r h => Po.ret0 h H σ r
theorem sim_cnt : SimS K cl E tCont mCnt := fun zA F B H es σ Dn r h => Po.ret0 h H σ r
theorem sim_par {i j : Nat} {ta : TA} {m : M (List D)} (ha : SimA K cl E ta m) : SimS K cl E (tPar i j ta) (mPar [i, j] m) := by
  intro zA F B H es σ Dn r h
  refine ha _ F B H es σ _ r (Po.imp (Po.bnd h) fun ds es1 B1 H1 e1 f1 h1 vs r1 a => ?_)
  obtain ⟨es2, e2, h2⟩ := Po.unit h1 bNames_ne
  have hl := bNames_len e2
  match vs, ds, a, e2 with
  | _, _, .cons (v := v) a1 (.cons (v := w) a2 .nil), e2 =>
    cases e2
    exact ⟨v, w, rfl, Po.ret0 h2 H1 _ ((r1.put a1).put a2)⟩
  | _, _, .nil, e2 => cases hl
  | _, _, .cons _ .nil, e2 => cases hl
  | _, _, .cons _ (.cons _ (.cons _ _)), e2 => simp at hl
theorem sim_par3 {i j k : Nat} {ta : TA} {m : M (List D)} (ha : SimA K cl E ta m) : SimS K cl E (tPar3 i j k ta) (mPar [i, j, k] m) := by
  intro zA F B H es σ Dn r h
  refine ha _ F B H es σ _ r (Po.imp (Po.bnd h) fun ds es1 B1 H1 e1 f1 h1 vs r1 a => ?_)
  obtain ⟨es2, e2, h2⟩ := Po.unit h1 bNames_ne
  have hl := bNames_len e2
  match vs, ds, a, e2 with
  | _, _, .cons (v := v) a1 (.cons (v := w) a2 (.cons (v := z) a3 .nil)), e2 =>
    cases e2
    exact ⟨v, w, z, rfl, Po.ret0 h2 H1 _ (((r1.put a1).put a2).put a3)⟩
  | _, _, .nil, e2 => cases hl
  | _, _, .cons _ .nil, e2 => cases hl
  | _, _, .cons _ (.cons _ .nil), e2 => simp at hl
  | _, _, .cons _ (.cons _ (.cons _ (.cons _ _))), e2 => simp at hl
theorem sim_asgO {i : Nat} {ta : TA} {m : M (List D)} (i0 : i ≠ 0) (ha : SimA K cl E ta m) : SimS K cl E (tAsg (tLst ta) (gName i)) (mAsgO i m) := by
  intro zA F B H es σ Dn r h
  refine ha _ F B H es σ _ r (Po.imp (Po.bnd h) fun ds es1 B1 H1 e1 f1 h1 vs r1 a => ?_)
  by_cases hz : ds.length ≤ sizeLine
  · rw [if_pos hz] at h1
    refine ⟨by rw [a.len]; exact hz, fun p n => ?_⟩
    exact h1 B1 _ (Same.rfl' _) (Frs.refl _ _) _ (r1.putOwn i0 n a)
  · rw [if_neg hz] at h1
    exact h1.elim
def mParO (i j : Nat) (m : M D) : M Out := Mi.bnd m fun d es => .ok (.nx, (es.set i (.dat d)).set j (.own []))
theorem sim_parO {i j : Nat} {te : TE} {m : M D} (j0 : j ≠ 0) (ha : SimE K cl E te m) : SimS K cl E (tPar i j (tCons te (tCons (tLst tNil) tNil))) (mParO i j m) := by
  intro zA F B H es σ Dn r h
  refine ha _ F B H es σ _ r (Po.imp (Po.bnd h) fun d es1 B1 H1 e1 f1 h1 v r1 a => ?_)
  exact ⟨Nat.zero_le _, fun p n => ⟨v, .ref p, rfl, h1 B1 _ (Same.rfl' _) (Frs.refl _ _) _ ((r1.put a).putOwn j0 n .nil)⟩⟩
theorem Rel.floor (r : Rel K cl zA F B H es σ) {p : Addr} {vs : List V} (n : H p = none) : Rel K cl zA (upd F p (.lst vs)) B (upd H p (.lst vs)) es σ where
  bh := r.bh.trans (same_new n)
  fh := fun b o e => by
    by_cases hb : b = p
    · subst hb
      rw [upd_same] at e ⊢
      exact e
    · rw [upd_ne hb] at e ⊢
      exact r.fh _ _ e
  len := r.len
  dat := r.dat
  own := fun i l e => by
    obtain ⟨q, ws, h1, h2, h3, h4, h5⟩ := r.own i l e
    have ne : q ≠ p := ne_of_none h4 n
    exact ⟨q, ws, h1, h2, by rw [upd_ne ne]; exact h3, by rw [upd_ne ne]; exact h4, h5⟩
  apart := r.apart
  zero := r.zero
theorem Rel.lower {p : Addr} {vs : List V} {B0 : Hp} (r : Rel K cl zA (upd F p (.lst vs)) B H es σ) (n : F p = none) : Rel K cl zA F B H es σ where
  bh := r.bh
  fh := fun b o e => r.fh _ _ (by rw [upd_ne (ne_of_none e n)]; exact e)
  len := r.len
  dat := r.dat
  own := fun i l e => by
    obtain ⟨q, ws, h1, h2, h3, h4, h5⟩ := r.own i l e
    refine ⟨q, ws, h1, h2, ?_, h4, h5⟩
    by_cases hq : q = p
    · subst hq
      rw [upd_same] at h3
      cases h3
    · rw [upd_ne hq] at h3
      exact h3
  apart := r.apart
  zero := r.zero
theorem Frs.floor {p : Addr} {o : HO} {B' : Hp} (f : Frs B (upd F p o) B') (nf : F p = none) : Frs B F B' := fun x u e n => by
  have z := f x u e n
  by_cases hx : x = p
  · rw [hx]; exact nf
  · rw [upd_ne hx] at z; exact z
theorem Frs.notp {p : Addr} {o : HO} {B' : Hp} (f : Frs B (upd F p o) B') (nb : B p = none) : B' p = none := by
  cases q : B' p with
  | none => rfl
  | some u =>
    have z := f p u q nb
    rw [upd_same] at z
    cases z
theorem sim_app {i : Nat} {te : TE} {m : M D} (ha : SimE K cl E te m) : SimE K cl E (tBM K "list" rAppend (tVar i) (tCons te tNil)) (mApp i m) := by
  intro zA F B H es σ Q r h
  unfold mApp at h
  cases e0 : ownAt i es with
  | none => rw [e0] at h; exact h.elim
  | some l0 =>
    rw [e0] at h
    obtain ⟨p, vs, h1, h2, h3, h4, h5⟩ := r.own i l0 (own_at e0)
    refine ⟨.ref p, h1, .inl ⟨rfl, _, .inl (.inl h4)⟩, ?_⟩
    refine ha _ F B H es σ _ r (Po.imp (Po.bnd h) fun d es1 B1 H1 e1 f1 k v r1 a => ?_)
    cases q : ownAt i es1 with
    | none => rw [q] at k; exact k.elim
    | some l =>
      rw [q] at k
      simp only at k
      by_cases hz : l.length < sizeLine
      · rw [if_pos hz] at k
        obtain ⟨p', ws, g1, g2, g3, g4, g5⟩ := r1.own i l (own_at q)
        rw [h1] at g1
        cases g1
        refine ⟨p, ws, v, rfl, rfl, g4, by rw [g5.len]; exact hz, ?_⟩
        exact k B1 _ (Same.rfl' _) (Frs.refl _ _) .non (r1.chg (own_at q) h1 (g5.app (.one a))) .non
      · rw [if_neg hz] at k
        exact k.elim
theorem sim_ixO {i : Nat} {te : TE} {m : M D} (ha : SimE K cl E te m) : SimE K cl E (tOp (rIx K) (tVar i) te) (mIxO i m) := by
  intro zA F B H es σ Q r h
  unfold mIxO at h
  cases e0 : ownAt i es with
  | none => rw [e0] at h; exact h.elim
  | some l0 =>
    rw [e0] at h
    obtain ⟨p, vs, h1, h2, h3, h4, h5⟩ := r.own i l0 (own_at e0)
    refine ⟨.ref p, h1, ?_⟩
    refine ha _ F B H es σ _ r (Po.imp (Po.bnd h) fun d es1 B1 H1 e1 f1 k v r1 a => ?_)
    cases q : ownAt i es1 with
    | none => rw [q] at k; exact k.elim
    | some l =>
      rw [q] at k
      obtain ⟨x, hx, hk⟩ := Po.opt k
      obtain ⟨p', ws, g1, g2, g3, g4, g5⟩ := r1.own i l (own_at q)
      rw [h1] at g1
      cases g1
      cases ej : isI d with
      | none => rw [ej] at hx; cases hx
      | some j =>
        rw [ej] at hx
        obtain ⟨w, hw, aw⟩ := atI_at g5 hx
        exact .inl ⟨p, ws, j, w, rfl, at_i a ej, .inl (.inl g4), hw, hk B1 _ (Same.rfl' _) (Frs.refl _ _) w r1 aw⟩
theorem sim_setO {i : Nat} {te ti : TE} {m mk : M D} (ha : SimE K cl E te m) (hk : SimE K cl E ti mk) : SimS K cl E (tAsg te (gSub (tVar i) ti rSetL)) (mSetO i mk m) := by
  intro zA F B H es σ Dn r h
  refine ha _ F B H es σ _ r (Po.imp (Po.bnd h) fun x es0 B0 H0 e0 f0 h0 v r0 a0 => ?_)
  simp only at h0
  cases q0 : ownAt i es0 with
  | none => rw [q0] at h0; exact h0.elim
  | some l0 =>
    rw [q0] at h0
    simp only at h0
    obtain ⟨p, vs, h1, h2, h3, h4, h5⟩ := r0.own i l0 (own_at q0)
    refine ⟨.ref p, h1, ?_⟩
    refine hk _ F B0 H0 es0 σ _ r0 (Po.imp (Po.bnd h0) fun d es1 B1 H1 e1 f1 k w r1 a => ?_)
    cases q : ownAt i es1 with
    | none => rw [q] at k; exact k.elim
    | some l =>
      rw [q] at k
      simp only at k
      obtain ⟨p', ws, g1, g2, g3, g4, g5⟩ := r1.own i l (own_at q)
      rw [h1] at g1
      cases g1
      cases ej : isI d with
      | none => rw [ej] at k; exact k.elim
      | some j =>
        rw [ej] at k
        simp only [Option.bind_some] at k
        cases en : ixN l.length j with
        | none => rw [en] at k; exact k.elim
        | some n =>
          rw [en] at k
          simp only [Mi.opt] at k
          refine ⟨p, ws, j, n, rfl, at_i a ej, g4, by rw [g5.len]; exact en, ?_⟩
          exact k B1 _ (Same.rfl' _) (Frs.refl _ _) σ (r1.chg (own_at q) h1 (g5.set n (a0.up e1)))
end
def ItD (K : PySem.W.Frag) (cl : Nat → Addr) (J : It) (B0 : Hp) (ds : List D) : Prop := ∀ (zA : Option Addr) (F B H : Hp) (es : En) (σ : L2.St), Rel K cl zA F B H es σ → Same B0 B →
  (∀ (i : Nat) (d : D), ds[i]? = some d → J.go i H ∧ ∀ x H', J.yld i H x H' → ∃ B', Same B B' ∧ Frs B F B' ∧ Rel K cl zA F B' H' es σ ∧ At K cl B' x d) ∧ ∀ i, ds.length ≤ i → J.stop i H
def SimI (K : PySem.W.Frag) (cl : Nat → Addr) (E : XK) (wi : TI) (m : M (List D)) : Prop := ∀ (zA : Option Addr) (F B H : Hp) (es : En) (σ : L2.St) (R : It → Hp → Prop), Rel K cl zA F B H es σ →
  Po K cl E F B (m es) (fun ds es' B' H' => ∀ J, Rel K cl zA F B' H' es' σ → ItD K cl J B' ds → R J H') → wi σ H R
def loopM (b : D → M Unit) (m : M Out) : List D → M Out
  | [] => Mi.ret .nx
  | d :: ds => Mi.bnd (b d) fun _ => Mi.bnd m fun o => match o with
    | .nx => loopM b m ds
    | .ct => loopM b m ds
    | .bk => Mi.ret .nx
    | .rt x => Mi.ret (.rt x)
def mFor (s : M (List D)) (b : D → M Unit) (m : M Out) : M Out := Mi.bnd s fun ds => loopM b m ds
section
variable {K : PySem.W.Frag} {cl : Nat → Addr} {E : XK}
theorem sim_for {wi : TI} {g : TG} {tb : TS} {ms : M (List D)} {b : D → M Unit} {mb : M Out} {is : List Nat} (hb : ∀ x es c d, b x es ≠ .exc c d) (hi : SimI K cl E wi ms) (hg : SimG K cl is g b) (ht : SimS K cl E tb mb) : SimS K cl E (tFor wi g tb) (mFor ms b mb) := by
  intro zA F B H es σ Dn r h
  refine hi _ F B H es σ _ r (Po.imp (Po.bnd h) fun ds es1 B1 H1 e1 f1 h1 J r1 hJ => ?_)
  refine ⟨fun i m σ' H' => ∃ es' B', i + m = ds.length ∧ Rel K cl zA F B' H' es' σ' ∧ Same B1 B' ∧ Frs B1 F B' ∧ Po K cl E F B' (loopM b mb (ds.drop i) es') (EndP K cl zA F Dn),
    ⟨ds.length, es1, B1, Nat.zero_add _, r1, Same.rfl' _, Frs.refl _ _, h1⟩, ?_⟩
  rintro i m σ' H' ⟨es', B', hm, r', s', f', h'⟩
  obtain ⟨go, st⟩ := hJ _ F B' H' es' σ' r' s'
  by_cases hlt : i < ds.length
  · have hd : ds[i]? = some ds[i] := List.getElem?_eq_getElem hlt
    have hdr : ds.drop i = ds[i] :: ds.drop (i + 1) := List.drop_eq_getElem_cons hlt
    obtain ⟨g1, g2⟩ := go i _ hd
    refine .inr ⟨g1, fun σ2 H2 => ∃ es2 B2, Rel K cl zA F B2 H2 es2 σ2 ∧ Same B1 B2 ∧ Frs B1 F B2 ∧ Po K cl E F B2 (loopM b mb (ds.drop (i + 1)) es2) (EndP K cl zA F Dn), fun σ2 H2 hN => ?_, fun x H2 hy => ?_⟩
    · obtain ⟨es2, B2, r2, s2, f2, h2⟩ := hN
      exact ⟨m - 1, by omega, es2, B2, by omega, r2, s2, f2, h2⟩
    · obtain ⟨B2, s2, f2, r2, a2⟩ := g2 x H2 hy
      have h2 := Po.up s2 f2 h'
      rw [hdr] at h2
      obtain ⟨es3, e3, h3⟩ := Po.unit h2 (hb _ _)
      refine hg _ F B2 H2 es' σ' x _ es3 _ r2 a2 e3 fun σ3 r3 _ _ => ?_
      refine ht _ F B2 H2 es3 σ3 _ r3 (Po.imp (Po.bnd h3) fun o es4 B4 H4 e4 f4 h4 => ?_)
      have sB : Same B1 B4 := (s'.trans s2).trans e4
      have fB : Frs B1 F B4 := (f'.trans f2).trans f4
      cases o with
      | nx => exact fun σ4 r4 => ⟨es4, B4, r4, sB, fB, h4⟩
      | ct => exact fun σ4 r4 => ⟨es4, B4, r4, sB, fB, h4⟩
      | bk => exact Po.ret0 (show Po K cl E F B4 (Mi.ret Out.nx es4) (EndP K cl zA F Dn) from h4) H4
      | rt x => exact Po.ret0 (show Po K cl E F B4 (Mi.ret (Out.rt x) es4) (EndP K cl zA F Dn) from h4) H4
  · have hdr : ds.drop i = [] := List.drop_eq_nil_of_le (by omega)
    rw [hdr] at h'
    exact .inl ⟨st i (by omega), Po.ret0 (show Po K cl E F B' (Mi.ret Out.nx es') (EndP K cl zA F Dn) from h') H' σ' r'⟩
def lstOf : D → Option (List D)
  | .lst l => some l
  | _ => none
def tupOf : D → Option (List D)
  | .tup l => some l
  | _ => none
def strOf : D → Option (List D)
  | .str s => some (s.cps.toList.map fun c => .str ⟨#[c]⟩)
  | _ => none
def mIL (m : M D) : M (List D) := Mi.bnd m fun d => Mi.opt (lstOf d)
def mIT (m : M D) : M (List D) := Mi.bnd m fun d => Mi.opt (tupOf d)
def mIS (m : M D) : M (List D) := Mi.bnd m fun d => Mi.opt (strOf d)
theorem sim_iL {tl : TE} {m : M D} (ha : SimE K cl E tl m) : SimI K cl E (iList K tl) (mIL m) := by
  intro zA F B H es σ R r h
  refine ha _ F B H es σ _ r (Po.imp (Po.bnd h) fun d es1 B1 H1 e1 f1 h1 v r1 a => ?_)
  obtain ⟨ds, hd, hk⟩ := Po.opt h1
  cases a with
  | @lst p vs ds' g1 g2 =>
    cases hd
    refine ⟨p, rfl, ⟨vs, .inl (.inl (r1.bh _ _ g1))⟩, hk B1 H1 (Same.rfl' _) (Frs.refl _ _) _ r1 fun zA F2 B2 H2 es2 σ2 r2 s2 => ?_⟩
    have hq : SqL K H2 p vs := .inl (.inl (r2.bh _ _ (s2 _ _ g1)))
    refine ⟨fun i d hi => ?_, fun i hi => ⟨vs, hq, by rw [g2.len]; exact hi⟩⟩
    obtain ⟨x, hx, ax⟩ := g2.get hi
    refine ⟨⟨vs, x, hq, hx⟩, fun y H' hy => ?_⟩
    obtain ⟨rfl, hy⟩ := hy
    have := hy vs hq
    rw [hx] at this
    cases this
    exact ⟨B2, Same.rfl' _, Frs.refl _ _, r2, ax.up s2⟩
  | _ => cases hd
theorem sim_iT {tl : TE} {m : M D} (ha : SimE K cl E tl m) : SimI K cl E (iTup K tl) (mIT m) := by
  intro zA F B H es σ R r h
  refine ha _ F B H es σ _ r (Po.imp (Po.bnd h) fun d es1 B1 H1 e1 f1 h1 v r1 a => ?_)
  obtain ⟨ds, hd, hk⟩ := Po.opt h1
  cases a with
  | @tup p vs ds' g1 g2 =>
    cases hd
    refine ⟨p, rfl, ⟨vs, sqT_mono r1.bh g1⟩, hk B1 H1 (Same.rfl' _) (Frs.refl _ _) _ r1 fun zA F2 B2 H2 es2 σ2 r2 s2 => ?_⟩
    have hq : SqT K H2 p vs := sqT_mono r2.bh (sqT_mono s2 g1)
    refine ⟨fun i d hi => ?_, fun i hi => ⟨vs, hq, by rw [g2.len]; exact hi⟩⟩
    obtain ⟨x, hx, ax⟩ := g2.get hi
    refine ⟨⟨vs, x, hq, hx⟩, fun y H' hy => ?_⟩
    obtain ⟨rfl, hy⟩ := hy
    have := hy vs hq
    rw [hx] at this
    cases this
    exact ⟨B2, Same.rfl' _, Frs.refl _ _, r2, ax.up s2⟩
  | _ => cases hd
theorem sim_iS {tl : TE} {m : M D} (ha : SimE K cl E tl m) : SimI K cl E (iStr tl) (mIS m) := by
  intro zA F B H es σ R r h
  refine ha _ F B H es σ _ r (Po.imp (Po.bnd h) fun d es1 B1 H1 e1 f1 h1 v r1 a => ?_)
  obtain ⟨ds, hd, hk⟩ := Po.opt h1
  cases a with
  | str s =>
    cases hd
    refine ⟨s, rfl, hk B1 H1 (Same.rfl' _) (Frs.refl _ _) _ r1 fun zA F2 B2 H2 es2 σ2 r2 s2 => ?_⟩
    have hz : (s.cps.toList.map fun c => D.str ⟨#[c]⟩).length = s.cps.size := by rw [List.length_map, Array.length_toList]
    refine ⟨fun i d hi => ?_, fun i hi => show s.cps.size ≤ i by rw [← hz]; exact hi⟩
    have hlt : i < s.cps.size := by
      rw [← hz]
      exact (List.getElem?_eq_some_iff.mp hi).1
    refine ⟨hlt, fun y H' hy => ?_⟩
    obtain ⟨rfl, c, hc, rfl⟩ := hy
    rw [List.getElem?_map, Array.getElem?_toList, hc] at hi
    cases hi
    exact ⟨B2, Same.rfl' _, Frs.refl _ _, r2, .str _⟩
  | _ => cases hd
def mRg1 (m : M (List D)) : M (List D) := Mi.bnd m fun l => Mi.opt (match l with
  | [.int j] => if -(2 ^ 62) ≤ j ∧ j < 2 ^ 62 then some ((List.range j.toNat).map fun (k : Nat) => D.int (k : Int)) else none
  | _ => none)
def mRg2 (m : M (List D)) : M (List D) := Mi.bnd m fun l => Mi.opt (match l with
  | [.int i, .int j] => if -(2 ^ 62) ≤ i ∧ i < 2 ^ 62 ∧ -(2 ^ 62) ≤ j ∧ j < 2 ^ 62 then some ((List.range (j - i).toNat).map fun (k : Nat) => D.int (i + (k : Int))) else none
  | _ => none)
theorem itd_range {B0 : Hp} (lo : Int) (n : Nat) : ItD K cl (Itr lo n) B0 ((List.range n).map fun (k : Nat) => D.int (lo + (k : Int))) := by
  intro zA F2 B2 H2 es2 σ2 r2 s2
  refine ⟨fun i d hi => ?_, fun i hi => ?_⟩
  · have hlt : i < n := by
      have := (List.getElem?_eq_some_iff.mp hi).1
      rwa [List.length_map, List.length_range] at this
    refine ⟨hlt, fun y H' hy => ?_⟩
    obtain ⟨rfl, rfl⟩ := hy
    rw [List.getElem?_map, List.getElem?_range hlt] at hi
    cases hi
    exact ⟨B2, Same.rfl' _, Frs.refl _ _, r2, .int _⟩
  · rw [List.length_map, List.length_range] at hi
    exact hi
theorem sim_rg1 {ta : TA} {m : M (List D)} (ha : SimA K cl E ta m) : SimI K cl E (iRng1 ta) (mRg1 m) := by
  intro zA F B H es σ R r h
  refine ha _ F B H es σ _ r (Po.imp (Po.bnd h) fun l es1 B1 H1 e1 f1 h1 vs r1 a => ?_)
  obtain ⟨ds, hd, hk⟩ := Po.opt h1
  split at hd
  · rename_i j
    split at hd
    · rename_i hj
      cases hd
      cases a with
      | cons a1 a2 =>
        cases a1
        cases a2
        have e : ((List.range j.toNat).map fun (k : Nat) => D.int (k : Int)) = ((List.range j.toNat).map fun (k : Nat) => D.int (0 + (k : Int))) := by
          congr 1
          funext k
          rw [Int.zero_add]
        refine ⟨j, rfl, hj.1, hj.2, hk B1 H1 (Same.rfl' _) (Frs.refl _ _) _ r1 ?_⟩
        rw [e]
        exact itd_range 0 j.toNat
    · cases hd
  · cases hd
theorem sim_rg2 {ta : TA} {m : M (List D)} (ha : SimA K cl E ta m) : SimI K cl E (iRng2 ta) (mRg2 m) := by
  intro zA F B H es σ R r h
  refine ha _ F B H es σ _ r (Po.imp (Po.bnd h) fun l es1 B1 H1 e1 f1 h1 vs r1 a => ?_)
  obtain ⟨ds, hd, hk⟩ := Po.opt h1
  split at hd
  · rename_i i j
    split at hd
    · rename_i hj
      cases hd
      cases a with
      | cons a1 a2 =>
        cases a1
        cases a2 with
        | cons a2 a3 =>
          cases a2
          cases a3
          exact ⟨i, j, rfl, hj, hk B1 H1 (Same.rfl' _) (Frs.refl _ _) _ r1 (itd_range i (j - i).toNat)⟩
    · cases hd
  · cases hd
def mEn (m : M (List D)) : M (List D) := Mi.bnd m fun l => Mi.opt (match l with
  | [.lst l] => some ((List.range l.length).zipWith (fun (k : Nat) d => D.tup [.int (k : Int), d]) l)
  | _ => none)
theorem sim_en {ta : TA} {m : M (List D)} (ha : SimA K cl E ta m) : SimI K cl E (iEnum K ta) (mEn m) := by
  intro zA F B H es σ R r h
  refine ha _ F B H es σ _ r (Po.imp (Po.bnd h) fun l es1 B1 H1 e1 f1 h1 vs r1 a => ?_)
  obtain ⟨ds, hd, hk⟩ := Po.opt h1
  split at hd
  · rename_i l
    cases hd
    cases a with
    | cons a1 a2 =>
      cases a2
      cases a1 with
      | @lst p ws _ g1 g2 =>
        refine ⟨p, ws, rfl, .inl (.inl (r1.bh _ _ g1)), hk B1 H1 (Same.rfl' _) (Frs.refl _ _) _ r1 fun zA F2 B2 H2 es2 σ2 r2 s2 => ?_⟩
        have hq : SqL K H2 p ws := .inl (.inl (r2.bh _ _ (s2 _ _ g1)))
        have hz : (List.zipWith (fun (k : Nat) d => D.tup [.int (k : Int), d]) (List.range l.length) l).length = l.length := by
          rw [List.length_zipWith, List.length_range, Nat.min_self]
        refine ⟨fun i d hi => ?_, fun i hi => ⟨ws, hq, by rw [g2.len, ← hz]; exact hi⟩⟩
        have hlt : i < l.length := by
          rw [← hz]
          exact (List.getElem?_eq_some_iff.mp hi).1
        have hx0 : l[i]? = some l[i] := List.getElem?_eq_getElem hlt
        obtain ⟨x, hx, ax⟩ := g2.get hx0
        rw [List.getElem?_zipWith, List.getElem?_range hlt, hx0] at hi
        cases hi
        refine ⟨⟨ws, x, hq, hx⟩, fun y H' hy => ?_⟩
        obtain ⟨T, x', rfl, nT, rfl, hy⟩ := hy
        have := hy ws hq
        rw [hx] at this
        cases this
        obtain ⟨r3, s3, f3⟩ := r2.news (o := .tup [.int (i : Nat), x]) nT
        refine ⟨_, s3, f3, r3, .tup (.inl (.inl upd_same)) (.cons (.int _) (.cons ((ax.up s2).up s3) .nil))⟩
  · cases hd
end
end Mi
namespace Mi
open PySem PySem.Spec PyProof.Rows L2
def wipeE (es : En) : List Nat → En
  | [] => es
  | v :: vs => (wipeE es vs).set v .un
def rstE (es0 es : En) : List Nat → En
  | [] => es
  | v :: vs => (rstE es0 es vs).set v (es0.getD v .un)
def notOwn (es : En) (vs : List Nat) : Bool := vs.all fun v => (ownAt v es).isNone
def compL (b : D → M Unit) (mt : M Bool) (me : M D) (vs : List Nat) : List D → List D → M (List D)
  | [], acc => Mi.ret acc
  | d :: ds, acc => Mi.bnd (b d) fun _ => Mi.bnd mt fun k => if k = true then Mi.bnd me fun y => fun es => if acc.length < sizeLine then compL b mt me vs ds (acc ++ [y]) (wipeE es vs) else .bad
      else fun es => compL b mt me vs ds acc (wipeE es vs)
def mComp (vs : List Nat) (ms : M (List D)) (b : D → M Unit) (mt : M Bool) (me : M D) : M D := Mi.bnd ms fun ds es => if notOwn es vs = true then (match compL b mt me vs ds [] (wipeE es vs) with
    | .ok (l, es') => .ok (.lst l, rstE es es' vs)
    | _ => .bad) else .bad
def mYes : M Bool := Mi.ret true
section
variable {K : PySem.W.Frag} {cl : Nat → Addr} {zA : Option Addr} {E : XK} {F B H B1 H1 : Hp} {es es' es1 : En} {σ σ' : L2.St}
theorem wipe_not : ∀ {vs : List Nat} {i : Nat}, i ∉ vs → (wipe σ vs)[i]? = σ[i]?
  | [], _, _ => rfl
  | v :: vs, i, h => by
    have hv : v ≠ i := fun e => h (by rw [e]; exact List.mem_cons_self)
    show ((wipe σ vs).set v none)[i]? = _
    rw [List.getElem?_set_ne hv]
    exact wipe_not fun z => h (List.mem_cons_of_mem _ z)
theorem wipe_in : ∀ {vs : List Nat} {i : Nat}, i ∈ vs → i < σ.length → (wipe σ vs)[i]? = some none
  | v :: vs, i, h, hl => by
    show ((wipe σ vs).set v none)[i]? = _
    by_cases hv : v = i
    · subst hv
      exact List.getElem?_set_self (by rw [wipe_length]; exact hl)
    · rw [List.getElem?_set_ne hv]
      rcases List.mem_cons.mp h with e | h
      · exact absurd e.symm hv
      · exact wipe_in h hl
theorem wipe_eq {vs : List Nat} (hl : σ'.length = σ.length) (h : ∀ j, j ∉ vs → σ'[j]? = (wipe σ vs)[j]?) : wipe σ' vs = wipe σ vs := by
  refine List.ext_getElem? fun j => ?_
  by_cases hj : j ∈ vs
  · by_cases hlt : j < σ.length
    · rw [wipe_in hj hlt, wipe_in hj (by rw [hl]; exact hlt)]
    · rw [List.getElem?_eq_none (by rw [wipe_length, hl]; omega), List.getElem?_eq_none (by rw [wipe_length]; omega)]
  · rw [wipe_not hj, h j hj]
theorem Rel.wipes (r : Rel K cl zA F B H es σ) : ∀ vs : List Nat, Rel K cl zA F B H (wipeE es vs) (wipe σ vs)
  | [] => r
  | _ :: vs => (Rel.wipes r vs).drop
theorem rstE_len (es0 es : En) : ∀ vs : List Nat, (rstE es0 es vs).length = es.length
  | [] => rfl
  | v :: vs => by show ((rstE es0 es vs).set v _).length = _; rw [List.length_set, rstE_len es0 es vs]
theorem rstE_not : ∀ {vs : List Nat} {i : Nat}, i ∉ vs → (rstE es1 es vs)[i]? = es[i]?
  | [], _, _ => rfl
  | v :: vs, i, h => by
    have hv : v ≠ i := fun e => h (by rw [e]; exact List.mem_cons_self)
    show ((rstE es1 es vs).set v _)[i]? = _
    rw [List.getElem?_set_ne hv]
    exact rstE_not fun z => h (List.mem_cons_of_mem _ z)
theorem rstE_in : ∀ {vs : List Nat} {i : Nat} {x : Sl}, i ∈ vs → (rstE es1 es vs)[i]? = some x → es1.getD i .un = x
  | v :: vs, i, x, h, e => by
    have e : ((rstE es1 es vs).set v (es1.getD v .un))[i]? = some x := e
    by_cases hv : v = i
    · subst hv
      have hi : v < (rstE es1 es vs).length := by
        have := (List.getElem?_eq_some_iff.mp e).1
        rwa [List.length_set] at this
      rw [List.getElem?_set_self hi] at e
      exact Option.some.inj e
    · rw [List.getElem?_set_ne hv] at e
      rcases List.mem_cons.mp h with z | h
      · exact absurd z.symm hv
      · exact rstE_in h e
theorem getD_some {i : Nat} {x : Sl} (h : es1.getD i .un = x) (hx : x ≠ .un) : es1[i]? = some x := by
  rw [List.getD_eq_getElem?_getD] at h
  cases e : es1[i]? with
  | none => rw [e] at h; exact absurd h.symm hx
  | some y => rw [e] at h; rw [← h]; rfl
theorem notOwn_at {vs : List Nat} {i : Nat} {l : List D} (h : notOwn es1 vs = true) (hi : i ∈ vs) (e : es1[i]? = some (.own l)) : False := by
  have := List.all_eq_true.mp h i hi
  unfold ownAt at this
  rw [e] at this
  cases this
theorem Rel.restore {vs : List Nat} (r : Rel K cl zA F B H es (wipe σ vs)) (r1 : Rel K cl zA F B1 H1 es1 σ) (s : Same B1 B) (no : notOwn es1 vs = true) : Rel K cl zA F B H (rstE es1 es vs) σ where
  bh := r.bh
  fh := r.fh
  len := by rw [rstE_len, r.len, wipe_length]
  dat := fun i d e => by
    by_cases hi : i ∈ vs
    · obtain ⟨v, h1, h2⟩ := r1.dat i d (getD_some (rstE_in hi e) (fun z => by cases z))
      exact ⟨v, h1, h2.up s⟩
    · rw [rstE_not hi] at e
      obtain ⟨v, h1, h2⟩ := r.dat i d e
      rw [wipe_not hi] at h1
      exact ⟨v, h1, h2⟩
  own := fun i l e => by
    by_cases hi : i ∈ vs
    · exact (notOwn_at no hi (getD_some (rstE_in hi e) (fun z => by cases z))).elim
    · rw [rstE_not hi] at e
      obtain ⟨p, ws, h1, h2⟩ := r.own i l e
      rw [wipe_not hi] at h1
      exact ⟨p, ws, h1, h2⟩
  apart := fun i j l m p ne ei ej si sj => by
    by_cases hi : i ∈ vs
    · exact notOwn_at no hi (getD_some (rstE_in hi ei) (fun z => by cases z))
    · by_cases hj : j ∈ vs
      · exact notOwn_at no hj (getD_some (rstE_in hj ej) (fun z => by cases z))
      · rw [rstE_not hi] at ei
        rw [rstE_not hj] at ej
        exact r.apart i j l m p ne ei ej (by rw [wipe_not hi]; exact si) (by rw [wipe_not hj]; exact sj)
  zero := fun p l e z => by
    by_cases hi : 0 ∈ vs
    · exact (notOwn_at no hi (getD_some (rstE_in hi z) (fun y => by cases y))).elim
    · rw [rstE_not hi] at z
      have y := r.zero p l e z
      rw [wipe_not hi] at y
      exact y
theorem Rel.refloor {p : Addr} {o o' : HO} (r : Rel K cl zA (upd F p o) B H es σ) (nf : F p = none) (nb : B p = none) : Rel K cl zA (upd F p o') B (upd H p o') es σ where
  bh := fun b u e => by rw [upd_ne (ne_of_none e nb)]; exact r.bh _ _ e
  fh := fun b u e => by
    by_cases hb : b = p
    · subst hb
      rw [upd_same] at e ⊢
      exact e
    · rw [upd_ne hb] at e ⊢
      exact r.fh _ _ (by rw [upd_ne hb]; exact e)
  len := r.len
  dat := r.dat
  own := fun i l e => by
    obtain ⟨q, ws, h1, h2, h3, h4, h5⟩ := r.own i l e
    have ne : q ≠ p := fun z => by
      rw [z, upd_same] at h3
      cases h3
    rw [upd_ne ne] at h3
    exact ⟨q, ws, h1, h2, by rw [upd_ne ne]; exact h3, by rw [upd_ne ne]; exact h4, h5⟩
  apart := r.apart
  zero := r.zero
theorem Rel.show_ {p : Addr} {o : HO} (r : Rel K cl zA (upd F p o) B H es σ) (nf : F p = none) (nb : B p = none) : Rel K cl zA F (upd B p o) H es σ where
  bh := fun b u e => by
    by_cases hb : b = p
    · subst hb
      exact r.fh _ _ (by rw [upd_same] at e ⊢; exact e)
    · rw [upd_ne hb] at e
      exact r.bh _ _ e
  fh := fun b u e => r.fh _ _ (by rw [upd_ne (ne_of_none e nf)]; exact e)
  len := r.len
  dat := fun i d e => by
    obtain ⟨v, h1, h2⟩ := r.dat i d e
    exact ⟨v, h1, h2.up (same_new nb)⟩
  own := fun i l e => by
    obtain ⟨q, ws, h1, h2, h3, h4, h5⟩ := r.own i l e
    have ne : q ≠ p := fun z => by
      rw [z, upd_same] at h3
      cases h3
    rw [upd_ne ne] at h3
    exact ⟨q, ws, h1, by rw [upd_ne ne]; exact h2, h3, h4, h5.up (same_new nb)⟩
  apart := r.apart
  zero := r.zero
theorem bnd_ok {α β : Type} {m : M α} {f : α → M β} {x : β × En} (h : Mi.bnd m f es = .ok x) : ∃ a es1, m es = .ok (a, es1) ∧ f a es1 = .ok x := by
  unfold Mi.bnd at h
  cases e : m es with
  | ok p => rw [e] at h; exact ⟨p.1, p.2, rfl, h⟩
  | exc c d => rw [e] at h; cases h
  | bad => rw [e] at h; cases h
theorem Po.of {α : Type} {r : R (α × En)} {a : α} {k : α → En → Hp → Hp → Prop} (e : r = .ok (a, es)) (h : ∀ B' H', Same B B' → Frs B F B' → k a es B' H') : Po K cl E F B r k := by
  rw [e]
  exact h
theorem sim_lc {wi : TI} {g : TG} {tt : TT} {te : TE} {vs is : List Nat} {ms : M (List D)} {b : D → M Unit} {mt : M Bool} {me : M D} (hi : SimI K cl E wi ms) (hg : SimG K cl is g b) (hv : ∀ i ∈ is, i ∈ vs) (ht : SimT K cl E0 tt mt) (he : SimE K cl E0 te me) :
    SimE K cl E (tLc wi g tt te vs) (mComp vs ms b mt me) := by
  intro zA F B H es σ Q r h
  refine hi _ F B H es σ _ r (Po.imp (Po.bnd h) fun ds es1 B1 H1 e1 f1 h1 J r1 hJ => ?_)
  by_cases no : notOwn es1 vs = true
  · rw [if_pos no] at h1
    cases q : compL b mt me vs ds [] (wipeE es1 vs) with
    | exc c d => rw [q] at h1; exact h1.elim
    | bad => rw [q] at h1; exact h1.elim
    | ok pr =>
      obtain ⟨l, esF⟩ := pr
      rw [q] at h1
      intro Dl nD
      have nF : F Dl = none := r1.fh.free nD
      have nB1 : B1 Dl = none := r1.bh.free nD
      refine ⟨fun i m H' => ∃ (acc : List D) (vacc : List V) (es' : En) (B' : Hp), i + m = ds.length ∧ Rel K cl zA (upd F Dl (.lst vacc)) B' H' es' (wipe σ vs) ∧ Same B1 B' ∧ Frs B1 F B' ∧ B' Dl = none ∧ AtL K cl B' vacc acc ∧
          compL b mt me vs (ds.drop i) acc es' = .ok (l, esF),
        ⟨ds.length, [], [], wipeE es1 vs, B1, Nat.zero_add _, (r1.wipes vs).floor nD, Same.rfl' _, Frs.refl _ _, nB1, .nil, q⟩, ?_⟩
      rintro i m H' ⟨acc, vacc, es', B', hm, r', s', f', nB', al, hc⟩
      obtain ⟨go, st⟩ := hJ _ _ B' H' es' _ r' s'
      by_cases hlt : i < ds.length
      · have hd : ds[i]? = some ds[i] := List.getElem?_eq_getElem hlt
        have hdr : ds.drop i = ds[i] :: ds.drop (i + 1) := List.drop_eq_getElem_cons hlt
        rw [hdr] at hc
        obtain ⟨g1, g2⟩ := go i _ hd
        refine .inr ⟨g1, fun H2 => ∃ (acc : List D) (vacc : List V) (es' : En) (B' : Hp), Rel K cl zA (upd F Dl (.lst vacc)) B' H2 es' (wipe σ vs) ∧ Same B1 B' ∧ Frs B1 F B' ∧ B' Dl = none ∧ AtL K cl B' vacc acc ∧
          compL b mt me vs (ds.drop (i + 1)) acc es' = .ok (l, esF), fun H2 hN => ?_, fun x H2 hy => ?_⟩
        · obtain ⟨acc, vacc, es2, B2, z⟩ := hN
          exact ⟨m - 1, by omega, acc, vacc, es2, B2, by omega, z⟩
        · obtain ⟨B2, s2, f2, r2, a2⟩ := g2 x H2 hy
          obtain ⟨u, es3, c1, hc⟩ := bnd_ok hc
          refine hg _ _ B2 H2 es' _ x _ es3 _ r2 a2 c1 fun σ3 r3 hl3 hj3 => ?_
          have hw : wipe σ3 vs = wipe σ vs := wipe_eq (by rw [hl3, wipe_length]) fun j hj => hj3 j fun z => hj (hv j z)
          refine ⟨hw, ?_⟩
          obtain ⟨k, es4, c2, hc⟩ := bnd_ok hc
          refine ht _ _ B2 H2 es3 σ3 _ r3 (Po.of c2 fun B3 H3 s3 f3 r4 => ?_)
          have nB2 : B2 Dl = none := f2.notp nB'
          have nB3 : B3 Dl = none := f3.notp nB2
          cases k with
          | true =>
            simp only [if_true] at hc ⊢
            obtain ⟨y, es5, c3, hc⟩ := bnd_ok hc
            refine he _ _ B3 H3 es4 σ3 _ r4 (Po.of c3 fun B4 H4 s4 f4 v r5 a5 => ?_)
            by_cases hz : acc.length < sizeLine
            · simp only [if_pos hz] at hc
              have nB4 : B4 Dl = none := f4.notp nB3
              refine ⟨vacc, r5.fh _ _ upd_same, by rw [al.len]; exact hz, acc ++ [y], vacc ++ [v], wipeE es5 vs, B4, ?_, ((s'.trans s2).trans s3).trans s4, ((f'.trans (f2.floor nF)).trans (f3.floor nF)).trans (f4.floor nF), nB4, ((((al.up s2).up s3).up s4)).app (.one a5), hc⟩
              have := (r5.wipes vs).refloor (o' := .lst (vacc ++ [v])) nF nB4
              rw [hw] at this
              exact this
            · simp only [if_neg hz] at hc
              cases hc
          | false =>
            simp only [Bool.false_eq_true, if_false] at hc ⊢
            refine ⟨acc, vacc, wipeE es4 vs, B3, ?_, (s'.trans s2).trans s3, (f'.trans (f2.floor nF)).trans (f3.floor nF), nB3, (al.up s2).up s3, hc⟩
            have := r4.wipes vs
            rw [hw] at this
            exact this
      · have hdr : ds.drop i = [] := List.drop_eq_nil_of_le (by omega)
        rw [hdr] at hc
        cases hc
        refine .inl ⟨st i (by omega), ?_⟩
        have sB : Same B' (upd B' Dl (.lst vacc)) := same_new nB'
        have fB : Frs B' F (upd B' Dl (.lst vacc)) := fun x o e n => by
          by_cases hx : x = Dl
          · rw [hx]; exact nF
          · rw [upd_ne hx, n] at e; cases e
        exact h1 _ H' (s'.trans sB) (f'.trans fB) _ ((r'.show_ nF nB').restore r1 (s'.trans sB) no) (.lst upd_same (al.up sB))
  · rw [if_neg no] at h1
    exact h1.elim
theorem sim_yes : SimT K cl E tYes mYes := fun zA F B H es σ Q r h => Po.ret0 h H r
end
end Mi
namespace RoomX
open PySem PySem.W PySem.Calls PyProof.Rows PySem.HandSPX
abbrev LN : Nat := 5
def iA : Arguments := { posonlyargs := [], args := [{ arg := "self", annotation := none, pos := ⟨LN - 1, 17, LN - 1, 21⟩ }, { arg := "value", annotation := none, pos := ⟨LN - 1, 23, LN - 1, 28⟩ }], vararg := none, kwonlyargs := [], kw_defaults := [], kwarg := none, defaults := [] }
def iB : List Stmt := [.Expr (.Call (.Attribute (.Call (.Name "super" ⟨LN, 8, LN, 13⟩) [] [] ⟨LN, 8, LN, 15⟩) "__init__" ⟨LN, 8, LN, 24⟩) [.Name "value" ⟨LN, 25, LN, 30⟩] [] ⟨LN, 8, LN, 31⟩) ⟨LN, 8, LN, 31⟩,
  .Assign [.Attribute (.Name "self" ⟨LN + 1, 8, LN + 1, 12⟩) "value" ⟨LN + 1, 8, LN + 1, 18⟩] (.Name "value" ⟨LN + 1, 21, LN + 1, 26⟩) ⟨LN + 1, 8, LN + 1, 26⟩]
def iS : Scope := { kind := .function, names := [(PySem.Str.ofString "self", .local), (PySem.Str.ofString "value", .local), (PySem.Str.ofString "__class__", .free), (PySem.Str.ofString "super", .globalImplicit)], isGenerator := false, isCoroutine := false, more := [] }
abbrev mw (x : Addr) : Obj := kxs_mw "ValueError.__init__" x
structure BaseTxt (prog : Program) (K : Frag) (mg : Str → Option Value) (D fI cc cda : Addr) : Prop where
  tI : typeIn K (.ref fI) = some (.type "function")
  clD : ∃ cdD, clsIn K D = some cdD
  opq : nsIn K cStatics "thirdparty.any" = some none
  cell : ∃ (c : Value) (d : Option Addr) (sl : Array (Option Value)), K.lookup cc = some ⟨c, d, .cell (some (.ref D)), sl⟩
  code : ∃ (c : Value) (d : Option Addr) (vs : Array Value) (sl : Array (Option Value)) (file : Str) (tf : Tok), K.lookup cda = some ⟨c, d, .fields vs, sl⟩ ∧ vs[2]? = some (.str file tf) ∧ ((prog.main.file : Str) == file) = true
  top : (prog.main.scope.names.lookup ("super" : Str)).isSome = false
  sup : mg "super" = none
  fn : ∃ (oc : Value) (od : Option Addr) (doc pm : Value) (an : Option Addr) (ct : Value) (osl : Array (Option Value)),
    K.lookup fI = some ⟨oc, od, .func (ksFn "__init__" "RoomError.__init__" iA iB iS .none .none doc pm an (.ref cda) ct cc), osl⟩ ∧ codeIn K (.ref cda) "RoomError.__init__" = true
structure ClsTxt (K : Frag) (C D fI : Addr) : Prop where
  cls : ∃ nm q N bs bm sn sub ab col dd k0 k1 k2 k3 k5, K.lookup C = some (excClassObj nm q C N bs bm true sn sub ab col dd k0 k1 k2 k3 k5 "ValueError.__new__") ∧ refsVE bm = true
  sa : findIn K (.ref C) "__setattr__" = some (some (.builtin "object.__setattr__"))
  ga : findIn K (.ref C) "__getattribute__" = some (some (.builtin "BaseException.__getattribute__"))
  gg : findIn K (.ref C) "__getattr__" = some none
  noN : findIn K (.ref C) "value" = some none
  iC : findIn K (.ref C) "__init__" = some (some (.ref fI))
  kC : keepIn K (.ref C) = true
  exC : subIn K (.ref C) (.type "BaseException") = some true
  tyC : typeIn K (.ref C) = some (.type "type")
  hdC : hasDictIn K C = true
  supC : ks_superIn K C D "__init__" = some (some (.builtin "ValueError.__init__"))
  subV : subIn K (.ref C) (.type "ValueError") = some true
  mroD : mroIn K C (.ref D) = some true
theorem one_size (v : Value) : [v].length ≤ sizeLine := by
  rw [sizeLine_eq]
  exact (by decide : 1 ≤ 16777216)
structure InitEnd (h h' : Heap) (x C dx : Addr) (v : Value) : Prop where
  keep : ∀ b o, b ≠ x → h.get? b = some o → h'.get? b = some o
  obj : ∃ t1, h'.get? x = some { cls := .ref C, dict := some dx, data := .fields #[.ref t1, .none, .none, .none, .bool false, .none] }
  dbig : h.objs.size ≤ dx
  dne : dx ≠ x
  ns : h'.Ns1 dx (fun y => if y = "value" then some v else none)
structure OwnMade (h h' : Heap) (e C d : Addr) (v : Value) : Prop where
  keep : ∀ b o, h.get? b = some o → h'.get? b = some o
  new : h.objs.size ≤ e
  obj : ∃ oe vs, h'.get? e = some oe ∧ oe.cls = .ref C ∧ oe.dict = some d ∧ oe.data = .fields vs ∧ vs[1]? = some .none
  dbig : h.objs.size ≤ d
  dne : d ≠ e
  ns : h'.Ns1 d (fun y => if y = "value" then some v else none)
section
variable {prog : Program} {w : World} {A : Around} {E : Value → Shared → Prop} {R : Result → Shared → Prop} {K : Frag} {mg mb : Str → Option Value} {C D fI cc cda : Addr}
theorem bw_call {h : Heap} {g : Array GenState} {d : Drawn} {t : Nat} {os : OsState} {nm q : Str} {N : Addr} {bs bm : List Value} {hdct : Bool} {sn : List Str} {sub : List Value} {ab : Bool} {col : Option Bool} {dd : Option Addr} {k0 k1 k2 k3 k5 : Option Value} {u e t0 : Addr} {rest : List Value} {Q : Value → Shared → Prop}
    (hC : h.get? C = some (excClassObj nm q C N bs bm hdct sn sub ab col dd k0 k1 k2 k3 k5 "ValueError.__new__")) (he : h.get? e = some (excO C t0)) (hu : h.get? u = some (mw e)) (hrest : rest.length ≤ sizeLine)
    (hq : ∀ h', (∀ b o, b ≠ e → h.get? b = some o → h'.get? b = some o) → h'.get? e = some (excO C h.objs.size) → Q .none ⟨h', g, d, t, os⟩) :
    wpAny (model prog w) A (call (.ref u) rest) Q E ⟨h, g, d, t, os⟩ := by
  refine wpAny_call (codeAny_of_tree ?_)
  show wpAny _ A.in1 (callAny (.ref u) ⟨rest, []⟩) _ _ _
  simp only [callAny]
  refine wpAny_bind (wpAny_load hu ?_)
  simp only [kxs_mw, show (Value.type "method-wrapper" == Value.type "method" || Value.type "method-wrapper" == Value.type "builtin_function_or_method" || Value.type "method-wrapper" == Value.type "method-wrapper") = true by decide, if_true]
  refine KFB.if_so (by decide) ?_
  refine wpAny_bind (check_bound_init F.excBase_ValueError.toExcCallFacts hC he rfl ?_)
  refine wpAny_bind (wpAny_pure (wpAny_pure ?_))
  refine ⟨plainId_quiet F.excBase_ValueError.init.plain _, codeAny_builtin F.excBase_ValueError.initEntry ?_⟩
  exact exc_init_tree (cls := .ref C) (t0 := t0) (dv := none) (c2 := .none) (c3 := .none) (b4 := .bool false) he hrest fun h' k e' _ => hq h' k e'
theorem room_init {s : Shared} (T : BaseTxt prog K mg D fI cc cda) (TC : ClsTxt K C D fI) {x t0 : Addr} {v : Value} (X : K.In s.heap) (hlim : s.heap.NoLimit) (hg : s.heap.Ns mainGlobals mg) (hb : s.heap.Ns builtinsNs mb) (hmb : mb "super" = some (.type "super"))
    (hx : s.heap.get? x = some (excO C t0)) (hnx : K.lookup x = none) (hroom : A.depth < recursionLimit)
    (hq : ∀ h' tk dx, InitEnd s.heap h' x C dx v → R (.ok (.ret .none)) { s with heap := h', toks := tk }) :
    codeAny (model prog w) A (.call (.ref fI) ⟨[.ref x, v], []⟩) R s := by
  obtain ⟨oc, od, doc, pm, an, ct, osl, ho, hcd⟩ := T.fn
  obtain ⟨nm, q, N, bs, bm, sn, sub, ab, col, dd, k0, k1, k2, k3, k5, hC, hbm⟩ := TC.cls
  obtain ⟨cdD, hD⟩ := T.clD
  obtain ⟨c1, c2, c3, hcell⟩ := T.cell
  obtain ⟨g1, g2, vs, g3, file, tf, hcode, hvs, hfile⟩ := T.code
  have hcl : clsIn K C = some { name := nm, bases := bs, mro := .ref C :: bm, ns := N, qualname := q, hasDict := true, slotNames := sn, subclasses := sub, abstract := ab, collection := col, hasDel := false } := by unfold clsIn; rw [hC] <;> rfl
  refine ks_codeAny_call_defAt (binds := [("self", .ref x), ("value", v)]) hroom (X _ _ ho) rfl hlim (codeRec_of X hcd) rfl (BindsTo.of_eq (by first | rfl | with_unfolding_all rfl)) (by first | decide | (intro y hy; simp [ksFn, fnX, iS] at hy; rcases hy with rfl | rfl | rfl | rfl <;> decide)) (by intro y hy; simp at hy; rcases hy with rfl | rfl <;> rfl) (fun h₁ hns hk₁ => ?_)
  have X₁ : K.In h₁ := X.keeps hk₁
  have hx₁ := hk₁ _ _ hx
  have hxL : s.heap.objs.size ≠ x := Nat.ne_of_gt (Heap.lt_size hx)
  obtain ⟨oD, hD1, hD2⟩ : ∃ oD, h₁.get? D = some oD ∧ oD.data = .cls cdD := by
    unfold clsIn at hD
    split at hD
    · rename_i c d cd' sl hoD
      cases hD
      exact ⟨_, X₁ _ _ hoD, rfl⟩
    · cases hD
  obtain ⟨hp, gg, dr, tk, os⟩ := s
  have In : InstAt h₁ x (excO C t0) C none := ⟨hx₁, rfl, rfl, trivial⟩
  have hneC : x ≠ C := fun z => by
    rw [z, hC] at hnx
    cases hnx
  refine ks_wpAt_execs_cons (ks_wpAt_Expr_any (ks_wpAt_MethodCall ?_))
  refine ks_wpAt_super_base (by rfl) (by rfl) (by decide) rfl (X₁ _ _ ho) rfl rfl rfl (X₁ _ _ hcode) rfl hvs hfile T.top ?_
  refine ks_loadName_global (by rfl) (by rfl) (loadGlobal_builtin (hg.keeps hk₁) T.sup (hb.keeps hk₁) hmb ⟨rfl, ?_⟩)
  refine wpAny_loadName_free (by rfl) (by rfl) (by rfl) ⟨_, X₁ _ _ hcell, rfl⟩ ?_
  refine wpAny_loadName_local (v := .ref x) (by rfl) (by rfl) hns (by first | rfl | with_unfolding_all rfl) ?_
  refine ks_wpAny_isType_cls hD1 hD2 ⟨rfl, ?_⟩
  refine ks_wpAny_call_super hD1 hD2 hx₁ rfl (fun c e => by cases e) (looks_mroIn X₁ TC.mroD) (fun h2 e2 k2 => ?_)
  have X₂ : K.In h2 := X₁.keeps k2
  have hx2 := k2 _ _ hx₁
  have In2 : InstAt h2 x (excO C t0) C none := ⟨hx2, rfl, rfl, trivial⟩
  have hm := TC.supC
  unfold ks_superIn at hm
  rw [hcl] at hm
  refine kxs_getMethod kxs_ValueError e2 (looks_opaque X₂ T.opq) (l₀ := .ref C :: bm) ?_ rfl X₂ hm (In2.type.andThen (looks_subIn X₂ TC.subV)) hneC (by decide) ?_
  · exact fun A Q E s k q => wpAny_bind ((looks_clsIn X₂ hcl) A _ E s k (wpAny_pure q))
  have k3 : ∀ b o, h2.get? b = some o → (h2.push (mw x)).get? b = some o := fun b o e => Heap.get?_push_of_some _ e
  have hu : (h2.push (mw x)).get? h2.objs.size = some (mw x) := Heap.get?_push_at rfl rfl
  have k13 : ∀ b o, h₁.get? b = some o → (h2.push (mw x)).get? b = some o := fun b o e => k3 b o (k2 b o e)
  refine kxs_callWith (i := "ValueError.__init__") (x := x) (by rfl) (evalArgs_plain (Calls.spliced_cons ?_))
  refine ESX.ldL (hns.keeps k13) (v := v) (by first | rfl | with_unfolding_all rfl) ?_ (by rfl) (by rfl)
  refine Calls.spliced_nil ⟨hu, ?_⟩
  refine bw_call (X.keeps (fun b o e => k13 b o (hk₁ b o e)) _ _ hC) (k3 _ _ hx2) hu (one_size v) fun h4 k4 e4 => ?_
  have ne4 : ∀ {b : Addr}, b ≠ x → ∀ o, (h2.push (mw x)).get? b = some o → h4.get? b = some o := fun hb o e => k4 _ o hb e
  have keep4 : ∀ b o, b ≠ x → hp.get? b = some o → h4.get? b = some o := fun b o hb e => k4 b o hb (k13 b o (hk₁ b o e))
  have X₄ : K.In h4 := fun a o e => keep4 a o (fun z => by rw [z, hnx] at e; cases e) (X a o e)
  have hn4 := hns.at (h' := h4) fun o e => k4 _ o hxL (k13 _ o e)
  refine ks_wpAt_execs_cons (wpAt_of_wpAny (plainObj_wpAny_Assign_Attribute ?_))
  refine ESX.ldL hn4 (v := v) (by first | rfl | with_unfolding_all rfl) ?_ (by rfl) (by rfl)
  refine ESX.ldL hn4 (v := .ref x) (by first | rfl | with_unfolding_all rfl) ?_ (by rfl) (by rfl)
  refine set_plain X₄ (ox := excO C (h2.push (mw x)).objs.size) (od := none) ⟨e4, rfl, rfl, trivial⟩ TC.sa ?_
  refine exc_osa X₄ e4 hcl (show refsVE (.ref C :: bm) = true from hbm) rfl TC.noN (fun h5 tk5 dx k5 dn dne e5 hn5 => ?_)
  refine wpAt_of_wpAny (wpAny_execs_nil (hq h5 tk5 dx ⟨fun b o hb e => k5 b o hb (keep4 b o hb e), ⟨_, e5⟩, Nat.le_of_lt (Nat.lt_of_lt_of_le hn4.lt dn), dne, hn5⟩))
theorem room_made {s : Shared} (T : BaseTxt prog K mg D fI cc cda) (TC : ClsTxt K C D fI) {v : Value} (X : K.In s.heap) (hlim : s.heap.NoLimit) (hg : s.heap.Ns mainGlobals mg) (hb : s.heap.Ns builtinsNs mb) (hmb : mb "super" = some (.type "super"))
    (hroom : A.depth + 1 < recursionLimit) (hq : ∀ h' tk e d, OwnMade s.heap h' e C d v → R (.ok (.ret (.ref e))) { s with heap := h', toks := tk }) :
    codeAny (model prog w) A (.call (.ref C) ⟨[v], []⟩) R s := by
  obtain ⟨nm, q, N, bs, bm, sn, sub, ab, col, dd, k0, k1, k2, k3, k5, hC, hbm⟩ := TC.cls
  obtain ⟨hp, g, dr, tk, os⟩ := s
  have k : ∀ b o, hp.get? b = some o → ((hp.push (kdv_tup [v])).push (excO C hp.objs.size)).get? b = some o := fun b o e => Heap.get?_push_of_some _ (Heap.get?_push_of_some _ e)
  have hget : ((hp.push (kdv_tup [v])).push (excO C hp.objs.size)).get? (hp.objs.size + 1) = some (excO C hp.objs.size) := by heap_get
  have hnx : K.lookup (hp.objs.size + 1) = none := by
    cases e : K.lookup (hp.objs.size + 1) with
    | none => rfl
    | some o =>
      have z : hp.get? (hp.objs.size + 1) = some o := X _ _ e
      exact absurd (Nat.lt_of_succ_lt (Heap.lt_size z)) (Nat.lt_irrefl _)
  refine call_own F.excBase_ValueError (fun X => refsVE_contains X bm hbm) (X _ _ hC) (looks_findIn X TC.iC) (fun self => bind_fn X self T.tI) (one_size v) ?_
  refine room_init (s := ⟨(hp.push (kdv_tup [v])).push (excO C hp.objs.size), g, dr, tk, os⟩) T TC (X.keeps k) (hlim.keeps k) (hg.keeps k) (hb.keeps k) hmb hget hnx ?_ fun h' tk' dx ⟨k', ⟨t1, hx⟩, dn, dne, hns⟩ => ?_
  · show A.depth + 1 < recursionLimit
    exact hroom
  · have old : ∀ b o, hp.get? b = some o → h'.get? b = some o := fun b o e => k' b o (Nat.ne_of_lt (Nat.lt_succ_of_lt (Heap.lt_size e))) (k b o e)
    have z : hp.objs.size + 1 + 1 ≤ dx := by
      have q := dn
      rw [Heap.size_push, Heap.size_push] at q
      exact q
    exact ⟨rfl, hq h' tk' (hp.objs.size + 1) dx ⟨old, Nat.le_succ _, ⟨_, _, hx, rfl, rfl, rfl, rfl⟩, Nat.le_trans (Nat.le_trans (Nat.le_succ _) (Nat.le_succ _)) z, dne, hns⟩⟩
end
end RoomX
namespace L2
open PySem PySem.Spec PyProof.Rows
theorem relO_room {v : V} {v' : Value} (r : RelV v v') (f : Str) : RelO (List.lookup f [(("value" : Str), v)]) (if f = "value" then some v' else none) := by
  by_cases hw : f = "value"
  · subst hw
    rw [if_pos rfl]
    have q : List.lookup ("value" : Str) [(("value" : Str), v)] = some v := by simp [List.lookup]
    rw [q]
    exact r
  · rw [if_neg hw]
    have qw : (f == ("value" : Str)) = false := by simpa using hw
    have q2 : List.lookup f [(("value" : Str), v)] = none := by simp [List.lookup, qw]
    rw [q2]
    trivial
section
variable {X : Cx} {C D fI cc cda : Addr}
def tMkRoom (C : Addr) (ta : TA) : L2.St → Hp → XK → Prop := fun σ H Q => ta σ H fun vs H1 => ∃ v, vs = [v] ∧ ∀ d, H1 d = none → Q (.ref C) (some d) (upd H1 d (.xd [(("value" : Str), v)]))
theorem pmk_room {x : Str} {a : Expr} {ta : TA} {p pos : Pos} {k : Nat} (T : RoomX.BaseTxt X.prog X.K X.mg D fI cc cda) (TC : RoomX.ClsTxt X.K C D fI) (gC : X.mg x = some (.ref C)) (hr : Room k X.A) (ha : PA X [a] ta) (hg : Gl X x := by rfl)
    (hdb : (x == ("__debug__" : Str)) = false := by decide)
    (he : starEach (a :: []) X.env = (false, eval a X.env) :: starEach [] X.env := by rfl) (hpl : (backTo pos (starEach [] X.env)).any (·.1) = false := by rfl) :
    PMk X (.Call (.Name x p) [a] [] pos) (tMkRoom C ta) := by
  intro pins s σ H Q I h
  refine wpAny_Call_Name_kw (ld_glob I hg gC ?_ hdb)
  refine PySem.W.callWith_K (h₀ := X.base) I.ok.mod.kin TC.kC (thn (ha.run pos pins s σ H _ I h) fun us s1 hh => ?_) he hpl
  obtain ⟨vs, H1, I1, r1, v, ev, q1⟩ := hh
  subst ev
  refine ⟨I1.kIn, ?_⟩
  cases r1 with
  | cons rv rn =>
    rename_i v' us'
    cases rn
    show wpAny _ _ (call (.ref C) [v']) _ _ _
    have hlim := I1.nolimit
    obtain ⟨mb, hb1, hb2⟩ := I1.ok.mod.blt
    have hbk := I1.bk
    obtain ⟨hp, g, dr, tk, os⟩ := s1
    refine wpAny_call (RoomX.room_made T TC I1.kIn hlim (I1.ok.mod.glob.keeps hbk) (hb1.keeps hbk) ((hb2 _ (by decide)).trans (by decide +kernel)) (by have := hr.dp; omega) fun h' tk' e d M => ?_)
    show MkP X pins σ Q (.ref e) ⟨h', g, dr, tk', os⟩
    obtain ⟨oe, fv, hoe, hc, hd, hdat, h1⟩ := M.obj
    have hns := M.ns
    obtain ⟨G', g1, g2⟩ := restrict h' fun b => decide (b ≠ e)
    have gk : ∀ b, b ≠ e → G'.get? b = h'.get? b := fun b hb => g1 b (decide_eq_true hb)
    have ge : G'.get? e = none := g2 e (by simp)
    have old : ∀ b o, hp.get? b = some o → G'.get? b = some o := fun b o q => (gk b (Nat.ne_of_lt (Nat.lt_of_lt_of_le (Heap.lt_size q) M.new))).trans (M.keep b o q)
    have ob : ObjOk X.prog X.w (upd H1 d (.xd [(("value" : Str), v)])) G' d (.xd [(("value" : Str), v)]) :=
      ⟨_, hns.at (fun o q => (gk d M.dne).trans q), fun f => relO_room rv f⟩
    have J : Inv X pins σ (upd H1 d (.xd [(("value" : Str), v)])) ⟨G', g, dr, tk', os⟩ := I1.laid (t' := tk') old M.dbig ob
    refine ⟨e, oe, fv, ⟨G', g, dr, tk', os⟩, _, .ref C, some d, rfl, J, fun b o q => ?_, ge, hoe, ⟨hc, hd⟩, hdat, h1, ?_, rfl, I1.bare, raises_own TC.exC TC.tyC, q1 d (I1.hok.fresh M.dbig)⟩
    · by_cases hb : b = e
      · have q' : G'.get? b = some o := q
        rw [hb, ge] at q'; cases q'
      · exact (gk b hb).symm.trans q
    · rw [upd_ne (Ne.symm M.dne)]
      exact I1.hok.fresh M.new
def tRaiseRoom (C : Addr) (W : WX) (ta : TA) : TS := fun _ σ H => tMkRoom C ta σ H fun cls d H' => W cls d σ H'
theorem ps_raiseRoom {x : Str} {a : Expr} {ta : TA} {W : WX} {p pos pos2 : Pos} {k : Nat} (hc : X.calm = true) (T : RoomX.BaseTxt X.prog X.K X.mg D fI cc cda) (TC : RoomX.ClsTxt X.K C D fI) (gC : X.mg x = some (.ref C)) (hr : Room k X.A) (tk : Takes X W) (ha : PA X [a] ta) (hg : Gl X x := by rfl)
    (hdb : (x == ("__debug__" : Str)) = false := by decide)
    (he : starEach (a :: []) X.env = (false, eval a X.env) :: starEach [] X.env := by rfl) (hpl : (backTo pos (starEach [] X.env)).any (·.1) = false := by rfl) :
    PS X (.Raise (some (.Call (.Name x p) [a] [] pos)) none pos2) (tRaiseRoom C W ta) := ps_raise hc tk (pmk_room T TC gC hr ha hg hdb he hpl)
end
end L2
namespace Mi
open PySem PySem.Spec PyProof.Rows L2
def mRaise (c : Nat) (m : M D) : M Out := Mi.bnd m fun d _ => .exc c d
theorem sim_raise {K : PySem.W.Frag} {cl : Nat → Addr} {E : XK} {te : TE} {m : M D} {c : Nat} {C : Addr} (hc : cl c = C) (ha : SimE K cl E te m) : SimS K cl E (tRaiseRoom C (fun cls d _ H => E cls d H) (tCons te tNil)) (mRaise c m) := by
  intro zA F B H es σ Dn r h
  refine ha _ F B H es σ _ r (Po.imp (Po.bnd h) fun d es1 B1 H1 e1 f1 h1 v r1 a => ?_)
  refine ⟨v, rfl, fun dx n => ?_⟩
  have nB : B1 dx = none := r1.bh.free n
  subst hc
  refine h1 v dx B1 _ (Same.rfl' _) (Frs.refl _ _) (r1.fh.trans (same_new n)) (r1.bh.trans (same_new n)) (r1.fh.free n) nB upd_same a
end Mi
namespace Mi
open PySem PySem.Spec PyProof.Rows L2
inductive Ty where
  | int | bool | str | tuple | list | dict
def Ty.nm : Ty → String
  | .int => "int" | .bool => "bool" | .str => "str" | .tuple => "tuple" | .list => "list" | .dict => "dict"
def tyN : D → Option String
  | .non => some "NoneType" | .bl _ => some "bool" | .int _ => some "int" | .str _ => some "str" | .tup _ => some "tuple" | .lst _ => some "list" | .dc0 => some "dict" | .ins .. => none | .scr _ => none
def isa (T : Ty) : D → Option Bool
  | .non => some false
  | .bl _ => some (match T with | .bool | .int => true | _ => false)
  | .int _ => some (match T with | .int => true | _ => false)
  | .str _ => some (match T with | .str => true | _ => false)
  | .tup _ => some (match T with | .tuple => true | _ => false)
  | .lst _ => some (match T with | .list => true | _ => false)
  | .dc0 => some (match T with | .dict => true | _ => false)
  | .ins .. => none
  | .scr _ => none
theorem isa_kit {K : PySem.W.Frag} {T : Ty} {d : D} {b : Bool} (h : isa T d = some b) : ∃ n, tyN d = some n ∧ PySem.W.kitOne K (.type n) (.type T.nm) = some b := by
  cases d <;> cases T <;> first
    | (cases h; exact ⟨_, rfl, kit_ty (by decide +kernel)⟩)
    | cases h
def mIsa (T : Ty) (m : M D) : M D := Mi.bnd m fun d => Mi.opt ((isa T d).map .bl)
def mIsa2 (T U : Ty) (m : M D) : M D := Mi.bnd m fun d => Mi.opt ((isa T d).bind fun b => (isa U d).map fun c => .bl (b || c))
def dLen : List D → Option D
  | [.str s] => okB (decide (s.length ≤ sizeLine)) (.int s.length)
  | [.tup l] => some (.int l.length)
  | [.lst l] => some (.int l.length)
  | [.scr l] => some (.int l.length)
  | _ => none
def bls : List D → Option (List Bool)
  | [] => some []
  | .bl b :: r => (bls r).map (b :: ·)
  | _ => none
def dAll : List D → Option D
  | [.lst l] => (bls l).map fun bs => .bl (bs.all id)
  | _ => none
def dAbs : List D → Option D
  | [.int i] => some (.int (if i < 0 then -i else i))
  | _ => none
def dMax : List D → Option D
  | [.int i, .int j] => some (.int (if j > i then j else i))
  | _ => none
def dMin : List D → Option D
  | [.int i, .int j] => some (.int (if j < i then j else i))
  | _ => none
def dInt : List D → Option D
  | [.int i] => some (.int i)
  | [.bl b] => some (.int (if b then 1 else 0))
  | [.str s] => if s.length ≤ 640 then (PySem.intText? s).map .int else none
  | _ => none
def dStr : List D → Option D
  | [.int i] => okB (decide (i.natAbs.log2 < 1920)) (.str (toString i))
  | [.str s] => some (.str s)
  | _ => none
def dRepr : List D → Option D
  | [.int i] => okB (decide (i.natAbs.log2 < 1920)) (.str (toString i))
  | _ => none
def dOrd : List D → Option D
  | [.str s] => okB (decide (s.length = 1)) (.int (s.cps.getD 0 0 : Nat))
  | _ => none
def dTuple : List D → Option D
  | [.lst l] => some (.tup l)
  | [.tup l] => some (.tup l)
  | _ => none
def dList : List D → Option D
  | [.lst l] => some (.lst l)
  | [.tup l] => some (.lst l)
  | _ => none
def txts : List D → Option (List Str)
  | [] => some []
  | .str s :: r => (txts r).map (s :: ·)
  | _ => none
def seqOf : D → Option (List D)
  | .lst l => some l
  | .tup l => some l
  | _ => none
def dSplit (a : Str) : D → Option D
  | .str b => okB (decide ((b.length == 0) = false ∧ a.length + 2 ≤ sizeLine)) (.lst ((Txt.split a b).map .str))
  | _ => none
def dPart (a : Str) : D → Option D
  | .str b => okB (decide ((b.length == 0) = false ∧ a.length ≤ sizeLine)) (.tup [.str (Txt.partition a b).1, .str (Txt.partition a b).2.1, .str (Txt.partition a b).2.2])
  | _ => none
def dRpart (a : Str) : D → Option D
  | .str b => okB (decide ((b.length == 0) = false ∧ a.length ≤ sizeLine)) (.tup [.str (Txt.rpartition a b).1, .str (Txt.rpartition a b).2.1, .str (Txt.rpartition a b).2.2])
  | _ => none
def dJoin (a : Str) (d : D) : Option D := ((seqOf d).bind txts).bind fun ys => okB (decide ((ys.map (·.length)).sum + ys.length * a.length ≤ 16777216)) (.str (Txt.join a ys))
def mM1 (f : Str → D → Option D) (m n : M D) : M D := Mi.bnd m fun x => match x with
  | .str s => Mi.bnd n fun y => Mi.opt (f s y)
  | _ => Mi.bad
def SimM1 (K : PySem.W.Frag) (cl : Nat → Addr) (r : V → List V → Hp → VK → Prop) (f : Str → D → Option D) : Prop := ∀ (zA : Option Addr) (F B H : Hp) (es : En) (σ : L2.St) (s : Str) (y : V) (dy d : D) (Q : VK), Rel K cl zA F B H es σ → At K cl B y dy → f s dy = some d →
  FinE K cl zA F B es σ d Q → r (.str s) [y] H Q
section
variable {K : PySem.W.Frag} {cl : Nat → Addr} {E : XK}
theorem at_ty {F B H : Hp} {es : En} {σ : L2.St} {v : V} {d : D} {n : String} (r : Rel K cl zA F B H es σ) (a : At K cl B v d) (e : tyN d = some n) : TyX K H v (.type n) := by
  cases a with
  | non => cases e; exact .base .non
  | bl b => cases e; exact .base (.bl b)
  | int i => cases e; exact .base (.int i)
  | str s => cases e; exact .base (.str s)
  | tup h1 h2 =>
    cases e
    rcases sqT_mono r.bh h1 with (h | ⟨o, h⟩) | ⟨o, its, n, h, hc, _⟩
    · exact .base (.tup h)
    · exact .fTuple h
    · exact .kTuple h hc
  | lst h1 h2 => cases e; exact .base (.lst (r.bh _ _ h1))
  | ins _ _ _ => cases e
  | scr _ => cases e
  | dc0 h1 => cases e; exact .base (.dK (r.bh _ _ h1))
theorem sim_isa {T : Ty} {te : TE} {m : M D} (ha : SimE K cl E te m) : SimE K cl E (tCB (rIsi K) (tCons te (tCons (tC (.ty T.nm)) tNil))) (mIsa T m) := by
  intro zA F B H es σ Q r h
  refine ha _ F B H es σ _ r (Po.imp (Po.bnd h) fun d es1 B1 H1 _ _ h1 v r1 a => ?_)
  obtain ⟨x, hx, hk⟩ := Po.opt h1
  cases e : isa T d with
  | none => rw [e] at hx; cases hx
  | some b =>
    rw [e] at hx
    cases hx
    obtain ⟨n, hn, kt⟩ := isa_kit (K := K) e
    exact ⟨v, .ty T.nm, _, _, b, rfl, .ty _, at_ty r1 a hn, kt, hk B1 H1 (Same.rfl' _) (Frs.refl _ _) _ r1 (.bl b)⟩
theorem sim_isa2 {T U : Ty} {te : TE} {m : M D} (ha : SimE K cl E te m) : SimE K cl E (tCB (rIsiT K) (tCons te (tCons (tTup (tCons (tC (.ty T.nm)) (tCons (tC (.ty U.nm)) tNil))) tNil))) (mIsa2 T U m) := by
  intro zA F B H es σ Q r h
  refine ha _ F B H es σ _ r (Po.imp (Po.bnd h) fun d es1 B1 H1 _ _ h1 v r1 a => ?_)
  obtain ⟨x, hx, hk⟩ := Po.opt h1
  cases e : isa T d with
  | none => rw [e] at hx; cases hx
  | some b =>
    cases e2 : isa U d with
    | none => rw [e, e2] at hx; cases hx
    | some c =>
      rw [e, e2] at hx
      cases hx
      obtain ⟨n, hn, kt⟩ := isa_kit (K := K) e
      obtain ⟨n', hn', ku⟩ := isa_kit (K := K) e2
      rw [hn] at hn'
      cases hn'
      refine ⟨by show 2 ≤ sizeLine; decide, fun p np => ?_⟩
      obtain ⟨r2, s2, f2⟩ := r1.news (o := .tup [.ty T.nm, .ty U.nm]) np
      refine ⟨v, p, [.ty T.nm, .ty U.nm], _, [.type T.nm, .type U.nm], (b || c), rfl, upd_same, .cons (.ty _) (.cons (.ty _) .nil), at_ty r2 (a.up s2) hn, ?_, hk _ _ s2 f2 _ r2 (.bl _)⟩
      refine kitAny_cons kt (fun hb => ?_) (fun hb => by rw [hb]; rfl)
      rw [hb]
      refine kitAny_cons ku (fun hc => ?_) (fun hc => by rw [hc]; rfl)
      rw [hc]
      rfl
theorem sim_len : SimC K cl (fun xs H Q => ∃ x n, xs = [x] ∧ LenV K x H n ∧ Q (.int n) H) dLen := by
  intro zA F B H es σ xs ds d Q r a hd q
  match ds, xs, a, hd with
  | [.str s], _, .cons (.str _) .nil, hd =>
    obtain ⟨hz, rfl⟩ := okB_ok hd
    exact ⟨.str s, s.length, rfl, ⟨of_decide_eq_true hz, rfl⟩, q.here r (.int _)⟩
  | [.tup l], _, .cons (.tup (p := p) (vs := vs) h1 h2) .nil, hd =>
    cases hd
    exact ⟨_, l.length, rfl, .inr ⟨_, sqT_mono r.bh h1, h2.len.symm⟩, q.here r (.int _)⟩
  | [.lst l], _, .cons (.lst (p := p) (vs := vs) h1 h2) .nil, hd =>
    cases hd
    exact ⟨_, l.length, rfl, .inl ⟨_, .inl (.inl (r.bh _ _ h1)), h2.len.symm⟩, q.here r (.int _)⟩
  | [.scr l], _, .cons (.scr (p := p) h1) .nil, hd =>
    cases hd
    exact ⟨_, l.length, rfl, .inl ⟨_, sqL_mono r.bh h1, (List.length_map V.int).symm⟩, q.here r (.int _)⟩
theorem at_bls {B : Hp} : ∀ {ds : List D} {vs : List V} {bs : List Bool}, AtL K cl B vs ds → bls ds = some bs → vs = bs.map V.bl
  | [], _, _, a, e => by cases a; cases e; rfl
  | .bl b :: r, _, _, .cons (.bl _) t, e => by
    simp only [bls] at e
    cases q : bls r with
    | none => rw [q] at e; cases e
    | some bs =>
      rw [q] at e
      cases e
      rw [at_bls t q]
      rfl
theorem sim_all : SimC K cl (rAll K) dAll := by
  intro zA F B H es σ xs ds d Q r a hd q
  match ds, xs, a, hd with
  | [.lst l], _, .cons (.lst (p := p) (vs := vs) h1 h2) .nil, hd =>
    simp only [dAll] at hd
    cases e : bls l with
    | none => rw [e] at hd; cases hd
    | some bs =>
      rw [e] at hd
      cases hd
      refine ⟨_, bs, rfl, .inl (.inl ?_), q.here r (.bl _)⟩
      rw [← at_bls h2 e]
      exact r.bh _ _ h1
theorem sim_abs : SimC K cl (fun xs H Q => ∃ i, xs = [.int i] ∧ Q (.int (if i < 0 then -i else i)) H) dAbs := by
  intro zA F B H es σ xs ds d Q r a hd q
  match ds, xs, a, hd with
  | [.int i], _, .cons (.int _) .nil, hd => cases hd; exact ⟨i, rfl, q.here r (.int _)⟩
theorem sim_max : SimC K cl (fun xs H Q => ∃ i j, xs = [.int i, .int j] ∧ Q (.int (if j > i then j else i)) H) dMax := by
  intro zA F B H es σ xs ds d Q r a hd q
  match ds, xs, a, hd with
  | [.int i, .int j], _, .cons (.int _) (.cons (.int _) .nil), hd => cases hd; exact ⟨i, j, rfl, q.here r (.int _)⟩
theorem sim_min : SimC K cl (fun xs H Q => ∃ i j, xs = [.int i, .int j] ∧ Q (.int (if j < i then j else i)) H) dMin := by
  intro zA F B H es σ xs ds d Q r a hd q
  match ds, xs, a, hd with
  | [.int i, .int j], _, .cons (.int _) (.cons (.int _) .nil), hd => cases hd; exact ⟨i, j, rfl, q.here r (.int _)⟩
def rIntD : List V → Hp → VK → Prop := fun xs H Q => (fun xs H Q => (∃ i, xs = [V.int i] ∧ Q (.int i) H) ∨ ∃ k, xs = [V.bl k] ∧ Q (.int (if k then 1 else 0)) H) xs H Q ∨
  (fun xs H Q => ∃ a n, xs = [V.str a] ∧ PySem.intText? a = some n ∧ a.length ≤ 640 ∧ Q (.int n) H) xs H Q
theorem call_intD {X : Cx} : CallR X (.type "int") rIntD := call_int1.or call_int_str
theorem sim_int : SimC K cl rIntD dInt := by
  intro zA F B H es σ xs ds d Q r a hd q
  match ds, xs, a, hd with
  | [.int i], _, .cons (.int _) .nil, hd => cases hd; exact .inl (.inl ⟨i, rfl, q.here r (.int _)⟩)
  | [.bl b], _, .cons (.bl _) .nil, hd => cases hd; exact .inl (.inr ⟨b, rfl, q.here r (.int _)⟩)
  | [.str s], _, .cons (.str _) .nil, hd =>
    simp only [dInt] at hd
    split at hd
    · rename_i hz
      cases e : PySem.intText? s with
      | none => rw [e] at hd; cases hd
      | some n =>
        rw [e] at hd
        cases hd
        exact .inr ⟨s, n, rfl, e, hz, q.here r (.int _)⟩
    · cases hd
def rStrD : List V → Hp → VK → Prop := fun xs H Q => (fun xs H Q => ∃ i : Int, xs = [V.int i] ∧ i.natAbs.log2 < 1920 ∧ Q (.str (toString i)) H) xs H Q ∨ (fun xs H Q => ∃ a, xs = [V.str a] ∧ Q (.str a) H) xs H Q
theorem call_strD {X : Cx} : CallR X (.type "str") rStrD := call_str_int.or SkE.call_str_str
theorem sim_str : SimC K cl rStrD dStr := by
  intro zA F B H es σ xs ds d Q r a hd q
  match ds, xs, a, hd with
  | [.int i], _, .cons (.int _) .nil, hd =>
    obtain ⟨hz, rfl⟩ := okB_ok hd
    exact .inl ⟨i, rfl, of_decide_eq_true hz, q.here r (.str _)⟩
  | [.str s], _, .cons (.str _) .nil, hd => cases hd; exact .inr ⟨s, rfl, q.here r (.str _)⟩
theorem sim_repr : SimC K cl (fun xs H Q => ∃ i, xs = [.int i] ∧ i.natAbs.log2 < 1920 ∧ Q (.str (toString i)) H) dRepr := by
  intro zA F B H es σ xs ds d Q r a hd q
  match ds, xs, a, hd with
  | [.int i], _, .cons (.int _) .nil, hd =>
    obtain ⟨hz, rfl⟩ := okB_ok hd
    exact ⟨i, rfl, of_decide_eq_true hz, q.here r (.str _)⟩
theorem sim_ord : SimC K cl (fun xs H Q => ∃ x, xs = [.str x] ∧ x.length = 1 ∧ Q (.int (x.cps.getD 0 0 : Nat)) H) dOrd := by
  intro zA F B H es σ xs ds d Q r a hd q
  match ds, xs, a, hd with
  | [.str s], _, .cons (.str _) .nil, hd =>
    obtain ⟨hz, rfl⟩ := okB_ok hd
    exact ⟨s, rfl, of_decide_eq_true hz, q.here r (.int _)⟩
theorem sim_tuple : SimC K cl (fun xs H Q => ∃ p ys, xs = [.ref p] ∧ ((SqL K H p ys ∧ ∀ l, H l = none → Q (.ref l) (upd H l (.tup ys))) ∨ (SqT K H p ys ∧ Q (.ref p) H))) dTuple := by
  intro zA F B H es σ xs ds d Q r a hd q
  match ds, xs, a, hd with
  | [.tup l], _, .cons (.tup (p := p) (vs := vs) h1 h2) .nil, hd => cases hd; exact ⟨_, _, rfl, .inr ⟨sqT_mono r.bh h1, q.here r (.tup h1 h2)⟩⟩
  | [.lst l], _, .cons (.lst (p := p) (vs := vs) h1 h2) .nil, hd => cases hd; exact ⟨_, _, rfl, .inl ⟨.inl (.inl (r.bh _ _ h1)), fun l n => q.tup r n h2⟩⟩
theorem sim_list : SimC K cl (fun xs H Q => ∃ p ys, xs = [.ref p] ∧ (SqL K H p ys ∨ SqT K H p ys) ∧ ∀ l, H l = none → Q (.ref l) (upd H l (.lst ys))) dList := by
  intro zA F B H es σ xs ds d Q r a hd q
  match ds, xs, a, hd with
  | [.tup l], _, .cons (.tup (p := p) (vs := vs) h1 h2) .nil, hd => cases hd; exact ⟨_, _, rfl, .inr (sqT_mono r.bh h1), fun l n => q.lst r n h2⟩
  | [.lst l], _, .cons (.lst (p := p) (vs := vs) h1 h2) .nil, hd => cases hd; exact ⟨_, _, rfl, .inl (.inl (.inl (r.bh _ _ h1))), fun l n => q.lst r n h2⟩
theorem sim_m1 {to te : TE} {m n : M D} {r : V → List V → Hp → VK → Prop} {f : Str → D → Option D} (ho : SimE K cl E to m) (he : SimE K cl E te n) (hr : SimM1 K cl r f) : SimE K cl E (tM1 r to te) (mM1 f m n) := by
  intro zA F B H es σ Q rr h
  refine ho _ F B H es σ _ rr (Po.imp (Po.bnd h) fun dx es1 B1 H1 _ _ h1 vx r1 ax => ?_)
  cases ax with
  | str s =>
    refine ⟨⟨s, rfl⟩, ?_⟩
    refine he _ F B1 H1 es1 σ _ r1 (Po.imp (Po.bnd h1) fun dy es2 B2 H2 e2 f2 h2 vy r2 ay => ?_)
    obtain ⟨d, hd, hk⟩ := Po.opt h2
    exact hr _ F B2 H2 es2 σ s vy dy d Q r2 ay hd fun v B' H' s f r' a => hk B' H' s f v r' a
  | _ => exact h1.elim
theorem sim_split : SimM1 K cl (fun x xs H Q => ∃ a b, x = .str a ∧ xs = [.str b] ∧ (b.length == 0) = false ∧ a.length + 2 ≤ sizeLine ∧ rNewStrs (Txt.split a b) H Q) dSplit := by
  intro zA F B H es σ s y dy d Q r a hd q
  cases a with
  | str b =>
    obtain ⟨hz, rfl⟩ := okB_ok hd
    have hz := of_decide_eq_true hz
    refine ⟨s, b, rfl, rfl, hz.1, hz.2, fun p n => ?_⟩
    exact q.lst r n (.strs _)
  | _ => cases hd
theorem sim_part1 : SimM1 K cl (fun x xs H Q => ∃ a b, x = .str a ∧ xs = [.str b] ∧ (b.length == 0) = false ∧ a.length ≤ sizeLine ∧
      ∀ p, H p = none → Q (.ref p) (upd H p (.tup [.str (Txt.partition a b).1, .str (Txt.partition a b).2.1, .str (Txt.partition a b).2.2]))) dPart := by
  intro zA F B H es σ s y dy d Q r a hd q
  cases a with
  | str b =>
    obtain ⟨hz, rfl⟩ := okB_ok hd
    have hz := of_decide_eq_true hz
    refine ⟨s, b, rfl, rfl, hz.1, hz.2, fun p n => ?_⟩
    exact q.tup r n (.cons (.str _) (.cons (.str _) (.cons (.str _) .nil)))
  | _ => cases hd
theorem at_txts {B : Hp} : ∀ {ds : List D} {vs : List V} {ys : List Str}, AtL K cl B vs ds → txts ds = some ys → vs = ys.map V.str
  | [], _, _, a, e => by cases a; cases e; rfl
  | .str b :: r, _, _, .cons (.str _) t, e => by
    simp only [txts] at e
    cases q : txts r with
    | none => rw [q] at e; cases e
    | some bs =>
      rw [q] at e
      cases e
      rw [at_txts t q]
      rfl
theorem sim_join : SimM1 K cl (fun x xs H Q => ∃ a p, ∃ ys : List Str, x = .str a ∧ xs = [.ref p] ∧ (SqL K H p (ys.map V.str) ∨ SqT K H p (ys.map V.str)) ∧
      (ys.map (·.length)).sum + ys.length * a.length ≤ 16777216 ∧ Q (.str (Txt.join a ys)) H) dJoin := by
  intro zA F B H es σ s y dy d Q r a hd q
  unfold dJoin at hd
  cases a with
  | lst h1 h2 =>
    simp only [seqOf, Option.bind_some] at hd
    rename_i p vs ds
    cases e : txts ds with
    | none => rw [e] at hd; cases hd
    | some ys =>
      rw [e] at hd
      obtain ⟨hz, rfl⟩ := okB_ok hd
      have ev := at_txts h2 e
      subst ev
      exact ⟨s, p, ys, rfl, rfl, .inl (.inl (.inl (r.bh _ _ h1))), of_decide_eq_true hz, q.here r (.str _)⟩
  | tup h1 h2 =>
    simp only [seqOf, Option.bind_some] at hd
    rename_i p vs ds
    cases e : txts ds with
    | none => rw [e] at hd; cases hd
    | some ys =>
      rw [e] at hd
      obtain ⟨hz, rfl⟩ := okB_ok hd
      have ev := at_txts h2 e
      subst ev
      exact ⟨s, p, ys, rfl, rfl, .inr (sqT_mono r.bh h1), of_decide_eq_true hz, q.here r (.str _)⟩
  | _ => simp [seqOf] at hd
def mJs : List (M D) → Str → M Str
  | [], acc => Mi.ret acc
  | m :: ms, acc => Mi.bnd m fun d => match d with
    | .str y => if (acc ++ y).length ≤ sizeLine then mJs ms (acc ++ y) else Mi.bad
    | _ => Mi.bad
def mFs (ms : List (M D)) : M D := Mi.bnd (mJs ms Str.empty) fun s => Mi.ret (.str s)
def fmtOf : D → Option D
  | .str y => okB (decide (y.length ≤ sizeLine)) (.str y)
  | .int i => okB (decide (i.natAbs.log2 < 1920)) (.str (toString i))
  | _ => none
def mFmt (m : M D) : M D := Mi.bnd m fun d => Mi.opt (fmtOf d)
inductive SimJ (K : PySem.W.Frag) (cl : Nat → Addr) (E : XK) : List TE → List (M D) → Prop
  | nil : SimJ K cl E [] []
  | cons {t : TE} {m : M D} {ts : List TE} {ms : List (M D)} : SimE K cl E t m → SimJ K cl E ts ms → SimJ K cl E (t :: ts) (m :: ms)
theorem sim_js {ts : List TE} {ms : List (M D)} (h : SimJ K cl E ts ms) : ∀ (acc : Str) (zA : Option Addr) (F B H : Hp) (es : En) (σ : L2.St) (Q : Str → Hp → Prop), Rel K cl zA F B H es σ →
    Po K cl E F B (mJs ms acc es) (fun s es' B' H' => Rel K cl zA F B' H' es' σ → Q s H') → tJs ts acc σ H Q := by
  induction h with
  | nil => exact fun acc zA F B H es σ Q r h => Po.ret0 (show Po K cl E F B (Mi.ret acc es) _ from h) H r
  | cons h1 h2 ih =>
    intro acc zA F B H es σ Q r h
    refine h1 _ F B H es σ _ r (Po.imp (Po.bnd h) fun d es1 B1 H1 _ _ k v r1 a => ?_)
    cases a with
    | str y =>
      simp only at k
      by_cases hz : (acc ++ y).length ≤ sizeLine
      · rw [if_pos hz] at k
        exact ⟨y, rfl, hz, ih (acc ++ y) _ F B1 H1 es1 σ Q r1 k⟩
      · rw [if_neg hz] at k
        exact k.elim
    | _ => exact k.elim
theorem sim_fs {ts : List TE} {ms : List (M D)} (h : SimJ K cl E ts ms) : SimE K cl E (fun σ H Q => tJs ts Str.empty σ H fun out H1 => Q (.str out) H1) (mFs ms) := by
  intro zA F B H es σ Q r k
  exact sim_js h Str.empty _ F B H es σ _ r (Po.imp (Po.bnd k) fun s es1 B1 H1 _ _ k1 r1 => Po.ret0 k1 H1 _ r1 (.str s))
theorem sim_fmt {te : TE} {m : M D} (ha : SimE K cl E te m) : SimE K cl E (tFmt te) (mFmt m) := by
  intro zA F B H es σ Q r h
  refine ha _ F B H es σ _ r (Po.imp (Po.bnd h) fun d es1 B1 H1 _ _ h1 v r1 a => ?_)
  obtain ⟨x, hx, hk⟩ := Po.opt h1
  cases a with
  | str y =>
    obtain ⟨hz, rfl⟩ := okB_ok hx
    exact .inl ⟨y, rfl, of_decide_eq_true hz, hk B1 H1 (Same.rfl' _) (Frs.refl _ _) _ r1 (.str y)⟩
  | int i =>
    obtain ⟨hz, rfl⟩ := okB_ok hx
    exact .inr ⟨i, rfl, of_decide_eq_true hz, hk B1 H1 (Same.rfl' _) (Frs.refl _ _) _ r1 (.str _)⟩
  | _ => cases hx
def ends (r : R (Out × En)) : R D := match r with
  | .ok (.nx, _) => .ok .non
  | .ok (.rt d, _) => .ok d
  | .exc c d => .exc c d
  | _ => .bad
def fnM (n : Nat) (m : M Out) (ds : List D) : R D := ends (m (ds.map Sl.dat ++ List.replicate (n - ds.length) .un))
def spM (K : PySem.W.Frag) (cl : Nat → Addr) (g : List D → R D) (n : Nat) : Sp := fun vs H Q E => ∃ (ds : List D) (B : Hp), ds.length = n ∧ Same B H ∧ AtL K cl B vs ds ∧ match g ds with
  | .ok d => ∀ (v : V) (B' H' : Hp), Same B B' → Frs B H B' → Same H H' → Same B' H' → At K cl B' v d → Q v H'
  | .exc c d => Exk K cl E H B c d
  | .bad => False
def mCall (n : Nat) (g : List D → R D) (a : M (List D)) : M D := Mi.bnd a fun ds => if ds.length = n then Mi.lft (g ds) else Mi.bad
theorem Exk.call {F B H : Hp} {es : En} {σ : L2.St} {c : Nat} {d : D} (r : Rel K cl zA F B H es σ) (h : Exk K cl E F B c d) : Exk K cl E H B c d := fun v dx B' H' s f sh sb n nb e a =>
  h v dx B' H' s (r.frs f) (r.fh.trans sh) sb (r.fh.free n) nb e a
theorem sim_call {ta : TA} {ma : M (List D)} {g : List D → R D} {n : Nat} (ha : SimA K cl E ta ma) : SimE K cl E (tCall (spM K cl g n) [] E ta) (mCall n g ma) := by
  intro zA F B H es σ Q r h
  refine ha _ F B H es σ _ r (Po.imp (Po.bnd h) fun ds es1 B1 H1 _ _ h1 vs r1 a => ?_)
  by_cases hn : ds.length = n
  · rw [if_pos hn] at h1
    show spM K cl g n (vs ++ []) H1 Q E
    rw [List.append_nil]
    refine ⟨ds, B1, hn, r1.bh, a, ?_⟩
    unfold Mi.lft at h1
    cases q : g ds with
    | ok d =>
      rw [q] at h1
      exact fun v B' H' s f sh sb av => h1 B' H' s (r1.frs f) v (r1.grow s sh sb f) av
    | exc c d =>
      rw [q] at h1
      exact Exk.call r1 h1
    | bad => rw [q] at h1; exact h1.elim
  · rw [if_neg hn] at h1
    exact h1.elim
theorem rel_start {B H : Hp} {N : List Str} {vs : List V} {ds : List D} (s : Same B H) (a : AtL K cl B vs ds) (hl : ds.length ≤ N.length) : Rel K cl none H B H (ds.map Sl.dat ++ List.replicate (N.length - ds.length) .un) (L2.start N vs) where
  bh := s
  fh := Same.rfl' H
  len := by
    unfold L2.start
    rw [List.length_append, List.length_append, List.length_map, List.length_map, List.length_replicate, List.length_replicate, a.len]
  dat := fun i d e => by
    by_cases hi : i < ds.length
    · rw [List.getElem?_append_left (by rw [List.length_map]; exact hi), List.getElem?_map] at e
      cases q : ds[i]? with
      | none => rw [q] at e; cases e
      | some d' =>
        rw [q] at e
        cases e
        obtain ⟨v, h1, h2⟩ := a.get q
        refine ⟨v, ?_, h2⟩
        unfold L2.start
        rw [List.getElem?_append_left (by rw [List.length_map, a.len]; exact hi), List.getElem?_map, h1]
        rfl
    · rw [List.getElem?_append_right (by rw [List.length_map]; omega)] at e
      have := List.mem_of_getElem? e
      have := List.eq_of_mem_replicate this
      cases this
  own := fun i l e => by
    by_cases hi : i < ds.length
    · rw [List.getElem?_append_left (by rw [List.length_map]; exact hi), List.getElem?_map] at e
      cases q : ds[i]? with
      | none => rw [q] at e; cases e
      | some d' => rw [q] at e; cases e
    · rw [List.getElem?_append_right (by rw [List.length_map]; omega)] at e
      have := List.mem_of_getElem? e
      have := List.eq_of_mem_replicate this
      cases this
  apart := fun i j l m p _ e => by
    by_cases hi : i < ds.length
    · rw [List.getElem?_append_left (by rw [List.length_map]; exact hi), List.getElem?_map] at e
      cases q : ds[i]? with
      | none => rw [q] at e; cases e
      | some d' => rw [q] at e; cases e
    · rw [List.getElem?_append_right (by rw [List.length_map]; omega)] at e
      have := List.mem_of_getElem? e
      have := List.eq_of_mem_replicate this
      cases this
  zero := fun p l e => by cases e
theorem fn_ok {P : Program} {w : World} {mg : Str → Option Value} {base : Heap} {x qual : Str} {st : Stmt} {f : Addr} {fd : FuncData} {N ps : List Str} {k : Nat} {m : M Out} (Fn : Fun K x qual st f fd) (S : FnScope N ps (defScope st))
    (hb : ∀ (cdv : Value) (A : Around) (outer : List Env) (s : Shared) (H : Hp) (E : XK), Room k (A.deeper (envOfC qual (defScope st) s.heap.objs.size f cdv)) →
      ∃ t, PSs (cxOf (L2.CX P w) P w K mg base N qual (defScope st) f cdv A outer s H E) (defBody st) t ∧ SimS K cl E t m) : FnOk P w K mg base (L2.CX P w) (k + 1) f fd ps (spM K cl (fnM N.length m) ps.length) := by
  have hpl : ps.length ≤ N.length := by have := congrArg List.length S.pre; rw [List.length_take] at this; omega
  refine Fn.okX S (fun vs H Q E h => ?_) (fun cdv A outer s H vs Q E hr h => ?_)
  · obtain ⟨ds, B, hl, _, a, _⟩ := h
    rw [a.len, hl]
  · obtain ⟨ds, B, hl, sB, a, h⟩ := h
    obtain ⟨t, ht, hs⟩ := hb cdv A outer s H E hr
    refine ⟨t, ht, hs _ H B H _ _ _ (rel_start sB a (by omega)) ?_⟩
    unfold fnM at h
    cases q : m (ds.map Sl.dat ++ List.replicate (N.length - ds.length) .un) with
    | ok p =>
      obtain ⟨o, es⟩ := p
      rw [q] at h
      cases o with
      | nx => exact fun B' H' s f σ' r' => h .non B' H' s f r'.fh r'.bh .non
      | rt d => exact fun B' H' s f v σ' r' av => h v B' H' s f r'.fh r'.bh av
      | bk => exact h.elim
      | ct => exact h.elim
    | exc c d => rw [q] at h; exact h
    | bad => rw [q] at h; exact h.elim
end
end Mi
namespace Mi
open PySem PySem.Spec PyProof.Rows L2
def hid (H : Hp) (p : Addr) : Hp := fun b => if b = p then none else H b
theorem hid_at {H : Hp} {p : Addr} : hid H p p = none := if_pos rfl
theorem hid_ne {H : Hp} {p b : Addr} (h : b ≠ p) : hid H p b = H b := if_neg h
theorem hid_some {H : Hp} {p b : Addr} {o : HO} (h : hid H p b = some o) : b ≠ p ∧ H b = some o := by
  unfold hid at h
  split at h
  · cases h
  · rename_i hb
    exact ⟨hb, h⟩
def endsO (r : R (Out × En)) : R (D × List D) := match r with
  | .ok (o, es) => match ownAt 0 es with
    | some l => (match o with
      | .nx => .ok (.non, l)
      | .rt d => .ok (d, l)
      | _ => .bad)
    | none => .bad
  | .exc c d => .exc c d
  | .bad => .bad
def fnO (n : Nat) (m : M Out) (l : List D) (ds : List D) : R (D × List D) := endsO (m (Sl.own l :: (ds.map Sl.dat ++ List.replicate (n - 1 - ds.length) .un)))
def spO (K : PySem.W.Frag) (cl : Nat → Addr) (g : List D → List D → R (D × List D)) (n : Nat) : Sp := fun vs H Q E => ∃ (p : Addr) (ws vs' : List V) (l ds : List D) (B : Hp), vs = .ref p :: vs' ∧ ds.length = n ∧ Same B H ∧ B p = none ∧ H p = some (.lst ws) ∧ AtL K cl B ws l ∧ AtL K cl B vs' ds ∧ match g l ds with
  | .ok (d, l') => ∀ (v : V) (B' H' : Hp) (ws' : List V), Same B B' → Frs B (hid H p) B' → Same (hid H p) H' → B' p = none → H' p = some (.lst ws') → AtL K cl B' ws' l' → Same B' H' → At K cl B' v d → Q v H'
  | .exc c d => Exk K cl E (hid H p) B c d
  | .bad => False
def mCallO (i n : Nat) (g : List D → List D → R (D × List D)) (a : M (List D)) : M D := fun es => match ownAt i es with
  | some _ => Mi.bnd a (fun ds es1 => match ownAt i es1 with
    | some l => if ds.length = n then (match g l ds with
      | .ok (d, l') => .ok (d, es1.set i (.own l'))
      | .exc c d => .exc c d
      | .bad => .bad) else .bad
    | none => .bad) es
  | none => .bad
section
variable {K : PySem.W.Frag} {cl : Nat → Addr} {E : XK}
theorem sim_callO {i n : Nat} {ta : TA} {ma : M (List D)} {g : List D → List D → R (D × List D)} (ha : SimA K cl E ta ma) : SimE K cl E (tCall (spO K cl g n) [] E (tCons (tVar i) ta)) (mCallO i n g ma) := by
  intro zA F B H es σ Q r h
  unfold mCallO at h
  cases e0 : ownAt i es with
  | none => rw [e0] at h; exact h.elim
  | some l0 =>
    rw [e0] at h
    obtain ⟨p, vs0, h1, h2, h3, h4, h5⟩ := r.own i l0 (own_at e0)
    refine ⟨.ref p, h1, ?_⟩
    refine ha _ F B H es σ _ r (Po.imp (Po.bnd h) fun ds es1 B1 H1 e1 f1 k vs r1 a => ?_)
    cases q : ownAt i es1 with
    | none => rw [q] at k; exact k.elim
    | some l =>
      rw [q] at k
      simp only at k
      by_cases hn : ds.length = n
      · rw [if_pos hn] at k
        obtain ⟨p', ws, g1, g2, g3, g4, g5⟩ := r1.own i l (own_at q)
        rw [h1] at g1
        cases g1
        show spO K cl g n ((.ref p :: vs) ++ []) H1 Q E
        rw [List.append_nil]
        refine ⟨p, ws, vs, l, ds, B1, rfl, hn, r1.bh, g2, g4, g5, a, ?_⟩
        have sF : Same F (hid H1 p) := fun b o e => by
          rw [hid_ne (ne_of_none e g3)]
          exact r1.fh _ _ e
        have up : ∀ {B' : Hp}, Frs B1 (hid H1 p) B' → Frs B1 F B' := fun {B'} f x o e n => by
          have z := f x o e n
          exact sF.free z
        cases hg : g l ds with
        | ok pr =>
          obtain ⟨d, l'⟩ := pr
          rw [hg] at k
          intro v B' H' ws' s f sh np hp al sb av
          refine k B' H' s (up f) v ?_ av
          have hl : i < es1.length := (List.getElem?_eq_some_iff.mp (own_at q)).1
          refine ⟨sb, sF.trans sh, by rw [List.length_set]; exact r1.len, fun j e hj => ?_, fun j m hj => ?_, fun a' b' l1 m1 q1 ne ha hb sa sb' => ?_, fun q1 l1 e1 z1 => ?_⟩
          · by_cases hij : i = j
            · subst hij
              rw [List.getElem?_set_self hl] at hj
              cases hj
            · rw [List.getElem?_set_ne hij] at hj
              obtain ⟨w, w1, w2⟩ := r1.dat j e hj
              exact ⟨w, w1, w2.up s⟩
          · by_cases hij : i = j
            · subst hij
              rw [List.getElem?_set_self hl] at hj
              cases hj
              exact ⟨p, ws', h1, np, g3, hp, al⟩
            · rw [List.getElem?_set_ne hij] at hj
              obtain ⟨q', ws2, w1, w2, w3, w4, w5⟩ := r1.own j m hj
              have nq : q' ≠ p := fun z => by
                subst z
                exact r1.apart i j _ _ _ hij (own_at q) hj h1 w1
              have hh : hid H1 p q' = some (.lst ws2) := by rw [hid_ne nq]; exact w4
              refine ⟨q', ws2, w1, ?_, w3, sh _ _ hh, w5.up s⟩
              cases z : B' q' with
              | none => rfl
              | some o =>
                have y := f q' o z w2
                rw [hh] at y
                cases y
          · have oa : ∃ l0 : List D, es1[a']? = some (.own l0) := by
              by_cases hia : i = a'
              · subst hia; exact ⟨l, own_at q⟩
              · rw [List.getElem?_set_ne hia] at ha; exact ⟨_, ha⟩
            have ob : ∃ l0 : List D, es1[b']? = some (.own l0) := by
              by_cases hib : i = b'
              · subst hib; exact ⟨l, own_at q⟩
              · rw [List.getElem?_set_ne hib] at hb; exact ⟨_, hb⟩
            obtain ⟨la, oa⟩ := oa
            obtain ⟨lb, ob⟩ := ob
            exact r1.apart a' b' la lb q1 ne oa ob sa sb'
          · by_cases h0 : i = 0
            · subst h0
              exact r1.zero q1 l e1 (own_at q)
            · rw [List.getElem?_set_ne h0] at z1
              exact r1.zero q1 l1 e1 z1
        | exc c d =>
          rw [hg] at k
          intro v dx B' H' s f sh sb n nb e av
          have nd : F dx = none := sF.free n
          exact k v dx B' H' s (up f) (sF.trans sh) sb nd nb e av
        | bad => rw [hg] at k; exact k.elim
      · rw [if_neg hn] at k
        exact k.elim
theorem relO_start {B H : Hp} {N : List Str} {p : Addr} {ws vs : List V} {l ds : List D} (s : Same B H) (nb : B p = none) (hp : H p = some (.lst ws)) (al : AtL K cl B ws l) (a : AtL K cl B vs ds) (hl : ds.length + 1 ≤ N.length) :
    Rel K cl (some p) (hid H p) B H (Sl.own l :: (ds.map Sl.dat ++ List.replicate (N.length - 1 - ds.length) .un)) (L2.start N (.ref p :: vs)) where
  bh := s
  fh := fun b o e => (hid_some e).2
  len := by
    unfold L2.start
    rw [List.length_cons, List.length_append, List.length_append, List.length_map, List.length_map, List.length_replicate, List.length_replicate, List.length_cons, a.len]
    omega
  dat := fun i d e => by
    cases i with
    | zero => cases e
    | succ i =>
      rw [List.getElem?_cons_succ] at e
      by_cases hi : i < ds.length
      · rw [List.getElem?_append_left (by rw [List.length_map]; exact hi), List.getElem?_map] at e
        cases q : ds[i]? with
        | none => rw [q] at e; cases e
        | some d' =>
          rw [q] at e
          cases e
          obtain ⟨v, h1, h2⟩ := a.get q
          refine ⟨v, ?_, h2⟩
          unfold L2.start
          rw [List.getElem?_append_left (by rw [List.length_map, List.length_cons, a.len]; omega), List.getElem?_map, List.getElem?_cons_succ, h1]
          rfl
      · rw [List.getElem?_append_right (by rw [List.length_map]; omega)] at e
        have := List.mem_of_getElem? e
        have := List.eq_of_mem_replicate this
        cases this
  own := fun i m e => by
    cases i with
    | zero =>
      cases e
      exact ⟨p, ws, rfl, nb, hid_at, hp, al⟩
    | succ i =>
      rw [List.getElem?_cons_succ] at e
      by_cases hi : i < ds.length
      · rw [List.getElem?_append_left (by rw [List.length_map]; exact hi), List.getElem?_map] at e
        cases q : ds[i]? with
        | none => rw [q] at e; cases e
        | some d' => rw [q] at e; cases e
      · rw [List.getElem?_append_right (by rw [List.length_map]; omega)] at e
        have := List.mem_of_getElem? e
        have := List.eq_of_mem_replicate this
        cases this
  apart := fun i j m1 m2 q ne ei ej _ _ => by
    have z : ∀ {i : Nat} {m : List D}, (Sl.own l :: (ds.map Sl.dat ++ List.replicate (N.length - 1 - ds.length) .un))[i]? = some (.own m) → i = 0 := fun {i m} e => by
      cases i with
      | zero => rfl
      | succ i =>
        rw [List.getElem?_cons_succ] at e
        by_cases hi : i < ds.length
        · rw [List.getElem?_append_left (by rw [List.length_map]; exact hi), List.getElem?_map] at e
          cases q : ds[i]? with
          | none => rw [q] at e; cases e
          | some d' => rw [q] at e; cases e
        · rw [List.getElem?_append_right (by rw [List.length_map]; omega)] at e
          have := List.mem_of_getElem? e
          have := List.eq_of_mem_replicate this
          cases this
    exact ne ((z ei).trans (z ej).symm)
  zero := fun q l' e z => by
    cases e
    rfl
theorem fnO_ok {P : Program} {w : World} {mg : Str → Option Value} {base : Heap} {x qual : Str} {st : Stmt} {f : Addr} {fd : FuncData} {N : List Str} {p0 : Str} {ps : List Str} {k : Nat} {m : M Out} (Fn : Fun K x qual st f fd) (S : FnScope N (p0 :: ps) (defScope st))
    (hb : ∀ (cdv : Value) (A : Around) (outer : List Env) (s : Shared) (H : Hp) (E : XK), Room k (A.deeper (envOfC qual (defScope st) s.heap.objs.size f cdv)) →
      ∃ t, PSs (cxOf (L2.CX P w) P w K mg base N qual (defScope st) f cdv A outer s H E) (defBody st) t ∧ SimS K cl E t m) : FnOk P w K mg base (L2.CX P w) (k + 1) f fd (p0 :: ps) (spO K cl (fnO N.length m) ps.length) := by
  have hpl : ps.length + 1 ≤ N.length := by have := congrArg List.length S.pre; rw [List.length_take, List.length_cons] at this; omega
  refine Fn.okX S (fun vs H Q E h => ?_) (fun cdv A outer s H vs Q E hr h => ?_)
  · obtain ⟨p, ws, vs', l, ds, B, rfl, hl, _, _, _, _, a, _⟩ := h
    rw [List.length_cons, List.length_cons, a.len, hl]
  · obtain ⟨p, ws, vs', l, ds, B, rfl, hl, sB, nb, hp, al, a, h⟩ := h
    obtain ⟨t, ht, hs⟩ := hb cdv A outer s H E hr
    refine ⟨t, ht, hs _ _ B H _ _ _ (relO_start sB nb hp al a (by omega)) ?_⟩
    have fin : ∀ {B' H' : Hp} {es' : En} {σ' : L2.St} {l' : List D}, Rel K cl (some p) (hid H p) B' H' es' σ' → ownAt 0 es' = some l' → ∃ ws', B' p = none ∧ H' p = some (.lst ws') ∧ AtL K cl B' ws' l' := fun r e => by
      obtain ⟨q, ws', h1, h2, h3, h4, h5⟩ := r.own 0 _ (own_at e)
      rw [r.zero p _ rfl (own_at e)] at h1
      cases h1
      exact ⟨ws', h2, h4, h5⟩
    unfold fnO endsO at h
    cases q : m (Sl.own l :: (ds.map Sl.dat ++ List.replicate (N.length - 1 - ds.length) .un)) with
    | ok pr =>
      obtain ⟨o, es⟩ := pr
      rw [q] at h
      simp only at h
      cases eo : ownAt 0 es with
      | none => rw [eo] at h; exact h.elim
      | some l' =>
        rw [eo] at h
        simp only at h
        cases o with
        | nx =>
          intro B' H' s f σ' r'
          obtain ⟨ws', a1, a2, a3⟩ := fin r' eo
          exact h .non B' H' ws' s f r'.fh a1 a2 a3 r'.bh .non
        | rt d =>
          intro B' H' s f v σ' r' av
          obtain ⟨ws', a1, a2, a3⟩ := fin r' eo
          exact h v B' H' ws' s f r'.fh a1 a2 a3 r'.bh av
        | bk => exact h.elim
        | ct => exact h.elim
    | exc c d => rw [q] at h; exact h
    | bad => rw [q] at h; exact h.elim
end
end Mi
namespace Mi
open PySem PySem.Spec PyProof.Rows L2
structure XE (X : Cx) (cl : Nat → Addr) (E : XK) (e : Expr) (t : TE) (m : M D) : Prop where
  p : PE X e t
  s : SimE X.K cl E t m
structure XT (X : Cx) (cl : Nat → Addr) (E : XK) (e : Expr) (t : TT) (m : M Bool) : Prop where
  p : PT X e t
  s : SimT X.K cl E t m
structure XW (X : Cx) (cl : Nat → Addr) (E : XK) (e : Expr) (t : TT) (m : M Bool) : Prop where
  p : PW X e t
  s : SimT X.K cl E t m
structure XA (X : Cx) (cl : Nat → Addr) (E : XK) (es : List Expr) (t : TA) (m : M (List D)) : Prop where
  p : PA X es t
  s : SimA X.K cl E t m
structure XO (X : Cx) (cl : Nat → Addr) (E : XK) (e : Option Expr) (t : TO) (m : M (Option Int)) : Prop where
  p : PO X e t
  s : SimO X.K cl E t m
structure XS (X : Cx) (cl : Nat → Addr) (E : XK) (st : Stmt) (t : TS) (m : M Out) : Prop where
  p : PS X st t
  s : SimS X.K cl E t m
structure XB (X : Cx) (cl : Nat → Addr) (E : XK) (st : List Stmt) (t : TS) (m : M Out) : Prop where
  p : PSs X st t
  s : SimS X.K cl E t m
structure XI (X : Cx) (cl : Nat → Addr) (E : XK) (tg it : Expr) (t : TI) (m : M (List D)) : Prop where
  p : PI X tg it t
  s : SimI X.K cl E t m
structure XG (X : Cx) (cl : Nat → Addr) (tg : Expr) (is : List Nat) (g : TG) (b : D → M Unit) : Prop where
  p : PG X tg g
  s : SimG X.K cl is g b
  n : ∀ x es c d, b x es ≠ .exc c d
structure XGs (X : Cx) (cl : Nat → Addr) (tg : List Expr) (is : List Nat) (g : TGs) : Prop where
  p : PGs X tg g
  s : SimGs X.K cl is g (bNames is)
section
variable {X : Cx} {cl : Nat → Addr} {E : XK} {a b c e o : Expr} {es rest : List Expr} {ta tb tc te to : TE} {ma mb mc me mo : M D} {tA tB tC' : TT} {mA mB mC' : M Bool} {t u : TA} {ml : M (List D)} {pos : Pos}
theorem x_var (i : Nat) {x : Str} (hN : X.N[i]? = some x := by rfl) (hv : Vis X.env.scope x := by first | exact Or.inl rfl | exact Or.inr (Or.inl rfl) | exact Or.inr (Or.inr rfl)) (hd : (x == ("__debug__" : Str)) = false := by decide)
    (hcd : (x == ("__classdict__" : Str)) = false := by decide) : XE X cl E (.Name x pos) (tVar i) (mVar i) := ⟨pe_var hN hv hd hcd, sim_var⟩
theorem x_int {i : Int} {j : Nat} : XE X cl E (.Constant (.int i) j pos) (tC (.int i)) (mC (.int i)) := ⟨pe_int, sim_c fun _ => .int i⟩
theorem x_bl {i : Bool} {j : Nat} : XE X cl E (.Constant (.bool i) j pos) (tC (.bl i)) (mC (.bl i)) := ⟨pe_bl, sim_c fun _ => .bl i⟩
theorem x_non {j : Nat} : XE X cl E (.Constant .none j pos) (tC .non) (mC .non) := ⟨pe_non, sim_c fun _ => .non⟩
theorem x_str {s : Str} {j : Nat} : XE X cl E (.Constant (.str s) j pos) (tC (.str s)) (mC (.str s)) := ⟨pe_str, sim_c fun _ => .str s⟩
theorem x_gI {x : Str} {i : Int} (hm : ∃ tk, X.mg x = some (.int i tk)) (hg : Gl X x := by rfl) (hd : (x == ("__debug__" : Str)) = false := by decide) : XE X cl E (.Name x pos) (tC (.int i)) (mC (.int i)) := by
  obtain ⟨tk, hm⟩ := hm
  exact ⟨pe_glob hg hm ⟨tk, rfl⟩ hd, sim_c fun _ => .int i⟩
theorem x_gS {x : Str} {s : Str} (hm : ∃ tk, X.mg x = some (.str s tk)) (hg : Gl X x := by rfl) (hd : (x == ("__debug__" : Str)) = false := by decide) : XE X cl E (.Name x pos) (tC (.str s)) (mC (.str s)) := by
  obtain ⟨tk, hm⟩ := hm
  exact ⟨pe_glob hg hm ⟨tk, rfl⟩ hd, sim_c fun _ => .str s⟩
theorem x_bin {op : Operator} {r : R2} {f : D → D → Option D} (ho : OpR X (binaryOp op) r) (hs : SimR2 X.K cl r f) (ha : XE X cl E a ta ma) (hb : XE X cl E b tb mb) : XE X cl E (.BinOp a op b pos) (tOp r ta tb) (mBin f ma mb) := ⟨pe_op ho ha.p hb.p, sim_bin ha.s hb.s hs⟩
theorem x_un {op : UnaryOp} {r : V → Hp → VK → Prop} {f : D → Option D} (ho : UnR X (unaryOp op) r) (hs : SimR1 X.K cl r f) (ha : XE X cl E a ta ma) : XE X cl E (.UnaryOp op a pos) (tUn r ta) (mUn f ma) := ⟨pe_un ho ha.p, sim_un ha.s hs⟩
theorem x_cmp {op : CmpOp} {r : R2} {f : D → D → Option D} (ho : OpR X (compareOp op) r) (hs : SimR2 X.K cl r f) (ha : XE X cl E a ta ma) (hb : XE X cl E b tb mb) (hm : behindInMarks op b = false := by first | exact nomark _ | rfl) :
    XE X cl E (.Compare a [op] [b] pos) (tOp r ta tb) (mBin f ma mb) := ⟨pe_cmpR ho ha.p hb.p hm, sim_bin ha.s hb.s hs⟩
theorem xt_cmp {op : CmpOp} {r : R2} {f : D → D → Option D} (ho : OpR X (compareOp op) r) (hs : SimR2 X.K cl r f) (ha : XE X cl E a ta ma) (hb : XE X cl E b tb mb) (hm : behindInMarks op b = false := by first | exact nomark _ | rfl) :
    XT X cl E (.Compare a [op] [b] pos) (tTest (tOp r ta tb)) (mTst (mBin f ma mb)) := ⟨pt_cmpR ho ha.p hb.p hm, sim_tst (sim_bin ha.s hb.s hs)⟩
theorem x_chn {op op' : CmpOp} {r r' : R2} {f g : D → D → Option D} (ho : OpR X (compareOp op) r) (hs : SimR2 X.K cl r f) (ho' : OpR X (compareOp op') r') (hs' : SimR2 X.K cl r' g) (ha : XE X cl E a ta ma) (hb : XE X cl E b tb mb) (hc : XE X cl E c tc mc)
    (hm : lastMarks [op, op'] [b, c] = false := by with_unfolding_all rfl) : XE X cl E (.Compare a [op, op'] [b, c] pos) (tChain r r' ta tb tc) (mChn f g ma mb mc) := ⟨pe_chain ho ho' ha.p hb.p hc.p hm, sim_chn ha.s hb.s hc.s hs hs'⟩
theorem xt_chn {op op' : CmpOp} {r r' : R2} {f g : D → D → Option D} (ho : OpR X (compareOp op) r) (hs : SimR2 X.K cl r f) (ho' : OpR X (compareOp op') r') (hs' : SimR2 X.K cl r' g) (ha : XE X cl E a ta ma) (hb : XE X cl E b tb mb) (hc : XE X cl E c tc mc)
    (hm : lastMarks [op, op'] [b, c] = false := by with_unfolding_all rfl) : XT X cl E (.Compare a [op, op'] [b, c] pos) (tTest (tChain r r' ta tb tc)) (mTst (mChn f g ma mb mc)) := ⟨pt_chain ho ho' ha.p hb.p hc.p hm, sim_tst (sim_chn ha.s hb.s hc.s hs hs')⟩
theorem x_one {op : BoolOp} (ha : XE X cl E a ta ma) : XE X cl E (.BoolOp op [a] pos) ta ma := ⟨pe_one ha.p, ha.s⟩
theorem x_and (ha : XE X cl E a ta ma) (hb : XE X cl E (.BoolOp .And (b :: rest) pos) tb mb) : XE X cl E (.BoolOp .And (a :: b :: rest) pos) (tAndV ta tb) (mAnd ma mb) := ⟨pe_and ha.p hb.p, sim_and ha.s hb.s⟩
theorem x_or (ha : XE X cl E a ta ma) (hb : XE X cl E (.BoolOp .Or (b :: rest) pos) tb mb) : XE X cl E (.BoolOp .Or (a :: b :: rest) pos) (tOrV ta tb) (mOr ma mb) := ⟨pe_or ha.p hb.p, sim_or ha.s hb.s⟩
theorem x_not (ha : XE X cl E a ta ma) : XE X cl E (.UnaryOp .Not a pos) (tNotV ta) (mNot ma) := ⟨pe_not ha.p, sim_not ha.s⟩
theorem x_ife (hc : XT X cl E c tA mA) (ha : XE X cl E a ta ma) (hb : XE X cl E b tb mb) : XE X cl E (.IfExp c a b pos) (tIf tA ta tb) (mIfE mA ma mb) := ⟨pe_ifExp hc.p ha.p hb.p, sim_ifE hc.s ha.s hb.s⟩
theorem xt_tru (ha : XE X cl E a ta ma) (he : ∀ whole, isTrue a X.env whole = (do let v ← whole; standAt a.pos; holding [v] (truthy v)) := by intro _; rfl) :
    XT X cl E a (fun σ H Q => ta σ H fun x H' => ∃ k, TruV X.K x H' k ∧ Q k H') (mTru ma) := ⟨pt_truth ha.p he, sim_tru ha.s⟩
theorem xt_not (ha : XT X cl E a tA mA) : XT X cl E (.UnaryOp .Not a pos) (tNot tA) (mNotT mA) := ⟨pt_not ha.p, sim_notT ha.s⟩
theorem xt_w (h : XW X cl E a tA mA) : XT X cl E a tA mA := ⟨h.p.pt, h.s⟩
theorem xw_and1 (ha : XT X cl E a tA mA) : XW X cl E (.BoolOp .And [a] pos) tA mA := ⟨pw_and1 ha.p, ha.s⟩
theorem xw_or1 (ha : XT X cl E a tA mA) : XW X cl E (.BoolOp .Or [a] pos) tA mA := ⟨pw_or1 ha.p, ha.s⟩
theorem xw_and (ha : XT X cl E a tA mA) (hb : XW X cl E (.BoolOp .And (b :: rest) pos) tB mB) : XW X cl E (.BoolOp .And (a :: b :: rest) pos) (tAnd tA tB) (mAndT mA mB) := ⟨pw_and ha.p hb.p, sim_andT ha.s hb.s⟩
theorem xw_or (ha : XT X cl E a tA mA) (hb : XW X cl E (.BoolOp .Or (b :: rest) pos) tB mB) : XW X cl E (.BoolOp .Or (a :: b :: rest) pos) (tOr tA tB) (mOrT mA mB) := ⟨pw_or ha.p hb.p, sim_orT ha.s hb.s⟩
theorem xa_nil : XA X cl E [] tNil mNil := ⟨pa_nil, sim_nil⟩
theorem xa_cons (ha : XE X cl E e te me) (hr : XA X cl E es t ml) (hs : starEach (e :: es) X.env = (false, eval e X.env) :: starEach es X.env := by rfl) : XA X cl E (e :: es) (tCons te t) (mCons me ml) := ⟨pa_cons ha.p hr.p hs, sim_cons ha.s hr.s⟩
theorem x_tup {k : Nat} (h : XA X cl E es t ml) : XE X cl E (.Tuple es k pos) (tTup t) (mTup ml) := ⟨pe_tup h.p, sim_tup h.s⟩
theorem x_lst (h : XA X cl E es t ml) : XE X cl E (.List es pos) (tLst t) (mLst ml) := ⟨pe_lst h.p, sim_lst h.s⟩
theorem x_ix (ha : XE X cl E a ta ma) (hb : XE X cl E b tb mb) (hs : PlainIx b := by exact fun _ _ => rfl) : XE X cl E (.Subscript a b pos) (tOp (rIx X.K) ta tb) (mBin dIx ma mb) := ⟨pe_ix ix_seq ha.p hb.p hs, sim_bin ha.s hb.s sim_ix⟩
theorem x_ixO (i : Nat) {x : Str} {p : Pos} (hb : XE X cl E b tb mb) (hs : PlainIx b := by exact fun _ _ => rfl) (hN : X.N[i]? = some x := by rfl) (hv : Vis X.env.scope x := by first | exact Or.inl rfl | exact Or.inr (Or.inl rfl) | exact Or.inr (Or.inr rfl)) (hd : (x == ("__debug__" : Str)) = false := by decide)
    (hcd : (x == ("__classdict__" : Str)) = false := by decide) : XE X cl E (.Subscript (.Name x p) b pos) (tOp (rIx X.K) (tVar i) tb) (mIxO i mb) := ⟨pe_ix ix_seq (pe_var hN hv hd hcd) hb.p hs, sim_ixO hb.s⟩
theorem xo_none : XO X cl E none tNoPart mNo := ⟨po_none, sim_no⟩
theorem xo_some (h : XE X cl E e te me) : XO X cl E (some e) (tPart te) (mPart me) := ⟨po_some h.p, sim_part h.s⟩
theorem x_slice {lo hi : Option Expr} {tl th : TO} {nl nh : M (Option Int)} {p2 : Pos} (ha : XE X cl E a ta ma) (hl : XO X cl E lo tl nl) (hu : XO X cl E hi th nh) : XE X cl E (.Subscript a (.Slice lo hi none p2) pos) (tSl (rSlD X.K) ta tl th) (mSl dSl ma nl nh) :=
  ⟨pe_slice sl_D ha.p hl.p hu.p, sim_sl ha.s hl.s hu.s sim_slice⟩
def mRev (m : M D) : M D := Mi.bnd m fun d => Mi.opt (dRev d)
theorem x_rev {k : Nat} {p1 p2 p3 : Pos} (ha : XE X cl E a ta ma) : XE X cl E (.Subscript a (.Slice none none (some (.UnaryOp .USub (.Constant (.int 1) k p1) p2)) p3) pos) (tRevL X.K ta) (mRev ma) := by
  refine ⟨pe_revL ha.p, ?_⟩
  intro zA F B H es σ Q r h
  refine ha.s _ F B H es σ _ r (Po.imp (Po.bnd h) fun d es1 B1 H1 _ _ h1 v r1 a => ?_)
  obtain ⟨x, hx, hk⟩ := Po.opt h1
  cases a with
  | lst g1 g2 =>
    cases hx
    exact ⟨_, _, rfl, .inl (.inl (r1.bh _ _ g1)), fun p n => FinE.lst (fun v B' H' s f r' a' => hk B' H' s f v r' a') r1 n g2.rev⟩
  | _ => cases hx
structure Fact (P : Program) (w : World) (K : PySem.W.Frag) (mg : Str → Option Value) (base : Heap) (x : Str) (k : Nat) (ps : List Str) (sp : Sp) : Prop where
  ex : ∃ (f : Addr) (fd : FuncData), FnOk P w K mg base (L2.CX P w) k f fd ps sp ∧ mg x = some (.ref f) ∧ PySem.W.keepIn K (.ref f) = true ∧ Binds K fd ps []
theorem x_call {x : Str} {p : Pos} {k n : Nat} {ps : List Str} {g : List D → R D} (T : Fact X.prog X.w X.K X.mg X.base x k ps (spM X.K cl g n)) (hr : Room k X.A) (hx : Passes (L2.CX X.prog X.w) X E) (ha : XA X cl E (e :: es) t ml) (hg : Gl X x := by rfl) (hdb : (x == ("__debug__" : Str)) = false := by decide)
    (he : starEach (e :: es) X.env = (false, eval e X.env) :: starEach es X.env := by rfl) (hpl : (backTo pos (starEach es X.env)).any (·.1) = false := by rfl) :
    XE X cl E (.Call (.Name x p) (e :: es) [] pos) (tCall (spM X.K cl g n) [] E t) (mCall n g ml) := by
  obtain ⟨f, fd, G, hm, hk, hb⟩ := T.ex
  exact ⟨pe_call G hr hg hm hk hb .nil hx ha.p hdb he hpl, sim_call ha.s⟩
theorem x_callO {x y : Str} {p py : Pos} {k n : Nat} {ps : List Str} {g : List D → List D → R (D × List D)} (i : Nat) (T : Fact X.prog X.w X.K X.mg X.base x k ps (spO X.K cl g n)) (hr : Room k X.A) (hx : Passes (L2.CX X.prog X.w) X E) (ha : XA X cl E es t ml) (hg : Gl X x := by rfl)
    (hN : X.N[i]? = some y := by rfl) (hv : Vis X.env.scope y := by first | exact Or.inl rfl | exact Or.inr (Or.inl rfl) | exact Or.inr (Or.inr rfl)) (hd : (y == ("__debug__" : Str)) = false := by decide) (hcd : (y == ("__classdict__" : Str)) = false := by decide) (hdb : (x == ("__debug__" : Str)) = false := by decide)
    (hs : starEach (.Name y py :: es) X.env = (false, eval (.Name y py) X.env) :: starEach es X.env := by rfl) (hpl : (backTo pos (starEach es X.env)).any (·.1) = false := by rfl) :
    XE X cl E (.Call (.Name x p) (.Name y py :: es) [] pos) (tCall (spO X.K cl g n) [] E (tCons (tVar i) t)) (mCallO i n g ml) := by
  obtain ⟨f, fd, G, hm, hk, hb⟩ := T.ex
  exact ⟨pe_call G hr hg hm hk hb .nil hx (pa_cons (pe_var hN hv hd hcd) ha.p hs) hdb hs hpl, sim_callO ha.s⟩
theorem x_cb {x : Str} {p : Pos} {id : String} {r : List V → Hp → VK → Prop} {f : List D → Option D} (hc : CallR X (.builtin id) r) (hs : SimC X.K cl r f) (hm : X.mg x = none) (hv : bootBuiltins x = some (.builtin id)) (ha : XA X cl E (e :: es) t ml) (hg : Gl X x := by rfl) (hn : x ≠ "__name__" := by decide) (hdb : (x == ("__debug__" : Str)) = false := by decide)
    (he : starEach (e :: es) X.env = (false, eval e X.env) :: starEach es X.env := by rfl) (hpl : (backTo pos (starEach es X.env)).any (·.1) = false := by rfl) : XE X cl E (.Call (.Name x p) (e :: es) [] pos) (tCB r t) (mCB f ml) :=
  ⟨pe_callB hc hg hm hv ha.p hn hdb he hpl, sim_cb ha.s hs⟩
theorem x_ct {x : Str} {p : Pos} {T : String} {r : List V → Hp → VK → Prop} {f : List D → Option D} (hc : CallR X (.type T) r) (hs : SimC X.K cl r f) (hm : X.mg x = none) (hv : bootBuiltins x = some (.type T)) (ha : XA X cl E (e :: es) t ml) (hg : Gl X x := by rfl) (hn : x ≠ "__name__" := by decide) (hdb : (x == ("__debug__" : Str)) = false := by decide)
    (he : starEach (e :: es) X.env = (false, eval e X.env) :: starEach es X.env := by rfl) (hpl : (backTo pos (starEach es X.env)).any (·.1) = false := by rfl) : XE X cl E (.Call (.Name x p) (e :: es) [] pos) (tCB r t) (mCB f ml) :=
  ⟨pe_callTy hc hg hm hv ha.p hn hdb he hpl, sim_cb ha.s hs⟩
theorem x_isa {x : Str} {p p2 : Pos} (T : Ty) (ha : XE X cl E e te me) (mi : X.mg "isinstance" = none) (mt : X.mg x = none) (hv : bootBuiltins x = some (.type T.nm)) (hg : Gl X "isinstance" := by rfl) (hgx : Gl X x := by rfl) (hn : x ≠ "__name__" := by decide) (hdb : (x == ("__debug__" : Str)) = false := by decide)
    (h1 : starEach [e, .Name x p2] X.env = (false, eval e X.env) :: starEach [.Name x p2] X.env := by rfl) (h2 : starEach [.Name x p2] X.env = (false, eval (.Name x p2) X.env) :: starEach [] X.env := by rfl) (hpl : (backTo pos (starEach [.Name x p2] X.env)).any (·.1) = false := by rfl) :
    XE X cl E (.Call (.Name "isinstance" p) [e, .Name x p2] [] pos) (tCB (rIsi X.K) (tCons te (tCons (tC (.ty T.nm)) tNil))) (mIsa T me) :=
  ⟨pe_callB call_isi hg mi boot_isinstance (pa_cons ha.p (pa_cons (pe_bltn hgx mt hv rfl hn hdb) pa_nil h2) h1) (by decide) (by decide) h1 hpl, sim_isa ha.s⟩
theorem x_isa2 {x y : Str} {p p2 p3 p4 : Pos} {k : Nat} (T U : Ty) (ha : XE X cl E e te me) (mi : X.mg "isinstance" = none) (mt : X.mg x = none) (hv : bootBuiltins x = some (.type T.nm)) (mu : X.mg y = none) (hw : bootBuiltins y = some (.type U.nm))
    (hg : Gl X "isinstance" := by rfl) (hgx : Gl X x := by rfl) (hgy : Gl X y := by rfl) (hn : x ≠ "__name__" := by decide) (hdb : (x == ("__debug__" : Str)) = false := by decide) (hn' : y ≠ "__name__" := by decide) (hdb' : (y == ("__debug__" : Str)) = false := by decide)
    (h1 : starEach [e, .Tuple [.Name x p2, .Name y p3] k p4] X.env = (false, eval e X.env) :: starEach [.Tuple [.Name x p2, .Name y p3] k p4] X.env := by rfl)
    (h2 : starEach [.Tuple [.Name x p2, .Name y p3] k p4] X.env = (false, eval (.Tuple [.Name x p2, .Name y p3] k p4) X.env) :: starEach [] X.env := by rfl) (hpl : (backTo pos (starEach [.Tuple [.Name x p2, .Name y p3] k p4] X.env)).any (·.1) = false := by rfl)
    (h3 : starEach [.Name x p2, .Name y p3] X.env = (false, eval (.Name x p2) X.env) :: starEach [.Name y p3] X.env := by rfl) (h4 : starEach [.Name y p3] X.env = (false, eval (.Name y p3) X.env) :: starEach [] X.env := by rfl) :
    XE X cl E (.Call (.Name "isinstance" p) [e, .Tuple [.Name x p2, .Name y p3] k p4] [] pos) (tCB (rIsiT X.K) (tCons te (tCons (tTup (tCons (tC (.ty T.nm)) (tCons (tC (.ty U.nm)) tNil))) tNil))) (mIsa2 T U me) :=
  ⟨pe_callB call_isiT hg mi boot_isinstance (pa_cons ha.p (pa_cons (pe_tup (pa_cons (pe_bltn hgx mt hv rfl hn hdb) (pa_cons (pe_bltn hgy mu hw rfl hn' hdb') pa_nil h4) h3)) pa_nil h2) h1) (by decide) (by decide) h1 hpl, sim_isa2 ha.s⟩
theorem x_split {apos : Pos} (ho : XE X cl E o to mo) (he : XE X cl E e te me) (hs : starEach [e] X.env = [(false, eval e X.env)] := by rfl) (hbase : attributeBase o "split" X.env (eval o X.env) = eval o X.env := by rfl) (hline : (apos.endLine == pos.line) = true := by rfl) :
    XE X cl E (.Call (.Attribute o "split" apos) [e] [] pos) (tM1 (fun x xs H Q => ∃ a b, x = .str a ∧ xs = [.str b] ∧ (b.length == 0) = false ∧ a.length + 2 ≤ sizeLine ∧ rNewStrs (Txt.split a b) H Q) to te) (mM1 dSplit mo me) := ⟨pe_split ho.p he.p hs hbase hline, sim_m1 ho.s he.s sim_split⟩
theorem x_part {apos : Pos} (ho : XE X cl E o to mo) (he : XE X cl E e te me) (hs : starEach [e] X.env = [(false, eval e X.env)] := by rfl) (hbase : attributeBase o "partition" X.env (eval o X.env) = eval o X.env := by rfl) (hline : (apos.endLine == pos.line) = true := by rfl) :
    XE X cl E (.Call (.Attribute o "partition" apos) [e] [] pos) (tM1 (fun x xs H Q => ∃ a b, x = .str a ∧ xs = [.str b] ∧ (b.length == 0) = false ∧ a.length ≤ sizeLine ∧
      ∀ p, H p = none → Q (.ref p) (upd H p (.tup [.str (Txt.partition a b).1, .str (Txt.partition a b).2.1, .str (Txt.partition a b).2.2]))) to te) (mM1 dPart mo me) := ⟨pe_partition ho.p he.p hs hbase hline, sim_m1 ho.s he.s sim_part1⟩
theorem x_join {apos : Pos} (ho : XE X cl E o to mo) (he : XE X cl E e te me) (hs : starEach [e] X.env = [(false, eval e X.env)] := by rfl) (hbase : attributeBase o "join" X.env (eval o X.env) = eval o X.env := by rfl) (hline : (apos.endLine == pos.line) = true := by rfl) :
    XE X cl E (.Call (.Attribute o "join" apos) [e] [] pos) (tM1 (fun x xs H Q => ∃ a p, ∃ ys : List Str, x = .str a ∧ xs = [.ref p] ∧ (SqL X.K H p (ys.map V.str) ∨ SqT X.K H p (ys.map V.str)) ∧
      (ys.map (·.length)).sum + ys.length * a.length ≤ 16777216 ∧ Q (.str (Txt.join a ys)) H) to te) (mM1 dJoin mo me) := ⟨pe_join ho.p he.p hs hbase hline, sim_m1 ho.s he.s sim_join⟩
def rRpart : V → List V → Hp → VK → Prop := fun x xs H Q => ∃ a b, x = .str a ∧ xs = [.str b] ∧ (b.length == 0) = false ∧ a.length ≤ sizeLine ∧
      ∀ p, H p = none → Q (.ref p) (upd H p (.tup [.str (Txt.rpartition a b).1, .str (Txt.rpartition a b).2.1, .str (Txt.rpartition a b).2.2]))
theorem mt_rpart : MtR X "str.rpartition" rRpart := by
  intro pins s σ H x xs v us Q I rx rs h
  obtain ⟨a, b, rfl, rfl, hb, hz, h⟩ := h
  obtain ⟨tk, rfl⟩ := rx
  cases rs with
  | cons r1 rs =>
    cases rs
    obtain ⟨u, rfl⟩ := r1
    refine call_meets F.slot_str_rpartition (typeIs_str _ _ _) F.entry_str_rpartition (F.args_str_rpartition_2 _ _) (meets_str_rpartition a b tk u hb hz) ?_
    unfold Txt.rpartition at h
    revert h
    cases Builtin.Str.lastOccurrence a b 0 a.length with
    | none => intro h; exact laid_parts I h
    | some i => intro h; exact laid_parts I h
theorem sim_rpart {K : PySem.W.Frag} : SimM1 K cl rRpart dRpart := by
  intro zA F B H es σ s y dy d Q r a hd q
  cases a with
  | str b =>
    obtain ⟨hz, rfl⟩ := okB_ok hd
    have hz := of_decide_eq_true hz
    refine ⟨s, b, rfl, rfl, hz.1, hz.2, fun p n => ?_⟩
    exact q.tup r n (.cons (.str _) (.cons (.str _) (.cons (.str _) .nil)))
  | _ => cases hd
theorem x_rpart {apos : Pos} (ho : XE X cl E o to mo) (he : XE X cl E e te me) (hs : starEach [e] X.env = [(false, eval e X.env)] := by rfl) (hbase : attributeBase o "rpartition" X.env (eval o X.env) = eval o X.env := by rfl) (hline : (apos.endLine == pos.line) = true := by rfl) :
    XE X cl E (.Call (.Attribute o "rpartition" apos) [e] [] pos) (tM1 rRpart to te) (mM1 dRpart mo me) := ⟨pe_m1 F.slot_str_rpartition F.type_str_rpartition mt_rpart ho.p he.p hs hbase hline, sim_m1 ho.s he.s sim_rpart⟩
theorem x_app (i : Nat) {x : Str} {apos p : Pos} (he : XE X cl E e te me) (hN : X.N[i]? = some x := by rfl) (hv : Vis X.env.scope x := by first | exact Or.inl rfl | exact Or.inr (Or.inl rfl) | exact Or.inr (Or.inr rfl)) (hd : (x == ("__debug__" : Str)) = false := by decide) (hcd : (x == ("__classdict__" : Str)) = false := by decide)
    (hs : starEach [e] X.env = (false, eval e X.env) :: starEach [] X.env := by rfl)
    (hbase : attributeBase (.Name x p) "append" X.env (eval (.Name x p) X.env) = eval (.Name x p) X.env := by rfl)
    (hfew : ((backTo pos (starEach (e :: []) X.env)).all (fun x => !x.1) && (backToKw pos (keywordEach [] X.env)).all (fun x => x.1.isSome)
      && decide ((e :: []).length + ([] : List Keyword).length + (if ([] : List Keyword).isEmpty then 0 else 1) < 30)) = true := by rfl)
    (hline : (apos.endLine == pos.line) = true := by rfl) (hplain : (backTo pos (starEach [] X.env)).any (·.1) = false := by rfl) :
    XE X cl E (.Call (.Attribute (.Name x p) "append" apos) [e] [] pos) (tBM X.K "list" rAppend (tVar i) (tCons te tNil)) (mApp i me) :=
  ⟨pe_bm PySem.F.plainAttrs_list PySem.F.slot_list_append PySem.F.type_list_append mt_append (pe_var hN hv hd hcd) (pa_cons he.p pa_nil hs) hbase hfew hline hs hplain, sim_app he.s⟩
inductive XJ (X : Cx) (cl : Nat → Addr) (E : XK) : List Expr → List TE → List (M D) → Prop
  | nil : XJ X cl E [] [] []
  | cons {e : Expr} {t : TE} {m : M D} {es : List Expr} {ts : List TE} {ms : List (M D)} : XE X cl E e t m → XJ X cl E es ts ms → XJ X cl E (e :: es) (t :: ts) (m :: ms)
theorem XJ.both {es : List Expr} {ts : List TE} {ms : List (M D)} (h : XJ X cl E es ts ms) : PJ X es ts ∧ SimJ X.K cl E ts ms := by
  induction h with
  | nil => exact ⟨.nil, .nil⟩
  | cons h _ ih => exact ⟨.cons h.p ih.1, .cons h.s ih.2⟩
theorem x_fs {v1 v2 : Expr} {ts : List TE} {ms : List (M D)} (h : XJ X cl E (v1 :: v2 :: rest) ts ms) : XE X cl E (.JoinedStr (v1 :: v2 :: rest) pos) (fun σ H Q => tJs ts Str.empty σ H fun out H1 => Q (.str out) H1) (mFs ms) := ⟨pe_joined h.both.1, sim_fs h.both.2⟩
theorem x_fs1 (h : XE X cl E e te me) : XE X cl E (.JoinedStr [e] pos) te me := ⟨pe_joined1 h.p, h.s⟩
theorem x_fmt (h : XE X cl E e te me) : XE X cl E (.FormattedValue e (-1) none pos) (tFmt te) (mFmt me) := ⟨pe_fmt h.p, sim_fmt h.s⟩
end
section
variable {X : Cx} {cl : Nat → Addr} {E : XK} {a b c e o tg it : Expr} {es : List Expr} {st : Stmt} {sts rest : List Stmt} {ta tb tc te : TE} {ma mb mc me : M D} {tA : TT} {mA : M Bool} {ts us : TS} {ms ns : M Out} {t : TA} {ml : M (List D)} {pos : Pos}
theorem xb_nil : XB X cl E [] tNext mNext := ⟨pss_nil, sim_next⟩
theorem xb_one (h : XS X cl E st ts ms) : XB X cl E [st] ts ms := ⟨pss_one h.p, h.s⟩
theorem xb_cons (h : XS X cl E st ts ms) (hr : XB X cl E rest us ns) : XB X cl E (st :: rest) (tSeq ts us) (mSeq ms ns) := ⟨pss_cons h.p hr.p, sim_seq h.s hr.s⟩
theorem xg_name (i : Nat) {x : Str} (hN : X.N.Nodup) (hi : X.N[i]? = some x := by rfl) (hx : Loc X.env.scope x := by first | exact Or.inl rfl | exact Or.inr rfl) (hf : X.fn x = true ∨ X.env.scope.names.lookup x = some .local := by first | exact .inl rfl | exact .inr rfl | assumption) : XG X cl (.Name x pos) [i] (gName i) (bName i) :=
  ⟨pg_name hN hi hx hf, sim_gname, fun _ _ _ _ h => by cases h⟩
theorem xgs_nil : XGs X cl [] [] gNil := ⟨pgs_nil, sim_gnil⟩
theorem xgs_cons (i : Nat) {x : Str} {is : List Nat} {g : TGs} {p : Pos} (hN : X.N.Nodup) (h2 : XGs X cl es is g) (hi : X.N[i]? = some x := by rfl) (hx : Loc X.env.scope x := by first | exact Or.inl rfl | exact Or.inr rfl) (hf : X.fn x = true ∨ X.env.scope.names.lookup x = some .local := by first | exact .inl rfl | exact .inr rfl | assumption)
    (hs : (assignEach (.Name x p :: es) X.env).map (·.2) = assign (.Name x p) X.env :: (assignEach es X.env).map (·.2) := by rfl) : XGs X cl (.Name x p :: es) (i :: is) (gCons (gName i) g) := ⟨pgs_cons (pg_name hN hi hx hf) h2.p hs, sim_gcons h2.s⟩
theorem xg_tup {k n : Nat} {is : List Nat} {g : TGs} (hc : X.calm = true) (h : XGs X cl es is g) (hl : is.length = n) (hn : (assignEach es X.env).length = n := by rfl) (hst : (assignEach es X.env).findIdx? (·.1) = none := by rfl) : XG X cl (.Tuple es k pos) is (gTup X.K n g) (bTup is) :=
  ⟨pg_tup hc h.p hn hst, sim_gtup hl h.s, fun _ _ c d => bTup_ne c d⟩
theorem xs_set (i : Nat) {x : Str} {p : Pos} (hN : X.N.Nodup) (he : XE X cl E e te me) (hi : X.N[i]? = some x := by rfl) (hx : Loc X.env.scope x := by first | exact Or.inl rfl | exact Or.inr rfl) (hs : swapsWith e (some (.Name x p)) pos.line X.env = pure false := by rfl)
    (hf : X.fn x = true ∨ X.env.scope.names.lookup x = some .local := by first | exact .inl rfl | exact .inr rfl | assumption) : XS X cl E (.Assign [.Name x p] e pos) (tAsg te (gName i)) (mAsg (bName i) me) :=
  ⟨ps_set hN hi hx he.p hs hf, sim_asg (fun _ _ _ _ h => by cases h) he.s sim_gname⟩
theorem xs_setO (i : Nat) {x : Str} {p p2 : Pos} (hN : X.N.Nodup) (h : XA X cl E es t ml) (i0 : i ≠ 0 := by decide) (hi : X.N[i]? = some x := by rfl) (hx : Loc X.env.scope x := by first | exact Or.inl rfl | exact Or.inr rfl) (hs : swapsWith (.List es p2) (some (.Name x p)) pos.line X.env = pure false := by rfl)
    (hf : X.fn x = true ∨ X.env.scope.names.lookup x = some .local := by first | exact .inl rfl | exact .inr rfl | assumption) : XS X cl E (.Assign [.Name x p] (.List es p2) pos) (tAsg (tLst t) (gName i)) (mAsgO i ml) :=
  ⟨ps_set hN hi hx (pe_lst h.p) hs hf, sim_asgO i0 h.s⟩
theorem xs_asg {is : List Nat} {g : TG} {bd : D → M Unit} (he : XE X cl E e te me) (hg : XG X cl tg is g bd) (hs : swapsWithSole [tg] e pos.line X.env = pure false := by rfl) (hw : swappedStores [tg] e X.env = pure none := by rfl)
    (h1 : (assignEach [tg] X.env).map (·.2) = [assign tg X.env] := by rfl) : XS X cl E (.Assign [tg] e pos) (tAsg te g) (mAsg bd me) := ⟨ps_asg he.p hg.p hs hw h1, sim_asg hg.n he.s hg.s⟩
theorem xs_setIx (i : Nat) {x : Str} {p p2 : Pos} (hk : XE X cl E b tb mb) (he : XE X cl E e te me) (hN : X.N[i]? = some x := by rfl) (hv : Vis X.env.scope x := by first | exact Or.inl rfl | exact Or.inr (Or.inl rfl) | exact Or.inr (Or.inr rfl)) (hd : (x == ("__debug__" : Str)) = false := by decide) (hcd : (x == ("__classdict__" : Str)) = false := by decide)
    (ha : ∀ v, assign (.Subscript (.Name x p) b p2) X.env v = (do
      let ov ← holding [v] (eval (.Name x p) X.env)
      let iv ← holding [v, ov] (eval b X.env)
      standAt p2
      holding [v, ov, iv] (setItem ov iv v)
      release [v, ov, iv] []) := by intro _; rfl)
    (hs : swapsWithSole [.Subscript (.Name x p) b p2] e pos.line X.env = pure false := by rfl) (hw : swappedStores [.Subscript (.Name x p) b p2] e X.env = pure none := by rfl)
    (h1 : (assignEach [.Subscript (.Name x p) b p2] X.env).map (·.2) = [assign (.Subscript (.Name x p) b p2) X.env] := by rfl) : XS X cl E (.Assign [.Subscript (.Name x p) b p2] e pos) (tAsg te (gSub (tVar i) tb rSetL)) (mSetO i mb me) :=
  ⟨ps_asg he.p (pg_sub (pe_var hN hv hd hcd) hk.p set_list ha) hs hw h1, sim_setO he.s hk.s⟩
theorem xs_par (i j : Nat) {x y : Str} {px py pt pt2 : Pos} {kt k2 : Nat} (hc : X.calm = true) (hN : X.N.Nodup) (ha : XA X cl E [a, b] t ml) (hij : i ≠ j := by decide) (hi : X.N[i]? = some x := by rfl) (hj : X.N[j]? = some y := by rfl)
    (hx : X.env.scope.names.lookup x = some .local := by rfl) (hy : X.env.scope.names.lookup y = some .local := by rfl)
    (hw : swappedStores [.Tuple [.Name x px, .Name y py] kt pt] (.Tuple [a, b] k2 pt2) X.env = pure (some [x, y]) := by rfl)
    (hs : swapsWithSole [.Tuple [.Name x px, .Name y py] kt pt] (.Tuple [a, b] k2 pt2) pos.line X.env = pure false := by rfl) :
    XS X cl E (.Assign [.Tuple [.Name x px, .Name y py] kt pt] (.Tuple [a, b] k2 pt2) pos) (tPar i j t) (mPar [i, j] ml) := ⟨ps_par hc hN hi hj hij hx hy ha.p hw hs, sim_par ha.s⟩
theorem xs_parO (i j : Nat) {x y : Str} {px py pt pt2 pl : Pos} {kt k2 : Nat} (hc : X.calm = true) (hN : X.N.Nodup) (ha : XE X cl E a ta ma) (hij : i ≠ j := by decide) (j0 : j ≠ 0 := by decide) (hi : X.N[i]? = some x := by rfl) (hj : X.N[j]? = some y := by rfl)
    (hx : X.env.scope.names.lookup x = some .local := by rfl) (hy : X.env.scope.names.lookup y = some .local := by rfl)
    (hw : swappedStores [.Tuple [.Name x px, .Name y py] kt pt] (.Tuple [a, .List [] pl] k2 pt2) X.env = pure (some [x, y]) := by rfl)
    (hs : swapsWithSole [.Tuple [.Name x px, .Name y py] kt pt] (.Tuple [a, .List [] pl] k2 pt2) pos.line X.env = pure false := by rfl)
    (h1 : starEach [a, .List [] pl] X.env = (false, eval a X.env) :: starEach [.List [] pl] X.env := by rfl) (h2 : starEach [.List [] pl] X.env = (false, eval (.List [] pl) X.env) :: starEach [] X.env := by rfl) :
    XS X cl E (.Assign [.Tuple [.Name x px, .Name y py] kt pt] (.Tuple [a, .List [] pl] k2 pt2) pos) (tPar i j (tCons ta (tCons (tLst tNil) tNil))) (mParO i j ma) := ⟨ps_par hc hN hi hj hij hx hy (pa_cons ha.p (pa_cons (pe_lst pa_nil) pa_nil h2) h1) hw hs, sim_parO j0 ha.s⟩
theorem xs_par3 (i j l : Nat) {x y z : Str} {px py pz pt pt2 : Pos} {kt k2 : Nat} (hc : X.calm = true) (hN : X.N.Nodup) (ha : XA X cl E [a, b, c] t ml) (hij : i ≠ j := by decide) (hil : i ≠ l := by decide) (hjl : j ≠ l := by decide) (hi : X.N[i]? = some x := by rfl) (hj : X.N[j]? = some y := by rfl) (hl : X.N[l]? = some z := by rfl)
    (hx : X.env.scope.names.lookup x = some .local := by rfl) (hy : X.env.scope.names.lookup y = some .local := by rfl) (hz : X.env.scope.names.lookup z = some .local := by rfl)
    (hw : swappedStores [.Tuple [.Name x px, .Name y py, .Name z pz] kt pt] (.Tuple [a, b, c] k2 pt2) X.env = pure (some [x, y, z]) := by rfl)
    (hs : swapsWithSole [.Tuple [.Name x px, .Name y py, .Name z pz] kt pt] (.Tuple [a, b, c] k2 pt2) pos.line X.env = pure false := by rfl) :
    XS X cl E (.Assign [.Tuple [.Name x px, .Name y py, .Name z pz] kt pt] (.Tuple [a, b, c] k2 pt2) pos) (tPar3 i j l t) (mPar [i, j, l] ml) := ⟨ps_par3 hc hN hi hj hl hij hil hjl hx hy hz ha.p hw hs, sim_par3 ha.s⟩
theorem xs_if {us : TS} {ns : M Out} {s1 s2 : List Stmt} (hc : XT X cl E c tA mA) (ha : XB X cl E s1 ts ms) (hb : XB X cl E s2 us ns) : XS X cl E (.If c s1 s2 pos) (tIfS tA ts us) (mIf mA ms ns) := ⟨ps_if hc.p ha.p hb.p, sim_if hc.s ha.s hb.s⟩
theorem xs_ret (h : XE X cl E e te me) : XS X cl E (.Return (some e) pos) (tRet te) (mRet me) := ⟨ps_ret h.p, sim_ret h.s⟩
theorem xs_retN : XS X cl E (.Return none pos) tRetN mRetN := ⟨ps_retN, sim_retN⟩
theorem xs_expr (h : XE X cl E e te me) (hs : swapsWith e none pos.line X.env = pure false := by rfl) : XS X cl E (.Expr e pos) (tDrop te) (mDrop me) := ⟨ps_expr h.p hs, sim_drop h.s⟩
theorem xs_pass : XS X cl E (.Pass pos) tNext mNext := ⟨ps_pass, sim_next⟩
theorem xs_brk : XS X cl E (.Break pos) tBreak mBrk := ⟨ps_break, sim_brk⟩
theorem xs_cnt : XS X cl E (.Continue pos) tCont mCnt := ⟨ps_continue, sim_cnt⟩
theorem xs_raise {x : Str} {p pos2 : Pos} {k : Nat} {C Dd fI cc cda : Addr} (n : Nat) (hcal : X.calm = true) (T : RoomX.BaseTxt X.prog X.K X.mg Dd fI cc cda) (TC : RoomX.ClsTxt X.K C Dd fI) (gC : X.mg x = some (.ref C)) (hcl : cl n = C) (hr : Room k X.A) (tk : Takes X (fun cls d _ H => E cls d H)) (ha : XE X cl E a ta ma) (hg : Gl X x := by rfl)
    (hdb : (x == ("__debug__" : Str)) = false := by decide) (he : starEach (a :: []) X.env = (false, eval a X.env) :: starEach [] X.env := by rfl) (hpl : (backTo pos (starEach [] X.env)).any (·.1) = false := by rfl) :
    XS X cl E (.Raise (some (.Call (.Name x p) [a] [] pos)) none pos2) (tRaiseRoom C (fun cls d _ H => E cls d H) (tCons ta tNil)) (mRaise n ma) := ⟨ps_raiseRoom hcal T TC gC hr tk (pa_cons ha.p pa_nil he) hg hdb he hpl, sim_raise hcl ha.s⟩
theorem xi_L (h : XE X cl E e te me) : XI X cl E tg e (iList X.K te) (mIL me) := ⟨pi_list h.p, sim_iL h.s⟩
theorem xi_T (h : XE X cl E e te me) : XI X cl E tg e (iTup X.K te) (mIT me) := ⟨pi_tup h.p, sim_iT h.s⟩
theorem xi_S (h : XE X cl E e te me) : XI X cl E tg e (iStr te) (mIS me) := ⟨pi_str h.p, sim_iS h.s⟩
theorem xi_rg1 {p : Pos} (hm : X.mg "range" = none) (h : XA X cl E [a] t ml) (hg : Gl X "range" := by rfl) (hs : starEach [a] X.env = [(false, eval a X.env)] := by rfl) : XI X cl E tg (.Call (.Name "range" p) [a] [] pos) (iRng1 t) (mRg1 ml) := ⟨pi_range1 hg hm h.p hs, sim_rg1 h.s⟩
theorem xi_rg2 {p : Pos} (hm : X.mg "range" = none) (h : XA X cl E [a, b] t ml) (hg : Gl X "range" := by rfl) (hs : starEach [a, b] X.env = [(false, eval a X.env), (false, eval b X.env)] := by rfl) (hs2 : starEach [b] X.env = [(false, eval b X.env)] := by rfl) : XI X cl E tg (.Call (.Name "range" p) [a, b] [] pos) (iRng2 t) (mRg2 ml) := ⟨pi_range2 hg hm h.p hs hs2, sim_rg2 h.s⟩
theorem xi_en {p tp : Pos} {k : Nat} (hm : X.mg "enumerate" = none) (h : XA X cl E [a] t ml) (hg : Gl X "enumerate" := by rfl) (hs : starEach [a] X.env = [(false, eval a X.env)] := by rfl) : XI X cl E (.Tuple es k tp) (.Call (.Name "enumerate" p) [a] [] pos) (iEnum X.K t) (mEn ml) := ⟨pi_enum hg hm h.p hs, sim_en h.s⟩
theorem xs_for {wi : TI} {mi : M (List D)} {is : List Nat} {g : TG} {bd : D → M Unit} (hp : PassesOwn (model X.prog X.w) X.A X.env X.xe) (hc : X.calm = true) (hi : XI X cl E tg it wi mi) (hg : XG X cl tg is g bd) (hb : XB X cl E sts ts ms)
    (hs : ∀ x, foldedSetIterable it X.env x = pure x := by intro _; rfl) : XS X cl E (.For tg it sts [] pos) (tFor wi g ts) (mFor mi bd ms) := ⟨ps_for hp hc hi.p hg.p hb.p hs, sim_for hg.n hi.s hg.s hb.s⟩
structure XTs (X : Cx) (cl : Nat → Addr) (E : XK) (e : List Expr) (t : TT) (m : M Bool) : Prop where
  p : PTs X e t
  s : SimT X.K cl E t m
theorem xts_nil : XTs X cl E [] tYes mYes := ⟨pts_nil, sim_yes⟩
theorem xts_one (h : XT X cl E c tA mA) : XTs X cl E [c] tA mA := ⟨pts_one h.p, h.s⟩
theorem x_lc {scope : Scope} {own : List (Str × Nat)} {ifs : List Expr} {wi : TI} {mi : M (List D)} {is : List Nat} {g : TG} {bd : D → M Unit} {tT : TT} {mT : M Bool} (hc : X.calm = true) (hN : X.N.Nodup) (hi : XI X cl E tg it wi mi) (ok : BlkOk X.N X.env.scope scope own)
    (hg : ∀ (s : Shared) (H : Hp) (C : Addr) (c : List (Str × Addr)) (fp : List Addr), XG (X.blk s H scope (compEnvC scope c C X.env) fp) cl tg is g bd) (hv : ∀ i ∈ is, i ∈ own.map (·.2)) (ht : ∀ (s : Shared) (H : Hp) (C : Addr) (c : List (Str × Addr)) (fp : List Addr), XTs (X.blk s H scope (compEnvC scope c C X.env) fp) cl E0 ifs tT mT)
    (he : ∀ (s : Shared) (H : Hp) (C : Addr) (c : List (Str × Addr)) (fp : List Addr), XE (X.blk s H scope (compEnvC scope c C X.env) fp) cl E0 e te me) (hs : ∀ x, foldedSetIterable it X.env x = pure x := by intro _; rfl) :
    XE X cl E (.ListComp e [⟨tg, it, ifs, 0⟩] scope pos) (tLc wi g tT te (own.map (·.2))) (mComp (own.map (·.2)) mi bd mT me) :=
  ⟨pe_lc hc hN hi.p ok (fun s H C c fp => (hg s H C c fp).p) (fun s H C c fp => (ht s H C c fp).p) (fun s H C c fp => (he s H C c fp).p) hs, sim_lc hi.s (hg X.s_0 X.H_0 0 [] []).s hv (ht X.s_0 X.H_0 0 [] []).s (he X.s_0 X.H_0 0 [] []).s⟩
theorem xs_setLc (i : Nat) {y : Str} {py : Pos} {scope : Scope} {own : List (Str × Nat)} {ifs : List Expr} {wi : TI} {mi : M (List D)} {is : List Nat} {g : TG} {bd : D → M Unit} {tT : TT} {mT : M Bool} {pos2 : Pos} (hc : X.calm = true) (hN : X.N.Nodup)
    (hsw : swapsWith (.ListComp e [⟨tg, it, ifs, 0⟩] scope pos) (some (.Name y py)) pos2.line X.env = pure true) (hi : XI X cl E tg it wi mi) (ok : BlkOk X.N X.env.scope scope own)
    (hg : ∀ (s : Shared) (H : Hp) (C : Addr) (c : List (Str × Addr)) (fp : List Addr), XG (X.blk s H scope (compEnvC scope c C X.env) fp) cl tg is g bd) (hv : ∀ i ∈ is, i ∈ own.map (·.2)) (ht : ∀ (s : Shared) (H : Hp) (C : Addr) (c : List (Str × Addr)) (fp : List Addr), XTs (X.blk s H scope (compEnvC scope c C X.env) fp) cl E0 ifs tT mT)
    (he : ∀ (s : Shared) (H : Hp) (C : Addr) (c : List (Str × Addr)) (fp : List Addr), XE (X.blk s H scope (compEnvC scope c C X.env) fp) cl E0 e te me) (hy : X.N[i]? = some y := by rfl) (hyl : X.env.scope.names.lookup y = some .local := by rfl) (hs : ∀ x, foldedSetIterable it X.env x = pure x := by intro _; rfl) :
    XS X cl E (.Assign [.Name y py] (.ListComp e [⟨tg, it, ifs, 0⟩] scope pos) pos2) (tAsg (tLc wi g tT te (own.map (·.2))) (gName i)) (mAsg (bName i) (mComp (own.map (·.2)) mi bd mT me)) :=
  ⟨ps_setLc hc hN hy hyl hsw hi.p ok (fun s H C c fp => (hg s H C c fp).p) (fun s H C c fp => (ht s H C c fp).p) (fun s H C c fp => (he s H C c fp).p) hs, sim_asg (fun _ _ _ _ h => by cases h) (sim_lc hi.s (hg X.s_0 X.H_0 0 [] []).s hv (ht X.s_0 X.H_0 0 [] []).s (he X.s_0 X.H_0 0 [] []).s) sim_gname⟩
end
section
variable {P : Program} {w : World} {K : PySem.W.Frag} {mg : Str → Option Value} {base : Heap} {cl : Nat → Addr}
theorem passX {x : Str} {N : List Str} {sc : Scope} {f : Addr} {cdv : Value} {A : Around} {outer : List Env} {s : Shared} {H : Hp} {E : XK} : Passes (L2.CX P w) (cxOf (L2.CX P w) P w K mg base N x sc f cdv A outer s H E) E := passes_call (takes_of rfl rfl rfl rfl) fun _ _ _ _ h => h
theorem takesX {x : Str} {N : List Str} {sc : Scope} {f : Addr} {cdv : Value} {A : Around} {outer : List Env} {s : Shared} {H : Hp} {E : XK} : Takes (cxOf (L2.CX P w) P w K mg base N x sc f cdv A outer s H E) (fun cls d _ H => E cls d H) := takes_of rfl rfl rfl rfl
theorem pownX {x : Str} {N : List Str} {sc : Scope} {f : Addr} {cdv : Value} {A : Around} {outer : List Env} {s : Shared} {H : Hp} {E : XK} : PassesOwn (model P w) (cxOf (L2.CX P w) P w K mg base N x sc f cdv A outer s H E).A (cxOf (L2.CX P w) P w K mg base N x sc f cdv A outer s H E).env (cxOf (L2.CX P w) P w K mg base N x sc f cdv A outer s H E).xe := passes_of rfl
theorem fact_mk {x : Str} {st : Stmt} {f : Addr} {fd : FuncData} {N ps : List Str} {k : Nat} {m : M Out} (Fn : Fun K x x st f fd) (gm : mg x = some (.ref f)) (bd : Binds K fd ps []) (S : FnScope N ps (defScope st))
    (hb : ∀ (cdv : Value) (A : Around) (outer : List Env) (s : Shared) (H : Hp) (E : XK), Room k (A.deeper (envOfC x (defScope st) s.heap.objs.size f cdv)) →
      ∃ t, XB (cxOf (L2.CX P w) P w K mg base N x (defScope st) f cdv A outer s H E) cl E (defBody st) t m) : Fact P w K mg base x (k + 1) ps (spM K cl (fnM N.length m) ps.length) :=
  ⟨f, fd, fn_ok Fn S fun cdv A outer s H E hr => by
    obtain ⟨t, h⟩ := hb cdv A outer s H E hr
    exact ⟨t, h.p, h.s⟩, gm, Fn.kp, bd⟩
theorem factO_mk {x : Str} {st : Stmt} {f : Addr} {fd : FuncData} {N : List Str} {p0 : Str} {ps : List Str} {k : Nat} {m : M Out} (Fn : Fun K x x st f fd) (gm : mg x = some (.ref f)) (bd : Binds K fd (p0 :: ps) []) (S : FnScope N (p0 :: ps) (defScope st))
    (hb : ∀ (cdv : Value) (A : Around) (outer : List Env) (s : Shared) (H : Hp) (E : XK), Room k (A.deeper (envOfC x (defScope st) s.heap.objs.size f cdv)) →
      ∃ t, XB (cxOf (L2.CX P w) P w K mg base N x (defScope st) f cdv A outer s H E) cl E (defBody st) t m) : Fact P w K mg base x (k + 1) (p0 :: ps) (spO K cl (fnO N.length m) ps.length) :=
  ⟨f, fd, fnO_ok Fn S fun cdv A outer s H E hr => by
    obtain ⟨t, h⟩ := hb cdv A outer s H E hr
    exact ⟨t, h.p, h.s⟩, gm, Fn.kp, bd⟩
end
end Mi
namespace Mi
open PySem PySem.Spec PyProof.Rows L2
theorem x_callK {X : Cx} {cl : Nat → Addr} {E : XK} {e : Expr} {es : List Expr} {t : TA} {ml : M (List D)} {pos : Pos} {K : PySem.W.Frag} {x : Str} {p : Pos} {k n : Nat} {ps : List Str} {g : List D → R D} (T : Fact X.prog X.w K X.mg X.base x k ps (spM K cl g n)) (hr : Room k X.A) (hx : Passes (L2.CX X.prog X.w) X E) (ha : XA X cl E (e :: es) t ml) (hK : X.K = K := by rfl) (hg : Gl X x := by rfl) (hdb : (x == ("__debug__" : Str)) = false := by decide)
    (he : starEach (e :: es) X.env = (false, eval e X.env) :: starEach es X.env := by rfl) (hpl : (backTo pos (starEach es X.env)).any (·.1) = false := by rfl) :
    XE X cl E (.Call (.Name x p) (e :: es) [] pos) (tCall (spM K cl g n) [] E t) (mCall n g ml) := by
  subst hK; exact x_call T hr hx ha hg hdb he hpl
theorem x_callOK {X : Cx} {cl : Nat → Addr} {E : XK} {es : List Expr} {t : TA} {ml : M (List D)} {pos : Pos} {K : PySem.W.Frag} {x y : Str} {p py : Pos} {k n : Nat} {ps : List Str} {g : List D → List D → R (D × List D)} (i : Nat) (T : Fact X.prog X.w K X.mg X.base x k ps (spO K cl g n)) (hr : Room k X.A) (hx : Passes (L2.CX X.prog X.w) X E) (ha : XA X cl E es t ml) (hK : X.K = K := by rfl) (hg : Gl X x := by rfl)
    (hN : X.N[i]? = some y := by rfl) (hv : Vis X.env.scope y := by first | exact Or.inl rfl | exact Or.inr (Or.inl rfl) | exact Or.inr (Or.inr rfl)) (hd : (y == ("__debug__" : Str)) = false := by decide) (hcd : (y == ("__classdict__" : Str)) = false := by decide) (hdb : (x == ("__debug__" : Str)) = false := by decide)
    (hs : starEach (.Name y py :: es) X.env = (false, eval (.Name y py) X.env) :: starEach es X.env := by rfl) (hpl : (backTo pos (starEach es X.env)).any (·.1) = false := by rfl) :
    XE X cl E (.Call (.Name x p) (.Name y py :: es) [] pos) (tCall (spO K cl g n) [] E (tCons (tVar i) t)) (mCallO i n g ml) := by
  subst hK; exact x_callO i T hr hx ha hg hN hv hd hcd hdb hs hpl
def bLst (is : List Nat) : D → M Unit
  | .lst l => bNames is l
  | _ => Mi.bad
theorem bLst_ne {is : List Nat} {x : D} {es : En} (c : Nat) (d : D) : bLst is x es ≠ .exc c d := by
  cases x <;> first | exact bNames_ne c d | (intro h; cases h)
theorem sim_glst {K : PySem.W.Frag} {cl : Nat → Addr} {is : List Nat} {n : Nat} {g : TGs} (hn : is.length = n) (hg : SimGs K cl is g (bNames is)) : SimG K cl is (gLst K n g) (bLst is) := by
  intro zA F B H es σ v d es' Q r a e h
  cases a with
  | @lst p vs ds h1 h2 => exact ⟨p, vs, rfl, .inl (.inl (r.bh _ _ h1)), by rw [h2.len, bNames_len e, hn], hg _ F B H es σ vs ds es' Q r h2 e h⟩
  | _ => cases e
theorem xg_lst {X : Cx} {cl : Nat → Addr} {es : List Expr} {pos : Pos} {k n : Nat} {is : List Nat} {g : TGs} (hc : X.calm = true) (h : XGs X cl es is g) (hl : is.length = n) (hn : (assignEach es X.env).length = n := by rfl) (hst : (assignEach es X.env).findIdx? (·.1) = none := by rfl) : XG X cl (.Tuple es k pos) is (gLst X.K n g) (bLst is) :=
  ⟨pg_lst hc h.p hn hst, sim_glst hl h.s, fun _ _ c d => bLst_ne c d⟩
section
variable {X : Cx} {cl : Nat → Addr} {E : XK} {a b : Expr} {ta tb : TE} {ma mb : M D} {pos : Pos}
theorem x_sliceK (K : PySem.W.Frag) {lo hi : Option Expr} {tl th : TO} {nl nh : M (Option Int)} {p2 : Pos} (ha : XE X cl E a ta ma) (hl : XO X cl E lo tl nl) (hu : XO X cl E hi th nh) (hK : X.K = K := by rfl) : XE X cl E (.Subscript a (.Slice lo hi none p2) pos) (tSl (rSlD K) ta tl th) (mSl dSl ma nl nh) := by
  subst hK; exact x_slice ha hl hu
theorem x_ixK (K : PySem.W.Frag) (ha : XE X cl E a ta ma) (hb : XE X cl E b tb mb) (hs : PlainIx b := by exact fun _ _ => rfl) (hK : X.K = K := by rfl) : XE X cl E (.Subscript a b pos) (tOp (rIx K) ta tb) (mBin dIx ma mb) := by
  subst hK; exact x_ix ha hb hs
end
end Mi
namespace Mi
open PySem PySem.Spec PyProof.Rows L2
theorem fn_okX {P : Program} {w : World} {K : PySem.W.Frag} {mg : Str → Option Value} {base : Heap} {cl : Nat → Addr} {x : Str} {st : Stmt} {f : Addr} {fd : FuncData} {N ps : List Str} {k : Nat} {m : M Out} (Fn : Fun K x x st f fd) (S : FnScope N ps (defScope st))
    (hb : ∀ (cdv : Value) (A : Around) (outer : List Env) (s : Shared) (H : Hp) (E : XK), Room k (A.deeper (envOfC x (defScope st) s.heap.objs.size f cdv)) →
      ∃ t, XB (cxOf (L2.CX P w) P w K mg base N x (defScope st) f cdv A outer s H E) cl E (defBody st) t m) : FnOk P w K mg base (L2.CX P w) (k + 1) f fd ps (spM K cl (fnM N.length m) ps.length) :=
  fn_ok Fn S fun cdv A outer s H E hr => by
    obtain ⟨t, h⟩ := hb cdv A outer s H E hr
    exact ⟨t, h.p, h.s⟩
end Mi
namespace Mi
open PySem PySem.Spec PyProof.Rows L2
def spLaw (n : Nat) (K : PySem.W.Frag) : Sp := fun vs H Q E => ∃ (a : Addr) (ns : List Int), vs = [.ref a] ∧ ns.length ≤ n ∧ SqL K H a (ns.map V.int) ∧ ∀ H', Q (.bl true) H'
theorem spLaw_of {n : Nat} {K : PySem.W.Frag} {cl : Nat → Addr} {g : List D → R D} (h : ∀ ns : List Int, ns.length ≤ n → g [.scr ns] = .ok (.bl true)) (vs : List V) (H : Hp) (Q : VK) (E : XK) (s : spLaw n K vs H Q E) : spM K cl g 1 vs H Q E := by
  obtain ⟨a, ns, rfl, hl, hs, q⟩ := s
  refine ⟨[.scr ns], H, rfl, Same.rfl' H, .one (.scr hs), ?_⟩
  rw [h ns hl]
  intro v B' H' _ _ _ _ av
  cases av
  exact q H'
end Mi
namespace Mi
open PySem PySem.Spec PyProof.Rows L2
def mPar3O (i j k : Nat) (m : M D) (c : D) : M Out := Mi.bnd m fun d es => .ok (.nx, ((es.set i (.dat d)).set j (.own [])).set k (.dat c))
theorem sim_par3O {K : PySem.W.Frag} {cl : Nat → Addr} {E : XK} {i j k : Nat} {te : TE} {m : M D} {v : V} {c : D} (j0 : j ≠ 0) (hc : ∀ B, At K cl B v c) (ha : SimE K cl E te m) : SimS K cl E (tPar3 i j k (tCons te (tCons (tLst tNil) (tCons (tC v) tNil)))) (mPar3O i j k m c) := by
  intro zA F B H es σ Dn r h
  refine ha _ F B H es σ _ r (Po.imp (Po.bnd h) fun d es1 B1 H1 e1 f1 h1 u r1 a => ?_)
  exact ⟨Nat.zero_le _, fun p n => ⟨u, .ref p, v, rfl, h1 B1 _ (Same.rfl' _) (Frs.refl _ _) _ (((r1.put a).putOwn j0 n .nil).put (hc B1))⟩⟩
theorem xs_par3O {X : Cx} {cl : Nat → Addr} {E : XK} {a c : Expr} {ta : TE} {ma : M D} {v : V} {dc : D} {pos : Pos} (i j l : Nat) {x y z : Str} {px py pz pt pt2 pl : Pos} {kt k2 : Nat} (hc : X.calm = true) (hN : X.N.Nodup) (ha : XE X cl E a ta ma) (hcc : PE X c (tC v)) (hat : ∀ B, At X.K cl B v dc) (j0 : j ≠ 0 := by decide) (hij : i ≠ j := by decide) (hil : i ≠ l := by decide) (hjl : j ≠ l := by decide) (hi : X.N[i]? = some x := by rfl) (hj : X.N[j]? = some y := by rfl) (hl : X.N[l]? = some z := by rfl)
    (hx : X.env.scope.names.lookup x = some .local := by rfl) (hy : X.env.scope.names.lookup y = some .local := by rfl) (hz : X.env.scope.names.lookup z = some .local := by rfl)
    (hw : swappedStores [.Tuple [.Name x px, .Name y py, .Name z pz] kt pt] (.Tuple [a, .List [] pl, c] k2 pt2) X.env = pure (some [x, y, z]) := by rfl)
    (hs : swapsWithSole [.Tuple [.Name x px, .Name y py, .Name z pz] kt pt] (.Tuple [a, .List [] pl, c] k2 pt2) pos.line X.env = pure false := by rfl)
    (h1 : starEach [a, .List [] pl, c] X.env = (false, eval a X.env) :: starEach [.List [] pl, c] X.env := by rfl) (h2 : starEach [.List [] pl, c] X.env = (false, eval (.List [] pl) X.env) :: starEach [c] X.env := by rfl) (h3 : starEach [c] X.env = (false, eval c X.env) :: starEach [] X.env := by rfl) :
    XS X cl E (.Assign [.Tuple [.Name x px, .Name y py, .Name z pz] kt pt] (.Tuple [a, .List [] pl, c] k2 pt2) pos) (tPar3 i j l (tCons ta (tCons (tLst tNil) (tCons (tC v) tNil)))) (mPar3O i j l ma dc) :=
  ⟨ps_par3 hc hN hi hj hl hij hil hjl hx hy hz (pa_cons ha.p (pa_cons (pe_lst pa_nil) (pa_cons hcc pa_nil h3) h2) h1) hw hs, sim_par3O j0 hat ha.s⟩
end Mi
namespace Mi
open PySem PySem.Spec PyProof.Rows L2
def SimF (K : PySem.W.Frag) (cl : Nat → Addr) (E : XK) (t : TS) (m : M (List D)) : Prop := ∀ (zA : Option Addr) (F B H : Hp) (es : En) (σ : L2.St) (Dn : Ends), Rel K cl zA F B H es σ →
  Po K cl E F B (m es) (fun l es' B' H' => ∀ (p : Addr) (vs : List V) (σ' : L2.St), Rel K cl zA F B' H' es' σ' → F p = none → B' p = none → H' p = some (.lst vs) → AtL K cl B' vs l → Dn.rt (.ref p) H') → t Dn σ H
def mRetF (a : M (List D)) : M (List D) := Mi.bnd a fun l => Mi.opt (if l.length ≤ sizeLine then some l else none)
def mSeqF (m : M Out) (n : M (List D)) : M (List D) := Mi.bnd m fun o => match o with
  | .nx => n
  | _ => Mi.bad
def endsF (r : R (List D × En)) : R (List D) := match r with
  | .ok (l, _) => .ok l
  | .exc c d => .exc c d
  | .bad => .bad
def fnF (n : Nat) (m : M (List D)) (ds : List D) : R (List D) := endsF (m (ds.map Sl.dat ++ List.replicate (n - ds.length) .un))
def spF (K : PySem.W.Frag) (cl : Nat → Addr) (g : List D → R (List D)) (n : Nat) : Sp := fun vs H Q E => ∃ (ds : List D) (B : Hp), ds.length = n ∧ Same B H ∧ AtL K cl B vs ds ∧ match g ds with
  | .ok l => ∀ (p : Addr) (ws : List V) (B' H' : Hp), Same B B' → Frs B H B' → Same H H' → Same B' H' → H p = none → B' p = none → H' p = some (.lst ws) → AtL K cl B' ws l → Q (.ref p) H'
  | .exc c d => Exk K cl E H B c d
  | .bad => False
def mAsgF (i n : Nat) (g : List D → R (List D)) (a : M (List D)) : M Out := Mi.bnd a fun ds => if ds.length = n then Mi.bnd (Mi.lft (g ds)) fun l es => .ok (.nx, es.set i (.own l)) else Mi.bad
section
variable {K : PySem.W.Frag} {cl : Nat → Addr} {E : XK}
theorem sim_retF {ta : TA} {m : M (List D)} (ha : SimA K cl E ta m) : SimF K cl E (tRet (tLst ta)) (mRetF m) := by
  intro zA F B H es σ Dn r h
  refine ha _ F B H es σ _ r (Po.imp (Po.bnd h) fun ds es1 B1 H1 e1 f1 h1 vs r1 a => ?_)
  obtain ⟨l, hl, hk⟩ := Po.opt h1
  split at hl
  · rename_i hz
    cases hl
    refine ⟨by rw [a.len]; exact hz, fun p n => ?_⟩
    refine hk B1 _ (Same.rfl' _) (Frs.refl _ _) p vs σ (r1.grow (Same.rfl' _) (same_new n) (r1.bh.trans (same_new n)) (Frs.refl _ _)) (r1.fh.free n) (r1.bh.free n) upd_same a
  · cases hl
theorem sim_seqF {t u : TS} {m : M Out} {n : M (List D)} (ht : SimS K cl E t m) (hu : SimF K cl E u n) : SimF K cl E (tSeq t u) (mSeqF m n) := by
  intro zA F B H es σ Dn r h
  refine ht _ F B H es σ { Dn with nx := u Dn } r (Po.imp (Po.bnd h) fun o es1 B1 H1 e1 f1 h1 => ?_)
  cases o with
  | nx => exact fun σ' r1 => hu _ F B1 H1 es1 σ' Dn r1 h1
  | rt d => exact h1.elim
  | bk => exact h1.elim
  | ct => exact h1.elim
theorem fnF_ok {P : Program} {w : World} {mg : Str → Option Value} {base : Heap} {x qual : Str} {st : Stmt} {f : Addr} {fd : FuncData} {N ps : List Str} {k : Nat} {m : M (List D)} (Fn : Fun K x qual st f fd) (S : FnScope N ps (defScope st))
    (hb : ∀ (cdv : Value) (A : Around) (outer : List Env) (s : Shared) (H : Hp) (E : XK), Room k (A.deeper (envOfC qual (defScope st) s.heap.objs.size f cdv)) →
      ∃ t, PSs (cxOf (L2.CX P w) P w K mg base N qual (defScope st) f cdv A outer s H E) (defBody st) t ∧ SimF K cl E t m) : FnOk P w K mg base (L2.CX P w) (k + 1) f fd ps (spF K cl (fnF N.length m) ps.length) := by
  have hpl : ps.length ≤ N.length := by have := congrArg List.length S.pre; rw [List.length_take] at this; omega
  refine Fn.okX S (fun vs H Q E h => ?_) (fun cdv A outer s H vs Q E hr h => ?_)
  · obtain ⟨ds, B, hl, _, a, _⟩ := h
    rw [a.len, hl]
  · obtain ⟨ds, B, hl, sB, a, h⟩ := h
    obtain ⟨t, ht, hs⟩ := hb cdv A outer s H E hr
    refine ⟨t, ht, hs _ H B H _ _ _ (rel_start sB a (by omega)) ?_⟩
    unfold fnF at h
    cases q : m (ds.map Sl.dat ++ List.replicate (N.length - ds.length) .un) with
    | ok p =>
      obtain ⟨l, es⟩ := p
      rw [q] at h
      exact fun B' H' s f p vs σ' r' n1 n2 hp al => h p vs B' H' s f r'.fh r'.bh n1 n2 hp al
    | exc c d => rw [q] at h; exact h
    | bad => rw [q] at h; exact h.elim
theorem sim_asgF {i n : Nat} {ta : TA} {m : M (List D)} {g : List D → R (List D)} (i0 : i ≠ 0) (ha : SimA K cl E ta m) : SimS K cl E (tAsg (tCall (spF K cl g n) [] E ta) (gName i)) (mAsgF i n g m) := by
  intro zA F B H es σ Dn r h
  refine ha _ F B H es σ _ r (Po.imp (Po.bnd h) fun ds es1 B1 H1 e1 f1 h1 vs r1 a => ?_)
  by_cases hn : ds.length = n
  · rw [if_pos hn] at h1
    show spF K cl g n (vs ++ []) H1 _ E
    rw [List.append_nil]
    refine ⟨ds, B1, hn, r1.bh, a, ?_⟩
    cases q : g ds with
    | ok l =>
      rw [q] at h1
      intro p ws B' H' s f sh sb n1 n2 hp al
      have hH : upd (hid H' p) p (.lst ws) = H' := by
        funext x
        by_cases hx : x = p
        · subst hx; rw [upd_same]; exact hp.symm
        · rw [upd_ne hx, hid_ne hx]
      have r2 : Rel K cl zA F B' (hid H' p) es1 σ := r1.grow s (fun x o e => by
          have nx : x ≠ p := ne_of_none e n1
          rw [hid_ne nx]; exact sh _ _ e) (fun x o e => by
          have nx : x ≠ p := ne_of_none e n2
          rw [hid_ne nx]; exact sb _ _ e) f
      have r3 := r2.putOwn i0 hid_at al
      rw [hH] at r3
      exact h1 B' H' s (r1.frs f) _ r3
    | exc c d =>
      rw [q] at h1
      exact Exk.call r1 h1
    | bad => rw [q] at h1; exact h1.elim
  · rw [if_neg hn] at h1
    exact h1.elim
end
structure XF (X : Cx) (cl : Nat → Addr) (E : XK) (st : List Stmt) (t : TS) (m : M (List D)) : Prop where
  p : PSs X st t
  s : SimF X.K cl E t m
section
variable {X : Cx} {cl : Nat → Addr} {E : XK}
theorem xf_ret {es : List Expr} {t : TA} {m : M (List D)} {pos p : Pos} (h : XA X cl E es t m) : XF X cl E [.Return (some (.List es p)) pos] (tRet (tLst t)) (mRetF m) := ⟨pss_one (ps_ret (pe_lst h.p)), sim_retF h.s⟩
theorem xf_cons {st : Stmt} {rest : List Stmt} {ts us : TS} {ms : M Out} {ns : M (List D)} (h : XS X cl E st ts ms) (hr : XF X cl E rest us ns) : XF X cl E (st :: rest) (tSeq ts us) (mSeqF ms ns) := ⟨pss_cons h.p hr.p, sim_seqF h.s hr.s⟩
theorem factF_mk {P : Program} {w : World} {K : PySem.W.Frag} {mg : Str → Option Value} {base : Heap} {x : Str} {st : Stmt} {f : Addr} {fd : FuncData} {N ps : List Str} {k : Nat} {m : M (List D)} (Fn : Fun K x x st f fd) (gm : mg x = some (.ref f)) (bd : Binds K fd ps []) (S : FnScope N ps (defScope st))
    (hb : ∀ (cdv : Value) (A : Around) (outer : List Env) (s : Shared) (H : Hp) (E : XK), Room k (A.deeper (envOfC x (defScope st) s.heap.objs.size f cdv)) →
      ∃ t, XF (cxOf (L2.CX P w) P w K mg base N x (defScope st) f cdv A outer s H E) cl E (defBody st) t m) : Fact P w K mg base x (k + 1) ps (spF K cl (fnF N.length m) ps.length) :=
  ⟨f, fd, fnF_ok Fn S fun cdv A outer s H E hr => by
    obtain ⟨t, h⟩ := hb cdv A outer s H E hr
    exact ⟨t, h.p, h.s⟩, gm, Fn.kp, bd⟩
theorem xs_asgF {e : Expr} {es : List Expr} {t : TA} {ml : M (List D)} {pos pos2 : Pos} {K : PySem.W.Frag} {x y : Str} {p py : Pos} {k n : Nat} {ps : List Str} {g : List D → R (List D)} (i : Nat) (hN0 : X.N.Nodup) (T : Fact X.prog X.w K X.mg X.base x k ps (spF K cl g n)) (hr : Room k X.A) (hx : Passes (L2.CX X.prog X.w) X E) (ha : XA X cl E (e :: es) t ml) (hK : X.K = K := by rfl) (i0 : i ≠ 0 := by decide) (hg : Gl X x := by rfl)
    (hi : X.N[i]? = some y := by rfl) (hy : Loc X.env.scope y := by first | exact Or.inl rfl | exact Or.inr rfl) (hdb : (x == ("__debug__" : Str)) = false := by decide)
    (he : starEach (e :: es) X.env = (false, eval e X.env) :: starEach es X.env := by rfl) (hpl : (backTo pos (starEach es X.env)).any (·.1) = false := by rfl)
    (hs : swapsWith (.Call (.Name x p) (e :: es) [] pos) (some (.Name y py)) pos2.line X.env = pure false := by rfl)
    (hf : X.fn y = true ∨ X.env.scope.names.lookup y = some .local := by first | exact .inl rfl | exact .inr rfl | assumption) :
    XS X cl E (.Assign [.Name y py] (.Call (.Name x p) (e :: es) [] pos) pos2) (tAsg (tCall (spF K cl g n) [] E t) (gName i)) (mAsgF i n g ml) := by
  subst hK
  obtain ⟨f, fd, G, hm, hk, hb⟩ := T.ex
  exact ⟨ps_set hN0 hi hy (pe_call G hr hg hm hk hb .nil hx ha.p hdb he hpl) hs hf, sim_asgF i0 ha.s⟩
end
end Mi
namespace PySem.W
open PySem
theorem kin_classX {prog : Program} {w : World} {A : Around} {E : Value → Shared → Prop} {s : Shared} {K : Frag} {x D : Addr} {ox od : Obj} {Q : Option Value → Shared → Prop}
    (hga : findIn K (.ref D) (Str.ofString "__getattribute__") = some (some (.builtin "BaseException.__getattribute__"))) (hgt : findIn K (.ref D) (Str.ofString "__getattr__") = some none)
    (hsub : subIn K (.ref D) (.type "BaseException") = some true) (hdct : hasDictIn K D = true) (ha : findIn K (.ref D) (Str.ofString "__class__") = some (some (.builtin "object.__class__")))
    (hn : specialIn K (.builtin "object.__class__") (Str.ofString "__get__") = some (some (.builtin "getset_descriptor.__get__"))) (htk : takesIn K (.builtin "object.__class__") = some true)
    (hm : mroIn K D (.type "object") = some true) (X : K.In s.heap) (I : InstAt s.heap x ox D (some od)) (h : Q (some (.ref D)) { s with toks := s.toks + 1 }) :
    wpAny (model prog w) A (getAttr? (.ref x) (Str.ofString "__class__")) Q E s := by
  have hcl : (clsIn K D).isSome = true := by
    obtain ⟨cd, hc, _⟩ := any_some hdct
    rw [hc]; rfl
  have hf := findObj_data (od := od) hcl ha hn htk
  obtain ⟨hp, g, d, t, os⟩ := s
  have L0 := InstAt.type (M := model prog w) I
  have L1 := looks_findIn (M := model prog w) X hga
  have L2 := looks_findIn (M := model prog w) X hgt
  have L3 := looks_find (M := model prog w) X I hf
  have sub : Looks (model prog w) hp (isInstance (.ref x) (.type "BaseException")) true := Looks.andThen L0 (looks_subIn X hsub)
  unfold getAttr?
  refine wpAny_bind (wpAny_mkText ?_)
  unfold getAttrBy?
  refine wpAny_bind (wpAny_attempt ?_)
  unfold getAttrBy
  refine wpAny_holding (wpAny_bind (Looks.at L0 (wpAny_bind (Looks.at L1 ?_))))
  have e2 : ((Value.builtin "BaseException.__getattribute__") == (.builtin "object.__getattribute__")) = false := by decide
  show wpAny (model prog w) A (if (onTheHeap (Value.ref D) && ((Value.builtin "BaseException.__getattribute__") == (.builtin "object.__getattribute__"))) = true then _ else _) _ _ _
  rw [e2, Bool.and_false, if_neg Bool.false_ne_true]
  unfold getAttrByItsOwn
  refine wpAny_bind ?_
  unfold hookBefore
  rw [if_pos (by rfl)]
  refine Looks.at L2 (wpAny_bind (wpAny_attempt (wpAny_holding ?_)))
  unfold callGetattribute
  rw [Bool.false_and, if_neg Bool.false_ne_true]
  unfold boundAndCalled
  rw [F.excAttr_ValueError.ga.bind]
  refine wpAny_bind (wpAny_pure ?_)
  show wpAny (model prog w) A (call (.builtin "BaseException.__getattribute__") [Value.ref x, Value.str (Str.ofString "__class__") t]) _ _ _
  refine wpAny_call ?_
  refine codeAny_call_builtin F.excAttr_ValueError.ga.plain F.entry_bexc_ga ?_
  refine check_slot (i := "BaseException.__getattribute__") (owner := "BaseException") (n := "__getattribute__") (self := .ref x) (rest := [Value.str (Str.ofString "__class__") t]) (kw := []) ?_ ?_ ?_ ?_ ?_
  · exact kin_classE._proof_2
  · exact kin_classE._proof_3
  · exact sub
  · exact F.args_bexc_ga (Value.ref x) (Value.str (Str.ofString "__class__") t)
  unfold Builtin.«object.__getattribute__»
  refine wpAny_bind (wpAny_of_eq (by rfl) ?_)
  refine wpAny_bind (wpAny_pure (wpAny_bind (Looks.at L0 (wpAny_bind (Looks.at L3 ?_)))))
  unfold Builtin.ObjectAttr.bindTo
  refine wpAny_bind (wpAny_holding (wpAny_call (class_get X I hm (wpAny_pure ?_))))
  show wpAny (model prog w) A (handedOut _) _ _ _
  rw [handedOut_of rfl]
  exact wpAny_pure (wpAny_pure h)
theorem kitx_excX {K : Frag} {x D : Addr} {ox od : Obj} (hga : findIn K (.ref D) (Str.ofString "__getattribute__") = some (some (.builtin "BaseException.__getattribute__"))) (hgt : findIn K (.ref D) (Str.ofString "__getattr__") = some none)
    (hsub : subIn K (.ref D) (.type "BaseException") = some true) (hdct : hasDictIn K D = true) (ha : findIn K (.ref D) (Str.ofString "__class__") = some (some (.builtin "object.__class__")))
    (hn : specialIn K (.builtin "object.__class__") (Str.ofString "__get__") = some (some (.builtin "getset_descriptor.__get__"))) (htk : takesIn K (.builtin "object.__class__") = some true)
    (hm : mroIn K D (.type "object") = some true) : KitX K (.ref x) (.ref D) fun h => InstAt h x ox D (some od) := by
  obtain ⟨cd, hc, _⟩ := any_some hdct
  have hl : ∃ c d sl, K.lookup D = some ⟨c, d, .cls cd, sl⟩ := by
    unfold clsIn at hc
    split at hc
    · rename_i heq
      cases hc
      exact ⟨_, _, _, heq⟩
    · cases hc
  obtain ⟨c, d, sl, hl⟩ := hl
  refine ⟨fun M h _ I => InstAt.type I, fun M h X _ => ?_, fun h tp dd its n sl' X htp => ?_, fun X I q => kin_classX hga hgt hsub hdct ha hn htk hm X I q⟩
  · intro A' Q' E' s' k q
    exact wpAny_bind (wpAny_loadPart (k D _ (X D _ hl)) (wpAny_pure q))
  · refine Bool.eq_false_iff.mpr fun q => ?_
    have e := Value.ref.inj (beq_iff_eq.mp q)
    subst e
    have z := (X D _ hl).symm.trans htp
    cases z
end PySem.W
namespace Mi
open PySem PySem.Spec PyProof.Rows L2
def rIsX (K : PySem.W.Frag) (D a dx : Addr) : List V → Hp → VK → Prop := fun xs H Q => ∃ (c : V) (cv : Value) (b : Bool) (fs : List (Str × V)), xs = [.ref a, c] ∧ (∀ u, RelV c u → u = cv) ∧ PySem.W.kitOne K (.ref D) cv = some b ∧ H dx = some (.xd fs) ∧ Q (.bl b) H
theorem call_isX {X : Cx} {a D dx : Addr} {oe : Obj} {pn : List (Addr × Obj)} (C : ExcC X.K D) (hz : Zc (.ref D) (some dx) oe) (hf : ∃ vs, oe.data = .fields vs) : CallR (X.suite a ((a, oe) :: pn)) (.builtin "isinstance") (rIsX X.K D a dx) := by
  intro pins s σ H xs us Q I r h
  obtain ⟨c, cv, b, fs, rfl, hcv, e, hd, q⟩ := h
  cases r with
  | cons rx rr =>
    cases rr with
    | cons rt rr2 =>
      cases rr2
      cases rx
      have ec := hcv _ rt
      subst ec
      have hp := I.pin (a, oe) (List.mem_append.mpr (.inl List.mem_cons_self))
      obtain ⟨vs, hv⟩ := hf
      obtain ⟨mA, ⟨o, es, ep, ho, _⟩, _⟩ := I.hok dx _ hd
      have J : PySem.W.InstAt s.heap a oe D (some o) := ⟨hp.1, hz.1, by unfold PySem.W.notCls; rw [hv], by rw [hz.2]; exact ho⟩
      refine PySem.W.kia_one (PySem.W.kitx_excX C.hg C.hk C.hs C.hd C.ha C.hn C.ht C.hm) I.kIn J e (by intro h; cases h) fun tk => ?_
      exact ⟨.bl b, H, I.kept fun _ _ z => z, rfl, q⟩
end Mi
namespace Mi
open PySem PySem.Spec PyProof.Rows L2
abbrev XdO (v : V) : HO := .xd [(("value" : Str), v)]
def SimX (K : PySem.W.Frag) (cl : Nat → Addr) (E : XK) (i : Nat) (a dx : Addr) (dv : D) (te : TE) (m : M D) : Prop := ∀ (zA : Option Addr) (F B H : Hp) (es : En) (σ : L2.St) (Q : VK), Rel K cl zA F B H es σ → σ[i]? = some (some (.ref a)) →
  (∃ v, F dx = some (XdO v) ∧ At K cl B v dv) → Po K cl E F B (m es) (fun d es' B' H' => ∀ v, Rel K cl zA F B' H' es' σ → At K cl B' v d → Q v H') → te σ H Q
def SimXA (K : PySem.W.Frag) (cl : Nat → Addr) (E : XK) (i : Nat) (a dx : Addr) (dv : D) (ta : TA) (m : M (List D)) : Prop := ∀ (zA : Option Addr) (F B H : Hp) (es : En) (σ : L2.St) (Q : List V → Hp → Prop), Rel K cl zA F B H es σ → σ[i]? = some (some (.ref a)) →
  (∃ v, F dx = some (XdO v) ∧ At K cl B v dv) → Po K cl E F B (m es) (fun ds es' B' H' => ∀ vs, Rel K cl zA F B' H' es' σ → AtL K cl B' vs ds → Q vs H') → ta σ H Q
def SimXS (K : PySem.W.Frag) (cl : Nat → Addr) (E : XK) (i : Nat) (a dx : Addr) (dv : D) (t : TS) (m : M Out) : Prop := ∀ (zA : Option Addr) (F B H : Hp) (es : En) (σ : L2.St) (Dn : Ends), Rel K cl zA F B H es σ → σ[i]? = some (some (.ref a)) →
  (∃ v, F dx = some (XdO v) ∧ At K cl B v dv) → Po K cl E F B (m es) (EndP K cl zA F Dn) → t Dn σ H
section
variable {K : PySem.W.Frag} {cl : Nat → Addr} {E : XK} {i : Nat} {a dx : Addr} {dv : D}
theorem SimX.of {te : TE} {m : M D} (h : SimE K cl E te m) : SimX K cl E i a dx dv te m := fun zA F B H es σ Q r _ _ p => h zA F B H es σ Q r p
theorem simX_val {C : Addr} : SimX K cl E i a dx dv (tXf a (.ref C) (some dx) C "value" (tVar i)) (mC dv) := by
  intro zA F B H es σ Q r hs hv h
  obtain ⟨v, hF, av⟩ := hv
  exact ⟨.ref a, hs, rfl, rfl, dx, _, v, rfl, r.fh _ _ hF, rfl, Po.ret0 h H v r av⟩
theorem simX_isa {C : Addr} {T : String} {b : Bool} (hk : PySem.W.kitOne K (.ref C) (.type T) = some b) : SimX K cl E i a dx dv (tCB (rIsX K C a dx) (tCons (tVar i) (tCons (tC (.ty T)) tNil))) (mC (.bl b)) := by
  intro zA F B H es σ Q r hs hv h
  obtain ⟨v, hF, av⟩ := hv
  exact ⟨.ref a, hs, .ty T, .type T, b, _, rfl, fun u e => by cases e; rfl, hk, r.fh _ _ hF, Po.ret0 h H (.bl b) r (.bl b)⟩
theorem simXA_nil : SimXA K cl E i a dx dv tNil mNil := fun zA F B H es σ Q r _ _ h => Po.ret0 h H [] r .nil
theorem simXA_cons {te : TE} {m : M D} {ta : TA} {ms : M (List D)} (hx : SimX K cl E i a dx dv te m) (hr : SimXA K cl E i a dx dv ta ms) : SimXA K cl E i a dx dv (tCons te ta) (mCons m ms) := by
  intro zA F B H es σ Q r hs hv h
  refine hx _ F B H es σ _ r hs hv (Po.imp (Po.bnd h) fun d es1 B1 H1 e1 _ h1 v r1 av => ?_)
  obtain ⟨w, hF, aw⟩ := hv
  refine hr _ F B1 H1 es1 σ _ r1 hs ⟨w, hF, aw.up e1⟩ (Po.imp (Po.bnd h1) fun ds es2 B2 H2 e2 _ h2 vs r2 avs => ?_)
  exact Po.ret0 h2 H2 (v :: vs) r2 (.cons (av.up e2) avs)
theorem simX_lst {ta : TA} {ma : M (List D)} (ha : SimXA K cl E i a dx dv ta ma) : SimX K cl E i a dx dv (tLst ta) (mLst ma) := by
  intro zA F B H es σ Q r hs hv h
  refine ha _ F B H es σ _ r hs hv (Po.imp (Po.bnd h) fun ds es1 B1 H1 _ _ h1 vs r1 a => ?_)
  obtain ⟨d, hd, hk⟩ := Po.opt h1
  obtain ⟨hz, rfl⟩ := fit_ok hd
  refine ⟨by rw [a.len]; exact hz, fun p n => ?_⟩
  exact FinE.lst (fun v B' H' s f r' a' => hk B' H' s f v r' a') r1 n a
theorem simX_tup {ta : TA} {ma : M (List D)} (ha : SimXA K cl E i a dx dv ta ma) : SimX K cl E i a dx dv (tTup ta) (mTup ma) := by
  intro zA F B H es σ Q r hs hv h
  refine ha _ F B H es σ _ r hs hv (Po.imp (Po.bnd h) fun ds es1 B1 H1 _ _ h1 vs r1 a => ?_)
  obtain ⟨d, hd, hk⟩ := Po.opt h1
  obtain ⟨hz, rfl⟩ := fit_ok hd
  refine ⟨by rw [a.len]; exact hz, fun p n => ?_⟩
  exact FinE.tup (fun v B' H' s f r' a' => hk B' H' s f v r' a') r1 n a
theorem simX_cb {ta : TA} {ma : M (List D)} {r : List V → Hp → VK → Prop} {f : List D → Option D} (ha : SimXA K cl E i a dx dv ta ma) (hr : SimC K cl r f) : SimX K cl E i a dx dv (tCB r ta) (mCB f ma) := by
  intro zA F B H es σ Q r hs hv h
  refine ha _ F B H es σ _ r hs hv (Po.imp (Po.bnd h) fun ds es1 B1 H1 _ _ h1 vs r1 a => ?_)
  obtain ⟨d, hd, hk⟩ := Po.opt h1
  exact hr _ F B1 H1 es1 σ vs ds d Q r1 a hd fun v B' H' s f r' a' => hk B' H' s f v r' a'
theorem simXS_set {j : Nat} {te : TE} {m : M D} (he : SimX K cl E i a dx dv te m) : SimXS K cl E i a dx dv (tAsg te (gName j)) (mAsg (bName j) m) := by
  intro zA F B H es σ Dn r hs hv h
  refine he _ F B H es σ _ r hs hv (Po.imp (Po.bnd h) fun d es1 B1 H1 e1 f1 h1 v r1 a => ?_)
  exact Po.ret0 (show Po K cl E F B1 (Mi.ret Out.nx (es1.set j (.dat d))) (EndP K cl zA F Dn) from h1) H1 _ (r1.put a)
theorem simXS_ret {te : TE} {m : M D} (he : SimX K cl E i a dx dv te m) : SimXS K cl E i a dx dv (tRet te) (mRet m) := by
  intro zA F B H es σ Dn r hs hv h
  exact he _ F B H es σ _ r hs hv (Po.imp (Po.bnd h) fun d es1 B1 H1 e1 f1 h1 v r1 a => Po.ret0 (show Po K cl E F B1 (Mi.ret (Out.rt d) es1) (EndP K cl zA F Dn) from h1) H1 v σ r1 a)
theorem Rel.floorX {zA : Option Addr} {F B H : Hp} {es : En} {σ : L2.St} {v : V} (r : Rel K cl zA F B H es σ) (h : H dx = some (XdO v)) : Rel K cl zA (upd F dx (XdO v)) B H es σ where
  bh := r.bh
  fh := fun b o e => by
    by_cases hb : b = dx
    · subst hb
      rw [upd_same] at e
      cases e
      exact h
    · rw [upd_ne hb] at e
      exact r.fh _ _ e
  len := r.len
  dat := r.dat
  own := fun i l e => by
    obtain ⟨q, ws, h1, h2, h3, h4, h5⟩ := r.own i l e
    have ne : q ≠ dx := fun z => by subst z; rw [h] at h4; cases h4
    exact ⟨q, ws, h1, h2, by rw [upd_ne ne]; exact h3, h4, h5⟩
  apart := r.apart
  zero := r.zero
theorem Rel.lowerX {zA : Option Addr} {F B H : Hp} {es : En} {σ : L2.St} {o : HO} (r : Rel K cl zA (upd F dx o) B H es σ) (n : F dx = none) : Rel K cl zA F B H es σ where
  bh := r.bh
  fh := fun b o e => r.fh _ _ (by rw [upd_ne (ne_of_none e n)]; exact e)
  len := r.len
  dat := r.dat
  own := fun i l e => by
    obtain ⟨q, ws, h1, h2, h3, h4, h5⟩ := r.own i l e
    refine ⟨q, ws, h1, h2, ?_, h4, h5⟩
    by_cases hq : q = dx
    · subst hq
      exact n
    · rw [upd_ne hq] at h3
      exact h3
  apart := r.apart
  zero := r.zero
theorem Po.floorX {α : Type} {F B : Hp} {r : R (α × En)} {o : HO} {k : α → En → Hp → Hp → Prop} (n : F dx = none) (h : Po K cl E F B r k) : Po K cl E (upd F dx o) B r k := by
  have s : Same F (upd F dx o) := same_new n
  cases r with
  | ok p => exact fun B' H' s1 f => h B' H' s1 fun x u e m => s.free (f x u e m)
  | exc c d => exact fun v dx' B' H' s1 f sf sb n1 n2 hx av => h v dx' B' H' s1 (fun x u e m => s.free (f x u e m)) (s.trans sf) sb (s.free n1) n2 hx av
  | bad => exact h
theorem Rel.unS {zA : Option Addr} {F B H : Hp} {es : En} {σ : L2.St} (r : Rel K cl zA F B H es σ) (i : Nat) (x : Option V) : Rel K cl zA F B H (es.set i .un) (σ.set i x) where
  bh := r.bh
  fh := r.fh
  len := by rw [List.length_set, List.length_set]; exact r.len
  dat := fun j d e => by
    by_cases hj : i = j
    · subst hj
      have hi : i < es.length := by
        have := (List.getElem?_eq_some_iff.mp e).1
        rwa [List.length_set] at this
      rw [List.getElem?_set_self hi] at e
      cases e
    · rw [List.getElem?_set_ne hj] at e ⊢
      exact r.dat j d e
  own := fun j d e => by
    by_cases hj : i = j
    · subst hj
      have hi : i < es.length := by
        have := (List.getElem?_eq_some_iff.mp e).1
        rwa [List.length_set] at this
      rw [List.getElem?_set_self hi] at e
      cases e
    · rw [List.getElem?_set_ne hj] at e ⊢
      exact r.own j d e
  apart := fun j k l m p ne e1 e2 s1 s2 => by
    have hj : i ≠ j := fun z => by
      subst z
      have hi : i < es.length := by
        have := (List.getElem?_eq_some_iff.mp e1).1
        rwa [List.length_set] at this
      rw [List.getElem?_set_self hi] at e1
      cases e1
    have hk : i ≠ k := fun z => by
      subst z
      have hi : i < es.length := by
        have := (List.getElem?_eq_some_iff.mp e2).1
        rwa [List.length_set] at this
      rw [List.getElem?_set_self hi] at e2
      cases e2
    rw [List.getElem?_set_ne hj] at e1 s1
    rw [List.getElem?_set_ne hk] at e2 s2
    exact r.apart j k l m p ne e1 e2 s1 s2
  zero := fun p l e z => by
    have hj : i ≠ 0 := fun w => by
      subst w
      have hi : 0 < es.length := by
        have := (List.getElem?_eq_some_iff.mp z).1
        rwa [List.length_set] at this
      rw [List.getElem?_set_self hi] at z
      cases z
    rw [List.getElem?_set_ne hj] at z ⊢
    exact r.zero p l e z
def mTry (i j n c0 : Nat) (g : List D → R D) (ma : M (List D)) (ms : D → M Out) : M Out := Mi.bnd ma fun ds es => if ds.length = n ∧ i < es.length then (match g ds with
  | .ok d => .ok (.nx, es.set j (.dat d))
  | .exc c d => if c = c0 then (match ms d (es.set i .un) with
    | .ok (o, es2) => .ok (o, es2.set i .un)
    | .exc c d => .exc c d
    | .bad => .bad) else .bad
  | .bad => .bad) else .bad
def tSuite (C : Addr) (t : Addr → Addr → TS) : Addr → Value → Option Addr → TS := fun a cls d Dn σ H => ∃ dx, cls = .ref C ∧ d = some dx ∧ t a dx Dn σ H
theorem Po.noExc {α : Type} {E E' : XK} {F B : Hp} {r : R (α × En)} {k : α → En → Hp → Hp → Prop} (n : ∀ c d, r ≠ .exc c d) (h : Po K cl E F B r k) : Po K cl E' F B r k := by
  cases r with
  | ok p => exact h
  | exc c d => exact absurd rfl (n c d)
  | bad => exact h
theorem sim_try {j n c0 : Nat} {g : List D → R D} {ta : TA} {ma : M (List D)} {ms : D → M Out} {t : Addr → Addr → TS} (ha : SimA K cl E ta ma) (hx : PySem.W.exmOne K (.ref (cl c0)) (.ref (cl c0)) = some true)
    (hs : ∀ (a dx : Addr) (dv : D), SimXS K cl E i a dx dv (t a dx) (ms dv)) :
    SimS K cl E (fun Dn σ H => tAsg (tCallS (spM K cl g n) (WE (wAs K (.ref (cl c0)) i (tSuite (cl c0) t) (fun cls d _ H => E cls d H) Dn)) ta) (gName j) Dn σ H) (mTry i j n c0 g ma ms) := by
  intro zA F B H es σ Dn r h
  have hp := Po.bnd h
  refine ha _ F B H es σ _ r (Po.imp hp fun ds es1 B1 H1 e1 f1 h1 vs r1 av => ?_)
  by_cases hn : ds.length = n ∧ i < es1.length
  · rw [if_pos hn] at h1
    refine ⟨ds, B1, hn.1, r1.bh, av, ?_⟩
    cases q : g ds with
    | ok d =>
      rw [q] at h1
      exact fun v B' H' s f sh sb av => h1 B' H' s (r1.frs f) _ ((r1.grow s sh sb f).put av)
    | exc c d =>
      rw [q] at h1
      dsimp only at h1
      by_cases hc : c = c0
      · subst hc
        rw [if_pos rfl] at h1
        intro v dx B' H' s f sh sb nH nb hd av
        refine ⟨true, hx, fun _ a na => ⟨dx, rfl, rfl, ?_⟩, fun z => by cases z⟩
        have nF : F dx = none := r1.fh.free nH
        have r2 : Rel K cl zA F B' H' es1 σ := r1.grow s sh sb f
        have r3 := (r2.unS i (some (.ref a))).floorX hd
        refine hs a dx d zA _ B' H' _ _ _ r3 (List.getElem?_set_self (by rw [← r1.len]; exact hn.2)) ⟨v, upd_same, av⟩ ?_
        refine Po.floorX nF ?_
        have h2 := Po.up s (r1.frs f) h1
        cases q2 : ms d (es1.set i .un) with
        | ok p =>
          obtain ⟨o, es2⟩ := p
          rw [q2] at h2
          intro B'' H'' s2 f2
          have h3 := h2 B'' H'' s2 f2
          cases o with
          | nx => exact fun σ' r' => h3 _ ((r'.lowerX nF).unS i none)
          | rt d => exact fun v σ' r' a' => h3 v _ ((r'.lowerX nF).unS i none) a'
          | bk => exact fun σ' r' => h3 _ ((r'.lowerX nF).unS i none)
          | ct => exact fun σ' r' => h3 _ ((r'.lowerX nF).unS i none)
        | exc c d => rw [q2] at h2; exact h2
        | bad => rw [q2] at h2; exact h2.elim
      · rw [if_neg hc] at h1
        exact h1.elim
    | bad => rw [q] at h1; exact h1.elim
  · rw [if_neg hn] at h1
    exact h1.elim
end
structure XXE (X : Cx) (cl : Nat → Addr) (E : XK) (i : Nat) (a dx : Addr) (dv : D) (e : Expr) (t : TE) (m : M D) : Prop where
  p : PE X e t
  s : SimX X.K cl E i a dx dv t m
structure XXA (X : Cx) (cl : Nat → Addr) (E : XK) (i : Nat) (a dx : Addr) (dv : D) (es : List Expr) (t : TA) (m : M (List D)) : Prop where
  p : PA X es t
  s : SimXA X.K cl E i a dx dv t m
structure XXS (X : Cx) (cl : Nat → Addr) (E : XK) (i : Nat) (a dx : Addr) (dv : D) (st : Stmt) (t : TS) (m : M Out) : Prop where
  p : PS X st t
  s : SimXS X.K cl E i a dx dv t m
section
variable {X : Cx} {cl : Nat → Addr} {E : XK} {i : Nat} {a dx : Addr} {dv : D} {oe : Obj} {pn : List (Addr × Obj)} {C : Addr}
theorem xx_of {e : Expr} {t : TE} {m : M D} (h : XE X cl E e t m) : XXE X cl E i a dx dv e t m := ⟨h.p, .of h.s⟩
theorem xxa_nil : XXA X cl E i a dx dv [] tNil mNil := ⟨pa_nil, simXA_nil⟩
theorem xxa_cons {e : Expr} {es : List Expr} {t : TE} {m : M D} {ts : TA} {ms : M (List D)} (h : XXE X cl E i a dx dv e t m) (hr : XXA X cl E i a dx dv es ts ms) (hs : starEach (e :: es) X.env = (false, eval e X.env) :: starEach es X.env := by rfl) : XXA X cl E i a dx dv (e :: es) (tCons t ts) (mCons m ms) := ⟨pa_cons h.p hr.p hs, simXA_cons h.s hr.s⟩
theorem xx_lst {es : List Expr} {t : TA} {m : M (List D)} {pos : Pos} (h : XXA X cl E i a dx dv es t m) : XXE X cl E i a dx dv (.List es pos) (tLst t) (mLst m) := ⟨pe_lst h.p, simX_lst h.s⟩
theorem xx_tup {es : List Expr} {t : TA} {m : M (List D)} {pos : Pos} {k : Nat} (h : XXA X cl E i a dx dv es t m) : XXE X cl E i a dx dv (.Tuple es k pos) (tTup t) (mTup m) := ⟨pe_tup h.p, simX_tup h.s⟩
theorem xx_val {Dd fI : Addr} {n : Str} {p pos : Pos} (T : RoomX.ClsTxt X.K C Dd fI) (hz : Zc (.ref C) (some dx) oe) (hf : ∃ vs, oe.data = .fields vs)
    (hN : X.N[i]? = some n := by rfl) (hv : Vis X.env.scope n := by first | exact Or.inl rfl | exact Or.inr (Or.inl rfl) | exact Or.inr (Or.inr rfl)) (hd : (n == ("__debug__" : Str)) = false := by decide) (hcd : (n == ("__classdict__" : Str)) = false := by decide) (hb : attributeBase (.Name n p) "value" X.env (eval (.Name n p) X.env) = eval (.Name n p) X.env := by rfl) :
    XXE (X.suite a ((a, oe) :: pn)) cl E i a dx dv (.Attribute (.Name n p) "value" pos) (tXf a (.ref C) (some dx) C "value" (tVar i)) (mC dv) :=
  ⟨pe_xf ⟨T.ga, T.gg, T.exC, T.hdC⟩ T.noN hz hf (pe_var hN hv hd hcd) hb, simX_val⟩
theorem xx_isa {T : String} {b : Bool} {n x : Str} {p p1 p2 pos : Pos} (Cc : ExcC X.K C) (hk : PySem.W.kitOne X.K (.ref C) (.type T) = some b) (hz : Zc (.ref C) (some dx) oe) (hf : ∃ vs, oe.data = .fields vs) (mi : X.mg "isinstance" = none) (mt : X.mg x = none) (hv : bootBuiltins x = some (.type T))
    (hN : X.N[i]? = some n := by rfl) (hvi : Vis X.env.scope n := by first | exact Or.inl rfl | exact Or.inr (Or.inl rfl) | exact Or.inr (Or.inr rfl)) (hd : (n == ("__debug__" : Str)) = false := by decide) (hcd : (n == ("__classdict__" : Str)) = false := by decide)
    (hg : Gl X "isinstance" := by rfl) (hgx : Gl X x := by rfl) (hn : x ≠ "__name__" := by decide) (hdb : (x == ("__debug__" : Str)) = false := by decide)
    (h1 : starEach [.Name n p1, .Name x p2] X.env = (false, eval (.Name n p1) X.env) :: starEach [.Name x p2] X.env := by rfl) (h2 : starEach [.Name x p2] X.env = (false, eval (.Name x p2) X.env) :: starEach [] X.env := by rfl) (hpl : (backTo pos (starEach [.Name x p2] X.env)).any (·.1) = false := by rfl) :
    XXE (X.suite a ((a, oe) :: pn)) cl E i a dx dv (.Call (.Name "isinstance" p) [.Name n p1, .Name x p2] [] pos) (tCB (rIsX X.K C a dx) (tCons (tVar i) (tCons (tC (.ty T)) tNil))) (mC (.bl b)) :=
  ⟨pe_callB (call_isX Cc hz hf) hg mi boot_isinstance (pa_cons (pe_var hN hvi hd hcd) (pa_cons (pe_bltn hgx mt hv rfl hn hdb) pa_nil h2) h1) (by decide) (by decide) h1 hpl, simX_isa hk⟩
theorem xxs_set (j : Nat) {e : Expr} {te : TE} {me : M D} {x : Str} {p pos : Pos} (hN : X.N.Nodup) (he : XXE X cl E i a dx dv e te me) (hi : X.N[j]? = some x := by rfl) (hx : Loc X.env.scope x := by first | exact Or.inl rfl | exact Or.inr rfl) (hs : swapsWith e (some (.Name x p)) pos.line X.env = pure false := by rfl)
    (hf : X.fn x = true ∨ X.env.scope.names.lookup x = some .local := by first | exact .inl rfl | exact .inr rfl | assumption) : XXS X cl E i a dx dv (.Assign [.Name x p] e pos) (tAsg te (gName j)) (mAsg (bName j) me) := ⟨ps_set hN hi hx he.p hs hf, simXS_set he.s⟩
theorem xxs_ret {e : Expr} {te : TE} {me : M D} {pos : Pos} (he : XXE X cl E i a dx dv e te me) : XXS X cl E i a dx dv (.Return (some e) pos) (tRet te) (mRet me) := ⟨ps_ret he.p, simXS_ret he.s⟩
theorem xs_try (i j c0 : Nat) {K : PySem.W.Frag} {e : Expr} {es : List Expr} {ta : TA} {ma : M (List D)} {ms : D → M Out} {t : Addr → Addr → TS} {x y n xc : Str} {p py p3 pos pos2 pos3 pos4 : Pos} {k m : Nat} {ps : List Str} {g : List D → R D} {b₀ : Stmt}
    (hN0 : X.N.Nodup) (T : Fact X.prog X.w K X.mg X.base x k ps (spM K cl g m)) (hr : Room k X.A) (gC : X.mg xc = some (.ref (cl c0))) (hxm : PySem.W.exmOne K (.ref (cl c0)) (.ref (cl c0)) = some true) (tk : Takes X (fun cls d _ H => E cls d H))
    (ha : ∀ (pn : List (Addr × Obj)) (xe : Value → Shared → Prop), XA (X.tr pn xe) cl E (e :: es) ta ma)
    (hsu : ∀ (a dx : Addr) (dv : D) (oe : Obj) (pn : List (Addr × Obj)), Zc (.ref (cl c0)) (some dx) oe → (∃ vs, oe.data = .fields vs) → XXS (X.suite a ((a, oe) :: pn)) cl E i a dx dv b₀ (t a dx) (ms dv))
    (hK : X.K = K := by rfl) (hs : X.stack = X.env :: X.outer := by rfl) (hf : X.env.frame = some X.env.locals := by rfl) (hi : X.N[i]? = some n := by rfl) (hln : X.env.kindOf n = some .local := by rfl) (hgc : Gl X xc := by rfl) (hdc : (xc == ("__debug__" : Str)) = false := by decide)
    (hg : Gl X x := by rfl) (hj : X.N[j]? = some y := by rfl) (hy : Loc X.env.scope y := by first | exact Or.inl rfl | exact Or.inr rfl) (hdb : (x == ("__debug__" : Str)) = false := by decide)
    (he : starEach (e :: es) X.env = (false, eval e X.env) :: starEach es X.env := by rfl) (hpl : (backTo pos (starEach es X.env)).any (·.1) = false := by rfl)
    (hsw : swapsWith (.Call (.Name x p) (e :: es) [] pos) (some (.Name y py)) pos2.line X.env = pure false := by rfl)
    (hfn : X.fn y = true ∨ X.env.scope.names.lookup y = some .local := by first | exact .inl rfl | exact .inr rfl | assumption) :
    XS X cl E (.Try [.Assign [.Name y py] (.Call (.Name x p) (e :: es) [] pos) pos2] [.ExceptHandler (some (.Name xc p3)) (some n) [b₀] pos3] [] [] pos4)
      (fun Dn σ H => tAsg (tCallS (spM K cl g m) (WE (wAs K (.ref (cl c0)) i (tSuite (cl c0) t) (fun cls d _ H => E cls d H) Dn)) ta) (gName j) Dn σ H) (mTry i j m c0 g ma ms) := by
  subst hK
  obtain ⟨f, fd, G, hm, hk, hb⟩ := T.ex
  refine ⟨ps_try_as (tb := fun W => tAsg (tCallS (spM X.K cl g m) (WE W) ta) (gName j)) (ts := tSuite (cl c0) t) (Wout := fun cls d _ H => E cls d H) hs hf hN0 hi hln ⟨hgc, hdc, .inl gC⟩ tk (fun W pn xe tk' po => ?_) (fun a oe cls d pn hz hfv => ?_), sim_try (ha [] X.xe).s hxm fun a dx dv => ?_⟩
  · exact pss_one (ps_set hN0 hj hy (pe_callS G hr hg hm hk hb (fun σ => passAt tk' σ) (ha pn xe).p hdb he hpl) hsw hfn)
  · refine ⟨fun pins s σ H D I h => ?_⟩
    obtain ⟨dx, rfl, rfl, h⟩ := h
    exact (pss_one (hsu a dx .non oe pn hz hfv).p).run pins s σ H D I h
  · exact (hsu a dx dv ⟨.ref (cl c0), some dx, .fields #[], #[]⟩ [] ⟨rfl, rfl⟩ ⟨_, rfl⟩).s
end
end Mi
namespace RepX
open PySem PySem.Spec PyProof.Rows L2 PySem.Calls CwR
def rep1 (x y z : Str) : Str := if ((Builtin.Str.occurrences x y 0 x.length 1).isEmpty || y.length == 0 && z.length == 0) = true then x
  else Builtin.Str.glued z (Builtin.Str.partsBetween x (Builtin.Str.occurrences x y 0 x.length 1) y.length)
theorem gives_rep1 (x y z : Str) (t u v k : Tok)
    (hf : ((Builtin.Str.occurrences x y 0 x.length 1).isEmpty || y.length == 0 && z.length == 0) = false → (u == 0 || v == 0) = false ∧ (u == v) = false ∧ (y == z) = false ∧ Builtin.Str.tooLong (x.length + (Builtin.Str.occurrences x y 0 x.length 1).length * z.length) = false) :
    Gives (Builtin.«str.replace» { pos := [Value.str x t, Value.str y u, Value.str z v, Value.int 1 k] }) (if ((Builtin.Str.occurrences x y 0 x.length 1).isEmpty || y.length == 0 && z.length == 0) = true then Made.val (Value.str x t) else Made.str (Builtin.Str.glued z (Builtin.Str.partsBetween x (Builtin.Str.occurrences x y 0 x.length 1) y.length))) := by
  show Gives (if ((Builtin.Str.occurrences x y 0 x.length 1).isEmpty || y.length == 0 && z.length == 0) = true then do
      rule "str.replace.nothing"
      ret (Value.str x t)
    else do
      let same ← isSame (Value.str y u) (Value.str z v)
      if same = true then do
        rule "str.replace.old-is-new"
        ret (Value.str x t)
      else if Builtin.Str.tooLong (x.length + (Builtin.Str.occurrences x y 0 x.length 1).length * z.length) = true then unsupported "str.replace:memory"
      else retStr (Builtin.Str.glued z (Builtin.Str.partsBetween x (Builtin.Str.occurrences x y 0 x.length 1) y.length))) _
  cases hc : ((Builtin.Str.occurrences x y 0 x.length 1).isEmpty || y.length == 0 && z.length == 0) with
  | true => exact Gives.rule (Gives.of_eq rfl)
  | false =>
    obtain ⟨h0, huv, hyz, hl⟩ := hf hc
    rw [isSame_str_other y z u v h0 huv hyz, hl]
    exact Gives.of_eq rfl
theorem SC_rep1 {prog : Program} {w : World} {A : Around} {E : Value → Shared → Prop} {s : Shared} {x y z : Str} {t u v k : Tok} {Q : Value → Shared → Prop} (hu : u ≠ 0) (hv : v ≠ 0) (huv : u ≠ v) (hyz : (y == z) = false)
    (hb : x.length + z.length ≤ sizeLine) (hb2 : (rep1 x y z).length ≤ sizeLine) (hq : ∀ (t' : Tok) (k : Nat), Q (.str (rep1 x y z) t') { s with toks := k }) :
    wpAny (model prog w) A (call (.builtin "str.replace") [.str x t, .str y u, .str z v, .int 1 k]) Q E s := by
  have hl : Builtin.Str.tooLong (x.length + (Builtin.Str.occurrences x y 0 x.length 1).length * z.length) = false := by
    have h1 := StrLaws.occ_length_le x y 0 x.length 1
    have h2 := Nat.mul_le_mul_right z.length h1
    unfold Builtin.Str.tooLong
    exact decide_eq_false (by omega)
  refine call_gives F.slot_str_replace (typeIs_str _ _ _) F.entry_str_replace (F.args_str_replace_4 _ _ _ _) (gives_rep1 x y z t u v k fun _ => ⟨by simp [hu, hv], by simp [huv], hyz, hl⟩) ?_
  unfold rep1 at hq hb2
  cases hc : ((Builtin.Str.occurrences x y 0 x.length 1).isEmpty || y.length == 0 && z.length == 0) with
  | true =>
    rw [hc] at hq
    exact hq t s.toks
  | false =>
    rw [hc] at hq hb2
    exact ⟨hb2, hq s.toks (s.toks + 1)⟩
def tRep1 (to : TE) (y z : Str) : TE := fun σ H Q => to σ H fun v H1 => ∃ x, v = V.str x ∧ x.length + z.length ≤ sizeLine ∧ (rep1 x y z).length ≤ sizeLine ∧ Q (.str (rep1 x y z)) H1
theorem pet_rep1 {X : Cx} {o : Expr} {to : TE} {y z : Str} {j k m : Nat} {c0 c1 c2 apos pos : Pos} (ho : PE X o to) (hyz : (y == z) = false := by decide)
    (hst : starEach [.Constant (.str y) j c0, .Constant (.str z) k c1, .Constant (.int 1) m c2] X.env = [(false, eval (.Constant (.str y) j c0) X.env), (false, eval (.Constant (.str z) k c1) X.env), (false, eval (.Constant (.int 1) m c2) X.env)] := by rfl)
    (hbase : attributeBase o "replace" X.env (eval o X.env) = eval o X.env := by rfl) (hline : (apos.endLine == pos.line) = true := by rfl) :
    PET X (.Call (.Attribute o "replace" apos) [.Constant (.str y) j c0, .Constant (.str z) k c1, .Constant (.int 1) m c2] [] pos) (tRep1 to y z) := by
  intro pins s σ H Q h0 I h
  refine wpAny_Call_method_lateS hbase (by rw [hst]; rfl) hline ?_
  rw [hst]
  refine wpAny_mono (wpAny_toks (ho.run pins s σ H _ I h)) (fun v s1 q => ?_) fun _ _ z => z.2
  obtain ⟨hk, v', H1, I1, r1, x, rfl, hb, hb2, q⟩ := q
  obtain ⟨tx, rfl⟩ := r1
  refine ⟨"str", "str.replace", F.plainAttrs_str, F.slot_str_replace, F.type_str_replace, typeIs_str s1 x tx, (fun a e => nomatch e), ?_⟩
  refine callWith_builtin (by rfl) (evalArgs_plain (spliced_cons (Constant_str (k := j) (pos := c0) (spliced_cons (Constant_str (k := k) (pos := c1) (spliced_cons (wpAny_Constant_int (k := m) (pos := c2) (spliced_nil ?_))))))))
  refine SC_rep1 (by show s1.toks ≠ 0; omega) (by show s1.toks + 1 ≠ 0; omega) (by show s1.toks ≠ s1.toks + 1; omega) hyz hb hb2 fun t' k => ?_
  exact ⟨.str (rep1 x y z), H1, I1.tok k, ⟨t', rfl⟩, q⟩
def PEU (X : Cx) (e : Expr) (t : TE) : Prop := ∀ (pins : List (Addr × Obj)) (s : Shared) (σ : L2.St) (H : Hp) (Q : VK), L2.Inv X pins σ H s → t σ H Q → wpAny (model X.prog X.w) X.A (eval e X.env) (fun v s' => 1 ≤ s'.toks ∧ EP X pins σ Q v s') X.xe s
def PAU (X : Cx) (es : List Expr) (t : TA) : Prop := ∀ (pos : Pos) (pins : List (Addr × Obj)) (s : Shared) (σ : L2.St) (H : Hp) (Q : List V → Hp → Prop), L2.Inv X pins σ H s → t σ H Q → wpAny (model X.prog X.w) X.A (spliced (backTo pos (starEach es X.env))) (fun v s' => 1 ≤ s'.toks ∧ AP X pins σ Q v s') X.xe s
def PSU (X : Cx) (st : Stmt) (t : TS) : Prop := ∀ (pins : List (Addr × Obj)) (s : Shared) (σ : L2.St) (H : Hp) (Dn : Ends), L2.Inv X pins σ H s → t Dn σ H → wpAny (model X.prog X.w) X.A (exec st X.env) (fun f s' => 1 ≤ s'.toks ∧ SP X pins Dn f s') X.xe s
theorem peu_m1 {X : Cx} {c : Str} {k : Nat} {cp : Pos} {e : Expr} {te : TE} {id : String} {name : Str} {apos pos : Pos} {r : V → List V → Hp → VK → Prop} (slot : Slot "str" name id) (ty : typeOf (.builtin id) = pure (.type "method_descriptor")) (rule : MtR X id r) (he : PE X e te)
    (hs : starEach [e] X.env = [(false, eval e X.env)] := by rfl) (hbase : attributeBase (.Constant (.str c) k cp) name X.env (eval (.Constant (.str c) k cp) X.env) = eval (.Constant (.str c) k cp) X.env := by rfl) (hline : (apos.endLine == pos.line) = true := by rfl) :
    PEU X (.Call (.Attribute (.Constant (.str c) k cp) name apos) [e] [] pos) (tM1 r (tC (.str c)) te) := by
  intro pins s σ H Q I h
  refine Call_method1 hbase hs hline (Constant_str ?_)
  obtain ⟨_, h⟩ := h
  refine ⟨"str", id, F.plainAttrs_str, slot, ty, typeIs_str _ _ _, (fun a e => nomatch e), ?_⟩
  show wpAny _ _ (callWith pos (Value.builtin id) [Value.str c s.toks] [(false, eval e X.env)] []) _ _ _
  refine callWith_builtin (by rfl) (evalArgs_plain (spliced_cons ?_))
  refine wpAny_mono (wpAny_toks (he.run pins _ σ H _ (I.tok _) h)) (fun u s2 q => ?_) fun _ _ z => z.2
  obtain ⟨hk, y, H2, I2, r2, q2⟩ := q
  have hk : s.toks + 1 ≤ s2.toks := hk
  refine spliced_nil ?_
  refine wpAny_mono (wpAny_toks (rule pins s2 σ H2 (.str c) [y] (.str c s.toks) [u] Q I2 ⟨_, rfl⟩ (.cons r2 .nil) q2)) (fun v s3 q => ⟨by have := q.1; omega, q.2⟩) fun _ _ z => z.2
theorem pau_cons {X : Cx} {e : Expr} {es : List Expr} {te : TE} {ta : TA} (ha : PEU X e te) (hr : PAT X es ta) (hs : starEach (e :: es) X.env = (false, eval e X.env) :: starEach es X.env := by rfl) : PAU X (e :: es) (tCons te ta) := by
  intro pos pins s σ H Q I h
  rw [hs]
  refine spliced_cons (wpAny_mono (ha pins s σ H _ I h) (fun v s1 q => ?_) fun _ _ z => z)
  obtain ⟨hk, x, H1, I1, r1, q1⟩ := q
  refine wpAny_mono (wpAny_toks (hr pos pins s1 σ H1 _ hk I1 q1)) (fun us s2 q => ?_) fun _ _ z => z.2
  obtain ⟨hk2, xs, H2, I2, r2, q2⟩ := q
  exact ⟨Nat.le_trans hk hk2, x :: xs, H2, I2, .cons r1 r2, q2⟩
theorem peu_lst {X : Cx} {es : List Expr} {ta : TA} {pos : Pos} (h : PAU X es ta) : PEU X (.List es pos) (tLst ta) := by
  intro pins s σ H Q I hq
  refine wpAny_List_spliced (wpAny_mono (h pos pins s σ H _ I hq) (fun us s1 q => ?_) fun _ _ z => z)
  obtain ⟨hk, xs, H1, I1, r, z, q⟩ := q
  have hf := I1.hok.fresh (Nat.le_refl s1.heap.objs.size)
  exact ⟨by rw [← r.length]; exact z, hk, .ref s1.heap.objs.size, upd H1 s1.heap.objs.size (.lst xs), I1.laid (fun b u e => Heap.get?_push_of_some _ e) (Nat.le_refl _) ⟨z, us, 0, r, Heap.get?_push_size s1.heap rfl⟩, rfl, q _ hf⟩
theorem peu_op {X : Cx} {e f : Expr} {te tf : TE} {pos : Pos} {op : Operator} {r : R2} (ho : OpR X (binaryOp op) r) (ha : PE X e te) (hb : PEU X f tf) : PEU X (.BinOp e op f pos) (tOp r te tf) := by
  intro pins s σ H Q I h
  refine wpAny_BinOp (thn (ha.run pins s σ H _ I h) fun v s1 q => ?_)
  obtain ⟨x, H1, I1, r1, q1⟩ := q
  refine wpAny_mono (hb pins s1 σ H1 _ I1 q1) (fun u s2 q => ?_) fun _ _ z => z
  obtain ⟨hk, y, H2, I2, r2, q2⟩ := q
  exact wpAny_mono (wpAny_toks (ho pins s2 σ H2 x y v u Q I2 r1 r2 q2)) (fun w s3 q => ⟨Nat.le_trans hk q.1, q.2⟩) fun _ _ z => z.2
theorem psu_set {X : Cx} {pos : Pos} {i : Nat} {x : Str} {e : Expr} {te : TE} {pos' : Pos} (hN : X.N.Nodup) (hi : X.N[i]? = some x) (hx : Loc X.env.scope x) (he : PEU X e te) (hs : swapsWith e (some (.Name x pos')) pos.line X.env = pure false) (hf : X.fn x = true ∨ X.env.scope.names.lookup x = some .local) : PSU X (.Assign [.Name x pos'] e pos) (tAsg te (gName i)) := by
  intro pins s σ H Dn I h
  refine wpAny_Assign_Name (wpAny_mono (he pins s σ H _ I h) (fun v s1 q => ?_) fun _ _ z => z) hs
  obtain ⟨hk, y, H1, I1, r1, q1⟩ := q
  exact wpAny_mono (wpAny_toks (store_ok (Q := fun f s' => SP X pins Dn .next s') I1 hN hi hx r1 (fun s2 I2 => ⟨_, H1, I2, q1⟩) hf)) (fun f s2 q => ⟨Nat.le_trans hk q.1, q.2⟩) fun _ _ z => z.2
theorem pss_consU {X : Cx} {st : Stmt} {rest : List Stmt} {t u : TS} (h1 : PSU X st t) (h2 : PSsT X rest u) : PSs X (st :: rest) (tSeq t u) := by
  refine ⟨fun pins s σ H Dn I h => ?_⟩
  refine wpAny_execs_cons (wpAny_mono (h1 pins s σ H { Dn with nx := u Dn } I h) (fun f s1 q => ?_) fun _ _ z => z)
  obtain ⟨hk, q⟩ := q
  cases f with
  | next =>
    obtain ⟨σ', H', I', q⟩ := q
    exact h2 pins s1 σ' H' Dn hk I' q
  | brk => exact q
  | cont => exact q
  | ret v => exact q
end RepX
namespace Mi
open PySem PySem.Spec PyProof.Rows L2 RepX
def dRepl (y z : Str) : D → Option D
  | .str x => okB (decide (x.length + (x.length + 1) * z.length ≤ 16777216)) (.str (Txt.replace x y z))
  | _ => none
def dRep1 (y z : Str) : D → Option D
  | .str x => okB (decide (x.length + z.length ≤ sizeLine ∧ (rep1 x y z).length ≤ sizeLine)) (.str (rep1 x y z))
  | _ => none
section
variable {K : PySem.W.Frag} {cl : Nat → Addr} {E : XK}
theorem sim_repl {te : TE} {m : M D} {y z : Str} (ha : SimE K cl E te m) : SimE K cl E (CwR.tReplC te y z) (mUn (dRepl y z) m) := by
  intro zA F B H es σ Q r h
  refine ha _ F B H es σ _ r (Po.imp (Po.bnd h) fun d es1 B1 H1 e1 _ h1 v r1 a => ?_)
  obtain ⟨d', hd, hk⟩ := Po.opt h1
  cases a with
  | str x =>
    obtain ⟨hz, rfl⟩ := okB_ok hd
    exact ⟨x, rfl, of_decide_eq_true hz, hk B1 H1 (Same.rfl' _) (Frs.refl _ _) _ r1 (.str _)⟩
  | _ => cases hd
theorem sim_rep1 {te : TE} {m : M D} {y z : Str} (ha : SimE K cl E te m) : SimE K cl E (tRep1 te y z) (mUn (dRep1 y z) m) := by
  intro zA F B H es σ Q r h
  refine ha _ F B H es σ _ r (Po.imp (Po.bnd h) fun d es1 B1 H1 e1 _ h1 v r1 a => ?_)
  obtain ⟨d', hd, hk⟩ := Po.opt h1
  cases a with
  | str x =>
    obtain ⟨hz, rfl⟩ := okB_ok hd
    have hz := of_decide_eq_true hz
    exact ⟨x, rfl, hz.1, hz.2, hk B1 H1 (Same.rfl' _) (Frs.refl _ _) _ r1 (.str _)⟩
  | _ => cases hd
end
structure XET (X : Cx) (cl : Nat → Addr) (E : XK) (e : Expr) (t : TE) (m : M D) : Prop where
  p : PET X e t
  s : SimE X.K cl E t m
structure XAT (X : Cx) (cl : Nat → Addr) (E : XK) (e : List Expr) (t : TA) (m : M (List D)) : Prop where
  p : PAT X e t
  s : SimA X.K cl E t m
structure XEU (X : Cx) (cl : Nat → Addr) (E : XK) (e : Expr) (t : TE) (m : M D) : Prop where
  p : PEU X e t
  s : SimE X.K cl E t m
structure XAU (X : Cx) (cl : Nat → Addr) (E : XK) (e : List Expr) (t : TA) (m : M (List D)) : Prop where
  p : PAU X e t
  s : SimA X.K cl E t m
structure XST (X : Cx) (cl : Nat → Addr) (E : XK) (e : Stmt) (t : TS) (m : M Out) : Prop where
  p : PST X e t
  s : SimS X.K cl E t m
structure XSU (X : Cx) (cl : Nat → Addr) (E : XK) (e : Stmt) (t : TS) (m : M Out) : Prop where
  p : PSU X e t
  s : SimS X.K cl E t m
structure XBT (X : Cx) (cl : Nat → Addr) (E : XK) (e : List Stmt) (t : TS) (m : M Out) : Prop where
  p : PSsT X e t
  s : SimS X.K cl E t m
section
variable {X : Cx} {cl : Nat → Addr} {E : XK} {e f o : Expr} {es : List Expr} {te tf to : TE} {me mf mo : M D} {ta : TA} {ma : M (List D)} {ts us : TS} {ms ns : M Out} {pos : Pos}
theorem xet_of (h : XE X cl E e te me) : XET X cl E e te me := ⟨CwR.PET.of h.p, h.s⟩
theorem xet_repl {y z : Str} {j k : Nat} {c0 c1 apos : Pos} (ho : XE X cl E o to mo) (hyz : (y == z) = false := by decide)
    (hst : starEach [.Constant (.str y) j c0, .Constant (.str z) k c1] X.env = [(false, eval (.Constant (.str y) j c0) X.env), (false, eval (.Constant (.str z) k c1) X.env)] := by rfl)
    (hbase : attributeBase o "replace" X.env (eval o X.env) = eval o X.env := by rfl) (hline : (apos.endLine == pos.line) = true := by rfl) :
    XET X cl E (.Call (.Attribute o "replace" apos) [.Constant (.str y) j c0, .Constant (.str z) k c1] [] pos) (CwR.tReplC to y z) (mUn (dRepl y z) mo) := ⟨CwR.pet_replC ho.p hyz hst hbase hline, sim_repl ho.s⟩
theorem xet_rep1 {y z : Str} {j k m : Nat} {c0 c1 c2 apos : Pos} (ho : XE X cl E o to mo) (hyz : (y == z) = false := by decide)
    (hst : starEach [.Constant (.str y) j c0, .Constant (.str z) k c1, .Constant (.int 1) m c2] X.env = [(false, eval (.Constant (.str y) j c0) X.env), (false, eval (.Constant (.str z) k c1) X.env), (false, eval (.Constant (.int 1) m c2) X.env)] := by rfl)
    (hbase : attributeBase o "replace" X.env (eval o X.env) = eval o X.env := by rfl) (hline : (apos.endLine == pos.line) = true := by rfl) :
    XET X cl E (.Call (.Attribute o "replace" apos) [.Constant (.str y) j c0, .Constant (.str z) k c1, .Constant (.int 1) m c2] [] pos) (tRep1 to y z) (mUn (dRep1 y z) mo) := ⟨pet_rep1 ho.p hyz hst hbase hline, sim_rep1 ho.s⟩
theorem xat_nil : XAT X cl E [] tNil mNil := ⟨pat_nil, sim_nil⟩
theorem xat_cons (h : XET X cl E e te me) (hr : XAT X cl E es ta ma) (hs : starEach (e :: es) X.env = (false, eval e X.env) :: starEach es X.env := by rfl) : XAT X cl E (e :: es) (tCons te ta) (mCons me ma) := ⟨pat_cons h.p hr.p hs, sim_cons h.s hr.s⟩
theorem xet_lst (h : XAT X cl E es ta ma) : XET X cl E (.List es pos) (tLst ta) (mLst ma) := ⟨pet_lst h.p, sim_lst h.s⟩
theorem xet_bin {op : Operator} {r : R2} {f' : D → D → Option D} (ho : OpR X (binaryOp op) r) (hs : SimR2 X.K cl r f') (ha : XET X cl E e te me) (hb : XET X cl E f tf mf) : XET X cl E (.BinOp e op f pos) (tOp r te tf) (mBin f' me mf) := ⟨CwR.pet_op ho ha.p hb.p, sim_bin ha.s hb.s hs⟩
theorem xst_ret (h : XET X cl E e te me) : XST X cl E (.Return (some e) pos) (tRet te) (mRet me) := ⟨CwR.pst_ret h.p, sim_ret h.s⟩
theorem xbt_one {st : Stmt} (h : XST X cl E st ts ms) : XBT X cl E [st] ts ms := by
  refine ⟨fun pins s σ H Dn h0 I q => ?_, h.s⟩
  have := psst_cons h.p CwR.psst_nil pins s σ H Dn h0 I
  exact this q
theorem xeu_join {c : Str} {k : Nat} {cp apos : Pos} (he : XE X cl E e te me) (hs : starEach [e] X.env = [(false, eval e X.env)] := by rfl) (hbase : attributeBase (.Constant (.str c) k cp) "join" X.env (eval (.Constant (.str c) k cp) X.env) = eval (.Constant (.str c) k cp) X.env := by rfl) (hline : (apos.endLine == pos.line) = true := by rfl) :
    XEU X cl E (.Call (.Attribute (.Constant (.str c) k cp) "join" apos) [e] [] pos) (tM1 (fun x xs H Q => ∃ a p, ∃ ys : List Str, x = .str a ∧ xs = [.ref p] ∧ (SqL X.K H p (ys.map V.str) ∨ SqT X.K H p (ys.map V.str)) ∧ (ys.map (·.length)).sum + ys.length * a.length ≤ 16777216 ∧ Q (.str (Txt.join a ys)) H) (tC (.str c)) te) (mM1 dJoin (mC (.str c)) me) := ⟨peu_m1 F.slot_str_join F.type_str_join mt_join he.p hs hbase hline, sim_m1 (sim_c fun B => .str c) he.s sim_join⟩
theorem xau_cons (h : XEU X cl E e te me) (hr : XAT X cl E es ta ma) (hs : starEach (e :: es) X.env = (false, eval e X.env) :: starEach es X.env := by rfl) : XAU X cl E (e :: es) (tCons te ta) (mCons me ma) := ⟨pau_cons h.p hr.p hs, sim_cons h.s hr.s⟩
theorem xeu_lst (h : XAU X cl E es ta ma) : XEU X cl E (.List es pos) (tLst ta) (mLst ma) := ⟨peu_lst h.p, sim_lst h.s⟩
theorem xeu_bin {op : Operator} {r : R2} {f' : D → D → Option D} (ho : OpR X (binaryOp op) r) (hs : SimR2 X.K cl r f') (ha : XE X cl E e te me) (hb : XEU X cl E f tf mf) : XEU X cl E (.BinOp e op f pos) (tOp r te tf) (mBin f' me mf) := ⟨peu_op ho ha.p hb.p, sim_bin ha.s hb.s hs⟩
theorem xsu_set (i : Nat) {x : Str} {p : Pos} (hN : X.N.Nodup) (he : XEU X cl E e te me) (hi : X.N[i]? = some x := by rfl) (hx : Loc X.env.scope x := by first | exact Or.inl rfl | exact Or.inr rfl) (hs : swapsWith e (some (.Name x p)) pos.line X.env = pure false := by rfl)
    (hf : X.fn x = true ∨ X.env.scope.names.lookup x = some .local := by first | exact .inl rfl | exact .inr rfl | assumption) : XSU X cl E (.Assign [.Name x p] e pos) (tAsg te (gName i)) (mAsg (bName i) me) :=
  ⟨psu_set hN hi hx he.p hs hf, sim_asg (fun _ _ _ _ h => by cases h) he.s sim_gname⟩
theorem xb_consU {st : Stmt} {rest : List Stmt} (h : XSU X cl E st ts ms) (hr : XBT X cl E rest us ns) : XB X cl E (st :: rest) (tSeq ts us) (mSeq ms ns) := ⟨pss_consU h.p hr.p, sim_seq h.s hr.s⟩
end
end Mi
namespace Mi
open PySem PySem.Spec PyProof.Rows L2
theorem set_un {es : En} {v : Nat} {x y : Sl} : (es.set v x).set v y = es.set v y := List.set_set ..
theorem set_getD {es : En} {v : Nat} {x : Sl} (h : v < es.length) : (es.set v x).set v (es.getD v .un) = es := by
  rw [List.set_set]
  have e : es.getD v .un = es[v] := by
    simp [List.getD, List.getElem?_eq_getElem h]
  rw [e]
  exact List.set_getElem_self h
theorem compL_fm {v : Nat} {mt : M Bool} {me : M D} {p : D → Bool} {f : D → D} : ∀ (ds acc : List D) (es : En),
    (∀ d ∈ ds, mt (es.set v (.dat d)) = .ok (p d, es.set v (.dat d))) → (∀ d ∈ ds, p d = true → me (es.set v (.dat d)) = .ok (f d, es.set v (.dat d))) → acc.length + ds.length ≤ sizeLine →
    compL (bName v) mt me [v] ds acc (es.set v .un) = .ok (acc ++ (ds.filter p).map f, es.set v .un)
  | [], acc, es, _, _, _ => by simp [compL, Mi.ret]
  | d :: ds, acc, es, ht, hm, hl => by
    have h1 := ht d List.mem_cons_self
    have ih := fun acc' h => compL_fm (v := v) (mt := mt) (me := me) (p := p) (f := f) ds acc' es (fun d' h' => ht d' (List.mem_cons_of_mem _ h')) (fun d' h' => hm d' (List.mem_cons_of_mem _ h')) h
    rw [List.length_cons] at hl
    cases hp : p d with
    | true =>
      have h2 := hm d List.mem_cons_self hp
      have hz : acc.length < sizeLine := by omega
      simp only [compL, Mi.bnd, bName, set_un, h1, hp, if_pos, h2, hz, wipeE]
      rw [ih _ (by rw [List.length_append, List.length_singleton]; omega), List.filter_cons_of_pos hp]
      simp
    | false =>
      simp only [compL, Mi.bnd, bName, set_un, h1, hp, wipeE]
      rw [if_neg (by decide), set_un, ih _ (by omega), List.filter_cons_of_neg (by rw [hp]; decide)]
theorem comp_fm {v : Nat} {ms : M (List D)} {mt : M Bool} {me : M D} {p : D → Bool} {f : D → D} {ds : List D} {es : En} (hms : ms es = .ok (ds, es)) (hno : notOwn es [v] = true) (hv : v < es.length)
    (ht : ∀ d ∈ ds, mt (es.set v (.dat d)) = .ok (p d, es.set v (.dat d))) (hm : ∀ d ∈ ds, p d = true → me (es.set v (.dat d)) = .ok (f d, es.set v (.dat d))) (hl : ds.length ≤ sizeLine) :
    mComp [v] ms (bName v) mt me es = .ok (.lst ((ds.filter p).map f), es) := by
  unfold mComp Mi.bnd
  rw [hms]
  simp only [hno, if_pos, wipeE]
  rw [compL_fm ds [] es ht hm (by simpa using hl)]
  simp only [List.nil_append, rstE, set_getD hv]
theorem comp_map {v : Nat} {ms : M (List D)} {me : M D} {f : D → D} {ds : List D} {es : En} (hms : ms es = .ok (ds, es)) (hno : notOwn es [v] = true) (hv : v < es.length)
    (hm : ∀ d ∈ ds, me (es.set v (.dat d)) = .ok (f d, es.set v (.dat d))) (hl : ds.length ≤ sizeLine) :
    mComp [v] ms (bName v) mYes me es = .ok (.lst (ds.map f), es) := by
  have := comp_fm (mt := mYes) (p := fun _ => true) hms hno hv (fun _ _ => rfl) (fun d h _ => hm d h) hl
  have e : List.filter (fun _ : D => true) ds = ds := List.filter_eq_self.mpr fun _ _ => rfl
  rwa [e] at this
def chD (c : Nat) : D := .str ⟨#[c]⟩
theorem bls_map {α : Type} (p : α → Bool) : ∀ l : List α, bls (l.map fun x => D.bl (p x)) = some (l.map p)
  | [] => rfl
  | a :: l => by simp [bls, bls_map p l]
theorem dAll_map {α : Type} (p : α → Bool) (l : List α) : dAll [.lst (l.map fun x => D.bl (p x))] = some (.bl (l.all p)) := by
  simp only [dAll, bls_map, Option.map_some]
  congr 2
  simp [List.all_map, Function.comp_def]
theorem inB_ch (c : Nat) (z : Str) : dIn (.str ⟨#[c]⟩) (.str z) = some (.bl (decide (c ∈ z.cps.toList))) := rfl
theorem ninB_ch (c : Nat) (z : Str) : dNin (.str ⟨#[c]⟩) (.str z) = some (.bl (!decide (c ∈ z.cps.toList))) := rfl
theorem deq_str (s t : Str) : dEq (.str s) (.str t) = some (.bl (decide (s = t))) := by
  have e : scal (.str s) (.str t) = true := rfl
  simp only [dEq, eqB, flat, e, if_pos, Option.map_some]
  congr 2
  simp
theorem dne_str (s t : Str) : dNe (.str s) (.str t) = some (.bl (!decide (s = t))) := by
  have e : scal (.str s) (.str t) = true := rfl
  simp only [dNe, eqB, flat, e, if_pos, Option.map_some]
  congr 3
  simp
theorem dlen_str {s : Str} (h : s.length ≤ sizeLine) : dLen [.str s] = some (.int s.length) := by
  simp [dLen, okB, h]
theorem size_eq : sizeLine = 16777216 := PySem.sizeLine_eq
section
variable {es es1 es2 es3 : En} {a b c m : M D} {x y z : D} {f g : D → D → Option D} {α : Type} {r : R (D × En)} {t u : M Bool} {k l : Bool}
theorem ev_var {i : Nat} (h : es[i]? = some (.dat x)) : mVar i es = .ok (x, es) := by simp only [mVar, h]
theorem ev_bin (h1 : a es = .ok (x, es1)) (h2 : b es1 = .ok (y, es2)) (h3 : f x y = some z) : mBin f a b es = .ok (z, es2) := by simp only [mBin, Mi.bnd, h1, h2, Mi.opt, h3]
theorem ev_un {f : D → Option D} (h1 : a es = .ok (x, es1)) (h3 : f x = some z) : mUn f a es = .ok (z, es1) := by simp only [mUn, Mi.bnd, h1, Mi.opt, h3]
theorem ev_tst (h : a es = .ok (.bl k, es1)) : mTst a es = .ok (k, es1) := by simp only [mTst, Mi.bnd, h, Mi.opt, isBl]
theorem ev_tru (h : a es = .ok (x, es1)) (h2 : tru x = some k) : mTru a es = .ok (k, es1) := by simp only [mTru, Mi.bnd, h, Mi.opt, h2]
theorem ev_notT (h : t es = .ok (k, es1)) : mNotT t es = .ok (!k, es1) := by simp only [mNotT, Mi.bnd, h, Mi.ret]
theorem ev_nT_f (h : t es = .ok (true, es1)) : mNotT t es = .ok (false, es1) := ev_notT h
theorem ev_nT_t (h : t es = .ok (false, es1)) : mNotT t es = .ok (true, es1) := ev_notT h
theorem ev_andT_t {q : R (Bool × En)} (h : t es = .ok (true, es1)) (h2 : u es1 = q) : mAndT t u es = q := by simp only [mAndT, Mi.bnd, h, if_pos, h2]
theorem ev_andT_f (h : t es = .ok (false, es1)) : mAndT t u es = .ok (false, es1) := by simp only [mAndT, Mi.bnd, h]; rfl
theorem ev_orT_t (h : t es = .ok (true, es1)) : mOrT t u es = .ok (true, es1) := by simp only [mOrT, Mi.bnd, h]; rfl
theorem ev_orT_f {q : R (Bool × En)} (h : t es = .ok (false, es1)) (h2 : u es1 = q) : mOrT t u es = q := by simp only [mOrT, Mi.bnd, h]; exact h2
theorem ev_orT (h : t es = .ok (k, es1)) (h2 : k = false → u es1 = .ok (l, es1)) : mOrT t u es = .ok (k || l, es1) := by
  cases k with
  | true => exact ev_orT_t h
  | false => exact ev_orT_f h (h2 rfl)
theorem ev_andT (h : t es = .ok (k, es1)) (h2 : k = true → u es1 = .ok (l, es1)) : mAndT t u es = .ok (k && l, es1) := by
  cases k with
  | true => exact ev_andT_t h (h2 rfl)
  | false => exact ev_andT_f h
theorem ev_and (h : a es = .ok (.bl k, es1)) (h2 : k = true → b es1 = .ok (.bl l, es1)) : mAnd a b es = .ok (.bl (k && l), es1) := by
  cases k with
  | true => simp only [mAnd, Mi.bnd, h, Mi.opt, isBl, if_pos, h2 rfl, Bool.true_and]
  | false => simp only [mAnd, Mi.bnd, h, Mi.opt, isBl]; rfl
theorem ev_not (h : a es = .ok (.bl k, es1)) : mNot a es = .ok (.bl (!k), es1) := by simp only [mNot, Mi.bnd, h, Mi.opt, isBl, Mi.ret]
theorem ev_ife_t (h : t es = .ok (true, es1)) (h2 : a es1 = r) : mIfE t a b es = r := by simp only [mIfE, Mi.bnd, h, if_pos, h2]
theorem ev_ife_f (h : t es = .ok (false, es1)) (h2 : b es1 = r) : mIfE t a b es = r := by simp only [mIfE, Mi.bnd, h]; exact h2
theorem ev_chn (h1 : a es = .ok (x, es)) (h2 : b es = .ok (y, es)) (h3 : f x y = some (.bl k)) (h4 : c es = .ok (z, es)) (h5 : g y z = some (.bl l)) : mChn f g a b c es = .ok (.bl (k && l), es) := by
  cases k with
  | true => simp only [mChn, Mi.bnd, h1, h2, h3, h4, h5, Mi.opt, isBl, if_pos, Bool.true_and]
  | false => simp only [mChn, Mi.bnd, h1, h2, h3, Mi.opt, isBl]; rfl
theorem ev_cons {w : M (List D)} {xs : List D} (h1 : a es = .ok (x, es1)) (h2 : w es1 = .ok (xs, es2)) : mCons a w es = .ok (x :: xs, es2) := by simp only [mCons, Mi.bnd, h1, h2, Mi.ret]
theorem ev_one (h1 : a es = .ok (x, es1)) : mCons a mNil es = .ok ([x], es1) := ev_cons h1 rfl
theorem ev_tup {w : M (List D)} {xs : List D} (h : w es = .ok (xs, es1)) (hl : xs.length ≤ sizeLine) : mTup w es = .ok (.tup xs, es1) := by simp only [mTup, Mi.bnd, h, Mi.opt, fit, if_pos hl]
theorem ev_lst {w : M (List D)} {xs : List D} (h : w es = .ok (xs, es1)) (hl : xs.length ≤ sizeLine) : mLst w es = .ok (.lst xs, es1) := by simp only [mLst, Mi.bnd, h, Mi.opt, fit, if_pos hl]
theorem ev_cb {w : M (List D)} {xs : List D} {f : List D → Option D} (h : w es = .ok (xs, es1)) (h2 : f xs = some x) : mCB f w es = .ok (x, es1) := by simp only [mCB, Mi.bnd, h, Mi.opt, h2]
theorem ev_m1 {f : Str → D → Option D} {s : Str} (h : a es = .ok (.str s, es1)) (h2 : b es1 = .ok (y, es2)) (h3 : f s y = some z) : mM1 f a b es = .ok (z, es2) := by simp only [mM1, Mi.bnd, h, h2, Mi.opt, h3]
theorem ev_isa {T : Ty} (h : a es = .ok (x, es1)) (h2 : isa T x = some k) : mIsa T a es = .ok (.bl k, es1) := by simp only [mIsa, Mi.bnd, h, Mi.opt, h2, Option.map_some]
theorem ev_isa2 {T U : Ty} (h : a es = .ok (x, es1)) (h2 : isa T x = some k) (h3 : isa U x = some l) : mIsa2 T U a es = .ok (.bl (k || l), es1) := by simp only [mIsa2, Mi.bnd, h, Mi.opt, h2, h3, Option.map_some, Option.bind_some]
theorem ev_part {i : Int} (h : a es = .ok (.int i, es1)) : mPart a es = .ok (some i, es1) := by simp only [mPart, Mi.bnd, h, Mi.opt, isI, Mi.ret]
theorem ev_sl {f : D → Option Int → Option Int → Option D} {v w : M (Option Int)} {i j : Option Int} (h : a es = .ok (x, es1)) (h1 : v es1 = .ok (i, es2)) (h2 : w es2 = .ok (j, es3)) (h3 : f x i j = some z) : mSl f a v w es = .ok (z, es3) := by simp only [mSl, Mi.bnd, h, h1, h2, Mi.opt, h3]
theorem ev_call {n : Nat} {g : List D → R D} {w : M (List D)} {xs : List D} (h : w es = .ok (xs, es1)) (hl : xs.length = n) (h2 : g xs = .ok x) : mCall n g w es = .ok (x, es1) := by simp only [mCall, Mi.bnd, h, if_pos hl, Mi.lft, h2]
theorem ev_callO {i n : Nat} {g : List D → List D → R (D × List D)} {w : M (List D)} {xs l l1 l2 : List D} (h0 : ownAt i es = some l) (h : w es = .ok (xs, es1)) (h1 : ownAt i es1 = some l1) (hl : xs.length = n) (h2 : g l1 xs = .ok (x, l2)) : mCallO i n g w es = .ok (x, es1.set i (.own l2)) := by
  simp only [mCallO, h0, Mi.bnd, h, h1, if_pos hl, h2]
end
section
variable {es es1 es2 es3 : En} {a b : M D} {x y : D} {t : M Bool} {m n : M Out} {q : R (Out × En)}
theorem ev_ret (h : a es = .ok (x, es1)) : mRet a es = .ok (.rt x, es1) := by simp only [mRet, Mi.bnd, h, Mi.ret]
theorem ev_seq (h : m es = .ok (.nx, es1)) (h2 : n es1 = q) : mSeq m n es = q := by simp only [mSeq, Mi.bnd, h, h2]
theorem ev_seq_rt (h : m es = .ok (.rt x, es1)) : mSeq m n es = .ok (.rt x, es1) := by simp only [mSeq, Mi.bnd, h, Mi.ret]
theorem ev_seq_exc {c : Nat} {d : D} (h : m es = .exc c d) : mSeq m n es = .exc c d := by simp only [mSeq, Mi.bnd, h]
theorem ev_if_t (h : t es = .ok (true, es1)) (h2 : m es1 = q) : mIf t m n es = q := by simp only [mIf, Mi.bnd, h, if_pos, h2]
theorem ev_if_f (h : t es = .ok (false, es1)) (h2 : n es1 = q) : mIf t m n es = q := by simp only [mIf, Mi.bnd, h]; exact h2
theorem ev_next : mNext es = .ok (.nx, es) := rfl
theorem ev_asg {f : D → M Unit} (h : a es = .ok (x, es1)) (h2 : f x es1 = .ok ((), es2)) : mAsg f a es = .ok (.nx, es2) := by simp only [mAsg, Mi.bnd, h, h2, Mi.ret]
theorem ev_set {i : Nat} (h : a es = .ok (x, es1)) : mAsg (bName i) a es = .ok (.nx, es1.set i (.dat x)) := ev_asg h rfl
theorem ev_drop (h : a es = .ok (x, es1)) : mDrop a es = .ok (.nx, es1) := by simp only [mDrop, Mi.bnd, h, Mi.ret]
theorem ev_raise {c : Nat} (h : a es = .ok (x, es1)) : mRaise c a es = .exc c x := by simp only [mRaise, Mi.bnd, h]
theorem ev_app {i : Nat} {l l1 : List D} (h0 : ownAt i es = some l) (h : a es = .ok (x, es1)) (h1 : ownAt i es1 = some l1) (hl : l1.length < sizeLine) : mApp i a es = .ok (.non, es1.set i (.own (l1 ++ [x]))) := by simp only [mApp, h0, Mi.bnd, h, h1, if_pos hl]
theorem ev_asgO {i : Nat} {w : M (List D)} {xs : List D} (h : w es = .ok (xs, es1)) (hl : xs.length ≤ sizeLine) : mAsgO i w es = .ok (.nx, es1.set i (.own xs)) := by simp only [mAsgO, Mi.bnd, h, if_pos hl]
theorem ev_parO {i j : Nat} (h : a es = .ok (x, es1)) : mParO i j a es = .ok (.nx, (es1.set i (.dat x)).set j (.own [])) := by simp only [mParO, Mi.bnd, h]
theorem ev_par {is : List Nat} {w : M (List D)} {xs : List D} (h : w es = .ok (xs, es1)) (h2 : bNames is xs es1 = .ok ((), es2)) : mPar is w es = .ok (.nx, es2) := by simp only [mPar, Mi.bnd, h, h2, Mi.ret]
theorem ev_for {w : M (List D)} {xs : List D} {f : D → M Unit} (h : w es = .ok (xs, es1)) (h2 : loopM f m xs es1 = q) : mFor w f m es = q := by simp only [mFor, Mi.bnd, h, h2]
theorem ev_iL {l : List D} (h : a es = .ok (.lst l, es1)) : mIL a es = .ok (l, es1) := by simp only [mIL, Mi.bnd, h, Mi.opt, lstOf]
theorem ev_iT {l : List D} (h : a es = .ok (.tup l, es1)) : mIT a es = .ok (l, es1) := by simp only [mIT, Mi.bnd, h, Mi.opt, tupOf]
theorem ev_iS {s : Str} (h : a es = .ok (.str s, es1)) : mIS a es = .ok (s.cps.toList.map fun c => .str ⟨#[c]⟩, es1) := by simp only [mIS, Mi.bnd, h, Mi.opt, strOf]
theorem ev_fn {k : Nat} {ds : List D} (h : m (ds.map Sl.dat ++ List.replicate (k - ds.length) .un) = .ok (.rt x, es1)) : fnM k m ds = .ok x := by simp only [fnM, h, ends]
theorem ev_fn_exc {k : Nat} {ds : List D} {c : Nat} {d : D} (h : m (ds.map Sl.dat ++ List.replicate (k - ds.length) .un) = .exc c d) : fnM k m ds = .exc c d := by simp only [fnM, h, ends]
end
theorem ev_len {es es1 : En} {a : M D} {s : Str} (h : a es = .ok (.str s, es1)) (hl : s.length ≤ sizeLine) : mCB dLen (mCons a mNil) es = .ok (.int s.length, es1) := ev_cb (ev_one h) (dlen_str hl)
section
variable {es es1 es2 : En} {a : M D} {x : D}
theorem ev_setL {i : Nat} (h : a es = .ok (x, es1)) (he : es1.set i (.dat x) = es2 := by rfl) : mAsg (bName i) a es = .ok (.nx, es2) := by rw [← he]; exact ev_set h
theorem ev_appL {i : Nat} {l l1 : List D} (h0 : ownAt i es = some l) (h : a es = .ok (x, es1)) (h1 : ownAt i es1 = some l1) (hl : l1.length < sizeLine) (he : es1.set i (.own (l1 ++ [x])) = es2 := by rfl) : mApp i a es = .ok (.non, es2) := by rw [← he]; exact ev_app h0 h h1 hl
theorem ev_callOL {i n : Nat} {g : List D → List D → R (D × List D)} {w : M (List D)} {xs l l1 l2 : List D} (h0 : ownAt i es = some l) (h : w es = .ok (xs, es1)) (h1 : ownAt i es1 = some l1) (hl : xs.length = n) (h2 : g l1 xs = .ok (x, l2)) (he : es1.set i (.own l2) = es2 := by rfl) : mCallO i n g w es = .ok (x, es2) := by rw [← he]; exact ev_callO h0 h h1 hl h2
end
theorem ev_l_nil {b : D → M Unit} {m : M Out} {es : En} : loopM b m [] es = .ok (.nx, es) := rfl
theorem ev_l_cons {b : D → M Unit} {m : M Out} {d : D} {ds : List D} {es es1 es2 : En} {q : R (Out × En)} (h : b d es = .ok ((), es1)) (h2 : m es1 = .ok (.nx, es2)) (h3 : loopM b m ds es2 = q) : loopM b m (d :: ds) es = q := by simp only [loopM, Mi.bnd, h, h2, h3]
theorem ev_l_rt {b : D → M Unit} {m : M Out} {d x : D} {ds : List D} {es es1 es2 : En} (h : b d es = .ok ((), es1)) (h2 : m es1 = .ok (.rt x, es2)) : loopM b m (d :: ds) es = .ok (.rt x, es2) := by simp only [loopM, Mi.bnd, h, h2, Mi.ret]
end Mi
namespace G
open PySem PySem.Spec PyProof.Rows L2 Mi
def m_is_integer : M Out := (mRet (mAnd (mIsa .int (mVar 0)) (mNot (mIsa .bool (mVar 0)))))
def g_is_integer : List D → R D := fnM 1 m_is_integer
def m_is_word : M Out := (mRet (mAnd (mIsa .str (mVar 0)) (mAnd (mChn dLe dLe (mC (.int 1)) (mCB dLen (mCons (mVar 0) mNil)) (mC (.int 8))) (mCB dAll (mCons (mComp [1] (mIS (mVar 0)) (bName 1) mYes (mBin dIn (mVar 1) (mC (.str "abcdefghijklmnopqrstuvwxyz")))) mNil)))))
def g_is_word : List D → R D := fnM 2 m_is_word
def m_is_between : M Out := (mRet (mAnd (mCall 1 g_is_integer (mCons (mVar 0) mNil)) (mChn dLe dLe (mVar 1) (mVar 0) (mVar 2))))
def g_is_between : List D → R D := fnM 3 m_is_between
def m_number_in : M Out := (mSeq (mIf (mOrT (mNotT (mTru (mIsa .str (mVar 0)))) (mOrT (mNotT (mTst (mChn dLe dLe (mC (.int 1)) (mCB dLen (mCons (mVar 0) mNil)) (mC (.int 31))))) (mNotT (mTru (mCB dAll (mCons (mComp [1] (mIS (mVar 0)) (bName 1) mYes (mBin dIn (mVar 1) (mC (.str "0123456789")))) mNil)))))) (mRet (mC .non)) mNext)
    (mRet (mIfE (mOrT (mTst (mBin dEq (mVar 0) (mC (.str "0")))) (mTst (mBin dNe (mBin dIx (mVar 0) (mC (.int 0))) (mC (.str "0"))))) (mCB dInt (mCons (mVar 0) mNil)) (mC .non))))
def g_number_in : List D → R D := fnM 2 m_number_in
def m_is_value : M Out := (mRet (mCall 3 g_is_between (mCons (mVar 0) (mCons (mC (.int 0)) (mCons (mC (.int 1000000000000000)) mNil)))))
def g_is_value : List D → R D := fnM 1 m_is_value
def m_is_entry : M Out := (mSeq (mIf (mOrT (mNotT (mTru (mIsa .tuple (mVar 0)))) (mOrT (mTst (mBin dNe (mCB dLen (mCons (mVar 0) mNil)) (mC (.int 4)))) (mNotT (mTru (mCall 1 g_is_word (mCons (mBin dIx (mVar 0) (mC (.int 0))) mNil)))))) (mRet (mC (.bl false))) mNext)
    (mSeq (mIf (mOrT (mNotT (mTru (mIsa .str (mBin dIx (mVar 0) (mC (.int 1)))))) (mNotT (mTru (mIsa .tuple (mBin dIx (mVar 0) (mC (.int 3))))))) (mRet (mC (.bl false))) mNext)
    (mSeq (mIf (mTst (mBin dEq (mBin dIx (mVar 0) (mC (.int 1))) (mC (.str "work")))) (mRet (mAnd (mCall 3 g_is_between (mCons (mBin dIx (mVar 0) (mC (.int 2))) (mCons (mC (.int 1)) (mCons (mC (.int 99)) mNil)))) (mBin dEq (mBin dIx (mVar 0) (mC (.int 3))) (mTup mNil)))) mNext)
    (mSeq (mIf (mOrT (mTst (mBin dNin (mBin dIx (mVar 0) (mC (.int 1))) (mTup (mCons (mC (.str "send")) (mCons (mC (.str "take")) mNil))))) (mNotT (mTru (mCall 1 g_is_word (mCons (mBin dIx (mVar 0) (mC (.int 2))) mNil))))) (mRet (mC (.bl false))) mNext)
    (mRet (mAnd (mChn dLe dLe (mC (.int 1)) (mCB dLen (mCons (mBin dIx (mVar 0) (mC (.int 3))) mNil)) (mC (.int 9))) (mCB dAll (mCons (mComp [1] (mIT (mBin dIx (mVar 0) (mC (.int 3)))) (bName 1) mYes (mCall 1 g_is_value (mCons (mVar 1) mNil))) mNil))))))))
def g_is_entry : List D → R D := fnM 2 m_is_entry
def m_check_behind : M Out := (mSeq (mAsg (bName 2) (mVar 0))
    (mSeq (mFor (mIS (mVar 1)) (bName 3) (mSeq (mAsg (bName 4) (mBin dAdd (mBin dMul (mVar 2) (mC (.int 131))) (mCB dOrd (mCons (mVar 3) mNil))))
    (mAsg (bName 2) (mBin dSub (mVar 4) (mBin dMul (mBin dDiv (mVar 4) (mC (.int 9973))) (mC (.int 9973)))))))
    (mRet (mVar 2))))
def g_check_behind : List D → R D := fnM 5 m_check_behind
def m_entry_text : M Out := (mSeq (mAsg (bTup [1, 2, 3, 4]) (mVar 0))
    (mRet (mM1 dJoin (mC (.str " ")) (mBin dAdd (mLst (mCons (mVar 1) (mCons (mVar 2) (mCons (mCB dStr (mCons (mVar 3) mNil)) mNil)))) (mComp [5] (mIT (mVar 4)) (bName 5) mYes (mCB dStr (mCons (mVar 5) mNil)))))))
def g_entry_text : List D → R D := fnM 6 m_entry_text
def m_write_journal : M Out := (mSeq (mIf (mOrT (mNotT (mTru (mIsa2 .list .tuple (mVar 0)))) (mNotT (mTru (mCB dAll (mCons (mComp [1] (mIL (mVar 0)) (bName 1) mYes (mCall 1 g_is_entry (mCons (mVar 1) mNil))) mNil))))) (mRaise 0 (mVar 0)) mNext)
    (mSeq (mParO 2 3 (mC (.int 7)))
    (mSeq (mFor (mIL (mVar 0)) (bName 1) (mSeq (mAsg (bName 4) (mCall 1 g_entry_text (mCons (mVar 1) mNil)))
    (mSeq (mAsg (bName 2) (mCall 2 g_check_behind (mCons (mVar 2) (mCons (mVar 4) mNil))))
    (mDrop (mApp 3 (mFs [(mFmt (mVar 4)), (mC (.str " ")), (mFmt (mVar 2)), (mC (.str "\n"))]))))))
    (mRet (mM1 dJoin (mC (.str "")) (mVar 3))))))
def g_write_journal : List D → R D := fnM 5 m_write_journal
def m_entry_in : M Out := (mSeq (mAsg (bName 1) (mM1 dSplit (mVar 0) (mC (.str " "))))
    (mSeq (mIf (mTst (mBin dLt (mCB dLen (mCons (mVar 1) mNil)) (mC (.int 3)))) (mRet (mC .non)) mNext)
    (mSeq (mAsg (bName 2) (mIfE (mTst (mBin dEq (mBin dIx (mVar 1) (mC (.int 1))) (mC (.str "work")))) (mCall 1 g_number_in (mCons (mBin dIx (mVar 1) (mC (.int 2))) mNil)) (mBin dIx (mVar 1) (mC (.int 2)))))
    (mSeq (mAsg (bName 3) (mTup (mCons (mBin dIx (mVar 1) (mC (.int 0))) (mCons (mBin dIx (mVar 1) (mC (.int 1))) (mCons (mVar 2) (mCons (mCB dTuple (mCons (mComp [4] (mIL (mSl dSl (mVar 1) (mPart (mC (.int 3))) mNo)) (bName 4) mYes (mCall 1 g_number_in (mCons (mVar 4) mNil))) mNil)) mNil))))))
    (mRet (mIfE (mAndT (mTru (mCall 1 g_is_entry (mCons (mVar 3) mNil))) (mTst (mBin dEq (mCall 1 g_entry_text (mCons (mVar 3) mNil)) (mVar 0)))) (mVar 3) (mC .non)))))))
def g_entry_in : List D → R D := fnM 5 m_entry_in
def m_read_lines : M Out := (mSeq (mAsg (bName 1) (mM1 dSplit (mVar 0) (mC (.str "\n"))))
    (mSeq (mParO 2 3 (mC (.int 7)))
    (mSeq (mFor (mEn (mCons (mSl dSl (mVar 1) mNo (mPart (mUn dNeg (mC (.int 1))))) mNil)) (bTup [4, 5]) (mSeq (mAsg (bTup [6, 7, 8]) (mM1 dRpart (mVar 5) (mC (.str " "))))
    (mSeq (mAsg (bName 9) (mCall 1 g_entry_in (mCons (mVar 6) mNil)))
    (mSeq (mAsg (bName 2) (mCall 2 g_check_behind (mCons (mVar 2) (mCons (mVar 6) mNil))))
    (mSeq (mIf (mOrT (mTst (mBin dIs (mVar 9) (mC .non))) (mTst (mBin dNe (mVar 8) (mCB dStr (mCons (mVar 2) mNil))))) (mRet (mTup (mCons (mVar 3) (mCons (mVar 4) mNil)))) mNext)
    (mDrop (mApp 3 (mVar 9))))))))
    (mRet (mTup (mCons (mVar 3) (mCons (mIfE (mTst (mBin dEq (mBin dIx (mVar 1) (mUn dNeg (mC (.int 1)))) (mC (.str "")))) (mC .non) (mBin dSub (mCB dLen (mCons (mVar 1) mNil)) (mC (.int 1)))) mNil)))))))
def g_read_lines : List D → R D := fnM 10 m_read_lines
def m_read_journal : M Out := (mSeq (mIf (mNotT (mTru (mIsa .str (mVar 0)))) (mRaise 1 (mC (.int 0))) mNext)
    (mSeq (mAsg (bTup [1, 2]) (mCall 1 g_read_lines (mCons (mVar 0) mNil)))
    (mSeq (mIf (mTst (mBin dIsn (mVar 2) (mC .non))) (mRaise 1 (mVar 2)) mNext)
    (mRet (mVar 1)))))
def g_read_journal : List D → R D := fnM 3 m_read_journal
def m_recover : M Out := (mSeq (mIf (mNotT (mTru (mIsa .str (mVar 0)))) (mRaise 1 (mC (.int 0))) mNext)
    (mRet (mBin dIx (mCall 1 g_read_lines (mCons (mVar 0) mNil)) (mC (.int 0)))))
def g_recover : List D → R D := fnM 1 m_recover
def m__law_pool : M (List D) := (mSeqF (mAsg (bName 2) (mIfE (mTst (mBin dLt (mVar 1) (mCB dLen (mCons (mVar 0) mNil)))) (mBin dIx (mVar 0) (mVar 1)) (mC (.int 0))))
    (mSeqF (mAsg (bName 3) (mBin dMul (mCB dInt (mCons (mBin dAdd (mBin dAdd (mBin dMod (mCB dInt (mCons (mVar 2) mNil)) (mC (.int 2147483629))) (mBin dMul (mBin dMul (mC (.int 7919)) (mVar 1)) (mVar 1))) (mC (.int 13))) mNil)) (mC (.int 48271))))
    (mRetF (mCons (mIfE (mTst (mBin dGe (mVar 2) (mBin dPow (mC (.int 10)) (mC (.int 18))))) (mVar 2) (mC (.int 0))) (mCons (mBin dAdd (mBin dMod (mCB dInt (mCons (mVar 3) mNil)) (mC (.int 2147483647))) (mC (.int 1))) mNil)))))
def g__law_pool : List D → R (List D) := fnF 4 m__law_pool
def m__law_take : M Out := (mSeq (mIf (mTst (mBin dGt (mIxO 0 (mC (.int 0))) (mC (.int 0)))) (mSeq (mAsg (bName 2) (mBin dMod (mCB dInt (mCons (mIxO 0 (mC (.int 0))) mNil)) (mVar 1)))
    (mSeq (mSetO 0 (mC (.int 0)) (mBin dDiv (mIxO 0 (mC (.int 0))) (mVar 1)))
    (mRet (mVar 2)))) mNext)
    (mSeq (mSetO 0 (mC (.int 1)) (mBin dMod (mCB dInt (mCons (mBin dAdd (mBin dMul (mIxO 0 (mC (.int 1))) (mC (.int 48271))) (mC (.int 11))) mNil)) (mC (.int 2147483647))))
    (mRet (mBin dMod (mBin dDiv (mBin dMod (mCB dInt (mCons (mBin dMul (mIxO 0 (mC (.int 1))) (mIxO 0 (mC (.int 1)))) mNil)) (mC (.int 2147483629))) (mC (.int 64))) (mVar 1)))))
def g__law_take : List D → List D → R (D × List D) := fnO 3 m__law_take
def m__law_entry : M Out := (mSeq (mPar [1, 2] (mCons (mBin dIx (mLst (mCons (mC (.str "ann")) (mCons (mC (.str "b")) (mCons (mC (.str "zzzzzzzz")) mNil)))) (mCallO 0 1 g__law_take (mCons (mC (.int 3)) mNil))) (mCons (mBin dIx (mLst (mCons (mC (.str "c")) (mCons (mC (.str "work")) (mCons (mC (.str "take")) mNil)))) (mCallO 0 1 g__law_take (mCons (mC (.int 3)) mNil))) mNil)))
    (mSeq (mIf (mTst (mBin dEq (mCallO 0 1 g__law_take (mCons (mC (.int 4)) mNil)) (mC (.int 0)))) (mRet (mTup (mCons (mVar 1) (mCons (mC (.str "work")) (mCons (mBin dAdd (mC (.int 1)) (mCallO 0 1 g__law_take (mCons (mC (.int 99)) mNil))) (mCons (mTup mNil) mNil)))))) mNext)
    (mSeq (mAsgO 3 mNil)
    (mSeq (mFor (mRg1 (mCons (mBin dAdd (mC (.int 1)) (mCallO 0 1 g__law_take (mCons (mC (.int 2)) mNil))) mNil)) (bName 4) (mDrop (mApp 3 (mBin dIx (mLst (mCons (mCallO 0 1 g__law_take (mCons (mC (.int 12)) mNil)) (mCons (mCallO 0 1 g__law_take (mCons (mBin dAdd (mBin dPow (mC (.int 10)) (mC (.int 15))) (mC (.int 1))) mNil)) mNil))) (mCallO 0 1 g__law_take (mCons (mC (.int 2)) mNil))))))
    (mRet (mTup (mCons (mVar 1) (mCons (mBin dIx (mLst (mCons (mC (.str "send")) (mCons (mC (.str "take")) mNil))) (mCallO 0 1 g__law_take (mCons (mC (.int 2)) mNil))) (mCons (mVar 2) (mCons (mCB dTuple (mCons (mVar 3) mNil)) mNil))))))))))
def g__law_entry : List D → List D → R (D × List D) := fnO 5 m__law_entry
def m__law_check : M Out := (mSeq (mFor (mIS (mVar 1)) (bName 2) (mAsg (bName 0) (mBin dMod (mCB dInt (mCons (mBin dAdd (mBin dMul (mVar 0) (mC (.int 131))) (mCB dOrd (mCons (mVar 2) mNil))) mNil)) (mC (.int 9973)))))
    (mRet (mVar 0)))
def g__law_check : List D → R D := fnM 3 m__law_check
def m__law_is_word : M Out := (mSeq (mAsg (bName 1) (mComp [2] (mIS (mVar 0)) (bName 2) (mTst (mBin dNin (mVar 2) (mC (.str "abcdefghijklmnopqrstuvwxyz")))) (mC (.int 1))))
    (mRet (mAnd (mChn dLe dLe (mC (.int 1)) (mCB dLen (mCons (mVar 0) mNil)) (mC (.int 8))) (mBin dEq (mVar 1) (mLst mNil)))))
def g__law_is_word : List D → R D := fnM 3 m__law_is_word
def m__law_number : M Out := (mSeq (mIf (mOrT (mTst (mBin dEq (mVar 0) (mC (.str "")))) (mOrT (mTst (mBin dGt (mCB dLen (mCons (mVar 0) mNil)) (mC (.int 16)))) (mTst (mBin dNe (mComp [3] (mIS (mVar 0)) (bName 3) (mTst (mBin dNin (mVar 3) (mC (.str "0123456789")))) (mC (.int 1))) (mLst mNil))))) (mRet (mC .non)) mNext)
    (mSeq (mIf (mOrT (mAndT (mTst (mBin dEq (mBin dIx (mVar 0) (mC (.int 0))) (mC (.str "0")))) (mTst (mBin dNe (mVar 0) (mC (.str "0"))))) (mNotT (mTst (mChn dLe dLe (mVar 1) (mCB dInt (mCons (mVar 0) mNil)) (mVar 2))))) (mRet (mC .non)) mNext)
    (mRet (mCB dInt (mCons (mVar 0) mNil)))))
def g__law_number : List D → R D := fnM 4 m__law_number
def m__law_entry_in : M Out := (mSeq (mAsg (bName 1) (mM1 dSplit (mVar 0) (mC (.str " "))))
    (mSeq (mIf (mOrT (mTst (mBin dLt (mCB dLen (mCons (mVar 1) mNil)) (mC (.int 3)))) (mNotT (mTru (mCall 1 g__law_is_word (mCons (mBin dIx (mVar 1) (mC (.int 0))) mNil))))) (mRet (mC .non)) mNext)
    (mSeq (mIf (mTst (mBin dEq (mBin dIx (mVar 1) (mC (.int 1))) (mC (.str "work")))) (mSeq (mAsg (bName 2) (mCall 3 g__law_number (mCons (mBin dIx (mVar 1) (mC (.int 2))) (mCons (mC (.int 1)) (mCons (mC (.int 99)) mNil)))))
    (mRet (mIfE (mAndT (mTst (mBin dEq (mCB dLen (mCons (mVar 1) mNil)) (mC (.int 3)))) (mTst (mBin dIsn (mVar 2) (mC .non)))) (mTup (mCons (mBin dIx (mVar 1) (mC (.int 0))) (mCons (mC (.str "work")) (mCons (mVar 2) (mCons (mTup mNil) mNil))))) (mC .non)))) mNext)
    (mSeq (mAsg (bName 3) (mComp [4] (mIL (mSl dSl (mVar 1) (mPart (mC (.int 3))) mNo)) (bName 4) mYes (mCall 3 g__law_number (mCons (mVar 4) (mCons (mC (.int 0)) (mCons (mBin dPow (mC (.int 10)) (mC (.int 15))) mNil))))))
    (mSeq (mIf (mOrT (mTst (mBin dNin (mBin dIx (mVar 1) (mC (.int 1))) (mLst (mCons (mC (.str "send")) (mCons (mC (.str "take")) mNil))))) (mOrT (mNotT (mTru (mCall 1 g__law_is_word (mCons (mBin dIx (mVar 1) (mC (.int 2))) mNil)))) (mOrT (mTst (mBin dIn (mC .non) (mVar 3))) (mNotT (mTst (mChn dLe dLe (mC (.int 1)) (mCB dLen (mCons (mVar 3) mNil)) (mC (.int 9)))))))) (mRet (mC .non)) mNext)
    (mRet (mTup (mCons (mBin dIx (mVar 1) (mC (.int 0))) (mCons (mBin dIx (mVar 1) (mC (.int 1))) (mCons (mBin dIx (mVar 1) (mC (.int 2))) (mCons (mCB dTuple (mCons (mVar 3) mNil)) mNil)))))))))))
def g__law_entry_in : List D → R D := fnM 5 m__law_entry_in
def m__law_due : M Out := (mSeq (mPar3O 1 2 3 (mM1 dSplit (mVar 0) (mC (.str "\n"))) (.int 7))
    (mSeq (mFor (mEn (mCons (mSl dSl (mVar 1) mNo (mPart (mUn dNeg (mC (.int 1))))) mNil)) (bTup [4, 5]) (mSeq (mAsg (bTup [6, 7, 8]) (mM1 dRpart (mVar 5) (mC (.str " "))))
    (mSeq (mPar [9, 3] (mCons (mCall 1 g__law_entry_in (mCons (mVar 6) mNil)) (mCons (mCall 2 g__law_check (mCons (mVar 3) (mCons (mVar 6) mNil))) mNil)))
    (mSeq (mIf (mOrT (mTst (mBin dIs (mVar 9) (mC .non))) (mTst (mBin dNe (mVar 8) (mCB dStr (mCons (mVar 3) mNil))))) (mRet (mLst (mCons (mVar 2) (mCons (mVar 4) mNil)))) mNext)
    (mDrop (mApp 2 (mVar 9)))))))
    (mRet (mLst (mCons (mVar 2) (mCons (mIfE (mTst (mBin dEq (mBin dIx (mVar 1) (mUn dNeg (mC (.int 1)))) (mC (.str "")))) (mC .non) (mBin dSub (mCB dLen (mCons (mVar 1) mNil)) (mC (.int 1)))) mNil))))))
def g__law_due : List D → R D := fnM 10 m__law_due
def m__law_read : M Out := (mSeq (mAsg (bName 1) (mC .non))
    (mSeq (mTry 2 1 1 1 g_read_journal (mCons (mVar 0) mNil) (fun dv => (mAsg (bName 1) (mLst (mCons (mC dv) (mCons (mC (.bl true)) mNil))))))
    (mRet (mVar 1))))
def g__law_read : List D → R D := fnM 3 m__law_read
def m__law_texts : M Out := (mSeq (mPar [2, 3, 4] (mCons (mM1 dSplit (mVar 1) (mC (.str "\n"))) (mCons (mCallO 0 1 g__law_take (mCons (mBin dAdd (mCB dLen (mCons (mVar 1) mNil)) (mC (.int 1))) mNil)) (mCons (mCallO 0 1 g__law_take (mCons (mBin dAdd (mCB dLen (mCons (mVar 1) mNil)) (mC (.int 1))) mNil)) mNil))))
    (mSeq (mPar [5, 6] (mCons (mCallO 0 1 g__law_take (mCons (mCB dLen (mCons (mVar 2) mNil)) mNil)) (mCons (mBin dIx (mLst (mCons (mC (.str " ")) (mCons (mC (.str "0")) (mCons (mC (.str "a")) (mCons (mC (.str "\n")) (mCons (mC (.str "9")) (mCons (mC (.str "-")) (mCons (mC (.str "A")) mNil)))))))) (mCallO 0 1 g__law_take (mCons (mC (.int 7)) mNil))) mNil)))
    (mSeq (mAsg (bName 7) (mLst (mCons (mBin dAdd (mBin dAdd (mSl dSl (mVar 1) mNo (mPart (mVar 3))) (mVar 6)) (mSl dSl (mVar 1) (mPart (mVar 3)) mNo)) (mCons (mBin dAdd (mSl dSl (mVar 1) mNo (mPart (mVar 3))) (mSl dSl (mVar 1) (mPart (mBin dAdd (mVar 3) (mC (.int 1)))) mNo)) (mCons (mBin dAdd (mBin dAdd (mSl dSl (mVar 1) mNo (mPart (mVar 3))) (mVar 6)) (mSl dSl (mVar 1) (mPart (mBin dAdd (mVar 3) (mC (.int 1)))) mNo)) (mCons (mBin dAdd (mVar 1) (mVar 1)) mNil))))))
    (mSeq (mAsg (bName 7) (mBin dAdd (mVar 7) (mLst (mCons (mBin dAdd (mSl dSl (mVar 1) mNo (mPart (mVar 3))) (mSl dSl (mVar 1) (mPart (mVar 4)) mNo)) (mCons (mM1 dJoin (mC (.str "\n")) (mBin dAdd (mSl dSl (mVar 2) mNo (mPart (mVar 5))) (mSl dSl (mVar 2) (mPart (mBin dAdd (mVar 5) (mC (.int 1)))) mNo))) (mCons (mM1 dJoin (mC (.str "\n")) (mRev (mVar 2))) mNil))))))
    (mSeq (mAsg (bName 8) (mBin dAdd (mBin dAdd (mSl dSl (mVar 2) mNo (mPart (mVar 5))) (mSl dSl (mVar 2) (mPart (mVar 5)) (mPart (mBin dAdd (mVar 5) (mC (.int 1)))))) (mSl dSl (mVar 2) (mPart (mVar 5)) mNo)))
    (mSeq (mAsg (bName 7) (mBin dAdd (mVar 7) (mLst (mCons (mM1 dJoin (mC (.str "\n")) (mVar 8)) (mCons (mUn (dRep1 " " "  ") (mVar 1)) mNil))))) (mRet (mBin dAdd (mVar 7) (mLst (mCons (mUn (dRepl " 1" " 01") (mVar 1)) (mCons (mUn (dRepl " 5" " +5") (mVar 1)) (mCons (mBin dAdd (mC (.str "\n")) (mVar 1)) (mCons (mBin dAdd (mVar 1) (mC (.str "\n"))) (mCons (mBin dAdd (mVar 1) (mC (.str " "))) mNil))))))))))))))
def g__law_texts : List D → List D → R (D × List D) := fnO 9 m__law_texts
def m_law : M Out := (mSeq (mFor (mRg1 (mCons (mCB dMax (mCons (mC (.int 1)) (mCons (mCB dMin (mCons (mCB dLen (mCons (mVar 0) mNil)) (mCons (mC (.int 2)) mNil))) mNil))) mNil)) (bName 1) (mSeq (mAsgF 2 2 g__law_pool (mCons (mVar 0) (mCons (mVar 1) mNil)))
    (mSeq (mAsg (bName 3) (mComp [4] (mRg1 (mCons (mCallO 2 1 g__law_take (mCons (mC (.int 4)) mNil)) mNil)) (bName 4) mYes (mCallO 2 0 g__law_entry mNil)))
    (mSeq (mAsg (bName 5) (mCall 1 g_write_journal (mCons (mVar 3) mNil)))
    (mSeq (mFor (mIL (mBin dAdd (mBin dAdd (mComp [7] (mRg1 (mCons (mBin dAdd (mCB dLen (mCons (mVar 5) mNil)) (mC (.int 1))) mNil)) (bName 7) mYes (mSl dSl (mVar 5) mNo (mPart (mVar 7)))) (mCallO 2 1 g__law_texts (mCons (mVar 5) mNil))) (mCallO 2 1 g__law_texts (mCons (mVar 5) mNil)))) (bName 6) (mSeq (mAsg (bLst [8, 9]) (mCall 1 g__law_due (mCons (mVar 6) mNil)))
    (mIf (mOrT (mTst (mBin dNe (mCall 1 g_recover (mCons (mVar 6) mNil)) (mVar 8))) (mTst (mBin dNe (mCall 1 g__law_read (mCons (mVar 6) mNil)) (mIfE (mTst (mBin dIs (mVar 9) (mC .non))) (mVar 8) (mLst (mCons (mVar 9) (mCons (mC (.bl true)) mNil))))))) (mRet (mC (.bl false))) mNext)))
    (mSeq (mIf (mTst (mBin dNe (mCall 1 g__law_read (mCons (mVar 5) mNil)) (mVar 3))) (mRet (mC (.bl false))) mNext)
    (mFor (mIL (mLst (mCons (mC .non) (mCons (mC (.int 5)) (mCons (mLst (mCons (mC (.str "ann")) mNil)) (mCons (mTup mNil) mNil)))))) (bName 10) (mIf (mTst (mBin dNe (mCall 1 g__law_read (mCons (mVar 10) mNil)) (mLst (mCons (mC (.int 0)) (mCons (mC (.bl true)) mNil))))) (mRet (mC (.bl false))) mNext))))))))
    (mRet (mC (.bl true))))
def g_law : List D → R D := fnM 11 m_law
end G
namespace G
open PySem PySem.Spec PyProof.Rows L2 Mi
theorem opt_ok {α : Type} (a : α) (es : En) : Mi.opt (some a) es = .ok (a, es) := rfl
theorem e_int_i (i : Int) : g_is_integer [.int i] = .ok (.bl true) := rfl
theorem e_int_n : g_is_integer [.non] = .ok (.bl false) := rfl
theorem e_int_s (s : Str) : g_is_integer [.str s] = .ok (.bl false) := rfl
theorem e_btw (v a b : Int) : g_is_between [.int v, .int a, .int b] = .ok (.bl (decide (a ≤ v) && decide (v ≤ b))) := by
  by_cases h : a ≤ v
  · simp [g_is_between, fnM, m_is_between, ends, mRet, mAnd, mCall, mChn, Mi.bnd, mCons, mNil, Mi.ret, mVar, Mi.lft, e_int_i, Mi.opt, isBl, dLe, h]
  · simp [g_is_between, fnM, m_is_between, ends, mRet, mAnd, mCall, mChn, Mi.bnd, mCons, mNil, Mi.ret, mVar, Mi.lft, e_int_i, Mi.opt, isBl, dLe, h]
theorem e_btw_n (a b : D) : g_is_between [.non, a, b] = .ok (.bl false) := rfl
theorem e_val (v : Int) : g_is_value [.int v] = .ok (.bl (decide (0 ≤ v) && decide (v ≤ 1000000000000000))) := by
  simp [g_is_value, fnM, m_is_value, ends, mRet, mCall, Mi.bnd, mCons, mNil, Mi.ret, mVar, Mi.lft, e_btw, mC]
theorem e_val_n : g_is_value [.non] = .ok (.bl false) := rfl
abbrev letS : Str := "abcdefghijklmnopqrstuvwxyz"
abbrev figS : Str := "0123456789"
def inSet (z : Str) (c : Nat) : Bool := decide (c ∈ z.cps.toList)
def wordB (s : Str) : Bool := (decide (1 ≤ s.length) && decide (s.length ≤ 8)) && s.cps.toList.all (inSet letS)
def figB (s : Str) : Bool := s.cps.toList.all (inSet figS)
theorem chs_len (s : Str) : (s.cps.toList.map fun c => D.str ⟨#[c]⟩).length = s.length := by rw [List.length_map]; rfl
theorem all_comp (s z : Str) (es : En) (v : Nat) (ms : M (List D)) (me : M D) (hms : ms es = .ok (s.cps.toList.map fun c => D.str ⟨#[c]⟩, es)) (hno : notOwn es [v] = true) (hv : v < es.length) (hl : s.length ≤ sizeLine)
    (hme : ∀ c, me (es.set v (.dat (.str ⟨#[c]⟩))) = .ok (.bl (inSet z c), es.set v (.dat (.str ⟨#[c]⟩)))) :
    mCB dAll (mCons (mComp [v] ms (bName v) mYes me) mNil) es = .ok (.bl (s.cps.toList.all (inSet z)), es) := by
  have h := comp_map (v := v) (me := me) (f := fun d => match d with | .str t => .bl (inSet z (t.cps.getD 0 0)) | _ => .non) hms hno hv (fun d hd => by
    obtain ⟨c, _, rfl⟩ := List.mem_map.mp hd
    rw [hme c]; rfl) (by rw [chs_len]; exact hl)
  have e : ((s.cps.toList.map fun c => D.str ⟨#[c]⟩).map fun d => match d with | .str t => D.bl (inSet z (t.cps.getD 0 0)) | _ => .non) = s.cps.toList.map fun c => D.bl (inSet z c) := by
    rw [List.map_map]; rfl
  rw [e] at h
  simp only [mCB, mCons, mNil, Mi.bnd, Mi.ret, Mi.opt, h, dAll_map]
theorem e_word (s : Str) (hl : s.length ≤ sizeLine) : g_is_word [.str s] = .ok (.bl (wordB s)) := by
  have h := all_comp s letS [.dat (.str s), .un] 1 (mIS (mVar 0)) (mBin dIn (mVar 1) (mC (.str letS))) rfl rfl (by show 1 < 2; decide) hl (fun c => rfl)
  have e : wordB s = (true && ((decide ((1 : Int) ≤ s.length) && decide ((s.length : Int) ≤ 8)) && s.cps.toList.all (inSet letS))) := by
    unfold wordB
    rw [Bool.true_and]
    congr 2 <;> congr 1 <;> exact propext (by omega)
  rw [e]
  exact ev_fn (ev_ret (ev_and (k := true) rfl fun _ => ev_and (ev_chn rfl (ev_len rfl hl) rfl rfl rfl) fun _ => h))
theorem fig_split (s : Str) : s.cps.toList.all (inSet figS) = figB s := rfl
def canB (s : Str) : Bool := decide (s = ("0" : Str)) || !decide ((⟨#[s.cps.getD 0 0]⟩ : Str) = ("0" : Str))
def numIn (s : Str) : Option Nat := if (decide (1 ≤ s.length) && decide (s.length ≤ 31)) && figB s && canB s then some (NumText.digitsVal s.cps.toList) else none
def numD : Option Nat → D
  | none => .non
  | some n => .int n
theorem figs_digits {s : Str} (h : figB s = true) : NumText.AllDigits s.cps.toList := by
  intro c hc
  have h1 := List.all_eq_true.mp h c hc
  have h2 : c ∈ figS.cps.toList := of_decide_eq_true h1
  have e : figS.cps.toList = [48, 49, 50, 51, 52, 53, 54, 55, 56, 57] := by decide +kernel
  rw [e] at h2
  simp at h2
  omega
theorem figs_int {s : Str} (h : figB s = true) (h1 : 1 ≤ s.length) (h2 : s.length ≤ 640) : dInt [.str s] = some (.int (NumText.digitsVal s.cps.toList : Nat)) := by
  have hn : s.cps.toList ≠ [] := fun z => by
    have : s.cps.toList.length = 0 := by rw [z]; rfl
    have e : s.length = s.cps.toList.length := TL.len_tl s
    omega
  simp only [dInt, if_pos h2]
  rw [intText_digits (figs_digits h) hn (by omega)]
  rfl
theorem ix0 {s : Str} (h1 : 1 ≤ s.length) (hl : s.length ≤ sizeLine) : dIx (.str s) (.int 0) = some (.str ⟨#[s.cps.getD 0 0]⟩) := by
  have h2 : 0 < s.cps.size := h1
  have e : ixN s.cps.toList.length 0 = some 0 := by
    simp [ixN, h2]
  simp only [dIx, if_pos hl, atI, e, Option.bind_some]
  simp [h2, Array.getD]
theorem chn31 (s : Str) (hl : s.length ≤ sizeLine) (es : En) (h : es[0]? = some (.dat (.str s))) : mChn dLe dLe (mC (.int 1)) (mCB dLen (mCons (mVar 0) mNil)) (mC (.int 31)) es = .ok (.bl (decide (1 ≤ s.length) && decide (s.length ≤ 31)), es) := by
  have e : (decide (1 ≤ s.length) && decide (s.length ≤ 31)) = (decide ((1 : Int) ≤ s.length) && decide ((s.length : Int) ≤ 31)) := by
    congr 1 <;> congr 1 <;> exact propext (by omega)
  rw [e]
  exact ev_chn rfl (ev_len (ev_var h) hl) rfl rfl rfl
theorem e_number_in (s : Str) (hl : s.length ≤ sizeLine) : g_number_in [.str s] = .ok (numD (numIn s)) := by
  have h := all_comp s figS [.dat (.str s), .un] 1 (mIS (mVar 0)) (mBin dIn (mVar 1) (mC (.str figS))) rfl rfl (by show 1 < 2; decide) hl (fun c => rfl)
  have h1 := chn31 s hl [.dat (.str s), .un] rfl
  cases hc : (decide (1 ≤ s.length) && decide (s.length ≤ 31)) with
  | false =>
    have e : numIn s = none := by unfold numIn; rw [hc]; rfl
    rw [e]
    rw [hc] at h1
    exact ev_fn (ev_seq_rt (ev_if_t (ev_orT_f (ev_nT_f (ev_tru (ev_isa rfl rfl) rfl)) (ev_orT_t (ev_nT_t (ev_tst h1)))) (ev_ret rfl)))
  | true =>
    rw [hc] at h1
    rw [Bool.and_eq_true, decide_eq_true_eq, decide_eq_true_eq] at hc
    have hx := ix0 hc.1 hl
    cases hf : figB s with
    | false =>
      have e : numIn s = none := by unfold numIn; rw [hf, Bool.and_false]; rfl
      rw [e]
      have h' := h
      rw [fig_split, hf] at h'
      exact ev_fn (ev_seq_rt (ev_if_t (ev_orT_f (ev_nT_f (ev_tru (ev_isa rfl rfl) rfl)) (ev_orT_f (ev_nT_f (ev_tst h1)) (ev_nT_t (ev_tru h' rfl)))) (ev_ret rfl)))
    | true =>
      have h' := h
      rw [fig_split, hf] at h'
      have hi := figs_int hf hc.1 (by omega)
      refine ev_fn (es1 := [.dat (.str s), .un]) (ev_seq (ev_if_f (ev_orT_f (ev_nT_f (ev_tru (ev_isa rfl rfl) rfl)) (ev_orT_f (ev_nT_f (ev_tst h1)) (ev_nT_f (ev_tru h' rfl)))) rfl) (ev_ret ?_))
      · cases hz : decide (s = ("0" : Str)) with
        | true =>
          have e : numIn s = some (NumText.digitsVal s.cps.toList) := by unfold numIn canB; simp [hc.1, hc.2, hf, hz]
          rw [e]
          exact ev_ife_t (ev_orT_t (ev_tst (by rw [← hz]; exact ev_bin rfl rfl (deq_str _ _)))) (ev_cb (ev_one rfl) hi)
        | false =>
          cases hy : decide ((⟨#[s.cps.getD 0 0]⟩ : Str) = ("0" : Str)) with
          | true =>
            have e : numIn s = none := by unfold numIn canB; simp only [hz, hy]; simp
            rw [e]
            exact ev_ife_f (ev_orT_f (ev_tst (by rw [← hz]; exact ev_bin rfl rfl (deq_str _ _))) (ev_tst (ev_bin (ev_bin rfl rfl hx) rfl (by rw [dne_str, hy]; rfl)))) rfl
          | false =>
            have e : numIn s = some (NumText.digitsVal s.cps.toList) := by unfold numIn canB; simp only [hz, hy]; simp [hc.1, hc.2, hf]
            rw [e]
            exact ev_ife_t (ev_orT_f (ev_tst (by rw [← hz]; exact ev_bin rfl rfl (deq_str _ _))) (ev_tst (ev_bin (ev_bin rfl rfl hx) rfl (by rw [dne_str, hy]; rfl)))) (ev_cb (ev_one rfl) hi)
end G
namespace G
open PySem PySem.Spec PyProof.Rows L2 Mi
mutual
def nice : D → Bool
  | .non => true
  | .bl _ => true
  | .int _ => true
  | .str s => PyData.strOk s
  | .tup l => niceL l
  | .lst l => niceL l
  | _ => false
def niceL : List D → Bool
  | [] => true
  | d :: ds => nice d && niceL ds
end
mutual
def dep : D → Nat
  | .tup l => depL l + 1
  | .lst l => depL l + 1
  | _ => 0
def depL : List D → Nat
  | [] => 0
  | d :: ds => max (dep d) (depL ds)
end
mutual
theorem nice_py : ∀ d : D, nice d = true → ∃ p, toPy d = some p ∧ p.canLay0 = true ∧ p.depth = dep d ∧ p.eqv p = true
  | .non, _ => ⟨.none, rfl, by unfold PyData.canLay0; rfl, by unfold PyData.depth; rfl, by unfold PyData.eqv; rfl⟩
  | .bl b, _ => ⟨.bool b, rfl, by unfold PyData.canLay0; rfl, by unfold PyData.depth; rfl, by unfold PyData.eqv; simp⟩
  | .int i, _ => ⟨.int i, rfl, by unfold PyData.canLay0; rfl, by unfold PyData.depth; rfl, by unfold PyData.eqv; simp⟩
  | .str s, h => ⟨.str s, rfl, by unfold PyData.canLay0; exact h, by unfold PyData.depth; rfl, by unfold PyData.eqv; simp⟩
  | .tup l, h => by
    obtain ⟨ps, h1, h2, h3, h4⟩ := nice_pyL l h
    exact ⟨.tuple ps, by simp only [toPy, h1, Option.map_some], by unfold PyData.canLay0; exact h2, by unfold PyData.depth; rw [h3]; rfl, by unfold PyData.eqv; exact h4⟩
  | .lst l, h => by
    obtain ⟨ps, h1, h2, h3, h4⟩ := nice_pyL l h
    exact ⟨.list ps, by simp only [toPy, h1, Option.map_some], by unfold PyData.canLay0; exact h2, by unfold PyData.depth; rw [h3]; rfl, by unfold PyData.eqv; exact h4⟩
  | .ins .., h => by cases h
  | .dc0, h => by cases h
  | .scr _, h => by cases h
theorem nice_pyL : ∀ l : List D, niceL l = true → ∃ ps, toPyL l = some ps ∧ PyData.canLayAll0 ps = true ∧ PyData.depthAll ps = depL l ∧ PyData.eqvAll ps ps = true
  | [], _ => ⟨[], rfl, by unfold PyData.canLayAll0; rfl, by unfold PyData.depthAll; rfl, by unfold PyData.eqvAll; rfl⟩
  | d :: ds, h => by
    have h := (Bool.and_eq_true _ _).mp h
    obtain ⟨p, h1, h2, h3, h4⟩ := nice_py d h.1
    obtain ⟨ps, g1, g2, g3, g4⟩ := nice_pyL ds h.2
    exact ⟨p :: ps, by simp only [toPyL, h1, g1], by unfold PyData.canLayAll0; rw [h2, g2]; rfl, by unfold PyData.depthAll; rw [h3, g3]; rfl, by unfold PyData.eqvAll; rw [h4, g4]; rfl⟩
end
theorem deep_self {d : D} (h : nice d = true) (hd : dep d ≤ 64) : deepB d d = some true := by
  obtain ⟨p, h1, h2, h3, h4⟩ := nice_py d h
  have hs : SeqAt.shaped p = true := by
    unfold SeqAt.shaped
    rw [h2, h3]
    simpa using hd
  simp only [deepB, h1, hs, Bool.and_self, if_pos, h4]
theorem eqB_self {d : D} (h : nice d = true) (hd : dep d ≤ 64) : eqB d d = some true := by
  unfold eqB
  cases e : flat d with
  | none => exact deep_self h hd
  | some x =>
    dsimp only
    split
    · simp
    · exact deep_self h hd
theorem ne_self {d : D} (h : nice d = true) (hd : dep d ≤ 64) : dNe d d = some (.bl false) := by
  simp only [dNe, eqB_self h hd, Option.map_some]; rfl
theorem ones_py {α : Type} : ∀ l : List α, ∃ ps, toPyL (l.map fun _ => D.int 1) = some ps ∧ PyData.canLayAll0 ps = true ∧ PyData.depthAll ps = 0 ∧ PyData.eqvAll ps [] = l.isEmpty
  | [] => ⟨[], rfl, by unfold PyData.canLayAll0; rfl, by unfold PyData.depthAll; rfl, by unfold PyData.eqvAll; rfl⟩
  | a :: l => by
    obtain ⟨ps, h1, h2, h3, _⟩ := ones_py l
    exact ⟨.int 1 :: ps, by rw [List.map_cons]; simp only [toPyL, toPy, h1], by unfold PyData.canLayAll0; rw [h2]; unfold PyData.canLay0; rfl, by unfold PyData.depthAll; rw [h3]; unfold PyData.depth; rfl, by unfold PyData.eqvAll; rfl⟩
theorem ones_eq {α : Type} (l : List α) : eqB (.lst (l.map fun _ => D.int 1)) (.lst []) = some l.isEmpty := by
  obtain ⟨ps, h1, h2, h3, h4⟩ := ones_py l
  have hs : SeqAt.shaped (.list ps) = true := by
    unfold SeqAt.shaped PyData.canLay0 PyData.depth
    rw [h2, h3]; rfl
  have hs0 : SeqAt.shaped (.list []) = true := by decide
  have hb : deepB (.lst (l.map fun _ => D.int 1)) (.lst []) = some l.isEmpty := by
    have e0 : toPy (.lst []) = some (.list []) := rfl
    have e1 : toPy (.lst (l.map fun _ => D.int 1)) = some (.list ps) := by simp only [toPy, h1, Option.map_some]
    have e2 : PyData.eqv (.list ps) (.list []) = l.isEmpty := by unfold PyData.eqv; exact h4
    simp only [deepB, e0, e1, hs, hs0, Bool.and_self, if_pos, e2]
  exact hb
end G
namespace G
open PySem PySem.Spec PyProof.Rows L2 Mi
theorem filt_nil (z s : Str) : ((s.cps.toList.filter fun c => !inSet z c).isEmpty) = s.cps.toList.all (inSet z) := by
  induction s.cps.toList with
  | nil => rfl
  | cons c l ih =>
    cases h : inSet z c with
    | true => rw [List.filter_cons_of_neg (by rw [h]; decide), List.all_cons, h, ih]; rfl
    | false => rw [List.filter_cons_of_pos (by rw [h]; rfl), List.all_cons, h]; rfl
theorem odd_comp (s z : Str) (es : En) (v : Nat) (ms : M (List D)) (hms : ms es = .ok (s.cps.toList.map fun c => D.str ⟨#[c]⟩, es)) (hno : notOwn es [v] = true) (hv : v < es.length) (hl : s.length ≤ sizeLine) :
    mComp [v] ms (bName v) (mTst (mBin dNin (mVar v) (mC (.str z)))) (mC (.int 1)) es = .ok (.lst ((s.cps.toList.filter fun c => !inSet z c).map fun _ => D.int 1), es) := by
  have h := comp_fm (v := v) (mt := mTst (mBin dNin (mVar v) (mC (.str z)))) (me := mC (.int 1)) (p := fun d => match d with | .str t => !inSet z (t.cps.getD 0 0) | _ => false) (f := fun _ => .int 1) hms hno hv (fun d hd => by
    obtain ⟨c, _, rfl⟩ := List.mem_map.mp hd
    exact ev_tst (ev_bin (ev_var (List.getElem?_set_self hv)) rfl (ninB_ch c z))) (fun _ _ _ => rfl) (by rw [chs_len]; exact hl)
  rw [h, List.filter_map, List.map_map]
  rfl
theorem e_lword (s : Str) (hl : s.length ≤ sizeLine) : g__law_is_word [.str s] = .ok (.bl (wordB s)) := by
  have h := odd_comp s letS [.dat (.str s), .un, .un] 2 (mIS (mVar 0)) rfl rfl (by show 2 < 3; decide) hl
  have e : wordB s = ((decide ((1 : Int) ≤ s.length) && decide ((s.length : Int) ≤ 8)) && s.cps.toList.all (inSet letS)) := by
    unfold wordB
    congr 2 <;> congr 1 <;> exact propext (by omega)
  rw [e, ← filt_nil]
  exact ev_fn (ev_seq (ev_set h) (ev_ret (ev_and (ev_chn rfl (ev_len rfl hl) rfl rfl rfl) fun _ => ev_bin (ev_var rfl) rfl (by simp only [dEq, ones_eq, Option.map_some]))))
theorem fold_ge : ∀ (cs : List Nat) (a : Nat), a * 10 ^ cs.length ≤ cs.foldl (fun acc c => acc * 10 + (c - 48)) a
  | [], a => by simp
  | c :: cs, a => by
    have h := fold_ge cs (a * 10 + (c - 48))
    rw [List.foldl_cons, List.length_cons, Nat.pow_succ]
    refine Nat.le_trans ?_ h
    have e : a * (10 ^ cs.length * 10) = a * 10 * 10 ^ cs.length := by rw [Nat.mul_comm (10 ^ cs.length) 10, Nat.mul_assoc]
    rw [e]
    exact Nat.mul_le_mul_right _ (Nat.le_add_right _ _)
theorem can_head {s : Str} (hf : figB s = true) (hc : canB s = true) (h1 : 2 ≤ s.length) : ∃ c cs, s.cps.toList = c :: cs ∧ 49 ≤ c ∧ c ≤ 57 := by
  cases e : s.cps.toList with
  | nil =>
    have := TL.len_tl s
    have e' : s.length = 0 := by rw [this]; show s.cps.toList.length = 0; rw [e]; rfl
    omega
  | cons c cs =>
    refine ⟨c, cs, rfl, ?_⟩
    have hd := figs_digits hf c (by rw [e]; exact List.mem_cons_self)
    have hn : s ≠ ("0" : Str) := fun z => by rw [z] at h1; exact absurd h1 (by decide)
    unfold canB at hc
    rw [decide_eq_false hn, Bool.false_or] at hc
    have hg : s.cps.getD 0 0 = c := by
      have e2 : s.cps[0]? = some c := by rw [← Array.getElem?_toList, e]; rfl
      simp [Array.getD_eq_getD_getElem?, e2]
    rw [hg] at hc
    have hz : c ≠ 48 := fun z => by subst z; revert hc; decide
    omega
theorem num_big {s : Str} (hf : figB s = true) (hc : canB s = true) (h1 : 17 ≤ s.length) : 10 ^ 16 ≤ NumText.digitsVal s.cps.toList := by
  obtain ⟨c, cs, e, h2, h3⟩ := can_head hf hc (by omega)
  have hl : cs.length + 1 = s.length := by
    rw [TL.len_tl s]
    show _ = s.cps.toList.length
    rw [e]; rfl
  rw [e]
  unfold NumText.digitsVal
  rw [List.foldl_cons]
  refine Nat.le_trans ?_ (fold_ge cs _)
  have h4 : 1 ≤ 0 * 10 + (c - 48) := by omega
  refine Nat.le_trans (Nat.pow_le_pow_right (by decide) (by omega : 16 ≤ cs.length)) ?_
  exact Nat.le_mul_of_pos_left _ h4
def lawNum (s : Str) (a b : Int) : Option Nat := (numIn s).filter fun n => decide (a ≤ (n : Int)) && decide ((n : Int) ≤ b)
theorem str_nil {s : Str} : s = ("" : Str) ↔ s.length = 0 := by
  constructor
  · intro h; rw [h]; rfl
  · intro h
    have e : s.cps = #[] := Array.eq_empty_of_size_eq_zero h
    cases s
    cases e
    decide
theorem e_lnum (s : Str) (a b : Int) (hl : s.length ≤ sizeLine) (hb : b < 10 ^ 16) : g__law_number [.str s, .int a, .int b] = .ok (numD (lawNum s a b)) := by
  have h := odd_comp s figS [.dat (.str s), .dat (.int a), .dat (.int b), .un] 3 (mIS (mVar 0)) rfl rfl (by show 3 < 4; decide) hl
  have t1 : mTst (mBin dEq (mVar 0) (mC (.str ""))) [.dat (.str s), .dat (.int a), .dat (.int b), .un] = .ok (decide (s = ("" : Str)), [.dat (.str s), .dat (.int a), .dat (.int b), .un]) := ev_tst (ev_bin rfl rfl (deq_str _ _))
  have t2 : mTst (mBin dGt (mCB dLen (mCons (mVar 0) mNil)) (mC (.int 16))) [.dat (.str s), .dat (.int a), .dat (.int b), .un] = .ok (decide ((16 : Int) < s.length), [.dat (.str s), .dat (.int a), .dat (.int b), .un]) := ev_tst (ev_bin (ev_len rfl hl) rfl rfl)
  have t3 := ev_tst (ev_bin (f := dNe) (b := mLst mNil) (z := .bl (!figB s)) h rfl (by simp only [dNe, ones_eq, Option.map_some, filt_nil]; rfl))
  by_cases h0 : s.length = 0
  · rw [decide_eq_true (str_nil.mpr h0)] at t1
    have e : lawNum s a b = none := by unfold lawNum numIn; simp [h0]
    rw [e]
    exact ev_fn (ev_seq_rt (ev_if_t (ev_orT_t t1) (ev_ret rfl)))
  · rw [decide_eq_false (fun z => h0 (str_nil.mp z))] at t1
    by_cases h16 : 16 < s.length
    · rw [decide_eq_true (by omega : (16 : Int) < s.length)] at t2
      have e : lawNum s a b = none := by
        unfold lawNum numIn
        split
        · rename_i hc
          rw [Bool.and_eq_true, Bool.and_eq_true] at hc
          have := num_big hc.1.2 hc.2 (by omega)
          have h2 : ¬ ((NumText.digitsVal s.cps.toList : Nat) : Int) ≤ b := by omega
          simp [Option.filter, h2]
        · rfl
      rw [e]
      exact ev_fn (ev_seq_rt (ev_if_t (ev_orT_f t1 (ev_orT_t t2)) (ev_ret rfl)))
    · rw [decide_eq_false (by omega : ¬ (16 : Int) < s.length)] at t2
      cases hf : figB s with
      | false =>
        rw [hf] at t3
        have e : lawNum s a b = none := by unfold lawNum numIn; simp [hf]
        rw [e]
        exact ev_fn (ev_seq_rt (ev_if_t (ev_orT_f t1 (ev_orT_f t2 t3)) (ev_ret rfl)))
      | true =>
        rw [hf] at t3
        have hx := ix0 (s := s) (by omega) hl
        have hi := figs_int hf (by omega) (by omega)
        have c1 : mAndT (mTst (mBin dEq (mBin dIx (mVar 0) (mC (.int 0))) (mC (.str "0")))) (mTst (mBin dNe (mVar 0) (mC (.str "0")))) [.dat (.str s), .dat (.int a), .dat (.int b), .un] = .ok (!canB s, [.dat (.str s), .dat (.int a), .dat (.int b), .un]) := by
          have e : (!canB s) = (decide ((⟨#[s.cps.getD 0 0]⟩ : Str) = ("0" : Str)) && !decide (s = ("0" : Str))) := by
            unfold canB
            cases decide (s = ("0" : Str)) <;> cases decide ((⟨#[s.cps.getD 0 0]⟩ : Str) = ("0" : Str)) <;> rfl
          rw [e]
          exact ev_andT (ev_tst (ev_bin (ev_bin rfl rfl hx) rfl (deq_str _ _))) fun _ => ev_tst (ev_bin rfl rfl (dne_str _ _))
        cases hc : canB s with
        | false =>
          rw [hc] at c1
          have e : lawNum s a b = none := by unfold lawNum numIn; simp [hc]
          rw [e]
          exact ev_fn (es1 := [.dat (.str s), .dat (.int a), .dat (.int b), .un]) (ev_seq (ev_if_f (ev_orT_f t1 (ev_orT_f t2 t3)) rfl) (ev_seq_rt (ev_if_t (ev_orT_t c1) (ev_ret rfl))))
        | true =>
          rw [hc] at c1
          have en : numIn s = some (NumText.digitsVal s.cps.toList) := by
            unfold numIn
            have g1 : 1 ≤ s.length := by omega
            have g2 : s.length ≤ 31 := by omega
            simp [hc, hf, g1, g2]
          have ck : mTst (mChn dLe dLe (mVar 1) (mCB dInt (mCons (mVar 0) mNil)) (mVar 2)) [.dat (.str s), .dat (.int a), .dat (.int b), .un] = .ok (decide (a ≤ ((NumText.digitsVal s.cps.toList : Nat) : Int)) && decide (((NumText.digitsVal s.cps.toList : Nat) : Int) ≤ b), [.dat (.str s), .dat (.int a), .dat (.int b), .un]) :=
            ev_tst (ev_chn rfl (ev_cb (ev_one rfl) hi) rfl rfl rfl)
          cases hk : decide (a ≤ ((NumText.digitsVal s.cps.toList : Nat) : Int)) && decide (((NumText.digitsVal s.cps.toList : Nat) : Int) ≤ b) with
          | false =>
            rw [hk] at ck
            have e : lawNum s a b = none := by unfold lawNum; rw [en]; simp only [Option.filter, hk]; rfl
            rw [e]
            exact ev_fn (es1 := [.dat (.str s), .dat (.int a), .dat (.int b), .un]) (ev_seq (ev_if_f (ev_orT_f t1 (ev_orT_f t2 t3)) rfl) (ev_seq_rt (ev_if_t (ev_orT_f c1 (ev_nT_t ck)) (ev_ret rfl))))
          | true =>
            rw [hk] at ck
            have e : lawNum s a b = some (NumText.digitsVal s.cps.toList) := by unfold lawNum; rw [en]; simp only [Option.filter, hk]; rfl
            rw [e]
            exact ev_fn (es1 := [.dat (.str s), .dat (.int a), .dat (.int b), .un]) (ev_seq (ev_if_f (ev_orT_f t1 (ev_orT_f t2 t3)) rfl) (ev_seq (ev_if_f (ev_orT_f c1 (ev_nT_f ck)) rfl) (ev_ret (ev_cb (ev_one rfl) hi))))
end G
namespace G
open PySem PySem.Spec PyProof.Rows L2 Mi
theorem rev_ind {P : List Nat → Prop} (h0 : P []) (hs : ∀ l c, P l → P (l ++ [c])) (l : List Nat) : P l := by
  rw [← List.reverse_reverse l]
  induction l.reverse with
  | nil => exact h0
  | cons c m ih => rw [List.reverse_cons]; exact hs _ _ ih
theorem dv_snoc (l : List Nat) (c : Nat) : NumText.digitsVal (l ++ [c]) = NumText.digitsVal l * 10 + (c - 48) := by
  unfold NumText.digitsVal
  rw [List.foldl_append]; rfl
theorem dv_pos {c : Nat} {l : List Nat} (h : 49 ≤ c) : 1 ≤ NumText.digitsVal (c :: l) := by
  unfold NumText.digitsVal
  rw [List.foldl_cons]
  refine Nat.le_trans ?_ (fold_ge l _)
  have h4 : 1 ≤ 0 * 10 + (c - 48) := by omega
  exact Nat.le_trans (Nat.one_le_two_pow (n := 0)) (Nat.le_trans h4 (Nat.le_mul_of_pos_right _ (Nat.pow_pos (by decide))))
theorem dv_lt : ∀ (l : List Nat), NumText.AllDigits l → NumText.digitsVal l < 10 ^ l.length := by
  refine rev_ind ?_ ?_
  · intro _; decide
  · intro l c ih h
    have h1 := ih fun d hd => h d (List.mem_append_left _ hd)
    have h2 := h c (List.mem_append_right _ (List.mem_singleton_self c))
    rw [dv_snoc, List.length_append, List.length_singleton, Nat.pow_succ]
    omega
theorem numL_one : ∀ c, 48 ≤ c → c ≤ 57 → TL.numL (c - 48) = [c] := by
  intro c h1 h2
  have h : ∀ k : Fin 10, TL.numL k.val = [k.val + 48] := by decide +kernel
  have := h ⟨c - 48, by omega⟩
  simpa [Nat.sub_add_cancel h1] using this
theorem canon_L : ∀ (l : List Nat), NumText.AllDigits l → (∃ c cs, l = c :: cs ∧ (49 ≤ c ∨ cs = [])) → TL.numL (NumText.digitsVal l) = l := by
  refine rev_ind ?_ ?_
  · rintro _ ⟨c, cs, e, _⟩; cases e
  · intro l c ih h hc
    have h2 := h c (List.mem_append_right _ (List.mem_singleton_self c))
    cases l with
    | nil =>
      rw [List.nil_append]
      have e : NumText.digitsVal [c] = c - 48 := by unfold NumText.digitsVal; simp
      rw [e]
      exact numL_one c h2.1 h2.2
    | cons d l =>
      obtain ⟨d', cs, e, hd⟩ := hc
      rw [List.cons_append] at e
      cases e
      have h49 : 49 ≤ d := hd.resolve_right (by simp)
      have h1 := ih (fun x hx => h x (List.mem_append_left _ hx)) ⟨d, l, rfl, .inl h49⟩
      have hp := dv_pos (l := l) h49
      rw [dv_snoc, TL.numL_step (by omega)]
      have e1 : (NumText.digitsVal (d :: l) * 10 + (c - 48)) / 10 = NumText.digitsVal (d :: l) := by omega
      have e2 : 48 + (NumText.digitsVal (d :: l) * 10 + (c - 48)) % 10 = c := by omega
      rw [e1, e2, h1]
structure IsNum (s : Str) (n : Nat) : Prop where
  f : figB s = true
  c : canB s = true
  l1 : 1 ≤ s.length
  l2 : s.length ≤ 31
  e : n = NumText.digitsVal s.cps.toList
theorem numIn_is {s : Str} {n : Nat} (h : numIn s = some n) : IsNum s n := by
  unfold numIn at h
  split at h
  · rename_i hc
    rw [Bool.and_eq_true, Bool.and_eq_true, Bool.and_eq_true, decide_eq_true_eq, decide_eq_true_eq] at hc
    exact ⟨hc.1.2, hc.2, hc.1.1.1, hc.1.1.2, (Option.some.inj h).symm⟩
  · cases h
theorem IsNum.lt {s : Str} {n : Nat} (h : IsNum s n) : n < 10 ^ 31 := by
  rw [h.e]
  refine Nat.lt_of_lt_of_le (dv_lt _ (figs_digits h.f)) (Nat.pow_le_pow_right (by decide) ?_)
  have := h.l2
  rw [TL.len_tl] at this
  exact this
theorem canon {s : Str} {n : Nat} (h : IsNum s n) : Str.ofString (toString (n : Int)) = s := by
  have ht : TL.tl (Str.ofString (toString (n : Int))) = TL.tl s := by
    rw [TL.tl_num, h.e]
    refine canon_L _ (figs_digits h.f) ?_
    by_cases h2 : 2 ≤ s.length
    · obtain ⟨c, cs, e, h3, _⟩ := can_head h.f h.c h2
      exact ⟨c, cs, e, .inl h3⟩
    · have hl : s.length = 1 := by have := h.l1; omega
      rw [TL.len_tl] at hl
      match e : s.cps.toList, hl with
      | [c], _ => exact ⟨c, [], rfl, .inr rfl⟩
      | [], hl => rw [show TL.tl s = s.cps.toList from rfl, e] at hl; cases hl
      | _ :: _ :: _, hl => rw [show TL.tl s = s.cps.toList from rfl, e] at hl; simp at hl
  rw [← TL.mk_tl s, ← ht, TL.mk_tl]
theorem log_small {n : Nat} (h : n < 10 ^ 31) : n.log2 < 1920 := by
  by_cases h0 : n = 0
  · subst h0; decide
  · exact (Nat.log2_lt h0).mpr (Nat.lt_of_lt_of_le h (by decide +kernel))
theorem str_num {s : Str} {n : Nat} (h : numIn s = some n) : dStr [.int n] = some (.str s) := by
  have hn := numIn_is h
  have hb : (n : Int).natAbs.log2 < 1920 := by
    rw [Int.natAbs_natCast]
    exact log_small hn.lt
  simp only [dStr, okB, decide_eq_true hb, if_pos]
  rw [← canon hn]
theorem ixL {l : List D} {k : Nat} {x : D} (h : l[k]? = some x) : dIx (.lst l) (.int k) = some x := atI_nat h
theorem ixT {l : List D} {k : Nat} {x : D} (h : l[k]? = some x) : dIx (.tup l) (.int k) = some x := atI_nat h
theorem deq_int (a b : Int) : dEq (.int a) (.int b) = some (.bl (decide (a = b))) := by
  have e : scal (.int a) (.int b) = true := rfl
  simp only [dEq, eqB, flat, e, if_pos, Option.map_some]
  congr 2
  simp
theorem nin2 (w a b : Str) : inB (.str w) (.tup [.str a, .str b]) = some (decide (w = a) || decide (w = b)) := by
  simp only [inB, flat, flats, flatV, List.all_cons, List.all_nil, Bool.and_self, if_pos, inV, List.any_cons, List.any_nil, Bool.or_false, eqV]
  congr 2
  · rw [Bool.beq_comm]; exact Bool.beq_eq_decide_eq ..
  · rw [Bool.beq_comm]; exact Bool.beq_eq_decide_eq ..
theorem nin2L (w a b : Str) : inB (.str w) (.lst [.str a, .str b]) = some (decide (w = a) || decide (w = b)) := nin2 w a b
theorem cut3 (a b c : D) (r : List D) : dSl (.lst (a :: b :: c :: r)) (some 3) none = some (.lst r) := by
  have e1 : HT.sIx (a :: b :: c :: r).length 0 (some 3) = 3 := by
    simp [HT.sIx]
  have e2 : HT.sIx (a :: b :: c :: r).length (a :: b :: c :: r).length none = (a :: b :: c :: r).length := rfl
  simp only [dSl, Mi.cutD, e1, e2]
  simp
end G
namespace G
open PySem PySem.Spec PyProof.Rows L2 Mi
abbrev wkS : Str := "work"
abbrev sdS : Str := "send"
abbrev tkS : Str := "take"
def kindB (w : Str) : Bool := decide (w = sdS) || decide (w = tkS)
def mkE (a b : Str) (c : D) (l : List D) : D := .tup [.str a, .str b, c, .tup l]
def valB (x : Str) : Bool := (lawNum x 0 1000000000000000).isSome
def entOf : List Str → D
  | w0 :: w1 :: w2 :: r =>
    if wordB w0 = true then
      if w1 = wkS then (match lawNum w2 1 99 with
        | some n => if r = [] then mkE w0 wkS (.int n) [] else .non
        | none => .non)
      else if kindB w1 = true ∧ wordB w2 = true ∧ (1 ≤ r.length ∧ r.length ≤ 9) ∧ r.all valB = true then mkE w0 w1 (.str w2) (r.map fun x => numD (numIn x))
      else .non
    else .non
  | _ => .non
theorem lawNum_some {x : Str} {a b : Int} {n : Nat} (h : lawNum x a b = some n) : numIn x = some n ∧ a ≤ n ∧ (n : Int) ≤ b := by
  unfold lawNum at h
  cases e : numIn x with
  | none => rw [e] at h; cases h
  | some m =>
    rw [e] at h
    simp only [Option.filter] at h
    split at h
    · rename_i hc
      cases h
      rw [Bool.and_eq_true, decide_eq_true_eq, decide_eq_true_eq] at hc
      exact ⟨rfl, hc⟩
    · cases h
theorem lawNum_none {x : Str} {a b : Int} (h : lawNum x a b = none) : ∀ n, numIn x = some n → (decide (a ≤ (n : Int)) && decide ((n : Int) ≤ b)) = false := by
  intro n e
  unfold lawNum at h
  rw [e] at h
  simp only [Option.filter] at h
  split at h
  · cases h
  · rename_i hc; simpa using hc
theorem val_eq (x : Str) : g_is_value [numD (numIn x)] = .ok (.bl (valB x)) := by
  unfold valB
  cases e : numIn x with
  | none =>
    have : lawNum x 0 1000000000000000 = none := by unfold lawNum; rw [e]; rfl
    rw [this]; exact e_val_n
  | some n =>
    show g_is_value [.int n] = _
    rw [e_val]
    cases h : lawNum x 0 1000000000000000 with
    | some m =>
      obtain ⟨h1, h2, h3⟩ := lawNum_some h
      rw [e] at h1
      cases h1
      rw [decide_eq_true h2, decide_eq_true h3]; rfl
    | none => rw [lawNum_none h n e]; rfl
theorem nice_num (o : Option Nat) : nice (numD o) = true := by cases o <;> rfl
theorem dep_num (o : Option Nat) : dep (numD o) = 0 := by cases o <;> rfl
theorem eq_unit {l : List D} (h : niceL l = true) (hd : depL l ≤ 60) : dEq (.tup l) (.tup []) = some (.bl l.isEmpty) := by
  obtain ⟨ps, h1, h2, h3, h4⟩ := nice_pyL l h
  have hs : SeqAt.shaped (.tuple ps) = true := by
    unfold SeqAt.shaped PyData.canLay0 PyData.depth
    rw [h2, h3]
    simp; omega
  have hs0 : SeqAt.shaped (.tuple []) = true := by decide
  have e0 : toPy (.tup []) = some (.tuple []) := rfl
  have e1 : toPy (.tup l) = some (.tuple ps) := by simp only [toPy, h1, Option.map_some]
  have hz : l.isEmpty = ps.isEmpty := by
    cases l with
    | nil => cases h1; rfl
    | cons d ds =>
      simp only [toPyL] at h1
      split at h1
      · cases h1; rfl
      · cases h1
  have e2 : PyData.eqv (.tuple ps) (.tuple []) = l.isEmpty := by
    rw [hz]
    unfold PyData.eqv
    cases ps <;> (unfold PyData.eqvAll; rfl)
  have hb : deepB (.tup l) (.tup []) = some l.isEmpty := by
    simp only [deepB, e0, e1, hs, hs0, Bool.and_self, if_pos, e2]
  show (deepB (.tup l) (.tup [])).map D.bl = _
  rw [hb]; rfl
theorem niceL_map {α : Type} {f : α → D} (h : ∀ a, nice (f a) = true) : ∀ l : List α, niceL (l.map f) = true
  | [] => rfl
  | a :: l => by rw [List.map_cons]; simp only [niceL, h a, niceL_map h l, Bool.and_self]
theorem depL_map {α : Type} {f : α → D} {n : Nat} (h : ∀ a, dep (f a) ≤ n) : ∀ l : List α, depL (l.map f) ≤ n
  | [] => Nat.zero_le _
  | a :: l => by rw [List.map_cons]; simp only [depL]; exact Nat.max_le.mpr ⟨h a, depL_map h l⟩
theorem len_tup (l : List D) : dLen [.tup l] = some (.int l.length) := rfl
theorem dne_int (a b : Int) : dNe (.int a) (.int b) = some (.bl (!decide (a = b))) := by
  have e : scal (.int a) (.int b) = true := rfl
  simp only [dNe, eqB, flat, e, if_pos, Option.map_some]
  congr 3
  simp
def entB (w0 w1 : Str) (nm : D) (vals : List D) (ok : Bool) : Bool := wordB w0 && (if w1 = wkS then ok && vals.isEmpty else kindB w1 && ok)
def timeB : Option Nat → Bool
  | some n => decide ((1 : Int) ≤ n) && decide ((n : Int) ≤ 99)
  | none => false
theorem e_is_entry_work (w0 : Str) (nm : Option Nat) (r : List Str) (h0 : w0.length ≤ sizeLine) :
    g_is_entry [mkE w0 wkS (numD nm) (r.map fun x => numD (numIn x))] = .ok (.bl (wordB w0 && (timeB nm && r.isEmpty))) := by
  have hw := e_word w0 h0
  have hu := eq_unit (l := r.map fun x => numD (numIn x)) (niceL_map (fun x => nice_num _) r) (Nat.le_trans (depL_map (n := 0) (fun x => by rw [dep_num]; exact Nat.le_refl 0) r) (by decide))
  have he : (r.map fun x => numD (numIn x)).isEmpty = r.isEmpty := by cases r <;> rfl
  rw [he] at hu
  have hb : g_is_between [numD nm, .int 1, .int 99] = .ok (.bl (timeB nm)) := by
    cases nm with
    | none => exact e_btw_n _ _
    | some n => exact e_btw _ _ _
  cases hW : wordB w0 with
  | false =>
    rw [hW] at hw
    exact ev_fn (ev_seq_rt (ev_if_t (ev_orT_f (ev_nT_f (ev_tru (ev_isa rfl rfl) rfl)) (ev_orT_f (ev_tst (ev_bin (ev_cb (ev_one rfl) rfl) rfl rfl)) (ev_nT_t (ev_tru (ev_call (ev_one (ev_bin rfl rfl (ixT rfl))) rfl hw) rfl)))) (ev_ret rfl)))
  | true =>
    rw [hW] at hw
    rw [Bool.true_and]
    refine ev_fn (es1 := [.dat (mkE w0 wkS (numD nm) (r.map fun x => numD (numIn x))), .un]) (ev_seq (ev_if_f (ev_orT_f (ev_nT_f (ev_tru (ev_isa rfl rfl) rfl)) (ev_orT_f (ev_tst (ev_bin (ev_cb (ev_one rfl) rfl) rfl rfl)) (ev_nT_f (ev_tru (ev_call (ev_one (ev_bin rfl rfl (ixT rfl))) rfl hw) rfl)))) rfl) ?_)
    refine ev_seq (es1 := [.dat (mkE w0 wkS (numD nm) (r.map fun x => numD (numIn x))), .un]) (ev_if_f (ev_orT_f (ev_nT_f (ev_tru (ev_isa (ev_bin rfl rfl (ixT rfl)) rfl) rfl)) (ev_nT_f (ev_tru (ev_isa (ev_bin rfl rfl (ixT rfl)) rfl) rfl))) rfl) ?_
    exact ev_seq_rt (ev_if_t (ev_tst (ev_bin (ev_bin rfl rfl (ixT rfl)) rfl (by rw [deq_str, decide_eq_true rfl]))) (ev_ret (ev_and (ev_call (ev_cons (ev_bin rfl rfl (ixT rfl)) (ev_cons rfl (ev_one rfl))) rfl hb) fun _ => ev_bin (ev_bin rfl rfl (ixT rfl)) rfl hu)))
theorem e_is_entry_msg (w0 w1 w2 : Str) (r : List Str) (h0 : w0.length ≤ sizeLine) (h2 : w2.length ≤ sizeLine) (hr : r.length ≤ sizeLine) (hk : w1 ≠ wkS) :
    g_is_entry [mkE w0 w1 (.str w2) (r.map fun x => numD (numIn x))] = .ok (.bl (wordB w0 && (kindB w1 && (wordB w2 && ((decide (1 ≤ r.length) && decide (r.length ≤ 9)) && r.all valB))))) := by
  have hw := e_word w0 h0
  have hw2 := e_word w2 h2
  have hn : dNin (.str w1) (.tup [.str sdS, .str tkS]) = some (.bl (!kindB w1)) := by
    simp only [dNin, nin2, Option.map_some]; rfl
  cases hW : wordB w0 with
  | false =>
    rw [hW] at hw
    exact ev_fn (ev_seq_rt (ev_if_t (ev_orT_f (ev_nT_f (ev_tru (ev_isa rfl rfl) rfl)) (ev_orT_f (ev_tst (ev_bin (ev_cb (ev_one rfl) rfl) rfl rfl)) (ev_nT_t (ev_tru (ev_call (ev_one (ev_bin rfl rfl (ixT rfl))) rfl hw) rfl)))) (ev_ret rfl)))
  | true =>
    rw [hW] at hw
    rw [Bool.true_and]
    refine ev_fn (es1 := [.dat (mkE w0 w1 (.str w2) (r.map fun x => numD (numIn x))), .un]) (ev_seq (ev_if_f (ev_orT_f (ev_nT_f (ev_tru (ev_isa rfl rfl) rfl)) (ev_orT_f (ev_tst (ev_bin (ev_cb (ev_one rfl) rfl) rfl rfl)) (ev_nT_f (ev_tru (ev_call (ev_one (ev_bin rfl rfl (ixT rfl))) rfl hw) rfl)))) rfl) ?_)
    refine ev_seq (es1 := [.dat (mkE w0 w1 (.str w2) (r.map fun x => numD (numIn x))), .un]) (ev_if_f (ev_orT_f (ev_nT_f (ev_tru (ev_isa (ev_bin rfl rfl (ixT rfl)) rfl) rfl)) (ev_nT_f (ev_tru (ev_isa (ev_bin rfl rfl (ixT rfl)) rfl) rfl))) rfl) ?_
    refine ev_seq (es1 := [.dat (mkE w0 w1 (.str w2) (r.map fun x => numD (numIn x))), .un]) (ev_if_f (ev_tst (ev_bin (ev_bin rfl rfl (ixT rfl)) rfl (by rw [deq_str, decide_eq_false hk]))) rfl) ?_
    cases hK : kindB w1 with
    | false =>
      rw [hK] at hn
      exact ev_seq_rt (ev_if_t (ev_orT_t (ev_tst (ev_bin (ev_bin rfl rfl (ixT rfl)) (ev_tup (ev_cons rfl (ev_one rfl)) (by rw [size_eq]; decide)) hn))) (ev_ret rfl))
    | true =>
      rw [hK] at hn
      rw [Bool.true_and]
      cases hW2 : wordB w2 with
      | false =>
        rw [hW2] at hw2
        exact ev_seq_rt (ev_if_t (ev_orT_f (ev_tst (ev_bin (ev_bin rfl rfl (ixT rfl)) (ev_tup (ev_cons rfl (ev_one rfl)) (by rw [size_eq]; decide)) hn)) (ev_nT_t (ev_tru (ev_call (ev_one (ev_bin rfl rfl (ixT rfl))) rfl hw2) rfl))) (ev_ret rfl))
      | true =>
        rw [hW2] at hw2
        rw [Bool.true_and]
        refine ev_seq (es1 := [.dat (mkE w0 w1 (.str w2) (r.map fun x => numD (numIn x))), .un]) (ev_if_f (ev_orT_f (ev_tst (ev_bin (ev_bin rfl rfl (ixT rfl)) (ev_tup (ev_cons rfl (ev_one rfl)) (by rw [size_eq]; decide)) hn)) (ev_nT_f (ev_tru (ev_call (ev_one (ev_bin rfl rfl (ixT rfl))) rfl hw2) rfl))) rfl) ?_
        have hc := comp_map (v := 1) (ms := mIT (mBin dIx (mVar 0) (mC (.int 3)))) (me := mCall 1 g_is_value (mCons (mVar 1) mNil)) (f := fun d => match g_is_value [d] with | .ok b => b | _ => .non) (ds := r.map fun x => numD (numIn x)) (es := [.dat (mkE w0 w1 (.str w2) (r.map fun x => numD (numIn x))), .un])
          (ev_iT (ev_bin rfl rfl (ixT rfl))) rfl (by show 1 < 2; decide) (fun d hd => by
            obtain ⟨x, _, rfl⟩ := List.mem_map.mp hd
            exact ev_call (ev_one rfl) rfl (by rw [val_eq])) (by rw [List.length_map]; exact hr)
        have e3 : ((r.map fun x => numD (numIn x)).map fun d => match g_is_value [d] with | .ok b => b | _ => .non) = r.map fun x => D.bl (valB x) := by
          rw [List.map_map]
          refine List.map_congr_left fun x _ => ?_
          simp only [Function.comp, val_eq]
        rw [e3] at hc
        have e4 : (decide (1 ≤ r.length) && decide (r.length ≤ 9)) = (decide ((1 : Int) ≤ (r.map fun x => numD (numIn x)).length) && decide (((r.map fun x => numD (numIn x)).length : Int) ≤ 9)) := by
          rw [List.length_map]
          congr 1 <;> congr 1 <;> exact propext (by omega)
        rw [e4]
        exact ev_ret (ev_and (ev_chn rfl (ev_cb (ev_one (ev_bin rfl rfl (ixT rfl))) rfl) rfl rfl rfl) fun _ => ev_cb (ev_one hc) (dAll_map _ _))
end G
namespace G
open PySem PySem.Spec PyProof.Rows L2 Mi
abbrev spS : Str := " "
theorem sz (k : Nat) (h : k ≤ 16777216) : k ≤ sizeLine := by rw [size_eq]; exact h
theorem txts_map : ∀ l : List Str, txts (l.map D.str) = some l
  | [] => rfl
  | s :: l => by rw [List.map_cons]; simp only [txts, txts_map l, Option.map_some]
def strD (w : Str) : D := .str w
theorem e_entry_text (a b w2 : Str) (c : D) (r : List Str) (hc : dStr [c] = some (.str w2)) (hr : ∀ x ∈ r, dStr [numD (numIn x)] = some (.str x)) (hl : r.length ≤ 1000000)
    (hj : ((a :: b :: w2 :: r).map (·.length)).sum + (a :: b :: w2 :: r).length * spS.length ≤ 16777216) :
    g_entry_text [mkE a b c (r.map fun x => numD (numIn x))] = .ok (.str (Txt.join spS (a :: b :: w2 :: r))) := by
  have hz := size_eq
  have hm := comp_map (v := 5) (ms := mIT (mVar 4)) (me := mCB dStr (mCons (mVar 5) mNil)) (f := fun d => match dStr [d] with | some b => b | _ => .non) (ds := r.map fun x => numD (numIn x))
    (es := [.dat (mkE a b c (r.map fun x => numD (numIn x))), .dat (.str a), .dat (.str b), .dat c, .dat (.tup (r.map fun x => numD (numIn x))), .un])
    (ev_iT rfl) rfl (by show 5 < 6; decide) (fun d hd => by
      obtain ⟨x, hx, rfl⟩ := List.mem_map.mp hd
      exact ev_cb (ev_one rfl) (by rw [hr x hx])) (by rw [List.length_map]; omega)
  have e3 : ((r.map fun x => numD (numIn x)).map fun d => match dStr [d] with | some b => b | _ => .non) = r.map D.str := by
    rw [List.map_map]
    refine List.map_congr_left fun x hx => ?_
    simp only [Function.comp, hr x hx]
  rw [e3] at hm
  have ha : dAdd (.lst [.str a, .str b, .str w2]) (.lst (r.map D.str)) = some (.lst ((a :: b :: w2 :: r).map D.str)) := by
    have : ([D.str a, D.str b, D.str w2].length + (r.map D.str).length ≤ sizeLine) := by
      rw [List.length_map]
      show 3 + r.length ≤ sizeLine
      omega
    simp only [dAdd, okB, decide_eq_true this, if_pos]
    rfl
  have hjj : dJoin spS (.lst ((a :: b :: w2 :: r).map D.str)) = some (.str (Txt.join spS (a :: b :: w2 :: r))) := by
    simp only [dJoin, seqOf, Option.bind_some, txts_map, okB, decide_eq_true hj, if_pos]
  exact ev_fn (ev_seq (ev_asg rfl rfl) (ev_ret (ev_m1 rfl (ev_bin (ev_lst (ev_cons rfl (ev_cons rfl (ev_one (ev_cb (ev_one rfl) hc)))) (sz 3 (by decide))) hm ha) hjj)))
theorem le_sum : ∀ {l : List Nat} {n : Nat}, n ∈ l → n ≤ l.sum
  | m :: l, n, h => by
    rw [List.sum_cons]
    cases h with
    | head => omega
    | tail _ h => have := le_sum h; omega
theorem split_small {t y : Str} (hy : 1 ≤ y.length) : ∀ w ∈ Txt.split t y, w.length ≤ t.length := by
  intro w hw
  have h1 := split_weight t y hy
  have h2 := le_sum (List.mem_map_of_mem (f := fun x : Str => x.length) hw)
  have h3 : 1 ≤ (Txt.split t y).length := List.length_pos_of_mem hw
  omega
theorem split_count {t y : Str} (hy : 1 ≤ y.length) : (Txt.split t y).length ≤ t.length + 1 := by
  have h1 := split_weight t y hy
  omega
theorem d_split {t y : Str} (hy : 1 ≤ y.length) (ht : t.length ≤ 1000000) : dSplit t (.str y) = some (.lst ((Txt.split t y).map D.str)) := by
  have hz := size_eq
  have : (y.length == 0) = false ∧ t.length + 2 ≤ sizeLine := ⟨by simp; omega, by omega⟩
  simp only [dSplit, okB, decide_eq_true this, if_pos]
theorem rejoin (t : Str) : Txt.join spS (Txt.split t spS) = t := by
  rw [TL.join_eq]; exact StrLaws.join_split t spS
theorem three {W : List Str} {a b c : Str} {r : List Str} (e : W = a :: b :: c :: r) : dLt (.int ((W.map D.str).length : Nat)) (.int 3) = some (.bl false) := by
  subst e
  show some (D.bl (decide _)) = _
  rw [decide_eq_false (by simp; omega)]
theorem e_entry_in (t : Str) (ht : t.length ≤ 1000000) : g_entry_in [.str t] = .ok (entOf (Txt.split t spS)) := by
  have hz := size_eq
  have hs := d_split (t := t) (y := spS) (by decide) ht
  have hw := split_small (t := t) (y := spS) (by decide)
  have hn := split_count (t := t) (y := spS) (by decide)
  have hj := rejoin t
  have hwt := split_weight t spS (by decide)
  match e : Txt.split t spS with
  | [] =>
    rw [e] at hs
    exact ev_fn (ev_seq (ev_set (ev_m1 rfl rfl hs)) (ev_seq_rt (ev_if_t (ev_tst rfl) (ev_ret rfl))))
  | [a] =>
    rw [e] at hs
    exact ev_fn (ev_seq (ev_set (ev_m1 rfl rfl hs)) (ev_seq_rt (ev_if_t (ev_tst rfl) (ev_ret rfl))))
  | [a, b] =>
    rw [e] at hs
    exact ev_fn (ev_seq (ev_set (ev_m1 rfl rfl hs)) (ev_seq_rt (ev_if_t (ev_tst rfl) (ev_ret rfl))))
  | a :: b :: c :: r =>
    rw [e] at hs hw hn hj hwt
    have h3 := three (W := a :: b :: c :: r) rfl
    have hrl : r.length ≤ 1000000 := by simp only [List.length_cons] at hn; omega
    have ha : a.length ≤ sizeLine := by have := hw a (by simp); omega
    have hc : c.length ≤ sizeLine := by have := hw c (by simp); omega
    have hjl : ((a :: b :: c :: r).map (·.length)).sum + (a :: b :: c :: r).length * spS.length ≤ 16777216 := by
      have e1 : spS.length = 1 := by decide
      rw [e1, Nat.mul_one]
      omega
    let W : D := .lst ((a :: b :: c :: r).map D.str)
    have hf : ((r.map D.str).map fun d => match g_number_in [d] with | .ok b => b | _ => .non) = r.map fun x => numD (numIn x) := by
      rw [List.map_map]
      refine List.map_congr_left fun x hx => ?_
      have := hw x (by simp [hx])
      simp only [Function.comp, e_number_in x (by omega)]
    have hv2 : ∀ nm : D, mComp [4] (mIL (mSl dSl (mVar 1) (mPart (mC (.int 3))) mNo)) (bName 4) mYes (mCall 1 g_number_in (mCons (mVar 4) mNil)) [.dat (.str t), .dat W, .dat nm, .un, .un] = .ok (.lst (r.map fun x => numD (numIn x)), [.dat (.str t), .dat W, .dat nm, .un, .un]) := fun nm => by
      have hv := comp_map (v := 4) (ms := mIL (mSl dSl (mVar 1) (mPart (mC (.int 3))) mNo)) (me := mCall 1 g_number_in (mCons (mVar 4) mNil)) (f := fun d => match g_number_in [d] with | .ok b => b | _ => .non) (ds := r.map D.str)
        (es := [.dat (.str t), .dat W, .dat nm, .un, .un]) (ev_iL (ev_sl rfl (ev_part rfl) rfl (cut3 _ _ _ _))) rfl (by show 4 < 5; decide) (fun d hd => by
          obtain ⟨x, hx, rfl⟩ := List.mem_map.mp hd
          have := hw x (by simp [hx])
          exact ev_call (ev_one rfl) rfl (by rw [e_number_in x (by omega)])) (by rw [List.length_map]; omega)
      rwa [hf] at hv
    by_cases hb : b = wkS
    · subst hb
      have hE := e_is_entry_work a (numIn c) r ha
      cases hK : (wordB a && (timeB (numIn c) && r.isEmpty)) with
      | false =>
        rw [hK] at hE
        have eo : entOf (a :: wkS :: c :: r) = .non := by
          simp only [entOf]
          split
          · rename_i hWa
            rw [if_pos trivial]
            split
            · rename_i n hn
              obtain ⟨g1, g2, g3⟩ := lawNum_some hn
              split
              · rename_i hr
                subst hr
                rw [hWa, g1] at hK
                simp only [timeB, decide_eq_true g2, decide_eq_true g3] at hK
                exact absurd hK (by decide)
              · rfl
            · rfl
          · rfl
        rw [eo]
        refine ev_fn (es1 := [.dat (.str t), .dat W, .dat (numD (numIn c)), .dat (mkE a wkS (numD (numIn c)) (r.map fun x => numD (numIn x))), .un]) (ev_seq (ev_set (ev_m1 rfl rfl hs)) (ev_seq (ev_if_f (ev_tst (ev_bin (ev_cb (ev_one rfl) rfl) rfl h3)) rfl) (ev_seq (ev_set (ev_ife_t (ev_tst (ev_bin (ev_bin rfl rfl (ixL rfl)) rfl (by rw [deq_str, decide_eq_true rfl]))) (ev_call (ev_one (ev_bin rfl rfl (ixL rfl))) rfl (e_number_in c hc)))) (ev_seq (ev_set (ev_tup (ev_cons (ev_bin rfl rfl (ixL rfl)) (ev_cons (ev_bin rfl rfl (ixL rfl)) (ev_cons rfl (ev_one (ev_cb (ev_one (hv2 _)) rfl))))) (sz 4 (by decide)))) (ev_ret (ev_ife_f (ev_andT_f (ev_tru (ev_call (ev_one rfl) rfl hE) rfl)) rfl))))))
      | true =>
        rw [hK] at hE
        rw [Bool.and_eq_true, Bool.and_eq_true] at hK
        obtain ⟨k1, k2, k3⟩ := hK
        have hr : r = [] := List.isEmpty_iff.mp k3
        subst hr
        cases hnc : numIn c with
        | none => rw [hnc] at k2; cases k2
        | some n =>
          rw [hnc] at k2 hE
          have eo : entOf [a, wkS, c] = mkE a wkS (.int n) [] := by
            have : lawNum c 1 99 = some n := by
              unfold lawNum
              rw [hnc]
              have k2' : (decide ((1 : Int) ≤ n) && decide ((n : Int) ≤ 99)) = true := k2
              simp only [Option.filter, k2', if_pos]
            simp only [entOf, k1, if_pos, this]
          rw [eo]
          have hT := e_entry_text a wkS c (.int n) [] (str_num hnc) (fun x hx => by cases hx) (by decide) hjl
          rw [hj] at hT
          have hnum := e_number_in c hc
          rw [hnc] at hnum
          exact ev_fn (es1 := [.dat (.str t), .dat W, .dat (.int n), .dat (mkE a wkS (.int n) []), .un]) (ev_seq (ev_set (ev_m1 rfl rfl hs)) (ev_seq (ev_if_f (ev_tst (ev_bin (ev_cb (ev_one rfl) rfl) rfl h3)) rfl) (ev_seq (ev_set (ev_ife_t (ev_tst (ev_bin (ev_bin rfl rfl (ixL rfl)) rfl (by rw [deq_str, decide_eq_true rfl]))) (ev_call (ev_one (ev_bin rfl rfl (ixL rfl))) rfl hnum))) (ev_seq (ev_set (ev_tup (ev_cons (ev_bin rfl rfl (ixL rfl)) (ev_cons (ev_bin rfl rfl (ixL rfl)) (ev_cons rfl (ev_one (ev_cb (ev_one (hv2 _)) rfl))))) (sz 4 (by decide)))) (ev_ret (ev_ife_t (ev_andT_t (ev_tru (ev_call (ev_one rfl) rfl hE) rfl) (ev_tst (ev_bin (ev_call (ev_one rfl) rfl hT) rfl (by rw [deq_str, decide_eq_true rfl])))) rfl))))))
    · have hE := e_is_entry_msg a b c r ha hc (by omega) hb
      cases hK : (wordB a && (kindB b && (wordB c && ((decide (1 ≤ r.length) && decide (r.length ≤ 9)) && r.all valB)))) with
      | false =>
        rw [hK] at hE
        have eo : entOf (a :: b :: c :: r) = .non := by
          simp only [entOf, if_neg hb]
          split
          · rename_i hWa
            split
            · rename_i h
              obtain ⟨g1, g2, ⟨g3, g4⟩, g5⟩ := h
              rw [hWa, g1, g2, g5, decide_eq_true g3, decide_eq_true g4] at hK
              exact absurd hK (by decide)
            · rfl
          · rfl
        rw [eo]
        exact ev_fn (es1 := [.dat (.str t), .dat W, .dat (.str c), .dat (mkE a b (.str c) (r.map fun x => numD (numIn x))), .un]) (ev_seq (ev_set (ev_m1 rfl rfl hs)) (ev_seq (ev_if_f (ev_tst (ev_bin (ev_cb (ev_one rfl) rfl) rfl h3)) rfl) (ev_seq (ev_set (ev_ife_f (ev_tst (ev_bin (ev_bin rfl rfl (ixL rfl)) rfl (by rw [deq_str, decide_eq_false hb]))) (ev_bin rfl rfl (ixL rfl)))) (ev_seq (ev_set (ev_tup (ev_cons (ev_bin rfl rfl (ixL rfl)) (ev_cons (ev_bin rfl rfl (ixL rfl)) (ev_cons rfl (ev_one (ev_cb (ev_one (hv2 _)) rfl))))) (sz 4 (by decide)))) (ev_ret (ev_ife_f (ev_andT_f (ev_tru (ev_call (ev_one rfl) rfl hE) rfl)) rfl))))))
      | true =>
        rw [hK] at hE
        rw [Bool.and_eq_true, Bool.and_eq_true, Bool.and_eq_true, Bool.and_eq_true, Bool.and_eq_true, decide_eq_true_eq, decide_eq_true_eq] at hK
        obtain ⟨k1, k2, k3, ⟨k4, k5⟩, k6⟩ := hK
        have eo : entOf (a :: b :: c :: r) = mkE a b (.str c) (r.map fun x => numD (numIn x)) := by
          simp only [entOf, k1, if_pos, if_neg hb, k2, k3, k4, k5, k6, and_self]
        rw [eo]
        have hT := e_entry_text a b c (.str c) r rfl (fun x hx => by
          have hv := List.all_eq_true.mp k6 x hx
          unfold valB at hv
          obtain ⟨m, hm⟩ := Option.isSome_iff_exists.mp hv
          have := (lawNum_some hm).1
          rw [this]
          exact str_num this) hrl hjl
        rw [hj] at hT
        exact ev_fn (es1 := [.dat (.str t), .dat W, .dat (.str c), .dat (mkE a b (.str c) (r.map fun x => numD (numIn x))), .un]) (ev_seq (ev_set (ev_m1 rfl rfl hs)) (ev_seq (ev_if_f (ev_tst (ev_bin (ev_cb (ev_one rfl) rfl) rfl h3)) rfl) (ev_seq (ev_set (ev_ife_f (ev_tst (ev_bin (ev_bin rfl rfl (ixL rfl)) rfl (by rw [deq_str, decide_eq_false hb]))) (ev_bin rfl rfl (ixL rfl)))) (ev_seq (ev_set (ev_tup (ev_cons (ev_bin rfl rfl (ixL rfl)) (ev_cons (ev_bin rfl rfl (ixL rfl)) (ev_cons rfl (ev_one (ev_cb (ev_one (hv2 _)) rfl))))) (sz 4 (by decide)))) (ev_ret (ev_ife_t (ev_andT_t (ev_tru (ev_call (ev_one rfl) rfl hE) rfl) (ev_tst (ev_bin (ev_call (ev_one rfl) rfl hT) rfl (by rw [deq_str, decide_eq_true rfl])))) rfl))))))
end G
namespace G
open PySem PySem.Spec PyProof.Rows L2 Mi
theorem non_in : ∀ (os : List (Option Nat)), ∃ xs, flats (os.map numD) = some xs ∧ xs.all flatV = true ∧ inV .non xs = os.any (·.isNone)
  | [] => ⟨[], rfl, rfl, rfl⟩
  | none :: os => by
    obtain ⟨xs, h1, h2, h3⟩ := non_in os
    refine ⟨.non :: xs, by rw [List.map_cons]; simp only [flats, numD, flat, h1], by rw [List.all_cons, h2]; rfl, rfl⟩
  | some n :: os => by
    obtain ⟨xs, h1, h2, h3⟩ := non_in os
    refine ⟨.int n :: xs, by rw [List.map_cons]; simp only [flats, numD, flat, h1], by rw [List.all_cons, h2]; rfl, ?_⟩
    show (eqV (.int n) .non || inV .non xs) = _
    rw [h3]; rfl
theorem d_non_in (os : List (Option Nat)) : dIn .non (.lst (os.map numD)) = some (.bl (os.any (·.isNone))) := by
  obtain ⟨xs, h1, h2, h3⟩ := non_in os
  simp only [dIn, inB, flat, h1, h2, flatV, Bool.and_self, if_pos, h3, Option.map_some]
theorem any_val (r : List Str) : (r.map fun x => lawNum x 0 1000000000000000).any (·.isNone) = !r.all valB := by
  induction r with
  | nil => rfl
  | cons x r ih =>
    rw [List.map_cons, List.any_cons, ih, List.all_cons]
    unfold valB
    cases lawNum x 0 1000000000000000 <;> simp
theorem e_lentry (t : Str) (ht : t.length ≤ 1000000) : g__law_entry_in [.str t] = .ok (entOf (Txt.split t spS)) := by
  have hz := size_eq
  have hs := d_split (t := t) (y := spS) (by decide) ht
  have hw := split_small (t := t) (y := spS) (by decide)
  have hn := split_count (t := t) (y := spS) (by decide)
  match e : Txt.split t spS with
  | [] =>
    rw [e] at hs
    exact ev_fn (ev_seq (ev_set (ev_m1 rfl rfl hs)) (ev_seq_rt (ev_if_t (ev_orT_t (ev_tst rfl)) (ev_ret rfl))))
  | [a] =>
    rw [e] at hs
    exact ev_fn (ev_seq (ev_set (ev_m1 rfl rfl hs)) (ev_seq_rt (ev_if_t (ev_orT_t (ev_tst rfl)) (ev_ret rfl))))
  | [a, b] =>
    rw [e] at hs
    exact ev_fn (ev_seq (ev_set (ev_m1 rfl rfl hs)) (ev_seq_rt (ev_if_t (ev_orT_t (ev_tst rfl)) (ev_ret rfl))))
  | a :: b :: c :: r =>
    rw [e] at hs hw hn
    have h3 := three (W := a :: b :: c :: r) rfl
    have hrl : r.length ≤ 1000000 := by simp only [List.length_cons] at hn; omega
    have ha : a.length ≤ sizeLine := by have := hw a (by simp); omega
    have hc : c.length ≤ sizeLine := by have := hw c (by simp); omega
    have hwa := e_lword a ha
    have hwc := e_lword c hc
    let W : D := .lst ((a :: b :: c :: r).map D.str)
    cases hA : wordB a with
    | false =>
      rw [hA] at hwa
      have eo : entOf (a :: b :: c :: r) = .non := by simp only [entOf, hA]; rfl
      rw [eo]
      exact ev_fn (es1 := [.dat (.str t), .dat W, .un, .un, .un]) (ev_seq (ev_set (ev_m1 rfl rfl hs)) (ev_seq_rt (ev_if_t (ev_orT_f (ev_tst (ev_bin (ev_cb (ev_one rfl) rfl) rfl h3)) (ev_nT_t (ev_tru (ev_call (ev_one (ev_bin rfl rfl (ixL rfl))) rfl hwa) rfl))) (ev_ret rfl))))
    | true =>
      rw [hA] at hwa
      by_cases hb : b = wkS
      · subst hb
        have hN := e_lnum c 1 99 hc (by decide)
        have eo : entOf (a :: wkS :: c :: r) = (match lawNum c 1 99 with
          | some n => if r = [] then mkE a wkS (.int n) [] else .non
          | none => .non) := by
          first
            | (simp only [entOf, hA, if_pos]; done)
            | (simp only [entOf, hA, if_pos]; cases lawNum c 1 99 <;> rfl)
        rw [eo]
        have hl3 : dEq (.int ((((a :: wkS :: c :: r).map D.str).length : Nat) : Int)) (.int 3) = some (.bl r.isEmpty) := by
          rw [deq_int]
          congr 2
          cases r with
          | nil => simp
          | cons x r => exact decide_eq_false (by simp; omega)
        refine ev_fn (es1 := [.dat (.str t), .dat W, .dat (numD (lawNum c 1 99)), .un, .un]) (ev_seq (ev_set (ev_m1 rfl rfl hs)) (ev_seq (ev_if_f (ev_orT_f (ev_tst (ev_bin (ev_cb (ev_one rfl) rfl) rfl h3)) (ev_nT_f (ev_tru (ev_call (ev_one (ev_bin rfl rfl (ixL rfl))) rfl hwa) rfl))) rfl)
          (ev_seq_rt (ev_if_t (ev_tst (ev_bin (ev_bin rfl rfl (ixL rfl)) rfl (by rw [deq_str, decide_eq_true rfl]))) (ev_seq (ev_set (ev_call (ev_cons (ev_bin rfl rfl (ixL rfl)) (ev_cons rfl (ev_one rfl))) rfl hN)) (ev_ret ?_))))))
        cases hq : lawNum c 1 99 with
        | none =>
          cases r with
          | nil => exact ev_ife_f (ev_andT_t (ev_tst (ev_bin (ev_cb (ev_one rfl) rfl) rfl hl3)) (ev_tst rfl)) rfl
          | cons x r => exact ev_ife_f (ev_andT_f (ev_tst (ev_bin (ev_cb (ev_one rfl) rfl) rfl hl3))) rfl
        | some n =>
          cases r with
          | nil => exact ev_ife_t (ev_andT_t (ev_tst (ev_bin (ev_cb (ev_one rfl) rfl) rfl hl3)) (ev_tst rfl)) (ev_tup (ev_cons (ev_bin rfl rfl (ixL rfl)) (ev_cons rfl (ev_cons rfl (ev_one rfl)))) (sz 4 (by decide)))
          | cons x r => exact ev_ife_f (ev_andT_f (ev_tst (ev_bin (ev_cb (ev_one rfl) rfl) rfl hl3))) rfl
      · have hpow : dPow (.int 10) (.int 15) = some (.int 1000000000000000) := by simp [dPow, okB]
        have hf : ((r.map D.str).map fun d => match g__law_number [d, .int 0, .int 1000000000000000] with | .ok b => b | _ => .non) = (r.map fun x => lawNum x 0 1000000000000000).map numD := by
          rw [List.map_map, List.map_map]
          refine List.map_congr_left fun x hx => ?_
          have := hw x (by simp [hx])
          simp only [Function.comp, e_lnum x 0 1000000000000000 (by omega) (by decide)]
        have hv := comp_map (v := 4) (ms := mIL (mSl dSl (mVar 1) (mPart (mC (.int 3))) mNo)) (me := mCall 3 g__law_number (mCons (mVar 4) (mCons (mC (.int 0)) (mCons (mBin dPow (mC (.int 10)) (mC (.int 15))) mNil)))) (f := fun d => match g__law_number [d, .int 0, .int 1000000000000000] with | .ok b => b | _ => .non) (ds := r.map D.str)
          (es := [.dat (.str t), .dat W, .un, .un, .un]) (ev_iL (ev_sl rfl (ev_part rfl) rfl (cut3 _ _ _ _))) rfl (by show 4 < 5; decide) (fun d hd => by
            obtain ⟨x, hx, rfl⟩ := List.mem_map.mp hd
            have := hw x (by simp [hx])
            exact ev_call (ev_cons rfl (ev_cons rfl (ev_one (ev_bin rfl rfl hpow)))) rfl (by rw [e_lnum x 0 1000000000000000 (by omega) (by decide)])) (by rw [List.length_map]; omega)
        rw [hf] at hv
        have hni := d_non_in (r.map fun x => lawNum x 0 1000000000000000)
        rw [any_val] at hni
        have hk : dNin (.str b) (.lst [.str sdS, .str tkS]) = some (.bl (!kindB b)) := by
          simp only [dNin, nin2L, Option.map_some]; rfl
        have hlen : (decide ((1 : Int) ≤ (((r.map fun x => lawNum x 0 1000000000000000).map numD).length : Nat)) && decide (((((r.map fun x => lawNum x 0 1000000000000000).map numD).length : Nat) : Int) ≤ 9)) = (decide (1 ≤ r.length) && decide (r.length ≤ 9)) := by
          rw [List.length_map, List.length_map]
          congr 1 <;> congr 1 <;> exact propext (by omega)
        have hch : mChn dLe dLe (mC (.int 1)) (mCB dLen (mCons (mVar 3) mNil)) (mC (.int 9)) [.dat (.str t), .dat W, .un, .dat (.lst ((r.map fun x => lawNum x 0 1000000000000000).map numD)), .un] = .ok (.bl (decide (1 ≤ r.length) && decide (r.length ≤ 9)), [.dat (.str t), .dat W, .un, .dat (.lst ((r.map fun x => lawNum x 0 1000000000000000).map numD)), .un]) := by
          rw [← hlen]
          exact ev_chn rfl (ev_cb (ev_one rfl) rfl) rfl rfl rfl
        have hK : mTst (mBin dNin (mBin dIx (mVar 1) (mC (.int 1))) (mLst (mCons (mC (.str "send")) (mCons (mC (.str "take")) mNil)))) [.dat (.str t), .dat W, .un, .dat (.lst ((r.map fun x => lawNum x 0 1000000000000000).map numD)), .un] = .ok (!kindB b, [.dat (.str t), .dat W, .un, .dat (.lst ((r.map fun x => lawNum x 0 1000000000000000).map numD)), .un]) :=
          ev_tst (ev_bin (ev_bin rfl rfl (ixL rfl)) (ev_lst (ev_cons rfl (ev_one rfl)) (sz 2 (by decide))) hk)
        have hC : mNotT (mTru (mCall 1 g__law_is_word (mCons (mBin dIx (mVar 1) (mC (.int 2))) mNil))) [.dat (.str t), .dat W, .un, .dat (.lst ((r.map fun x => lawNum x 0 1000000000000000).map numD)), .un] = .ok (!wordB c, [.dat (.str t), .dat W, .un, .dat (.lst ((r.map fun x => lawNum x 0 1000000000000000).map numD)), .un]) :=
          ev_notT (ev_tru (ev_call (ev_one (ev_bin rfl rfl (ixL rfl))) rfl hwc) rfl)
        have hNi : mTst (mBin dIn (mC .non) (mVar 3)) [.dat (.str t), .dat W, .un, .dat (.lst ((r.map fun x => lawNum x 0 1000000000000000).map numD)), .un] = .ok (!r.all valB, [.dat (.str t), .dat W, .un, .dat (.lst ((r.map fun x => lawNum x 0 1000000000000000).map numD)), .un]) := ev_tst (ev_bin rfl rfl hni)
        have hcond := ev_orT hK fun _ => ev_orT hC fun _ => ev_orT hNi fun _ => ev_notT (ev_tst hch)
        cases hq : (!kindB b || (!wordB c || (!r.all valB || !(decide (1 ≤ r.length) && decide (r.length ≤ 9))))) with
        | true =>
          rw [hq] at hcond
          have eo : entOf (a :: b :: c :: r) = .non := by
            simp only [entOf, hA, if_pos, if_neg hb]
            split
            · rename_i h
              obtain ⟨g1, g2, ⟨g3, g4⟩, g5⟩ := h
              rw [g1, g2, g5, decide_eq_true g3, decide_eq_true g4] at hq
              exact absurd hq (by decide)
            · rfl
          rw [eo]
          exact ev_fn (es1 := [.dat (.str t), .dat W, .un, .dat (.lst ((r.map fun x => lawNum x 0 1000000000000000).map numD)), .un]) (ev_seq (ev_set (ev_m1 rfl rfl hs)) (ev_seq (ev_if_f (ev_orT_f (ev_tst (ev_bin (ev_cb (ev_one rfl) rfl) rfl h3)) (ev_nT_f (ev_tru (ev_call (ev_one (ev_bin rfl rfl (ixL rfl))) rfl hwa) rfl))) rfl)
            (ev_seq (ev_if_f (ev_tst (ev_bin (ev_bin rfl rfl (ixL rfl)) rfl (by rw [deq_str, decide_eq_false hb]))) rfl) (ev_seq (ev_set hv) (ev_seq_rt (ev_if_t hcond (ev_ret rfl)))))))
        | false =>
          rw [hq] at hcond
          rw [Bool.or_eq_false_iff, Bool.or_eq_false_iff, Bool.or_eq_false_iff] at hq
          obtain ⟨q1, q2, q3, q4⟩ := hq
          have q1 : kindB b = true := by simpa using q1
          have q2 : wordB c = true := by simpa using q2
          have q3 : r.all valB = true := by simpa using q3
          have q4 : (decide (1 ≤ r.length) && decide (r.length ≤ 9)) = true := by simpa using q4
          rw [Bool.and_eq_true, decide_eq_true_eq, decide_eq_true_eq] at q4
          have eo : entOf (a :: b :: c :: r) = mkE a b (.str c) ((r.map fun x => lawNum x 0 1000000000000000).map numD) := by
            simp only [entOf, hA, if_pos, if_neg hb, q1, q2, q3, q4, and_self, List.map_map]
            congr 1
            refine List.map_congr_left fun x hx => ?_
            have hv := List.all_eq_true.mp q3 x hx
            unfold valB at hv
            obtain ⟨m, hm⟩ := Option.isSome_iff_exists.mp hv
            rw [Function.comp, hm, (lawNum_some hm).1]
          rw [eo]
          exact ev_fn (es1 := [.dat (.str t), .dat W, .un, .dat (.lst ((r.map fun x => lawNum x 0 1000000000000000).map numD)), .un]) (ev_seq (ev_set (ev_m1 rfl rfl hs)) (ev_seq (ev_if_f (ev_orT_f (ev_tst (ev_bin (ev_cb (ev_one rfl) rfl) rfl h3)) (ev_nT_f (ev_tru (ev_call (ev_one (ev_bin rfl rfl (ixL rfl))) rfl hwa) rfl))) rfl)
            (ev_seq (ev_if_f (ev_tst (ev_bin (ev_bin rfl rfl (ixL rfl)) rfl (by rw [deq_str, decide_eq_false hb]))) rfl) (ev_seq (ev_set hv) (ev_seq (ev_if_f hcond rfl) (ev_ret (ev_tup (ev_cons (ev_bin rfl rfl (ixL rfl)) (ev_cons (ev_bin rfl rfl (ixL rfl)) (ev_cons (ev_bin rfl rfl (ixL rfl)) (ev_one (ev_cb (ev_one rfl) rfl))))) (sz 4 (by decide)))))))))
end G
namespace G
open PySem PySem.Spec PyProof.Rows L2 Mi
def chk (c : Int) (cs : List Nat) : Int := cs.foldl (fun (a : Int) (x : Nat) => (a * 131 + (x : Int)) % 9973) c
theorem chk_rng : ∀ (cs : List Nat) (c : Int), 0 ≤ c → c < 9973 → 0 ≤ chk c cs ∧ chk c cs < 9973
  | [], c, h1, h2 => ⟨h1, h2⟩
  | x :: cs, c, h1, h2 => chk_rng cs _ (Int.emod_nonneg _ (by decide)) (Int.emod_lt_of_pos _ (by decide))
theorem lg {i : Int} (h : i.natAbs < 2 ^ 100) : i.natAbs.log2 < 100 := by
  by_cases h0 : i.natAbs = 0
  · rw [h0]; decide
  · exact (Nat.log2_lt h0).mpr h
theorem mul_ok {i j : Int} (hi : i.natAbs < 2 ^ 100) (hj : j.natAbs < 2 ^ 100) : dMul (.int i) (.int j) = some (.int (i * j)) := by
  have h1 := lg hi
  have h2 := lg hj
  have : i.natAbs.log2 + j.natAbs.log2 < 1000000 := by omega
  simp only [dMul, okB, decide_eq_true this, if_pos]
theorem div_ok {i j : Int} (h0 : 0 < j) (hj : j.natAbs < 2 ^ 100) : dDiv (.int i) (.int j) = some (.int (i / j)) := by
  have h2 := lg hj
  have : 0 < j ∧ j.natAbs.log2 < 9000 := ⟨h0, by omega⟩
  simp only [dDiv, okB, decide_eq_true this, if_pos]
theorem mod_ok {i j : Int} (h0 : 0 < j) : dMod (.int i) (.int j) = some (.int (i % j)) := by
  simp only [dMod, okB, decide_eq_true h0, if_pos]
theorem ord1 (c : Nat) : dOrd [.str ⟨#[c]⟩] = some (.int (c : Int)) := rfl
abbrev chL (cs : List Nat) : List D := cs.map fun c => .str ⟨#[c]⟩
def Sm (cs : List Nat) : Prop := ∀ x ∈ cs, x < 1000
theorem chk_loop : ∀ (cs : List Nat) (c : Int) (d0 d1 x y : Sl), 0 ≤ c → c < 9973 → Sm cs → ∃ x' y', loopM (bName 3) (mSeq (mAsg (bName 4) (mBin dAdd (mBin dMul (mVar 2) (mC (.int 131))) (mCB dOrd (mCons (mVar 3) mNil))))
    (mAsg (bName 2) (mBin dSub (mVar 4) (mBin dMul (mBin dDiv (mVar 4) (mC (.int 9973))) (mC (.int 9973)))))) (chL cs) [d0, d1, .dat (.int c), x, y] = .ok (.nx, [d0, d1, .dat (.int (chk c cs)), x', y'])
  | [], c, d0, d1, x, y, _, _, _ => ⟨x, y, rfl⟩
  | k :: cs, c, d0, d1, x, y, h1, h2, hs => by
    have hk : k < 1000 := hs k List.mem_cons_self
    have e : c * 131 + (k : Int) - (c * 131 + (k : Int)) / 9973 * 9973 = (c * 131 + (k : Int)) % 9973 := by
      rw [Int.emod_def, Int.mul_comm 9973]
    obtain ⟨x', y', ih⟩ := chk_loop cs ((c * 131 + (k : Int)) % 9973) d0 d1 (.dat (.str ⟨#[k]⟩)) (.dat (.int (c * 131 + (k : Int)))) (Int.emod_nonneg _ (by decide)) (Int.emod_lt_of_pos _ (by decide)) fun z hz => hs z (List.mem_cons_of_mem _ hz)
    refine ⟨x', y', ev_l_cons (es1 := [d0, d1, .dat (.int c), .dat (.str ⟨#[k]⟩), y]) (es2 := [d0, d1, .dat (.int ((c * 131 + (k : Int)) % 9973)), .dat (.str ⟨#[k]⟩), .dat (.int (c * 131 + (k : Int)))]) rfl ?_ ih⟩
    have hm1 : dMul (.int c) (.int 131) = some (.int (c * 131)) := mul_ok (by omega) (by decide)
    have hd1 : dDiv (.int (c * 131 + (k : Int))) (.int 9973) = some (.int ((c * 131 + (k : Int)) / 9973)) := div_ok (by decide) (by decide)
    have hm2 : dMul (.int ((c * 131 + (k : Int)) / 9973)) (.int 9973) = some (.int ((c * 131 + (k : Int)) / 9973 * 9973)) := mul_ok (by omega) (by decide)
    refine ev_seq (es1 := [d0, d1, .dat (.int c), .dat (.str ⟨#[k]⟩), .dat (.int (c * 131 + (k : Int)))]) (ev_setL (ev_bin (ev_bin rfl rfl hm1) (ev_cb (ev_one rfl) (ord1 k)) rfl)) ?_
    rw [← e]
    exact ev_setL (ev_bin rfl (ev_bin (ev_bin rfl rfl hd1) rfl hm2) rfl)
theorem e_check (c : Int) (s : Str) (h1 : 0 ≤ c) (h2 : c < 9973) (hs : Sm s.cps.toList) : g_check_behind [.int c, .str s] = .ok (.int (chk c s.cps.toList)) := by
  obtain ⟨x', y', h⟩ := chk_loop s.cps.toList c (.dat (.int c)) (.dat (.str s)) .un .un h1 h2 hs
  exact ev_fn (ev_seq (ev_set rfl) (ev_seq (ev_for (ev_iS rfl) h) (ev_ret rfl)))
theorem lchk_loop : ∀ (cs : List Nat) (c : Int) (d1 x : Sl), 0 ≤ c → c < 9973 → Sm cs → ∃ x', loopM (bName 2) (mAsg (bName 0) (mBin dMod (mCB dInt (mCons (mBin dAdd (mBin dMul (mVar 0) (mC (.int 131))) (mCB dOrd (mCons (mVar 2) mNil))) mNil)) (mC (.int 9973)))) (chL cs) [.dat (.int c), d1, x] = .ok (.nx, [.dat (.int (chk c cs)), d1, x'])
  | [], c, d1, x, _, _, _ => ⟨x, rfl⟩
  | k :: cs, c, d1, x, h1, h2, hs => by
    have hk : k < 1000 := hs k List.mem_cons_self
    obtain ⟨x', ih⟩ := lchk_loop cs ((c * 131 + (k : Int)) % 9973) d1 (.dat (.str ⟨#[k]⟩)) (Int.emod_nonneg _ (by decide)) (Int.emod_lt_of_pos _ (by decide)) fun z hz => hs z (List.mem_cons_of_mem _ hz)
    have hm1 : dMul (.int c) (.int 131) = some (.int (c * 131)) := mul_ok (by omega) (by decide)
    have hd1 : dMod (.int (c * 131 + (k : Int))) (.int 9973) = some (.int ((c * 131 + (k : Int)) % 9973)) := mod_ok (by decide)
    exact ⟨x', ev_l_cons (es1 := [.dat (.int c), d1, .dat (.str ⟨#[k]⟩)]) (es2 := [.dat (.int ((c * 131 + (k : Int)) % 9973)), d1, .dat (.str ⟨#[k]⟩)]) rfl (ev_setL (ev_bin (ev_cb (ev_one (ev_bin (ev_bin rfl rfl hm1) (ev_cb (ev_one rfl) (ord1 k)) rfl)) rfl) rfl hd1)) ih⟩
theorem e_lcheck (c : Int) (s : Str) (h1 : 0 ≤ c) (h2 : c < 9973) (hs : Sm s.cps.toList) : g__law_check [.int c, .str s] = .ok (.int (chk c s.cps.toList)) := by
  obtain ⟨x', h⟩ := lchk_loop s.cps.toList c (.dat (.str s)) .un h1 h2 hs
  exact ev_fn (ev_seq (ev_for (ev_iS rfl) h) (ev_ret rfl))
def numS (c : Int) : Str := Str.ofString (toString c)
theorem str_chk {c : Int} (h1 : 0 ≤ c) (h2 : c < 9973) : dStr [.int c] = some (.str (numS c)) := by
  have : c.natAbs.log2 < 1920 := Nat.lt_trans (lg (i := c) (by omega)) (by decide)
  simp only [dStr, okB, decide_eq_true this, if_pos]
  rfl
def scan : Int → Nat → List Str → List D → List D × Option Nat
  | _, _, [], acc => (acc, none)
  | c, k, l :: ls, acc =>
    let p := Txt.rpartition l spS
    let e := entOf (Txt.split p.1 spS)
    let c' := chk c p.1.cps.toList
    if (isN e || !decide (p.2.2 = numS c')) = true then (acc, some k) else scan c' (k + 1) ls (acc ++ [e])
def enumD : Nat → List Str → List D
  | _, [] => []
  | k, l :: ls => .tup [.int k, .str l] :: enumD (k + 1) ls
theorem enum_eq : ∀ (ls : List Str) (k : Nat), (List.range' k ls.length).zipWith (fun (k : Nat) d => D.tup [.int (k : Int), d]) (ls.map D.str) = enumD k ls
  | [], k => rfl
  | l :: ls, k => by
    rw [List.length_cons, List.range'_succ, List.map_cons, List.zipWith_cons_cons, enum_eq ls (k + 1)]; rfl
theorem enum_eq0 (ls : List Str) : (List.range (ls.map D.str).length).zipWith (fun (k : Nat) d => D.tup [.int (k : Int), d]) (ls.map D.str) = enumD 0 ls := by
  rw [List.length_map, List.range_eq_range']; exact enum_eq ls 0
structure Tx (s : Str) : Prop where
  len : s.length ≤ 1000000
  sm : Sm s.cps.toList
theorem rp_tx {l : Str} (h : Tx l) : Tx (Txt.rpartition l spS).1 := by
  rcases StrLaws.last_spec l spS with ⟨e, _⟩ | ⟨i, e, _, _⟩
  · unfold Txt.rpartition
    rw [e]
    exact ⟨by show 0 ≤ _; omega, fun x hx => by cases hx⟩
  · unfold Txt.rpartition
    rw [e]
    have ht := TL.tl_strSub l 0 i
    constructor
    · show (Builtin.Str.strSub l 0 i).length ≤ _
      rw [TL.len_tl, ht]
      have := h.len
      rw [TL.len_tl] at this
      simp only [List.length_take, List.length_drop]
      omega
    · show Sm (TL.tl (Builtin.Str.strSub l 0 i))
      rw [ht]
      exact fun x hx => h.sm x (List.mem_of_mem_drop (List.mem_of_mem_take hx))
theorem d_rpart {l : Str} (h : Tx l) : dRpart l (.str spS) = some (.tup [.str (Txt.rpartition l spS).1, .str (Txt.rpartition l spS).2.1, .str (Txt.rpartition l spS).2.2]) := by
  have hz := size_eq
  have := h.len
  have : (spS.length == 0) = false ∧ l.length ≤ sizeLine := ⟨by decide, by omega⟩
  simp only [dRpart, okB, decide_eq_true this, if_pos]
abbrev rdBody : M Out := mSeq (mAsg (bTup [6, 7, 8]) (mM1 dRpart (mVar 5) (mC (.str " "))))
    (mSeq (mAsg (bName 9) (mCall 1 g_entry_in (mCons (mVar 6) mNil)))
    (mSeq (mAsg (bName 2) (mCall 2 g_check_behind (mCons (mVar 2) (mCons (mVar 6) mNil))))
    (mSeq (mIf (mOrT (mTst (mBin dIs (mVar 9) (mC .non))) (mTst (mBin dNe (mVar 8) (mCB dStr (mCons (mVar 2) mNil))))) (mRet (mTup (mCons (mVar 3) (mCons (mVar 4) mNil)))) mNext)
    (mDrop (mApp 3 (mVar 9))))))
theorem rd_loop : ∀ (ls : List Str) (c : Int) (k : Nat) (acc : List D) (d0 d1 x4 x5 x6 x7 x8 x9 : Sl), 0 ≤ c → c < 9973 → (∀ l ∈ ls, Tx l) → acc.length + ls.length ≤ sizeLine →
    match scan c k ls acc with
    | (acc', some j) => ∃ es', loopM (bTup [4, 5]) rdBody (enumD k ls) [d0, d1, .dat (.int c), .own acc, x4, x5, x6, x7, x8, x9] = .ok (.rt (.tup [.lst acc', .int j]), es')
    | (acc', none) => ∃ c' y4 y5 y6 y7 y8 y9, loopM (bTup [4, 5]) rdBody (enumD k ls) [d0, d1, .dat (.int c), .own acc, x4, x5, x6, x7, x8, x9] = .ok (.nx, [d0, d1, .dat (.int c'), .own acc', y4, y5, y6, y7, y8, y9])
  | [], c, k, acc, d0, d1, x4, x5, x6, x7, x8, x9, _, _, _, _ => ⟨c, x4, x5, x6, x7, x8, x9, rfl⟩
  | l :: ls, c, k, acc, d0, d1, x4, x5, x6, x7, x8, x9, h1, h2, ht, hl => by
    have hl0 := ht l List.mem_cons_self
    have hr := rp_tx hl0
    have hp := d_rpart hl0
    have he := e_entry_in (Txt.rpartition l spS).1 hr.len
    have hc := e_check c (Txt.rpartition l spS).1 h1 h2 hr.sm
    obtain ⟨g1, g2⟩ := chk_rng (Txt.rpartition l spS).1.cps.toList c h1 h2
    have hcs := str_chk g1 g2
    have hcond : mOrT (mTst (mBin dIs (mVar 9) (mC .non))) (mTst (mBin dNe (mVar 8) (mCB dStr (mCons (mVar 2) mNil)))) [d0, d1, .dat (.int (chk c (Txt.rpartition l spS).1.cps.toList)), .own acc, .dat (.int k), .dat (.str l), .dat (.str (Txt.rpartition l spS).1), .dat (.str (Txt.rpartition l spS).2.1), .dat (.str (Txt.rpartition l spS).2.2), .dat (entOf (Txt.split (Txt.rpartition l spS).1 spS))]
        = .ok (isN (entOf (Txt.split (Txt.rpartition l spS).1 spS)) || !decide ((Txt.rpartition l spS).2.2 = numS (chk c (Txt.rpartition l spS).1.cps.toList)), [d0, d1, .dat (.int (chk c (Txt.rpartition l spS).1.cps.toList)), .own acc, .dat (.int k), .dat (.str l), .dat (.str (Txt.rpartition l spS).1), .dat (.str (Txt.rpartition l spS).2.1), .dat (.str (Txt.rpartition l spS).2.2), .dat (entOf (Txt.split (Txt.rpartition l spS).1 spS))]) :=
      ev_orT (ev_tst (ev_bin rfl rfl rfl)) fun _ => ev_tst (ev_bin rfl (ev_cb (ev_one rfl) hcs) (dne_str _ _))
    rw [List.length_cons] at hl
    unfold scan
    dsimp only
    cases hq : (isN (entOf (Txt.split (Txt.rpartition l spS).1 spS)) || !decide ((Txt.rpartition l spS).2.2 = numS (chk c (Txt.rpartition l spS).1.cps.toList))) with
    | true =>
      rw [if_pos rfl]
      rw [hq] at hcond
      exact ⟨_, ev_l_rt (es1 := [d0, d1, .dat (.int c), .own acc, .dat (.int k), .dat (.str l), x6, x7, x8, x9]) rfl (ev_seq (ev_asg (ev_m1 rfl rfl hp) rfl) (ev_seq (ev_set (ev_call (ev_one rfl) rfl he)) (ev_seq (ev_set (ev_call (ev_cons rfl (ev_one rfl)) rfl hc)) (ev_seq_rt (ev_if_t hcond (ev_ret (ev_tup (ev_cons rfl (ev_one rfl)) (sz 2 (by decide)))))))))⟩
    | false =>
      rw [if_neg (by decide)]
      rw [hq] at hcond
      have ih := rd_loop ls (chk c (Txt.rpartition l spS).1.cps.toList) (k + 1) (acc ++ [entOf (Txt.split (Txt.rpartition l spS).1 spS)]) d0 d1 (.dat (.int k)) (.dat (.str l)) (.dat (.str (Txt.rpartition l spS).1)) (.dat (.str (Txt.rpartition l spS).2.1)) (.dat (.str (Txt.rpartition l spS).2.2)) (.dat (entOf (Txt.split (Txt.rpartition l spS).1 spS))) g1 g2 (fun z hz => ht z (List.mem_cons_of_mem _ hz)) (by rw [List.length_append, List.length_singleton]; omega)
      have step : rdBody [d0, d1, .dat (.int c), .own acc, .dat (.int k), .dat (.str l), x6, x7, x8, x9] = .ok (.nx, [d0, d1, .dat (.int (chk c (Txt.rpartition l spS).1.cps.toList)), .own (acc ++ [entOf (Txt.split (Txt.rpartition l spS).1 spS)]), .dat (.int k), .dat (.str l), .dat (.str (Txt.rpartition l spS).1), .dat (.str (Txt.rpartition l spS).2.1), .dat (.str (Txt.rpartition l spS).2.2), .dat (entOf (Txt.split (Txt.rpartition l spS).1 spS))]) :=
        ev_seq (ev_asg (ev_m1 rfl rfl hp) rfl) (ev_seq (ev_set (ev_call (ev_one rfl) rfl he)) (ev_seq (ev_set (ev_call (ev_cons rfl (ev_one rfl)) rfl hc)) (ev_seq (ev_if_f hcond rfl) (ev_drop (ev_appL rfl rfl rfl (show acc.length < sizeLine by omega))))))
      revert ih
      cases scan (chk c (Txt.rpartition l spS).1.cps.toList) (k + 1) ls (acc ++ [entOf (Txt.split (Txt.rpartition l spS).1 spS)]) with
      | mk acc' o =>
        cases o with
        | none =>
          rintro ⟨c', y4, y5, y6, y7, y8, y9, ih⟩
          exact ⟨c', y4, y5, y6, y7, y8, y9, ev_l_cons (es1 := [d0, d1, .dat (.int c), .own acc, .dat (.int k), .dat (.str l), x6, x7, x8, x9]) rfl step ih⟩
        | some j =>
          rintro ⟨es', ih⟩
          exact ⟨es', ev_l_cons (es1 := [d0, d1, .dat (.int c), .own acc, .dat (.int k), .dat (.str l), x6, x7, x8, x9]) rfl step ih⟩
end G
namespace G
open PySem PySem.Spec PyProof.Rows L2 Mi
abbrev nlS : Str := "\n"
abbrev ldBody : M Out := mSeq (mAsg (bTup [6, 7, 8]) (mM1 dRpart (mVar 5) (mC (.str " "))))
    (mSeq (mPar [9, 3] (mCons (mCall 1 g__law_entry_in (mCons (mVar 6) mNil)) (mCons (mCall 2 g__law_check (mCons (mVar 3) (mCons (mVar 6) mNil))) mNil)))
    (mSeq (mIf (mOrT (mTst (mBin dIs (mVar 9) (mC .non))) (mTst (mBin dNe (mVar 8) (mCB dStr (mCons (mVar 3) mNil))))) (mRet (mLst (mCons (mVar 2) (mCons (mVar 4) mNil)))) mNext)
    (mDrop (mApp 2 (mVar 9)))))
theorem ld_loop : ∀ (ls : List Str) (c : Int) (k : Nat) (acc : List D) (d0 d1 x4 x5 x6 x7 x8 x9 : Sl), 0 ≤ c → c < 9973 → (∀ l ∈ ls, Tx l) → acc.length + ls.length ≤ sizeLine →
    match scan c k ls acc with
    | (acc', some j) => ∃ es', loopM (bTup [4, 5]) ldBody (enumD k ls) [d0, d1, .own acc, .dat (.int c), x4, x5, x6, x7, x8, x9] = .ok (.rt (.lst [.lst acc', .int j]), es')
    | (acc', none) => ∃ c' y4 y5 y6 y7 y8 y9, loopM (bTup [4, 5]) ldBody (enumD k ls) [d0, d1, .own acc, .dat (.int c), x4, x5, x6, x7, x8, x9] = .ok (.nx, [d0, d1, .own acc', .dat (.int c'), y4, y5, y6, y7, y8, y9])
  | [], c, k, acc, d0, d1, x4, x5, x6, x7, x8, x9, _, _, _, _ => ⟨c, x4, x5, x6, x7, x8, x9, rfl⟩
  | l :: ls, c, k, acc, d0, d1, x4, x5, x6, x7, x8, x9, h1, h2, ht, hl => by
    have hl0 := ht l List.mem_cons_self
    have hr := rp_tx hl0
    have hp := d_rpart hl0
    have he := e_lentry (Txt.rpartition l spS).1 hr.len
    have hc := e_lcheck c (Txt.rpartition l spS).1 h1 h2 hr.sm
    obtain ⟨g1, g2⟩ := chk_rng (Txt.rpartition l spS).1.cps.toList c h1 h2
    have hcs := str_chk g1 g2
    have hcond : mOrT (mTst (mBin dIs (mVar 9) (mC .non))) (mTst (mBin dNe (mVar 8) (mCB dStr (mCons (mVar 3) mNil)))) [d0, d1, .own acc, .dat (.int (chk c (Txt.rpartition l spS).1.cps.toList)), .dat (.int k), .dat (.str l), .dat (.str (Txt.rpartition l spS).1), .dat (.str (Txt.rpartition l spS).2.1), .dat (.str (Txt.rpartition l spS).2.2), .dat (entOf (Txt.split (Txt.rpartition l spS).1 spS))]
        = .ok (isN (entOf (Txt.split (Txt.rpartition l spS).1 spS)) || !decide ((Txt.rpartition l spS).2.2 = numS (chk c (Txt.rpartition l spS).1.cps.toList)), [d0, d1, .own acc, .dat (.int (chk c (Txt.rpartition l spS).1.cps.toList)), .dat (.int k), .dat (.str l), .dat (.str (Txt.rpartition l spS).1), .dat (.str (Txt.rpartition l spS).2.1), .dat (.str (Txt.rpartition l spS).2.2), .dat (entOf (Txt.split (Txt.rpartition l spS).1 spS))]) :=
      ev_orT (ev_tst (ev_bin rfl rfl rfl)) fun _ => ev_tst (ev_bin rfl (ev_cb (ev_one rfl) hcs) (dne_str _ _))
    rw [List.length_cons] at hl
    unfold scan
    dsimp only
    cases hq : (isN (entOf (Txt.split (Txt.rpartition l spS).1 spS)) || !decide ((Txt.rpartition l spS).2.2 = numS (chk c (Txt.rpartition l spS).1.cps.toList))) with
    | true =>
      rw [if_pos rfl]
      rw [hq] at hcond
      exact ⟨_, ev_l_rt (es1 := [d0, d1, .own acc, .dat (.int c), .dat (.int k), .dat (.str l), x6, x7, x8, x9]) rfl (ev_seq (ev_asg (ev_m1 rfl rfl hp) rfl) (ev_seq (ev_par (ev_cons (ev_call (ev_one rfl) rfl he) (ev_one (ev_call (ev_cons rfl (ev_one rfl)) rfl hc))) rfl) (ev_seq_rt (ev_if_t hcond (ev_ret (ev_lst (ev_cons rfl (ev_one rfl)) (sz 2 (by decide))))))))⟩
    | false =>
      rw [if_neg (by decide)]
      rw [hq] at hcond
      have ih := ld_loop ls (chk c (Txt.rpartition l spS).1.cps.toList) (k + 1) (acc ++ [entOf (Txt.split (Txt.rpartition l spS).1 spS)]) d0 d1 (.dat (.int k)) (.dat (.str l)) (.dat (.str (Txt.rpartition l spS).1)) (.dat (.str (Txt.rpartition l spS).2.1)) (.dat (.str (Txt.rpartition l spS).2.2)) (.dat (entOf (Txt.split (Txt.rpartition l spS).1 spS))) g1 g2 (fun z hz => ht z (List.mem_cons_of_mem _ hz)) (by rw [List.length_append, List.length_singleton]; omega)
      have step : ldBody [d0, d1, .own acc, .dat (.int c), .dat (.int k), .dat (.str l), x6, x7, x8, x9] = .ok (.nx, [d0, d1, .own (acc ++ [entOf (Txt.split (Txt.rpartition l spS).1 spS)]), .dat (.int (chk c (Txt.rpartition l spS).1.cps.toList)), .dat (.int k), .dat (.str l), .dat (.str (Txt.rpartition l spS).1), .dat (.str (Txt.rpartition l spS).2.1), .dat (.str (Txt.rpartition l spS).2.2), .dat (entOf (Txt.split (Txt.rpartition l spS).1 spS))]) :=
        ev_seq (ev_asg (ev_m1 rfl rfl hp) rfl) (ev_seq (ev_par (ev_cons (ev_call (ev_one rfl) rfl he) (ev_one (ev_call (ev_cons rfl (ev_one rfl)) rfl hc))) rfl) (ev_seq (ev_if_f hcond rfl) (ev_drop (ev_appL rfl rfl rfl (show acc.length < sizeLine by omega)))))
      revert ih
      cases scan (chk c (Txt.rpartition l spS).1.cps.toList) (k + 1) ls (acc ++ [entOf (Txt.split (Txt.rpartition l spS).1 spS)]) with
      | mk acc' o =>
        cases o with
        | none =>
          rintro ⟨c', y4, y5, y6, y7, y8, y9, ih⟩
          exact ⟨c', y4, y5, y6, y7, y8, y9, ev_l_cons (es1 := [d0, d1, .own acc, .dat (.int c), .dat (.int k), .dat (.str l), x6, x7, x8, x9]) rfl step ih⟩
        | some j =>
          rintro ⟨es', ih⟩
          exact ⟨es', ev_l_cons (es1 := [d0, d1, .own acc, .dat (.int c), .dat (.int k), .dat (.str l), x6, x7, x8, x9]) rfl step ih⟩
theorem mem_joinL (S : List Nat) : ∀ (ps : List (List Nat)) (p : List Nat), p ∈ ps → ∀ x ∈ p, x ∈ TL.joinL S ps
  | [p], q, h, x, hx => by
    cases h with
    | head => simpa [TL.joinL] using hx
    | tail _ h => cases h
  | p :: q :: r, w, h, x, hx => by
    have e : TL.joinL S (p :: q :: r) = p ++ S ++ TL.joinL S (q :: r) := by first | rfl | simp [TL.joinL]
    rw [e]
    cases h with
    | head => simp [hx]
    | tail _ h => exact List.mem_append_right _ (mem_joinL S (q :: r) w h x hx)
theorem split_tx {t y : Str} (hy : 1 ≤ y.length) (h : Tx t) : ∀ l ∈ Txt.split t y, Tx l := by
  intro l hl
  refine ⟨Nat.le_trans (split_small hy l hl) h.len, fun x hx => ?_⟩
  refine h.sm x ?_
  have e := StrLaws.join_split t y
  have e2 := TL.tl_join y (Txt.split t y)
  rw [e] at e2
  show x ∈ TL.tl t
  rw [e2]
  exact mem_joinL _ _ _ (List.mem_map_of_mem (f := TL.tl) hl) x hx
theorem split_ne (t : Str) : Txt.split t nlS ≠ [] := by
  intro h
  unfold Txt.split at h
  split at h
  · cases h
  · split at h
    · cases h
    · have := congrArg List.length h
      simp [Builtin.Str.partsBetween] at this
theorem cut_last (l : List D) : dSl (.lst l) none (some (-1)) = some (.lst l.dropLast) := by
  have e2 : HT.sIx l.length l.length (some (-1)) = l.length - 1 := by
    simp [HT.sIx]; omega
  have e1 : HT.sIx l.length 0 none = 0 := rfl
  simp only [dSl, Mi.cutD, e1, e2, List.drop_zero, Nat.sub_zero, List.dropLast_eq_take]
theorem drop_map (l : List Str) : (l.map D.str).dropLast = l.dropLast.map D.str := by
  rw [List.map_dropLast]
def lastS (l : List Str) : Str := l.getLastD ""
def finD (l : List Str) : D := if lastS l = ("" : Str) then .non else .int ((l.length : Int) - 1)
theorem ix_last {l : List Str} (h : l ≠ []) : dIx (.lst (l.map D.str)) (.int (-1)) = some (.str (lastS l)) := by
  have e : l.map D.str = l.dropLast.map D.str ++ [.str (lastS l)] := by
    have := List.dropLast_concat_getLast h
    have hg : lastS l = l.getLast h := by
      unfold lastS
      rw [List.getLastD_eq_getLast?, List.getLast?_eq_getLast h]; rfl
    rw [hg, ← List.map_singleton (f := D.str), ← List.map_append, this]
  show atI _ _ = _
  rw [e]
  exact atI_last _ _
def resD (t : Str) : List D × D := match scan 7 0 (Txt.split t nlS).dropLast [] with
  | (acc, some j) => (acc, .int j)
  | (acc, none) => (acc, finD (Txt.split t nlS))
theorem ev_en {a : M (List D)} {es es1 : En} {ls : List Str} (h : a es = .ok ([.lst (ls.map D.str)], es1)) : mEn a es = .ok (enumD 0 ls, es1) := by
  simp only [mEn, Mi.bnd, h, Mi.opt]
  rw [enum_eq0]
theorem ev_fin (ls : List Str) (hn : ls ≠ []) (hl : ls.length ≤ 2000000) (es : En) (h : es[1]? = some (.dat (.lst (ls.map D.str)))) : mIfE (mTst (mBin dEq (mBin dIx (mVar 1) (mUn dNeg (mC (.int 1)))) (mC (.str "")))) (mC .non) (mBin dSub (mCB dLen (mCons (mVar 1) mNil)) (mC (.int 1))) es = .ok (finD ls, es) := by
  have h1 := ix_last hn
  unfold finD
  by_cases hz : lastS ls = ("" : Str)
  · rw [if_pos hz]
    exact ev_ife_t (ev_tst (ev_bin (ev_bin (ev_var h) (ev_un rfl rfl) h1) rfl (by rw [deq_str, decide_eq_true hz]))) rfl
  · rw [if_neg hz]
    refine ev_ife_f (ev_tst (ev_bin (ev_bin (ev_var h) (ev_un rfl rfl) h1) rfl (by rw [deq_str, decide_eq_false hz]))) (ev_bin (ev_cb (ev_one (ev_var h)) rfl) rfl ?_)
    rw [List.length_map]
    rfl
theorem e_read_lines (t : Str) (ht : Tx t) : g_read_lines [.str t] = .ok (.tup [.lst (resD t).1, (resD t).2]) := by
  have hz := size_eq
  have hs := d_split (t := t) (y := nlS) (by decide) ht.len
  have hn := split_ne t
  have hc := split_count (t := t) (y := nlS) (by decide)
  have htl := ht.len
  have hloop := rd_loop (Txt.split t nlS).dropLast 7 0 [] (.dat (.str t)) (.dat (.lst ((Txt.split t nlS).map D.str))) .un .un .un .un .un .un (by decide) (by decide) (fun l hl => split_tx (y := nlS) (by decide) ht l ((List.dropLast_sublist _).subset hl)) (by rw [List.length_dropLast]; simp; omega)
  have hen : mEn (mCons (mSl dSl (mVar 1) mNo (mPart (mUn dNeg (mC (.int 1))))) mNil) [.dat (.str t), .dat (.lst ((Txt.split t nlS).map D.str)), .dat (.int 7), .own [], .un, .un, .un, .un, .un, .un] = .ok (enumD 0 (Txt.split t nlS).dropLast, [.dat (.str t), .dat (.lst ((Txt.split t nlS).map D.str)), .dat (.int 7), .own [], .un, .un, .un, .un, .un, .un]) :=
    ev_en (ev_one (ev_sl rfl rfl (ev_part (ev_un rfl rfl)) (by rw [cut_last, drop_map])))
  unfold resD
  revert hloop
  cases scan 7 0 (Txt.split t nlS).dropLast [] with
  | mk acc o =>
    cases o with
    | some j =>
      rintro ⟨es', h⟩
      exact ev_fn (ev_seq (ev_set (ev_m1 rfl rfl hs)) (ev_seq (ev_parO rfl) (ev_seq_rt (ev_for hen h))))
    | none =>
      rintro ⟨c', y4, y5, y6, y7, y8, y9, h⟩
      exact ev_fn (ev_seq (ev_set (ev_m1 rfl rfl hs)) (ev_seq (ev_parO rfl) (ev_seq (ev_for hen h) (ev_ret (ev_tup (ev_cons rfl (ev_one (ev_fin _ hn (by omega) _ rfl))) (sz 2 (by decide)))))))
theorem e_law_due (t : Str) (ht : Tx t) : g__law_due [.str t] = .ok (.lst [.lst (resD t).1, (resD t).2]) := by
  have hz := size_eq
  have hs := d_split (t := t) (y := nlS) (by decide) ht.len
  have hn := split_ne t
  have hc := split_count (t := t) (y := nlS) (by decide)
  have htl := ht.len
  have hloop := ld_loop (Txt.split t nlS).dropLast 7 0 [] (.dat (.str t)) (.dat (.lst ((Txt.split t nlS).map D.str))) .un .un .un .un .un .un (by decide) (by decide) (fun l hl => split_tx (y := nlS) (by decide) ht l ((List.dropLast_sublist _).subset hl)) (by rw [List.length_dropLast]; simp; omega)
  have hen : mEn (mCons (mSl dSl (mVar 1) mNo (mPart (mUn dNeg (mC (.int 1))))) mNil) [.dat (.str t), .dat (.lst ((Txt.split t nlS).map D.str)), .own [], .dat (.int 7), .un, .un, .un, .un, .un, .un] = .ok (enumD 0 (Txt.split t nlS).dropLast, [.dat (.str t), .dat (.lst ((Txt.split t nlS).map D.str)), .own [], .dat (.int 7), .un, .un, .un, .un, .un, .un]) :=
    ev_en (ev_one (ev_sl rfl rfl (ev_part (ev_un rfl rfl)) (by rw [cut_last, drop_map])))
  have h0 : mPar3O 1 2 3 (mM1 dSplit (mVar 0) (mC (.str "\n"))) (.int 7) [.dat (.str t), .un, .un, .un, .un, .un, .un, .un, .un, .un] = .ok (.nx, [.dat (.str t), .dat (.lst ((Txt.split t nlS).map D.str)), .own [], .dat (.int 7), .un, .un, .un, .un, .un, .un]) := by
    have := ev_m1 (es := [.dat (.str t), .un, .un, .un, .un, .un, .un, .un, .un, .un]) (a := mVar 0) (b := mC (.str nlS)) rfl rfl hs
    simp only [mPar3O, Mi.bnd, this]
    rfl
  unfold resD
  revert hloop
  cases scan 7 0 (Txt.split t nlS).dropLast [] with
  | mk acc o =>
    cases o with
    | some j =>
      rintro ⟨es', h⟩
      exact ev_fn (ev_seq h0 (ev_seq_rt (ev_for hen h)))
    | none =>
      rintro ⟨c', y4, y5, y6, y7, y8, y9, h⟩
      exact ev_fn (ev_seq h0 (ev_seq (ev_for hen h) (ev_ret (ev_lst (ev_cons rfl (ev_one (ev_fin _ hn (by omega) _ rfl))) (sz 2 (by decide))))))
end G
namespace G
open PySem PySem.Spec PyProof.Rows L2 Mi
def rdD (t : Str) : D := if isN (resD t).2 = true then .lst (resD t).1 else .lst [(resD t).2, .bl true]
theorem e_recover (t : Str) (ht : Tx t) : g_recover [.str t] = .ok (.lst (resD t).1) := by
  have h := e_read_lines t ht
  exact ev_fn (ev_seq (ev_if_f (ev_nT_f (ev_tru (ev_isa rfl rfl) rfl)) rfl) (ev_ret (ev_bin (ev_call (ev_one rfl) rfl h) rfl (ixT rfl))))
theorem e_journal (t : Str) (ht : Tx t) : g_read_journal [.str t] = if isN (resD t).2 = true then .ok (.lst (resD t).1) else .exc 1 (resD t).2 := by
  have h := e_read_lines t ht
  cases hq : isN (resD t).2 with
  | true =>
    rw [if_pos rfl]
    exact ev_fn (ev_seq (ev_if_f (ev_nT_f (ev_tru (ev_isa rfl rfl) rfl)) rfl) (ev_seq (ev_asg (ev_call (ev_one rfl) rfl h) rfl) (ev_seq (ev_if_f (ev_tst (ev_bin (z := .bl (!isN (resD t).2)) rfl rfl rfl |> fun e => by rw [hq] at e; exact e)) rfl) (ev_ret rfl))))
  | false =>
    rw [if_neg (by decide)]
    exact ev_fn_exc (ev_seq (ev_if_f (ev_nT_f (ev_tru (ev_isa rfl rfl) rfl)) rfl) (ev_seq (ev_asg (ev_call (ev_one rfl) rfl h) rfl) (ev_seq_exc (ev_if_t (ev_tst (ev_bin (z := .bl (!isN (resD t).2)) rfl rfl rfl |> fun e => by rw [hq] at e; exact e)) (ev_raise rfl)))))
theorem ev_try_ok {i j n c0 : Nat} {g : List D → R D} {ma : M (List D)} {ms : D → M Out} {es es1 : En} {ds : List D} {d : D} (h : ma es = .ok (ds, es1)) (hl : ds.length = n ∧ i < es1.length) (hg : g ds = .ok d) : mTry i j n c0 g ma ms es = .ok (.nx, es1.set j (.dat d)) := by
  simp only [mTry, Mi.bnd, h, if_pos hl, hg]
theorem ev_try_exc {i j n c0 : Nat} {g : List D → R D} {ma : M (List D)} {ms : D → M Out} {es es1 es2 : En} {ds : List D} {d : D} {o : Out} (h : ma es = .ok (ds, es1)) (hl : ds.length = n ∧ i < es1.length) (hg : g ds = .exc c0 d) (hs : ms d (es1.set i .un) = .ok (o, es2)) : mTry i j n c0 g ma ms es = .ok (o, es2.set i .un) := by
  simp only [mTry, Mi.bnd, h, if_pos hl, hg, hs, if_pos]
theorem read_exc (x d : D) (h : g_read_journal [x] = .exc 1 d) : g__law_read [x] = .ok (.lst [d, .bl true]) :=
  ev_fn (ev_seq (ev_set rfl) (ev_seq (ev_try_exc rfl ⟨rfl, by show 2 < 3; decide⟩ h (ev_set (ev_lst (ev_cons rfl (ev_one rfl)) (sz 2 (by decide))))) (ev_ret rfl)))
theorem e_read (t : Str) (ht : Tx t) : g__law_read [.str t] = .ok (rdD t) := by
  have h := e_journal t ht
  unfold rdD
  cases hq : isN (resD t).2 with
  | true =>
    rw [hq, if_pos rfl] at h
    rw [if_pos rfl]
    exact ev_fn (ev_seq (ev_set rfl) (ev_seq (ev_try_ok rfl ⟨rfl, by show 2 < 3; decide⟩ h) (ev_ret rfl)))
  | false =>
    rw [hq, if_neg (by decide)] at h
    rw [if_neg (by decide)]
    exact read_exc _ _ h
theorem e_read_odd (x : D) (h : isa .str x = some false) : g__law_read [x] = .ok (.lst [.int 0, .bl true]) := by
  refine read_exc x _ ?_
  exact ev_fn_exc (ev_seq_exc (ev_if_t (ev_nT_t (ev_tru (ev_isa rfl h) rfl)) (ev_raise rfl)))
theorem ev_ixO {i : Nat} {m : M D} {es es1 : En} {l l1 : List D} {k : Int} {x : D} (h0 : ownAt i es = some l) (h : m es = .ok (.int k, es1)) (h1 : ownAt i es1 = some l1) (h2 : atI l1 k = some x) : mIxO i m es = .ok (x, es1) := by
  simp only [mIxO, h0, Mi.bnd, h, h1, isI, Option.bind_some, h2, Mi.opt]
theorem ev_setO {i j : Nat} {mk m : M D} {es es0 es1 : En} {l l1 : List D} {k : Int} {x : D} {es2 : En} (h : m es = .ok (x, es0)) (h0 : ownAt i es0 = some l) (hk : mk es0 = .ok (.int k, es1)) (h1 : ownAt i es1 = some l1) (h2 : ixN l1.length k = some j) (he : es1.set i (.own (l1.set j x)) = es2 := by rfl) : mSetO i mk m es = .ok (.nx, es2) := by
  rw [← he]
  simp only [mSetO, Mi.bnd, h, h0, hk, h1, isI, Option.bind_some, h2, Mi.opt]
theorem ev_fnO {k : Nat} {m : M Out} {l l' ds : List D} {d : D} {es : En} (h : m (Sl.own l :: (ds.map Sl.dat ++ List.replicate (k - 1 - ds.length) .un)) = .ok (.rt d, es)) (h2 : ownAt 0 es = some l') : fnO k m l ds = .ok (d, l') := by
  simp only [fnO, h, endsO, h2]
structure Pool (l : List D) : Prop where
  ex : ∃ a b : Int, l = [.int a, .int b] ∧ 0 ≤ b ∧ b ≤ 2147483647
theorem e_take {l : List D} (p : Pool l) (m : Int) (h1 : 0 < m) (h2 : m < 2 ^ 100) : ∃ (r : Int) (l' : List D), g__law_take l [.int m] = .ok (.int r, l') ∧ Pool l' ∧ 0 ≤ r ∧ r < m := by
  obtain ⟨a, b, rfl, hb0, hb1⟩ := p.ex
  by_cases ha : 0 < a
  · refine ⟨a % m, [.int (a / m), .int b], ?_, ⟨_, _, rfl, hb0, hb1⟩, Int.emod_nonneg _ (by omega), Int.emod_lt_of_pos _ h1⟩
    have hd := div_ok (i := a) (j := m) h1 (by omega)
    have hm := mod_ok (i := a) (j := m) h1
    exact ev_fnO (es := [.own [.int (a / m), .int b], .dat (.int m), .dat (.int (a % m))]) (ev_seq_rt (ev_if_t (ev_tst (ev_bin (ev_ixO rfl rfl rfl rfl) rfl (by show some (D.bl (decide (0 < a))) = _; rw [decide_eq_true ha]))) (ev_seq (ev_set (ev_bin (ev_cb (ev_one (ev_ixO rfl rfl rfl rfl)) rfl) rfl hm)) (ev_seq (ev_setO (ev_bin (ev_ixO rfl rfl rfl rfl) rfl hd) rfl rfl rfl rfl) (ev_ret rfl))))) rfl
  · have q0 : 0 ≤ (b * 48271 + 11) % 2147483647 := Int.emod_nonneg _ (by decide)
    have q1 : (b * 48271 + 11) % 2147483647 < 2147483647 := Int.emod_lt_of_pos _ (by decide)
    generalize hB : (b * 48271 + 11) % 2147483647 = B at q0 q1
    refine ⟨B * B % 2147483629 / 64 % m, [.int a, .int B], ?_, ⟨_, _, rfl, q0, by omega⟩, Int.emod_nonneg _ (by omega), Int.emod_lt_of_pos _ h1⟩
    have m1 : dMul (.int b) (.int 48271) = some (.int (b * 48271)) := mul_ok (by omega) (by decide)
    have m2 : dMod (.int (b * 48271 + 11)) (.int 2147483647) = some (.int B) := by rw [mod_ok (by decide), hB]
    have m3 : dMul (.int B) (.int B) = some (.int (B * B)) := mul_ok (by omega) (by omega)
    have m4 := mod_ok (i := B * B) (j := 2147483629) (by decide)
    have m5 := div_ok (i := B * B % 2147483629) (j := 64) (by decide) (by decide)
    have m6 := mod_ok (i := B * B % 2147483629 / 64) (j := m) h1
    refine ev_fnO (es := [.own [.int a, .int B], .dat (.int m), .un]) (ev_seq (es1 := [.own [.int a, .int b], .dat (.int m), .un]) (ev_if_f (ev_tst (ev_bin (ev_ixO rfl rfl rfl rfl) rfl (by show some (D.bl (decide (0 < a))) = _; rw [decide_eq_false ha]))) rfl) (ev_seq (ev_setO (ev_bin (ev_cb (ev_one (ev_bin (ev_bin (ev_ixO rfl rfl rfl rfl) rfl m1) rfl rfl)) rfl) rfl m2) rfl rfl rfl rfl) (ev_ret (ev_bin (ev_bin (ev_bin (ev_cb (ev_one (ev_bin (ev_ixO rfl rfl rfl rfl) (ev_ixO rfl rfl rfl rfl) m3)) rfl) rfl m4) rfl m5) rfl m6)))) rfl
end G
namespace G
open PySem PySem.Spec PyProof.Rows L2 Mi
theorem numS_tl (n : Nat) : TL.tl (numS (n : Int)) = TL.numL n := TL.tl_num n
theorem numL_head (n : Nat) : 0 < n → ∃ c cs, TL.numL n = c :: cs ∧ 49 ≤ c := by
  induction n using Nat.strongRecOn with
  | _ n ih =>
    intro h0
    by_cases h : 10 ≤ n
    · obtain ⟨c, cs, e, hc⟩ := ih (n / 10) (by omega) (by omega)
      exact ⟨c, cs ++ [48 + n % 10], by rw [TL.numL_step h, e]; rfl, hc⟩
    · have h1 : TL.numL n = [n + 48] := by
        have := numL_one (n + 48) (by omega) (by omega)
        simpa using this
      exact ⟨n + 48, [], h1, by omega⟩
theorem digits_fig {s : Str} (h : NumText.AllDigits (TL.tl s)) : figB s = true := by
  refine List.all_eq_true.mpr fun c hc => ?_
  have h1 := h c hc
  have e : figS.cps.toList = [48, 49, 50, 51, 52, 53, 54, 55, 56, 57] := by decide +kernel
  unfold inSet
  rw [e]
  refine decide_eq_true ?_
  simp
  omega
theorem numS_len {n : Nat} (h : n ≤ 10 ^ 15) : 1 ≤ (numS n).length ∧ (numS n).length ≤ 16 := by
  rw [TL.len_tl, numS_tl]
  have h1 := TL.numL_ne n
  have h2 := TL.numL_len (n := n) (k := 16) (by decide) (by omega)
  have h3 : 0 < (TL.numL n).length := List.length_pos_iff.mpr h1
  exact ⟨h3, h2⟩
theorem numIn_numS {n : Nat} (h : n ≤ 10 ^ 15) : numIn (numS n) = some n := by
  have hd : NumText.AllDigits (TL.tl (numS n)) := by rw [numS_tl]; exact TL.numL_digits n
  have hf := digits_fig hd
  obtain ⟨l1, l2⟩ := numS_len h
  have l3 : (numS n).length ≤ 31 := by omega
  have hv : NumText.digitsVal (numS (n : Int)).cps.toList = n := by
    show NumText.digitsVal (TL.tl (numS (n : Int))) = n
    rw [numS_tl]; exact TL.numL_val n
  have hc : canB (numS n) = true := by
    unfold canB
    by_cases h0 : n = 0
    · subst h0
      have : numS ((0 : Nat) : Int) = ("0" : Str) := by decide +kernel
      rw [this, decide_eq_true rfl]; rfl
    · obtain ⟨c, cs, e, hc⟩ := numL_head n (by omega)
      have e1 : (numS (n : Int)).cps.toList = c :: cs := by rw [← e, ← numS_tl]
      have e2 : (numS (n : Int)).cps[0]? = some c := by rw [← Array.getElem?_toList, e1]; rfl
      have hg : (numS (n : Int)).cps.getD 0 0 = c := by simp [Array.getD_eq_getD_getElem?, e2]
      rw [hg]
      have : ¬ (⟨#[c]⟩ : Str) = ("0" : Str) := by
        intro z
        have z0 : ("0" : Str) = ⟨#[48]⟩ := by decide +kernel
        rw [z0] at z
        have := congrArg (fun s : Str => s.cps.toList) z
        simp at this
        omega
      rw [decide_eq_false this]
      simp
  unfold numIn
  simp [hf, hc, l1, l3, hv]
def Fr (w : Str) : Prop := ∀ x ∈ w.cps.toList, x ≠ 32 ∧ x ≠ 10 ∧ x < 256
theorem numS_fr (n : Nat) : Fr (numS n) := by
  intro x hx
  have hx : x ∈ TL.tl (numS n) := hx
  rw [numS_tl] at hx
  have := TL.numL_digits n x hx
  omega
structure Val (W : List Str) (d : D) : Prop where
  ent : entOf W = d
  nn : isN d = false
  ie : g_is_entry [d] = .ok (.bl true)
  et : g_entry_text [d] = .ok (.str (Txt.join spS W))
  ne : W ≠ []
  fr : ∀ w ∈ W, Fr w
  small : (W.map (·.length)).sum + W.length ≤ 100
  nice : nice d = true
  dep : dep d ≤ 3
def procs : List Str := ["ann", "b", "zzzzzzzz"]
def nams : List Str := ["c", "work", "take"]
theorem procs_ok : ∀ p ∈ procs, wordB p = true ∧ p.length ≤ 8 ∧ PyData.strOk p = true ∧ Fr p := by
  have h : ∀ p ∈ procs, (wordB p && (decide (p.length ≤ 8) && (PyData.strOk p && p.cps.toList.all fun x => decide (x ≠ 32 ∧ x ≠ 10 ∧ x < 256)))) = true := by decide +kernel
  intro p hp
  have := h p hp
  rw [Bool.and_eq_true, Bool.and_eq_true, Bool.and_eq_true, decide_eq_true_eq, List.all_eq_true] at this
  exact ⟨this.1, this.2.1, this.2.2.1, fun x hx => of_decide_eq_true (this.2.2.2 x hx)⟩
theorem nams_ok : ∀ p ∈ nams, wordB p = true ∧ p.length ≤ 8 ∧ PyData.strOk p = true ∧ Fr p := by
  have h : ∀ p ∈ nams, (wordB p && (decide (p.length ≤ 8) && (PyData.strOk p && p.cps.toList.all fun x => decide (x ≠ 32 ∧ x ≠ 10 ∧ x < 256)))) = true := by decide +kernel
  intro p hp
  have := h p hp
  rw [Bool.and_eq_true, Bool.and_eq_true, Bool.and_eq_true, decide_eq_true_eq, List.all_eq_true] at this
  exact ⟨this.1, this.2.1, this.2.2.1, fun x hx => of_decide_eq_true (this.2.2.2 x hx)⟩
theorem kinds_ok : ∀ p ∈ [sdS, tkS], kindB p = true ∧ p ≠ wkS ∧ p.length ≤ 8 ∧ PyData.strOk p = true ∧ Fr p := by
  have h : ∀ p ∈ [sdS, tkS], (kindB p && (!decide (p = wkS) && (decide (p.length ≤ 8) && (PyData.strOk p && p.cps.toList.all fun x => decide (x ≠ 32 ∧ x ≠ 10 ∧ x < 256))))) = true := by decide +kernel
  intro p hp
  have := h p hp
  rw [Bool.and_eq_true, Bool.and_eq_true, Bool.and_eq_true, Bool.and_eq_true, decide_eq_true_eq, List.all_eq_true, Bool.not_eq_true', decide_eq_false_iff_not] at this
  exact ⟨this.1, this.2.1, this.2.2.1, this.2.2.2.1, fun x hx => of_decide_eq_true (this.2.2.2.2 x hx)⟩
theorem wk_ok : wkS.length ≤ 8 ∧ PyData.strOk wkS = true ∧ Fr wkS := by
  have := nams_ok wkS (by decide +kernel)
  exact this.2
theorem val_work {p : Str} (hp : p ∈ procs) {n : Nat} (h1 : 1 ≤ n) (h2 : n ≤ 99) : Val [p, wkS, numS n] (mkE p wkS (.int n) []) := by
  obtain ⟨p1, p2, p3, p4⟩ := procs_ok p hp
  have hz := size_eq
  have hn := numIn_numS (n := n) (by omega)
  obtain ⟨l1, l2⟩ := numS_len (n := n) (by omega)
  have hk := wk_ok
  have ht : timeB (some n) = true := by
    show (decide _ && decide _) = true
    rw [decide_eq_true (by omega), decide_eq_true (by omega)]; rfl
  have hsm : (([p, wkS, numS n].map (·.length)).sum + [p, wkS, numS n].length ≤ 100) := by
    simp only [List.map_cons, List.map_nil, List.sum_cons, List.sum_nil, List.length_cons, List.length_nil]
    omega
  refine ⟨?_, rfl, ?_, ?_, by simp, ?_, hsm, ?_, by show 2 ≤ 3; decide⟩
  · have : lawNum (numS n) 1 99 = some n := by
      unfold lawNum
      rw [hn]
      have : (decide ((1 : Int) ≤ n) && decide ((n : Int) ≤ 99)) = true := ht
      simp only [Option.filter, this, if_pos]
    simp only [entOf, p1, if_pos, this]
  · have := e_is_entry_work p (numIn (numS n)) [] (by omega)
    rw [hn, p1, ht] at this
    exact this
  · refine e_entry_text p wkS (numS n) (.int n) [] (str_num hn) (fun x hx => by cases hx) (by decide) ?_
    have e1 : spS.length = 1 := by decide
    rw [e1, Nat.mul_one]
    omega
  · intro w hw
    simp only [List.mem_cons, List.not_mem_nil, or_false] at hw
    rcases hw with rfl | rfl | rfl
    · exact p4
    · exact hk.2.2
    · exact numS_fr n
  · show (PyData.strOk p && (PyData.strOk wkS && (true && (true && true)))) = true
    rw [p3, hk.2.1]; rfl
theorem val_msg {p k m : Str} (hp : p ∈ procs) (hk : k ∈ [sdS, tkS]) (hm : m ∈ nams) {vs : List Nat} (h1 : 1 ≤ vs.length) (h2 : vs.length ≤ 2) (hv : ∀ v ∈ vs, v ≤ 10 ^ 15) : Val (p :: k :: m :: vs.map fun (v : Nat) => numS (v : Int)) (mkE p k (.str m) (vs.map fun (v : Nat) => D.int (v : Int))) := by
  obtain ⟨p1, p2, p3, p4⟩ := procs_ok p hp
  obtain ⟨k1, k2, k3, k4, k5⟩ := kinds_ok k hk
  obtain ⟨m1, m2, m3, m4⟩ := nams_ok m hm
  have hz := size_eq
  have hmap : ((vs.map fun (v : Nat) => numS (v : Int)).map fun x => numD (numIn x)) = vs.map fun (v : Nat) => D.int (v : Int) := by
    rw [List.map_map]
    refine List.map_congr_left fun v h => ?_
    rw [Function.comp, numIn_numS (hv v h)]; rfl
  have hall : (vs.map fun (v : Nat) => numS (v : Int)).all valB = true := by
    refine List.all_eq_true.mpr fun x hx => ?_
    obtain ⟨v, h, rfl⟩ := List.mem_map.mp hx
    have hb := hv v h
    unfold valB lawNum
    rw [numIn_numS hb]
    have : (decide ((0 : Int) ≤ v) && decide ((v : Int) ≤ 1000000000000000)) = true := by
      rw [decide_eq_true (by omega), decide_eq_true (by omega)]; rfl
    simp only [Option.filter, this, if_pos]; rfl
  have hl : (vs.map fun (v : Nat) => numS (v : Int)).length = vs.length := List.length_map ..
  have hsum : ((vs.map fun (v : Nat) => numS (v : Int)).map (·.length)).sum ≤ 16 * vs.length := by
    clear hall hmap hl h1 h2
    induction vs with
    | nil => decide
    | cons v vs ih =>
      have hb := (numS_len (hv v List.mem_cons_self)).2
      have := ih fun w hw => hv w (List.mem_cons_of_mem _ hw)
      simp only [List.map_cons, List.sum_cons, List.length_cons]
      omega
  have hsm : (((p :: k :: m :: vs.map fun (v : Nat) => numS (v : Int)).map (·.length)).sum + (p :: k :: m :: vs.map fun (v : Nat) => numS (v : Int)).length ≤ 100) := by
    simp only [List.map_cons, List.sum_cons, List.length_cons, hl]
    omega
  refine ⟨?_, rfl, ?_, ?_, by simp, ?_, hsm, ?_, ?_⟩
  · simp only [entOf, p1, if_pos, if_neg k2, k1, m1, hl, h1, (by omega : vs.length ≤ 9), hall, and_self, hmap]
  · have := e_is_entry_msg p k m (vs.map fun (v : Nat) => numS (v : Int)) (by omega) (by omega) (by omega) k2
    rw [hmap, p1, k1, m1, hl, hall, decide_eq_true h1, decide_eq_true (by omega : vs.length ≤ 9)] at this
    exact this
  · have := e_entry_text p k m (.str m) (vs.map fun (v : Nat) => numS (v : Int)) rfl (fun x hx => by
      obtain ⟨v, h, rfl⟩ := List.mem_map.mp hx
      rw [numIn_numS (hv v h)]
      exact str_num (numIn_numS (hv v h))) (by omega) (by
        have e1 : spS.length = 1 := by decide
        rw [e1, Nat.mul_one]
        omega)
    rw [hmap] at this
    exact this
  · intro w hw
    simp only [List.mem_cons, List.mem_map] at hw
    rcases hw with rfl | rfl | rfl | ⟨v, _, rfl⟩
    · exact p4
    · exact k5
    · exact m4
    · exact numS_fr v
  · show (PyData.strOk p && (PyData.strOk k && (PyData.strOk m && (niceL (vs.map fun (v : Nat) => D.int (v : Int)) && true)))) = true
    rw [p3, k4, m3, niceL_map (fun _ => rfl)]; rfl
  · show max 0 (max 0 (max 0 (max (depL (vs.map fun (v : Nat) => D.int (v : Int)) + 1) 0))) + 1 ≤ 3
    have := depL_map (f := fun v : Nat => D.int (v : Int)) (n := 0) (fun _ => Nat.le_refl 0) vs
    omega
end G
namespace G
open PySem PySem.Spec PyProof.Rows L2 Mi
theorem ev_fnF {k : Nat} {m : M (List D)} {ds l : List D} {es : En} (h : m (ds.map Sl.dat ++ List.replicate (k - ds.length) .un) = .ok (l, es)) : fnF k m ds = .ok l := by simp only [fnF, h, endsF]
theorem ev_seqF {m : M Out} {n : M (List D)} {es es1 : En} {q : R (List D × En)} (h : m es = .ok (.nx, es1)) (h2 : n es1 = q) : mSeqF m n es = q := by simp only [mSeqF, Mi.bnd, h, h2]
theorem ev_retF {w : M (List D)} {es es1 : En} {xs : List D} (h : w es = .ok (xs, es1)) (hl : xs.length ≤ sizeLine) : mRetF w es = .ok (xs, es1) := by simp only [mRetF, Mi.bnd, h, Mi.opt, if_pos hl]
theorem e_pool (ns : List Int) (k : Int) (h0 : 0 ≤ k) (h1 : k ≤ 100) : ∃ l, g__law_pool [.scr ns, .int k] = .ok l ∧ Pool l := by
  have hz := size_eq
  have cell : ∃ c : Int, mIfE (mTst (mBin dLt (mVar 1) (mCB dLen (mCons (mVar 0) mNil)))) (mBin dIx (mVar 0) (mVar 1)) (mC (.int 0)) [.dat (.scr ns), .dat (.int k), .un, .un] = .ok (.int c, [.dat (.scr ns), .dat (.int k), .un, .un]) := by
    by_cases hk : k < ns.length
    · obtain ⟨j, rfl⟩ := Int.eq_ofNat_of_zero_le h0
      have hj : j < ns.length := by omega
      refine ⟨ns[j], ev_ife_t (ev_tst (ev_bin rfl (ev_cb (ev_one rfl) rfl) (by show some (D.bl (decide _)) = _; rw [decide_eq_true hk]))) (ev_bin rfl rfl ?_)⟩
      show (atI ns (j : Int)).map D.int = _
      rw [atI_nat (List.getElem?_eq_getElem hj)]; rfl
    · exact ⟨0, ev_ife_f (ev_tst (ev_bin rfl (ev_cb (ev_one rfl) rfl) (by show some (D.bl (decide _)) = _; rw [decide_eq_false hk]))) rfl⟩
  obtain ⟨c, hc⟩ := cell
  have q0 : 0 ≤ c % 2147483629 := Int.emod_nonneg _ (by decide)
  have q1 : c % 2147483629 < 2147483629 := Int.emod_lt_of_pos _ (by decide)
  have kk : 0 ≤ 7919 * k * k ∧ 7919 * k * k ≤ 79190000 := by
    constructor
    · exact Int.mul_nonneg (by omega) h0
    · have h2 : 7919 * k ≤ 791900 := by omega
      have h3 : 7919 * k * k ≤ 791900 * k := Int.mul_le_mul_of_nonneg_right h2 h0
      omega
  have m0 := mod_ok (i := c) (j := 2147483629) (by decide)
  have m1 : dMul (.int 7919) (.int k) = some (.int (7919 * k)) := mul_ok (by decide) (by omega)
  have m2 : dMul (.int (7919 * k)) (.int k) = some (.int (7919 * k * k)) := mul_ok (by omega) (by omega)
  generalize hs : c % 2147483629 + 7919 * k * k + 13 = s at *
  have hs0 : 0 ≤ s ∧ s < 10000000000 := by omega
  have m3 : dMul (.int s) (.int 48271) = some (.int (s * 48271)) := mul_ok (by omega) (by decide)
  have m4 := mod_ok (i := s * 48271) (j := 2147483647) (by decide)
  have r0 : 0 ≤ s * 48271 % 2147483647 := Int.emod_nonneg _ (by decide)
  have r1 : s * 48271 % 2147483647 < 2147483647 := Int.emod_lt_of_pos _ (by decide)
  have a1 : dAdd (.int (c % 2147483629 + 7919 * k * k)) (.int 13) = some (.int s) := by rw [← hs]; rfl
  have hp : dPow (.int 10) (.int 18) = some (.int 1000000000000000000) := by simp [dPow, okB]
  have hge : ∃ a : Int, mIfE (mTst (mBin dGe (mVar 2) (mBin dPow (mC (.int 10)) (mC (.int 18))))) (mVar 2) (mC (.int 0)) [.dat (.scr ns), .dat (.int k), .dat (.int c), .dat (.int (s * 48271))] = .ok (.int a, [.dat (.scr ns), .dat (.int k), .dat (.int c), .dat (.int (s * 48271))]) := by
    by_cases h : (1000000000000000000 : Int) ≤ c
    · exact ⟨c, ev_ife_t (ev_tst (ev_bin rfl (ev_bin rfl rfl hp) (by show some (D.bl (decide _)) = _; rw [decide_eq_true h]))) rfl⟩
    · exact ⟨0, ev_ife_f (ev_tst (ev_bin rfl (ev_bin rfl rfl hp) (by show some (D.bl (decide _)) = _; rw [decide_eq_false h]))) rfl⟩
  obtain ⟨a, ha⟩ := hge
  refine ⟨[.int a, .int (s * 48271 % 2147483647 + 1)], ?_, ⟨_, _, rfl, by omega, by omega⟩⟩
  exact ev_fnF (ev_seqF (ev_set hc) (ev_seqF (ev_set (ev_bin (ev_cb (ev_one (ev_bin (ev_bin (ev_bin (ev_cb (ev_one rfl) rfl) rfl m0) (ev_bin (ev_bin rfl rfl m1) rfl m2) rfl) rfl a1)) rfl) rfl m3)) (ev_retF (ev_cons ha (ev_one (ev_bin (ev_bin (ev_cb (ev_one rfl) rfl) rfl m4) rfl rfl))) (sz 2 (by decide)))))
theorem ev_rg1 {w : M (List D)} {es es1 : En} {j : Int} (h : w es = .ok ([.int j], es1)) (hb : -(2 ^ 62) ≤ j ∧ j < 2 ^ 62) : mRg1 w es = .ok ((List.range j.toNat).map fun (k : Nat) => D.int (k : Int), es1) := by
  simp only [mRg1, Mi.bnd, h, Mi.opt, if_pos hb]
theorem ix_mem {l : List Str} {r : Int} (h0 : 0 ≤ r) (h1 : r < l.length) : ∃ p ∈ l, dIx (.lst (l.map D.str)) (.int r) = some (.str p) := by
  obtain ⟨j, rfl⟩ := Int.eq_ofNat_of_zero_le h0
  have hj : j < l.length := by omega
  refine ⟨l[j], List.getElem_mem hj, ixL ?_⟩
  rw [List.getElem?_map, List.getElem?_eq_getElem hj]; rfl
abbrev enBody : M Out := mDrop (mApp 3 (mBin dIx (mLst (mCons (mCallO 0 1 g__law_take (mCons (mC (.int 12)) mNil)) (mCons (mCallO 0 1 g__law_take (mCons (mBin dAdd (mBin dPow (mC (.int 10)) (mC (.int 15))) (mC (.int 1))) mNil)) mNil))) (mCallO 0 1 g__law_take (mCons (mC (.int 2)) mNil))))
theorem en_loop : ∀ (ds : List D) (l : List D) (acc : List Nat) (d1 d2 x4 : Sl), Pool l → acc.length + ds.length ≤ 10 → (∀ v ∈ acc, v ≤ 10 ^ 15) →
    ∃ (l' : List D) (vs : List Nat) (y4 : Sl), loopM (bName 4) enBody ds [.own l, d1, d2, .own (acc.map fun (v : Nat) => D.int (v : Int)), x4] = .ok (.nx, [.own l', d1, d2, .own (vs.map fun (v : Nat) => D.int (v : Int)), y4]) ∧ Pool l' ∧ vs.length = acc.length + ds.length ∧ ∀ v ∈ vs, v ≤ 10 ^ 15
  | [], l, acc, d1, d2, x4, P, _, hv => ⟨l, acc, x4, rfl, P, rfl, hv⟩
  | d :: ds, l, acc, d1, d2, x4, P, hl, hv => by
    have hz := size_eq
    rw [List.length_cons] at hl
    obtain ⟨r1, l1, t1, P1, a1, b1⟩ := e_take P 12 (by decide) (by decide)
    obtain ⟨r2, l2, t2, P2, a2, b2⟩ := e_take P1 1000000000000001 (by decide) (by decide)
    obtain ⟨r3, l3, t3, P3, a3, b3⟩ := e_take P2 2 (by decide) (by decide)
    have hpow : dPow (.int 10) (.int 15) = some (.int 1000000000000000) := by simp [dPow, okB]
    have hx : ∃ v : Nat, v ≤ 10 ^ 15 ∧ dIx (.lst [.int r1, .int r2]) (.int r3) = some (.int (v : Int)) := by
      have : r3 = 0 ∨ r3 = 1 := by omega
      rcases this with rfl | rfl
      · exact ⟨r1.toNat, by omega, by rw [show dIx (.lst [.int r1, .int r2]) (.int 0) = some (.int r1) from rfl, Int.toNat_of_nonneg a1]⟩
      · exact ⟨r2.toNat, by omega, by rw [show dIx (.lst [.int r1, .int r2]) (.int 1) = some (.int r2) from rfl, Int.toNat_of_nonneg a2]⟩
    obtain ⟨v, hvb, hx⟩ := hx
    obtain ⟨l', vs, y4, ih, P', hlen, hvs⟩ := en_loop ds l3 (acc ++ [v]) d1 d2 (.dat d) P3 (by rw [List.length_append, List.length_singleton]; omega) (fun w hw => by
      rcases List.mem_append.mp hw with h | h
      · exact hv w h
      · rw [List.mem_singleton.mp h]; exact hvb)
    rw [List.map_append] at ih
    refine ⟨l', vs, y4, ev_l_cons (es1 := [.own l, d1, d2, .own (acc.map fun (v : Nat) => D.int (v : Int)), .dat d]) rfl (ev_drop (ev_appL rfl (ev_bin (ev_lst (ev_cons (ev_callOL rfl (ev_one rfl) rfl rfl t1) (ev_one (ev_callOL rfl (ev_one (ev_bin (ev_bin rfl rfl hpow) rfl rfl)) rfl rfl t2))) (sz 2 (by decide))) (ev_callOL rfl (ev_one rfl) rfl rfl t3) hx) rfl (by rw [List.length_map]; omega))) ih, P', ?_, hvs⟩
    rw [hlen, List.length_append, List.length_singleton, List.length_cons]
    omega
theorem e_entry {l : List D} (P : Pool l) : ∃ (W : List Str) (d : D) (l' : List D), g__law_entry l [] = .ok (d, l') ∧ Val W d ∧ Pool l' := by
  have hz := size_eq
  obtain ⟨r1, l1, t1, P1, a1, b1⟩ := e_take P 3 (by decide) (by decide)
  obtain ⟨r2, l2, t2, P2, a2, b2⟩ := e_take P1 3 (by decide) (by decide)
  obtain ⟨r3, l3, t3, P3, a3, b3⟩ := e_take P2 4 (by decide) (by decide)
  obtain ⟨p, hp, ip⟩ := ix_mem (l := procs) a1 (by show r1 < 3; exact b1)
  obtain ⟨m, hm, im⟩ := ix_mem (l := nams) a2 (by show r2 < 3; exact b2)
  have h1 : mPar [1, 2] (mCons (mBin dIx (mLst (mCons (mC (.str "ann")) (mCons (mC (.str "b")) (mCons (mC (.str "zzzzzzzz")) mNil)))) (mCallO 0 1 g__law_take (mCons (mC (.int 3)) mNil))) (mCons (mBin dIx (mLst (mCons (mC (.str "c")) (mCons (mC (.str "work")) (mCons (mC (.str "take")) mNil)))) (mCallO 0 1 g__law_take (mCons (mC (.int 3)) mNil))) mNil)) [.own l, .un, .un, .un, .un]
      = .ok (.nx, [.own l2, .dat (.str p), .dat (.str m), .un, .un]) :=
    ev_par (ev_cons (ev_bin (ev_lst (ev_cons rfl (ev_cons rfl (ev_one rfl))) (sz 3 (by decide))) (ev_callOL rfl (ev_one rfl) rfl rfl t1) ip) (ev_one (ev_bin (ev_lst (ev_cons rfl (ev_cons rfl (ev_one rfl))) (sz 3 (by decide))) (ev_callOL rfl (ev_one rfl) rfl rfl t2) im))) rfl
  by_cases h0 : r3 = 0
  · obtain ⟨r4, l4, t4, P4, a4, b4⟩ := e_take P3 99 (by decide) (by decide)
    have hv := val_work hp (n := (1 + r4).toNat) (by omega) (by omega)
    rw [Int.toNat_of_nonneg (by omega : 0 ≤ 1 + r4)] at hv
    refine ⟨_, _, l4, ev_fnO (es := [.own l4, .dat (.str p), .dat (.str m), .un, .un]) (ev_seq h1 (ev_seq_rt (ev_if_t (ev_tst (ev_bin (ev_callOL rfl (ev_one rfl) rfl rfl t3) rfl (by rw [deq_int, decide_eq_true h0]))) (ev_ret (ev_tup (ev_cons rfl (ev_cons rfl (ev_cons (ev_bin rfl (ev_callOL rfl (ev_one rfl) rfl rfl t4) rfl) (ev_one rfl)))) (sz 4 (by decide))))))) rfl, hv, P4⟩
  · obtain ⟨r4, l4, t4, P4, a4, b4⟩ := e_take P3 2 (by decide) (by decide)
    have hr : mRg1 (mCons (mBin dAdd (mC (.int 1)) (mCallO 0 1 g__law_take (mCons (mC (.int 2)) mNil))) mNil) [.own l3, .dat (.str p), .dat (.str m), .own [], .un] = .ok ((List.range (1 + r4).toNat).map fun (k : Nat) => D.int (k : Int), [.own l4, .dat (.str p), .dat (.str m), .own [], .un]) := by
      exact ev_rg1 (ev_one (ev_bin rfl (ev_callOL rfl (ev_one rfl) rfl rfl t4) rfl)) (by omega)
    obtain ⟨l5, vs, y4, hloop, P5, hlen, hvs⟩ := en_loop ((List.range (1 + r4).toNat).map fun (k : Nat) => D.int (k : Int)) l4 [] (.dat (.str p)) (.dat (.str m)) .un P4 (by rw [List.length_map, List.length_range]; simp; omega) (fun v hv => by cases hv)
    rw [List.length_map, List.length_range, List.length_nil] at hlen
    obtain ⟨r6, l6, t6, P6, a6, b6⟩ := e_take P5 2 (by decide) (by decide)
    obtain ⟨k, hk, ik⟩ := ix_mem (l := [sdS, tkS]) a6 (by show r6 < 2; exact b6)
    have hv := val_msg hp hk hm (vs := vs) (by omega) (by omega) hvs
    refine ⟨_, _, l6, ev_fnO (es := [.own l6, .dat (.str p), .dat (.str m), .dat (.lst (vs.map fun (v : Nat) => D.int (v : Int))), y4]) (ev_seq h1 (ev_seq (es1 := [.own l3, .dat (.str p), .dat (.str m), .un, .un]) (ev_if_f (ev_tst (ev_bin (ev_callOL rfl (ev_one rfl) rfl rfl t3) rfl (by rw [deq_int, decide_eq_false h0]))) rfl) (ev_seq (ev_asgO rfl (Nat.zero_le _)) (ev_seq (ev_for hr hloop) (ev_ret (ev_tup (ev_cons rfl (ev_cons (ev_bin (ev_lst (ev_cons rfl (ev_one rfl)) (sz 2 (by decide))) (ev_callOL rfl (ev_one rfl) rfl rfl t6) ik) (ev_cons rfl (ev_one (ev_cb (ev_one rfl) rfl))))) (sz 4 (by decide)))))))) rfl, hv, P6⟩
end G
namespace G
open PySem PySem.Spec PyProof.Rows L2 Mi
theorem tl_app (a b : Str) : TL.tl (a ++ b) = TL.tl a ++ TL.tl b := by
  show (a.cps ++ b.cps).toList = _
  exact Array.toList_append
theorem len_app (a b : Str) : (a ++ b).length = a.length + b.length := by
  show (a.cps ++ b.cps).size = _
  exact Array.size_append
theorem tl_inj {a b : Str} (h : TL.tl a = TL.tl b) : a = b := by rw [← TL.mk_tl a, h, TL.mk_tl]
theorem tl_sp : TL.tl spS = [32] := by decide +kernel
theorem tl_nl : TL.tl nlS = [10] := by decide +kernel
theorem sub1 (x : Str) (i : Nat) : Builtin.Str.subAt x spS i = true ↔ (TL.tl x)[i]? = some 32 := by
  have e : spS = ⟨#[32]⟩ := tl_inj (by rw [tl_sp])
  rw [e]
  show (x.cps.extract i (i + 1) == #[32]) = true ↔ _
  rw [beq_iff_eq]
  constructor
  · intro h
    have h2 := congrArg Array.toList h
    rw [Array.toList_extract] at h2
    have h3 : ((TL.tl x).drop i).take 1 = [32] := by
      have : x.cps.toList.extract i (i + 1) = (x.cps.toList.drop i).take (i + 1 - i) := rfl
      rw [this] at h2
      simpa [Nat.add_sub_cancel_left] using h2
    have h4 : (((TL.tl x).drop i).take 1)[0]? = some 32 := by rw [h3]; rfl
    rw [List.getElem?_take_of_lt (by decide), List.getElem?_drop] at h4
    simpa using h4
  · intro h
    have hi : i < x.cps.size := by
      have := (List.getElem?_eq_some_iff.mp h).1
      simpa using this
    apply Array.ext'
    rw [Array.toList_extract]
    have : x.cps.toList.extract i (i + 1) = (x.cps.toList.drop i).take (i + 1 - i) := rfl
    rw [this, Nat.add_sub_cancel_left]
    have hd : x.cps.toList.drop i = x.cps.toList[i]'(by simpa using hi) :: x.cps.toList.drop (i + 1) := List.drop_eq_getElem_cons _
    rw [hd, List.take_succ_cons, List.take_zero]
    have := (List.getElem?_eq_some_iff.mp h).2
    rw [show x.cps.toList[i]'(by simpa using hi) = 32 from this]
theorem rpart_of (a b : Str) (hb : ∀ x ∈ TL.tl b, x ≠ 32) : Txt.rpartition (a ++ spS ++ b) spS = (a, spS, b) := by
  have hx : TL.tl (a ++ spS ++ b) = TL.tl a ++ ([32] ++ TL.tl b) := by rw [tl_app, tl_app, tl_sp, List.append_assoc]
  have hl : (a ++ spS ++ b).length = (TL.tl a).length + (1 + (TL.tl b).length) := by rw [TL.len_tl, hx]; simp; omega
  have hs1 : spS.length = 1 := by decide
  have at0 : StrLaws.At (a ++ spS ++ b) spS (a ++ spS ++ b).length (TL.tl a).length := by
    refine ⟨by rw [hl, hs1]; omega, (sub1 _ _).mpr ?_⟩
    rw [hx, List.getElem?_append_right (Nat.le_refl _), Nat.sub_self]; rfl
  rcases StrLaws.last_spec (a ++ spS ++ b) spS with ⟨_, h⟩ | ⟨i, e, h, hn⟩
  · exact absurd at0 (h _)
  · have hi : i = (TL.tl a).length := by
      rcases Nat.lt_trichotomy i (TL.tl a).length with g | g | g
      · exact absurd at0 (hn _ g)
      · exact g
      · exfalso
        have h2 := (sub1 _ _).mp h.2
        rw [hx, List.getElem?_append_right (by omega), List.getElem?_append_right (by show 1 ≤ _; omega)] at h2
        exact hb 32 (List.mem_of_getElem? h2) rfl
    unfold Txt.rpartition
    rw [e, hi]
    refine Prod.ext (tl_inj ?_) (Prod.ext rfl (tl_inj ?_))
    · show TL.tl (Builtin.Str.strSub _ 0 _) = _
      rw [TL.tl_strSub, hx, List.drop_zero, Nat.sub_zero, List.take_left]
    · show TL.tl (Builtin.Str.strSub _ _ _) = _
      rw [TL.tl_strSub, hx, hs1, hl]
      have : TL.tl a ++ ([32] ++ TL.tl b) = (TL.tl a ++ [32]) ++ TL.tl b := by rw [List.append_assoc]
      rw [this, show (TL.tl a).length + 1 = (TL.tl a ++ [32]).length by simp, List.drop_left]
      refine List.take_of_length_le ?_
      simp; omega
abbrev En2 := List (List Str × D)
def okEs (es : En2) : Prop := ∀ p ∈ es, Val p.1 p.2
def bodies : Int → En2 → List Str
  | _, [] => []
  | c, (W, _) :: es => (Txt.join spS W ++ spS ++ numS (chk c (TL.tl (Txt.join spS W)))) :: bodies (chk c (TL.tl (Txt.join spS W))) es
theorem tl_join (y : Str) (ps : List Str) : TL.tl (Txt.join y ps) = TL.joinL (TL.tl y) (ps.map TL.tl) := by rw [TL.join_eq, TL.tl_join]
theorem joinL_all {P : Nat → Prop} {S : List Nat} (hS : ∀ x ∈ S, P x) : ∀ ps : List (List Nat), (∀ p ∈ ps, ∀ x ∈ p, P x) → ∀ x ∈ TL.joinL S ps, P x
  | [], _, x, hx => by simp [TL.joinL] at hx
  | [p], h, x, hx => h p List.mem_cons_self x (by simpa [TL.joinL] using hx)
  | p :: q :: r, h, x, hx => by
    have e : TL.joinL S (p :: q :: r) = p ++ S ++ TL.joinL S (q :: r) := by first | rfl | simp [TL.joinL]
    rw [e] at hx
    rcases List.mem_append.mp hx with h1 | h1
    · rcases List.mem_append.mp h1 with h2 | h2
      · exact h p List.mem_cons_self x h2
      · exact hS x h2
    · exact joinL_all hS (q :: r) (fun w hw => h w (List.mem_cons_of_mem _ hw)) x h1
theorem joinL_len (S : List Nat) : ∀ ps : List (List Nat), (TL.joinL S ps).length ≤ (ps.map (·.length)).sum + ps.length * S.length
  | [] => by simp [TL.joinL]
  | [p] => by simp [TL.joinL]
  | p :: q :: r => by
    have e : TL.joinL S (p :: q :: r) = p ++ S ++ TL.joinL S (q :: r) := by first | rfl | simp [TL.joinL]
    have ih := joinL_len S (q :: r)
    rw [e, List.length_append, List.length_append, List.map_cons, List.sum_cons, List.length_cons, Nat.succ_mul]
    omega
theorem val_text {W : List Str} {d : D} (v : Val W d) : (Txt.join spS W).length ≤ 100 ∧ ∀ x ∈ TL.tl (Txt.join spS W), x ≠ 10 ∧ x < 256 := by
  constructor
  · rw [TL.len_tl, tl_join, tl_sp]
    have h1 := joinL_len [32] (W.map TL.tl)
    have h2 := v.small
    have e : (W.map TL.tl).map (·.length) = W.map (·.length) := by
      rw [List.map_map]; exact List.map_congr_left fun w _ => (TL.len_tl w).symm
    rw [e, List.length_map] at h1
    simp at h1
    omega
  · rw [tl_join, tl_sp]
    refine joinL_all (P := fun x => x ≠ 10 ∧ x < 256) (by simp) _ fun p hp => ?_
    obtain ⟨w, hw, rfl⟩ := List.mem_map.mp hp
    exact fun x hx => ⟨(v.fr w hw x hx).2.1, (v.fr w hw x hx).2.2⟩
theorem val_split {W : List Str} {d : D} (v : Val W d) : Txt.split (Txt.join spS W) spS = W :=
  TL.split_join tl_sp (by decide +kernel) v.ne fun w hw h => (v.fr w hw 32 h).1 rfl
theorem chk_nat {c : Int} {cs : List Nat} (h1 : 0 ≤ c) (h2 : c < 9973) : ∃ n : Nat, chk c cs = (n : Int) ∧ n < 9973 := by
  obtain ⟨g1, g2⟩ := chk_rng cs c h1 h2
  exact ⟨(chk c cs).toNat, (Int.toNat_of_nonneg g1).symm, by omega⟩
theorem scan_back : ∀ (es : En2) (c : Int) (k : Nat) (acc : List D), 0 ≤ c → c < 9973 → okEs es → scan c k (bodies c es) acc = (acc ++ es.map (·.2), none)
  | [], c, k, acc, _, _, _ => by simp [scan, bodies]
  | (W, d) :: es, c, k, acc, h1, h2, hv => by
    have v := hv _ List.mem_cons_self
    obtain ⟨n, hn, hn2⟩ := chk_nat (cs := TL.tl (Txt.join spS W)) h1 h2
    have hp := rpart_of (Txt.join spS W) (numS (n : Int)) (fun x hx => (numS_fr n x hx).1)
    have ih := scan_back es (n : Int) (k + 1) (acc ++ [d]) (by omega) (by omega) fun p hp => hv p (List.mem_cons_of_mem _ hp)
    simp only [bodies, scan, hn, hp]
    rw [val_split v, v.ent, v.nn]
    simp only [decide_true, Bool.not_true, Bool.or_false, Bool.false_eq_true, if_false]
    rw [ih, List.map_cons, List.append_assoc]; rfl
theorem joinL_nil : ∀ ps : List (List Nat), TL.joinL [] ps = ps.flatten
  | [] => by simp [TL.joinL]
  | [p] => by simp [TL.joinL]
  | p :: q :: r => by
    have e : TL.joinL [] (p :: q :: r) = p ++ [] ++ TL.joinL [] (q :: r) := by first | rfl | simp [TL.joinL]
    rw [e, joinL_nil (q :: r)]
    simp
theorem joinL_end : ∀ ps : List (List Nat), TL.joinL [10] (ps ++ [[]]) = (ps.map (· ++ [10])).flatten
  | [] => by simp [TL.joinL]
  | [p] => by
    have e : TL.joinL [10] (p :: [] :: []) = p ++ [10] ++ TL.joinL [10] [[]] := by first | rfl | simp [TL.joinL]
    show TL.joinL [10] (p :: [] :: []) = _
    rw [e]
    simp [TL.joinL]
  | p :: q :: r => by
    have e : TL.joinL [10] (p :: q :: (r ++ [[]])) = p ++ [10] ++ TL.joinL [10] (q :: (r ++ [[]])) := by first | rfl | simp [TL.joinL]
    show TL.joinL [10] (p :: q :: (r ++ [[]])) = _
    rw [e]
    have ih := joinL_end (q :: r)
    rw [show q :: (r ++ [[]]) = (q :: r) ++ [[]] from rfl, ih]
    simp
def textOf (es : En2) : Str := Txt.join ("" : Str) ((bodies 7 es).map (· ++ nlS))
theorem text_rows (es : En2) : textOf es = Txt.join nlS (bodies 7 es ++ [("" : Str)]) := by
  refine tl_inj ?_
  unfold textOf
  have e0 : TL.tl ("" : Str) = [] := by decide +kernel
  rw [tl_join, tl_join, e0, tl_nl, joinL_nil, List.map_append, List.map_singleton, e0, joinL_end, List.map_map, List.map_map]
  congr 1
  refine List.map_congr_left fun b _ => ?_
  simp only [Function.comp, tl_app, tl_nl]
theorem bodies_ok : ∀ (es : En2) (c : Int), 0 ≤ c → c < 9973 → okEs es → ∀ b ∈ bodies c es, b.length ≤ 120 ∧ ∀ x ∈ TL.tl b, x ≠ 10 ∧ x < 256
  | (W, d) :: es, c, h1, h2, hv, b, hb => by
    have v := hv _ List.mem_cons_self
    obtain ⟨n, hn, hn2⟩ := chk_nat (cs := TL.tl (Txt.join spS W)) h1 h2
    simp only [bodies, hn, List.mem_cons] at hb
    rcases hb with rfl | hb
    · have g1 : (Txt.join spS W).length ≤ 100 := (val_text v).1
      have g2 := (val_text v).2
      have l2 := (numS_len (n := n) (by omega)).2
      have hs1 : spS.length = 1 := by decide
      constructor
      · rw [len_app, len_app, hs1]; omega
      · intro x hx
        rw [tl_app, tl_app, tl_sp] at hx
        rcases List.mem_append.mp hx with h | h
        · rcases List.mem_append.mp h with h | h
          · exact g2 x h
          · rw [List.mem_singleton.mp h]; decide
        · exact ⟨(numS_fr n x h).2.1, (numS_fr n x h).2.2⟩
    · exact bodies_ok es (n : Int) (by omega) (by omega) (fun p hp => hv p (List.mem_cons_of_mem _ hp)) b hb
theorem bodies_len : ∀ (es : En2) (c : Int), (bodies c es).length = es.length
  | [], _ => rfl
  | (W, d) :: es, c => by simp only [bodies, List.length_cons, bodies_len es]
theorem res_back {es : En2} (hv : okEs es) : resD (textOf es) = (es.map (·.2), .non) := by
  have hb := bodies_ok es 7 (by decide) (by decide) hv
  have hsp : Txt.split (textOf es) nlS = bodies 7 es ++ [("" : Str)] := by
    rw [text_rows]
    refine TL.split_join tl_nl (by decide +kernel) (by simp) fun p hp h => ?_
    rcases List.mem_append.mp hp with hp | hp
    · exact ((hb p hp).2 10 h).1 rfl
    · rw [List.mem_singleton.mp hp] at h
      exact absurd h (by decide +kernel)
  unfold resD
  rw [hsp, List.dropLast_concat, scan_back es 7 0 [] (by decide) (by decide) hv, List.nil_append]
  have : finD (bodies 7 es ++ [("" : Str)]) = .non := by
    unfold finD lastS
    rw [List.getLastD_concat, if_pos rfl]
  simp only [this]
theorem text_tx {es : En2} (hv : okEs es) (hl : es.length ≤ 5) : (textOf es).length ≤ 1000 ∧ ∀ x ∈ TL.tl (textOf es), x < 256 := by
  have hb := bodies_ok es 7 (by decide) (by decide) hv
  have e0 : TL.tl ("" : Str) = [] := by decide +kernel
  constructor
  · rw [text_rows, TL.len_tl, tl_join, tl_nl]
    have h1 := joinL_len [10] ((bodies 7 es ++ [("" : Str)]).map TL.tl)
    have h2 : (((bodies 7 es ++ [("" : Str)]).map TL.tl).map (·.length)).sum ≤ 120 * (bodies 7 es).length := by
      rw [List.map_append, List.map_append, List.sum_append, List.map_singleton, List.map_singleton, e0]
      have : ∀ l : List Str, (∀ b ∈ l, b.length ≤ 120) → ((l.map TL.tl).map (·.length)).sum ≤ 120 * l.length := by
        intro l
        induction l with
        | nil => intro _; decide
        | cons b l ih =>
          intro h
          have g1 := h b List.mem_cons_self
          rw [TL.len_tl] at g1
          have g2 := ih fun x hx => h x (List.mem_cons_of_mem _ hx)
          simp only [List.map_cons, List.sum_cons, List.length_cons]
          omega
      have := this (bodies 7 es) fun b hb' => (hb b hb').1
      simpa using this
    rw [List.length_map, List.length_append, bodies_len] at h1
    rw [bodies_len] at h2
    simp only [List.length_singleton, Nat.mul_one, List.length_cons, List.length_nil] at h1
    omega
  · intro x hx
    rw [text_rows, tl_join, tl_nl] at hx
    refine joinL_all (P := fun x => x < 256) (by simp) _ (fun p hp => ?_) x hx
    obtain ⟨b, hb', rfl⟩ := List.mem_map.mp hp
    rcases List.mem_append.mp hb' with h | h
    · exact fun x hx => ((hb b h).2 x hx).2
    · rw [List.mem_singleton.mp h, e0]; intro x hx; cases hx
end G
namespace G
open PySem PySem.Spec PyProof.Rows L2 Mi
theorem ev_js {m : M D} {ms : List (M D)} {acc y : Str} {es es1 : En} {q : R (Str × En)} (h : m es = .ok (.str y, es1)) (hl : (acc ++ y).length ≤ sizeLine) (h2 : mJs ms (acc ++ y) es1 = q) : mJs (m :: ms) acc es = q := by
  simp only [mJs, Mi.bnd, h, if_pos hl, h2]
theorem ev_fs {ms : List (M D)} {s : Str} {es es1 : En} (h : mJs ms Str.empty es = .ok (s, es1)) : mFs ms es = .ok (.str s, es1) := by
  simp only [mFs, Mi.bnd, h, Mi.ret]
theorem ev_fmt {m : M D} {es es1 : En} {x y : D} (h : m es = .ok (x, es1)) (h2 : fmtOf x = some y) : mFmt m es = .ok (y, es1) := by
  simp only [mFmt, Mi.bnd, h, Mi.opt, h2]
theorem emp_app (s : Str) : Str.empty ++ s = s := tl_inj (by rw [tl_app]; rfl)
theorem fmt_str {s : Str} (h : s.length ≤ 1000000) : fmtOf (.str s) = some (.str s) := by
  have hz := size_eq
  have : s.length ≤ sizeLine := by omega
  simp only [fmtOf, okB, decide_eq_true this, if_pos]
theorem fmt_chk {c : Int} (h1 : 0 ≤ c) (h2 : c < 9973) : fmtOf (.int c) = some (.str (numS c)) := by
  have : c.natAbs.log2 < 1920 := Nat.lt_trans (lg (i := c) (by omega)) (by decide)
  simp only [fmtOf, okB, decide_eq_true this, if_pos]
  rfl
abbrev wrBody : M Out := mSeq (mAsg (bName 4) (mCall 1 g_entry_text (mCons (mVar 1) mNil)))
    (mSeq (mAsg (bName 2) (mCall 2 g_check_behind (mCons (mVar 2) (mCons (mVar 4) mNil))))
    (mDrop (mApp 3 (mFs [(mFmt (mVar 4)), (mC (.str " ")), (mFmt (mVar 2)), (mC (.str "\n"))]))))
theorem wr_loop : ∀ (es : En2) (c : Int) (acc : List D) (d0 x1 x4 : Sl), 0 ≤ c → c < 9973 → okEs es → acc.length + es.length ≤ 1000 →
    ∃ c' y1 y4, loopM (bName 1) wrBody (es.map (·.2)) [d0, x1, .dat (.int c), .own acc, x4] = .ok (.nx, [d0, y1, .dat (.int c'), .own (acc ++ ((bodies c es).map (· ++ nlS)).map D.str), y4])
  | [], c, acc, d0, x1, x4, _, _, _, _ => ⟨c, x1, x4, by simp [loopM, Mi.ret, bodies]⟩
  | (W, d) :: es, c, acc, d0, x1, x4, h1, h2, hv, hl => by
    have hz := size_eq
    have v : Val W d := hv _ List.mem_cons_self
    rw [List.length_cons] at hl
    obtain ⟨g1, g2⟩ := val_text v
    obtain ⟨n, hn, hn2⟩ := chk_nat (cs := TL.tl (Txt.join spS W)) h1 h2
    have l2 := (numS_len (n := n) (by omega)).2
    have hs1 : spS.length = 1 := by decide
    have hs2 : nlS.length = 1 := by decide
    have hc := e_check c (Txt.join spS W) h1 h2 (fun x hx => by have := (g2 x hx).2; omega)
    have e2 : (TL.tl (Txt.join spS W)) = (Txt.join spS W).cps.toList := rfl
    rw [← e2, hn] at hc
    obtain ⟨c', y1, y4, ih⟩ := wr_loop es (n : Int) (acc ++ [.str (Txt.join spS W ++ spS ++ numS (n : Int) ++ nlS)]) d0 (.dat d) (.dat (.str (Txt.join spS W))) (by omega) (by omega) (fun p hp => hv p (List.mem_cons_of_mem _ hp)) (by rw [List.length_append, List.length_singleton]; omega)
    have hfs : mFs [(mFmt (mVar 4)), (mC (.str " ")), (mFmt (mVar 2)), (mC (.str "\n"))] [d0, .dat d, .dat (.int (n : Int)), .own acc, .dat (.str (Txt.join spS W))] = .ok (.str (Txt.join spS W ++ spS ++ numS (n : Int) ++ nlS), [d0, .dat d, .dat (.int (n : Int)), .own acc, .dat (.str (Txt.join spS W))]) := by
      have h := ev_fs (es := [d0, .dat d, .dat (.int (n : Int)), .own acc, .dat (.str (Txt.join spS W))]) (ev_js (ms := [(mC (.str " ")), (mFmt (mVar 2)), (mC (.str "\n"))]) (acc := Str.empty) (ev_fmt (m := mVar 4) rfl (fmt_str (s := Txt.join spS W) (by omega))) (by rw [emp_app]; omega) (ev_js (ms := [(mFmt (mVar 2)), (mC (.str "\n"))]) (m := mC (.str spS)) rfl (by rw [emp_app, len_app, hs1]; omega) (ev_js (ms := [(mC (.str "\n"))]) (ev_fmt (m := mVar 2) rfl (fmt_chk (c := (n : Int)) (by omega) (by omega))) (by rw [emp_app, len_app, len_app, hs1]; omega) (ev_js (ms := []) (m := mC (.str nlS)) rfl (by rw [emp_app, len_app, len_app, len_app, hs1, hs2]; omega) rfl))))
      rw [emp_app] at h
      exact h
    refine ⟨c', y1, y4, ?_⟩
    have eb : acc ++ ((bodies c ((W, d) :: es)).map (· ++ nlS)).map D.str = acc ++ [.str (Txt.join spS W ++ spS ++ numS (n : Int) ++ nlS)] ++ ((bodies (n : Int) es).map (· ++ nlS)).map D.str := by
      simp only [bodies, hn, List.map_cons, List.append_assoc, List.singleton_append]
    rw [eb]
    exact ev_l_cons (es1 := [d0, .dat d, .dat (.int c), .own acc, x4]) rfl (ev_seq (ev_setL (es2 := [d0, .dat d, .dat (.int c), .own acc, .dat (.str (Txt.join spS W))]) (ev_call (ev_one rfl) rfl v.et)) (ev_seq (ev_setL (es2 := [d0, .dat d, .dat (.int (n : Int)), .own acc, .dat (.str (Txt.join spS W))]) (ev_call (ev_cons rfl (ev_one rfl)) rfl hc)) (ev_drop (ev_appL rfl hfs rfl (show acc.length < sizeLine by omega))))) ih
theorem all_true : ∀ l : List D, dAll [.lst (l.map fun _ => D.bl true)] = some (.bl true) := by
  intro l
  have := dAll_map (fun _ => true) l
  rw [this]
  congr 2
  exact List.all_eq_true.mpr fun _ _ => rfl
theorem e_write {es : En2} (hv : okEs es) (hl : es.length ≤ 5) : g_write_journal [.lst (es.map (·.2))] = .ok (.str (textOf es)) := by
  have hz := size_eq
  have hm := comp_map (v := 1) (ms := mIL (mVar 0)) (me := mCall 1 g_is_entry (mCons (mVar 1) mNil)) (f := fun _ => .bl true) (ds := es.map (·.2)) (es := [.dat (.lst (es.map (·.2))), .un, .un, .un, .un]) (ev_iL rfl) rfl (by show 1 < 5; decide) (fun d hd => by
    obtain ⟨p, hp, rfl⟩ := List.mem_map.mp hd
    exact ev_call (ev_one rfl) rfl (hv p hp).ie) (by rw [List.length_map]; omega)
  obtain ⟨c', y1, y4, hloop⟩ := wr_loop es 7 [] (.dat (.lst (es.map (·.2)))) .un .un (by decide) (by decide) hv (by simp; omega)
  rw [List.nil_append] at hloop
  have hj : dJoin ("" : Str) (.lst (((bodies 7 es).map (· ++ nlS)).map D.str)) = some (.str (textOf es)) := by
    have hb := bodies_ok es 7 (by decide) (by decide) hv
    have hs2 : nlS.length = 1 := by decide
    have hsum : ∀ l : List Str, (∀ b ∈ l, b.length ≤ 120) → ((l.map (· ++ nlS)).map (·.length)).sum ≤ 121 * l.length := by
      intro l
      induction l with
      | nil => intro _; decide
      | cons b l ih =>
        intro h
        have g1 := h b List.mem_cons_self
        have g2 := ih fun x hx => h x (List.mem_cons_of_mem _ hx)
        simp only [List.map_cons, List.sum_cons, List.length_cons, len_app, hs2]
        omega
    have h1 := hsum (bodies 7 es) fun b h => (hb b h).1
    rw [bodies_len] at h1
    have e0 : ("" : Str).length = 0 := by decide
    have : (((bodies 7 es).map (· ++ nlS)).map (·.length)).sum + ((bodies 7 es).map (· ++ nlS)).length * ("" : Str).length ≤ 16777216 := by
      rw [e0]; omega
    simp only [dJoin, seqOf, Option.bind_some, txts_map, okB, decide_eq_true this, if_pos]
    rfl
  exact ev_fn (ev_seq (ev_if_f (ev_orT_f (ev_nT_f (ev_tru (ev_isa2 rfl rfl rfl) rfl)) (ev_nT_f (ev_tru (ev_cb (ev_one hm) (all_true _)) rfl))) rfl) (ev_seq (ev_parO rfl) (ev_seq (ev_for (ev_iL rfl) hloop) (ev_ret (ev_m1 rfl rfl hj)))))
end G
namespace G
open PySem PySem.Spec PyProof.Rows L2 Mi RepX
structure Tb (n : Nat) (s : Str) : Prop where
  len : s.length ≤ n
  sm : Sm (TL.tl s)
theorem Tb.tx {n : Nat} {s : Str} (h : Tb n s) (hn : n ≤ 1000000) : Tx s := ⟨Nat.le_trans h.len hn, h.sm⟩
theorem Tb.mono {n m : Nat} {s : Str} (h : Tb n s) (hn : n ≤ m) : Tb m s := ⟨Nat.le_trans h.len hn, h.sm⟩
theorem Tb.app {n m : Nat} {a b : Str} (h : Tb n a) (g : Tb m b) : Tb (n + m) (a ++ b) := ⟨by rw [len_app]; have := h.len; have := g.len; omega, fun x hx => by
  rw [tl_app] at hx
  rcases List.mem_append.mp hx with k | k
  · exact h.sm x k
  · exact g.sm x k⟩
theorem Tb.cut {n : Nat} {s : Str} (h : Tb n s) (lo hi : Option Int) : Tb n (cutS s lo hi) := by
  have e : TL.tl (cutS s lo hi) = List.take (HT.sIx s.length s.length hi - HT.sIx s.length 0 lo) (List.drop (HT.sIx s.length 0 lo) (TL.tl s)) := by
    unfold cutS; exact TL.tl_mk _
  constructor
  · rw [TL.len_tl, e]
    have := h.len
    rw [TL.len_tl] at this
    simp only [List.length_take, List.length_drop]
    omega
  · rw [e]; exact fun x hx => h.sm x (List.mem_of_mem_drop (List.mem_of_mem_take hx))
theorem Tb.join {n m : Nat} {y : Str} {ps : List Str} (hy : Tb m y) (hp : ∀ p ∈ ps, Sm (TL.tl p)) (hs : (ps.map (·.length)).sum + ps.length * m ≤ n) : Tb n (Txt.join y ps) := by
  constructor
  · rw [TL.len_tl, tl_join]
    refine Nat.le_trans (joinL_len _ _) (Nat.le_trans ?_ hs)
    have e : (ps.map TL.tl).map (·.length) = ps.map (·.length) := by
      rw [List.map_map]; exact List.map_congr_left fun w _ => (TL.len_tl w).symm
    rw [e, List.length_map]
    have h1 := hy.len
    rw [TL.len_tl] at h1
    exact Nat.add_le_add_left (Nat.mul_le_mul_left _ h1) _
  · rw [tl_join]
    refine joinL_all (P := fun x => x < 1000) hy.sm _ fun p hp' => ?_
    obtain ⟨w, hw, rfl⟩ := List.mem_map.mp hp'
    exact hp w hw
theorem sub_tb {n : Nat} {s : Str} (h : Tb n s) (i j : Nat) : Tb n (Builtin.Str.strSub s i j) := by
  constructor
  · rw [TL.len_tl, TL.tl_strSub]
    have := h.len
    rw [TL.len_tl] at this
    simp only [List.length_take, List.length_drop]
    omega
  · rw [TL.tl_strSub]; exact fun x hx => h.sm x (List.mem_of_mem_drop (List.mem_of_mem_take hx))
theorem parts_tb {n : Nat} {s : Str} (h : Tb n s) (cuts : List Nat) (w : Nat) : ∀ p ∈ Builtin.Str.partsBetween s cuts w, Tb n p := by
  intro p hp
  unfold Builtin.Str.partsBetween at hp
  obtain ⟨q, _, rfl⟩ := List.mem_map.mp hp
  exact sub_tb h _ _
theorem rep_tb {s y z : Str} (h : Tb 1000 s) (hz : Tb 3 z) : Tb 5000 (Txt.replace s y z) := by
  refine ⟨?_, ?_⟩
  · refine Nat.le_trans (TK.replace_len s y z) ?_
    have h1 := h.len
    have h2 := hz.len
    have h3 : (s.length + 1) * z.length ≤ 1001 * 3 := Nat.mul_le_mul (by omega) h2
    omega
  · unfold Txt.replace
    split
    · exact h.sm
    · show Sm (TL.tl (Txt.join z _))
      rw [tl_join]
      refine joinL_all (P := fun x => x < 1000) hz.sm _ fun p hp => ?_
      obtain ⟨w, hw, rfl⟩ := List.mem_map.mp hp
      exact (parts_tb h _ _ w hw).sm
theorem rep1_tb {s y z : Str} (h : Tb 1000 s) (hz : Tb 3 z) : Tb 5000 (rep1 s y z) := by
  unfold rep1
  split
  · exact h.mono (by decide)
  · show Tb 5000 (Txt.join z _)
    refine Tb.join hz (fun p hp => (parts_tb h _ _ p hp).sm) ?_
    have h1 := StrLaws.occ_length_le s y 0 s.length 1
    have h2 := length_partsBetween s (Builtin.Str.occurrences s y 0 s.length 1) y.length
    have h3 : ∀ l : List Str, (∀ p ∈ l, p.length ≤ 1000) → (l.map (·.length)).sum ≤ 1000 * l.length := by
      intro l
      induction l with
      | nil => intro _; decide
      | cons b l ih =>
        intro g
        have g1 := g b List.mem_cons_self
        have g2 := ih fun x hx => g x (List.mem_cons_of_mem _ hx)
        simp only [List.map_cons, List.sum_cons, List.length_cons]
        omega
    have h4 := h3 _ fun p hp => (parts_tb h (Builtin.Str.occurrences s y 0 s.length 1) y.length p hp).len
    rw [h2] at h4 ⊢
    omega
theorem d_repl {s y z : Str} (h : Tb 1000 s) (hz : Tb 3 z) : dRepl y z (.str s) = some (.str (Txt.replace s y z)) := by
  have h1 := h.len
  have h2 := hz.len
  have h3 : (s.length + 1) * z.length ≤ 1001 * 3 := Nat.mul_le_mul (by omega) h2
  have : s.length + (s.length + 1) * z.length ≤ 16777216 := by omega
  simp only [dRepl, okB, decide_eq_true this, if_pos]
theorem d_rep1 {s y z : Str} (h : Tb 1000 s) (hz : Tb 3 z) : dRep1 y z (.str s) = some (.str (rep1 s y z)) := by
  have hs := size_eq
  have h1 := h.len
  have h2 := hz.len
  have h3 := (rep1_tb (y := y) h hz).len
  have : s.length + z.length ≤ sizeLine ∧ (rep1 s y z).length ≤ sizeLine := ⟨by omega, by omega⟩
  simp only [dRep1, okB, decide_eq_true this, if_pos]
theorem d_app {n m : Nat} {a b : Str} (h : Tb n a) (g : Tb m b) (hn : n + m ≤ 16777216) : dAdd (.str a) (.str b) = some (.str (a ++ b)) := by
  have hs := size_eq
  have := h.len
  have := g.len
  have : a.length + b.length ≤ sizeLine := by omega
  simp only [dAdd, okB, decide_eq_true this, if_pos]
theorem d_cut {n : Nat} {s : Str} (h : Tb n s) (hn : n ≤ 16777216) (lo hi : Option Int) : dSl (.str s) lo hi = some (.str (cutS s lo hi)) := by
  have hs := size_eq
  have := h.len
  have : s.length ≤ sizeLine := by omega
  simp only [dSl, if_pos this]
structure Rw (n : Nat) (ps : List Str) : Prop where
  sm : ∀ p ∈ ps, Sm (TL.tl p)
  sum : (ps.map (·.length)).sum + ps.length ≤ n
theorem sum_cut (l : List Str) (lo hi : Option Int) : ∃ m : List Str, Mi.cutD (l.map D.str) lo hi = m.map D.str ∧ (∀ p ∈ m, p ∈ l) ∧ (m.map (·.length)).sum + m.length ≤ (l.map (·.length)).sum + l.length := by
  have ht : ∀ (l : List Str) (k : Nat), ((l.take k).map (·.length)).sum + (l.take k).length ≤ (l.map (·.length)).sum + l.length := by
    intro l
    induction l with
    | nil => intro k; simp
    | cons b l ih =>
      intro k
      cases k with
      | zero => simp
      | succ k =>
        have := ih k
        simp only [List.take_succ_cons, List.map_cons, List.sum_cons, List.length_cons]
        omega
  have hd : ∀ (l : List Str) (k : Nat), ((l.drop k).map (·.length)).sum + (l.drop k).length ≤ (l.map (·.length)).sum + l.length := by
    intro l
    induction l with
    | nil => intro k; simp
    | cons b l ih =>
      intro k
      cases k with
      | zero => simp
      | succ k =>
        have := ih k
        simp only [List.drop_succ_cons, List.map_cons, List.sum_cons, List.length_cons]
        omega
  refine ⟨(l.drop (HT.sIx (l.map D.str).length 0 lo)).take (HT.sIx (l.map D.str).length (l.map D.str).length hi - HT.sIx (l.map D.str).length 0 lo), ?_, fun p hp => List.mem_of_mem_drop (List.mem_of_mem_take hp), Nat.le_trans (ht _ _) (hd _ _)⟩
  unfold Mi.cutD
  rw [List.map_take, List.map_drop]
theorem rw_cut {n : Nat} {l : List Str} (h : Rw n l) (lo hi : Option Int) : ∃ m, dSl (.lst (l.map D.str)) lo hi = some (.lst (m.map D.str)) ∧ Rw n m := by
  obtain ⟨m, e, h1, h2⟩ := sum_cut l lo hi
  refine ⟨m, by simp only [dSl, e], fun p hp => h.sm p (h1 p hp), Nat.le_trans h2 h.sum⟩
theorem rw_add {n k : Nat} {l m : List Str} (h : Rw n l) (g : Rw k m) (hn : n + k ≤ 16777216) : dAdd (.lst (l.map D.str)) (.lst (m.map D.str)) = some (.lst ((l ++ m).map D.str)) ∧ Rw (n + k) (l ++ m) := by
  have hs := size_eq
  have h1 := h.sum
  have g1 := g.sum
  have : (l.map D.str).length + (m.map D.str).length ≤ sizeLine := by rw [List.length_map, List.length_map]; omega
  refine ⟨by simp only [dAdd, okB, decide_eq_true this, if_pos, List.map_append], fun p hp => ?_, by simp only [List.map_append, List.sum_append, List.length_append]; omega⟩
  rcases List.mem_append.mp hp with q | q
  · exact h.sm p q
  · exact g.sm p q
theorem rw_join {n : Nat} {l : List Str} (h : Rw n l) (hn : n ≤ 100000) : dJoin nlS (.lst (l.map D.str)) = some (.str (Txt.join nlS l)) ∧ Tb n (Txt.join nlS l) := by
  have e1 : nlS.length = 1 := by decide
  have h1 := h.sum
  have : (l.map (·.length)).sum + l.length * nlS.length ≤ 16777216 := by rw [e1]; omega
  refine ⟨by simp only [dJoin, seqOf, Option.bind_some, txts_map, okB, decide_eq_true this, if_pos], Tb.join (m := 1) ⟨by decide, by rw [tl_nl]; intro x hx; rw [List.mem_singleton.mp hx]; decide⟩ h.sm (by omega)⟩
theorem rw_split {t : Str} (h : Tb 1000 t) : Rw 1001 (Txt.split t nlS) := by
  have h1 := split_weight t nlS (by decide)
  have h2 := h.len
  exact ⟨fun p hp => (split_tx (y := nlS) (by decide) (h.tx (by decide)) p hp).sm, by omega⟩
theorem rw_rev {n : Nat} {l : List Str} (h : Rw n l) : Rw n l.reverse := ⟨fun p hp => h.sm p (List.mem_reverse.mp hp), by rw [List.map_reverse, List.length_reverse, List.sum_reverse]; exact h.sum⟩
theorem signs_ok : ∀ p ∈ ([" ", "0", "a", "\n", "9", "-", "A"] : List Str), Tb 1 p := by
  have h : ∀ p ∈ ([" ", "0", "a", "\n", "9", "-", "A"] : List Str), (decide (p.length ≤ 1) && p.cps.toList.all fun x => decide (x < 1000)) = true := by decide +kernel
  intro p hp
  have := h p hp
  rw [Bool.and_eq_true, decide_eq_true_eq, List.all_eq_true] at this
  exact ⟨this.1, fun x hx => of_decide_eq_true (this.2 x hx)⟩
theorem tb_by {n : Nat} {s : Str} (h : (decide (s.length ≤ n) && s.cps.toList.all fun x => decide (x < 1000)) = true) : Tb n s := by
  rw [Bool.and_eq_true, decide_eq_true_eq, List.all_eq_true] at h
  exact ⟨h.1, fun x hx => of_decide_eq_true (h.2 x hx)⟩
end G
namespace G
open PySem PySem.Spec PyProof.Rows L2 Mi RepX
theorem add_few {X Y : List Str} (h : X.length + Y.length ≤ 1000) : dAdd (.lst (X.map D.str)) (.lst (Y.map D.str)) = some (.lst ((X ++ Y).map D.str)) := by
  have hs := size_eq
  have : (X.map D.str).length + (Y.map D.str).length ≤ sizeLine := by rw [List.length_map, List.length_map]; omega
  simp only [dAdd, okB, decide_eq_true this, if_pos, List.map_append]
theorem ev_rev {m : M D} {es es1 : En} {l : List D} (h : m es = .ok (.lst l, es1)) : mRev m es = .ok (.lst l.reverse, es1) := by
  simp only [mRev, Mi.bnd, h, Mi.opt, dRev]
abbrev sgS : List Str := [" ", "0", "a", "\n", "9", "-", "A"]
theorem e_texts {l : List D} {t : Str} (P : Pool l) (ht : Tb 1000 t) : ∃ (ss : List Str) (l' : List D), g__law_texts l [.str t] = .ok (.lst (ss.map D.str), l') ∧ Pool l' ∧ (∀ s ∈ ss, Tb 10000 s) ∧ ss.length ≤ 20 := by
  have hz := size_eq
  have htl := ht.len
  have hlt : t.length ≤ sizeLine := by omega
  have hs := d_split (t := t) (y := nlS) (by decide) (by omega)
  have hn := split_ne t
  have hL := rw_split ht
  generalize Txt.split t nlS = L at hs hn hL
  have hL1 : 0 < ((L.map D.str).length : Int) := by rw [List.length_map]; have := List.length_pos_iff.mpr hn; omega
  have hL2 : ((L.map D.str).length : Int) < 2 ^ 100 := by rw [List.length_map]; have := hL.sum; omega
  obtain ⟨a1, l1, t1, P1, u1, v1⟩ := e_take P ((t.length : Int) + 1) (by omega) (by omega)
  obtain ⟨a2, l2, t2, P2, u2, v2⟩ := e_take P1 ((t.length : Int) + 1) (by omega) (by omega)
  obtain ⟨a3, l3, t3, P3, u3, v3⟩ := e_take P2 ((L.map D.str).length : Int) hL1 hL2
  obtain ⟨a4, l4, t4, P4, u4, v4⟩ := e_take P3 7 (by decide) (by decide)
  obtain ⟨sg, hsg, isg⟩ := ix_mem (l := sgS) u4 (by show a4 < 7; exact v4)
  have hsg := signs_ok sg hsg
  have h1 : mPar [2, 3, 4] (mCons (mM1 dSplit (mVar 1) (mC (.str "\n"))) (mCons (mCallO 0 1 g__law_take (mCons (mBin dAdd (mCB dLen (mCons (mVar 1) mNil)) (mC (.int 1))) mNil)) (mCons (mCallO 0 1 g__law_take (mCons (mBin dAdd (mCB dLen (mCons (mVar 1) mNil)) (mC (.int 1))) mNil)) mNil))) [.own l, .dat (.str t), .un, .un, .un, .un, .un, .un, .un]
      = .ok (.nx, [.own l2, .dat (.str t), .dat (.lst (L.map D.str)), .dat (.int a1), .dat (.int a2), .un, .un, .un, .un]) :=
    ev_par (ev_cons (ev_m1 rfl rfl hs) (ev_cons (ev_callOL rfl (ev_one (ev_bin (ev_len rfl hlt) rfl rfl)) rfl rfl t1) (ev_one (ev_callOL rfl (ev_one (ev_bin (ev_len rfl hlt) rfl rfl)) rfl rfl t2)))) rfl
  have h2 : mPar [5, 6] (mCons (mCallO 0 1 g__law_take (mCons (mCB dLen (mCons (mVar 2) mNil)) mNil)) (mCons (mBin dIx (mLst (mCons (mC (.str " ")) (mCons (mC (.str "0")) (mCons (mC (.str "a")) (mCons (mC (.str "\n")) (mCons (mC (.str "9")) (mCons (mC (.str "-")) (mCons (mC (.str "A")) mNil)))))))) (mCallO 0 1 g__law_take (mCons (mC (.int 7)) mNil))) mNil)) [.own l2, .dat (.str t), .dat (.lst (L.map D.str)), .dat (.int a1), .dat (.int a2), .un, .un, .un, .un]
      = .ok (.nx, [.own l4, .dat (.str t), .dat (.lst (L.map D.str)), .dat (.int a1), .dat (.int a2), .dat (.int a3), .dat (.str sg), .un, .un]) :=
    ev_par (ev_cons (ev_callOL rfl (ev_one (ev_cb (ev_one rfl) rfl)) rfl rfl t3) (ev_one (ev_bin (ev_lst (ev_cons rfl (ev_cons rfl (ev_cons rfl (ev_cons rfl (ev_cons rfl (ev_cons rfl (ev_one rfl))))))) (sz 7 (by decide))) (ev_callOL rfl (ev_one rfl) rfl rfl t4) isg))) rfl
  have k1 := d_cut ht (by decide) none (some a1)
  have k2 := d_cut ht (by decide) (some a1) none
  have k3 := d_cut ht (by decide) (some (a1 + 1)) none
  have k4 := d_cut ht (by decide) (some a2) none
  have b1 := ht.cut none (some a1)
  have b2 := ht.cut (some a1) none
  have b3 := ht.cut (some (a1 + 1)) none
  have b4 := ht.cut (some a2) none
  generalize cutS t none (some a1) = c1 at k1 b1
  generalize cutS t (some a1) none = c2 at k2 b2
  generalize cutS t (some (a1 + 1)) none = c3 at k3 b3
  generalize cutS t (some a2) none = c4 at k4 b4
  have i1 := d_app b1 hsg (by decide)
  have i2 := d_app (b1.app hsg) b2 (by decide)
  have i3 := d_app b1 b3 (by decide)
  have i4 := d_app (b1.app hsg) b3 (by decide)
  have i5 := d_app ht ht (by decide)
  have i6 := d_app b1 b4 (by decide)
  obtain ⟨m1, e1, w1⟩ := rw_cut hL none (some a3)
  obtain ⟨m2, e2, w2⟩ := rw_cut hL (some (a3 + 1)) none
  obtain ⟨m3, e3, w3⟩ := rw_cut hL (some a3) (some (a3 + 1))
  obtain ⟨m4, e4, w4⟩ := rw_cut hL (some a3) none
  obtain ⟨f1, g1⟩ := rw_add w1 w2 (by decide)
  obtain ⟨f2, g2⟩ := rw_add w1 w3 (by decide)
  obtain ⟨f3, g3⟩ := rw_add g2 w4 (by decide)
  obtain ⟨j1, y1⟩ := rw_join g1 (by decide)
  obtain ⟨j2, y2⟩ := rw_join (rw_rev hL) (by decide)
  obtain ⟨j3, y3⟩ := rw_join g3 (by decide)
  rw [List.map_reverse] at j2
  have z1 : Tb 3 ("  " : Str) := tb_by (by decide +kernel)
  have z2 : Tb 3 (" 01" : Str) := tb_by (by decide +kernel)
  have z3 : Tb 3 (" +5" : Str) := tb_by (by decide +kernel)
  have z4 : Tb 1 (nlS : Str) := tb_by (by decide +kernel)
  have z5 : Tb 1 (spS : Str) := tb_by (by decide +kernel)
  have r1 := d_rep1 (y := spS) ht z1
  have r2 := d_repl (y := (" 1" : Str)) ht z2
  have r3 := d_repl (y := (" 5" : Str)) ht z3
  have q1 := rep1_tb (y := spS) ht z1
  have q2 := rep_tb (y := (" 1" : Str)) ht z2
  have q3 := rep_tb (y := (" 5" : Str)) ht z3
  have i7 := d_app z4 ht (by decide)
  have i8 := d_app ht z4 (by decide)
  have i9 := d_app ht z5 (by decide)
  let S1 : List Str := [c1 ++ sg ++ c2, c1 ++ c3, c1 ++ sg ++ c3, t ++ t]
  let S2 : List Str := [c1 ++ c4, Txt.join nlS (m1 ++ m2), Txt.join nlS L.reverse]
  let S3 : List Str := [Txt.join nlS (m1 ++ m3 ++ m4), rep1 t spS "  "]
  let S4 : List Str := [Txt.replace t " 1" " 01", Txt.replace t " 5" " +5", nlS ++ t, t ++ nlS, t ++ spS]
  have A1 := add_few (X := S1) (Y := S2) (by show 4 + 3 ≤ 1000; decide)
  have A2 := add_few (X := S1 ++ S2) (Y := S3) (by show 7 + 2 ≤ 1000; decide)
  have A3 := add_few (X := S1 ++ S2 ++ S3) (Y := S4) (by show 9 + 5 ≤ 1000; decide)
  have hall : ∀ s ∈ S1 ++ S2 ++ S3 ++ S4, Tb 10000 s := by
    intro s hs
    simp only [S1, S2, S3, S4, List.mem_append, List.mem_cons, List.not_mem_nil, or_false] at hs
    rcases hs with ((((rfl | rfl | rfl | rfl) | (rfl | rfl | rfl)) | (rfl | rfl)) | (rfl | rfl | rfl | rfl | rfl))
    · exact ((b1.app hsg).app b2).mono (by decide)
    · exact (b1.app b3).mono (by decide)
    · exact ((b1.app hsg).app b3).mono (by decide)
    · exact (ht.app ht).mono (by decide)
    · exact (b1.app b4).mono (by decide)
    · exact y1.mono (by decide)
    · exact y2.mono (by decide)
    · exact y3.mono (by decide)
    · exact q1.mono (by decide)
    · exact q2.mono (by decide)
    · exact q3.mono (by decide)
    · exact (z4.app ht).mono (by decide)
    · exact (ht.app z4).mono (by decide)
    · exact (ht.app z5).mono (by decide)
  refine ⟨S1 ++ S2 ++ S3 ++ S4, l4, ?_, P4, hall, by show 14 ≤ 20; decide⟩
  refine ev_fnO (es := [.own l4, .dat (.str t), .dat (.lst (L.map D.str)), .dat (.int a1), .dat (.int a2), .dat (.int a3), .dat (.str sg), .dat (.lst ((S1 ++ S2 ++ S3).map D.str)), .dat (.lst ((m1 ++ m3 ++ m4).map D.str))]) (ev_seq h1 (ev_seq h2 ?_)) rfl
  refine ev_seq (es1 := [.own l4, .dat (.str t), .dat (.lst (L.map D.str)), .dat (.int a1), .dat (.int a2), .dat (.int a3), .dat (.str sg), .dat (.lst (S1.map D.str)), .un])
    (ev_setL (ev_lst (ev_cons (ev_bin (ev_bin (ev_sl rfl rfl (ev_part rfl) k1) rfl i1) (ev_sl rfl (ev_part rfl) rfl k2) i2) (ev_cons (ev_bin (ev_sl rfl rfl (ev_part rfl) k1) (ev_sl rfl (ev_part (ev_bin rfl rfl rfl)) rfl k3) i3) (ev_cons (ev_bin (ev_bin (ev_sl rfl rfl (ev_part rfl) k1) rfl i1) (ev_sl rfl (ev_part (ev_bin rfl rfl rfl)) rfl k3) i4) (ev_one (ev_bin rfl rfl i5))))) (sz 4 (by decide)))) ?_
  refine ev_seq (es1 := [.own l4, .dat (.str t), .dat (.lst (L.map D.str)), .dat (.int a1), .dat (.int a2), .dat (.int a3), .dat (.str sg), .dat (.lst ((S1 ++ S2).map D.str)), .un])
    (ev_setL (ev_bin rfl (ev_lst (ev_cons (ev_bin (ev_sl rfl rfl (ev_part rfl) k1) (ev_sl rfl (ev_part rfl) rfl k4) i6) (ev_cons (ev_m1 rfl (ev_bin (ev_sl rfl rfl (ev_part rfl) e1) (ev_sl rfl (ev_part (ev_bin rfl rfl rfl)) rfl e2) f1) j1) (ev_one (ev_m1 rfl (ev_rev rfl) j2)))) (sz 3 (by decide))) A1)) ?_
  refine ev_seq (es1 := [.own l4, .dat (.str t), .dat (.lst (L.map D.str)), .dat (.int a1), .dat (.int a2), .dat (.int a3), .dat (.str sg), .dat (.lst ((S1 ++ S2).map D.str)), .dat (.lst ((m1 ++ m3 ++ m4).map D.str))])
    (ev_setL (ev_bin (ev_bin (ev_sl rfl rfl (ev_part rfl) e1) (ev_sl rfl (ev_part rfl) (ev_part (ev_bin rfl rfl rfl)) e3) f2) (ev_sl rfl (ev_part rfl) rfl e4) f3)) ?_
  refine ev_seq (es1 := [.own l4, .dat (.str t), .dat (.lst (L.map D.str)), .dat (.int a1), .dat (.int a2), .dat (.int a3), .dat (.str sg), .dat (.lst ((S1 ++ S2 ++ S3).map D.str)), .dat (.lst ((m1 ++ m3 ++ m4).map D.str))])
    (ev_setL (ev_bin rfl (ev_lst (ev_cons (ev_m1 rfl rfl j3) (ev_one (ev_un rfl r1))) (sz 2 (by decide))) A2)) ?_
  exact ev_ret (ev_bin rfl (ev_lst (ev_cons (ev_un rfl r2) (ev_cons (ev_un rfl r3) (ev_cons (ev_bin rfl rfl i7) (ev_cons (ev_bin rfl rfl i8) (ev_one (ev_bin rfl rfl i9)))))) (sz 5 (by decide))) A3)
end G
namespace G
open PySem PySem.Spec PyProof.Rows L2 Mi RepX
theorem sm_ok {s : Str} (h : Sm (TL.tl s)) : PyData.strOk s = true := by
  unfold PyData.strOk
  rw [← Array.all_toList]
  refine List.all_eq_true.mpr fun x hx => decide_eq_true ?_
  have := h x hx
  omega
theorem ent_nice {W : List Str} (h : ∀ w ∈ W, Sm (TL.tl w)) : nice (entOf W) = true ∧ dep (entOf W) ≤ 3 := by
  have hnon : nice D.non = true ∧ dep D.non ≤ 3 := ⟨rfl, by show 0 ≤ 3; decide⟩
  match W with
  | [] => exact hnon
  | [_] => exact hnon
  | [_, _] => exact hnon
  | w0 :: w1 :: w2 :: r =>
    have h0 := sm_ok (h w0 (by simp))
    have h1 := sm_ok (h w1 (by simp))
    have h2 := sm_ok (h w2 (by simp))
    simp only [entOf]
    split
    · split
      · split
        · split
          · refine ⟨?_, by show 2 ≤ 3; decide⟩
            show (PyData.strOk w0 && (PyData.strOk wkS && (true && (true && true)))) = true
            rw [h0, wk_ok.2.1]; rfl
          · exact hnon
        · exact hnon
      · split
        · refine ⟨?_, ?_⟩
          · show (PyData.strOk w0 && (PyData.strOk w1 && (PyData.strOk w2 && (niceL (r.map fun x => numD (numIn x)) && true)))) = true
            rw [h0, h1, h2, niceL_map (fun x => nice_num _)]; rfl
          · show max 0 (max 0 (max 0 (max (depL (r.map fun x => numD (numIn x)) + 1) 0))) + 1 ≤ 3
            have := depL_map (f := fun x => numD (numIn x)) (n := 0) (fun x => by rw [dep_num]; exact Nat.le_refl 0) r
            omega
        · exact hnon
    · exact hnon
theorem niceL_all : ∀ {l : List D}, (∀ d ∈ l, nice d = true) → niceL l = true
  | [], _ => rfl
  | d :: l, h => by
    show (nice d && niceL l) = true
    rw [h d List.mem_cons_self, niceL_all fun x hx => h x (List.mem_cons_of_mem _ hx)]; rfl
theorem depL_all {n : Nat} : ∀ {l : List D}, (∀ d ∈ l, dep d ≤ n) → depL l ≤ n
  | [], _ => Nat.zero_le _
  | d :: l, h => Nat.max_le.mpr ⟨h d List.mem_cons_self, depL_all fun x hx => h x (List.mem_cons_of_mem _ hx)⟩
def Gd (d : D) : Prop := nice d = true ∧ dep d ≤ 3
theorem scan_good : ∀ (ls : List Str) (c : Int) (k : Nat) (acc : List D), (∀ l ∈ ls, Tx l) → (∀ d ∈ acc, Gd d) → ∀ d ∈ (scan c k ls acc).1, Gd d
  | [], c, k, acc, _, ha => ha
  | l :: ls, c, k, acc, ht, ha => by
    unfold scan
    dsimp only
    split
    · exact ha
    · refine scan_good ls _ _ _ (fun z hz => ht z (List.mem_cons_of_mem _ hz)) fun d hd => ?_
      rcases List.mem_append.mp hd with h | h
      · exact ha d h
      · rw [List.mem_singleton.mp h]
        have hr := rp_tx (ht l List.mem_cons_self)
        exact ent_nice fun w hw => (split_tx (y := spS) (by decide) hr w hw).sm
theorem res_good {t : Str} (ht : Tx t) : (∀ d ∈ (resD t).1, Gd d) ∧ ((∃ i, (resD t).2 = .int i) ∨ (resD t).2 = .non) := by
  have h := scan_good (Txt.split t nlS).dropLast 7 0 [] (fun l hl => split_tx (y := nlS) (by decide) ht l ((List.dropLast_sublist _).subset hl)) (fun d hd => by cases hd)
  unfold resD
  revert h
  cases scan 7 0 (Txt.split t nlS).dropLast [] with
  | mk acc o =>
    intro h
    cases o with
    | some j => exact ⟨h, .inl ⟨_, rfl⟩⟩
    | none =>
      refine ⟨h, ?_⟩
      show (∃ i, finD _ = .int i) ∨ finD _ = .non
      unfold finD
      split
      · exact .inr rfl
      · exact .inl ⟨_, rfl⟩
theorem lst_self {l : List D} (h : ∀ d ∈ l, Gd d) : dNe (.lst l) (.lst l) = some (.bl false) :=
  ne_self (niceL_all fun d hd => (h d hd).1) (by
    show depL l + 1 ≤ 64
    have := depL_all (n := 3) fun d hd => (h d hd).2
    omega)
theorem rd_self {t : Str} (ht : Tx t) : dNe (rdD t) (rdD t) = some (.bl false) := by
  obtain ⟨h1, h2⟩ := res_good ht
  unfold rdD
  split
  · exact lst_self h1
  · refine lst_self fun d hd => ?_
    simp only [List.mem_cons, List.not_mem_nil, or_false] at hd
    rcases hd with rfl | rfl
    · rcases h2 with ⟨i, h⟩ | h <;> rw [h] <;> exact ⟨rfl, by show 0 ≤ 3; decide⟩
    · exact ⟨rfl, by show 0 ≤ 3; decide⟩
abbrev oneBody : M Out := mSeq (mAsg (bLst [8, 9]) (mCall 1 g__law_due (mCons (mVar 6) mNil)))
    (mIf (mOrT (mTst (mBin dNe (mCall 1 g_recover (mCons (mVar 6) mNil)) (mVar 8))) (mTst (mBin dNe (mCall 1 g__law_read (mCons (mVar 6) mNil)) (mIfE (mTst (mBin dIs (mVar 9) (mC .non))) (mVar 8) (mLst (mCons (mVar 9) (mCons (mC (.bl true)) mNil))))))) (mRet (mC (.bl false))) mNext)
theorem one_loop : ∀ (ss : List Str) (x0 x1 x2 x3 x4 x5 x6 x7 x8 x9 x10 : Sl), (∀ s ∈ ss, Tx s) → ∃ y6 y8 y9, loopM (bName 6) oneBody (ss.map D.str) [x0, x1, x2, x3, x4, x5, x6, x7, x8, x9, x10] = .ok (.nx, [x0, x1, x2, x3, x4, x5, y6, x7, y8, y9, x10])
  | [], x0, x1, x2, x3, x4, x5, x6, x7, x8, x9, x10, _ => ⟨x6, x8, x9, rfl⟩
  | s :: ss, x0, x1, x2, x3, x4, x5, x6, x7, x8, x9, x10, h => by
    have hs := h s List.mem_cons_self
    obtain ⟨g1, g2⟩ := res_good hs
    have n1 := lst_self g1
    have n2 := rd_self hs
    have hd := e_law_due s hs
    have hr := e_recover s hs
    have hl := e_read s hs
    obtain ⟨y6, y8, y9, ih⟩ := one_loop ss x0 x1 x2 x3 x4 x5 (.dat (.str s)) x7 (.dat (.lst (resD s).1)) (.dat (resD s).2) x10 fun z hz => h z (List.mem_cons_of_mem _ hz)
    refine ⟨y6, y8, y9, ev_l_cons (es1 := [x0, x1, x2, x3, x4, x5, .dat (.str s), x7, x8, x9, x10]) rfl (ev_seq (es1 := [x0, x1, x2, x3, x4, x5, .dat (.str s), x7, .dat (.lst (resD s).1), .dat (resD s).2, x10]) (ev_asg (ev_call (ev_one rfl) rfl hd) rfl) (ev_if_f (ev_orT_f (ev_tst (ev_bin (ev_call (ev_one rfl) rfl hr) rfl n1)) (ev_tst (ev_bin (ev_call (ev_one rfl) rfl hl) ?_ n2))) rfl)) ih⟩
    unfold rdD
    cases hq : isN (resD s).2 with
    | true => exact ev_ife_t (ev_tst (ev_bin rfl rfl (by show some (D.bl (isN (resD s).2)) = _; rw [hq]))) rfl
    | false => exact ev_ife_f (ev_tst (ev_bin rfl rfl (by show some (D.bl (isN (resD s).2)) = _; rw [hq]))) (ev_lst (ev_cons rfl (ev_one rfl)) (sz 2 (by decide)))
abbrev oddBody : M Out := mIf (mTst (mBin dNe (mCall 1 g__law_read (mCons (mVar 10) mNil)) (mLst (mCons (mC (.int 0)) (mCons (mC (.bl true)) mNil))))) (mRet (mC (.bl false))) mNext
theorem odd_loop : ∀ (ds : List D) (x0 x1 x2 x3 x4 x5 x6 x7 x8 x9 x10 : Sl), (∀ d ∈ ds, isa .str d = some false) → ∃ y10, loopM (bName 10) oddBody ds [x0, x1, x2, x3, x4, x5, x6, x7, x8, x9, x10] = .ok (.nx, [x0, x1, x2, x3, x4, x5, x6, x7, x8, x9, y10])
  | [], x0, x1, x2, x3, x4, x5, x6, x7, x8, x9, x10, _ => ⟨x10, rfl⟩
  | d :: ds, x0, x1, x2, x3, x4, x5, x6, x7, x8, x9, x10, h => by
    have hl := e_read_odd d (h d List.mem_cons_self)
    have n1 : dNe (.lst [.int 0, .bl true]) (.lst [.int 0, .bl true]) = some (.bl false) := lst_self fun d hd => by
      simp only [List.mem_cons, List.not_mem_nil, or_false] at hd
      rcases hd with rfl | rfl <;> exact ⟨rfl, by show 0 ≤ 3; decide⟩
    obtain ⟨y10, ih⟩ := odd_loop ds x0 x1 x2 x3 x4 x5 x6 x7 x8 x9 (.dat d) fun z hz => h z (List.mem_cons_of_mem _ hz)
    exact ⟨y10, ev_l_cons (es1 := [x0, x1, x2, x3, x4, x5, x6, x7, x8, x9, .dat d]) rfl (ev_if_f (ev_tst (ev_bin (ev_call (ev_one rfl) rfl hl) (ev_lst (ev_cons rfl (ev_one rfl)) (sz 2 (by decide))) n1)) rfl) ih⟩
theorem ents_comp : ∀ (ds acc : List D) (l : List D) (x0 x1 x3 x5 x6 x7 x8 x9 x10 : Sl), Pool l → acc.length + ds.length ≤ 1000 → ∃ (es : En2) (l' : List D), compL (bName 4) mYes (mCallO 2 0 g__law_entry mNil) [4] ds acc [x0, x1, .own l, x3, .un, x5, x6, x7, x8, x9, x10] = .ok (acc ++ es.map (·.2), [x0, x1, .own l', x3, .un, x5, x6, x7, x8, x9, x10]) ∧ okEs es ∧ es.length = ds.length ∧ Pool l'
  | [], acc, l, x0, x1, x3, x5, x6, x7, x8, x9, x10, P, _ => ⟨[], l, by simp [compL, Mi.ret], fun p hp => (by cases hp), rfl, P⟩
  | d :: ds, acc, l, x0, x1, x3, x5, x6, x7, x8, x9, x10, P, hl => by
    have hz := size_eq
    rw [List.length_cons] at hl
    obtain ⟨W, e, l1, h1, v, P1⟩ := e_entry P
    obtain ⟨es, l', ih, hok, hlen, P'⟩ := ents_comp ds (acc ++ [e]) l1 x0 x1 x3 x5 x6 x7 x8 x9 x10 P1 (by rw [List.length_append, List.length_singleton]; omega)
    refine ⟨(W, e) :: es, l', ?_, fun p hp => ?_, by rw [List.length_cons, List.length_cons, hlen], P'⟩
    · have hc : mCallO 2 0 g__law_entry mNil [x0, x1, .own l, x3, .dat d, x5, x6, x7, x8, x9, x10] = .ok (e, [x0, x1, .own l1, x3, .dat d, x5, x6, x7, x8, x9, x10]) := ev_callOL rfl rfl rfl rfl h1
      have hs : acc.length < sizeLine := by omega
      have hb : bName 4 d [x0, x1, .own l, x3, .un, x5, x6, x7, x8, x9, x10] = .ok ((), [x0, x1, .own l, x3, .dat d, x5, x6, x7, x8, x9, x10]) := rfl
      have hy : mYes [x0, x1, .own l, x3, .dat d, x5, x6, x7, x8, x9, x10] = .ok (true, [x0, x1, .own l, x3, .dat d, x5, x6, x7, x8, x9, x10]) := rfl
      have hw : wipeE [x0, x1, .own l1, x3, .dat d, x5, x6, x7, x8, x9, x10] [4] = [x0, x1, .own l1, x3, .un, x5, x6, x7, x8, x9, x10] := rfl
      simp only [compL, Mi.bnd, hb, hy, if_pos, hc, hs, hw]
      rw [ih, List.map_cons, List.append_assoc]; rfl
    · rcases List.mem_cons.mp hp with rfl | h
      · exact v
      · exact hok p h
end G
namespace G
open PySem PySem.Spec PyProof.Rows L2 Mi RepX
abbrev turnBody : M Out := (mSeq (mAsgF 2 2 g__law_pool (mCons (mVar 0) (mCons (mVar 1) mNil)))
    (mSeq (mAsg (bName 3) (mComp [4] (mRg1 (mCons (mCallO 2 1 g__law_take (mCons (mC (.int 4)) mNil)) mNil)) (bName 4) mYes (mCallO 2 0 g__law_entry mNil)))
    (mSeq (mAsg (bName 5) (mCall 1 g_write_journal (mCons (mVar 3) mNil)))
    (mSeq (mFor (mIL (mBin dAdd (mBin dAdd (mComp [7] (mRg1 (mCons (mBin dAdd (mCB dLen (mCons (mVar 5) mNil)) (mC (.int 1))) mNil)) (bName 7) mYes (mSl dSl (mVar 5) mNo (mPart (mVar 7)))) (mCallO 2 1 g__law_texts (mCons (mVar 5) mNil))) (mCallO 2 1 g__law_texts (mCons (mVar 5) mNil)))) (bName 6) oneBody)
    (mSeq (mIf (mTst (mBin dNe (mCall 1 g__law_read (mCons (mVar 5) mNil)) (mVar 3))) (mRet (mC (.bl false))) mNext)
    (mFor (mIL (mLst (mCons (mC .non) (mCons (mC (.int 5)) (mCons (mLst (mCons (mC (.str "ann")) mNil)) (mCons (mTup mNil) mNil)))))) (bName 10) oddBody))))))
theorem turn (ns : List Int) (k : Int) (h0 : 0 ≤ k) (h1 : k ≤ 100) (x2 x3 x5 x6 x8 x9 x10 : Sl) : ∃ y2 y3 y5 y6 y8 y9 y10, turnBody [.dat (.scr ns), .dat (.int k), x2, x3, .un, x5, x6, .un, x8, x9, x10] = .ok (.nx, [.dat (.scr ns), .dat (.int k), y2, y3, .un, y5, y6, .un, y8, y9, y10]) := by
  have hz := size_eq
  obtain ⟨l, hp, P⟩ := e_pool ns k h0 h1
  have s1 : mAsgF 2 2 g__law_pool (mCons (mVar 0) (mCons (mVar 1) mNil)) [.dat (.scr ns), .dat (.int k), x2, x3, .un, x5, x6, .un, x8, x9, x10] = .ok (.nx, [.dat (.scr ns), .dat (.int k), .own l, x3, .un, x5, x6, .un, x8, x9, x10]) := by
    have hw : mCons (mVar 0) (mCons (mVar 1) mNil) [.dat (.scr ns), .dat (.int k), x2, x3, .un, x5, x6, .un, x8, x9, x10] = .ok ([.scr ns, .int k], [.dat (.scr ns), .dat (.int k), x2, x3, .un, x5, x6, .un, x8, x9, x10]) := ev_cons rfl (ev_one rfl)
    have hl : [D.scr ns, D.int k].length = 2 := rfl
    simp only [mAsgF, Mi.bnd, hw, if_pos hl, Mi.lft, hp]
    rfl
  obtain ⟨r, l1, t1, P1, u1, v1⟩ := e_take P 4 (by decide) (by decide)
  obtain ⟨es, l2, hc, hok, hlen, P2⟩ := ents_comp ((List.range r.toNat).map fun (k : Nat) => D.int (k : Int)) [] l1 (.dat (.scr ns)) (.dat (.int k)) x3 x5 x6 .un x8 x9 x10 P1 (by rw [List.length_map, List.length_range]; simp; omega)
  rw [List.length_map, List.length_range] at hlen
  have hes : es.length ≤ 5 := by omega
  have hrg : mRg1 (mCons (mCallO 2 1 g__law_take (mCons (mC (.int 4)) mNil)) mNil) [.dat (.scr ns), .dat (.int k), .own l, x3, .un, x5, x6, .un, x8, x9, x10] = .ok ((List.range r.toNat).map fun (k : Nat) => D.int (k : Int), [.dat (.scr ns), .dat (.int k), .own l1, x3, .un, x5, x6, .un, x8, x9, x10]) :=
    ev_rg1 (ev_one (ev_callOL rfl (ev_one rfl) rfl rfl t1)) (by omega)
  have s2 : mComp [4] (mRg1 (mCons (mCallO 2 1 g__law_take (mCons (mC (.int 4)) mNil)) mNil)) (bName 4) mYes (mCallO 2 0 g__law_entry mNil) [.dat (.scr ns), .dat (.int k), .own l, x3, .un, x5, x6, .un, x8, x9, x10] = .ok (.lst (es.map (·.2)), [.dat (.scr ns), .dat (.int k), .own l2, x3, .un, x5, x6, .un, x8, x9, x10]) := by
    have hno : notOwn [.dat (.scr ns), .dat (.int k), .own l1, x3, .un, x5, x6, .un, x8, x9, x10] [4] = true := rfl
    have hw : wipeE [.dat (.scr ns), .dat (.int k), .own l1, x3, .un, x5, x6, .un, x8, x9, x10] [4] = [.dat (.scr ns), .dat (.int k), .own l1, x3, .un, x5, x6, .un, x8, x9, x10] := rfl
    simp only [mComp, Mi.bnd, hrg, hno, if_pos, hw, hc, List.nil_append]
    rfl
  have s3 := e_write hok hes
  obtain ⟨g1, g2⟩ := text_tx hok hes
  have ht : Tb 1000 (textOf es) := ⟨g1, fun x hx => by have := g2 x hx; omega⟩
  have hb := res_back hok
  generalize hT : textOf es = t at s3 ht hb g1
  obtain ⟨S1, l3, e1, P3, a1, b1⟩ := e_texts P2 ht
  obtain ⟨S2, l4, e2, P4, a2, b2⟩ := e_texts P3 ht
  let es2 : En := [.dat (.scr ns), .dat (.int k), .own l2, .dat (.lst (es.map (·.2))), .un, .dat (.str t), x6, .un, x8, x9, x10]
  have hcut := comp_map (v := 7) (ms := mRg1 (mCons (mBin dAdd (mCB dLen (mCons (mVar 5) mNil)) (mC (.int 1))) mNil)) (me := mSl dSl (mVar 5) mNo (mPart (mVar 7))) (f := fun d => match d with | .int i => .str (cutS t none (some i)) | _ => .non)
    (ds := (List.range ((t.length : Int) + 1).toNat).map fun (k : Nat) => D.int (k : Int)) (es := es2) (ev_rg1 (ev_one (ev_bin (ev_len rfl (by omega)) rfl rfl)) (by omega)) rfl (by show 7 < 11; decide) (fun d hd => by
      obtain ⟨i, _, rfl⟩ := List.mem_map.mp hd
      exact ev_sl rfl rfl (ev_part rfl) (d_cut ht (by decide) none (some (i : Int)))) (by rw [List.length_map, List.length_range]; omega)
  have hA : ((List.range ((t.length : Int) + 1).toNat).map fun (k : Nat) => D.int (k : Int)).map (fun d => match d with | .int i => D.str (cutS t none (some i)) | _ => .non) = ((List.range ((t.length : Int) + 1).toNat).map fun (k : Nat) => cutS t none (some (k : Int))).map D.str := by
    rw [List.map_map, List.map_map]; rfl
  rw [hA] at hcut
  have hAl : ((List.range ((t.length : Int) + 1).toNat).map fun (k : Nat) => cutS t none (some (k : Int))).length ≤ 1001 := by
    rw [List.length_map, List.length_range]; omega
  have hAt : ∀ s ∈ ((List.range ((t.length : Int) + 1).toNat).map fun (k : Nat) => cutS t none (some (k : Int))), Tb 10000 s := by
    intro s hs
    obtain ⟨i, _, rfl⟩ := List.mem_map.mp hs
    exact (ht.cut _ _).mono (by decide)
  generalize ((List.range ((t.length : Int) + 1).toNat).map fun (k : Nat) => cutS t none (some (k : Int))) = A at hcut hAl hAt
  have addL : ∀ {X Y : List Str}, X.length + Y.length ≤ 2000 → dAdd (.lst (X.map D.str)) (.lst (Y.map D.str)) = some (.lst ((X ++ Y).map D.str)) := by
    intro X Y h
    have : (X.map D.str).length + (Y.map D.str).length ≤ sizeLine := by rw [List.length_map, List.length_map]; omega
    simp only [dAdd, okB, decide_eq_true this, if_pos, List.map_append]
  have d1 := addL (X := A) (Y := S1) (by omega)
  have d2 := addL (X := A ++ S1) (Y := S2) (by rw [List.length_append]; omega)
  have hiter : mIL (mBin dAdd (mBin dAdd (mComp [7] (mRg1 (mCons (mBin dAdd (mCB dLen (mCons (mVar 5) mNil)) (mC (.int 1))) mNil)) (bName 7) mYes (mSl dSl (mVar 5) mNo (mPart (mVar 7)))) (mCallO 2 1 g__law_texts (mCons (mVar 5) mNil))) (mCallO 2 1 g__law_texts (mCons (mVar 5) mNil))) es2 = .ok ((A ++ S1 ++ S2).map D.str, [.dat (.scr ns), .dat (.int k), .own l4, .dat (.lst (es.map (·.2))), .un, .dat (.str t), x6, .un, x8, x9, x10]) :=
    ev_iL (ev_bin (ev_bin hcut (ev_callOL (es2 := [.dat (.scr ns), .dat (.int k), .own l3, .dat (.lst (es.map (·.2))), .un, .dat (.str t), x6, .un, x8, x9, x10]) rfl (ev_one rfl) rfl rfl e1) d1) (ev_callOL rfl (ev_one rfl) rfl rfl e2) d2)
  obtain ⟨y6, y8, y9, hone⟩ := one_loop (A ++ S1 ++ S2) (.dat (.scr ns)) (.dat (.int k)) (.own l4) (.dat (.lst (es.map (·.2)))) .un (.dat (.str t)) x6 .un x8 x9 x10 (fun s hs => by
    rcases List.mem_append.mp hs with h | h
    · rcases List.mem_append.mp h with h | h
      · exact (hAt s h).tx (by decide)
      · exact (a1 s h).tx (by decide)
    · exact (a2 s h).tx (by decide))
  have hread := e_read t (ht.tx (by decide))
  have hrd : rdD t = .lst (es.map (·.2)) := by
    unfold rdD
    rw [hb]
    rfl
  rw [hrd] at hread
  have hself : dNe (.lst (es.map (·.2))) (.lst (es.map (·.2))) = some (.bl false) := lst_self fun d hd => by
    obtain ⟨p, hp, rfl⟩ := List.mem_map.mp hd
    exact ⟨(hok p hp).nice, (hok p hp).dep⟩
  obtain ⟨y10, hodd⟩ := odd_loop [.non, .int 5, .lst [.str ("ann" : Str)], .tup []] (.dat (.scr ns)) (.dat (.int k)) (.own l4) (.dat (.lst (es.map (·.2)))) .un (.dat (.str t)) y6 .un y8 y9 x10 (fun d hd => by
    simp only [List.mem_cons, List.not_mem_nil, or_false] at hd
    rcases hd with rfl | rfl | rfl | rfl <;> rfl)
  have s6 : mIL (mLst (mCons (mC .non) (mCons (mC (.int 5)) (mCons (mLst (mCons (mC (.str "ann")) mNil)) (mCons (mTup mNil) mNil))))) [.dat (.scr ns), .dat (.int k), .own l4, .dat (.lst (es.map (·.2))), .un, .dat (.str t), y6, .un, y8, y9, x10] = .ok ([.non, .int 5, .lst [.str ("ann" : Str)], .tup []], [.dat (.scr ns), .dat (.int k), .own l4, .dat (.lst (es.map (·.2))), .un, .dat (.str t), y6, .un, y8, y9, x10]) :=
    ev_iL (ev_lst (ev_cons rfl (ev_cons rfl (ev_cons (ev_lst (ev_one rfl) (sz 1 (by decide))) (ev_one (ev_tup rfl (sz 0 (by decide))))))) (sz 4 (by decide)))
  refine ⟨.own l4, .dat (.lst (es.map (·.2))), .dat (.str t), y6, y8, y9, y10, ?_⟩
  exact ev_seq s1 (ev_seq (ev_set s2) (ev_seq (ev_set (ev_call (ev_one rfl) rfl s3)) (ev_seq (ev_for hiter hone) (ev_seq (ev_if_f (ev_tst (ev_bin (ev_call (ev_one rfl) rfl hread) rfl hself)) rfl) (ev_for s6 hodd)))))
theorem turns (ns : List Int) : ∀ (ks : List Nat) (x1 x2 x3 x5 x6 x8 x9 x10 : Sl), (∀ k ∈ ks, k ≤ 100) → ∃ es', loopM (bName 1) turnBody (ks.map fun (k : Nat) => D.int (k : Int)) [.dat (.scr ns), x1, x2, x3, .un, x5, x6, .un, x8, x9, x10] = .ok (.nx, es')
  | [], x1, x2, x3, x5, x6, x8, x9, x10, _ => ⟨_, rfl⟩
  | k :: ks, x1, x2, x3, x5, x6, x8, x9, x10, h => by
    have hk := h k List.mem_cons_self
    obtain ⟨y2, y3, y5, y6, y8, y9, y10, ht⟩ := turn ns (k : Int) (by omega) (by omega) x2 x3 x5 x6 x8 x9 x10
    obtain ⟨es', ih⟩ := turns ns ks (.dat (.int (k : Int))) y2 y3 y5 y6 y8 y9 y10 fun z hz => h z (List.mem_cons_of_mem _ hz)
    exact ⟨es', ev_l_cons (es1 := [.dat (.scr ns), .dat (.int (k : Int)), x2, x3, .un, x5, x6, .un, x8, x9, x10]) rfl ht ih⟩
theorem law_true (ns : List Int) (h : ns.length ≤ 63) : g_law [.scr ns] = .ok (.bl true) := by
  have hr : ∃ j : Int, 0 ≤ j ∧ j ≤ 63 ∧ mCB dMax (mCons (mC (.int 1)) (mCons (mCB dMin (mCons (mCB dLen (mCons (mVar 0) mNil)) (mCons (mC (.int 2)) mNil))) mNil)) [.dat (.scr ns), .un, .un, .un, .un, .un, .un, .un, .un, .un, .un] = .ok (.int j, [.dat (.scr ns), .un, .un, .un, .un, .un, .un, .un, .un, .un, .un]) := by
    refine ⟨_, ?_, ?_, ev_cb (ev_cons rfl (ev_one (ev_cb (ev_cons (ev_cb (ev_one rfl) rfl) (ev_one rfl)) rfl))) rfl⟩ <;> (split <;> split <;> omega)
  obtain ⟨j, j0, j1, hj⟩ := hr
  obtain ⟨es', hl⟩ := turns ns (List.range j.toNat) .un .un .un .un .un .un .un .un (fun k hk => by have := List.mem_range.mp hk; omega)
  exact ev_fn (ev_seq (ev_for (ev_rg1 (ev_one hj) (by omega)) hl) (ev_ret rfl))
end G
namespace G
open PySem PySem.Spec PyProof.Rows L2 Mi
def topS (i : Nat) : Stmt := PySem.Challenge.pw_ringtolls_k82_whole_cuts_recovered.main.body.getD i (.Pass ⟨0, 0, 0, 0⟩)
structure Txt (P : Program) (K : PySem.W.Frag) (mg : Str → Option Value) (cl : Nat → Addr) (Dd fI cc cda : Addr) : Prop where
  b_ValueError : mg "ValueError" = none
  b_all : mg "all" = none
  b_bool : mg "bool" = none
  b_enumerate : mg "enumerate" = none
  b_int : mg "int" = none
  b_isinstance : mg "isinstance" = none
  b_len : mg "len" = none
  b_list : mg "list" = none
  b_max : mg "max" = none
  b_min : mg "min" = none
  b_ord : mg "ord" = none
  b_range : mg "range" = none
  b_str : mg "str" = none
  b_tuple : mg "tuple" = none
  c_CHECKS : ∃ tk, mg "CHECKS" = some (.int 9973 tk)
  c_FIGURES : ∃ tk, mg "FIGURES" = some (.str (PySem.Str.ofString "0123456789") tk)
  c_FIRST_CHECK : ∃ tk, mg "FIRST_CHECK" = some (.int 7 tk)
  c_LETTERS : ∃ tk, mg "LETTERS" = some (.str (PySem.Str.ofString "abcdefghijklmnopqrstuvwxyz") tk)
  c_MOST_FIGURES : ∃ tk, mg "MOST_FIGURES" = some (.int 31 tk)
  c_MOST_MESSAGES : ∃ tk, mg "MOST_MESSAGES" = some (.int 9 tk)
  c_MOST_VALUE : ∃ tk, mg "MOST_VALUE" = some (.int 1000000000000000 tk)
  c_MOST_WORD : ∃ tk, mg "MOST_WORD" = some (.int 8 tk)
  c_MOST_WORK : ∃ tk, mg "MOST_WORK" = some (.int 99 tk)
  base : RoomX.BaseTxt P K mg Dd fI cc cda
  x_BadEntries : RoomX.ClsTxt K (cl 0) Dd fI
  g_BadEntries : mg "BadEntries" = some (.ref (cl 0))
  m_BadEntries : PySem.W.exmOne K (.ref (cl 0)) (.ref (cl 0)) = some true
  x_BadJournal : RoomX.ClsTxt K (cl 1) Dd fI
  g_BadJournal : mg "BadJournal" = some (.ref (cl 1))
  m_BadJournal : PySem.W.exmOne K (.ref (cl 1)) (.ref (cl 1)) = some true
  e_BadJournal : ExcC K (cl 1)
  k_BadJournal : PySem.W.kitOne K (.ref (cl 1)) (.type "ValueError") = some true
section
variable {P : Program} {w : World} {K : PySem.W.Frag} {mg : Str → Option Value} {base : Heap} {cl : Nat → Addr} {Dd fI cc cda : Addr}
theorem sc_is_integer : FnScope ["thing"] ["thing"] (defScope (topS 9)) := ⟨rfl, rfl, rfl, by decide +kernel, rfl, by decide +kernel, by decide +kernel⟩
theorem ok_is_integer (T : Txt P K mg cl Dd fI cc cda)  {f : Addr} {fd : FuncData} (Fn : Fun K "is_integer" "is_integer" (topS 9) f fd) (gm : mg "is_integer" = some (.ref f)) (bd : Binds K fd ["thing"] []) :
    Fact P w K mg base "is_integer" 1 ["thing"] (spM K cl g_is_integer 1) :=
  fact_mk (N := ["thing"]) (m := m_is_integer) Fn gm bd sc_is_integer fun cdv A outer s H E hr => ⟨_, by
    have nd := sc_is_integer.nd
    exact (xb_one (xs_ret (x_and (x_isa .int (x_var 0) T.b_isinstance T.b_int (by decide +kernel)) (x_one (x_not (x_isa .bool (x_var 0) T.b_isinstance T.b_bool (by decide +kernel)))))))⟩
theorem sc_is_word : FnScope ["thing", "sign"] ["thing"] (defScope (topS 10)) := ⟨rfl, rfl, rfl, by decide +kernel, rfl, by decide +kernel, by decide +kernel⟩
theorem ok_is_word (T : Txt P K mg cl Dd fI cc cda)  {f : Addr} {fd : FuncData} (Fn : Fun K "is_word" "is_word" (topS 10) f fd) (gm : mg "is_word" = some (.ref f)) (bd : Binds K fd ["thing"] []) :
    Fact P w K mg base "is_word" 1 ["thing"] (spM K cl g_is_word 1) :=
  fact_mk (N := ["thing", "sign"]) (m := m_is_word) Fn gm bd sc_is_word fun cdv A outer s H E hr => ⟨_, by
    have nd := sc_is_word.nd
    exact (xb_one (xs_ret (x_and (x_isa .str (x_var 0) T.b_isinstance T.b_str (by decide +kernel)) (x_and (x_chn op_le sim_le op_le sim_le x_int (x_cb call_len sim_len T.b_len PySem.boot_len (xa_cons (x_var 0) xa_nil)) (x_gI T.c_MOST_WORD)) (x_one (x_cb (cr_all rfl) sim_all T.b_all PyProof.Rows.boot_all (xa_cons (x_lc (own := [("sign", 1)]) rfl nd (xi_S (x_var 0)) (blkOk_by (own := [("sign", 1)]) (by show L2.blkC (["thing", "sign"].map PySem.Str.ofString) (L2.defScope (topS 10)) _ _ = true; decide +kernel)) (fun _ _ _ _ _ => (xg_name 1 nd)) (by decide) (fun _ _ _ _ _ => xts_nil) (fun _ _ _ _ _ => (x_cmp (r := rInD K) op_inD sim_in (x_var 1) (x_gS T.c_LETTERS)))) xa_nil)))))))⟩
theorem sc_is_between : FnScope ["thing", "least", "most"] ["thing", "least", "most"] (defScope (topS 11)) := ⟨rfl, rfl, rfl, by decide +kernel, rfl, by decide +kernel, by decide +kernel⟩
theorem ok_is_between (T : Txt P K mg cl Dd fI cc cda) (h_is_integer : Fact P w K mg base "is_integer" 1 ["thing"] (spM K cl g_is_integer 1)) {f : Addr} {fd : FuncData} (Fn : Fun K "is_between" "is_between" (topS 11) f fd) (gm : mg "is_between" = some (.ref f)) (bd : Binds K fd ["thing", "least", "most"] []) :
    Fact P w K mg base "is_between" 2 ["thing", "least", "most"] (spM K cl g_is_between 3) :=
  fact_mk (N := ["thing", "least", "most"]) (m := m_is_between) Fn gm bd sc_is_between fun cdv A outer s H E hr => ⟨_, by
    have nd := sc_is_between.nd
    exact (xb_one (xs_ret (x_and (x_callK h_is_integer (hr.mono (show 1 ≤ 1 by decide)) passX (xa_cons (x_var 0) xa_nil)) (x_one (x_chn op_le sim_le op_le sim_le (x_var 1) (x_var 0) (x_var 2))))))⟩
theorem sc_number_in : FnScope ["text", "sign"] ["text"] (defScope (topS 12)) := ⟨rfl, rfl, rfl, by decide +kernel, rfl, by decide +kernel, by decide +kernel⟩
theorem ok_number_in (T : Txt P K mg cl Dd fI cc cda)  {f : Addr} {fd : FuncData} (Fn : Fun K "number_in" "number_in" (topS 12) f fd) (gm : mg "number_in" = some (.ref f)) (bd : Binds K fd ["text"] []) :
    Fact P w K mg base "number_in" 1 ["text"] (spM K cl g_number_in 1) :=
  fact_mk (N := ["text", "sign"]) (m := m_number_in) Fn gm bd sc_number_in fun cdv A outer s H E hr => ⟨_, by
    have nd := sc_number_in.nd
    exact (xb_cons (xs_if (xt_w (xw_or (xt_not (xt_tru (x_isa .str (x_var 0) T.b_isinstance T.b_str (by decide +kernel)))) (xw_or (xt_not (xt_chn op_le sim_le op_le sim_le x_int (x_cb call_len sim_len T.b_len PySem.boot_len (xa_cons (x_var 0) xa_nil)) (x_gI T.c_MOST_FIGURES))) (xw_or1 (xt_not (xt_tru (x_cb (cr_all rfl) sim_all T.b_all PyProof.Rows.boot_all (xa_cons (x_lc (own := [("sign", 1)]) rfl nd (xi_S (x_var 0)) (blkOk_by (own := [("sign", 1)]) (by show L2.blkC (["text", "sign"].map PySem.Str.ofString) (L2.defScope (topS 12)) _ _ = true; decide +kernel)) (fun _ _ _ _ _ => (xg_name 1 nd)) (by decide) (fun _ _ _ _ _ => xts_nil) (fun _ _ _ _ _ => (x_cmp (r := rInD K) op_inD sim_in (x_var 1) (x_gS T.c_FIGURES)))) xa_nil)))))))) (xb_one (xs_ret x_non)) xb_nil)
      (xb_one (xs_ret (x_ife (xt_w (xw_or (xt_cmp (op_eqK hr.units) sim_eq (x_var 0) x_str) (xw_or1 (xt_cmp (op_neK hr.units) sim_ne (x_ixK K (x_var 0) x_int) x_str)))) (x_ct call_intD sim_int T.b_int (by decide +kernel) (xa_cons (x_var 0) xa_nil)) x_non))))⟩
theorem sc_is_value : FnScope ["thing"] ["thing"] (defScope (topS 19)) := ⟨rfl, rfl, rfl, by decide +kernel, rfl, by decide +kernel, by decide +kernel⟩
theorem ok_is_value (T : Txt P K mg cl Dd fI cc cda) (h_is_between : Fact P w K mg base "is_between" 2 ["thing", "least", "most"] (spM K cl g_is_between 3)) {f : Addr} {fd : FuncData} (Fn : Fun K "is_value" "is_value" (topS 19) f fd) (gm : mg "is_value" = some (.ref f)) (bd : Binds K fd ["thing"] []) :
    Fact P w K mg base "is_value" 3 ["thing"] (spM K cl g_is_value 1) :=
  fact_mk (N := ["thing"]) (m := m_is_value) Fn gm bd sc_is_value fun cdv A outer s H E hr => ⟨_, by
    have nd := sc_is_value.nd
    exact (xb_one (xs_ret (x_callK h_is_between (hr.mono (show 2 ≤ 2 by decide)) passX (xa_cons (x_var 0) (xa_cons x_int (xa_cons (x_gI T.c_MOST_VALUE) xa_nil))))))⟩
theorem sc_is_entry : FnScope ["thing", "value"] ["thing"] (defScope (topS 20)) := ⟨rfl, rfl, rfl, by decide +kernel, rfl, by decide +kernel, by decide +kernel⟩
theorem ok_is_entry (T : Txt P K mg cl Dd fI cc cda) (h_is_word : Fact P w K mg base "is_word" 1 ["thing"] (spM K cl g_is_word 1)) (h_is_between : Fact P w K mg base "is_between" 2 ["thing", "least", "most"] (spM K cl g_is_between 3)) (h_is_value : Fact P w K mg base "is_value" 3 ["thing"] (spM K cl g_is_value 1)) {f : Addr} {fd : FuncData} (Fn : Fun K "is_entry" "is_entry" (topS 20) f fd) (gm : mg "is_entry" = some (.ref f)) (bd : Binds K fd ["thing"] []) :
    Fact P w K mg base "is_entry" 4 ["thing"] (spM K cl g_is_entry 1) :=
  fact_mk (N := ["thing", "value"]) (m := m_is_entry) Fn gm bd sc_is_entry fun cdv A outer s H E hr => ⟨_, by
    have nd := sc_is_entry.nd
    exact (xb_cons (xs_if (xt_w (xw_or (xt_not (xt_tru (x_isa .tuple (x_var 0) T.b_isinstance T.b_tuple (by decide +kernel)))) (xw_or (xt_cmp (op_neK hr.units) sim_ne (x_cb call_len sim_len T.b_len PySem.boot_len (xa_cons (x_var 0) xa_nil)) x_int) (xw_or1 (xt_not (xt_tru (x_callK h_is_word (hr.mono (show 1 ≤ 3 by decide)) passX (xa_cons (x_ixK K (x_var 0) x_int) xa_nil)))))))) (xb_one (xs_ret x_bl)) xb_nil)
      (xb_cons (xs_if (xt_w (xw_or (xt_not (xt_tru (x_isa .str (x_ixK K (x_var 0) x_int) T.b_isinstance T.b_str (by decide +kernel)))) (xw_or1 (xt_not (xt_tru (x_isa .tuple (x_ixK K (x_var 0) x_int) T.b_isinstance T.b_tuple (by decide +kernel))))))) (xb_one (xs_ret x_bl)) xb_nil)
      (xb_cons (xs_if (xt_cmp (op_eqK hr.units) sim_eq (x_ixK K (x_var 0) x_int) x_str) (xb_one (xs_ret (x_and (x_callK h_is_between (hr.mono (show 2 ≤ 3 by decide)) passX (xa_cons (x_ixK K (x_var 0) x_int) (xa_cons x_int (xa_cons (x_gI T.c_MOST_WORK) xa_nil)))) (x_one (x_cmp (op_eqK hr.units) sim_eq (x_ixK K (x_var 0) x_int) (x_tup xa_nil)))))) xb_nil)
      (xb_cons (xs_if (xt_w (xw_or (xt_cmp (r := rNinD K) op_ninD sim_nin (x_ixK K (x_var 0) x_int) (x_tup (xa_cons x_str (xa_cons x_str xa_nil)))) (xw_or1 (xt_not (xt_tru (x_callK h_is_word (hr.mono (show 1 ≤ 3 by decide)) passX (xa_cons (x_ixK K (x_var 0) x_int) xa_nil))))))) (xb_one (xs_ret x_bl)) xb_nil)
      (xb_one (xs_ret (x_and (x_chn op_le sim_le op_le sim_le x_int (x_cb call_len sim_len T.b_len PySem.boot_len (xa_cons (x_ixK K (x_var 0) x_int) xa_nil)) (x_gI T.c_MOST_MESSAGES)) (x_one (x_cb (cr_all rfl) sim_all T.b_all PyProof.Rows.boot_all (xa_cons (x_lc (own := [("value", 1)]) rfl nd (xi_T (x_ixK K (x_var 0) x_int)) (blkOk_by (own := [("value", 1)]) (by show L2.blkC (["thing", "value"].map PySem.Str.ofString) (L2.defScope (topS 20)) _ _ = true; decide +kernel)) (fun _ _ _ _ _ => (xg_name 1 nd)) (by decide) (fun _ _ _ _ _ => xts_nil) (fun _ _ _ _ _ => (x_callK h_is_value (hr.mono (show 3 ≤ 3 by decide)) passL (xa_cons (x_var 1) xa_nil)))) xa_nil))))))))))⟩
theorem sc_check_behind : FnScope ["check", "text", "found", "sign", "total"] ["check", "text"] (defScope (topS 21)) := ⟨rfl, rfl, rfl, by decide +kernel, rfl, by decide +kernel, by decide +kernel⟩
theorem ok_check_behind (T : Txt P K mg cl Dd fI cc cda)  {f : Addr} {fd : FuncData} (Fn : Fun K "check_behind" "check_behind" (topS 21) f fd) (gm : mg "check_behind" = some (.ref f)) (bd : Binds K fd ["check", "text"] []) :
    Fact P w K mg base "check_behind" 1 ["check", "text"] (spM K cl g_check_behind 2) :=
  fact_mk (N := ["check", "text", "found", "sign", "total"]) (m := m_check_behind) Fn gm bd sc_check_behind fun cdv A outer s H E hr => ⟨_, by
    have nd := sc_check_behind.nd
    exact (xb_cons (xs_set 2 nd (x_var 0))
      (xb_cons (xs_for pownX rfl (xi_S (x_var 1)) (xg_name 3 nd) (xb_cons (xs_set 4 nd (x_bin op_addD sim_add (x_bin op_mulD sim_mul (x_var 2) x_int) (x_cb call_ord sim_ord T.b_ord PyProof.Rows.boot_ord (xa_cons (x_var 3) xa_nil))))
      (xb_one (xs_set 2 nd (x_bin op_sub sim_sub (x_var 4) (x_bin op_mulD sim_mul (x_bin op_fdivW sim_div (x_var 4) (x_gI T.c_CHECKS)) (x_gI T.c_CHECKS)))))))
      (xb_one (xs_ret (x_var 2)))))⟩
theorem sc_entry_text : FnScope ["entry", "process", "word", "name", "values", "value"] ["entry"] (defScope (topS 22)) := ⟨rfl, rfl, rfl, by decide +kernel, rfl, by decide +kernel, by decide +kernel⟩
theorem ok_entry_text (T : Txt P K mg cl Dd fI cc cda)  {f : Addr} {fd : FuncData} (Fn : Fun K "entry_text" "entry_text" (topS 22) f fd) (gm : mg "entry_text" = some (.ref f)) (bd : Binds K fd ["entry"] []) :
    Fact P w K mg base "entry_text" 1 ["entry"] (spM K cl g_entry_text 1) :=
  fact_mk (N := ["entry", "process", "word", "name", "values", "value"]) (m := m_entry_text) Fn gm bd sc_entry_text fun cdv A outer s H E hr => ⟨_, by
    have nd := sc_entry_text.nd
    exact (xb_cons (xs_asg (x_var 0) (xg_tup rfl (xgs_cons 1 nd (xgs_cons 2 nd (xgs_cons 3 nd (xgs_cons 4 nd xgs_nil)))) rfl))
      (xb_one (xs_ret (x_join x_str (x_bin op_addD sim_add (x_lst (xa_cons (x_var 1) (xa_cons (x_var 2) (xa_cons (x_ct call_strD sim_str T.b_str (by decide +kernel) (xa_cons (x_var 3) xa_nil)) xa_nil)))) (x_lc (own := [("value", 5)]) rfl nd (xi_T (x_var 4)) (blkOk_by (own := [("value", 5)]) (by show L2.blkC (["entry", "process", "word", "name", "values", "value"].map PySem.Str.ofString) (L2.defScope (topS 22)) _ _ = true; decide +kernel)) (fun _ _ _ _ _ => (xg_name 5 nd)) (by decide) (fun _ _ _ _ _ => xts_nil) (fun _ _ _ _ _ => (x_ct call_strD sim_str T.b_str (by decide +kernel) (xa_cons (x_var 5) xa_nil)))))))))⟩
theorem sc_write_journal : FnScope ["entries", "entry", "check", "found", "text"] ["entries"] (defScope (topS 23)) := ⟨rfl, rfl, rfl, by decide +kernel, rfl, by decide +kernel, by decide +kernel⟩
theorem ok_write_journal (T : Txt P K mg cl Dd fI cc cda) (h_is_entry : Fact P w K mg base "is_entry" 4 ["thing"] (spM K cl g_is_entry 1)) (h_entry_text : Fact P w K mg base "entry_text" 1 ["entry"] (spM K cl g_entry_text 1)) (h_check_behind : Fact P w K mg base "check_behind" 1 ["check", "text"] (spM K cl g_check_behind 2)) {f : Addr} {fd : FuncData} (Fn : Fun K "write_journal" "write_journal" (topS 23) f fd) (gm : mg "write_journal" = some (.ref f)) (bd : Binds K fd ["entries"] []) :
    Fact P w K mg base "write_journal" 5 ["entries"] (spM K cl g_write_journal 1) :=
  fact_mk (N := ["entries", "entry", "check", "found", "text"]) (m := m_write_journal) Fn gm bd sc_write_journal fun cdv A outer s H E hr => ⟨_, by
    have nd := sc_write_journal.nd
    exact (xb_cons (xs_if (xt_w (xw_or (xt_not (xt_tru (x_isa2 .list .tuple (x_var 0) T.b_isinstance T.b_list (by decide +kernel) T.b_tuple (by decide +kernel)))) (xw_or1 (xt_not (xt_tru (x_cb (cr_all rfl) sim_all T.b_all PyProof.Rows.boot_all (xa_cons (x_lc (own := [("entry", 1)]) rfl nd (xi_L (x_var 0)) (blkOk_by (own := [("entry", 1)]) (by show L2.blkC (["entries", "entry", "check", "found", "text"].map PySem.Str.ofString) (L2.defScope (topS 23)) _ _ = true; decide +kernel)) (fun _ _ _ _ _ => (xg_name 1 nd)) (by decide) (fun _ _ _ _ _ => xts_nil) (fun _ _ _ _ _ => (x_callK h_is_entry (hr.mono (show 4 ≤ 4 by decide)) passL (xa_cons (x_var 1) xa_nil)))) xa_nil))))))) (xb_one (xs_raise 0 rfl T.base T.x_BadEntries T.g_BadEntries rfl hr takesX (x_var 0))) xb_nil)
      (xb_cons (xs_parO 2 3 rfl nd (x_gI T.c_FIRST_CHECK))
      (xb_cons (xs_for pownX rfl (xi_L (x_var 0)) (xg_name 1 nd) (xb_cons (xs_set 4 nd (x_callK h_entry_text (hr.mono (show 1 ≤ 4 by decide)) passX (xa_cons (x_var 1) xa_nil)))
      (xb_cons (xs_set 2 nd (x_callK h_check_behind (hr.mono (show 1 ≤ 4 by decide)) passX (xa_cons (x_var 2) (xa_cons (x_var 4) xa_nil))))
      (xb_one (xs_expr (x_app 3 (x_fs (.cons (x_fmt (x_var 4)) (.cons x_str (.cons (x_fmt (x_var 2)) (.cons x_str .nil)))))))))))
      (xb_one (xs_ret (x_join x_str (x_var 3)))))))⟩
theorem sc_entry_in : FnScope ["text", "words", "name", "entry", "word"] ["text"] (defScope (topS 24)) := ⟨rfl, rfl, rfl, by decide +kernel, rfl, by decide +kernel, by decide +kernel⟩
theorem ok_entry_in (T : Txt P K mg cl Dd fI cc cda) (h_number_in : Fact P w K mg base "number_in" 1 ["text"] (spM K cl g_number_in 1)) (h_is_entry : Fact P w K mg base "is_entry" 4 ["thing"] (spM K cl g_is_entry 1)) (h_entry_text : Fact P w K mg base "entry_text" 1 ["entry"] (spM K cl g_entry_text 1)) {f : Addr} {fd : FuncData} (Fn : Fun K "entry_in" "entry_in" (topS 24) f fd) (gm : mg "entry_in" = some (.ref f)) (bd : Binds K fd ["text"] []) :
    Fact P w K mg base "entry_in" 5 ["text"] (spM K cl g_entry_in 1) :=
  fact_mk (N := ["text", "words", "name", "entry", "word"]) (m := m_entry_in) Fn gm bd sc_entry_in fun cdv A outer s H E hr => ⟨_, by
    have nd := sc_entry_in.nd
    exact (xb_cons (xs_set 1 nd (x_split (x_var 0) x_str))
      (xb_cons (xs_if (xt_cmp op_lt sim_lt (x_cb call_len sim_len T.b_len PySem.boot_len (xa_cons (x_var 1) xa_nil)) x_int) (xb_one (xs_ret x_non)) xb_nil)
      (xb_cons (xs_set 2 nd (x_ife (xt_cmp (op_eqK hr.units) sim_eq (x_ixK K (x_var 1) x_int) x_str) (x_callK h_number_in (hr.mono (show 1 ≤ 4 by decide)) passX (xa_cons (x_ixK K (x_var 1) x_int) xa_nil)) (x_ixK K (x_var 1) x_int)))
      (xb_cons (xs_set 3 nd (x_tup (xa_cons (x_ixK K (x_var 1) x_int) (xa_cons (x_ixK K (x_var 1) x_int) (xa_cons (x_var 2) (xa_cons (x_ct call_tuple_of sim_tuple T.b_tuple (by decide +kernel) (xa_cons (x_lc (own := [("word", 4)]) rfl nd (xi_L (x_sliceK K (x_var 1) (xo_some x_int) xo_none)) (blkOk_by (own := [("word", 4)]) (by show L2.blkC (["text", "words", "name", "entry", "word"].map PySem.Str.ofString) (L2.defScope (topS 24)) _ _ = true; decide +kernel)) (fun _ _ _ _ _ => (xg_name 4 nd)) (by decide) (fun _ _ _ _ _ => xts_nil) (fun _ _ _ _ _ => (x_callK h_number_in (hr.mono (show 1 ≤ 4 by decide)) passL (xa_cons (x_var 4) xa_nil)))) xa_nil)) xa_nil))))))
      (xb_one (xs_ret (x_ife (xt_w (xw_and (xt_tru (x_callK h_is_entry (hr.mono (show 4 ≤ 4 by decide)) passX (xa_cons (x_var 3) xa_nil))) (xw_and1 (xt_cmp (op_eqK hr.units) sim_eq (x_callK h_entry_text (hr.mono (show 1 ≤ 4 by decide)) passX (xa_cons (x_var 3) xa_nil)) (x_var 0))))) (x_var 3) x_non)))))))⟩
theorem sc_read_lines : FnScope ["text", "lines", "check", "found", "index", "line", "head", "space", "tail", "entry"] ["text"] (defScope (topS 25)) := ⟨rfl, rfl, rfl, by decide +kernel, rfl, by decide +kernel, by decide +kernel⟩
theorem ok_read_lines (T : Txt P K mg cl Dd fI cc cda) (h_entry_in : Fact P w K mg base "entry_in" 5 ["text"] (spM K cl g_entry_in 1)) (h_check_behind : Fact P w K mg base "check_behind" 1 ["check", "text"] (spM K cl g_check_behind 2)) {f : Addr} {fd : FuncData} (Fn : Fun K "read_lines" "read_lines" (topS 25) f fd) (gm : mg "read_lines" = some (.ref f)) (bd : Binds K fd ["text"] []) :
    Fact P w K mg base "read_lines" 6 ["text"] (spM K cl g_read_lines 1) :=
  fact_mk (N := ["text", "lines", "check", "found", "index", "line", "head", "space", "tail", "entry"]) (m := m_read_lines) Fn gm bd sc_read_lines fun cdv A outer s H E hr => ⟨_, by
    have nd := sc_read_lines.nd
    exact (xb_cons (xs_set 1 nd (x_split (x_var 0) x_str))
      (xb_cons (xs_parO 2 3 rfl nd (x_gI T.c_FIRST_CHECK))
      (xb_cons (xs_for pownX rfl (xi_en T.b_enumerate (xa_cons (x_sliceK K (x_var 1) xo_none (xo_some (x_un un_neg sim_neg x_int))) xa_nil)) (xg_tup rfl (xgs_cons 4 nd (xgs_cons 5 nd xgs_nil)) rfl) (xb_cons (xs_asg (x_rpart (x_var 5) x_str) (xg_tup rfl (xgs_cons 6 nd (xgs_cons 7 nd (xgs_cons 8 nd xgs_nil))) rfl))
      (xb_cons (xs_set 9 nd (x_callK h_entry_in (hr.mono (show 5 ≤ 5 by decide)) passX (xa_cons (x_var 6) xa_nil)))
      (xb_cons (xs_set 2 nd (x_callK h_check_behind (hr.mono (show 1 ≤ 5 by decide)) passX (xa_cons (x_var 2) (xa_cons (x_var 6) xa_nil))))
      (xb_cons (xs_if (xt_w (xw_or (xt_cmp op_isN sim_is (x_var 9) x_non) (xw_or1 (xt_cmp (op_neK hr.units) sim_ne (x_var 8) (x_ct call_strD sim_str T.b_str (by decide +kernel) (xa_cons (x_var 2) xa_nil)))))) (xb_one (xs_ret (x_tup (xa_cons (x_var 3) (xa_cons (x_var 4) xa_nil))))) xb_nil)
      (xb_one (xs_expr (x_app 3 (x_var 9)))))))))
      (xb_one (xs_ret (x_tup (xa_cons (x_var 3) (xa_cons (x_ife (xt_cmp (op_eqK hr.units) sim_eq (x_ixK K (x_var 1) (x_un un_neg sim_neg x_int)) x_str) x_non (x_bin op_sub sim_sub (x_cb call_len sim_len T.b_len PySem.boot_len (xa_cons (x_var 1) xa_nil)) x_int)) xa_nil))))))))⟩
theorem sc_read_journal : FnScope ["text", "found", "wrong"] ["text"] (defScope (topS 26)) := ⟨rfl, rfl, rfl, by decide +kernel, rfl, by decide +kernel, by decide +kernel⟩
theorem ok_read_journal (T : Txt P K mg cl Dd fI cc cda) (h_read_lines : Fact P w K mg base "read_lines" 6 ["text"] (spM K cl g_read_lines 1)) {f : Addr} {fd : FuncData} (Fn : Fun K "read_journal" "read_journal" (topS 26) f fd) (gm : mg "read_journal" = some (.ref f)) (bd : Binds K fd ["text"] []) :
    Fact P w K mg base "read_journal" 7 ["text"] (spM K cl g_read_journal 1) :=
  fact_mk (N := ["text", "found", "wrong"]) (m := m_read_journal) Fn gm bd sc_read_journal fun cdv A outer s H E hr => ⟨_, by
    have nd := sc_read_journal.nd
    exact (xb_cons (xs_if (xt_not (xt_tru (x_isa .str (x_var 0) T.b_isinstance T.b_str (by decide +kernel)))) (xb_one (xs_raise 1 rfl T.base T.x_BadJournal T.g_BadJournal rfl hr takesX x_int)) xb_nil)
      (xb_cons (xs_asg (x_callK h_read_lines (hr.mono (show 6 ≤ 6 by decide)) passX (xa_cons (x_var 0) xa_nil)) (xg_tup rfl (xgs_cons 1 nd (xgs_cons 2 nd xgs_nil)) rfl))
      (xb_cons (xs_if (xt_cmp op_notN sim_isn (x_var 2) x_non) (xb_one (xs_raise 1 rfl T.base T.x_BadJournal T.g_BadJournal rfl hr takesX (x_var 2))) xb_nil)
      (xb_one (xs_ret (x_var 1))))))⟩
theorem sc_recover : FnScope ["text"] ["text"] (defScope (topS 27)) := ⟨rfl, rfl, rfl, by decide +kernel, rfl, by decide +kernel, by decide +kernel⟩
theorem ok_recover (T : Txt P K mg cl Dd fI cc cda) (h_read_lines : Fact P w K mg base "read_lines" 6 ["text"] (spM K cl g_read_lines 1)) {f : Addr} {fd : FuncData} (Fn : Fun K "recover" "recover" (topS 27) f fd) (gm : mg "recover" = some (.ref f)) (bd : Binds K fd ["text"] []) :
    Fact P w K mg base "recover" 7 ["text"] (spM K cl g_recover 1) :=
  fact_mk (N := ["text"]) (m := m_recover) Fn gm bd sc_recover fun cdv A outer s H E hr => ⟨_, by
    have nd := sc_recover.nd
    exact (xb_cons (xs_if (xt_not (xt_tru (x_isa .str (x_var 0) T.b_isinstance T.b_str (by decide +kernel)))) (xb_one (xs_raise 1 rfl T.base T.x_BadJournal T.g_BadJournal rfl hr takesX x_int)) xb_nil)
      (xb_one (xs_ret (x_ixK K (x_callK h_read_lines (hr.mono (show 6 ≤ 6 by decide)) passX (xa_cons (x_var 0) xa_nil)) x_int))))⟩
theorem sc__law_pool : FnScope ["script", "k", "cell", "seed"] ["script", "k"] (defScope (topS 29)) := ⟨rfl, rfl, rfl, by decide +kernel, rfl, by decide +kernel, by decide +kernel⟩
theorem ok__law_pool (T : Txt P K mg cl Dd fI cc cda)  {f : Addr} {fd : FuncData} (Fn : Fun K "_law_pool" "_law_pool" (topS 29) f fd) (gm : mg "_law_pool" = some (.ref f)) (bd : Binds K fd ["script", "k"] []) :
    Fact P w K mg base "_law_pool" 1 ["script", "k"] (spF K cl g__law_pool 2) :=
  factF_mk (N := ["script", "k", "cell", "seed"]) (m := m__law_pool) Fn gm bd sc__law_pool fun cdv A outer s H E hr => ⟨_, by
    have nd := sc__law_pool.nd
    exact (xf_cons (xs_set 2 nd (x_ife (xt_cmp op_lt sim_lt (x_var 1) (x_cb call_len sim_len T.b_len PySem.boot_len (xa_cons (x_var 0) xa_nil))) (x_ixK K (x_var 0) (x_var 1)) x_int))
      (xf_cons (xs_set 3 nd (x_bin op_mulD sim_mul (x_ct call_intD sim_int T.b_int (by decide +kernel) (xa_cons (x_bin op_addD sim_add (x_bin op_addD sim_add (x_bin op_mod sim_mod (x_ct call_intD sim_int T.b_int (by decide +kernel) (xa_cons (x_var 2) xa_nil)) x_int) (x_bin op_mulD sim_mul (x_bin op_mulD sim_mul x_int (x_var 1)) (x_var 1))) x_int) xa_nil)) x_int))
      (xf_ret (xa_cons (x_ife (xt_cmp op_ge sim_ge (x_var 2) (x_bin op_pow sim_pow x_int x_int)) (x_var 2) x_int) (xa_cons (x_bin op_addD sim_add (x_bin op_mod sim_mod (x_ct call_intD sim_int T.b_int (by decide +kernel) (xa_cons (x_var 3) xa_nil)) x_int) x_int) xa_nil)))))⟩
theorem sc__law_take : FnScope ["pool", "many", "found"] ["pool", "many"] (defScope (topS 30)) := ⟨rfl, rfl, rfl, by decide +kernel, rfl, by decide +kernel, by decide +kernel⟩
theorem ok__law_take (T : Txt P K mg cl Dd fI cc cda)  {f : Addr} {fd : FuncData} (Fn : Fun K "_law_take" "_law_take" (topS 30) f fd) (gm : mg "_law_take" = some (.ref f)) (bd : Binds K fd ["pool", "many"] []) :
    Fact P w K mg base "_law_take" 1 ["pool", "many"] (spO K cl g__law_take 1) :=
  factO_mk (N := ["pool", "many", "found"]) (m := m__law_take) Fn gm bd sc__law_take fun cdv A outer s H E hr => ⟨_, by
    have nd := sc__law_take.nd
    exact (xb_cons (xs_if (xt_cmp op_gt sim_gt (x_ixO 0 x_int) x_int) (xb_cons (xs_set 2 nd (x_bin op_mod sim_mod (x_ct call_intD sim_int T.b_int (by decide +kernel) (xa_cons (x_ixO 0 x_int) xa_nil)) (x_var 1)))
      (xb_cons (xs_setIx 0 x_int (x_bin op_fdivW sim_div (x_ixO 0 x_int) (x_var 1)))
      (xb_one (xs_ret (x_var 2))))) xb_nil)
      (xb_cons (xs_setIx 0 x_int (x_bin op_mod sim_mod (x_ct call_intD sim_int T.b_int (by decide +kernel) (xa_cons (x_bin op_addD sim_add (x_bin op_mulD sim_mul (x_ixO 0 x_int) x_int) x_int) xa_nil)) x_int))
      (xb_one (xs_ret (x_bin op_mod sim_mod (x_bin op_fdivW sim_div (x_bin op_mod sim_mod (x_ct call_intD sim_int T.b_int (by decide +kernel) (xa_cons (x_bin op_mulD sim_mul (x_ixO 0 x_int) (x_ixO 0 x_int)) xa_nil)) x_int) x_int) (x_var 1))))))⟩
theorem sc__law_entry : FnScope ["pool", "process", "channel", "values", "turn"] ["pool"] (defScope (topS 31)) := ⟨rfl, rfl, rfl, by decide +kernel, rfl, by decide +kernel, by decide +kernel⟩
theorem ok__law_entry (T : Txt P K mg cl Dd fI cc cda) (h__law_take : Fact P w K mg base "_law_take" 1 ["pool", "many"] (spO K cl g__law_take 1)) {f : Addr} {fd : FuncData} (Fn : Fun K "_law_entry" "_law_entry" (topS 31) f fd) (gm : mg "_law_entry" = some (.ref f)) (bd : Binds K fd ["pool"] []) :
    Fact P w K mg base "_law_entry" 2 ["pool"] (spO K cl g__law_entry 0) :=
  factO_mk (N := ["pool", "process", "channel", "values", "turn"]) (m := m__law_entry) Fn gm bd sc__law_entry fun cdv A outer s H E hr => ⟨_, by
    have nd := sc__law_entry.nd
    exact (xb_cons (xs_par 1 2 rfl nd (xa_cons (x_ixK K (x_lst (xa_cons x_str (xa_cons x_str (xa_cons x_str xa_nil)))) (x_callOK 0 h__law_take (hr.mono (show 1 ≤ 1 by decide)) passX (xa_cons x_int xa_nil))) (xa_cons (x_ixK K (x_lst (xa_cons x_str (xa_cons x_str (xa_cons x_str xa_nil)))) (x_callOK 0 h__law_take (hr.mono (show 1 ≤ 1 by decide)) passX (xa_cons x_int xa_nil))) xa_nil)))
      (xb_cons (xs_if (xt_cmp (op_eqK hr.units) sim_eq (x_callOK 0 h__law_take (hr.mono (show 1 ≤ 1 by decide)) passX (xa_cons x_int xa_nil)) x_int) (xb_one (xs_ret (x_tup (xa_cons (x_var 1) (xa_cons x_str (xa_cons (x_bin op_addD sim_add x_int (x_callOK 0 h__law_take (hr.mono (show 1 ≤ 1 by decide)) passX (xa_cons x_int xa_nil))) (xa_cons (x_tup xa_nil) xa_nil))))))) xb_nil)
      (xb_cons (xs_setO 3 nd xa_nil)
      (xb_cons (xs_for pownX rfl (xi_rg1 T.b_range (xa_cons (x_bin op_addD sim_add x_int (x_callOK 0 h__law_take (hr.mono (show 1 ≤ 1 by decide)) passX (xa_cons x_int xa_nil))) xa_nil)) (xg_name 4 nd) (xb_one (xs_expr (x_app 3 (x_ixK K (x_lst (xa_cons (x_callOK 0 h__law_take (hr.mono (show 1 ≤ 1 by decide)) passX (xa_cons x_int xa_nil)) (xa_cons (x_callOK 0 h__law_take (hr.mono (show 1 ≤ 1 by decide)) passX (xa_cons (x_bin op_addD sim_add (x_bin op_pow sim_pow x_int x_int) x_int) xa_nil)) xa_nil))) (x_callOK 0 h__law_take (hr.mono (show 1 ≤ 1 by decide)) passX (xa_cons x_int xa_nil)))))))
      (xb_one (xs_ret (x_tup (xa_cons (x_var 1) (xa_cons (x_ixK K (x_lst (xa_cons x_str (xa_cons x_str xa_nil))) (x_callOK 0 h__law_take (hr.mono (show 1 ≤ 1 by decide)) passX (xa_cons x_int xa_nil))) (xa_cons (x_var 2) (xa_cons (x_ct call_tuple_of sim_tuple T.b_tuple (by decide +kernel) (xa_cons (x_var 3) xa_nil)) xa_nil)))))))))))⟩
theorem sc__law_check : FnScope ["check", "text", "sign"] ["check", "text"] (defScope (topS 32)) := ⟨rfl, rfl, rfl, by decide +kernel, rfl, by decide +kernel, by decide +kernel⟩
theorem ok__law_check (T : Txt P K mg cl Dd fI cc cda)  {f : Addr} {fd : FuncData} (Fn : Fun K "_law_check" "_law_check" (topS 32) f fd) (gm : mg "_law_check" = some (.ref f)) (bd : Binds K fd ["check", "text"] []) :
    Fact P w K mg base "_law_check" 1 ["check", "text"] (spM K cl g__law_check 2) :=
  fact_mk (N := ["check", "text", "sign"]) (m := m__law_check) Fn gm bd sc__law_check fun cdv A outer s H E hr => ⟨_, by
    have nd := sc__law_check.nd
    exact (xb_cons (xs_for pownX rfl (xi_S (x_var 1)) (xg_name 2 nd) (xb_one (xs_set 0 nd (x_bin op_mod sim_mod (x_ct call_intD sim_int T.b_int (by decide +kernel) (xa_cons (x_bin op_addD sim_add (x_bin op_mulD sim_mul (x_var 0) x_int) (x_cb call_ord sim_ord T.b_ord PyProof.Rows.boot_ord (xa_cons (x_var 2) xa_nil))) xa_nil)) x_int))))
      (xb_one (xs_ret (x_var 0))))⟩
theorem sc__law_is_word : FnScope ["text", "letters", "sign"] ["text"] (defScope (topS 33)) := ⟨rfl, rfl, rfl, by decide +kernel, rfl, by decide +kernel, by decide +kernel⟩
theorem ok__law_is_word (T : Txt P K mg cl Dd fI cc cda)  {f : Addr} {fd : FuncData} (Fn : Fun K "_law_is_word" "_law_is_word" (topS 33) f fd) (gm : mg "_law_is_word" = some (.ref f)) (bd : Binds K fd ["text"] []) :
    Fact P w K mg base "_law_is_word" 1 ["text"] (spM K cl g__law_is_word 1) :=
  fact_mk (N := ["text", "letters", "sign"]) (m := m__law_is_word) Fn gm bd sc__law_is_word fun cdv A outer s H E hr => ⟨_, by
    have nd := sc__law_is_word.nd
    exact (xb_cons (xs_setLc (own := [("sign", 2)]) 1 rfl nd (sw_true rfl rfl rfl (by decide +kernel)) (xi_S (x_var 0)) (blkOk_by (own := [("sign", 2)]) (by show L2.blkC (["text", "letters", "sign"].map PySem.Str.ofString) (L2.defScope (topS 33)) _ _ = true; decide +kernel)) (fun _ _ _ _ _ => (xg_name 2 nd)) (by decide) (fun _ _ _ _ _ => (xts_one (xt_cmp (r := rNinD K) op_ninD sim_nin (x_var 2) x_str))) (fun _ _ _ _ _ => x_int))
      (xb_one (xs_ret (x_and (x_chn op_le sim_le op_le sim_le x_int (x_cb call_len sim_len T.b_len PySem.boot_len (xa_cons (x_var 0) xa_nil)) x_int) (x_one (x_cmp (op_eqK hr.units) sim_eq (x_var 1) (x_lst xa_nil)))))))⟩
theorem sc__law_number : FnScope ["text", "least", "most", "sign"] ["text", "least", "most"] (defScope (topS 34)) := ⟨rfl, rfl, rfl, by decide +kernel, rfl, by decide +kernel, by decide +kernel⟩
theorem ok__law_number (T : Txt P K mg cl Dd fI cc cda)  {f : Addr} {fd : FuncData} (Fn : Fun K "_law_number" "_law_number" (topS 34) f fd) (gm : mg "_law_number" = some (.ref f)) (bd : Binds K fd ["text", "least", "most"] []) :
    Fact P w K mg base "_law_number" 1 ["text", "least", "most"] (spM K cl g__law_number 3) :=
  fact_mk (N := ["text", "least", "most", "sign"]) (m := m__law_number) Fn gm bd sc__law_number fun cdv A outer s H E hr => ⟨_, by
    have nd := sc__law_number.nd
    exact (xb_cons (xs_if (xt_w (xw_or (xt_cmp (op_eqK hr.units) sim_eq (x_var 0) x_str) (xw_or (xt_cmp op_gt sim_gt (x_cb call_len sim_len T.b_len PySem.boot_len (xa_cons (x_var 0) xa_nil)) x_int) (xw_or1 (xt_cmp (op_neK hr.units) sim_ne (x_lc (own := [("sign", 3)]) rfl nd (xi_S (x_var 0)) (blkOk_by (own := [("sign", 3)]) (by show L2.blkC (["text", "least", "most", "sign"].map PySem.Str.ofString) (L2.defScope (topS 34)) _ _ = true; decide +kernel)) (fun _ _ _ _ _ => (xg_name 3 nd)) (by decide) (fun _ _ _ _ _ => (xts_one (xt_cmp (r := rNinD K) op_ninD sim_nin (x_var 3) x_str))) (fun _ _ _ _ _ => x_int)) (x_lst xa_nil)))))) (xb_one (xs_ret x_non)) xb_nil)
      (xb_cons (xs_if (xt_w (xw_or (xt_w (xw_and (xt_cmp (op_eqK hr.units) sim_eq (x_ixK K (x_var 0) x_int) x_str) (xw_and1 (xt_cmp (op_neK hr.units) sim_ne (x_var 0) x_str)))) (xw_or1 (xt_not (xt_chn op_le sim_le op_le sim_le (x_var 1) (x_ct call_intD sim_int T.b_int (by decide +kernel) (xa_cons (x_var 0) xa_nil)) (x_var 2)))))) (xb_one (xs_ret x_non)) xb_nil)
      (xb_one (xs_ret (x_ct call_intD sim_int T.b_int (by decide +kernel) (xa_cons (x_var 0) xa_nil))))))⟩
theorem sc__law_entry_in : FnScope ["text", "words", "time", "values", "word"] ["text"] (defScope (topS 35)) := ⟨rfl, rfl, rfl, by decide +kernel, rfl, by decide +kernel, by decide +kernel⟩
theorem ok__law_entry_in (T : Txt P K mg cl Dd fI cc cda) (h__law_is_word : Fact P w K mg base "_law_is_word" 1 ["text"] (spM K cl g__law_is_word 1)) (h__law_number : Fact P w K mg base "_law_number" 1 ["text", "least", "most"] (spM K cl g__law_number 3)) {f : Addr} {fd : FuncData} (Fn : Fun K "_law_entry_in" "_law_entry_in" (topS 35) f fd) (gm : mg "_law_entry_in" = some (.ref f)) (bd : Binds K fd ["text"] []) :
    Fact P w K mg base "_law_entry_in" 2 ["text"] (spM K cl g__law_entry_in 1) :=
  fact_mk (N := ["text", "words", "time", "values", "word"]) (m := m__law_entry_in) Fn gm bd sc__law_entry_in fun cdv A outer s H E hr => ⟨_, by
    have nd := sc__law_entry_in.nd
    exact (xb_cons (xs_set 1 nd (x_split (x_var 0) x_str))
      (xb_cons (xs_if (xt_w (xw_or (xt_cmp op_lt sim_lt (x_cb call_len sim_len T.b_len PySem.boot_len (xa_cons (x_var 1) xa_nil)) x_int) (xw_or1 (xt_not (xt_tru (x_callK h__law_is_word (hr.mono (show 1 ≤ 1 by decide)) passX (xa_cons (x_ixK K (x_var 1) x_int) xa_nil))))))) (xb_one (xs_ret x_non)) xb_nil)
      (xb_cons (xs_if (xt_cmp (op_eqK hr.units) sim_eq (x_ixK K (x_var 1) x_int) x_str) (xb_cons (xs_set 2 nd (x_callK h__law_number (hr.mono (show 1 ≤ 1 by decide)) passX (xa_cons (x_ixK K (x_var 1) x_int) (xa_cons x_int (xa_cons x_int xa_nil)))))
      (xb_one (xs_ret (x_ife (xt_w (xw_and (xt_cmp (op_eqK hr.units) sim_eq (x_cb call_len sim_len T.b_len PySem.boot_len (xa_cons (x_var 1) xa_nil)) x_int) (xw_and1 (xt_cmp op_notN sim_isn (x_var 2) x_non)))) (x_tup (xa_cons (x_ixK K (x_var 1) x_int) (xa_cons x_str (xa_cons (x_var 2) (xa_cons (x_tup xa_nil) xa_nil))))) x_non)))) xb_nil)
      (xb_cons (xs_setLc (own := [("word", 4)]) 3 rfl nd (sw_true rfl rfl rfl (by decide +kernel)) (xi_L (x_sliceK K (x_var 1) (xo_some x_int) xo_none)) (blkOk_by (own := [("word", 4)]) (by show L2.blkC (["text", "words", "time", "values", "word"].map PySem.Str.ofString) (L2.defScope (topS 35)) _ _ = true; decide +kernel)) (fun _ _ _ _ _ => (xg_name 4 nd)) (by decide) (fun _ _ _ _ _ => xts_nil) (fun _ _ _ _ _ => (x_callK h__law_number (hr.mono (show 1 ≤ 1 by decide)) passL (xa_cons (x_var 4) (xa_cons x_int (xa_cons (x_bin op_pow sim_pow x_int x_int) xa_nil))))))
      (xb_cons (xs_if (xt_w (xw_or (xt_cmp (r := rNinD K) op_ninD sim_nin (x_ixK K (x_var 1) x_int) (x_lst (xa_cons x_str (xa_cons x_str xa_nil)))) (xw_or (xt_not (xt_tru (x_callK h__law_is_word (hr.mono (show 1 ≤ 1 by decide)) passX (xa_cons (x_ixK K (x_var 1) x_int) xa_nil)))) (xw_or (xt_cmp (r := rInD K) op_inD sim_in x_non (x_var 3)) (xw_or1 (xt_not (xt_chn op_le sim_le op_le sim_le x_int (x_cb call_len sim_len T.b_len PySem.boot_len (xa_cons (x_var 3) xa_nil)) x_int))))))) (xb_one (xs_ret x_non)) xb_nil)
      (xb_one (xs_ret (x_tup (xa_cons (x_ixK K (x_var 1) x_int) (xa_cons (x_ixK K (x_var 1) x_int) (xa_cons (x_ixK K (x_var 1) x_int) (xa_cons (x_ct call_tuple_of sim_tuple T.b_tuple (by decide +kernel) (xa_cons (x_var 3) xa_nil)) xa_nil))))))))))))⟩
theorem sc__law_due : FnScope ["text", "lines", "found", "check", "at", "line", "head", "space", "tail", "entry"] ["text"] (defScope (topS 36)) := ⟨rfl, rfl, rfl, by decide +kernel, rfl, by decide +kernel, by decide +kernel⟩
theorem ok__law_due (T : Txt P K mg cl Dd fI cc cda) (h__law_entry_in : Fact P w K mg base "_law_entry_in" 2 ["text"] (spM K cl g__law_entry_in 1)) (h__law_check : Fact P w K mg base "_law_check" 1 ["check", "text"] (spM K cl g__law_check 2)) {f : Addr} {fd : FuncData} (Fn : Fun K "_law_due" "_law_due" (topS 36) f fd) (gm : mg "_law_due" = some (.ref f)) (bd : Binds K fd ["text"] []) :
    Fact P w K mg base "_law_due" 3 ["text"] (spM K cl g__law_due 1) :=
  fact_mk (N := ["text", "lines", "found", "check", "at", "line", "head", "space", "tail", "entry"]) (m := m__law_due) Fn gm bd sc__law_due fun cdv A outer s H E hr => ⟨_, by
    have nd := sc__law_due.nd
    exact (xb_cons (xs_par3O 1 2 3 rfl nd (x_split (x_var 0) x_str) pe_int (fun _ => .int _))
      (xb_cons (xs_for pownX rfl (xi_en T.b_enumerate (xa_cons (x_sliceK K (x_var 1) xo_none (xo_some (x_un un_neg sim_neg x_int))) xa_nil)) (xg_tup rfl (xgs_cons 4 nd (xgs_cons 5 nd xgs_nil)) rfl) (xb_cons (xs_asg (x_rpart (x_var 5) x_str) (xg_tup rfl (xgs_cons 6 nd (xgs_cons 7 nd (xgs_cons 8 nd xgs_nil))) rfl))
      (xb_cons (xs_par 9 3 rfl nd (xa_cons (x_callK h__law_entry_in (hr.mono (show 2 ≤ 2 by decide)) passX (xa_cons (x_var 6) xa_nil)) (xa_cons (x_callK h__law_check (hr.mono (show 1 ≤ 2 by decide)) passX (xa_cons (x_var 3) (xa_cons (x_var 6) xa_nil))) xa_nil)))
      (xb_cons (xs_if (xt_w (xw_or (xt_cmp op_isN sim_is (x_var 9) x_non) (xw_or1 (xt_cmp (op_neK hr.units) sim_ne (x_var 8) (x_ct call_strD sim_str T.b_str (by decide +kernel) (xa_cons (x_var 3) xa_nil)))))) (xb_one (xs_ret (x_lst (xa_cons (x_var 2) (xa_cons (x_var 4) xa_nil))))) xb_nil)
      (xb_one (xs_expr (x_app 2 (x_var 9))))))))
      (xb_one (xs_ret (x_lst (xa_cons (x_var 2) (xa_cons (x_ife (xt_cmp (op_eqK hr.units) sim_eq (x_ixK K (x_var 1) (x_un un_neg sim_neg x_int)) x_str) x_non (x_bin op_sub sim_sub (x_cb call_len sim_len T.b_len PySem.boot_len (xa_cons (x_var 1) xa_nil)) x_int)) xa_nil)))))))⟩
theorem sc__law_read : FnScope ["text", "kept", "e"] ["text"] (defScope (topS 37)) := ⟨rfl, rfl, rfl, by decide +kernel, rfl, by decide +kernel, by decide +kernel⟩
theorem ok__law_read (T : Txt P K mg cl Dd fI cc cda) (h_read_journal : Fact P w K mg base "read_journal" 7 ["text"] (spM K cl g_read_journal 1)) {f : Addr} {fd : FuncData} (Fn : Fun K "_law_read" "_law_read" (topS 37) f fd) (gm : mg "_law_read" = some (.ref f)) (bd : Binds K fd ["text"] []) :
    Fact P w K mg base "_law_read" 8 ["text"] (spM K cl g__law_read 1) :=
  fact_mk (N := ["text", "kept", "e"]) (m := m__law_read) Fn gm bd sc__law_read fun cdv A outer s H E hr => ⟨_, by
    have nd := sc__law_read.nd
    exact (xb_cons (xs_set 1 nd x_non)
      (xb_cons (xs_try 2 1 1 nd h_read_journal (hr.mono (show 7 ≤ 7 by decide)) T.g_BadJournal T.m_BadJournal takesX (fun _ _ => (xa_cons (x_var 0) xa_nil)) (fun _ _ _ _ _ hz hf => (xxs_set 1 nd (xx_lst (xxa_cons (xx_val T.x_BadJournal hz hf) (xxa_cons (xx_isa T.e_BadJournal T.k_BadJournal hz hf T.b_isinstance T.b_ValueError (by decide +kernel)) xxa_nil))))))
      (xb_one (xs_ret (x_var 1)))))⟩
theorem sc__law_texts : FnScope ["pool", "text", "lines", "at", "to", "line", "sign", "found", "twice"] ["pool", "text"] (defScope (topS 38)) := ⟨rfl, rfl, rfl, by decide +kernel, rfl, by decide +kernel, by decide +kernel⟩
theorem ok__law_texts (T : Txt P K mg cl Dd fI cc cda) (h__law_take : Fact P w K mg base "_law_take" 1 ["pool", "many"] (spO K cl g__law_take 1)) {f : Addr} {fd : FuncData} (Fn : Fun K "_law_texts" "_law_texts" (topS 38) f fd) (gm : mg "_law_texts" = some (.ref f)) (bd : Binds K fd ["pool", "text"] []) :
    Fact P w K mg base "_law_texts" 2 ["pool", "text"] (spO K cl g__law_texts 1) :=
  factO_mk (N := ["pool", "text", "lines", "at", "to", "line", "sign", "found", "twice"]) (m := m__law_texts) Fn gm bd sc__law_texts fun cdv A outer s H E hr => ⟨_, by
    have nd := sc__law_texts.nd
    exact (xb_cons (xs_par3 2 3 4 rfl nd (xa_cons (x_split (x_var 1) x_str) (xa_cons (x_callOK 0 h__law_take (hr.mono (show 1 ≤ 1 by decide)) passX (xa_cons (x_bin op_addD sim_add (x_cb call_len sim_len T.b_len PySem.boot_len (xa_cons (x_var 1) xa_nil)) x_int) xa_nil)) (xa_cons (x_callOK 0 h__law_take (hr.mono (show 1 ≤ 1 by decide)) passX (xa_cons (x_bin op_addD sim_add (x_cb call_len sim_len T.b_len PySem.boot_len (xa_cons (x_var 1) xa_nil)) x_int) xa_nil)) xa_nil))))
      (xb_cons (xs_par 5 6 rfl nd (xa_cons (x_callOK 0 h__law_take (hr.mono (show 1 ≤ 1 by decide)) passX (xa_cons (x_cb call_len sim_len T.b_len PySem.boot_len (xa_cons (x_var 2) xa_nil)) xa_nil)) (xa_cons (x_ixK K (x_lst (xa_cons x_str (xa_cons x_str (xa_cons x_str (xa_cons x_str (xa_cons x_str (xa_cons x_str (xa_cons x_str xa_nil)))))))) (x_callOK 0 h__law_take (hr.mono (show 1 ≤ 1 by decide)) passX (xa_cons x_int xa_nil))) xa_nil)))
      (xb_cons (xs_set 7 nd (x_lst (xa_cons (x_bin op_addD sim_add (x_bin op_addD sim_add (x_sliceK K (x_var 1) xo_none (xo_some (x_var 3))) (x_var 6)) (x_sliceK K (x_var 1) (xo_some (x_var 3)) xo_none)) (xa_cons (x_bin op_addD sim_add (x_sliceK K (x_var 1) xo_none (xo_some (x_var 3))) (x_sliceK K (x_var 1) (xo_some (x_bin op_addD sim_add (x_var 3) x_int)) xo_none)) (xa_cons (x_bin op_addD sim_add (x_bin op_addD sim_add (x_sliceK K (x_var 1) xo_none (xo_some (x_var 3))) (x_var 6)) (x_sliceK K (x_var 1) (xo_some (x_bin op_addD sim_add (x_var 3) x_int)) xo_none)) (xa_cons (x_bin op_addD sim_add (x_var 1) (x_var 1)) xa_nil))))))
      (xb_cons (xs_set 7 nd (x_bin op_addD sim_add (x_var 7) (x_lst (xa_cons (x_bin op_addD sim_add (x_sliceK K (x_var 1) xo_none (xo_some (x_var 3))) (x_sliceK K (x_var 1) (xo_some (x_var 4)) xo_none)) (xa_cons (x_join x_str (x_bin op_addD sim_add (x_sliceK K (x_var 2) xo_none (xo_some (x_var 5))) (x_sliceK K (x_var 2) (xo_some (x_bin op_addD sim_add (x_var 5) x_int)) xo_none))) (xa_cons (x_join x_str (x_rev (x_var 2))) xa_nil))))))
      (xb_cons (xs_set 8 nd (x_bin op_addD sim_add (x_bin op_addD sim_add (x_sliceK K (x_var 2) xo_none (xo_some (x_var 5))) (x_sliceK K (x_var 2) (xo_some (x_var 5)) (xo_some (x_bin op_addD sim_add (x_var 5) x_int)))) (x_sliceK K (x_var 2) (xo_some (x_var 5)) xo_none)))
      (xb_consU (xsu_set 7 nd (xeu_bin op_addD sim_add (x_var 7) (xeu_lst (xau_cons (xeu_join (x_var 8)) (xat_cons (xet_rep1 (x_var 1)) xat_nil))))) (xbt_one (xst_ret (xet_bin op_addD sim_add (xet_of (x_var 7)) (xet_lst (xat_cons (xet_repl (x_var 1)) (xat_cons (xet_repl (x_var 1)) (xat_cons (xet_of (x_bin op_addD sim_add x_str (x_var 1))) (xat_cons (xet_of (x_bin op_addD sim_add (x_var 1) x_str)) (xat_cons (xet_of (x_bin op_addD sim_add (x_var 1) x_str)) xat_nil)))))))))))))))⟩
theorem sc_law : FnScope ["script", "k", "pool", "entries", "turn", "text", "one", "at", "found", "wrong", "thing"] ["script"] (defScope (topS 39)) := ⟨rfl, rfl, rfl, by decide +kernel, rfl, by decide +kernel, by decide +kernel⟩
theorem fnok_law (T : Txt P K mg cl Dd fI cc cda) (h__law_pool : Fact P w K mg base "_law_pool" 1 ["script", "k"] (spF K cl g__law_pool 2)) (h__law_take : Fact P w K mg base "_law_take" 1 ["pool", "many"] (spO K cl g__law_take 1)) (h__law_entry : Fact P w K mg base "_law_entry" 2 ["pool"] (spO K cl g__law_entry 0)) (h_write_journal : Fact P w K mg base "write_journal" 5 ["entries"] (spM K cl g_write_journal 1)) (h__law_texts : Fact P w K mg base "_law_texts" 2 ["pool", "text"] (spO K cl g__law_texts 1)) (h__law_due : Fact P w K mg base "_law_due" 3 ["text"] (spM K cl g__law_due 1)) (h_recover : Fact P w K mg base "recover" 7 ["text"] (spM K cl g_recover 1)) (h__law_read : Fact P w K mg base "_law_read" 8 ["text"] (spM K cl g__law_read 1)) {f : Addr} {fd : FuncData} (Fn : Fun K "law" "law" (topS 39) f fd) :
    FnOk P w K mg base (L2.CX P w) 9 f fd ["script"] (spM K cl g_law 1) :=
  fn_okX (N := ["script", "k", "pool", "entries", "turn", "text", "one", "at", "found", "wrong", "thing"]) (m := m_law) Fn sc_law fun cdv A outer s H E hr => ⟨_, by
    have nd := sc_law.nd
    exact (xb_cons (xs_for pownX rfl (xi_rg1 T.b_range (xa_cons (x_cb (call_max2 rfl) sim_max T.b_max PyProof.Rows.boot_max (xa_cons x_int (xa_cons (x_cb (call_min2 rfl) sim_min T.b_min PyProof.Rows.boot_min (xa_cons (x_cb call_len sim_len T.b_len PySem.boot_len (xa_cons (x_var 0) xa_nil)) (xa_cons x_int xa_nil))) xa_nil))) xa_nil)) (xg_name 1 nd) (xb_cons (xs_asgF 2 nd h__law_pool (hr.mono (show 1 ≤ 8 by decide)) passX (xa_cons (x_var 0) (xa_cons (x_var 1) xa_nil)))
      (xb_cons (xs_setLc (own := [("turn", 4)]) 3 rfl nd (sw_true rfl rfl rfl (by decide +kernel)) (xi_rg1 T.b_range (xa_cons (x_callOK 2 h__law_take (hr.mono (show 1 ≤ 8 by decide)) passX (xa_cons x_int xa_nil)) xa_nil)) (blkOk_by (own := [("turn", 4)]) (by show L2.blkC (["script", "k", "pool", "entries", "turn", "text", "one", "at", "found", "wrong", "thing"].map PySem.Str.ofString) (L2.defScope (topS 39)) _ _ = true; decide +kernel)) (fun _ _ _ _ _ => (xg_name 4 nd)) (by decide) (fun _ _ _ _ _ => xts_nil) (fun _ _ _ _ _ => (x_callOK 2 h__law_entry (hr.mono (show 2 ≤ 8 by decide)) passL xa_nil)))
      (xb_cons (xs_set 5 nd (x_callK h_write_journal (hr.mono (show 5 ≤ 8 by decide)) passX (xa_cons (x_var 3) xa_nil)))
      (xb_cons (xs_for pownX rfl (xi_L (x_bin op_addD sim_add (x_bin op_addD sim_add (x_lc (own := [("at", 7)]) rfl nd (xi_rg1 T.b_range (xa_cons (x_bin op_addD sim_add (x_cb call_len sim_len T.b_len PySem.boot_len (xa_cons (x_var 5) xa_nil)) x_int) xa_nil)) (blkOk_by (own := [("at", 7)]) (by show L2.blkC (["script", "k", "pool", "entries", "turn", "text", "one", "at", "found", "wrong", "thing"].map PySem.Str.ofString) (L2.defScope (topS 39)) _ _ = true; decide +kernel)) (fun _ _ _ _ _ => (xg_name 7 nd)) (by decide) (fun _ _ _ _ _ => xts_nil) (fun _ _ _ _ _ => (x_sliceK K (x_var 5) xo_none (xo_some (x_var 7))))) (x_callOK 2 h__law_texts (hr.mono (show 2 ≤ 8 by decide)) passX (xa_cons (x_var 5) xa_nil))) (x_callOK 2 h__law_texts (hr.mono (show 2 ≤ 8 by decide)) passX (xa_cons (x_var 5) xa_nil)))) (xg_name 6 nd) (xb_cons (xs_asg (x_callK h__law_due (hr.mono (show 3 ≤ 8 by decide)) passX (xa_cons (x_var 6) xa_nil)) (xg_lst rfl (xgs_cons 8 nd (xgs_cons 9 nd xgs_nil)) rfl))
      (xb_one (xs_if (xt_w (xw_or (xt_cmp (op_neK hr.units) sim_ne (x_callK h_recover (hr.mono (show 7 ≤ 8 by decide)) passX (xa_cons (x_var 6) xa_nil)) (x_var 8)) (xw_or1 (xt_cmp (op_neK hr.units) sim_ne (x_callK h__law_read (hr.mono (show 8 ≤ 8 by decide)) passX (xa_cons (x_var 6) xa_nil)) (x_ife (xt_cmp op_isN sim_is (x_var 9) x_non) (x_var 8) (x_lst (xa_cons (x_var 9) (xa_cons x_bl xa_nil)))))))) (xb_one (xs_ret x_bl)) xb_nil))))
      (xb_cons (xs_if (xt_cmp (op_neK hr.units) sim_ne (x_callK h__law_read (hr.mono (show 8 ≤ 8 by decide)) passX (xa_cons (x_var 5) xa_nil)) (x_var 3)) (xb_one (xs_ret x_bl)) xb_nil)
      (xb_one (xs_for pownX rfl (xi_L (x_lst (xa_cons x_non (xa_cons x_int (xa_cons (x_lst (xa_cons x_str xa_nil)) (xa_cons (x_tup xa_nil) xa_nil)))))) (xg_name 10 nd) (xb_one (xs_if (xt_cmp (op_neK hr.units) sim_ne (x_callK h__law_read (hr.mono (show 8 ≤ 8 by decide)) passX (xa_cons (x_var 10) xa_nil)) (x_lst (xa_cons x_int (xa_cons x_bl xa_nil)))) (xb_one (xs_ret x_bl)) xb_nil))))))))))
      (xb_one (xs_ret x_bl)))⟩
end
end G
namespace G
open PySem PySem.Spec PyProof.Rows L2 Mi
theorem all_mk {w : World} {K : PySem.W.Frag} {h : Heap} {mg : Str → Option Value} (X : K.In h) (G : h.Ns mainGlobals mg)
    {fa Dd fI cc cda : Addr}
    {pf : Str}
    {ptf : Tok}
    {bc bct : Value}
    {bdoc bpm : Value}
    {bod ban : Option Addr}
    {bsl : Array (Option Value)}
    {cdD : ClassData}
    {lc ld : Value}
    {lod ldd : Option Addr}
    {lsl lsd : Array (Option Value)}
    {lvs : Array Value}
    {C0 N0 : Addr}
    {n0 q0 : Str}
    {b0 m0 u0 : List Value}
    {s0 : List Str}
    {ab0 : Bool}
    {co0 : Option Bool}
    {dd0 : Option Addr}
    {x00 x01 x02 x03 x05 : Option Value}
    {C1 N1 : Addr}
    {n1 q1 : Str}
    {b1 m1 u1 : List Value}
    {s1 : List Str}
    {ab1 : Bool}
    {co1 : Option Bool}
    {dd1 : Option Addr}
    {x10 x11 x12 x13 x15 : Option Value}
    {k_CHECKS : Tok}
    {k_FIGURES : Tok}
    {k_FIRST_CHECK : Tok}
    {k_LETTERS : Tok}
    {k_MOST_FIGURES : Tok}
    {k_MOST_MESSAGES : Tok}
    {k_MOST_VALUE : Tok}
    {k_MOST_WORD : Tok}
    {k_MOST_WORK : Tok}
    {f_is_integer : Addr}
    {od_is_integer an_is_integer : Option Addr}
    {sl_is_integer : Array (Option Value)}
    {oc_is_integer kV_is_integer dc_is_integer pm_is_integer cd_is_integer ct_is_integer : Value}
    {f_is_word : Addr}
    {od_is_word an_is_word : Option Addr}
    {sl_is_word : Array (Option Value)}
    {oc_is_word kV_is_word dc_is_word pm_is_word cd_is_word ct_is_word : Value}
    {f_is_between : Addr}
    {od_is_between an_is_between : Option Addr}
    {sl_is_between : Array (Option Value)}
    {oc_is_between kV_is_between dc_is_between pm_is_between cd_is_between ct_is_between : Value}
    {f_number_in : Addr}
    {od_number_in an_number_in : Option Addr}
    {sl_number_in : Array (Option Value)}
    {oc_number_in kV_number_in dc_number_in pm_number_in cd_number_in ct_number_in : Value}
    {f_is_value : Addr}
    {od_is_value an_is_value : Option Addr}
    {sl_is_value : Array (Option Value)}
    {oc_is_value kV_is_value dc_is_value pm_is_value cd_is_value ct_is_value : Value}
    {f_is_entry : Addr}
    {od_is_entry an_is_entry : Option Addr}
    {sl_is_entry : Array (Option Value)}
    {oc_is_entry kV_is_entry dc_is_entry pm_is_entry cd_is_entry ct_is_entry : Value}
    {f_check_behind : Addr}
    {od_check_behind an_check_behind : Option Addr}
    {sl_check_behind : Array (Option Value)}
    {oc_check_behind kV_check_behind dc_check_behind pm_check_behind cd_check_behind ct_check_behind : Value}
    {f_entry_text : Addr}
    {od_entry_text an_entry_text : Option Addr}
    {sl_entry_text : Array (Option Value)}
    {oc_entry_text kV_entry_text dc_entry_text pm_entry_text cd_entry_text ct_entry_text : Value}
    {f_write_journal : Addr}
    {od_write_journal an_write_journal : Option Addr}
    {sl_write_journal : Array (Option Value)}
    {oc_write_journal kV_write_journal dc_write_journal pm_write_journal cd_write_journal ct_write_journal : Value}
    {f_entry_in : Addr}
    {od_entry_in an_entry_in : Option Addr}
    {sl_entry_in : Array (Option Value)}
    {oc_entry_in kV_entry_in dc_entry_in pm_entry_in cd_entry_in ct_entry_in : Value}
    {f_read_lines : Addr}
    {od_read_lines an_read_lines : Option Addr}
    {sl_read_lines : Array (Option Value)}
    {oc_read_lines kV_read_lines dc_read_lines pm_read_lines cd_read_lines ct_read_lines : Value}
    {f_read_journal : Addr}
    {od_read_journal an_read_journal : Option Addr}
    {sl_read_journal : Array (Option Value)}
    {oc_read_journal kV_read_journal dc_read_journal pm_read_journal cd_read_journal ct_read_journal : Value}
    {f_recover : Addr}
    {od_recover an_recover : Option Addr}
    {sl_recover : Array (Option Value)}
    {oc_recover kV_recover dc_recover pm_recover cd_recover ct_recover : Value}
    {f__law_pool : Addr}
    {od__law_pool an__law_pool : Option Addr}
    {sl__law_pool : Array (Option Value)}
    {oc__law_pool kV__law_pool dc__law_pool pm__law_pool cd__law_pool ct__law_pool : Value}
    {f__law_take : Addr}
    {od__law_take an__law_take : Option Addr}
    {sl__law_take : Array (Option Value)}
    {oc__law_take kV__law_take dc__law_take pm__law_take cd__law_take ct__law_take : Value}
    {f__law_entry : Addr}
    {od__law_entry an__law_entry : Option Addr}
    {sl__law_entry : Array (Option Value)}
    {oc__law_entry kV__law_entry dc__law_entry pm__law_entry cd__law_entry ct__law_entry : Value}
    {f__law_check : Addr}
    {od__law_check an__law_check : Option Addr}
    {sl__law_check : Array (Option Value)}
    {oc__law_check kV__law_check dc__law_check pm__law_check cd__law_check ct__law_check : Value}
    {f__law_is_word : Addr}
    {od__law_is_word an__law_is_word : Option Addr}
    {sl__law_is_word : Array (Option Value)}
    {oc__law_is_word kV__law_is_word dc__law_is_word pm__law_is_word cd__law_is_word ct__law_is_word : Value}
    {f__law_number : Addr}
    {od__law_number an__law_number : Option Addr}
    {sl__law_number : Array (Option Value)}
    {oc__law_number kV__law_number dc__law_number pm__law_number cd__law_number ct__law_number : Value}
    {f__law_entry_in : Addr}
    {od__law_entry_in an__law_entry_in : Option Addr}
    {sl__law_entry_in : Array (Option Value)}
    {oc__law_entry_in kV__law_entry_in dc__law_entry_in pm__law_entry_in cd__law_entry_in ct__law_entry_in : Value}
    {f__law_due : Addr}
    {od__law_due an__law_due : Option Addr}
    {sl__law_due : Array (Option Value)}
    {oc__law_due kV__law_due dc__law_due pm__law_due cd__law_due ct__law_due : Value}
    {f__law_read : Addr}
    {od__law_read an__law_read : Option Addr}
    {sl__law_read : Array (Option Value)}
    {oc__law_read kV__law_read dc__law_read pm__law_read cd__law_read ct__law_read : Value}
    {f__law_texts : Addr}
    {od__law_texts an__law_texts : Option Addr}
    {sl__law_texts : Array (Option Value)}
    {oc__law_texts kV__law_texts dc__law_texts pm__law_texts cd__law_texts ct__law_texts : Value}
    {f_law : Addr}
    {od_law an_law : Option Addr}
    {sl_law : Array (Option Value)}
    {oc_law kV_law dc_law pm_law cd_law ct_law : Value}
    (hfa : mg "law" = some (.ref fa)) (lawT : ∀ ns : List Int, ns.length ≤ 63 → g_law [.scr ns] = .ok (.bl true))
    (aB : PySem.W.nsIn K mainGlobals "RoomError" = some (some (.ref Dd)))
    (iB : PySem.W.findIn K (.ref Dd) "__init__" = some (some (.ref fI)))
    (lB : K.lookup fI = some ⟨bc, bod, .func (PySem.W.ksFn "__init__" "RoomError.__init__" RoomX.iA RoomX.iB RoomX.iS .none .none bdoc bpm ban (.ref cda) bct cc), bsl⟩)
    (cB : PySem.W.codeIn K (.ref cda) "RoomError.__init__" = true)
    (tB : PySem.W.typeIn K (.ref fI) = some (.type "function"))
    (dB : PySem.W.clsIn K Dd = some cdD)
    (oB : PySem.W.nsIn K cStatics "thirdparty.any" = some none)
    (eB : K.lookup cc = some ⟨lc, lod, .cell (some (.ref Dd)), lsl⟩)
    (kB : K.lookup cda = some ⟨ld, ldd, .fields lvs, lsd⟩)
    (vB : lvs[2]? = some (.str pf ptf))
    (fB : ((PySem.Challenge.pw_ringtolls_k82_whole_cuts_recovered.main.file : Str) == pf) = true)
    (sB : PySem.W.nsIn K mainGlobals "super" = some none)
    (a_BadEntries : PySem.W.nsIn K mainGlobals "BadEntries" = some (some (.ref C0)))
    (l_BadEntries : K.lookup C0 = some (excClassObj n0 q0 C0 N0 b0 m0 true s0 u0 ab0 co0 dd0 x00 x01 x02 x03 x05 "ValueError.__new__"))
    (r_BadEntries : PySem.HandSPX.refsVE m0 = true)
    (sa_BadEntries : PySem.W.findIn K (.ref C0) "__setattr__" = some (some (.builtin "object.__setattr__")))
    (ga_BadEntries : PySem.W.findIn K (.ref C0) "__getattribute__" = some (some (.builtin "BaseException.__getattribute__")))
    (gg_BadEntries : PySem.W.findIn K (.ref C0) "__getattr__" = some none)
    (nv_BadEntries : PySem.W.findIn K (.ref C0) "value" = some none)
    (ii_BadEntries : PySem.W.findIn K (.ref C0) "__init__" = some (some (.ref fI)))
    (kp_BadEntries : PySem.W.keepIn K (.ref C0) = true)
    (ex_BadEntries : PySem.W.subIn K (.ref C0) (.type "BaseException") = some true)
    (ty_BadEntries : PySem.W.typeIn K (.ref C0) = some (.type "type"))
    (hd_BadEntries : PySem.W.hasDictIn K C0 = true)
    (su_BadEntries : PySem.W.ks_superIn K C0 Dd "__init__" = some (some (.builtin "ValueError.__init__")))
    (sv_BadEntries : PySem.W.subIn K (.ref C0) (.type "ValueError") = some true)
    (mr_BadEntries : PySem.W.mroIn K C0 (.ref Dd) = some true)
    (me_BadEntries : PySem.W.exmOne K (.ref C0) (.ref C0) = some true)
    (a_BadJournal : PySem.W.nsIn K mainGlobals "BadJournal" = some (some (.ref C1)))
    (l_BadJournal : K.lookup C1 = some (excClassObj n1 q1 C1 N1 b1 m1 true s1 u1 ab1 co1 dd1 x10 x11 x12 x13 x15 "ValueError.__new__"))
    (r_BadJournal : PySem.HandSPX.refsVE m1 = true)
    (sa_BadJournal : PySem.W.findIn K (.ref C1) "__setattr__" = some (some (.builtin "object.__setattr__")))
    (ga_BadJournal : PySem.W.findIn K (.ref C1) "__getattribute__" = some (some (.builtin "BaseException.__getattribute__")))
    (gg_BadJournal : PySem.W.findIn K (.ref C1) "__getattr__" = some none)
    (nv_BadJournal : PySem.W.findIn K (.ref C1) "value" = some none)
    (ii_BadJournal : PySem.W.findIn K (.ref C1) "__init__" = some (some (.ref fI)))
    (kp_BadJournal : PySem.W.keepIn K (.ref C1) = true)
    (ex_BadJournal : PySem.W.subIn K (.ref C1) (.type "BaseException") = some true)
    (ty_BadJournal : PySem.W.typeIn K (.ref C1) = some (.type "type"))
    (hd_BadJournal : PySem.W.hasDictIn K C1 = true)
    (su_BadJournal : PySem.W.ks_superIn K C1 Dd "__init__" = some (some (.builtin "ValueError.__init__")))
    (sv_BadJournal : PySem.W.subIn K (.ref C1) (.type "ValueError") = some true)
    (mr_BadJournal : PySem.W.mroIn K C1 (.ref Dd) = some true)
    (me_BadJournal : PySem.W.exmOne K (.ref C1) (.ref C1) = some true)
    (ec_BadJournal : PySem.W.findIn K (.ref C1) "__class__" = some (some (.builtin "object.__class__")))
    (en_BadJournal : PySem.W.specialIn K (.builtin "object.__class__") "__get__" = some (some (.builtin "getset_descriptor.__get__")))
    (et_BadJournal : PySem.W.takesIn K (.builtin "object.__class__") = some true)
    (em_BadJournal : PySem.W.mroIn K C1 (.type "object") = some true)
    (ek_BadJournal : PySem.W.kitOne K (.ref C1) (.type "ValueError") = some true)
    (z_ValueError : PySem.W.nsIn K mainGlobals "ValueError" = some none)
    (z_all : PySem.W.nsIn K mainGlobals "all" = some none)
    (z_bool : PySem.W.nsIn K mainGlobals "bool" = some none)
    (z_enumerate : PySem.W.nsIn K mainGlobals "enumerate" = some none)
    (z_int : PySem.W.nsIn K mainGlobals "int" = some none)
    (z_isinstance : PySem.W.nsIn K mainGlobals "isinstance" = some none)
    (z_len : PySem.W.nsIn K mainGlobals "len" = some none)
    (z_list : PySem.W.nsIn K mainGlobals "list" = some none)
    (z_max : PySem.W.nsIn K mainGlobals "max" = some none)
    (z_min : PySem.W.nsIn K mainGlobals "min" = some none)
    (z_ord : PySem.W.nsIn K mainGlobals "ord" = some none)
    (z_range : PySem.W.nsIn K mainGlobals "range" = some none)
    (z_str : PySem.W.nsIn K mainGlobals "str" = some none)
    (z_tuple : PySem.W.nsIn K mainGlobals "tuple" = some none)
    (c_CHECKS : PySem.W.nsIn K mainGlobals "CHECKS" = some (some (.int 9973 k_CHECKS)))
    (c_FIGURES : PySem.W.nsIn K mainGlobals "FIGURES" = some (some (.str (PySem.Str.ofString "0123456789") k_FIGURES)))
    (c_FIRST_CHECK : PySem.W.nsIn K mainGlobals "FIRST_CHECK" = some (some (.int 7 k_FIRST_CHECK)))
    (c_LETTERS : PySem.W.nsIn K mainGlobals "LETTERS" = some (some (.str (PySem.Str.ofString "abcdefghijklmnopqrstuvwxyz") k_LETTERS)))
    (c_MOST_FIGURES : PySem.W.nsIn K mainGlobals "MOST_FIGURES" = some (some (.int 31 k_MOST_FIGURES)))
    (c_MOST_MESSAGES : PySem.W.nsIn K mainGlobals "MOST_MESSAGES" = some (some (.int 9 k_MOST_MESSAGES)))
    (c_MOST_VALUE : PySem.W.nsIn K mainGlobals "MOST_VALUE" = some (some (.int 1000000000000000 k_MOST_VALUE)))
    (c_MOST_WORD : PySem.W.nsIn K mainGlobals "MOST_WORD" = some (some (.int 8 k_MOST_WORD)))
    (c_MOST_WORK : PySem.W.nsIn K mainGlobals "MOST_WORK" = some (some (.int 99 k_MOST_WORK)))
    (d_is_integer : PySem.W.nsIn K mainGlobals "is_integer" = some (some (.ref f_is_integer)))
    (l_is_integer : K.lookup f_is_integer = some ⟨oc_is_integer, od_is_integer, .func (PySem.W.fnOf "is_integer" "is_integer" (defArgs (topS 9)) (defBody (topS 9)) (defScope (topS 9)) .none kV_is_integer dc_is_integer pm_is_integer an_is_integer cd_is_integer ct_is_integer), sl_is_integer⟩)
    (o_is_integer : PySem.W.codeIn K cd_is_integer "is_integer" = true)
    (p_is_integer : PySem.W.keepIn K (.ref f_is_integer) = true)
    (d_is_word : PySem.W.nsIn K mainGlobals "is_word" = some (some (.ref f_is_word)))
    (l_is_word : K.lookup f_is_word = some ⟨oc_is_word, od_is_word, .func (PySem.W.fnOf "is_word" "is_word" (defArgs (topS 10)) (defBody (topS 10)) (defScope (topS 10)) .none kV_is_word dc_is_word pm_is_word an_is_word cd_is_word ct_is_word), sl_is_word⟩)
    (o_is_word : PySem.W.codeIn K cd_is_word "is_word" = true)
    (p_is_word : PySem.W.keepIn K (.ref f_is_word) = true)
    (d_is_between : PySem.W.nsIn K mainGlobals "is_between" = some (some (.ref f_is_between)))
    (l_is_between : K.lookup f_is_between = some ⟨oc_is_between, od_is_between, .func (PySem.W.fnOf "is_between" "is_between" (defArgs (topS 11)) (defBody (topS 11)) (defScope (topS 11)) .none kV_is_between dc_is_between pm_is_between an_is_between cd_is_between ct_is_between), sl_is_between⟩)
    (o_is_between : PySem.W.codeIn K cd_is_between "is_between" = true)
    (p_is_between : PySem.W.keepIn K (.ref f_is_between) = true)
    (d_number_in : PySem.W.nsIn K mainGlobals "number_in" = some (some (.ref f_number_in)))
    (l_number_in : K.lookup f_number_in = some ⟨oc_number_in, od_number_in, .func (PySem.W.fnOf "number_in" "number_in" (defArgs (topS 12)) (defBody (topS 12)) (defScope (topS 12)) .none kV_number_in dc_number_in pm_number_in an_number_in cd_number_in ct_number_in), sl_number_in⟩)
    (o_number_in : PySem.W.codeIn K cd_number_in "number_in" = true)
    (p_number_in : PySem.W.keepIn K (.ref f_number_in) = true)
    (d_is_value : PySem.W.nsIn K mainGlobals "is_value" = some (some (.ref f_is_value)))
    (l_is_value : K.lookup f_is_value = some ⟨oc_is_value, od_is_value, .func (PySem.W.fnOf "is_value" "is_value" (defArgs (topS 19)) (defBody (topS 19)) (defScope (topS 19)) .none kV_is_value dc_is_value pm_is_value an_is_value cd_is_value ct_is_value), sl_is_value⟩)
    (o_is_value : PySem.W.codeIn K cd_is_value "is_value" = true)
    (p_is_value : PySem.W.keepIn K (.ref f_is_value) = true)
    (d_is_entry : PySem.W.nsIn K mainGlobals "is_entry" = some (some (.ref f_is_entry)))
    (l_is_entry : K.lookup f_is_entry = some ⟨oc_is_entry, od_is_entry, .func (PySem.W.fnOf "is_entry" "is_entry" (defArgs (topS 20)) (defBody (topS 20)) (defScope (topS 20)) .none kV_is_entry dc_is_entry pm_is_entry an_is_entry cd_is_entry ct_is_entry), sl_is_entry⟩)
    (o_is_entry : PySem.W.codeIn K cd_is_entry "is_entry" = true)
    (p_is_entry : PySem.W.keepIn K (.ref f_is_entry) = true)
    (d_check_behind : PySem.W.nsIn K mainGlobals "check_behind" = some (some (.ref f_check_behind)))
    (l_check_behind : K.lookup f_check_behind = some ⟨oc_check_behind, od_check_behind, .func (PySem.W.fnOf "check_behind" "check_behind" (defArgs (topS 21)) (defBody (topS 21)) (defScope (topS 21)) .none kV_check_behind dc_check_behind pm_check_behind an_check_behind cd_check_behind ct_check_behind), sl_check_behind⟩)
    (o_check_behind : PySem.W.codeIn K cd_check_behind "check_behind" = true)
    (p_check_behind : PySem.W.keepIn K (.ref f_check_behind) = true)
    (d_entry_text : PySem.W.nsIn K mainGlobals "entry_text" = some (some (.ref f_entry_text)))
    (l_entry_text : K.lookup f_entry_text = some ⟨oc_entry_text, od_entry_text, .func (PySem.W.fnOf "entry_text" "entry_text" (defArgs (topS 22)) (defBody (topS 22)) (defScope (topS 22)) .none kV_entry_text dc_entry_text pm_entry_text an_entry_text cd_entry_text ct_entry_text), sl_entry_text⟩)
    (o_entry_text : PySem.W.codeIn K cd_entry_text "entry_text" = true)
    (p_entry_text : PySem.W.keepIn K (.ref f_entry_text) = true)
    (d_write_journal : PySem.W.nsIn K mainGlobals "write_journal" = some (some (.ref f_write_journal)))
    (l_write_journal : K.lookup f_write_journal = some ⟨oc_write_journal, od_write_journal, .func (PySem.W.fnOf "write_journal" "write_journal" (defArgs (topS 23)) (defBody (topS 23)) (defScope (topS 23)) .none kV_write_journal dc_write_journal pm_write_journal an_write_journal cd_write_journal ct_write_journal), sl_write_journal⟩)
    (o_write_journal : PySem.W.codeIn K cd_write_journal "write_journal" = true)
    (p_write_journal : PySem.W.keepIn K (.ref f_write_journal) = true)
    (d_entry_in : PySem.W.nsIn K mainGlobals "entry_in" = some (some (.ref f_entry_in)))
    (l_entry_in : K.lookup f_entry_in = some ⟨oc_entry_in, od_entry_in, .func (PySem.W.fnOf "entry_in" "entry_in" (defArgs (topS 24)) (defBody (topS 24)) (defScope (topS 24)) .none kV_entry_in dc_entry_in pm_entry_in an_entry_in cd_entry_in ct_entry_in), sl_entry_in⟩)
    (o_entry_in : PySem.W.codeIn K cd_entry_in "entry_in" = true)
    (p_entry_in : PySem.W.keepIn K (.ref f_entry_in) = true)
    (d_read_lines : PySem.W.nsIn K mainGlobals "read_lines" = some (some (.ref f_read_lines)))
    (l_read_lines : K.lookup f_read_lines = some ⟨oc_read_lines, od_read_lines, .func (PySem.W.fnOf "read_lines" "read_lines" (defArgs (topS 25)) (defBody (topS 25)) (defScope (topS 25)) .none kV_read_lines dc_read_lines pm_read_lines an_read_lines cd_read_lines ct_read_lines), sl_read_lines⟩)
    (o_read_lines : PySem.W.codeIn K cd_read_lines "read_lines" = true)
    (p_read_lines : PySem.W.keepIn K (.ref f_read_lines) = true)
    (d_read_journal : PySem.W.nsIn K mainGlobals "read_journal" = some (some (.ref f_read_journal)))
    (l_read_journal : K.lookup f_read_journal = some ⟨oc_read_journal, od_read_journal, .func (PySem.W.fnOf "read_journal" "read_journal" (defArgs (topS 26)) (defBody (topS 26)) (defScope (topS 26)) .none kV_read_journal dc_read_journal pm_read_journal an_read_journal cd_read_journal ct_read_journal), sl_read_journal⟩)
    (o_read_journal : PySem.W.codeIn K cd_read_journal "read_journal" = true)
    (p_read_journal : PySem.W.keepIn K (.ref f_read_journal) = true)
    (d_recover : PySem.W.nsIn K mainGlobals "recover" = some (some (.ref f_recover)))
    (l_recover : K.lookup f_recover = some ⟨oc_recover, od_recover, .func (PySem.W.fnOf "recover" "recover" (defArgs (topS 27)) (defBody (topS 27)) (defScope (topS 27)) .none kV_recover dc_recover pm_recover an_recover cd_recover ct_recover), sl_recover⟩)
    (o_recover : PySem.W.codeIn K cd_recover "recover" = true)
    (p_recover : PySem.W.keepIn K (.ref f_recover) = true)
    (d__law_pool : PySem.W.nsIn K mainGlobals "_law_pool" = some (some (.ref f__law_pool)))
    (l__law_pool : K.lookup f__law_pool = some ⟨oc__law_pool, od__law_pool, .func (PySem.W.fnOf "_law_pool" "_law_pool" (defArgs (topS 29)) (defBody (topS 29)) (defScope (topS 29)) .none kV__law_pool dc__law_pool pm__law_pool an__law_pool cd__law_pool ct__law_pool), sl__law_pool⟩)
    (o__law_pool : PySem.W.codeIn K cd__law_pool "_law_pool" = true)
    (p__law_pool : PySem.W.keepIn K (.ref f__law_pool) = true)
    (d__law_take : PySem.W.nsIn K mainGlobals "_law_take" = some (some (.ref f__law_take)))
    (l__law_take : K.lookup f__law_take = some ⟨oc__law_take, od__law_take, .func (PySem.W.fnOf "_law_take" "_law_take" (defArgs (topS 30)) (defBody (topS 30)) (defScope (topS 30)) .none kV__law_take dc__law_take pm__law_take an__law_take cd__law_take ct__law_take), sl__law_take⟩)
    (o__law_take : PySem.W.codeIn K cd__law_take "_law_take" = true)
    (p__law_take : PySem.W.keepIn K (.ref f__law_take) = true)
    (d__law_entry : PySem.W.nsIn K mainGlobals "_law_entry" = some (some (.ref f__law_entry)))
    (l__law_entry : K.lookup f__law_entry = some ⟨oc__law_entry, od__law_entry, .func (PySem.W.fnOf "_law_entry" "_law_entry" (defArgs (topS 31)) (defBody (topS 31)) (defScope (topS 31)) .none kV__law_entry dc__law_entry pm__law_entry an__law_entry cd__law_entry ct__law_entry), sl__law_entry⟩)
    (o__law_entry : PySem.W.codeIn K cd__law_entry "_law_entry" = true)
    (p__law_entry : PySem.W.keepIn K (.ref f__law_entry) = true)
    (d__law_check : PySem.W.nsIn K mainGlobals "_law_check" = some (some (.ref f__law_check)))
    (l__law_check : K.lookup f__law_check = some ⟨oc__law_check, od__law_check, .func (PySem.W.fnOf "_law_check" "_law_check" (defArgs (topS 32)) (defBody (topS 32)) (defScope (topS 32)) .none kV__law_check dc__law_check pm__law_check an__law_check cd__law_check ct__law_check), sl__law_check⟩)
    (o__law_check : PySem.W.codeIn K cd__law_check "_law_check" = true)
    (p__law_check : PySem.W.keepIn K (.ref f__law_check) = true)
    (d__law_is_word : PySem.W.nsIn K mainGlobals "_law_is_word" = some (some (.ref f__law_is_word)))
    (l__law_is_word : K.lookup f__law_is_word = some ⟨oc__law_is_word, od__law_is_word, .func (PySem.W.fnOf "_law_is_word" "_law_is_word" (defArgs (topS 33)) (defBody (topS 33)) (defScope (topS 33)) .none kV__law_is_word dc__law_is_word pm__law_is_word an__law_is_word cd__law_is_word ct__law_is_word), sl__law_is_word⟩)
    (o__law_is_word : PySem.W.codeIn K cd__law_is_word "_law_is_word" = true)
    (p__law_is_word : PySem.W.keepIn K (.ref f__law_is_word) = true)
    (d__law_number : PySem.W.nsIn K mainGlobals "_law_number" = some (some (.ref f__law_number)))
    (l__law_number : K.lookup f__law_number = some ⟨oc__law_number, od__law_number, .func (PySem.W.fnOf "_law_number" "_law_number" (defArgs (topS 34)) (defBody (topS 34)) (defScope (topS 34)) .none kV__law_number dc__law_number pm__law_number an__law_number cd__law_number ct__law_number), sl__law_number⟩)
    (o__law_number : PySem.W.codeIn K cd__law_number "_law_number" = true)
    (p__law_number : PySem.W.keepIn K (.ref f__law_number) = true)
    (d__law_entry_in : PySem.W.nsIn K mainGlobals "_law_entry_in" = some (some (.ref f__law_entry_in)))
    (l__law_entry_in : K.lookup f__law_entry_in = some ⟨oc__law_entry_in, od__law_entry_in, .func (PySem.W.fnOf "_law_entry_in" "_law_entry_in" (defArgs (topS 35)) (defBody (topS 35)) (defScope (topS 35)) .none kV__law_entry_in dc__law_entry_in pm__law_entry_in an__law_entry_in cd__law_entry_in ct__law_entry_in), sl__law_entry_in⟩)
    (o__law_entry_in : PySem.W.codeIn K cd__law_entry_in "_law_entry_in" = true)
    (p__law_entry_in : PySem.W.keepIn K (.ref f__law_entry_in) = true)
    (d__law_due : PySem.W.nsIn K mainGlobals "_law_due" = some (some (.ref f__law_due)))
    (l__law_due : K.lookup f__law_due = some ⟨oc__law_due, od__law_due, .func (PySem.W.fnOf "_law_due" "_law_due" (defArgs (topS 36)) (defBody (topS 36)) (defScope (topS 36)) .none kV__law_due dc__law_due pm__law_due an__law_due cd__law_due ct__law_due), sl__law_due⟩)
    (o__law_due : PySem.W.codeIn K cd__law_due "_law_due" = true)
    (p__law_due : PySem.W.keepIn K (.ref f__law_due) = true)
    (d__law_read : PySem.W.nsIn K mainGlobals "_law_read" = some (some (.ref f__law_read)))
    (l__law_read : K.lookup f__law_read = some ⟨oc__law_read, od__law_read, .func (PySem.W.fnOf "_law_read" "_law_read" (defArgs (topS 37)) (defBody (topS 37)) (defScope (topS 37)) .none kV__law_read dc__law_read pm__law_read an__law_read cd__law_read ct__law_read), sl__law_read⟩)
    (o__law_read : PySem.W.codeIn K cd__law_read "_law_read" = true)
    (p__law_read : PySem.W.keepIn K (.ref f__law_read) = true)
    (d__law_texts : PySem.W.nsIn K mainGlobals "_law_texts" = some (some (.ref f__law_texts)))
    (l__law_texts : K.lookup f__law_texts = some ⟨oc__law_texts, od__law_texts, .func (PySem.W.fnOf "_law_texts" "_law_texts" (defArgs (topS 38)) (defBody (topS 38)) (defScope (topS 38)) .none kV__law_texts dc__law_texts pm__law_texts an__law_texts cd__law_texts ct__law_texts), sl__law_texts⟩)
    (o__law_texts : PySem.W.codeIn K cd__law_texts "_law_texts" = true)
    (p__law_texts : PySem.W.keepIn K (.ref f__law_texts) = true)
    (d_law : PySem.W.nsIn K mainGlobals "law" = some (some (.ref f_law)))
    (l_law : K.lookup f_law = some ⟨oc_law, od_law, .func (PySem.W.fnOf "law" "law" (defArgs (topS 39)) (defBody (topS 39)) (defScope (topS 39)) .none kV_law dc_law pm_law an_law cd_law ct_law), sl_law⟩)
    (o_law : PySem.W.codeIn K cd_law "law" = true)
    (p_law : PySem.W.keepIn K (.ref f_law) = true) :
    ∃ fd : FuncData, (∀ (s : Shared) (v : Value), BindsTo s fd ⟨[v], []⟩ [("script", v)]) ∧ ∀ base : Heap, K.In base → base.Ns mainGlobals mg → FnOk PySem.Challenge.pw_ringtolls_k82_whole_cuts_recovered w K mg base (L2.CX PySem.Challenge.pw_ringtolls_k82_whole_cuts_recovered w) 9 fa fd ["script"] (spLaw 63 K) := by
  have e := hfa.symm.trans (PySem.W.mg_of X G d_law)
  cases e
  let cl : Nat → Addr := fun n => match n with | 0 => C0 | 1 => C1 | _ => 0
  have T : Txt PySem.Challenge.pw_ringtolls_k82_whole_cuts_recovered K mg cl Dd fI cc cda := {
    b_ValueError := PySem.W.mg_none_of X G z_ValueError,
    b_all := PySem.W.mg_none_of X G z_all,
    b_bool := PySem.W.mg_none_of X G z_bool,
    b_enumerate := PySem.W.mg_none_of X G z_enumerate,
    b_int := PySem.W.mg_none_of X G z_int,
    b_isinstance := PySem.W.mg_none_of X G z_isinstance,
    b_len := PySem.W.mg_none_of X G z_len,
    b_list := PySem.W.mg_none_of X G z_list,
    b_max := PySem.W.mg_none_of X G z_max,
    b_min := PySem.W.mg_none_of X G z_min,
    b_ord := PySem.W.mg_none_of X G z_ord,
    b_range := PySem.W.mg_none_of X G z_range,
    b_str := PySem.W.mg_none_of X G z_str,
    b_tuple := PySem.W.mg_none_of X G z_tuple,
    c_CHECKS := ⟨_, PySem.W.mg_of X G c_CHECKS⟩,
    c_FIGURES := ⟨_, PySem.W.mg_of X G c_FIGURES⟩,
    c_FIRST_CHECK := ⟨_, PySem.W.mg_of X G c_FIRST_CHECK⟩,
    c_LETTERS := ⟨_, PySem.W.mg_of X G c_LETTERS⟩,
    c_MOST_FIGURES := ⟨_, PySem.W.mg_of X G c_MOST_FIGURES⟩,
    c_MOST_MESSAGES := ⟨_, PySem.W.mg_of X G c_MOST_MESSAGES⟩,
    c_MOST_VALUE := ⟨_, PySem.W.mg_of X G c_MOST_VALUE⟩,
    c_MOST_WORD := ⟨_, PySem.W.mg_of X G c_MOST_WORD⟩,
    c_MOST_WORK := ⟨_, PySem.W.mg_of X G c_MOST_WORK⟩,
    base := { tI := tB, clD := ⟨_, dB⟩, opq := oB, cell := ⟨_, _, _, eB⟩, code := ⟨_, _, _, _, _, _, kB, vB, fB⟩, top := by rfl, sup := PySem.W.mg_none_of X G sB, fn := ⟨_, _, _, _, _, _, _, lB, cB⟩ },
    x_BadEntries := { cls := ⟨_, _, _, _, _, _, _, _, _, _, _, _, _, _, _, l_BadEntries, r_BadEntries⟩, sa := sa_BadEntries, ga := ga_BadEntries, gg := gg_BadEntries, noN := nv_BadEntries, iC := ii_BadEntries, kC := kp_BadEntries, exC := ex_BadEntries, tyC := ty_BadEntries, hdC := hd_BadEntries, supC := su_BadEntries, subV := sv_BadEntries, mroD := mr_BadEntries },
    g_BadEntries := PySem.W.mg_of X G a_BadEntries,
    m_BadEntries := me_BadEntries,
    x_BadJournal := { cls := ⟨_, _, _, _, _, _, _, _, _, _, _, _, _, _, _, l_BadJournal, r_BadJournal⟩, sa := sa_BadJournal, ga := ga_BadJournal, gg := gg_BadJournal, noN := nv_BadJournal, iC := ii_BadJournal, kC := kp_BadJournal, exC := ex_BadJournal, tyC := ty_BadJournal, hdC := hd_BadJournal, supC := su_BadJournal, subV := sv_BadJournal, mroD := mr_BadJournal },
    g_BadJournal := PySem.W.mg_of X G a_BadJournal,
    m_BadJournal := me_BadJournal,
    e_BadJournal := ⟨ga_BadJournal, gg_BadJournal, ex_BadJournal, hd_BadJournal, ec_BadJournal, en_BadJournal, et_BadJournal, em_BadJournal⟩,
    k_BadJournal := ek_BadJournal }
  have F_is_integer := fun_mk (st := topS 9) l_is_integer o_is_integer p_is_integer
  have B_is_integer := F_is_integer.binds (ps := ["thing"]) fun _ _ _ _ _ _ us hl => match us, hl with | [_], _ => rfl
  have F_is_word := fun_mk (st := topS 10) l_is_word o_is_word p_is_word
  have B_is_word := F_is_word.binds (ps := ["thing"]) fun _ _ _ _ _ _ us hl => match us, hl with | [_], _ => rfl
  have F_is_between := fun_mk (st := topS 11) l_is_between o_is_between p_is_between
  have B_is_between := F_is_between.binds (ps := ["thing", "least", "most"]) fun _ _ _ _ _ _ us hl => match us, hl with | [_, _, _], _ => rfl
  have F_number_in := fun_mk (st := topS 12) l_number_in o_number_in p_number_in
  have B_number_in := F_number_in.binds (ps := ["text"]) fun _ _ _ _ _ _ us hl => match us, hl with | [_], _ => rfl
  have F_is_value := fun_mk (st := topS 19) l_is_value o_is_value p_is_value
  have B_is_value := F_is_value.binds (ps := ["thing"]) fun _ _ _ _ _ _ us hl => match us, hl with | [_], _ => rfl
  have F_is_entry := fun_mk (st := topS 20) l_is_entry o_is_entry p_is_entry
  have B_is_entry := F_is_entry.binds (ps := ["thing"]) fun _ _ _ _ _ _ us hl => match us, hl with | [_], _ => rfl
  have F_check_behind := fun_mk (st := topS 21) l_check_behind o_check_behind p_check_behind
  have B_check_behind := F_check_behind.binds (ps := ["check", "text"]) fun _ _ _ _ _ _ us hl => match us, hl with | [_, _], _ => rfl
  have F_entry_text := fun_mk (st := topS 22) l_entry_text o_entry_text p_entry_text
  have B_entry_text := F_entry_text.binds (ps := ["entry"]) fun _ _ _ _ _ _ us hl => match us, hl with | [_], _ => rfl
  have F_write_journal := fun_mk (st := topS 23) l_write_journal o_write_journal p_write_journal
  have B_write_journal := F_write_journal.binds (ps := ["entries"]) fun _ _ _ _ _ _ us hl => match us, hl with | [_], _ => rfl
  have F_entry_in := fun_mk (st := topS 24) l_entry_in o_entry_in p_entry_in
  have B_entry_in := F_entry_in.binds (ps := ["text"]) fun _ _ _ _ _ _ us hl => match us, hl with | [_], _ => rfl
  have F_read_lines := fun_mk (st := topS 25) l_read_lines o_read_lines p_read_lines
  have B_read_lines := F_read_lines.binds (ps := ["text"]) fun _ _ _ _ _ _ us hl => match us, hl with | [_], _ => rfl
  have F_read_journal := fun_mk (st := topS 26) l_read_journal o_read_journal p_read_journal
  have B_read_journal := F_read_journal.binds (ps := ["text"]) fun _ _ _ _ _ _ us hl => match us, hl with | [_], _ => rfl
  have F_recover := fun_mk (st := topS 27) l_recover o_recover p_recover
  have B_recover := F_recover.binds (ps := ["text"]) fun _ _ _ _ _ _ us hl => match us, hl with | [_], _ => rfl
  have F__law_pool := fun_mk (st := topS 29) l__law_pool o__law_pool p__law_pool
  have B__law_pool := F__law_pool.binds (ps := ["script", "k"]) fun _ _ _ _ _ _ us hl => match us, hl with | [_, _], _ => rfl
  have F__law_take := fun_mk (st := topS 30) l__law_take o__law_take p__law_take
  have B__law_take := F__law_take.binds (ps := ["pool", "many"]) fun _ _ _ _ _ _ us hl => match us, hl with | [_, _], _ => rfl
  have F__law_entry := fun_mk (st := topS 31) l__law_entry o__law_entry p__law_entry
  have B__law_entry := F__law_entry.binds (ps := ["pool"]) fun _ _ _ _ _ _ us hl => match us, hl with | [_], _ => rfl
  have F__law_check := fun_mk (st := topS 32) l__law_check o__law_check p__law_check
  have B__law_check := F__law_check.binds (ps := ["check", "text"]) fun _ _ _ _ _ _ us hl => match us, hl with | [_, _], _ => rfl
  have F__law_is_word := fun_mk (st := topS 33) l__law_is_word o__law_is_word p__law_is_word
  have B__law_is_word := F__law_is_word.binds (ps := ["text"]) fun _ _ _ _ _ _ us hl => match us, hl with | [_], _ => rfl
  have F__law_number := fun_mk (st := topS 34) l__law_number o__law_number p__law_number
  have B__law_number := F__law_number.binds (ps := ["text", "least", "most"]) fun _ _ _ _ _ _ us hl => match us, hl with | [_, _, _], _ => rfl
  have F__law_entry_in := fun_mk (st := topS 35) l__law_entry_in o__law_entry_in p__law_entry_in
  have B__law_entry_in := F__law_entry_in.binds (ps := ["text"]) fun _ _ _ _ _ _ us hl => match us, hl with | [_], _ => rfl
  have F__law_due := fun_mk (st := topS 36) l__law_due o__law_due p__law_due
  have B__law_due := F__law_due.binds (ps := ["text"]) fun _ _ _ _ _ _ us hl => match us, hl with | [_], _ => rfl
  have F__law_read := fun_mk (st := topS 37) l__law_read o__law_read p__law_read
  have B__law_read := F__law_read.binds (ps := ["text"]) fun _ _ _ _ _ _ us hl => match us, hl with | [_], _ => rfl
  have F__law_texts := fun_mk (st := topS 38) l__law_texts o__law_texts p__law_texts
  have B__law_texts := F__law_texts.binds (ps := ["pool", "text"]) fun _ _ _ _ _ _ us hl => match us, hl with | [_, _], _ => rfl
  have F_law := fun_mk (st := topS 39) l_law o_law p_law
  have B_law := F_law.binds (ps := ["script"]) fun _ _ _ _ _ _ us hl => match us, hl with | [_], _ => rfl
  refine ⟨PySem.W.fnOf "law" "law" (defArgs (topS 39)) (defBody (topS 39)) (defScope (topS 39)) .none kV_law dc_law pm_law an_law cd_law ct_law, fun s v => .of_eq rfl, fun base _ _ => ?_⟩
  have H_is_integer := ok_is_integer (w := w) (base := base) T  F_is_integer (PySem.W.mg_of X G d_is_integer) B_is_integer
  have H_is_word := ok_is_word (w := w) (base := base) T  F_is_word (PySem.W.mg_of X G d_is_word) B_is_word
  have H_is_between := ok_is_between (w := w) (base := base) T H_is_integer F_is_between (PySem.W.mg_of X G d_is_between) B_is_between
  have H_number_in := ok_number_in (w := w) (base := base) T  F_number_in (PySem.W.mg_of X G d_number_in) B_number_in
  have H_is_value := ok_is_value (w := w) (base := base) T H_is_between F_is_value (PySem.W.mg_of X G d_is_value) B_is_value
  have H_is_entry := ok_is_entry (w := w) (base := base) T H_is_word H_is_between H_is_value F_is_entry (PySem.W.mg_of X G d_is_entry) B_is_entry
  have H_check_behind := ok_check_behind (w := w) (base := base) T  F_check_behind (PySem.W.mg_of X G d_check_behind) B_check_behind
  have H_entry_text := ok_entry_text (w := w) (base := base) T  F_entry_text (PySem.W.mg_of X G d_entry_text) B_entry_text
  have H_write_journal := ok_write_journal (w := w) (base := base) T H_is_entry H_entry_text H_check_behind F_write_journal (PySem.W.mg_of X G d_write_journal) B_write_journal
  have H_entry_in := ok_entry_in (w := w) (base := base) T H_number_in H_is_entry H_entry_text F_entry_in (PySem.W.mg_of X G d_entry_in) B_entry_in
  have H_read_lines := ok_read_lines (w := w) (base := base) T H_entry_in H_check_behind F_read_lines (PySem.W.mg_of X G d_read_lines) B_read_lines
  have H_read_journal := ok_read_journal (w := w) (base := base) T H_read_lines F_read_journal (PySem.W.mg_of X G d_read_journal) B_read_journal
  have H_recover := ok_recover (w := w) (base := base) T H_read_lines F_recover (PySem.W.mg_of X G d_recover) B_recover
  have H__law_pool := ok__law_pool (w := w) (base := base) T  F__law_pool (PySem.W.mg_of X G d__law_pool) B__law_pool
  have H__law_take := ok__law_take (w := w) (base := base) T  F__law_take (PySem.W.mg_of X G d__law_take) B__law_take
  have H__law_entry := ok__law_entry (w := w) (base := base) T H__law_take F__law_entry (PySem.W.mg_of X G d__law_entry) B__law_entry
  have H__law_check := ok__law_check (w := w) (base := base) T  F__law_check (PySem.W.mg_of X G d__law_check) B__law_check
  have H__law_is_word := ok__law_is_word (w := w) (base := base) T  F__law_is_word (PySem.W.mg_of X G d__law_is_word) B__law_is_word
  have H__law_number := ok__law_number (w := w) (base := base) T  F__law_number (PySem.W.mg_of X G d__law_number) B__law_number
  have H__law_entry_in := ok__law_entry_in (w := w) (base := base) T H__law_is_word H__law_number F__law_entry_in (PySem.W.mg_of X G d__law_entry_in) B__law_entry_in
  have H__law_due := ok__law_due (w := w) (base := base) T H__law_entry_in H__law_check F__law_due (PySem.W.mg_of X G d__law_due) B__law_due
  have H__law_read := ok__law_read (w := w) (base := base) T H_read_journal F__law_read (PySem.W.mg_of X G d__law_read) B__law_read
  have H__law_texts := ok__law_texts (w := w) (base := base) T H__law_take F__law_texts (PySem.W.mg_of X G d__law_texts) B__law_texts
  exact (fnok_law T H__law_pool H__law_take H__law_entry H_write_journal H__law_texts H__law_due H_recover H__law_read F_law).imp (spLaw_of lawT)
end G
open PySem PySem.W PyProof.Rows
set_option maxHeartbeats 0 in
theorem PySem.Challenge.cw_ringtolls_k82_whole_cuts_recovered_holds : PySem.Challenge.rw_ringtolls_k82_whole_cuts_recovered.Holds := by
  w_on; o_law; k_head; (case hw => w_witness2)
  k_fill
  refine L2.walk_of (l := PySem.Challenge.rw_ringtolls_k82_whole_cuts_recovered) (n := 63) (k := 9) (x := "script") (CX := fun w => L2.CX PySem.Challenge.pw_ringtolls_k82_whole_cuts_recovered w) (sp := fun w => Mi.spLaw 63 _) rfl (by decide) rfl ⟨rfl, by decide, by decide⟩ (fun w h Y => PySem.W.kIn_of Y) ?F (fun _ _ a ns hl _ hS => ⟨a, ns, rfl, hl, hS, fun _ => rfl⟩) (fun _ _ _ _ _ h => by obtain ⟨_, _, _, _, _, _, _, _, _, _, _, _, z⟩ := h; exact z)
  case F =>
    intro w mg fa h KX G hmg
    refine' _root_.G.all_mk KX G hmg _root_.G.law_true ?aB ?iB ?lB ?cB ?tB ?dB ?oB ?eB ?kB ?vB ?fB ?sB ?a_BadEntries ?l_BadEntries ?r_BadEntries ?sa_BadEntries ?ga_BadEntries ?gg_BadEntries ?nv_BadEntries ?ii_BadEntries ?kp_BadEntries ?ex_BadEntries ?ty_BadEntries ?hd_BadEntries ?su_BadEntries ?sv_BadEntries ?mr_BadEntries ?me_BadEntries ?a_BadJournal ?l_BadJournal ?r_BadJournal ?sa_BadJournal ?ga_BadJournal ?gg_BadJournal ?nv_BadJournal ?ii_BadJournal ?kp_BadJournal ?ex_BadJournal ?ty_BadJournal ?hd_BadJournal ?su_BadJournal ?sv_BadJournal ?mr_BadJournal ?me_BadJournal ?ec_BadJournal ?en_BadJournal ?et_BadJournal ?em_BadJournal ?ek_BadJournal ?z_ValueError ?z_all ?z_bool ?z_enumerate ?z_int ?z_isinstance ?z_len ?z_list ?z_max ?z_min ?z_ord ?z_range ?z_str ?z_tuple ?c_CHECKS ?c_FIGURES ?c_FIRST_CHECK ?c_LETTERS ?c_MOST_FIGURES ?c_MOST_MESSAGES ?c_MOST_VALUE ?c_MOST_WORD ?c_MOST_WORK ?d_is_integer ?l_is_integer ?o_is_integer ?p_is_integer ?d_is_word ?l_is_word ?o_is_word ?p_is_word ?d_is_between ?l_is_between ?o_is_between ?p_is_between ?d_number_in ?l_number_in ?o_number_in ?p_number_in ?d_is_value ?l_is_value ?o_is_value ?p_is_value ?d_is_entry ?l_is_entry ?o_is_entry ?p_is_entry ?d_check_behind ?l_check_behind ?o_check_behind ?p_check_behind ?d_entry_text ?l_entry_text ?o_entry_text ?p_entry_text ?d_write_journal ?l_write_journal ?o_write_journal ?p_write_journal ?d_entry_in ?l_entry_in ?o_entry_in ?p_entry_in ?d_read_lines ?l_read_lines ?o_read_lines ?p_read_lines ?d_read_journal ?l_read_journal ?o_read_journal ?p_read_journal ?d_recover ?l_recover ?o_recover ?p_recover ?d__law_pool ?l__law_pool ?o__law_pool ?p__law_pool ?d__law_take ?l__law_take ?o__law_take ?p__law_take ?d__law_entry ?l__law_entry ?o__law_entry ?p__law_entry ?d__law_check ?l__law_check ?o__law_check ?p__law_check ?d__law_is_word ?l__law_is_word ?o__law_is_word ?p__law_is_word ?d__law_number ?l__law_number ?o__law_number ?p__law_number ?d__law_entry_in ?l__law_entry_in ?o__law_entry_in ?p__law_entry_in ?d__law_due ?l__law_due ?o__law_due ?p__law_due ?d__law_read ?l__law_read ?o__law_read ?p__law_read ?d__law_texts ?l__law_texts ?o__law_texts ?p__law_texts ?d_law ?l_law ?o_law ?p_law
    (case aB => k_is)
    (case iB => k_is)
    (case lB => k_is)
    (case cB => k_is)
    (case tB => k_is)
    (case dB => k_is)
    (case oB => k_is)
    (case eB => k_is)
    (case kB => k_is)
    (case vB => rfl)
    (case fB => rfl)
    (case sB => k_is)
    (case a_BadEntries => k_is)
    (case l_BadEntries => k_is)
    (case r_BadEntries => decide +kernel)
    (case sa_BadEntries => k_is)
    (case ga_BadEntries => k_is)
    (case gg_BadEntries => k_is)
    (case nv_BadEntries => k_is)
    (case ii_BadEntries => k_is)
    (case kp_BadEntries => k_is)
    (case ex_BadEntries => k_is)
    (case ty_BadEntries => k_is)
    (case hd_BadEntries => k_is)
    (case su_BadEntries => rfl)
    (case sv_BadEntries => k_is)
    (case mr_BadEntries => k_is)
    (case me_BadEntries => rfl)
    (case a_BadJournal => k_is)
    (case l_BadJournal => k_is)
    (case r_BadJournal => decide +kernel)
    (case sa_BadJournal => k_is)
    (case ga_BadJournal => k_is)
    (case gg_BadJournal => k_is)
    (case nv_BadJournal => k_is)
    (case ii_BadJournal => k_is)
    (case kp_BadJournal => k_is)
    (case ex_BadJournal => k_is)
    (case ty_BadJournal => k_is)
    (case hd_BadJournal => k_is)
    (case su_BadJournal => rfl)
    (case sv_BadJournal => k_is)
    (case mr_BadJournal => k_is)
    (case me_BadJournal => rfl)
    (case ec_BadJournal => k_is)
    (case en_BadJournal => k_is)
    (case et_BadJournal => k_is)
    (case em_BadJournal => k_is)
    (case ek_BadJournal => rfl)
    (case z_ValueError => k_is)
    (case z_all => k_is)
    (case z_bool => k_is)
    (case z_enumerate => k_is)
    (case z_int => k_is)
    (case z_isinstance => k_is)
    (case z_len => k_is)
    (case z_list => k_is)
    (case z_max => k_is)
    (case z_min => k_is)
    (case z_ord => k_is)
    (case z_range => k_is)
    (case z_str => k_is)
    (case z_tuple => k_is)
    (case c_CHECKS => k_is)
    (case c_FIGURES => k_is)
    (case c_FIRST_CHECK => k_is)
    (case c_LETTERS => k_is)
    (case c_MOST_FIGURES => k_is)
    (case c_MOST_MESSAGES => k_is)
    (case c_MOST_VALUE => k_is)
    (case c_MOST_WORD => k_is)
    (case c_MOST_WORK => k_is)
    (case d_is_integer => k_is)
    (case l_is_integer => k_is)
    (case o_is_integer => k_is)
    (case p_is_integer => k_is)
    (case d_is_word => k_is)
    (case l_is_word => k_is)
    (case o_is_word => k_is)
    (case p_is_word => k_is)
    (case d_is_between => k_is)
    (case l_is_between => k_is)
    (case o_is_between => k_is)
    (case p_is_between => k_is)
    (case d_number_in => k_is)
    (case l_number_in => k_is)
    (case o_number_in => k_is)
    (case p_number_in => k_is)
    (case d_is_value => k_is)
    (case l_is_value => k_is)
    (case o_is_value => k_is)
    (case p_is_value => k_is)
    (case d_is_entry => k_is)
    (case l_is_entry => k_is)
    (case o_is_entry => k_is)
    (case p_is_entry => k_is)
    (case d_check_behind => k_is)
    (case l_check_behind => k_is)
    (case o_check_behind => k_is)
    (case p_check_behind => k_is)
    (case d_entry_text => k_is)
    (case l_entry_text => k_is)
    (case o_entry_text => k_is)
    (case p_entry_text => k_is)
    (case d_write_journal => k_is)
    (case l_write_journal => k_is)
    (case o_write_journal => k_is)
    (case p_write_journal => k_is)
    (case d_entry_in => k_is)
    (case l_entry_in => k_is)
    (case o_entry_in => k_is)
    (case p_entry_in => k_is)
    (case d_read_lines => k_is)
    (case l_read_lines => k_is)
    (case o_read_lines => k_is)
    (case p_read_lines => k_is)
    (case d_read_journal => k_is)
    (case l_read_journal => k_is)
    (case o_read_journal => k_is)
    (case p_read_journal => k_is)
    (case d_recover => k_is)
    (case l_recover => k_is)
    (case o_recover => k_is)
    (case p_recover => k_is)
    (case d__law_pool => k_is)
    (case l__law_pool => k_is)
    (case o__law_pool => k_is)
    (case p__law_pool => k_is)
    (case d__law_take => k_is)
    (case l__law_take => k_is)
    (case o__law_take => k_is)
    (case p__law_take => k_is)
    (case d__law_entry => k_is)
    (case l__law_entry => k_is)
    (case o__law_entry => k_is)
    (case p__law_entry => k_is)
    (case d__law_check => k_is)
    (case l__law_check => k_is)
    (case o__law_check => k_is)
    (case p__law_check => k_is)
    (case d__law_is_word => k_is)
    (case l__law_is_word => k_is)
    (case o__law_is_word => k_is)
    (case p__law_is_word => k_is)
    (case d__law_number => k_is)
    (case l__law_number => k_is)
    (case o__law_number => k_is)
    (case p__law_number => k_is)
    (case d__law_entry_in => k_is)
    (case l__law_entry_in => k_is)
    (case o__law_entry_in => k_is)
    (case p__law_entry_in => k_is)
    (case d__law_due => k_is)
    (case l__law_due => k_is)
    (case o__law_due => k_is)
    (case p__law_due => k_is)
    (case d__law_read => k_is)
    (case l__law_read => k_is)
    (case o__law_read => k_is)
    (case p__law_read => k_is)
    (case d__law_texts => k_is)
    (case l__law_texts => k_is)
    (case o__law_texts => k_is)
    (case p__law_texts => k_is)
    (case d_law => k_is)
    (case l_law => k_is)
    (case o_law => k_is)
    (case p_law => k_is)
