import PyProof.Rows.All
import Wide.All
import OpenK.AllK
import Wide.FinOn
import HandS.ForMost
import HandS.ForExc
import HandS.IsInst
import HandS.TryMany
import HandS.FStr
import HandS.Lambda
import HandS.Wide
import HandS.TupAny
import HandS.Style
import HandS.RaiseMore
import HandS.ExcSuper
import HandS.ExcField
import KE.KExcSuper
import HandS.ExcIs
import HandS.Replace
import HandS.ReplaceLit
import HandS.Text
import KE.IntTextLaws
import PyProof.Rows.MatchSeqLen
import PyProof.Rows.TupIter
import PyProof.InstEq
import HandS.OwnEq
import KE.GoesEnum
import HandS.Iter
import KE.KxField
import HandS.EndTab
import PySem.Challenge.RW_ringtolls_k01_counts_judged
set_option Elab.async false
set_option linter.all false
set_option maxRecDepth 100000
set_option maxHeartbeats 4000000
set_option exponentiation.threshold 3000
set_option exponentiation.threshold 20000
namespace Mi
open PySem PySem.Spec PyProof.Rows L2
inductive D where
  | non | bl (b : Bool) | int (i : Int) | str (s : Str)
  | tup (l : List D) | lst (l : List D)
  | ins (c : Nat) (ns : List Str) (l : List D)
  | dc0
  | scr (l : List Int)
  | dct (ks : List Str) (l : List D)
  | fn
structure CL where
  f : Nat → Addr
  ts : List (Addr × Str)
  fn : Option (Addr × Hp) := none
  fl : Hp := fun _ => none
instance : CoeFun CL (fun _ => Nat → Addr) := ⟨CL.f⟩
def NoT (B : Hp) : Prop := ∀ b ps, B b ≠ some (.tbl ps)
def noT (H : Hp) : Hp := fun b => match H b with
  | some (.tbl _) => none
  | o => o
theorem noT_sub {H : Hp} {b : Addr} {o : HO} (h : noT H b = some o) : H b = some o := by
  unfold noT at h
  split at h
  · cases h
  · exact h
theorem noT_not (H : Hp) : NoT (noT H) := fun b ps h => by
  have h2 := noT_sub h
  unfold noT at h
  rw [h2] at h
  cases h
theorem noT_of {H : Hp} {b : Addr} {o : HO} (h : H b = some o) (n : ∀ ps, o ≠ .tbl ps) : noT H b = some o := by
  unfold noT
  split
  · rename_i ps e
    rw [h] at e
    exact (n ps (Option.some.inj e)).elim
  · exact h
theorem noT_none {H : Hp} {b : Addr} (h : H b = none) : noT H b = none := by
  cases q : noT H b with
  | none => rfl
  | some o => rw [noT_sub q] at h; cases h
theorem noT_same (H : Hp) : Same (noT H) H := fun _ _ h => noT_sub h
theorem same_noT {A H : Hp} (s : Same A H) (n : NoT A) : Same A (noT H) := fun b o h => noT_of (s b o h) fun ps z => n b ps (by rw [h, z])
theorem same_noT2 {A B : Hp} (s : Same A B) : Same (noT A) (noT B) := same_noT (fun b o h => s b o (noT_sub h)) (noT_not A)
theorem NoT.upd {B : Hp} {p : Addr} {o : HO} (h : NoT B) (n : ∀ ps, o ≠ .tbl ps) : NoT (upd B p o) := fun b ps e => by
  by_cases hb : b = p
  · subst hb
    rw [upd_same] at e
    exact n ps (Option.some.inj e)
  · rw [upd_ne hb] at e
    exact h b ps e
theorem same_low {A B : Hp} {p : Addr} {o : HO} (s : Same A (L2.upd B p o)) (n : A p = none) : Same A B := fun b u e => by
  have z := s b u e
  rw [upd_ne (ne_of_none e n)] at z
  exact z
theorem NoT.low {B : Hp} {p : Addr} {o : HO} (h : NoT (L2.upd B p o)) (n : B p = none) : NoT B := fun b ps e => h b ps (by rw [upd_ne (ne_of_none e n)]; exact e)
mutual
inductive At (K : PySem.W.Frag) (cl : CL) (B : Hp) : V → D → Prop
  | non : At K cl B .non .non
  | bl (b : Bool) : At K cl B (.bl b) (.bl b)
  | int (i : Int) : At K cl B (.int i) (.int i)
  | str (s : Str) : At K cl B (.str s) (.str s)
  | tup {p : Addr} {vs : List V} {ds : List D} : SqT K B p vs → AtL K cl B vs ds → At K cl B (.ref p) (.tup ds)
  | lst {p : Addr} {vs : List V} {ds : List D} : B p = some (.lst vs) → AtL K cl B vs ds → At K cl B (.ref p) (.lst ds)
  | ins {p dx : Addr} {c : Nat} {ns : List Str} {vs : List V} {ds : List D} : B p = some (.ins (cl c) dx (ns.zip vs)) → vs.length = ns.length → AtL K cl B vs ds → At K cl B (.ref p) (.ins c ns ds)
  | dc0 {p : Addr} : B p = some (.dK []) → At K cl B (.ref p) .dc0
  | scr {p : Addr} {l : List Int} : SqL K B p (l.map V.int) → At K cl B (.ref p) (.scr l)
  | dct {p : Addr} {ks : List Str} {vs : List V} {ds : List D} : B p = some (.dK ((ks.map Sum.inr).zip vs)) → vs.length = ks.length → AtL K cl B vs ds → At K cl B (.ref p) (.dct ks ds)
  | fn {p : Addr} {G : Hp} : cl.fn = some (p, G) → Same G B → At K cl B (.ref p) .fn
inductive AtL (K : PySem.W.Frag) (cl : CL) (B : Hp) : List V → List D → Prop
  | nil : AtL K cl B [] []
  | cons {v : V} {vs : List V} {d : D} {ds : List D} : At K cl B v d → AtL K cl B vs ds → AtL K cl B (v :: vs) (d :: ds)
end
section
variable {K : PySem.W.Frag} {cl : CL} {B B' : Hp}
theorem sqT_mono {p : Addr} {vs : List V} (e : Same B B') (h : SqT K B p vs) : SqT K B' p vs := by
  rcases h with (h | ⟨o, h⟩) | h
  · exact .inl (.inl (e _ _ h))
  · exact .inl (.inr ⟨o, e _ _ h⟩)
  · exact .inr h
theorem sqL_mono {p : Addr} {vs : List V} (e : Same B B') (h : SqL K B p vs) : SqL K B' p vs := by
  rcases h with (h | ⟨o, h⟩) | h
  · exact .inl (.inl (e _ _ h))
  · exact .inl (.inr ⟨o, e _ _ h⟩)
  · exact .inr h
mutual
theorem At.mono (e : Same B B') : ∀ (d : D) (v : V), At K cl B v d → At K cl B' v d
  | .non, _, h => by cases h; exact .non
  | .bl b, _, h => by cases h; exact .bl b
  | .int i, _, h => by cases h; exact .int i
  | .str s, _, h => by cases h; exact .str s
  | .tup ds, _, h => by
    cases h with
    | tup h1 h2 => exact .tup (sqT_mono e h1) (At.monoL e ds _ h2)
  | .lst ds, _, h => by
    cases h with
    | lst h1 h2 => exact .lst (e _ _ h1) (At.monoL e ds _ h2)
  | .ins c ns ds, _, h => by
    cases h with
    | ins h1 h2 h3 => exact .ins (e _ _ h1) h2 (At.monoL e ds _ h3)
  | .dc0, _, h => by
    cases h with
    | dc0 h1 => exact .dc0 (e _ _ h1)
  | .scr l, _, h => by
    cases h with
    | scr h1 => exact .scr (sqL_mono e h1)
  | .fn, _, h => by
    cases h with
    | fn h1 h2 => exact .fn h1 (h2.trans e)
  | .dct ks ds, _, h => by
    cases h with
    | dct h1 h2 h3 => exact .dct (e _ _ h1) h2 (At.monoL e ds _ h3)
theorem At.monoL (e : Same B B') : ∀ (ds : List D) (vs : List V), AtL K cl B vs ds → AtL K cl B' vs ds
  | [], _, h => by cases h; exact .nil
  | d :: ds, _, h => by
    cases h with
    | cons h1 h2 => exact .cons (At.mono e d _ h1) (At.monoL e ds _ h2)
end
theorem At.up (h : At K cl B v d) (e : Same B B') : At K cl B' v d := At.mono e d v h
theorem AtL.up {vs : List V} {ds : List D} (h : AtL K cl B vs ds) (e : Same B B') : AtL K cl B' vs ds := At.monoL e ds vs h
theorem AtL.len : ∀ {vs : List V} {ds : List D}, AtL K cl B vs ds → vs.length = ds.length
  | _, _, .nil => rfl
  | _, _, .cons _ t => congrArg Nat.succ (AtL.len t)
theorem AtL.app : ∀ {vs ws : List V} {ds es : List D}, AtL K cl B vs ds → AtL K cl B ws es → AtL K cl B (vs ++ ws) (ds ++ es)
  | _, _, _, _, .nil, h => h
  | _, _, _, _, .cons a t, h => .cons a (AtL.app t h)
theorem AtL.one {v : V} {d : D} (h : At K cl B v d) : AtL K cl B [v] [d] := .cons h .nil
theorem AtL.get : ∀ {vs : List V} {ds : List D} {i : Nat} {d : D}, AtL K cl B vs ds → ds[i]? = some d → ∃ v, vs[i]? = some v ∧ At K cl B v d
  | _, _, 0, d, .cons a t, h => by
    have e := Option.some.inj h
    subst e
    exact ⟨_, rfl, a⟩
  | _, _, i + 1, d, .cons a t, h => by
    obtain ⟨v, h1, h2⟩ := AtL.get (i := i) t (by simpa using h)
    exact ⟨v, by simpa using h1, h2⟩
theorem AtL.getV {vs : List V} {ds : List D} {i : Nat} {v : V} (h : AtL K cl B vs ds) (hv : vs[i]? = some v) : ∃ d, ds[i]? = some d ∧ At K cl B v d := by
  have hl := h.len
  have hi : i < vs.length := (List.getElem?_eq_some_iff.mp hv).1
  have hi' : i < ds.length := by omega
  obtain ⟨w, h1, h2⟩ := h.get (List.getElem?_eq_getElem hi')
  rw [hv] at h1
  cases h1
  exact ⟨_, List.getElem?_eq_getElem hi', h2⟩
theorem AtL.take : ∀ {vs : List V} {ds : List D} (n : Nat), AtL K cl B vs ds → AtL K cl B (vs.take n) (ds.take n)
  | _, _, 0, _ => .nil
  | _, _, _ + 1, .nil => .nil
  | _, _, n + 1, .cons a t => .cons a (AtL.take n t)
theorem AtL.drop : ∀ {vs : List V} {ds : List D} (n : Nat), AtL K cl B vs ds → AtL K cl B (vs.drop n) (ds.drop n)
  | _, _, 0, h => h
  | _, _, _ + 1, .nil => .nil
  | _, _, n + 1, .cons _ t => AtL.drop n t
theorem AtL.set : ∀ {vs : List V} {ds : List D} {v : V} {d : D} (i : Nat), AtL K cl B vs ds → At K cl B v d → AtL K cl B (vs.set i v) (ds.set i d)
  | _, _, _, _, _, .nil, _ => .nil
  | _, _, _, _, 0, .cons _ t, h => .cons h t
  | _, _, _, _, i + 1, .cons a t, h => .cons a (AtL.set i t h)
theorem AtL.rev {vs : List V} {ds : List D} (h : AtL K cl B vs ds) : AtL K cl B vs.reverse ds.reverse := by
  induction vs generalizing ds with
  | nil => cases h; exact .nil
  | cons v vs ih =>
    cases h with
    | cons a t => rw [List.reverse_cons, List.reverse_cons]; exact (ih t).app (.one a)
theorem AtL.ints (ns : List Int) : AtL K cl B (ns.map V.int) (ns.map D.int) := by
  induction ns with
  | nil => exact .nil
  | cons n ns ih => exact .cons (.int n) ih
theorem AtL.strs (ns : List Str) : AtL K cl B (ns.map V.str) (ns.map D.str) := by
  induction ns with
  | nil => exact .nil
  | cons n ns ih => exact .cons (.str n) ih
end
inductive Sl where
  | un | dat (d : D) | own (l : List D)
abbrev En := List Sl
inductive R (α : Type) where
  | ok (a : α) | exc (c : Nat) (d : D) | bad
abbrev M (α : Type) := En → R (α × En)
def ret {α : Type} (a : α) : M α := fun es => .ok (a, es)
def bnd {α β : Type} (m : M α) (f : α → M β) : M β := fun es => match m es with
  | .ok (a, es1) => f a es1
  | .exc c d => .exc c d
  | .bad => .bad
def bad {α : Type} : M α := fun _ => .bad
def lft {α : Type} (r : R α) : M α := fun es => match r with
  | .ok a => .ok (a, es)
  | .exc c d => .exc c d
  | .bad => .bad
inductive Out where
  | nx | rt (d : D) | bk | ct
def Frs (B F B' : Hp) : Prop := ∀ x o, B' x = some o → B x = none → F x = none
theorem Frs.refl (B F : Hp) : Frs B F B := fun x o h n => by rw [n] at h; cases h
theorem Frs.trans {B F B1 B2 : Hp} (a : Frs B F B1) (b : Frs B1 F B2) : Frs B F B2 := fun x o h n => by
  cases e : B1 x with
  | none => exact b x o h e
  | some u => exact a x u e n
structure Zp where
  z : Option Addr
  ts : List (Addr × Str)
theorem tabs_upd {T : List (Addr × Str)} {H : Hp} {p : Addr} {o o' : HO} (t : LamX.Tabs T H) (h : H p = some o) (ht : ∀ ps, o ≠ .tbl ps) (he : ∀ f, o ≠ .ext f) : LamX.Tabs T (upd H p o') := fun q hq => by
  obtain ⟨ps, h1, h2, h3⟩ := t q hq
  refine ⟨ps, ?_, h2, fun pos cv e => ?_⟩
  · rw [upd_ne (fun z => by rw [z, h] at h1; exact ht ps (Option.some.inj h1))]
    exact h1
  · obtain ⟨c, e1, e2⟩ := h3 pos cv e
    exact ⟨c, e1, by rw [upd_ne (fun z => by rw [z, h] at e2; exact he _ (Option.some.inj e2))]; exact e2⟩
theorem tabs_lst {T : List (Addr × Str)} {H : Hp} {p : Addr} {ws vs : List V} (t : LamX.Tabs T H) (h : H p = some (.lst ws)) : LamX.Tabs T (upd H p (.lst vs)) := fun q hq => by
  obtain ⟨ps, h1, h2, h3⟩ := t q hq
  refine ⟨ps, ?_, h2, fun pos cv e => ?_⟩
  · rw [upd_ne (fun z => by rw [z, h] at h1; cases h1)]
    exact h1
  · obtain ⟨c, e1, e2⟩ := h3 pos cv e
    exact ⟨c, e1, by rw [upd_ne (fun z => by rw [z, h] at e2; cases e2)]; exact e2⟩
structure Bas (cl : CL) (B H : Hp) : Prop where
  bh : Same B H
  nb : NoT B
  tab : LamX.Tabs cl.ts H
  fl : Same cl.fl (noT H)
structure Rel (K : PySem.W.Frag) (cl : CL) (zA : Zp) (F B H : Hp) (es : En) (σ : L2.St) : Prop where
  bh : Same B H
  fh : Same F H
  len : es.length = σ.length
  dat : ∀ (i : Nat) (d : D), es[i]? = some (.dat d) → ∃ v, σ[i]? = some (some v) ∧ At K cl B v d
  own : ∀ (i : Nat) (l : List D), es[i]? = some (.own l) → ∃ (p : Addr) (vs : List V), σ[i]? = some (some (.ref p)) ∧ B p = none ∧ F p = none ∧ H p = some (.lst vs) ∧ AtL K cl B vs l
  apart : ∀ (i j : Nat) (l m : List D) (p : Addr), i ≠ j → es[i]? = some (.own l) → es[j]? = some (.own m) → σ[i]? = some (some (.ref p)) → σ[j]? = some (some (.ref p)) → False
  zero : ∀ (p : Addr) (l : List D), zA.z = some p → es[0]? = some (.own l) → σ[0]? = some (some (.ref p))
  tab : LamX.Tabs cl.ts H
  nb : NoT B
  nf : NoT F
  fl : Same cl.fl F
def Exk (K : PySem.W.Frag) (cl : CL) (E : XK) (F B : Hp) (c : Nat) (d : D) : Prop := ∀ (v : V) (dx : Addr) (B' H' : Hp), Same B B' → Frs B F B' → Same F H' → Bas cl B' H' → F dx = none → B' dx = none →
  H' dx = some (.xd [(("value" : Str), v)]) → At K cl B' v d → E (.ref (cl c)) (some dx) H'
def Po (K : PySem.W.Frag) (cl : CL) (E : XK) (F B : Hp) {α : Type} (r : R (α × En)) (k : α → En → Hp → Hp → Prop) : Prop := match r with
  | .ok (a, es) => ∀ B' H', Same B B' → Frs B F B' → k a es B' H'
  | .exc c d => Exk K cl E F B c d
  | .bad => False
section
variable {K : PySem.W.Frag} {cl : CL} {zA : Zp} {E : XK} {F B B' H H' : Hp} {es : En} {σ : L2.St}
theorem Exk.up {c : Nat} {d : D} (e : Same B B') (f : Frs B F B') (h : Exk K cl E F B c d) : Exk K cl E F B' c d := fun v dx B2 H2 a b => h v dx B2 H2 (e.trans a) (f.trans b)
theorem Po.up {α : Type} {r : R (α × En)} {k : α → En → Hp → Hp → Prop} (e : Same B B') (f : Frs B F B') (h : Po K cl E F B r k) : Po K cl E F B' r k := by
  cases r with
  | ok p => exact fun B2 H2 a b => h B2 H2 (e.trans a) (f.trans b)
  | exc c d => exact Exk.up e f h
  | bad => exact h
theorem Po.imp {α : Type} {r : R (α × En)} {k k' : α → En → Hp → Hp → Prop} (h : Po K cl E F B r k) (hk : ∀ a es B' H', Same B B' → Frs B F B' → k a es B' H' → k' a es B' H') : Po K cl E F B r k' := by
  cases r with
  | ok p => exact fun B2 H2 a b => hk _ _ _ _ a b (h B2 H2 a b)
  | exc c d => exact h
  | bad => exact h
theorem Po.bnd {α β : Type} {m : M α} {f : α → M β} {k : β → En → Hp → Hp → Prop} (h : Po K cl E F B (bnd m f es) k) :
    Po K cl E F B (m es) (fun a es1 B1 _ => Po K cl E F B1 (f a es1) k) := by
  unfold Mi.bnd at h
  cases e : m es with
  | ok p =>
    rw [e] at h
    exact fun B1 H1 a b => Po.up a b h
  | exc c d => rw [e] at h; exact h
  | bad => rw [e] at h; exact h
theorem Rel.grow (r : Rel K cl zA F B H es σ) (bb : Same B B') (hh : Same (noT H) H') (bh : Bas cl B' H') (fr : Frs B (noT H) B') : Rel K cl zA F B' H' es σ where
  bh := bh.bh
  nb := bh.nb
  nf := r.nf
  fl := r.fl
  fh := (same_noT r.fh r.nf).trans hh
  len := r.len
  dat := fun i d e => by
    obtain ⟨v, h1, h2⟩ := r.dat i d e
    exact ⟨v, h1, h2.up bb⟩
  own := fun i l e => by
    obtain ⟨p, vs, h1, h2, h3, h4, h5⟩ := r.own i l e
    refine ⟨p, vs, h1, ?_, h3, hh _ _ (noT_of h4 fun _ z => by cases z), h5.up bb⟩
    cases q : B' p with
    | none => rfl
    | some o =>
      have z := fr p o q h2
      rw [noT_of h4 fun _ z => by cases z] at z
      cases z
  apart := r.apart
  zero := r.zero
  tab := bh.tab
theorem Frs.noT {B H B' : Hp} (f : Frs B H B') : Frs B (noT H) B' := fun x o h n => noT_none (f x o h n)
theorem Rel.growS (r : Rel K cl zA F B H es σ) (bb : Same B B') (hh : Same H H') (bh : Same B' H') (fr : Frs B H B') (nb : NoT B') : Rel K cl zA F B' H' es σ :=
  r.grow bb ((noT_same H).trans hh) ⟨bh, nb, fun q hq => (r.tab q hq).ext hh, r.fl.trans ((same_noT r.fh r.nf).trans (same_noT2 hh))⟩ fr.noT
theorem Rel.fhN (r : Rel K cl zA F B H es σ) : Same F (noT H) := same_noT r.fh r.nf
theorem Rel.bas (r : Rel K cl zA F B H es σ) : Bas cl B H := ⟨r.bh, r.nb, r.tab, r.fl.trans r.fhN⟩
theorem Rel.frs (r : Rel K cl zA F B H es σ) (fr : Frs B (noT H) B') : Frs B F B' := fun x o h n => r.fhN.free (fr x o h n)
theorem Rel.frsS (r : Rel K cl zA F B H es σ) (fr : Frs B H B') : Frs B F B' := r.frs fr.noT
theorem Rel.same (r : Rel K cl zA F B H es σ) : Same F H := r.fh
theorem same_new {p : Addr} {o : HO} (n : H p = none) : Same H (upd H p o) := fun b u e => by rw [upd_ne (ne_of_none e n)]; exact e
theorem Rel.news (r : Rel K cl zA F B H es σ) {p : Addr} {o : HO} (n : H p = none) (no : ∀ ps, o ≠ .tbl ps := by intro _ z; cases z) : Rel K cl zA F (upd B p o) (upd H p o) es σ ∧ Same B (upd B p o) ∧ Frs B F (upd B p o) := by
  have nb : B p = none := r.bh.free n
  have f : Frs B H (upd B p o) := fun x u h e => by
    by_cases hx : x = p
    · rw [hx]; exact n
    · rw [upd_ne hx, e] at h; cases h
  refine ⟨r.growS (same_new nb) (same_new n) (fun b u e => ?_) f (r.nb.upd no), same_new nb, r.frsS f⟩
  by_cases hb : b = p
  · subst hb
    rw [upd_same] at e ⊢
    exact e
  · rw [upd_ne hb] at e ⊢
    exact r.bh _ _ e
theorem Rel.put (r : Rel K cl zA F B H es σ) {i : Nat} {v : V} {d : D} (h : At K cl B v d) : Rel K cl zA F B H (es.set i (.dat d)) (σ.set i (some v)) where
  tab := r.tab
  nb := r.nb
  nf := r.nf
  fl := r.fl
  bh := r.bh
  fh := r.fh
  len := by rw [List.length_set, List.length_set]; exact r.len
  dat := fun j e q => by
    by_cases hj : i = j
    · subst hj
      have hi : i < es.length := by
        have := (List.getElem?_eq_some_iff.mp q).1
        rwa [List.length_set] at this
      rw [List.getElem?_set_self hi] at q
      cases q
      exact ⟨v, by rw [List.getElem?_set_self (by rw [← r.len]; exact hi)], h⟩
    · rw [List.getElem?_set_ne hj] at q ⊢
      exact r.dat j e q
  own := fun j l q => by
    by_cases hj : i = j
    · subst hj
      have hi : i < es.length := by
        have := (List.getElem?_eq_some_iff.mp q).1
        rwa [List.length_set] at this
      rw [List.getElem?_set_self hi] at q
      cases q
    · rw [List.getElem?_set_ne hj] at q ⊢
      exact r.own j l q
  apart := fun a b l m p ne ha hb sa sb => by
    by_cases hia : i = a
    · subst hia
      have hi : i < es.length := by
        have := (List.getElem?_eq_some_iff.mp ha).1
        rwa [List.length_set] at this
      rw [List.getElem?_set_self hi] at ha
      cases ha
    · by_cases hib : i = b
      · subst hib
        have hi : i < es.length := by
          have := (List.getElem?_eq_some_iff.mp hb).1
          rwa [List.length_set] at this
        rw [List.getElem?_set_self hi] at hb
        cases hb
      · rw [List.getElem?_set_ne hia] at ha sa
        rw [List.getElem?_set_ne hib] at hb sb
        exact r.apart a b l m p ne ha hb sa sb
  zero := fun p l e q => by
    by_cases hi : i = 0
    · subst hi
      have hi : 0 < es.length := by
        have := (List.getElem?_eq_some_iff.mp q).1
        rwa [List.length_set] at this
      rw [List.getElem?_set_self hi] at q
      cases q
    · rw [List.getElem?_set_ne hi] at q ⊢
      exact r.zero p l e q
theorem Rel.drop (r : Rel K cl zA F B H es σ) {i : Nat} {w : Option V} : Rel K cl zA F B H (es.set i .un) (σ.set i w) where
  tab := r.tab
  nb := r.nb
  nf := r.nf
  fl := r.fl
  bh := r.bh
  fh := r.fh
  len := by rw [List.length_set, List.length_set]; exact r.len
  dat := fun j e q => by
    by_cases hj : i = j
    · subst hj
      have hi : i < es.length := by
        have := (List.getElem?_eq_some_iff.mp q).1
        rwa [List.length_set] at this
      rw [List.getElem?_set_self hi] at q
      cases q
    · rw [List.getElem?_set_ne hj] at q ⊢
      exact r.dat j e q
  own := fun j l q => by
    by_cases hj : i = j
    · subst hj
      have hi : i < es.length := by
        have := (List.getElem?_eq_some_iff.mp q).1
        rwa [List.length_set] at this
      rw [List.getElem?_set_self hi] at q
      cases q
    · rw [List.getElem?_set_ne hj] at q ⊢
      exact r.own j l q
  apart := fun a b l m p ne ha hb sa sb => by
    by_cases hia : i = a
    · subst hia
      have hi : i < es.length := by
        have := (List.getElem?_eq_some_iff.mp ha).1
        rwa [List.length_set] at this
      rw [List.getElem?_set_self hi] at ha
      cases ha
    · by_cases hib : i = b
      · subst hib
        have hi : i < es.length := by
          have := (List.getElem?_eq_some_iff.mp hb).1
          rwa [List.length_set] at this
        rw [List.getElem?_set_self hi] at hb
        cases hb
      · rw [List.getElem?_set_ne hia] at ha sa
        rw [List.getElem?_set_ne hib] at hb sb
        exact r.apart a b l m p ne ha hb sa sb
  zero := fun p l e q => by
    by_cases hi : i = 0
    · subst hi
      have hi : 0 < es.length := by
        have := (List.getElem?_eq_some_iff.mp q).1
        rwa [List.length_set] at this
      rw [List.getElem?_set_self hi] at q
      cases q
    · rw [List.getElem?_set_ne hi] at q ⊢
      exact r.zero p l e q
theorem Rel.putOwn (r : Rel K cl zA F B H es σ) {i : Nat} {p : Addr} {vs : List V} {l : List D} (i0 : i ≠ 0) (n : H p = none) (h : AtL K cl B vs l) : Rel K cl zA F B (upd H p (.lst vs)) (es.set i (.own l)) (σ.set i (some (.ref p))) := by
  have nb : B p = none := r.bh.free n
  have nf : F p = none := r.fh.free n
  have notp : ∀ (j : Nat) (m : List D) (q : Addr), es[j]? = some (.own m) → σ[j]? = some (some (.ref q)) → q ≠ p := fun j m q e s => by
    obtain ⟨p', vs', h1, _, _, h4, _⟩ := r.own j m e
    rw [s] at h1
    cases h1
    exact ne_of_none h4 n
  refine ⟨r.bh.trans (same_new n), r.fh.trans (same_new n), by rw [List.length_set, List.length_set]; exact r.len, fun j e q => ?_, fun j m q => ?_, fun a b l' m q ne ha hb sa sb => ?_, fun q l e z => by rw [List.getElem?_set_ne i0] at z ⊢; exact r.zero q l e z, fun q hq => (r.tab q hq).ext (same_new n), r.nb, r.nf, r.fl⟩
  · by_cases hj : i = j
    · subst hj
      have hi : i < es.length := by
        have := (List.getElem?_eq_some_iff.mp q).1
        rwa [List.length_set] at this
      rw [List.getElem?_set_self hi] at q
      cases q
    · rw [List.getElem?_set_ne hj] at q ⊢
      exact r.dat j e q
  · by_cases hj : i = j
    · subst hj
      have hi : i < es.length := by
        have := (List.getElem?_eq_some_iff.mp q).1
        rwa [List.length_set] at this
      rw [List.getElem?_set_self hi] at q
      cases q
      exact ⟨p, vs, by rw [List.getElem?_set_self (by rw [← r.len]; exact hi)], nb, nf, upd_same, h⟩
    · rw [List.getElem?_set_ne hj] at q ⊢
      obtain ⟨p', vs', h1, h2, h3, h4, h5⟩ := r.own j m q
      exact ⟨p', vs', h1, h2, h3, by rw [upd_ne (ne_of_none h4 n)]; exact h4, h5⟩
  · by_cases hia : i = a
    · subst hia
      have hi : i < es.length := by
        have := (List.getElem?_eq_some_iff.mp ha).1
        rwa [List.length_set] at this
      rw [List.getElem?_set_self (by rw [← r.len]; exact hi)] at sa
      cases sa
      rw [List.getElem?_set_ne ne] at hb sb
      exact notp b m p hb sb rfl
    · rw [List.getElem?_set_ne hia] at ha sa
      by_cases hib : i = b
      · subst hib
        have hi : i < es.length := by
          have := (List.getElem?_eq_some_iff.mp hb).1
          rwa [List.length_set] at this
        rw [List.getElem?_set_self (by rw [← r.len]; exact hi)] at sb
        cases sb
        exact notp a l' p ha sa rfl
      · rw [List.getElem?_set_ne hib] at hb sb
        exact r.apart a b l' m q ne ha hb sa sb
theorem Rel.chg (r : Rel K cl zA F B H es σ) {i : Nat} {p : Addr} {ws : List V} {l m : List D} (hi : es[i]? = some (.own l)) (hs : σ[i]? = some (some (.ref p))) (h : AtL K cl B ws m) :
    Rel K cl zA F B (upd H p (.lst ws)) (es.set i (.own m)) σ := by
  obtain ⟨p', vs', h1, h2, h3, h4, h5⟩ := r.own i l hi
  rw [hs] at h1
  cases h1
  have hl : i < es.length := (List.getElem?_eq_some_iff.mp hi).1
  have ex : ∀ {G : Hp}, Same G H → G p = none → Same G (upd H p (.lst ws)) := fun s n b o e => by
    rw [upd_ne (ne_of_none e n)]
    exact s _ _ e
  refine ⟨ex r.bh h2, ex r.fh h3, by rw [List.length_set]; exact r.len, fun j e q => ?_, fun j k q => ?_, fun a b l' m' q ne ha hb sa sb => ?_, fun q l' e z => ?_, tabs_lst r.tab h4, r.nb, r.nf, r.fl⟩
  rotate_right
  · by_cases h0 : i = 0
    · subst h0
      exact r.zero q l e hi
    · rw [List.getElem?_set_ne h0] at z
      exact r.zero q l' e z
  · by_cases hj : i = j
    · subst hj
      rw [List.getElem?_set_self hl] at q
      cases q
    · rw [List.getElem?_set_ne hj] at q
      exact r.dat j e q
  · by_cases hj : i = j
    · subst hj
      rw [List.getElem?_set_self hl] at q
      cases q
      exact ⟨p, ws, hs, h2, h3, upd_same, h⟩
    · rw [List.getElem?_set_ne hj] at q
      obtain ⟨p', vs', g1, g2, g3, g4, g5⟩ := r.own j k q
      refine ⟨p', vs', g1, g2, g3, ?_, g5⟩
      rw [upd_ne (fun z => ?_)]
      · exact g4
      · subst z
        exact r.apart i j _ _ _ hj hi q hs g1
  · have oa : ∃ l0 : List D, es[a]? = some (.own l0) := by
      by_cases hia : i = a
      · subst hia
        exact ⟨l, hi⟩
      · rw [List.getElem?_set_ne hia] at ha
        exact ⟨_, ha⟩
    have ob : ∃ l0 : List D, es[b]? = some (.own l0) := by
      by_cases hib : i = b
      · subst hib
        exact ⟨l, hi⟩
      · rw [List.getElem?_set_ne hib] at hb
        exact ⟨_, hb⟩
    obtain ⟨l1, oa⟩ := oa
    obtain ⟨l2, ob⟩ := ob
    exact r.apart a b l1 l2 q ne oa ob sa sb
theorem Rel.freeze (r : Rel K cl zA F B H es σ) {i : Nat} {l : List D} (hi : es[i]? = some (.own l)) :
    ∃ (p : Addr) (vs : List V), σ[i]? = some (some (.ref p)) ∧ Rel K cl zA F (upd B p (.lst vs)) H (es.set i (.dat (.lst l))) σ ∧ Same B (upd B p (.lst vs)) ∧ Frs B F (upd B p (.lst vs)) ∧ At K cl (upd B p (.lst vs)) (.ref p) (.lst l) := by
  obtain ⟨p, vs, h1, h2, h3, h4, h5⟩ := r.own i l hi
  have sb : Same B (upd B p (.lst vs)) := same_new h2
  have hl : i < es.length := (List.getElem?_eq_some_iff.mp hi).1
  have ha : At K cl (upd B p (.lst vs)) (.ref p) (.lst l) := .lst upd_same (h5.up sb)
  refine ⟨p, vs, h1, ⟨fun b o e => ?_, r.fh, by rw [List.length_set]; exact r.len, fun j e q => ?_, fun j k q => ?_, fun a b l' m' q ne ha hb sa sb => ?_, fun q l' e z => ?_, r.tab, r.nb.upd (fun _ z => by cases z), r.nf, r.fl⟩, sb, fun x o e n => ?_, ha⟩
  · by_cases hb : b = p
    · subst hb
      rw [upd_same] at e
      cases e
      exact h4
    · rw [upd_ne hb] at e
      exact r.bh _ _ e
  · by_cases hj : i = j
    · subst hj
      rw [List.getElem?_set_self hl] at q
      cases q
      exact ⟨_, h1, ha⟩
    · rw [List.getElem?_set_ne hj] at q
      obtain ⟨v, g1, g2⟩ := r.dat j e q
      exact ⟨v, g1, g2.up sb⟩
  · by_cases hj : i = j
    · subst hj
      rw [List.getElem?_set_self hl] at q
      cases q
    · rw [List.getElem?_set_ne hj] at q
      obtain ⟨p', vs', g1, g2, g3, g4, g5⟩ := r.own j k q
      refine ⟨p', vs', g1, ?_, g3, g4, g5.up sb⟩
      rw [upd_ne (fun z => ?_)]
      · exact g2
      · subst z
        exact r.apart i j _ _ _ hj hi q h1 g1
  · by_cases hia : i = a
    · subst hia
      rw [List.getElem?_set_self hl] at ha
      cases ha
    · by_cases hib : i = b
      · subst hib
        rw [List.getElem?_set_self hl] at hb
        cases hb
      · rw [List.getElem?_set_ne hia] at ha
        rw [List.getElem?_set_ne hib] at hb
        exact r.apart a b l' m' q ne ha hb sa sb
  · by_cases h0 : i = 0
    · subst h0
      rw [List.getElem?_set_self hl] at z
      cases z
    · rw [List.getElem?_set_ne h0] at z
      exact r.zero q l' e z
  · by_cases hx : x = p
    · rw [hx]; exact h3
    · rw [upd_ne hx, n] at e
      cases e
end
end Mi
namespace Mi
open PySem PySem.Spec PyProof.Rows L2
abbrev FinE (K : PySem.W.Frag) (cl : CL) (zA : Zp) (F B : Hp) (es : En) (σ : L2.St) (d : D) (Q : VK) : Prop := ∀ (v : V) (B' H' : Hp), Same B B' → Frs B F B' → Rel K cl zA F B' H' es σ → At K cl B' v d → Q v H'
def opt {α : Type} (o : Option α) : M α := fun es => match o with
  | some a => .ok (a, es)
  | none => .bad
def SimE (K : PySem.W.Frag) (cl : CL) (E : XK) (te : TE) (m : M D) : Prop := ∀ (zA : Zp) (F B H : Hp) (es : En) (σ : L2.St) (Q : VK), Rel K cl zA F B H es σ →
  Po K cl E F B (m es) (fun d es' B' H' => ∀ v, Rel K cl zA F B' H' es' σ → At K cl B' v d → Q v H') → te σ H Q
def SimT (K : PySem.W.Frag) (cl : CL) (E : XK) (tt : TT) (m : M Bool) : Prop := ∀ (zA : Zp) (F B H : Hp) (es : En) (σ : L2.St) (Q : Bool → Hp → Prop), Rel K cl zA F B H es σ →
  Po K cl E F B (m es) (fun b es' B' H' => Rel K cl zA F B' H' es' σ → Q b H') → tt σ H Q
def SimA (K : PySem.W.Frag) (cl : CL) (E : XK) (ta : TA) (m : M (List D)) : Prop := ∀ (zA : Zp) (F B H : Hp) (es : En) (σ : L2.St) (Q : List V → Hp → Prop), Rel K cl zA F B H es σ →
  Po K cl E F B (m es) (fun ds es' B' H' => ∀ vs, Rel K cl zA F B' H' es' σ → AtL K cl B' vs ds → Q vs H') → ta σ H Q
def SimO (K : PySem.W.Frag) (cl : CL) (E : XK) (to : TO) (m : M (Option Int)) : Prop := ∀ (zA : Zp) (F B H : Hp) (es : En) (σ : L2.St) (Q : Option Int → Hp → Prop), Rel K cl zA F B H es σ →
  Po K cl E F B (m es) (fun o es' B' H' => Rel K cl zA F B' H' es' σ → Q o H') → to σ H Q
def SimR2 (K : PySem.W.Frag) (cl : CL) (r : R2) (f : D → D → Option D) : Prop := ∀ (zA : Zp) (F B H : Hp) (es : En) (σ : L2.St) (x y : V) (dx dy d : D) (Q : VK), Rel K cl zA F B H es σ → At K cl B x dx → At K cl B y dy → f dx dy = some d →
  FinE K cl zA F B es σ d Q → r x y H Q
def SimR1 (K : PySem.W.Frag) (cl : CL) (r : V → Hp → VK → Prop) (f : D → Option D) : Prop := ∀ (zA : Zp) (F B H : Hp) (es : En) (σ : L2.St) (x : V) (dx d : D) (Q : VK), Rel K cl zA F B H es σ → At K cl B x dx → f dx = some d →
  FinE K cl zA F B es σ d Q → r x H Q
def SimC (K : PySem.W.Frag) (cl : CL) (r : List V → Hp → VK → Prop) (f : List D → Option D) : Prop := ∀ (zA : Zp) (F B H : Hp) (es : En) (σ : L2.St) (xs : List V) (ds : List D) (d : D) (Q : VK), Rel K cl zA F B H es σ → AtL K cl B xs ds → f ds = some d →
  FinE K cl zA F B es σ d Q → r xs H Q
def SimM (K : PySem.W.Frag) (cl : CL) (r : V → List V → Hp → VK → Prop) (f : D → List D → Option D) : Prop := ∀ (zA : Zp) (F B H : Hp) (es : En) (σ : L2.St) (x : V) (xs : List V) (dx : D) (ds : List D) (d : D) (Q : VK), Rel K cl zA F B H es σ → At K cl B x dx → AtL K cl B xs ds → f dx ds = some d →
  FinE K cl zA F B es σ d Q → r x xs H Q
section
variable {K : PySem.W.Frag} {cl : CL} {zA : Zp} {E : XK} {F B H : Hp} {es : En} {σ : L2.St}
theorem Same.rfl' (H : Hp) : Same H H := fun _ _ h => h
theorem FinE.here {d : D} {Q : VK} {v : V} (h : FinE K cl zA F B es σ d Q) (r : Rel K cl zA F B H es σ) (a : At K cl B v d) : Q v H := h v B H (Same.rfl' B) (Frs.refl B F) r a
theorem FinE.new {d : D} {Q : VK} {p : Addr} {o : HO} (h : FinE K cl zA F B es σ d Q) (r : Rel K cl zA F B H es σ) (n : H p = none) (a : At K cl (upd B p o) (.ref p) d) (no : ∀ ps, o ≠ .tbl ps := by intro _ z; cases z) : Q (.ref p) (upd H p o) := by
  obtain ⟨r1, s1, f1⟩ := r.news (o := o) n no
  exact h _ _ _ s1 f1 r1 a
theorem FinE.tup {ds : List D} {vs : List V} {Q : VK} {p : Addr} (h : FinE K cl zA F B es σ (.tup ds) Q) (r : Rel K cl zA F B H es σ) (n : H p = none) (a : AtL K cl B vs ds) : Q (.ref p) (upd H p (.tup vs)) :=
  h.new r n (.tup (.inl (.inl upd_same)) (a.up (same_new (r.bh.free n))))
theorem FinE.lst {ds : List D} {vs : List V} {Q : VK} {p : Addr} (h : FinE K cl zA F B es σ (.lst ds) Q) (r : Rel K cl zA F B H es σ) (n : H p = none) (a : AtL K cl B vs ds) : Q (.ref p) (upd H p (.lst vs)) :=
  h.new r n (.lst upd_same (a.up (same_new (r.bh.free n))))
theorem Po.opt {α : Type} {o : Option α} {k : α → En → Hp → Hp → Prop} (h : Po K cl E F B (opt o es) k) : ∃ a, o = some a ∧ ∀ B' H', Same B B' → Frs B F B' → k a es B' H' := by
  cases o with
  | none => exact h.elim
  | some a => exact ⟨a, rfl, h⟩
theorem Po.ret {α : Type} {a : α} {k : α → En → Hp → Hp → Prop} (h : Po K cl E F B (ret a es) k) : ∀ B' H', Same B B' → Frs B F B' → k a es B' H' := h
theorem Po.ret0 {α : Type} {a : α} {k : α → En → Hp → Hp → Prop} (h : Po K cl E F B (Mi.ret a es) k) (H' : Hp) : k a es B H' := h B H' (Same.rfl' B) (Frs.refl B F)
end
def mVar (i : Nat) : M D := fun es => match es[i]? with
  | some (.dat d) => .ok (d, es)
  | some (.own l) => .ok (.lst l, es.set i (.dat (.lst l)))
  | _ => .bad
def mC (d : D) : M D := Mi.ret d
def mBin (f : D → D → Option D) (a b : M D) : M D := Mi.bnd a fun x => Mi.bnd b fun y => Mi.opt (f x y)
def mUn (f : D → Option D) (a : M D) : M D := Mi.bnd a fun x => Mi.opt (f x)
def isBl : D → Option Bool
  | .bl b => some b
  | _ => none
def mTst (m : M D) : M Bool := Mi.bnd m fun d => Mi.opt (isBl d)
def tru : D → Option Bool
  | .non => some false
  | .bl b => some b
  | .int i => some (i != 0)
  | .str s => if s.length ≤ sizeLine then some ((s.length : Int) != 0) else none
  | .tup l => some (!l.isEmpty)
  | .lst l => some (!l.isEmpty)
  | .dc0 => some false
  | .scr l => some (!l.isEmpty)
  | .dct ks _ => some (!ks.isEmpty)
  | .ins .. => none
  | .fn => none
def mTru (m : M D) : M Bool := Mi.bnd m fun d => Mi.opt (tru d)
def mNotT (m : M Bool) : M Bool := Mi.bnd m fun b => Mi.ret (!b)
def mAndT (m n : M Bool) : M Bool := Mi.bnd m fun b => if b = true then n else Mi.ret false
def mOrT (m n : M Bool) : M Bool := Mi.bnd m fun b => if b = true then Mi.ret true else n
def mAnd (m n : M D) : M D := Mi.bnd m fun d => Mi.bnd (Mi.opt (isBl d)) fun b => if b = true then n else Mi.ret (.bl false)
def mOr (m n : M D) : M D := Mi.bnd m fun d => Mi.bnd (Mi.opt (isBl d)) fun b => if b = true then Mi.ret (.bl true) else n
def mNot (m : M D) : M D := Mi.bnd m fun d => Mi.bnd (Mi.opt (isBl d)) fun b => Mi.ret (.bl (!b))
def mIfE (t : M Bool) (a b : M D) : M D := Mi.bnd t fun c => if c = true then a else b
def mChn (f g : D → D → Option D) (a b c : M D) : M D := Mi.bnd a fun x => Mi.bnd b fun y => Mi.bnd (Mi.opt (f x y)) fun k => Mi.bnd (Mi.opt (isBl k)) fun k => if k = true then Mi.bnd c fun z => Mi.opt (g y z) else Mi.ret (.bl false)
def mNil : M (List D) := Mi.ret []
def mCons (a : M D) (r : M (List D)) : M (List D) := Mi.bnd a fun x => Mi.bnd r fun xs => Mi.ret (x :: xs)
def fit (f : List D → D) (l : List D) : Option D := if l.length ≤ sizeLine then some (f l) else none
def mTup (a : M (List D)) : M D := Mi.bnd a fun l => Mi.opt (fit .tup l)
def mLst (a : M (List D)) : M D := Mi.bnd a fun l => Mi.opt (fit .lst l)
def mCB (f : List D → Option D) (a : M (List D)) : M D := Mi.bnd a fun l => Mi.opt (f l)
def mMth (f : D → List D → Option D) (a : M D) (b : M (List D)) : M D := Mi.bnd a fun x => Mi.bnd b fun l => Mi.opt (f x l)
def isI : D → Option Int
  | .int i => some i
  | _ => none
def mNo : M (Option Int) := Mi.ret none
def mPart (a : M D) : M (Option Int) := Mi.bnd a fun x => Mi.bnd (Mi.opt (isI x)) fun i => Mi.ret (some i)
def mSl (f : D → Option Int → Option Int → Option D) (a : M D) (l u : M (Option Int)) : M D := Mi.bnd a fun x => Mi.bnd l fun i => Mi.bnd u fun j => Mi.opt (f x i j)
section
variable {K : PySem.W.Frag} {cl : CL} {E : XK}
theorem sim_var {i : Nat} : SimE K cl E (tVar i) (mVar i) := by
  intro zA F B H es σ Q r h
  unfold mVar at h
  cases e : es[i]? with
  | none => rw [e] at h; exact h.elim
  | some x =>
    rw [e] at h
    cases x with
    | un => exact h.elim
    | dat d =>
      obtain ⟨v, h1, h2⟩ := r.dat i d e
      exact ⟨v, h1, h B H (Same.rfl' B) (Frs.refl B F) v r h2⟩
    | own l =>
      obtain ⟨p, vs, h1, h2, h3, h4, h5⟩ := r.freeze e
      exact ⟨.ref p, h1, h _ H h3 h4 _ h2 h5⟩
theorem sim_c {v : V} {d : D} (a : ∀ B, At K cl B v d) : SimE K cl E (tC v) (mC d) := fun zA F B H es σ Q r h => Po.ret0 h H v r (a B)
theorem sim_bin {ta tb : TE} {ma mb : M D} {r : R2} {f : D → D → Option D} (ha : SimE K cl E ta ma) (hb : SimE K cl E tb mb) (hr : SimR2 K cl r f) : SimE K cl E (tOp r ta tb) (mBin f ma mb) := by
  intro zA F B H es σ Q r h
  refine ha _ F B H es σ _ r (Po.imp (Po.bnd h) fun dx es1 B1 H1 _ _ h1 vx r1 ax => ?_)
  refine hb _ F B1 H1 es1 σ _ r1 (Po.imp (Po.bnd h1) fun dy es2 B2 H2 e2 f2 h2 vy r2 ay => ?_)
  obtain ⟨d, hd, hk⟩ := Po.opt h2
  exact hr _ F B2 H2 es2 σ vx vy dx dy d Q r2 (ax.up e2) ay hd fun v B' H' s f r' a => hk B' H' s f v r' a
theorem sim_un {ta : TE} {ma : M D} {r : V → Hp → VK → Prop} {f : D → Option D} (ha : SimE K cl E ta ma) (hr : SimR1 K cl r f) : SimE K cl E (tUn r ta) (mUn f ma) := by
  intro zA F B H es σ Q r h
  refine ha _ F B H es σ _ r (Po.imp (Po.bnd h) fun dx es1 B1 H1 _ _ h1 vx r1 ax => ?_)
  obtain ⟨d, hd, hk⟩ := Po.opt h1
  exact hr _ F B1 H1 es1 σ vx dx d Q r1 ax hd fun v B' H' s f r' a => hk B' H' s f v r' a
theorem at_bl {B : Hp} {v : V} {d : D} {b : Bool} (a : At K cl B v d) (e : isBl d = some b) : v = .bl b := by
  cases a <;> first | (cases e; rfl) | cases e
theorem at_i {B : Hp} {v : V} {d : D} {i : Int} (a : At K cl B v d) (e : isI d = some i) : v = .int i := by
  cases a <;> first | (cases e; rfl) | cases e
theorem sim_tst {te : TE} {m : M D} (ha : SimE K cl E te m) : SimT K cl E (tTest te) (mTst m) := by
  intro zA F B H es σ Q r h
  refine ha _ F B H es σ _ r (Po.imp (Po.bnd h) fun d es1 B1 H1 _ _ h1 v r1 a => ?_)
  obtain ⟨b, hb, hk⟩ := Po.opt h1
  exact ⟨b, at_bl a hb, hk B1 H1 (Same.rfl' _) (Frs.refl _ _) r1⟩
theorem sim_tstB {te : TE} {m : M D} (ha : SimE K cl E te m) : SimT K cl E (tB te) (mTst m) := by
  intro zA F B H es σ Q r h
  refine ha _ F B H es σ _ r (Po.imp (Po.bnd h) fun d es1 B1 H1 _ _ h1 v r1 a => ?_)
  obtain ⟨b, hb, hk⟩ := Po.opt h1
  exact ⟨b, at_bl a hb, hk B1 H1 (Same.rfl' _) (Frs.refl _ _) r1⟩
theorem empty_len {B : Hp} {vs : List V} {ds : List D} (h : AtL K cl B vs ds) : vs.isEmpty = ds.isEmpty := by
  cases h <;> rfl
theorem at_tru {F B H : Hp} {es : En} {σ : L2.St} {v : V} {d : D} {b : Bool} (r : Rel K cl zA F B H es σ) (a : At K cl B v d) (e : tru d = some b) : TruV K v H b := by
  cases a with
  | non => cases e; rfl
  | bl => cases e; rfl
  | int => cases e; rfl
  | str s =>
    simp only [tru] at e
    split at e
    · rename_i hz
      cases e
      exact ⟨hz, rfl⟩
    · cases e
  | tup h1 h2 =>
    cases e
    exact .inr (.inl ⟨_, sqT_mono r.bh h1, by rw [empty_len h2]⟩)
  | lst h1 h2 =>
    cases e
    exact .inl ⟨_, .inl (.inl (r.bh _ _ h1)), by rw [empty_len h2]⟩
  | ins h1 h2 h3 => cases e
  | fn _ _ => cases e
  | dc0 h1 =>
    cases e
    exact .inr (.inr ⟨_, r.bh _ _ h1, rfl⟩)
  | @scr p l h1 =>
    cases e
    exact .inl ⟨_, sqL_mono r.bh h1, by cases l <;> rfl⟩
  | @dct p ks vs ds h1 h2 h3 =>
    cases e
    exact .inr (.inr ⟨_, r.bh _ _ h1, by cases ks <;> cases vs <;> first | rfl | cases h2⟩)
theorem sim_tru {te : TE} {m : M D} (ha : SimE K cl E te m) : SimT K cl E (fun σ H Q => te σ H fun x H' => ∃ k, TruV K x H' k ∧ Q k H') (mTru m) := by
  intro zA F B H es σ Q r h
  refine ha _ F B H es σ _ r (Po.imp (Po.bnd h) fun d es1 B1 H1 _ _ h1 v r1 a => ?_)
  obtain ⟨b, hb, hk⟩ := Po.opt h1
  exact ⟨b, at_tru r1 a hb, hk B1 H1 (Same.rfl' _) (Frs.refl _ _) r1⟩
theorem sim_notT {t : TT} {m : M Bool} (ha : SimT K cl E t m) : SimT K cl E (tNot t) (mNotT m) := by
  intro zA F B H es σ Q r h
  exact ha _ F B H es σ _ r (Po.imp (Po.bnd h) fun b es1 B1 H1 _ _ h1 r1 => Po.ret0 h1 H1 r1)
theorem sim_andT {t u : TT} {m n : M Bool} (ha : SimT K cl E t m) (hb : SimT K cl E u n) : SimT K cl E (tAnd t u) (mAndT m n) := by
  intro zA F B H es σ Q r h
  refine ha _ F B H es σ _ r (Po.imp (Po.bnd h) fun b es1 B1 H1 _ _ h1 r1 => ?_)
  cases b with
  | true => exact hb _ F B1 H1 es1 σ Q r1 h1
  | false => exact Po.ret0 (show Po K cl E F B1 (Mi.ret false es1) _ from h1) H1 r1
theorem sim_orT {t u : TT} {m n : M Bool} (ha : SimT K cl E t m) (hb : SimT K cl E u n) : SimT K cl E (tOr t u) (mOrT m n) := by
  intro zA F B H es σ Q r h
  refine ha _ F B H es σ _ r (Po.imp (Po.bnd h) fun b es1 B1 H1 _ _ h1 r1 => ?_)
  cases b with
  | false => exact hb _ F B1 H1 es1 σ Q r1 h1
  | true => exact Po.ret0 (show Po K cl E F B1 (Mi.ret true es1) _ from h1) H1 r1
theorem sim_and {t u : TE} {m n : M D} (ha : SimE K cl E t m) (hb : SimE K cl E u n) : SimE K cl E (tAndV t u) (mAnd m n) := by
  intro zA F B H es σ Q r h
  refine ha _ F B H es σ _ r (Po.imp (Po.bnd h) fun d es1 B1 H1 _ _ h1 v r1 a => ?_)
  obtain ⟨b, hb1, hk⟩ := Po.opt (Po.bnd h1)
  refine ⟨b, at_bl a hb1, ?_⟩
  have h2 := hk B1 H1 (Same.rfl' _) (Frs.refl _ _)
  cases b with
  | true => exact hb _ F B1 H1 es1 σ Q r1 h2
  | false => exact Po.ret0 (show Po K cl E F B1 (Mi.ret (D.bl false) es1) _ from h2) H1 _ r1 (.bl false)
theorem sim_or {t u : TE} {m n : M D} (ha : SimE K cl E t m) (hb : SimE K cl E u n) : SimE K cl E (tOrV t u) (mOr m n) := by
  intro zA F B H es σ Q r h
  refine ha _ F B H es σ _ r (Po.imp (Po.bnd h) fun d es1 B1 H1 _ _ h1 v r1 a => ?_)
  obtain ⟨b, hb1, hk⟩ := Po.opt (Po.bnd h1)
  refine ⟨b, at_bl a hb1, ?_⟩
  have h2 := hk B1 H1 (Same.rfl' _) (Frs.refl _ _)
  cases b with
  | false => exact hb _ F B1 H1 es1 σ Q r1 h2
  | true => exact Po.ret0 (show Po K cl E F B1 (Mi.ret (D.bl true) es1) _ from h2) H1 _ r1 (.bl true)
theorem sim_not {t : TE} {m : M D} (ha : SimE K cl E t m) : SimE K cl E (tNotV t) (mNot m) := by
  intro zA F B H es σ Q r h
  refine ha _ F B H es σ _ r (Po.imp (Po.bnd h) fun d es1 B1 H1 _ _ h1 v r1 a => ?_)
  obtain ⟨b, hb1, hk⟩ := Po.opt (Po.bnd h1)
  exact ⟨b, at_bl a hb1, Po.ret0 (hk B1 H1 (Same.rfl' _) (Frs.refl _ _)) H1 _ r1 (.bl _)⟩
theorem sim_ifE {t : TT} {ta tb : TE} {m : M Bool} {ma mb : M D} (ht : SimT K cl E t m) (ha : SimE K cl E ta ma) (hb : SimE K cl E tb mb) : SimE K cl E (tIf t ta tb) (mIfE m ma mb) := by
  intro zA F B H es σ Q r h
  refine ht _ F B H es σ _ r (Po.imp (Po.bnd h) fun b es1 B1 H1 _ _ h1 r1 => ?_)
  cases b with
  | true => exact ha _ F B1 H1 es1 σ Q r1 h1
  | false => exact hb _ F B1 H1 es1 σ Q r1 h1
theorem sim_chn {ta tb tc : TE} {ma mb mc : M D} {r r' : R2} {f g : D → D → Option D} (ha : SimE K cl E ta ma) (hb : SimE K cl E tb mb) (hc : SimE K cl E tc mc) (hr : SimR2 K cl r f) (hr' : SimR2 K cl r' g) :
    SimE K cl E (tChain r r' ta tb tc) (mChn f g ma mb mc) := by
  intro zA F B H es σ Q r h
  refine ha _ F B H es σ _ r (Po.imp (Po.bnd h) fun dx es1 B1 H1 _ _ h1 vx r1 ax => ?_)
  refine hb _ F B1 H1 es1 σ _ r1 (Po.imp (Po.bnd h1) fun dy es2 B2 H2 e2 f2 h2 vy r2 ay => ?_)
  obtain ⟨k, hk1, hk⟩ := Po.opt (Po.bnd h2)
  refine hr _ F B2 H2 es2 σ vx vy dx dy k _ r2 (ax.up e2) ay hk1 fun v B' H' s f r' a => ?_
  obtain ⟨b, hb1, hk2⟩ := Po.opt (Po.bnd (hk B' H' s f))
  refine ⟨b, at_bl a hb1, ?_⟩
  have h3 := hk2 B' H' (Same.rfl' _) (Frs.refl _ _)
  cases b with
  | false => exact Po.ret0 (show Po K cl E F B' (Mi.ret (D.bl false) es2) _ from h3) H' _ r' (.bl false)
  | true =>
    refine hc _ F B' H' es2 σ _ r' (Po.imp (Po.bnd h3) fun dz es4 B4 H4 e4 f4 h4 vz r4 az => ?_)
    obtain ⟨d, hd, hk5⟩ := Po.opt h4
    exact hr' _ F B4 H4 es4 σ vy vz dy dz d Q r4 ((ay.up s).up e4) az hd fun v B' H' s f r' a => hk5 B' H' s f v r' a
theorem sim_nil : SimA K cl E tNil mNil := fun zA F B H es σ Q r h => Po.ret0 h H [] r .nil
theorem sim_cons {ta : TE} {tr : TA} {ma : M D} {mr : M (List D)} (ha : SimE K cl E ta ma) (hr : SimA K cl E tr mr) : SimA K cl E (tCons ta tr) (mCons ma mr) := by
  intro zA F B H es σ Q r h
  refine ha _ F B H es σ _ r (Po.imp (Po.bnd h) fun dx es1 B1 H1 _ _ h1 vx r1 ax => ?_)
  refine hr _ F B1 H1 es1 σ _ r1 (Po.imp (Po.bnd h1) fun dy es2 B2 H2 e2 f2 h2 vs r2 ay => ?_)
  exact Po.ret0 h2 H2 (vx :: vs) r2 (.cons (ax.up e2) ay)
theorem fit_ok {g : List D → D} {l : List D} {d : D} (h : fit g l = some d) : l.length ≤ sizeLine ∧ d = g l := by
  unfold fit at h
  split at h
  · rename_i hz
    exact ⟨hz, (Option.some.inj h).symm⟩
  · cases h
theorem sim_tup {ta : TA} {ma : M (List D)} (ha : SimA K cl E ta ma) : SimE K cl E (tTup ta) (mTup ma) := by
  intro zA F B H es σ Q r h
  refine ha _ F B H es σ _ r (Po.imp (Po.bnd h) fun ds es1 B1 H1 _ _ h1 vs r1 a => ?_)
  obtain ⟨d, hd, hk⟩ := Po.opt h1
  obtain ⟨hz, rfl⟩ := fit_ok hd
  refine ⟨by rw [a.len]; exact hz, fun p n => ?_⟩
  exact FinE.tup (fun v B' H' s f r' a' => hk B' H' s f v r' a') r1 n a
theorem sim_lst {ta : TA} {ma : M (List D)} (ha : SimA K cl E ta ma) : SimE K cl E (tLst ta) (mLst ma) := by
  intro zA F B H es σ Q r h
  refine ha _ F B H es σ _ r (Po.imp (Po.bnd h) fun ds es1 B1 H1 _ _ h1 vs r1 a => ?_)
  obtain ⟨d, hd, hk⟩ := Po.opt h1
  obtain ⟨hz, rfl⟩ := fit_ok hd
  refine ⟨by rw [a.len]; exact hz, fun p n => ?_⟩
  exact FinE.lst (fun v B' H' s f r' a' => hk B' H' s f v r' a') r1 n a
theorem sim_cb {ta : TA} {ma : M (List D)} {r : List V → Hp → VK → Prop} {f : List D → Option D} (ha : SimA K cl E ta ma) (hr : SimC K cl r f) : SimE K cl E (tCB r ta) (mCB f ma) := by
  intro zA F B H es σ Q r h
  refine ha _ F B H es σ _ r (Po.imp (Po.bnd h) fun ds es1 B1 H1 _ _ h1 vs r1 a => ?_)
  obtain ⟨d, hd, hk⟩ := Po.opt h1
  exact hr _ F B1 H1 es1 σ vs ds d Q r1 a hd fun v B' H' s f r' a' => hk B' H' s f v r' a'
theorem sim_no : SimO K cl E tNoPart mNo := fun zA F B H es σ Q r h => Po.ret0 h H r
theorem sim_part {te : TE} {m : M D} (ha : SimE K cl E te m) : SimO K cl E (tPart te) (mPart m) := by
  intro zA F B H es σ Q r h
  refine ha _ F B H es σ _ r (Po.imp (Po.bnd h) fun d es1 B1 H1 _ _ h1 v r1 a => ?_)
  obtain ⟨i, hi, hk⟩ := Po.opt (Po.bnd h1)
  exact ⟨i, at_i a hi, Po.ret0 (hk B1 H1 (Same.rfl' _) (Frs.refl _ _)) H1 r1⟩
def SimSl (K : PySem.W.Frag) (cl : CL) (r : V → Option Int → Option Int → Hp → VK → Prop) (f : D → Option Int → Option Int → Option D) : Prop := ∀ (zA : Zp) (F B H : Hp) (es : En) (σ : L2.St) (x : V) (dx d : D) (i j : Option Int) (Q : VK), Rel K cl zA F B H es σ → At K cl B x dx → f dx i j = some d →
  FinE K cl zA F B es σ d Q → r x i j H Q
theorem sim_sl {te : TE} {tl tu : TO} {m : M D} {ml mu : M (Option Int)} {r : V → Option Int → Option Int → Hp → VK → Prop} {f : D → Option Int → Option Int → Option D} (ha : SimE K cl E te m) (hl : SimO K cl E tl ml) (hu : SimO K cl E tu mu) (hr : SimSl K cl r f) :
    SimE K cl E (tSl r te tl tu) (mSl f m ml mu) := by
  intro zA F B H es σ Q r h
  refine ha _ F B H es σ _ r (Po.imp (Po.bnd h) fun dx es1 B1 H1 _ _ h1 vx r1 ax => ?_)
  refine hl _ F B1 H1 es1 σ _ r1 (Po.imp (Po.bnd h1) fun i es2 B2 H2 e2 _ h2 r2 => ?_)
  refine hu _ F B2 H2 es2 σ _ r2 (Po.imp (Po.bnd h2) fun j es3 B3 H3 e3 _ h3 r3 => ?_)
  obtain ⟨d, hd, hk⟩ := Po.opt h3
  exact hr _ F B3 H3 es3 σ vx dx d i j Q r3 ((ax.up e2).up e3) hd fun v B' H' s f r' a => hk B' H' s f v r' a
end
end Mi
namespace Mi
open PySem PySem.Spec PyProof.Rows L2
def okB (b : Bool) (d : D) : Option D := if b = true then some d else none
theorem okB_ok {b : Bool} {d e : D} (h : okB b d = some e) : b = true ∧ e = d := by
  unfold okB at h
  split at h
  · rename_i hb
    exact ⟨hb, (Option.some.inj h).symm⟩
  · cases h
def dAdd : D → D → Option D
  | .int i, .int j => some (.int (i + j))
  | .str s, .str t => okB (decide (s.length + t.length ≤ sizeLine)) (.str (s ++ t))
  | .lst l, .lst m => okB (decide (l.length + m.length ≤ sizeLine)) (.lst (l ++ m))
  | .tup l, .tup m => okB (decide (l.length + m.length ≤ sizeLine)) (.tup (l ++ m))
  | _, _ => none
def dSub : D → D → Option D
  | .int i, .int j => some (.int (i - j))
  | _, _ => none
def dMul : D → D → Option D
  | .int i, .int j => okB (decide (i.natAbs.log2 + j.natAbs.log2 < 1000000)) (.int (i * j))
  | .lst l, .int k => okB (decide (-(2 ^ 63) ≤ k ∧ k < 2 ^ 63 ∧ l.length * k.toNat ≤ sizeLine)) (.lst (List.replicate k.toNat l).flatten)
  | _, _ => none
def dDiv : D → D → Option D
  | .int i, .int j => okB (decide (0 < j ∧ j.natAbs.log2 < 9000)) (.int (i / j))
  | _, _ => none
def dMod : D → D → Option D
  | .int i, .int j => okB (decide (0 < j)) (.int (i % j))
  | _, _ => none
def dPow : D → D → Option D
  | .int i, .int j => okB (decide (0 ≤ j ∧ j ≤ 1000000 ∧ i.natAbs < 2 ^ 64)) (.int (i ^ j.toNat))
  | _, _ => none
def dNeg : D → Option D
  | .int i => some (.int (-i))
  | _ => none
def dLt : D → D → Option D
  | .int i, .int j => some (.bl (decide (i < j)))
  | _, _ => none
def dLe : D → D → Option D
  | .int i, .int j => some (.bl (decide (i ≤ j)))
  | _, _ => none
def dGt : D → D → Option D
  | .int i, .int j => some (.bl (decide (j < i)))
  | _, _ => none
def dGe : D → D → Option D
  | .int i, .int j => some (.bl (decide (j ≤ i)))
  | _, _ => none
def isN : D → Bool
  | .non => true
  | _ => false
def dIs : D → D → Option D
  | a, .non => some (.bl (isN a))
  | _, _ => none
def dIsn : D → D → Option D
  | a, .non => some (.bl (!isN a))
  | _, _ => none
mutual
def toPy : D → Option PyData
  | .non => some .none
  | .bl b => some (.bool b)
  | .int i => some (.int i)
  | .str s => some (.str s)
  | .tup l => (toPyL l).map .tuple
  | .lst l => (toPyL l).map .list
  | _ => none
def toPyL : List D → Option (List PyData)
  | [] => some []
  | d :: ds => match toPy d, toPyL ds with
    | some x, some xs => some (x :: xs)
    | _, _ => none
end
def flat : D → Option V
  | .non => some .non
  | .bl b => some (.bl b)
  | .int i => some (.int i)
  | .str s => some (.str s)
  | _ => none
def deepB (a b : D) : Option Bool := match toPy a, toPy b with
  | some x, some y => if SeqAt.shaped x && SeqAt.shaped y then some (PyData.eqv x y) else none
  | _, _ => none
def eqB (a b : D) : Option Bool := match flat a, flat b with
  | some x, some y => if scal x y = true then some (decide (x = y)) else deepB a b
  | _, _ => deepB a b
def dEq (a b : D) : Option D := (eqB a b).map .bl
def dNe (a b : D) : Option D := (eqB a b).map fun k => .bl (!k)
def flats : List D → Option (List V)
  | [] => some []
  | d :: ds => match flat d, flats ds with
    | some x, some xs => some (x :: xs)
    | _, _ => none
def inB (a b : D) : Option Bool := match b with
  | .str z => match a with
    | .str s => match s.cps.toList with
      | [c] => some (decide (c ∈ z.cps.toList))
      | _ => some (!(Builtin.Str.occurrences z s 0 z.length 1).isEmpty)
    | _ => none
  | .tup l => match flat a, flats l with
    | some x, some xs => if flatV x && xs.all flatV then some (inV x xs) else none
    | _, _ => none
  | .lst l => match flat a, flats l with
    | some x, some xs => if flatV x && xs.all flatV then some (inV x xs) else none
    | _, _ => none
  | _ => none
def dIn (a b : D) : Option D := (inB a b).map .bl
def dNin (a b : D) : Option D := (inB a b).map fun k => .bl (!k)
def dIx : D → D → Option D
  | .tup l, .int i => atI l i
  | .lst l, .int i => atI l i
  | .scr l, .int i => (atI l i).map D.int
  | .str s, .int i => if s.length ≤ sizeLine then (atI s.cps.toList i).map fun c => .str ⟨#[c]⟩ else none
  | _, _ => none
def cutD (l : List D) (lo hi : Option Int) : List D := (l.drop (HT.sIx l.length 0 lo)).take (HT.sIx l.length l.length hi - HT.sIx l.length 0 lo)
def dSl : D → Option Int → Option Int → Option D
  | .lst l, lo, hi => some (.lst (cutD l lo hi))
  | .tup l, lo, hi => some (.tup (cutD l lo hi))
  | .str s, lo, hi => if s.length ≤ sizeLine then some (.str (cutS s lo hi)) else none
  | _, _, _ => none
def dRev : D → Option D
  | .lst l => some (.lst l.reverse)
  | _ => none
section
variable {K : PySem.W.Frag} {cl : CL}
def orR (r r' : R2) : R2 := fun x y H Q => r x y H Q ∨ r' x y H Q
def rAddD (K : PySem.W.Frag) : R2 := fun x y H Q => (rI0 fun i j => .int (i + j)) x y H Q ∨ (fun x y H Q => (∃ i j, x = V.str i ∧ y = .str j ∧ i.length + j.length ≤ sizeLine ∧ Q (.str (i ++ j)) H) ∨ rCat x y H Q ∨ rCatA K x y H Q) x y H Q
theorem op_addD {X : Cx} : OpR X (binaryOp .Add) (rAddD X.K) := op_add.or (op_add_str.or (op_cat.or op_catA))
theorem sim_add : SimR2 K cl (rAddD K) dAdd := by
  intro zA F B H es σ x y dx dy d Q r ax ay hd q
  cases ax with
  | int i =>
    cases ay with
    | int j => cases hd; exact .inl ⟨i, j, rfl, rfl, q.here r (.int _)⟩
    | _ => simp [dAdd] at hd
  | str s =>
    cases ay with
    | str t =>
      obtain ⟨hz, rfl⟩ := okB_ok hd
      exact .inr (.inl ⟨s, t, rfl, rfl, of_decide_eq_true hz, q.here r (.str _)⟩)
    | _ => simp [dAdd] at hd
  | lst h1 h2 =>
    cases ay with
    | lst g1 g2 =>
      obtain ⟨hz, rfl⟩ := okB_ok hd
      refine .inr (.inr (.inl ⟨_, _, _, _, rfl, rfl, r.bh _ _ h1, r.bh _ _ g1, ?_, fun p n => q.lst r n (h2.app g2)⟩))
      rw [h2.len, g2.len]
      exact of_decide_eq_true hz
    | _ => simp [dAdd] at hd
  | @tup p vs ds h1 h2 =>
    cases ay with
    | @tup p2 vs2 ds2 g1 g2 =>
      obtain ⟨hz, rfl⟩ := okB_ok hd
      refine .inr (.inr (.inr ⟨_, _, _, _, rfl, rfl, sqT_mono r.bh h1, sqT_mono r.bh g1, ?_, fun e => ?_, fun _ e => ?_, fun _ _ p n => q.tup r n (h2.app g2)⟩))
      · rw [h2.len, g2.len]
        exact of_decide_eq_true hz
      · subst e
        cases h2
        exact q.here r (.tup g1 g2)
      · subst e
        cases g2
        exact q.here r (by rw [List.append_nil]; exact .tup h1 h2)
    | _ => simp [dAdd] at hd
  | _ => simp [dAdd] at hd
theorem sim_i0 {g : Int → Int → V} {f : D → D → Option D} {gd : Int → Int → D} (hf : ∀ i j, f (.int i) (.int j) = some (gd i j)) (hn : ∀ a b, isI a = none ∨ isI b = none → f a b = none) (hg : ∀ (B : Hp) i j, At K cl B (g i j) (gd i j)) : SimR2 K cl (rI0 g) f := by
  intro zA F B H es σ x y dx dy d Q r ax ay hd q
  cases ax with
  | int i =>
    cases ay with
    | int j =>
      rw [hf] at hd
      cases hd
      exact ⟨i, j, rfl, rfl, q.here r (hg _ i j)⟩
    | _ => rw [hn _ _ (.inr rfl)] at hd; cases hd
  | _ => rw [hn _ _ (.inl rfl)] at hd; cases hd
theorem sim_iC {C : Int → Int → Prop} {g : Int → Int → V} {f : D → D → Option D} {gd : Int → Int → D} (hf : ∀ i j d, f (.int i) (.int j) = some d → C i j ∧ d = gd i j) (hn : ∀ a b, isI a = none ∨ isI b = none → f a b = none) (hg : ∀ (B : Hp) i j, At K cl B (g i j) (gd i j)) : SimR2 K cl (rI C g) f := by
  intro zA F B H es σ x y dx dy d Q r ax ay hd q
  cases ax with
  | int i =>
    cases ay with
    | int j =>
      obtain ⟨hc, rfl⟩ := hf _ _ _ hd
      exact ⟨i, j, rfl, rfl, hc, q.here r (hg _ i j)⟩
    | _ => rw [hn _ _ (.inr rfl)] at hd; cases hd
  | _ => rw [hn _ _ (.inl rfl)] at hd; cases hd
theorem sim_sub : SimR2 K cl (rI0 fun i j => .int (i - j)) dSub := sim_i0 (gd := fun i j => .int (i - j)) (fun _ _ => rfl) (fun a b h => by cases a <;> cases b <;> first | rfl | (rcases h with h | h <;> cases h)) fun _ _ _ => .int _
theorem sim_lt : SimR2 K cl (rI0 fun i j => .bl (decide (i < j))) dLt := sim_i0 (gd := fun i j => .bl (decide (i < j))) (fun _ _ => rfl) (fun a b h => by cases a <;> cases b <;> first | rfl | (rcases h with h | h <;> cases h)) fun _ _ _ => .bl _
theorem sim_le : SimR2 K cl (rI0 fun i j => .bl (decide (i ≤ j))) dLe := sim_i0 (gd := fun i j => .bl (decide (i ≤ j))) (fun _ _ => rfl) (fun a b h => by cases a <;> cases b <;> first | rfl | (rcases h with h | h <;> cases h)) fun _ _ _ => .bl _
theorem sim_gt : SimR2 K cl (rI0 fun i j => .bl (decide (j < i))) dGt := sim_i0 (gd := fun i j => .bl (decide (j < i))) (fun _ _ => rfl) (fun a b h => by cases a <;> cases b <;> first | rfl | (rcases h with h | h <;> cases h)) fun _ _ _ => .bl _
theorem sim_ge : SimR2 K cl (rI0 fun i j => .bl (decide (j ≤ i))) dGe := sim_i0 (gd := fun i j => .bl (decide (j ≤ i))) (fun _ _ => rfl) (fun a b h => by cases a <;> cases b <;> first | rfl | (rcases h with h | h <;> cases h)) fun _ _ _ => .bl _
theorem sim_div : SimR2 K cl (rI CDivW fun i j => .int (i / j)) dDiv := sim_iC (gd := fun i j => .int (i / j)) (fun i j _ h => ⟨show 0 < j ∧ j.natAbs.log2 < 9000 from of_decide_eq_true (okB_ok h).1, (okB_ok h).2⟩) (fun a b h => by cases a <;> cases b <;> first | rfl | (rcases h with h | h <;> cases h)) fun _ _ _ => .int _
theorem sim_mod : SimR2 K cl (rI (fun _ j => 0 < j) fun i j => .int (i % j)) dMod := sim_iC (gd := fun i j => .int (i % j)) (fun _ _ _ h => ⟨of_decide_eq_true (okB_ok h).1, (okB_ok h).2⟩) (fun a b h => by cases a <;> cases b <;> first | rfl | (rcases h with h | h <;> cases h)) fun _ _ _ => .int _
theorem sim_pow : SimR2 K cl (rI CPow fun i j => .int (i ^ j.toNat)) dPow := sim_iC (gd := fun i j => .int (i ^ j.toNat)) (fun i j _ h => ⟨show 0 ≤ j ∧ j ≤ 1000000 ∧ i.natAbs < 2 ^ 64 from of_decide_eq_true (okB_ok h).1, (okB_ok h).2⟩) (fun a b h => by cases a <;> cases b <;> first | rfl | (rcases h with h | h <;> cases h)) fun _ _ _ => .int _
theorem sim_neg : SimR1 K cl (rU fun i => .int (-i)) dNeg := by
  intro zA F B H es σ x dx d Q r ax hd q
  cases ax with
  | int i => cases hd; exact ⟨i, rfl, q.here r (.int _)⟩
  | _ => simp [dNeg] at hd
def rMulD : R2 := fun x y H Q => (rI CMulW fun i j => .int (i * j)) x y H Q ∨ rRep x y H Q
theorem op_mulD {X : Cx} : OpR X (binaryOp .Mult) rMulD := op_mulW.or op_rep
theorem AtL.flat_rep {B : Hp} {vs : List V} {ds : List D} (h : AtL K cl B vs ds) : ∀ n : Nat, AtL K cl B (List.replicate n vs).flatten (List.replicate n ds).flatten
  | 0 => .nil
  | n + 1 => by
    rw [List.replicate_succ, List.replicate_succ, List.flatten_cons, List.flatten_cons]
    exact h.app (AtL.flat_rep h n)
theorem sim_mul : SimR2 K cl rMulD dMul := by
  intro zA F B H es σ x y dx dy d Q r ax ay hd q
  cases ax with
  | int i =>
    cases ay with
    | int j =>
      obtain ⟨hz, rfl⟩ := okB_ok hd
      exact .inl ⟨i, j, rfl, rfl, (show i.natAbs.log2 + j.natAbs.log2 < 1000000 from of_decide_eq_true hz), q.here r (.int _)⟩
    | _ => simp [dMul] at hd
  | lst h1 h2 =>
    cases ay with
    | int k =>
      obtain ⟨hz, rfl⟩ := okB_ok hd
      have hz := of_decide_eq_true hz
      refine .inr ⟨_, k, _, rfl, rfl, r.bh _ _ h1, hz.1, hz.2.1, ?_, fun p n => ?_⟩
      · rw [h2.len]; exact hz.2.2
      · exact q.lst r n (h2.flat_rep _)
    | _ => simp [dMul] at hd
  | _ => simp [dMul] at hd
theorem isN_dec {B : Hp} {v : V} {d : D} (a : At K cl B v d) : isN d = decide (v = .non) := by
  cases a <;> simp [isN]
theorem sim_is : SimR2 K cl (fun x y H Q => y = .non ∧ Q (.bl (decide (x = .non))) H) dIs := by
  intro zA F B H es σ x y dx dy d Q r ax ay hd q
  cases ay with
  | non =>
    simp [dIs] at hd
    subst hd
    exact ⟨rfl, q.here r (by rw [isN_dec ax]; exact .bl _)⟩
  | _ => simp [dIs] at hd
theorem sim_isn : SimR2 K cl (fun x y H Q => y = .non ∧ Q (.bl (!decide (x = .non))) H) dIsn := by
  intro zA F B H es σ x y dx dy d Q r ax ay hd q
  cases ay with
  | non =>
    simp [dIsn] at hd
    subst hd
    exact ⟨rfl, q.here r (by rw [isN_dec ax]; exact .bl _)⟩
  | _ => simp [dIsn] at hd
mutual
theorem at_dp {F B H : Hp} {es : En} {σ : L2.St} (r : Rel K cl zA F B H es σ) : ∀ (d : D) (v : V) (x : PyData), At K cl B v d → toPy d = some x → Dp K H v x
  | .non, _, _, a, e => by cases a; cases e; exact .non
  | .bl b, _, _, a, e => by cases a; cases e; exact .bl b
  | .int i, _, _, a, e => by cases a; cases e; exact .int i
  | .str s, _, _, a, e => by cases a; cases e; exact .str s
  | .tup l, _, _, a, e => by
    cases a with
    | tup h1 h2 =>
      simp only [toPy] at e
      cases el : toPyL l with
      | none => rw [el] at e; cases e
      | some xs =>
        rw [el] at e
        cases e
        exact .tup (sqT_mono r.bh h1) (at_dpL r l _ xs h2 el)
  | .lst l, _, _, a, e => by
    cases a with
    | lst h1 h2 =>
      simp only [toPy] at e
      cases el : toPyL l with
      | none => rw [el] at e; cases e
      | some xs =>
        rw [el] at e
        cases e
        exact .lst (.inl (.inl (r.bh _ _ h1))) (at_dpL r l _ xs h2 el)
  | .ins .., _, _, _, e => by cases e
  | .dc0, _, _, _, e => by cases e
theorem at_dpL {F B H : Hp} {es : En} {σ : L2.St} (r : Rel K cl zA F B H es σ) : ∀ (ds : List D) (vs : List V) (xs : List PyData), AtL K cl B vs ds → toPyL ds = some xs → DpAll K H vs xs
  | [], _, _, a, e => by cases a; cases e; exact .nil
  | d :: ds, _, _, a, e => by
    cases a with
    | cons a1 a2 =>
      simp only [toPyL] at e
      cases e1 : toPy d with
      | none => rw [e1] at e; cases e
      | some x =>
        cases e2 : toPyL ds with
        | none => rw [e1, e2] at e; cases e
        | some xs =>
          rw [e1, e2] at e
          cases e
          exact .cons (at_dp r d _ x a1 e1) (at_dpL r ds _ xs a2 e2)
end
theorem at_flat {B : Hp} {v : V} {d : D} {x : V} (a : At K cl B v d) (e : flat d = some x) : v = x := by
  cases a <;> first | (cases e; rfl) | cases e
theorem at_flats {B : Hp} : ∀ {ds : List D} {vs xs : List V}, AtL K cl B vs ds → flats ds = some xs → vs = xs
  | [], _, _, a, e => by cases a; cases e; rfl
  | d :: ds, _, _, a, e => by
    cases a with
    | cons a1 a2 =>
      simp only [flats] at e
      cases e1 : flat d with
      | none => rw [e1] at e; cases e
      | some x =>
        cases e2 : flats ds with
        | none => rw [e1, e2] at e; cases e
        | some xs =>
          rw [e1, e2] at e
          cases e
          rw [at_flat a1 e1, at_flats a2 e2]
theorem eqB_how {F B H : Hp} {es : En} {σ : L2.St} {x y : V} {dx dy : D} {k : Bool} (r : Rel K cl zA F B H es σ) (ax : At K cl B x dx) (ay : At K cl B y dy) (e : eqB dx dy = some k) :
    (scal x y = true ∧ k = decide (x = y)) ∨ ∃ p q, Dp K H x p ∧ Dp K H y q ∧ SeqAt.shaped p = true ∧ SeqAt.shaped q = true ∧ k = PyData.eqv p q := by
  have deep : deepB dx dy = some k → ∃ p q, Dp K H x p ∧ Dp K H y q ∧ SeqAt.shaped p = true ∧ SeqAt.shaped q = true ∧ k = PyData.eqv p q := fun e => by
    unfold deepB at e
    cases e1 : toPy dx with
    | none => rw [e1] at e; cases e
    | some p =>
      cases e2 : toPy dy with
      | none => rw [e1, e2] at e; cases e
      | some q =>
        rw [e1, e2] at e
        simp only at e
        split at e
        · rename_i hs
          rw [Bool.and_eq_true] at hs
          cases e
          exact ⟨p, q, at_dp r dx x p ax e1, at_dp r dy y q ay e2, hs.1, hs.2, rfl⟩
        · cases e
  unfold eqB at e
  cases e1 : flat dx with
  | none => rw [e1] at e; exact .inr (deep e)
  | some u =>
    cases e2 : flat dy with
    | none => rw [e1, e2] at e; exact .inr (deep e)
    | some w =>
      rw [e1, e2] at e
      simp only at e
      split at e
      · rename_i hs
        cases e
        rw [at_flat ax e1, at_flat ay e2]
        exact .inl ⟨hs, rfl⟩
      · exact .inr (deep e)
def rEqK (K : PySem.W.Frag) : R2 := fun x y H Q => rEq x y H Q ∨ rEqD K x y H Q
def rNeK (K : PySem.W.Frag) : R2 := fun x y H Q => rNe x y H Q ∨ rNeD K x y H Q
theorem op_eqK {X : Cx} (hu : X.A.units + 64 < cLine) : OpR X (compareOp .Eq) (rEqK X.K) := op_eq.or (op_eqD hu)
theorem op_neK {X : Cx} (hu : X.A.units + 64 < cLine) : OpR X (compareOp .NotEq) (rNeK X.K) := op_ne.or (op_neD hu)
theorem sim_eq : SimR2 K cl (rEqK K) dEq := by
  intro zA F B H es σ x y dx dy d Q r ax ay hd q
  unfold dEq at hd
  cases e : eqB dx dy with
  | none => rw [e] at hd; cases hd
  | some k =>
    rw [e] at hd
    cases hd
    rcases eqB_how r ax ay e with ⟨h1, rfl⟩ | ⟨p, p', h1, h2, h3, h4, rfl⟩
    · exact .inl ⟨h1, q.here r (.bl _)⟩
    · exact .inr ⟨p, p', h1, h2, h3, h4, q.here r (.bl _)⟩
theorem sim_ne : SimR2 K cl (rNeK K) dNe := by
  intro zA F B H es σ x y dx dy d Q r ax ay hd q
  unfold dNe at hd
  cases e : eqB dx dy with
  | none => rw [e] at hd; cases hd
  | some k =>
    rw [e] at hd
    cases hd
    rcases eqB_how r ax ay e with ⟨h1, rfl⟩ | ⟨p, p', h1, h2, h3, h4, rfl⟩
    · exact .inl ⟨h1, q.here r (.bl _)⟩
    · exact .inr ⟨p, p', h1, h2, h3, h4, q.here r (.bl _)⟩
def rInD (K : PySem.W.Frag) : R2 := fun x y H Q => (fun x y H Q => ∃ (c : Nat) (z : Str), x = V.str ⟨#[c]⟩ ∧ y = .str z ∧ Q (.bl (decide (c ∈ z.cps.toList))) H) x y H Q ∨
  (fun x y H Q => (fun x y H Q => ∃ i j, x = V.str i ∧ y = .str j ∧ Q (.bl (!(Builtin.Str.occurrences j i 0 j.length 1).isEmpty)) H) x y H Q ∨ rIn K false x y H Q) x y H Q
def rNinD (K : PySem.W.Frag) : R2 := fun x y H Q => (fun x y H Q => ∃ (c : Nat) (z : Str), x = V.str ⟨#[c]⟩ ∧ y = .str z ∧ Q (.bl (!decide (c ∈ z.cps.toList))) H) x y H Q ∨
  (fun x y H Q => (fun x y H Q => ∃ i j, x = V.str i ∧ y = .str j ∧ Q (.bl (!(!(Builtin.Str.occurrences j i 0 j.length 1).isEmpty))) H) x y H Q ∨ rIn K true x y H Q) x y H Q
theorem op_inD {X : Cx} : OpR X (compareOp .In) (rInD X.K) := op_in_sign.or (op_in_str.or op_in_seq)
theorem op_ninD {X : Cx} : OpR X (compareOp .NotIn) (rNinD X.K) := op_notIn_sign.or (op_notin_str.or op_notIn_seq)
theorem inB_how {F B H : Hp} {es : En} {σ : L2.St} {x y : V} {dx dy : D} {k : Bool} (r : Rel K cl zA F B H es σ) (ax : At K cl B x dx) (ay : At K cl B y dy) (e : inB dx dy = some k) :
    (∃ (c : Nat) (z : Str), x = V.str ⟨#[c]⟩ ∧ y = .str z ∧ k = decide (c ∈ z.cps.toList)) ∨ (∃ i j, x = V.str i ∧ y = .str j ∧ k = !(Builtin.Str.occurrences j i 0 j.length 1).isEmpty) ∨
    ∃ p xs, y = .ref p ∧ (SqL K H p xs ∨ SqT K H p xs) ∧ flatV x = true ∧ xs.all flatV = true ∧ k = inV x xs := by
  have seq : ∀ (l : List D) (vs : List V) (p : Addr), y = .ref p → AtL K cl B vs l → (SqL K H p vs ∨ SqT K H p vs) → (match flat dx, flats l with
      | some x, some xs => if flatV x && xs.all flatV then some (inV x xs) else none
      | _, _ => none) = some k → ∃ p xs, y = .ref p ∧ (SqL K H p xs ∨ SqT K H p xs) ∧ flatV x = true ∧ xs.all flatV = true ∧ k = inV x xs := fun l vs p ey al hs e => by
    cases e1 : flat dx with
    | none => rw [e1] at e; cases e
    | some u =>
      cases e2 : flats l with
      | none => rw [e1, e2] at e; cases e
      | some us =>
        rw [e1, e2] at e
        simp only at e
        split at e
        · rename_i hf
          rw [Bool.and_eq_true] at hf
          cases e
          have z1 := at_flat ax e1
          have z2 := at_flats al e2
          subst z1
          subst z2
          exact ⟨p, vs, ey, hs, hf.1, hf.2, rfl⟩
        · cases e
  cases ay with
  | str z =>
    cases ax with
    | str s =>
      simp only [inB] at e
      cases hs : s.cps.toList with
      | nil =>
        rw [hs] at e
        cases e
        exact .inr (.inl ⟨s, z, rfl, rfl, rfl⟩)
      | cons c t =>
        cases t with
        | nil =>
          rw [hs] at e
          cases e
          refine .inl ⟨c, z, ?_, rfl, rfl⟩
          have : s = ⟨#[c]⟩ := by
            cases s with
            | mk a =>
              congr 1
              have h2 : a.toList = [c] := hs
              rw [← Array.toArray_toList (xs := a), h2]
          rw [this]
        | cons _ _ =>
          rw [hs] at e
          cases e
          exact .inr (.inl ⟨s, z, rfl, rfl, rfl⟩)
    | _ => simp [inB] at e
  | tup h1 h2 => exact .inr (.inr (seq _ _ _ rfl h2 (.inr (sqT_mono r.bh h1)) e))
  | lst h1 h2 => exact .inr (.inr (seq _ _ _ rfl h2 (.inl (.inl (.inl (r.bh _ _ h1)))) e))
  | _ => simp [inB] at e
theorem sim_in : SimR2 K cl (rInD K) dIn := by
  intro zA F B H es σ x y dx dy d Q r ax ay hd q
  unfold dIn at hd
  cases e : inB dx dy with
  | none => rw [e] at hd; cases hd
  | some k =>
    rw [e] at hd
    cases hd
    have fin := q.here r (.bl k)
    rcases inB_how r ax ay e with ⟨c, z, h1, h2, rfl⟩ | ⟨i, j, h1, h2, rfl⟩ | ⟨p, xs, h1, h2, h3, h4, rfl⟩
    · exact .inl ⟨c, z, h1, h2, fin⟩
    · exact .inr (.inl ⟨i, j, h1, h2, fin⟩)
    · exact .inr (.inr ⟨p, xs, h1, h2, h3, h4, fin⟩)
theorem sim_nin : SimR2 K cl (rNinD K) dNin := by
  intro zA F B H es σ x y dx dy d Q r ax ay hd q
  unfold dNin at hd
  cases e : inB dx dy with
  | none => rw [e] at hd; cases hd
  | some k =>
    rw [e] at hd
    cases hd
    have fin := q.here r (.bl (!k))
    rcases inB_how r ax ay e with ⟨c, z, h1, h2, rfl⟩ | ⟨i, j, h1, h2, rfl⟩ | ⟨p, xs, h1, h2, h3, h4, rfl⟩
    · exact .inl ⟨c, z, h1, h2, fin⟩
    · exact .inr (.inl ⟨i, j, h1, h2, fin⟩)
    · exact .inr (.inr ⟨p, xs, h1, h2, h3, h4, fin⟩)
theorem atI_at {B : Hp} {vs : List V} {ds : List D} {i : Int} {d : D} (h : AtL K cl B vs ds) (e : atI ds i = some d) : ∃ v, atI vs i = some v ∧ At K cl B v d := by
  unfold atI at e ⊢
  rw [h.len]
  cases q : ixN ds.length i with
  | none => rw [q] at e; cases e
  | some j =>
    rw [q] at e
    exact h.get e
theorem atI_map (l : List Int) (i : Int) : atI (l.map V.int) i = (atI l i).map V.int := by
  unfold atI
  rw [List.length_map]
  cases ixN l.length i with
  | none => rfl
  | some j => simp
theorem sim_ix : SimR2 K cl (rIx K) dIx := by
  intro zA F B H es σ x y dx dy d Q r ax ay hd q
  cases ay with
  | int i =>
    cases ax with
    | tup h1 h2 =>
      obtain ⟨v, hv, av⟩ := atI_at h2 hd
      exact .inr (.inl ⟨_, _, i, v, rfl, rfl, sqT_mono r.bh h1, hv, q.here r av⟩)
    | lst h1 h2 =>
      obtain ⟨v, hv, av⟩ := atI_at h2 hd
      exact .inl ⟨_, _, i, v, rfl, rfl, .inl (.inl (r.bh _ _ h1)), hv, q.here r av⟩
    | @scr p l h1 =>
      simp only [dIx] at hd
      cases e : atI l i with
      | none => rw [e] at hd; cases hd
      | some n =>
        rw [e] at hd
        cases hd
        exact .inl ⟨_, _, i, .int n, rfl, rfl, sqL_mono r.bh h1, by rw [atI_map, e]; rfl, q.here r (.int n)⟩
    | str s =>
      simp only [dIx] at hd
      split at hd
      · rename_i hz
        cases e : atI s.cps.toList i with
        | none => rw [e] at hd; cases hd
        | some c =>
          rw [e] at hd
          cases hd
          exact .inr (.inr ⟨s, i, c, rfl, rfl, hz, e, q.here r (.str _)⟩)
      · cases hd
    | _ => simp [dIx] at hd
  | _ => cases ax <;> simp [dIx] at hd
theorem cut_at {B : Hp} {vs : List V} {ds : List D} {lo hi : Option Int} (h : AtL K cl B vs ds) : AtL K cl B (cutV vs lo hi) (cutD ds lo hi) := by
  unfold cutV cutD
  rw [h.len]
  exact (h.drop _).take _
def rSlD (K : PySem.W.Frag) : V → Option Int → Option Int → Hp → VK → Prop := fun x lo hi H Q => rSlL K x lo hi H Q ∨ (fun x lo hi H Q => rSlA K x lo hi H Q ∨ rSlS x lo hi H Q) x lo hi H Q
theorem sl_D {X : Cx} : SlR X (rSlD X.K) := sl_list.or (sl_tupA.or sl_str)
theorem sim_slice : SimSl K cl (rSlD K) dSl := by
  intro zA F B H es σ x dx d lo hi Q r ax hd q
  cases ax with
  | lst h1 h2 =>
    cases hd
    exact .inl ⟨_, _, rfl, .inl (.inl (r.bh _ _ h1)), fun p n => q.lst r n (cut_at h2)⟩
  | @tup p vs ds h1 h2 =>
    cases hd
    refine .inr (.inl ⟨_, _, rfl, sqT_mono r.bh h1, fun e => ?_, fun _ p n => q.tup r n (cut_at h2)⟩)
    have hw : cutD ds lo hi = ds := by
      unfold cutD
      rw [← h2.len, e.1, e.2]
      rw [List.drop_zero, h2.len, Nat.sub_zero, List.take_length]
    rw [hw] at q
    exact q.here r (.tup h1 h2)
  | str s =>
    simp only [dSl] at hd
    split at hd
    · rename_i hz
      cases hd
      exact .inr (.inr ⟨s, rfl, hz, q.here r (.str _)⟩)
    · cases hd
  | _ => simp [dSl] at hd
end
end Mi
namespace Mi
open PySem PySem.Spec PyProof.Rows L2
def SimS (K : PySem.W.Frag) (cl : CL) (E : XK) (t : TS) (m : M Out) : Prop := ∀ (zA : Zp) (F B H : Hp) (es : En) (σ : L2.St) (Dn : Ends), Rel K cl zA F B H es σ →
  Po K cl E F B (m es) (fun o es' B' H' => match o with
    | .nx => ∀ σ', Rel K cl zA F B' H' es' σ' → Dn.nx σ' H'
    | .rt d => ∀ v σ', Rel K cl zA F B' H' es' σ' → At K cl B' v d → Dn.rt v H'
    | .bk => ∀ σ', Rel K cl zA F B' H' es' σ' → Dn.bk σ' H'
    | .ct => ∀ σ', Rel K cl zA F B' H' es' σ' → Dn.ct σ' H') → t Dn σ H
abbrev EndP (K : PySem.W.Frag) (cl : CL) (zA : Zp) (F : Hp) (Dn : Ends) : Out → En → Hp → Hp → Prop := fun o es' B' H' => match o with
    | .nx => ∀ σ', Rel K cl zA F B' H' es' σ' → Dn.nx σ' H'
    | .rt d => ∀ v σ', Rel K cl zA F B' H' es' σ' → At K cl B' v d → Dn.rt v H'
    | .bk => ∀ σ', Rel K cl zA F B' H' es' σ' → Dn.bk σ' H'
    | .ct => ∀ σ', Rel K cl zA F B' H' es' σ' → Dn.ct σ' H'
def SimG (K : PySem.W.Frag) (cl : CL) (is : List Nat) (g : TG) (b : D → M Unit) : Prop := ∀ (zA : Zp) (F B H : Hp) (es : En) (σ : L2.St) (v : V) (d : D) (es' : En) (Q : L2.St → Hp → Prop), Rel K cl zA F B H es σ → At K cl B v d → b d es = .ok ((), es') →
  (∀ σ' : L2.St, Rel K cl zA F B H es' σ' → σ'.length = σ.length → (∀ j, j ∉ is → σ'[j]? = σ[j]?) → Q σ' H) → g v σ H Q
def SimGs (K : PySem.W.Frag) (cl : CL) (is : List Nat) (g : TGs) (b : List D → M Unit) : Prop := ∀ (zA : Zp) (F B H : Hp) (es : En) (σ : L2.St) (vs : List V) (ds : List D) (es' : En) (Q : L2.St → Hp → Prop), Rel K cl zA F B H es σ → AtL K cl B vs ds → b ds es = .ok ((), es') →
  (∀ σ' : L2.St, Rel K cl zA F B H es' σ' → σ'.length = σ.length → (∀ j, j ∉ is → σ'[j]? = σ[j]?) → Q σ' H) → g vs σ H Q
def mNext : M Out := Mi.ret .nx
def mSeq (m n : M Out) : M Out := Mi.bnd m fun o => match o with
  | .nx => n
  | .rt d => Mi.ret (.rt d)
  | .bk => Mi.ret .bk
  | .ct => Mi.ret .ct
def bName (i : Nat) (d : D) : M Unit := fun es => .ok ((), es.set i (.dat d))
def bNames : List Nat → List D → M Unit
  | [], [] => Mi.ret ()
  | i :: is, d :: ds => fun es => bNames is ds (es.set i (.dat d))
  | _, _ => Mi.bad
def bTup (is : List Nat) : D → M Unit
  | .tup l => bNames is l
  | _ => Mi.bad
def mAsg (b : D → M Unit) (m : M D) : M Out := Mi.bnd m fun d => Mi.bnd (b d) fun _ => Mi.ret .nx
def mDrop (m : M D) : M Out := Mi.bnd m fun _ => Mi.ret .nx
def mRet (m : M D) : M Out := Mi.bnd m fun d => Mi.ret (.rt d)
def mRetN : M Out := Mi.ret (.rt .non)
def mIf (t : M Bool) (a b : M Out) : M Out := Mi.bnd t fun c => if c = true then a else b
def mBrk : M Out := Mi.ret .bk
def mCnt : M Out := Mi.ret .ct
def mPar (is : List Nat) (m : M (List D)) : M Out := Mi.bnd m fun l => Mi.bnd (bNames is l) fun _ => Mi.ret .nx
def mAsgO (i : Nat) (m : M (List D)) : M Out := Mi.bnd m fun l => fun es => if l.length ≤ sizeLine then .ok (.nx, es.set i (.own l)) else .bad
def ownAt (i : Nat) (es : En) : Option (List D) := match es[i]? with
  | some (.own l) => some l
  | _ => none
def mApp (i : Nat) (m : M D) : M D := fun es => match ownAt i es with
  | some _ => Mi.bnd m (fun d es1 => match ownAt i es1 with
    | some l => if l.length < sizeLine then .ok (.non, es1.set i (.own (l ++ [d]))) else .bad
    | none => .bad) es
  | none => .bad
def mIxO (i : Nat) (m : M D) : M D := fun es => match ownAt i es with
  | some _ => Mi.bnd m (fun d es1 => match ownAt i es1 with
    | some l => Mi.opt ((isI d).bind (atI l)) es1
    | none => .bad) es
  | none => .bad
def mSetO (i : Nat) (mk m : M D) : M Out := Mi.bnd m fun x es0 => match ownAt i es0 with
  | some _ => Mi.bnd mk (fun k es1 => match ownAt i es1 with
    | some l => Mi.opt ((isI k).bind (ixN l.length)) es1 |> fun r => match r with
      | .ok (j, _) => .ok (.nx, es1.set i (.own (l.set j x)))
      | _ => .bad
    | none => .bad) es0
  | none => .bad
section
variable {K : PySem.W.Frag} {cl : CL} {zA : Zp} {E : XK} {F B H : Hp} {es : En} {σ : L2.St}
theorem own_at {i : Nat} {l : List D} (h : ownAt i es = some l) : es[i]? = some (.own l) := by
  unfold ownAt at h
  split at h
  · rename_i q e
    cases h
    exact e
  · cases h
theorem sim_next : SimS K cl E tNext mNext := fun zA F B H es σ Dn r h => Po.ret0 h H σ r
theorem sim_seq {t u : TS} {m n : M Out} (ht : SimS K cl E t m) (hu : SimS K cl E u n) : SimS K cl E (tSeq t u) (mSeq m n) := by
  intro zA F B H es σ Dn r h
  refine ht _ F B H es σ { Dn with nx := u Dn } r (Po.imp (Po.bnd h) fun o es1 B1 H1 e1 f1 h1 => ?_)
  cases o with
  | nx => exact fun σ' r1 => hu _ F B1 H1 es1 σ' Dn r1 h1
  | rt d => exact Po.ret0 (show Po K cl E F B1 (Mi.ret (Out.rt d) es1) (EndP K cl zA F Dn) from h1) H1
  | bk => exact Po.ret0 (show Po K cl E F B1 (Mi.ret Out.bk es1) (EndP K cl zA F Dn) from h1) H1
  | ct => exact Po.ret0 (show Po K cl E F B1 (Mi.ret Out.ct es1) (EndP K cl zA F Dn) from h1) H1
theorem sim_gname {i : Nat} : SimG K cl [i] (gName i) (bName i) := by
  intro zA F B H es σ v d es' Q r a e h
  cases e
  exact h _ (r.put a) (List.length_set) fun j hj => List.getElem?_set_ne fun e => hj (by rw [e]; exact List.mem_singleton_self _)
theorem sim_gnil : SimGs K cl [] gNil (bNames []) := by
  intro zA F B H es σ vs ds es' Q r a e h
  cases a with
  | nil => cases e; exact ⟨rfl, h _ r rfl fun _ _ => rfl⟩
  | cons _ _ => cases e
theorem sim_gcons {i : Nat} {is : List Nat} {g : TGs} (hg : SimGs K cl is g (bNames is)) : SimGs K cl (i :: is) (gCons (gName i) g) (bNames (i :: is)) := by
  intro zA F B H es σ vs ds es' Q r a e h
  cases a with
  | nil => cases e
  | @cons v vs d ds a1 a2 => exact ⟨v, vs, rfl, hg _ F B H _ _ vs ds es' Q (r.put a1) a2 e fun σ' r' hl hj => h σ' r' (by rw [hl, List.length_set]) fun j hn => by
    rw [hj j fun z => hn (List.mem_cons_of_mem _ z)]
    exact List.getElem?_set_ne fun e => hn (by rw [e]; exact List.mem_cons_self)⟩
theorem bNames_len : ∀ {is : List Nat} {ds : List D} {es es' : En}, bNames is ds es = .ok ((), es') → ds.length = is.length
  | [], [], _, _, _ => rfl
  | [], _ :: _, _, _, h => by cases h
  | _ :: _, [], _, _, h => by cases h
  | _ :: is, _ :: ds, _, _, h => congrArg Nat.succ (bNames_len (is := is) (ds := ds) h)
theorem sim_gtup {is : List Nat} {n : Nat} {g : TGs} (hn : is.length = n) (hg : SimGs K cl is g (bNames is)) : SimG K cl is (gTup K n g) (bTup is) := by
  intro zA F B H es σ v d es' Q r a e h
  cases a with
  | @tup p vs ds h1 h2 => exact ⟨p, vs, rfl, sqT_mono r.bh h1, by rw [h2.len, bNames_len e, hn], hg _ F B H es σ vs ds es' Q r h2 e h⟩
  | _ => cases e
theorem Po.unit {α : Type} {m : M Unit} {f : M α} {k : α → En → Hp → Hp → Prop} (h : Po K cl E F B (Mi.bnd m (fun _ => f) es) k) (he : ∀ c d, m es ≠ .exc c d) : ∃ es', m es = .ok ((), es') ∧ Po K cl E F B (f es') k := by
  unfold Mi.bnd at h
  cases e : m es with
  | ok p => rw [e] at h; exact ⟨p.2, rfl, h⟩
  | exc c d => exact absurd e (he c d)
  | bad => rw [e] at h; exact h.elim
theorem bNames_ne : ∀ {is : List Nat} {ds : List D} {es : En} (c : Nat) (d : D), bNames is ds es ≠ .exc c d
  | [], [], _, _, _ => fun h => by cases h
  | [], _ :: _, _, _, _ => fun h => by cases h
  | _ :: _, [], _, _, _ => fun h => by cases h
  | _ :: is, _ :: ds, _, c, d => bNames_ne (is := is) (ds := ds) c d
theorem bTup_ne {is : List Nat} {x : D} {es : En} (c : Nat) (d : D) : bTup is x es ≠ .exc c d := by
  cases x <;> first | exact bNames_ne c d | (intro h; cases h)
theorem sim_asg {te : TE} {m : M D} {g : TG} {b : D → M Unit} {is : List Nat} (hb : ∀ x es c d, b x es ≠ .exc c d) (he : SimE K cl E te m) (hg : SimG K cl is g b) : SimS K cl E (tAsg te g) (mAsg b m) := by
  intro zA F B H es σ Dn r h
  refine he _ F B H es σ _ r (Po.imp (Po.bnd h) fun d es1 B1 H1 e1 f1 h1 v r1 a => ?_)
  obtain ⟨es2, e2, h2⟩ := Po.unit h1 (hb _ _)
  exact hg _ F B1 H1 es1 σ v d es2 _ r1 a e2 fun σ' r' _ _ => Po.ret0 h2 H1 σ' r'
theorem sim_drop {te : TE} {m : M D} (he : SimE K cl E te m) : SimS K cl E (tDrop te) (mDrop m) := by
  intro zA F B H es σ Dn r h
  exact he _ F B H es σ _ r (Po.imp (Po.bnd h) fun d es1 B1 H1 e1 f1 h1 v r1 a => Po.ret0 h1 H1 σ r1)
theorem sim_ret {te : TE} {m : M D} (he : SimE K cl E te m) : SimS K cl E (tRet te) (mRet m) := by
  intro zA F B H es σ Dn r h
  exact he _ F B H es σ _ r (Po.imp (Po.bnd h) fun d es1 B1 H1 e1 f1 h1 v r1 a => Po.ret0 h1 H1 v σ r1 a)
theorem sim_retN : SimS K cl E tRetN mRetN := fun zA F B H es σ Dn r h => Po.ret0 h H .non σ r .non
theorem sim_if {t : TT} {m : M Bool} {ta tb : TS} {ma mb : M Out} (ht : SimT K cl E t m) (ha : SimS K cl E ta ma) (hb : SimS K cl E tb mb) : SimS K cl E (tIfS t ta tb) (mIf m ma mb) := by
  intro zA F B H es σ Dn r h
  refine ht _ F B H es σ _ r (Po.imp (Po.bnd h) fun b es1 B1 H1 _ _ h1 r1 => ?_)
  cases b with
  | true => exact ha _ F B1 H1 es1 σ Dn r1 h1
  | false => exact hb _ F B1 H1 es1 σ Dn r1 h1
theorem sim_brk : SimS K cl E tBreak mBrk := fun zA F B H es σ Dn r h => Po.ret0 h H σ r
theorem sim_cnt : SimS K cl E tCont mCnt := fun zA F B H es σ Dn r h => Po.ret0 h H σ r
theorem sim_par {i j : Nat} {ta : TA} {m : M (List D)} (ha : SimA K cl E ta m) : SimS K cl E (tPar i j ta) (mPar [i, j] m) := by
  intro zA F B H es σ Dn r h
  refine ha _ F B H es σ _ r (Po.imp (Po.bnd h) fun ds es1 B1 H1 e1 f1 h1 vs r1 a => ?_)
  obtain ⟨es2, e2, h2⟩ := Po.unit h1 bNames_ne
  have hl := bNames_len e2
  match vs, ds, a, e2 with
  | _, _, .cons (v := v) a1 (.cons (v := w) a2 .nil), e2 =>
    cases e2
    exact ⟨v, w, rfl, Po.ret0 h2 H1 _ ((r1.put a1).put a2)⟩
  | _, _, .nil, e2 => cases hl
  | _, _, .cons _ .nil, e2 => cases hl
  | _, _, .cons _ (.cons _ (.cons _ _)), e2 => simp at hl
theorem sim_par3 {i j k : Nat} {ta : TA} {m : M (List D)} (ha : SimA K cl E ta m) : SimS K cl E (tPar3 i j k ta) (mPar [i, j, k] m) := by
  intro zA F B H es σ Dn r h
  refine ha _ F B H es σ _ r (Po.imp (Po.bnd h) fun ds es1 B1 H1 e1 f1 h1 vs r1 a => ?_)
  obtain ⟨es2, e2, h2⟩ := Po.unit h1 bNames_ne
  have hl := bNames_len e2
  match vs, ds, a, e2 with
  | _, _, .cons (v := v) a1 (.cons (v := w) a2 (.cons (v := z) a3 .nil)), e2 =>
    cases e2
    exact ⟨v, w, z, rfl, Po.ret0 h2 H1 _ (((r1.put a1).put a2).put a3)⟩
  | _, _, .nil, e2 => cases hl
  | _, _, .cons _ .nil, e2 => cases hl
  | _, _, .cons _ (.cons _ .nil), e2 => simp at hl
  | _, _, .cons _ (.cons _ (.cons _ (.cons _ _))), e2 => simp at hl
theorem sim_asgO {i : Nat} {ta : TA} {m : M (List D)} (i0 : i ≠ 0) (ha : SimA K cl E ta m) : SimS K cl E (tAsg (tLst ta) (gName i)) (mAsgO i m) := by
  intro zA F B H es σ Dn r h
  refine ha _ F B H es σ _ r (Po.imp (Po.bnd h) fun ds es1 B1 H1 e1 f1 h1 vs r1 a => ?_)
  by_cases hz : ds.length ≤ sizeLine
  · rw [if_pos hz] at h1
    refine ⟨by rw [a.len]; exact hz, fun p n => ?_⟩
    exact h1 B1 _ (Same.rfl' _) (Frs.refl _ _) _ (r1.putOwn i0 n a)
  · rw [if_neg hz] at h1
    exact h1.elim
def mParO (i j : Nat) (m : M D) : M Out := Mi.bnd m fun d es => .ok (.nx, (es.set i (.dat d)).set j (.own []))
theorem sim_parO {i j : Nat} {te : TE} {m : M D} (j0 : j ≠ 0) (ha : SimE K cl E te m) : SimS K cl E (tPar i j (tCons te (tCons (tLst tNil) tNil))) (mParO i j m) := by
  intro zA F B H es σ Dn r h
  refine ha _ F B H es σ _ r (Po.imp (Po.bnd h) fun d es1 B1 H1 e1 f1 h1 v r1 a => ?_)
  exact ⟨Nat.zero_le _, fun p n => ⟨v, .ref p, rfl, h1 B1 _ (Same.rfl' _) (Frs.refl _ _) _ ((r1.put a).putOwn j0 n .nil)⟩⟩
theorem Rel.floor (r : Rel K cl zA F B H es σ) {p : Addr} {vs : List V} (n : H p = none) : Rel K cl zA (upd F p (.lst vs)) B (upd H p (.lst vs)) es σ where
  tab := fun q hq => (r.tab q hq).ext (same_new n)
  nb := r.nb
  nf := r.nf.upd fun _ z => by cases z
  fl := r.fl.trans (same_new (r.fh.free n))
  bh := r.bh.trans (same_new n)
  fh := fun b o e => by
    by_cases hb : b = p
    · subst hb
      rw [upd_same] at e ⊢
      exact e
    · rw [upd_ne hb] at e ⊢
      exact r.fh _ _ e
  len := r.len
  dat := r.dat
  own := fun i l e => by
    obtain ⟨q, ws, h1, h2, h3, h4, h5⟩ := r.own i l e
    have ne : q ≠ p := ne_of_none h4 n
    exact ⟨q, ws, h1, h2, by rw [upd_ne ne]; exact h3, by rw [upd_ne ne]; exact h4, h5⟩
  apart := r.apart
  zero := r.zero
theorem Rel.floorG (r : Rel K cl zA F B H es σ) {p : Addr} {o0 : HO} (n : H p = none) (no : ∀ ps, o0 ≠ .tbl ps := by intro _ z; cases z) : Rel K cl zA (upd F p o0) B (upd H p o0) es σ where
  tab := fun q hq => (r.tab q hq).ext (same_new n)
  nb := r.nb
  nf := r.nf.upd no
  fl := r.fl.trans (same_new (r.fh.free n))
  bh := r.bh.trans (same_new n)
  fh := fun b o e => by
    by_cases hb : b = p
    · subst hb
      rw [upd_same] at e ⊢
      exact e
    · rw [upd_ne hb] at e ⊢
      exact r.fh _ _ e
  len := r.len
  dat := r.dat
  own := fun i l e => by
    obtain ⟨q, ws, h1, h2, h3, h4, h5⟩ := r.own i l e
    have ne : q ≠ p := ne_of_none h4 n
    exact ⟨q, ws, h1, h2, by rw [upd_ne ne]; exact h3, by rw [upd_ne ne]; exact h4, h5⟩
  apart := r.apart
  zero := r.zero
theorem Rel.lower {p : Addr} {vs : List V} {B0 : Hp} (r : Rel K cl zA (upd F p (.lst vs)) B H es σ) (n : F p = none) (nl : cl.fl p = none) : Rel K cl zA F B H es σ where
  tab := r.tab
  nb := r.nb
  nf := r.nf.low n
  fl := same_low r.fl nl
  bh := r.bh
  fh := fun b o e => r.fh _ _ (by rw [upd_ne (ne_of_none e n)]; exact e)
  len := r.len
  dat := r.dat
  own := fun i l e => by
    obtain ⟨q, ws, h1, h2, h3, h4, h5⟩ := r.own i l e
    refine ⟨q, ws, h1, h2, ?_, h4, h5⟩
    by_cases hq : q = p
    · subst hq
      rw [upd_same] at h3
      cases h3
    · rw [upd_ne hq] at h3
      exact h3
  apart := r.apart
  zero := r.zero
theorem Frs.floor {p : Addr} {o : HO} {B' : Hp} (f : Frs B (upd F p o) B') (nf : F p = none) : Frs B F B' := fun x u e n => by
  have z := f x u e n
  by_cases hx : x = p
  · rw [hx]; exact nf
  · rw [upd_ne hx] at z; exact z
theorem Frs.notp {p : Addr} {o : HO} {B' : Hp} (f : Frs B (upd F p o) B') (nb : B p = none) : B' p = none := by
  cases q : B' p with
  | none => rfl
  | some u =>
    have z := f p u q nb
    rw [upd_same] at z
    cases z
theorem sim_app {i : Nat} {te : TE} {m : M D} (ha : SimE K cl E te m) : SimE K cl E (tBM K "list" rAppend (tVar i) (tCons te tNil)) (mApp i m) := by
  intro zA F B H es σ Q r h
  unfold mApp at h
  cases e0 : ownAt i es with
  | none => rw [e0] at h; exact h.elim
  | some l0 =>
    rw [e0] at h
    obtain ⟨p, vs, h1, h2, h3, h4, h5⟩ := r.own i l0 (own_at e0)
    refine ⟨.ref p, h1, .inl ⟨rfl, _, .inl (.inl h4)⟩, ?_⟩
    refine ha _ F B H es σ _ r (Po.imp (Po.bnd h) fun d es1 B1 H1 e1 f1 k v r1 a => ?_)
    cases q : ownAt i es1 with
    | none => rw [q] at k; exact k.elim
    | some l =>
      rw [q] at k
      simp only at k
      by_cases hz : l.length < sizeLine
      · rw [if_pos hz] at k
        obtain ⟨p', ws, g1, g2, g3, g4, g5⟩ := r1.own i l (own_at q)
        rw [h1] at g1
        cases g1
        refine ⟨p, ws, v, rfl, rfl, g4, by rw [g5.len]; exact hz, ?_⟩
        exact k B1 _ (Same.rfl' _) (Frs.refl _ _) .non (r1.chg (own_at q) h1 (g5.app (.one a))) .non
      · rw [if_neg hz] at k
        exact k.elim
theorem sim_ixO {i : Nat} {te : TE} {m : M D} (ha : SimE K cl E te m) : SimE K cl E (tOp (rIx K) (tVar i) te) (mIxO i m) := by
  intro zA F B H es σ Q r h
  unfold mIxO at h
  cases e0 : ownAt i es with
  | none => rw [e0] at h; exact h.elim
  | some l0 =>
    rw [e0] at h
    obtain ⟨p, vs, h1, h2, h3, h4, h5⟩ := r.own i l0 (own_at e0)
    refine ⟨.ref p, h1, ?_⟩
    refine ha _ F B H es σ _ r (Po.imp (Po.bnd h) fun d es1 B1 H1 e1 f1 k v r1 a => ?_)
    cases q : ownAt i es1 with
    | none => rw [q] at k; exact k.elim
    | some l =>
      rw [q] at k
      obtain ⟨x, hx, hk⟩ := Po.opt k
      obtain ⟨p', ws, g1, g2, g3, g4, g5⟩ := r1.own i l (own_at q)
      rw [h1] at g1
      cases g1
      cases ej : isI d with
      | none => rw [ej] at hx; cases hx
      | some j =>
        rw [ej] at hx
        obtain ⟨w, hw, aw⟩ := atI_at g5 hx
        exact .inl ⟨p, ws, j, w, rfl, at_i a ej, .inl (.inl g4), hw, hk B1 _ (Same.rfl' _) (Frs.refl _ _) w r1 aw⟩
theorem sim_setO {i : Nat} {te ti : TE} {m mk : M D} (ha : SimE K cl E te m) (hk : SimE K cl E ti mk) : SimS K cl E (tAsg te (gSub (tVar i) ti rSetL)) (mSetO i mk m) := by
  intro zA F B H es σ Dn r h
  refine ha _ F B H es σ _ r (Po.imp (Po.bnd h) fun x es0 B0 H0 e0 f0 h0 v r0 a0 => ?_)
  simp only at h0
  cases q0 : ownAt i es0 with
  | none => rw [q0] at h0; exact h0.elim
  | some l0 =>
    rw [q0] at h0
    simp only at h0
    obtain ⟨p, vs, h1, h2, h3, h4, h5⟩ := r0.own i l0 (own_at q0)
    refine ⟨.ref p, h1, ?_⟩
    refine hk _ F B0 H0 es0 σ _ r0 (Po.imp (Po.bnd h0) fun d es1 B1 H1 e1 f1 k w r1 a => ?_)
    cases q : ownAt i es1 with
    | none => rw [q] at k; exact k.elim
    | some l =>
      rw [q] at k
      simp only at k
      obtain ⟨p', ws, g1, g2, g3, g4, g5⟩ := r1.own i l (own_at q)
      rw [h1] at g1
      cases g1
      cases ej : isI d with
      | none => rw [ej] at k; exact k.elim
      | some j =>
        rw [ej] at k
        simp only [Option.bind_some] at k
        cases en : ixN l.length j with
        | none => rw [en] at k; exact k.elim
        | some n =>
          rw [en] at k
          simp only [Mi.opt] at k
          refine ⟨p, ws, j, n, rfl, at_i a ej, g4, by rw [g5.len]; exact en, ?_⟩
          exact k B1 _ (Same.rfl' _) (Frs.refl _ _) σ (r1.chg (own_at q) h1 (g5.set n (a0.up e1)))
end
def ItD (K : PySem.W.Frag) (cl : CL) (J : It) (B0 : Hp) (ds : List D) : Prop := ∀ (zA : Zp) (F B H : Hp) (es : En) (σ : L2.St), Rel K cl zA F B H es σ → Same B0 B →
  (∀ (i : Nat) (d : D), ds[i]? = some d → J.go i H ∧ ∀ x H', J.yld i H x H' → ∃ B', Same B B' ∧ Frs B F B' ∧ Rel K cl zA F B' H' es σ ∧ At K cl B' x d) ∧ ∀ i, ds.length ≤ i → J.stop i H
def SimI (K : PySem.W.Frag) (cl : CL) (E : XK) (wi : TI) (m : M (List D)) : Prop := ∀ (zA : Zp) (F B H : Hp) (es : En) (σ : L2.St) (R : It → Hp → Prop), Rel K cl zA F B H es σ →
  Po K cl E F B (m es) (fun ds es' B' H' => ∀ J, Rel K cl zA F B' H' es' σ → ItD K cl J B' ds → R J H') → wi σ H R
def loopM (b : D → M Unit) (m : M Out) : List D → M Out
  | [] => Mi.ret .nx
  | d :: ds => Mi.bnd (b d) fun _ => Mi.bnd m fun o => match o with
    | .nx => loopM b m ds
    | .ct => loopM b m ds
    | .bk => Mi.ret .nx
    | .rt x => Mi.ret (.rt x)
def mFor (s : M (List D)) (b : D → M Unit) (m : M Out) : M Out := Mi.bnd s fun ds => loopM b m ds
section
variable {K : PySem.W.Frag} {cl : CL} {E : XK}
theorem sim_for {wi : TI} {g : TG} {tb : TS} {ms : M (List D)} {b : D → M Unit} {mb : M Out} {is : List Nat} (hb : ∀ x es c d, b x es ≠ .exc c d) (hi : SimI K cl E wi ms) (hg : SimG K cl is g b) (ht : SimS K cl E tb mb) : SimS K cl E (tFor wi g tb) (mFor ms b mb) := by
  intro zA F B H es σ Dn r h
  refine hi _ F B H es σ _ r (Po.imp (Po.bnd h) fun ds es1 B1 H1 e1 f1 h1 J r1 hJ => ?_)
  refine ⟨fun i m σ' H' => ∃ es' B', i + m = ds.length ∧ Rel K cl zA F B' H' es' σ' ∧ Same B1 B' ∧ Frs B1 F B' ∧ Po K cl E F B' (loopM b mb (ds.drop i) es') (EndP K cl zA F Dn),
    ⟨ds.length, es1, B1, Nat.zero_add _, r1, Same.rfl' _, Frs.refl _ _, h1⟩, ?_⟩
  rintro i m σ' H' ⟨es', B', hm, r', s', f', h'⟩
  obtain ⟨go, st⟩ := hJ _ F B' H' es' σ' r' s'
  by_cases hlt : i < ds.length
  · have hd : ds[i]? = some ds[i] := List.getElem?_eq_getElem hlt
    have hdr : ds.drop i = ds[i] :: ds.drop (i + 1) := List.drop_eq_getElem_cons hlt
    obtain ⟨g1, g2⟩ := go i _ hd
    refine .inr ⟨g1, fun σ2 H2 => ∃ es2 B2, Rel K cl zA F B2 H2 es2 σ2 ∧ Same B1 B2 ∧ Frs B1 F B2 ∧ Po K cl E F B2 (loopM b mb (ds.drop (i + 1)) es2) (EndP K cl zA F Dn), fun σ2 H2 hN => ?_, fun x H2 hy => ?_⟩
    · obtain ⟨es2, B2, r2, s2, f2, h2⟩ := hN
      exact ⟨m - 1, by omega, es2, B2, by omega, r2, s2, f2, h2⟩
    · obtain ⟨B2, s2, f2, r2, a2⟩ := g2 x H2 hy
      have h2 := Po.up s2 f2 h'
      rw [hdr] at h2
      obtain ⟨es3, e3, h3⟩ := Po.unit h2 (hb _ _)
      refine hg _ F B2 H2 es' σ' x _ es3 _ r2 a2 e3 fun σ3 r3 _ _ => ?_
      refine ht _ F B2 H2 es3 σ3 _ r3 (Po.imp (Po.bnd h3) fun o es4 B4 H4 e4 f4 h4 => ?_)
      have sB : Same B1 B4 := (s'.trans s2).trans e4
      have fB : Frs B1 F B4 := (f'.trans f2).trans f4
      cases o with
      | nx => exact fun σ4 r4 => ⟨es4, B4, r4, sB, fB, h4⟩
      | ct => exact fun σ4 r4 => ⟨es4, B4, r4, sB, fB, h4⟩
      | bk => exact Po.ret0 (show Po K cl E F B4 (Mi.ret Out.nx es4) (EndP K cl zA F Dn) from h4) H4
      | rt x => exact Po.ret0 (show Po K cl E F B4 (Mi.ret (Out.rt x) es4) (EndP K cl zA F Dn) from h4) H4
  · have hdr : ds.drop i = [] := List.drop_eq_nil_of_le (by omega)
    rw [hdr] at h'
    exact .inl ⟨st i (by omega), Po.ret0 (show Po K cl E F B' (Mi.ret Out.nx es') (EndP K cl zA F Dn) from h') H' σ' r'⟩
def lstOf : D → Option (List D)
  | .lst l => some l
  | _ => none
def tupOf : D → Option (List D)
  | .tup l => some l
  | _ => none
def strOf : D → Option (List D)
  | .str s => some (s.cps.toList.map fun c => .str ⟨#[c]⟩)
  | _ => none
def mIL (m : M D) : M (List D) := Mi.bnd m fun d => Mi.opt (lstOf d)
def mIT (m : M D) : M (List D) := Mi.bnd m fun d => Mi.opt (tupOf d)
def mIS (m : M D) : M (List D) := Mi.bnd m fun d => Mi.opt (strOf d)
theorem sim_iL {tl : TE} {m : M D} (ha : SimE K cl E tl m) : SimI K cl E (iList K tl) (mIL m) := by
  intro zA F B H es σ R r h
  refine ha _ F B H es σ _ r (Po.imp (Po.bnd h) fun d es1 B1 H1 e1 f1 h1 v r1 a => ?_)
  obtain ⟨ds, hd, hk⟩ := Po.opt h1
  cases a with
  | @lst p vs ds' g1 g2 =>
    cases hd
    refine ⟨p, rfl, ⟨vs, .inl (.inl (r1.bh _ _ g1))⟩, hk B1 H1 (Same.rfl' _) (Frs.refl _ _) _ r1 fun zA F2 B2 H2 es2 σ2 r2 s2 => ?_⟩
    have hq : SqL K H2 p vs := .inl (.inl (r2.bh _ _ (s2 _ _ g1)))
    refine ⟨fun i d hi => ?_, fun i hi => ⟨vs, hq, by rw [g2.len]; exact hi⟩⟩
    obtain ⟨x, hx, ax⟩ := g2.get hi
    refine ⟨⟨vs, x, hq, hx⟩, fun y H' hy => ?_⟩
    obtain ⟨rfl, hy⟩ := hy
    have := hy vs hq
    rw [hx] at this
    cases this
    exact ⟨B2, Same.rfl' _, Frs.refl _ _, r2, ax.up s2⟩
  | _ => cases hd
theorem sim_iT {tl : TE} {m : M D} (ha : SimE K cl E tl m) : SimI K cl E (iTup K tl) (mIT m) := by
  intro zA F B H es σ R r h
  refine ha _ F B H es σ _ r (Po.imp (Po.bnd h) fun d es1 B1 H1 e1 f1 h1 v r1 a => ?_)
  obtain ⟨ds, hd, hk⟩ := Po.opt h1
  cases a with
  | @tup p vs ds' g1 g2 =>
    cases hd
    refine ⟨p, rfl, ⟨vs, sqT_mono r1.bh g1⟩, hk B1 H1 (Same.rfl' _) (Frs.refl _ _) _ r1 fun zA F2 B2 H2 es2 σ2 r2 s2 => ?_⟩
    have hq : SqT K H2 p vs := sqT_mono r2.bh (sqT_mono s2 g1)
    refine ⟨fun i d hi => ?_, fun i hi => ⟨vs, hq, by rw [g2.len]; exact hi⟩⟩
    obtain ⟨x, hx, ax⟩ := g2.get hi
    refine ⟨⟨vs, x, hq, hx⟩, fun y H' hy => ?_⟩
    obtain ⟨rfl, hy⟩ := hy
    have := hy vs hq
    rw [hx] at this
    cases this
    exact ⟨B2, Same.rfl' _, Frs.refl _ _, r2, ax.up s2⟩
  | _ => cases hd
theorem sim_iS {tl : TE} {m : M D} (ha : SimE K cl E tl m) : SimI K cl E (iStr tl) (mIS m) := by
  intro zA F B H es σ R r h
  refine ha _ F B H es σ _ r (Po.imp (Po.bnd h) fun d es1 B1 H1 e1 f1 h1 v r1 a => ?_)
  obtain ⟨ds, hd, hk⟩ := Po.opt h1
  cases a with
  | str s =>
    cases hd
    refine ⟨s, rfl, hk B1 H1 (Same.rfl' _) (Frs.refl _ _) _ r1 fun zA F2 B2 H2 es2 σ2 r2 s2 => ?_⟩
    have hz : (s.cps.toList.map fun c => D.str ⟨#[c]⟩).length = s.cps.size := by rw [List.length_map, Array.length_toList]
    refine ⟨fun i d hi => ?_, fun i hi => show s.cps.size ≤ i by rw [← hz]; exact hi⟩
    have hlt : i < s.cps.size := by
      rw [← hz]
      exact (List.getElem?_eq_some_iff.mp hi).1
    refine ⟨hlt, fun y H' hy => ?_⟩
    obtain ⟨rfl, c, hc, rfl⟩ := hy
    rw [List.getElem?_map, Array.getElem?_toList, hc] at hi
    cases hi
    exact ⟨B2, Same.rfl' _, Frs.refl _ _, r2, .str _⟩
  | _ => cases hd
def mRg1 (m : M (List D)) : M (List D) := Mi.bnd m fun l => Mi.opt (match l with
  | [.int j] => if -(2 ^ 62) ≤ j ∧ j < 2 ^ 62 then some ((List.range j.toNat).map fun (k : Nat) => D.int (k : Int)) else none
  | _ => none)
def mRg2 (m : M (List D)) : M (List D) := Mi.bnd m fun l => Mi.opt (match l with
  | [.int i, .int j] => if -(2 ^ 62) ≤ i ∧ i < 2 ^ 62 ∧ -(2 ^ 62) ≤ j ∧ j < 2 ^ 62 then some ((List.range (j - i).toNat).map fun (k : Nat) => D.int (i + (k : Int))) else none
  | _ => none)
theorem itd_range {B0 : Hp} (lo : Int) (n : Nat) : ItD K cl (Itr lo n) B0 ((List.range n).map fun (k : Nat) => D.int (lo + (k : Int))) := by
  intro zA F2 B2 H2 es2 σ2 r2 s2
  refine ⟨fun i d hi => ?_, fun i hi => ?_⟩
  · have hlt : i < n := by
      have := (List.getElem?_eq_some_iff.mp hi).1
      rwa [List.length_map, List.length_range] at this
    refine ⟨hlt, fun y H' hy => ?_⟩
    obtain ⟨rfl, rfl⟩ := hy
    rw [List.getElem?_map, List.getElem?_range hlt] at hi
    cases hi
    exact ⟨B2, Same.rfl' _, Frs.refl _ _, r2, .int _⟩
  · rw [List.length_map, List.length_range] at hi
    exact hi
theorem sim_rg1 {ta : TA} {m : M (List D)} (ha : SimA K cl E ta m) : SimI K cl E (iRng1 ta) (mRg1 m) := by
  intro zA F B H es σ R r h
  refine ha _ F B H es σ _ r (Po.imp (Po.bnd h) fun l es1 B1 H1 e1 f1 h1 vs r1 a => ?_)
  obtain ⟨ds, hd, hk⟩ := Po.opt h1
  split at hd
  · rename_i j
    split at hd
    · rename_i hj
      cases hd
      cases a with
      | cons a1 a2 =>
        cases a1
        cases a2
        have e : ((List.range j.toNat).map fun (k : Nat) => D.int (k : Int)) = ((List.range j.toNat).map fun (k : Nat) => D.int (0 + (k : Int))) := by
          congr 1
          funext k
          rw [Int.zero_add]
        refine ⟨j, rfl, hj.1, hj.2, hk B1 H1 (Same.rfl' _) (Frs.refl _ _) _ r1 ?_⟩
        rw [e]
        exact itd_range 0 j.toNat
    · cases hd
  · cases hd
theorem sim_rg2 {ta : TA} {m : M (List D)} (ha : SimA K cl E ta m) : SimI K cl E (iRng2 ta) (mRg2 m) := by
  intro zA F B H es σ R r h
  refine ha _ F B H es σ _ r (Po.imp (Po.bnd h) fun l es1 B1 H1 e1 f1 h1 vs r1 a => ?_)
  obtain ⟨ds, hd, hk⟩ := Po.opt h1
  split at hd
  · rename_i i j
    split at hd
    · rename_i hj
      cases hd
      cases a with
      | cons a1 a2 =>
        cases a1
        cases a2 with
        | cons a2 a3 =>
          cases a2
          cases a3
          exact ⟨i, j, rfl, hj, hk B1 H1 (Same.rfl' _) (Frs.refl _ _) _ r1 (itd_range i (j - i).toNat)⟩
    · cases hd
  · cases hd
def mEn (m : M (List D)) : M (List D) := Mi.bnd m fun l => Mi.opt (match l with
  | [.lst l] => some ((List.range l.length).zipWith (fun (k : Nat) d => D.tup [.int (k : Int), d]) l)
  | _ => none)
theorem sim_en {ta : TA} {m : M (List D)} (ha : SimA K cl E ta m) : SimI K cl E (iEnum K ta) (mEn m) := by
  intro zA F B H es σ R r h
  refine ha _ F B H es σ _ r (Po.imp (Po.bnd h) fun l es1 B1 H1 e1 f1 h1 vs r1 a => ?_)
  obtain ⟨ds, hd, hk⟩ := Po.opt h1
  split at hd
  · rename_i l
    cases hd
    cases a with
    | cons a1 a2 =>
      cases a2
      cases a1 with
      | @lst p ws _ g1 g2 =>
        refine ⟨p, ws, rfl, .inl (.inl (r1.bh _ _ g1)), hk B1 H1 (Same.rfl' _) (Frs.refl _ _) _ r1 fun zA F2 B2 H2 es2 σ2 r2 s2 => ?_⟩
        have hq : SqL K H2 p ws := .inl (.inl (r2.bh _ _ (s2 _ _ g1)))
        have hz : (List.zipWith (fun (k : Nat) d => D.tup [.int (k : Int), d]) (List.range l.length) l).length = l.length := by
          rw [List.length_zipWith, List.length_range, Nat.min_self]
        refine ⟨fun i d hi => ?_, fun i hi => ⟨ws, hq, by rw [g2.len, ← hz]; exact hi⟩⟩
        have hlt : i < l.length := by
          rw [← hz]
          exact (List.getElem?_eq_some_iff.mp hi).1
        have hx0 : l[i]? = some l[i] := List.getElem?_eq_getElem hlt
        obtain ⟨x, hx, ax⟩ := g2.get hx0
        rw [List.getElem?_zipWith, List.getElem?_range hlt, hx0] at hi
        cases hi
        refine ⟨⟨ws, x, hq, hx⟩, fun y H' hy => ?_⟩
        obtain ⟨T, x', rfl, nT, rfl, hy⟩ := hy
        have := hy ws hq
        rw [hx] at this
        cases this
        obtain ⟨r3, s3, f3⟩ := r2.news (o := .tup [.int (i : Nat), x]) nT
        refine ⟨_, s3, f3, r3, .tup (.inl (.inl upd_same)) (.cons (.int _) (.cons ((ax.up s2).up s3) .nil))⟩
  · cases hd
end
end Mi
namespace Mi
open PySem PySem.Spec PyProof.Rows L2
def wipeE (es : En) : List Nat → En
  | [] => es
  | v :: vs => (wipeE es vs).set v .un
def rstE (es0 es : En) : List Nat → En
  | [] => es
  | v :: vs => (rstE es0 es vs).set v (es0.getD v .un)
def notOwn (es : En) (vs : List Nat) : Bool := vs.all fun v => (ownAt v es).isNone
def compL (b : D → M Unit) (mt : M Bool) (me : M D) (vs : List Nat) : List D → List D → M (List D)
  | [], acc => Mi.ret acc
  | d :: ds, acc => Mi.bnd (b d) fun _ => Mi.bnd mt fun k => if k = true then Mi.bnd me fun y => fun es => if acc.length < sizeLine then compL b mt me vs ds (acc ++ [y]) (wipeE es vs) else .bad
      else fun es => compL b mt me vs ds acc (wipeE es vs)
def mComp (vs : List Nat) (ms : M (List D)) (b : D → M Unit) (mt : M Bool) (me : M D) : M D := Mi.bnd ms fun ds es => if notOwn es vs = true then (match compL b mt me vs ds [] (wipeE es vs) with
    | .ok (l, es') => .ok (.lst l, rstE es es' vs)
    | _ => .bad) else .bad
def mYes : M Bool := Mi.ret true
section
variable {K : PySem.W.Frag} {cl : CL} {zA : Zp} {E : XK} {F B H B1 H1 : Hp} {es es' es1 : En} {σ σ' : L2.St}
theorem wipe_not : ∀ {vs : List Nat} {i : Nat}, i ∉ vs → (wipe σ vs)[i]? = σ[i]?
  | [], _, _ => rfl
  | v :: vs, i, h => by
    have hv : v ≠ i := fun e => h (by rw [e]; exact List.mem_cons_self)
    show ((wipe σ vs).set v none)[i]? = _
    rw [List.getElem?_set_ne hv]
    exact wipe_not fun z => h (List.mem_cons_of_mem _ z)
theorem wipe_in : ∀ {vs : List Nat} {i : Nat}, i ∈ vs → i < σ.length → (wipe σ vs)[i]? = some none
  | v :: vs, i, h, hl => by
    show ((wipe σ vs).set v none)[i]? = _
    by_cases hv : v = i
    · subst hv
      exact List.getElem?_set_self (by rw [wipe_length]; exact hl)
    · rw [List.getElem?_set_ne hv]
      rcases List.mem_cons.mp h with e | h
      · exact absurd e.symm hv
      · exact wipe_in h hl
theorem wipe_eq {vs : List Nat} (hl : σ'.length = σ.length) (h : ∀ j, j ∉ vs → σ'[j]? = (wipe σ vs)[j]?) : wipe σ' vs = wipe σ vs := by
  refine List.ext_getElem? fun j => ?_
  by_cases hj : j ∈ vs
  · by_cases hlt : j < σ.length
    · rw [wipe_in hj hlt, wipe_in hj (by rw [hl]; exact hlt)]
    · rw [List.getElem?_eq_none (by rw [wipe_length, hl]; omega), List.getElem?_eq_none (by rw [wipe_length]; omega)]
  · rw [wipe_not hj, h j hj]
theorem Rel.wipes (r : Rel K cl zA F B H es σ) : ∀ vs : List Nat, Rel K cl zA F B H (wipeE es vs) (wipe σ vs)
  | [] => r
  | _ :: vs => (Rel.wipes r vs).drop
theorem rstE_len (es0 es : En) : ∀ vs : List Nat, (rstE es0 es vs).length = es.length
  | [] => rfl
  | v :: vs => by show ((rstE es0 es vs).set v _).length = _; rw [List.length_set, rstE_len es0 es vs]
theorem rstE_not : ∀ {vs : List Nat} {i : Nat}, i ∉ vs → (rstE es1 es vs)[i]? = es[i]?
  | [], _, _ => rfl
  | v :: vs, i, h => by
    have hv : v ≠ i := fun e => h (by rw [e]; exact List.mem_cons_self)
    show ((rstE es1 es vs).set v _)[i]? = _
    rw [List.getElem?_set_ne hv]
    exact rstE_not fun z => h (List.mem_cons_of_mem _ z)
theorem rstE_in : ∀ {vs : List Nat} {i : Nat} {x : Sl}, i ∈ vs → (rstE es1 es vs)[i]? = some x → es1.getD i .un = x
  | v :: vs, i, x, h, e => by
    have e : ((rstE es1 es vs).set v (es1.getD v .un))[i]? = some x := e
    by_cases hv : v = i
    · subst hv
      have hi : v < (rstE es1 es vs).length := by
        have := (List.getElem?_eq_some_iff.mp e).1
        rwa [List.length_set] at this
      rw [List.getElem?_set_self hi] at e
      exact Option.some.inj e
    · rw [List.getElem?_set_ne hv] at e
      rcases List.mem_cons.mp h with z | h
      · exact absurd z.symm hv
      · exact rstE_in h e
theorem getD_some {i : Nat} {x : Sl} (h : es1.getD i .un = x) (hx : x ≠ .un) : es1[i]? = some x := by
  rw [List.getD_eq_getElem?_getD] at h
  cases e : es1[i]? with
  | none => rw [e] at h; exact absurd h.symm hx
  | some y => rw [e] at h; rw [← h]; rfl
theorem notOwn_at {vs : List Nat} {i : Nat} {l : List D} (h : notOwn es1 vs = true) (hi : i ∈ vs) (e : es1[i]? = some (.own l)) : False := by
  have := List.all_eq_true.mp h i hi
  unfold ownAt at this
  rw [e] at this
  cases this
theorem Rel.restore {vs : List Nat} (r : Rel K cl zA F B H es (wipe σ vs)) (r1 : Rel K cl zA F B1 H1 es1 σ) (s : Same B1 B) (no : notOwn es1 vs = true) : Rel K cl zA F B H (rstE es1 es vs) σ where
  tab := r.tab
  nb := r.nb
  nf := r.nf
  fl := r.fl
  bh := r.bh
  fh := r.fh
  len := by rw [rstE_len, r.len, wipe_length]
  dat := fun i d e => by
    by_cases hi : i ∈ vs
    · obtain ⟨v, h1, h2⟩ := r1.dat i d (getD_some (rstE_in hi e) (fun z => by cases z))
      exact ⟨v, h1, h2.up s⟩
    · rw [rstE_not hi] at e
      obtain ⟨v, h1, h2⟩ := r.dat i d e
      rw [wipe_not hi] at h1
      exact ⟨v, h1, h2⟩
  own := fun i l e => by
    by_cases hi : i ∈ vs
    · exact (notOwn_at no hi (getD_some (rstE_in hi e) (fun z => by cases z))).elim
    · rw [rstE_not hi] at e
      obtain ⟨p, ws, h1, h2⟩ := r.own i l e
      rw [wipe_not hi] at h1
      exact ⟨p, ws, h1, h2⟩
  apart := fun i j l m p ne ei ej si sj => by
    by_cases hi : i ∈ vs
    · exact notOwn_at no hi (getD_some (rstE_in hi ei) (fun z => by cases z))
    · by_cases hj : j ∈ vs
      · exact notOwn_at no hj (getD_some (rstE_in hj ej) (fun z => by cases z))
      · rw [rstE_not hi] at ei
        rw [rstE_not hj] at ej
        exact r.apart i j l m p ne ei ej (by rw [wipe_not hi]; exact si) (by rw [wipe_not hj]; exact sj)
  zero := fun p l e z => by
    by_cases hi : 0 ∈ vs
    · exact (notOwn_at no hi (getD_some (rstE_in hi z) (fun y => by cases y))).elim
    · rw [rstE_not hi] at z
      have y := r.zero p l e z
      rw [wipe_not hi] at y
      exact y
theorem Rel.refloor {p : Addr} {ws vs : List V} (r : Rel K cl zA (upd F p (.lst ws)) B H es σ) (nf : F p = none) (nb : B p = none) (nl : cl.fl p = none) : Rel K cl zA (upd F p (.lst vs)) B (upd H p (.lst vs)) es σ where
  tab := tabs_lst r.tab (r.fh _ _ upd_same)
  nb := r.nb
  nf := (r.nf.low nf).upd fun _ z => by cases z
  fl := (same_low r.fl nl).trans (same_new nf)
  bh := fun b u e => by rw [upd_ne (ne_of_none e nb)]; exact r.bh _ _ e
  fh := fun b u e => by
    by_cases hb : b = p
    · subst hb
      rw [upd_same] at e ⊢
      exact e
    · rw [upd_ne hb] at e ⊢
      exact r.fh _ _ (by rw [upd_ne hb]; exact e)
  len := r.len
  dat := r.dat
  own := fun i l e => by
    obtain ⟨q, ws, h1, h2, h3, h4, h5⟩ := r.own i l e
    have ne : q ≠ p := fun z => by
      rw [z, upd_same] at h3
      cases h3
    rw [upd_ne ne] at h3
    exact ⟨q, ws, h1, h2, by rw [upd_ne ne]; exact h3, by rw [upd_ne ne]; exact h4, h5⟩
  apart := r.apart
  zero := r.zero
theorem Rel.refloorG {p : Addr} {o o' : HO} (r : Rel K cl zA (upd F p o) B H es σ) (nf : F p = none) (nb : B p = none) (nl : cl.fl p = none) (ht : ∀ ps, o ≠ .tbl ps) (he : ∀ f, o ≠ .ext f) (no : ∀ ps, o' ≠ .tbl ps := by intro _ z; cases z) : Rel K cl zA (upd F p o') B (upd H p o') es σ where
  tab := tabs_upd r.tab (r.fh _ _ upd_same) ht he
  nb := r.nb
  nf := (r.nf.low nf).upd no
  fl := (same_low r.fl nl).trans (same_new nf)
  bh := fun b u e => by rw [upd_ne (ne_of_none e nb)]; exact r.bh _ _ e
  fh := fun b u e => by
    by_cases hb : b = p
    · subst hb
      rw [upd_same] at e ⊢
      exact e
    · rw [upd_ne hb] at e ⊢
      exact r.fh _ _ (by rw [upd_ne hb]; exact e)
  len := r.len
  dat := r.dat
  own := fun i l e => by
    obtain ⟨q, ws, h1, h2, h3, h4, h5⟩ := r.own i l e
    have ne : q ≠ p := fun z => by
      rw [z, upd_same] at h3
      cases h3
    rw [upd_ne ne] at h3
    exact ⟨q, ws, h1, h2, by rw [upd_ne ne]; exact h3, by rw [upd_ne ne]; exact h4, h5⟩
  apart := r.apart
  zero := r.zero
theorem Rel.show_ {p : Addr} {o : HO} (r : Rel K cl zA (upd F p o) B H es σ) (nf : F p = none) (nb : B p = none) (nl : cl.fl p = none) : Rel K cl zA F (upd B p o) H es σ where
  tab := r.tab
  nb := r.nb.upd fun ps z => r.nf p ps (by rw [upd_same, z])
  nf := r.nf.low nf
  fl := same_low r.fl nl
  bh := fun b u e => by
    by_cases hb : b = p
    · subst hb
      exact r.fh _ _ (by rw [upd_same] at e ⊢; exact e)
    · rw [upd_ne hb] at e
      exact r.bh _ _ e
  fh := fun b u e => r.fh _ _ (by rw [upd_ne (ne_of_none e nf)]; exact e)
  len := r.len
  dat := fun i d e => by
    obtain ⟨v, h1, h2⟩ := r.dat i d e
    exact ⟨v, h1, h2.up (same_new nb)⟩
  own := fun i l e => by
    obtain ⟨q, ws, h1, h2, h3, h4, h5⟩ := r.own i l e
    have ne : q ≠ p := fun z => by
      rw [z, upd_same] at h3
      cases h3
    rw [upd_ne ne] at h3
    exact ⟨q, ws, h1, by rw [upd_ne ne]; exact h2, h3, h4, h5.up (same_new nb)⟩
  apart := r.apart
  zero := r.zero
theorem bnd_ok {α β : Type} {m : M α} {f : α → M β} {x : β × En} (h : Mi.bnd m f es = .ok x) : ∃ a es1, m es = .ok (a, es1) ∧ f a es1 = .ok x := by
  unfold Mi.bnd at h
  cases e : m es with
  | ok p => rw [e] at h; exact ⟨p.1, p.2, rfl, h⟩
  | exc c d => rw [e] at h; cases h
  | bad => rw [e] at h; cases h
theorem Po.of {α : Type} {r : R (α × En)} {a : α} {k : α → En → Hp → Hp → Prop} (e : r = .ok (a, es)) (h : ∀ B' H', Same B B' → Frs B F B' → k a es B' H') : Po K cl E F B r k := by
  rw [e]
  exact h
theorem sim_lc {wi : TI} {g : TG} {tt : TT} {te : TE} {vs is : List Nat} {ms : M (List D)} {b : D → M Unit} {mt : M Bool} {me : M D} (hi : SimI K cl E wi ms) (hg : SimG K cl is g b) (hv : ∀ i ∈ is, i ∈ vs) (ht : SimT K cl E0 tt mt) (he : SimE K cl E0 te me) :
    SimE K cl E (tLc wi g tt te vs) (mComp vs ms b mt me) := by
  intro zA F B H es σ Q r h
  refine hi _ F B H es σ _ r (Po.imp (Po.bnd h) fun ds es1 B1 H1 e1 f1 h1 J r1 hJ => ?_)
  by_cases no : notOwn es1 vs = true
  · rw [if_pos no] at h1
    cases q : compL b mt me vs ds [] (wipeE es1 vs) with
    | exc c d => rw [q] at h1; exact h1.elim
    | bad => rw [q] at h1; exact h1.elim
    | ok pr =>
      obtain ⟨l, esF⟩ := pr
      rw [q] at h1
      intro Dl nD
      have nF : F Dl = none := r1.fh.free nD
      have nB1 : B1 Dl = none := r1.bh.free nD
      refine ⟨fun i m H' => ∃ (acc : List D) (vacc : List V) (es' : En) (B' : Hp), i + m = ds.length ∧ Rel K cl zA (upd F Dl (.lst vacc)) B' H' es' (wipe σ vs) ∧ Same B1 B' ∧ Frs B1 F B' ∧ B' Dl = none ∧ AtL K cl B' vacc acc ∧
          compL b mt me vs (ds.drop i) acc es' = .ok (l, esF),
        ⟨ds.length, [], [], wipeE es1 vs, B1, Nat.zero_add _, (r1.wipes vs).floor nD, Same.rfl' _, Frs.refl _ _, nB1, .nil, q⟩, ?_⟩
      rintro i m H' ⟨acc, vacc, es', B', hm, r', s', f', nB', al, hc⟩
      obtain ⟨go, st⟩ := hJ _ _ B' H' es' _ r' s'
      by_cases hlt : i < ds.length
      · have hd : ds[i]? = some ds[i] := List.getElem?_eq_getElem hlt
        have hdr : ds.drop i = ds[i] :: ds.drop (i + 1) := List.drop_eq_getElem_cons hlt
        rw [hdr] at hc
        obtain ⟨g1, g2⟩ := go i _ hd
        refine .inr ⟨g1, fun H2 => ∃ (acc : List D) (vacc : List V) (es' : En) (B' : Hp), Rel K cl zA (upd F Dl (.lst vacc)) B' H2 es' (wipe σ vs) ∧ Same B1 B' ∧ Frs B1 F B' ∧ B' Dl = none ∧ AtL K cl B' vacc acc ∧
          compL b mt me vs (ds.drop (i + 1)) acc es' = .ok (l, esF), fun H2 hN => ?_, fun x H2 hy => ?_⟩
        · obtain ⟨acc, vacc, es2, B2, z⟩ := hN
          exact ⟨m - 1, by omega, acc, vacc, es2, B2, by omega, z⟩
        · obtain ⟨B2, s2, f2, r2, a2⟩ := g2 x H2 hy
          obtain ⟨u, es3, c1, hc⟩ := bnd_ok hc
          refine hg _ _ B2 H2 es' _ x _ es3 _ r2 a2 c1 fun σ3 r3 hl3 hj3 => ?_
          have hw : wipe σ3 vs = wipe σ vs := wipe_eq (by rw [hl3, wipe_length]) fun j hj => hj3 j fun z => hj (hv j z)
          refine ⟨hw, ?_⟩
          obtain ⟨k, es4, c2, hc⟩ := bnd_ok hc
          refine ht _ _ B2 H2 es3 σ3 _ r3 (Po.of c2 fun B3 H3 s3 f3 r4 => ?_)
          have nB2 : B2 Dl = none := f2.notp nB'
          have nB3 : B3 Dl = none := f3.notp nB2
          cases k with
          | true =>
            simp only [if_true] at hc ⊢
            obtain ⟨y, es5, c3, hc⟩ := bnd_ok hc
            refine he _ _ B3 H3 es4 σ3 _ r4 (Po.of c3 fun B4 H4 s4 f4 v r5 a5 => ?_)
            by_cases hz : acc.length < sizeLine
            · simp only [if_pos hz] at hc
              have nB4 : B4 Dl = none := f4.notp nB3
              refine ⟨vacc, r5.fh _ _ upd_same, by rw [al.len]; exact hz, acc ++ [y], vacc ++ [v], wipeE es5 vs, B4, ?_, ((s'.trans s2).trans s3).trans s4, ((f'.trans (f2.floor nF)).trans (f3.floor nF)).trans (f4.floor nF), nB4, ((((al.up s2).up s3).up s4)).app (.one a5), hc⟩
              have := (r5.wipes vs).refloor (vs := vacc ++ [v]) nF nB4 (r1.fl.free nF)
              rw [hw] at this
              exact this
            · simp only [if_neg hz] at hc
              cases hc
          | false =>
            simp only [Bool.false_eq_true, if_false] at hc ⊢
            refine ⟨acc, vacc, wipeE es4 vs, B3, ?_, (s'.trans s2).trans s3, (f'.trans (f2.floor nF)).trans (f3.floor nF), nB3, (al.up s2).up s3, hc⟩
            have := r4.wipes vs
            rw [hw] at this
            exact this
      · have hdr : ds.drop i = [] := List.drop_eq_nil_of_le (by omega)
        rw [hdr] at hc
        cases hc
        refine .inl ⟨st i (by omega), ?_⟩
        have sB : Same B' (upd B' Dl (.lst vacc)) := same_new nB'
        have fB : Frs B' F (upd B' Dl (.lst vacc)) := fun x o e n => by
          by_cases hx : x = Dl
          · rw [hx]; exact nF
          · rw [upd_ne hx, n] at e; cases e
        exact h1 _ H' (s'.trans sB) (f'.trans fB) _ ((r'.show_ nF nB' (r1.fl.free nF)).restore r1 (s'.trans sB) no) (.lst upd_same (al.up sB))
  · rw [if_neg no] at h1
    exact h1.elim
theorem sim_yes : SimT K cl E tYes mYes := fun zA F B H es σ Q r h => Po.ret0 h H r
end
end Mi
namespace RoomX
open PySem PySem.W PySem.Calls PyProof.Rows PySem.HandSPX
abbrev LN : Nat := 5
def iA : Arguments := { posonlyargs := [], args := [{ arg := "self", annotation := none, pos := ⟨LN - 1, 17, LN - 1, 21⟩ }, { arg := "value", annotation := none, pos := ⟨LN - 1, 23, LN - 1, 28⟩ }], vararg := none, kwonlyargs := [], kw_defaults := [], kwarg := none, defaults := [] }
def iB : List Stmt := [.Expr (.Call (.Attribute (.Call (.Name "super" ⟨LN, 8, LN, 13⟩) [] [] ⟨LN, 8, LN, 15⟩) "__init__" ⟨LN, 8, LN, 24⟩) [.Name "value" ⟨LN, 25, LN, 30⟩] [] ⟨LN, 8, LN, 31⟩) ⟨LN, 8, LN, 31⟩,
  .Assign [.Attribute (.Name "self" ⟨LN + 1, 8, LN + 1, 12⟩) "value" ⟨LN + 1, 8, LN + 1, 18⟩] (.Name "value" ⟨LN + 1, 21, LN + 1, 26⟩) ⟨LN + 1, 8, LN + 1, 26⟩]
def iS : Scope := { kind := .function, names := [(PySem.Str.ofString "self", .local), (PySem.Str.ofString "value", .local), (PySem.Str.ofString "__class__", .free), (PySem.Str.ofString "super", .globalImplicit)], isGenerator := false, isCoroutine := false, more := [] }
abbrev mw (x : Addr) : Obj := kxs_mw "ValueError.__init__" x
structure BaseTxt (prog : Program) (K : Frag) (mg : Str → Option Value) (D fI cc cda : Addr) : Prop where
  tI : typeIn K (.ref fI) = some (.type "function")
  clD : ∃ cdD, clsIn K D = some cdD
  opq : nsIn K cStatics "thirdparty.any" = some none
  cell : ∃ (c : Value) (d : Option Addr) (sl : Array (Option Value)), K.lookup cc = some ⟨c, d, .cell (some (.ref D)), sl⟩
  code : ∃ (c : Value) (d : Option Addr) (vs : Array Value) (sl : Array (Option Value)) (file : Str) (tf : Tok), K.lookup cda = some ⟨c, d, .fields vs, sl⟩ ∧ vs[2]? = some (.str file tf) ∧ ((prog.main.file : Str) == file) = true
  top : (prog.main.scope.names.lookup ("super" : Str)).isSome = false
  sup : mg "super" = none
  fn : ∃ (oc : Value) (od : Option Addr) (doc pm : Value) (an : Option Addr) (ct : Value) (osl : Array (Option Value)),
    K.lookup fI = some ⟨oc, od, .func (ksFn "__init__" "RoomError.__init__" iA iB iS .none .none doc pm an (.ref cda) ct cc), osl⟩ ∧ codeIn K (.ref cda) "RoomError.__init__" = true
structure ClsTxt (K : Frag) (C D fI : Addr) : Prop where
  cls : ∃ nm q N bs bm sn sub ab col dd k0 k1 k2 k3 k5, K.lookup C = some (excClassObj nm q C N bs bm true sn sub ab col dd k0 k1 k2 k3 k5 "ValueError.__new__") ∧ refsVE bm = true
  sa : findIn K (.ref C) "__setattr__" = some (some (.builtin "object.__setattr__"))
  ga : findIn K (.ref C) "__getattribute__" = some (some (.builtin "BaseException.__getattribute__"))
  gg : findIn K (.ref C) "__getattr__" = some none
  noN : findIn K (.ref C) "value" = some none
  iC : findIn K (.ref C) "__init__" = some (some (.ref fI))
  kC : keepIn K (.ref C) = true
  exC : subIn K (.ref C) (.type "BaseException") = some true
  tyC : typeIn K (.ref C) = some (.type "type")
  hdC : hasDictIn K C = true
  supC : ks_superIn K C D "__init__" = some (some (.builtin "ValueError.__init__"))
  subV : subIn K (.ref C) (.type "ValueError") = some true
  mroD : mroIn K C (.ref D) = some true
theorem one_size (v : Value) : [v].length ≤ sizeLine := by
  rw [sizeLine_eq]
  exact (by decide : 1 ≤ 16777216)
structure InitEnd (h h' : Heap) (x C dx : Addr) (v : Value) : Prop where
  keep : ∀ b o, b ≠ x → h.get? b = some o → h'.get? b = some o
  obj : ∃ t1, h'.get? x = some { cls := .ref C, dict := some dx, data := .fields #[.ref t1, .none, .none, .none, .bool false, .none] }
  dbig : h.objs.size ≤ dx
  dne : dx ≠ x
  ns : h'.Ns1 dx (fun y => if y = "value" then some v else none)
structure OwnMade (h h' : Heap) (e C d : Addr) (v : Value) : Prop where
  keep : ∀ b o, h.get? b = some o → h'.get? b = some o
  new : h.objs.size ≤ e
  obj : ∃ oe vs, h'.get? e = some oe ∧ oe.cls = .ref C ∧ oe.dict = some d ∧ oe.data = .fields vs ∧ vs[1]? = some .none
  dbig : h.objs.size ≤ d
  dne : d ≠ e
  ns : h'.Ns1 d (fun y => if y = "value" then some v else none)
section
variable {prog : Program} {w : World} {A : Around} {E : Value → Shared → Prop} {R : Result → Shared → Prop} {K : Frag} {mg mb : Str → Option Value} {C D fI cc cda : Addr}
theorem bw_call {h : Heap} {g : Array GenState} {d : Drawn} {t : Nat} {os : OsState} {nm q : Str} {N : Addr} {bs bm : List Value} {hdct : Bool} {sn : List Str} {sub : List Value} {ab : Bool} {col : Option Bool} {dd : Option Addr} {k0 k1 k2 k3 k5 : Option Value} {u e t0 : Addr} {rest : List Value} {Q : Value → Shared → Prop}
    (hC : h.get? C = some (excClassObj nm q C N bs bm hdct sn sub ab col dd k0 k1 k2 k3 k5 "ValueError.__new__")) (he : h.get? e = some (excO C t0)) (hu : h.get? u = some (mw e)) (hrest : rest.length ≤ sizeLine)
    (hq : ∀ h', (∀ b o, b ≠ e → h.get? b = some o → h'.get? b = some o) → h'.get? e = some (excO C h.objs.size) → Q .none ⟨h', g, d, t, os⟩) :
    wpAny (model prog w) A (call (.ref u) rest) Q E ⟨h, g, d, t, os⟩ := by
  refine wpAny_call (codeAny_of_tree ?_)
  show wpAny _ A.in1 (callAny (.ref u) ⟨rest, []⟩) _ _ _
  simp only [callAny]
  refine wpAny_bind (wpAny_load hu ?_)
  simp only [kxs_mw, show (Value.type "method-wrapper" == Value.type "method" || Value.type "method-wrapper" == Value.type "builtin_function_or_method" || Value.type "method-wrapper" == Value.type "method-wrapper") = true by decide, if_true]
  refine KFB.if_so (by decide) ?_
  refine wpAny_bind (check_bound_init F.excBase_ValueError.toExcCallFacts hC he rfl ?_)
  refine wpAny_bind (wpAny_pure (wpAny_pure ?_))
  refine ⟨plainId_quiet F.excBase_ValueError.init.plain _, codeAny_builtin F.excBase_ValueError.initEntry ?_⟩
  exact exc_init_tree (cls := .ref C) (t0 := t0) (dv := none) (c2 := .none) (c3 := .none) (b4 := .bool false) he hrest fun h' k e' _ => hq h' k e'
theorem room_init {s : Shared} (T : BaseTxt prog K mg D fI cc cda) (TC : ClsTxt K C D fI) {x t0 : Addr} {v : Value} (X : K.In s.heap) (hlim : s.heap.NoLimit) (hg : s.heap.Ns mainGlobals mg) (hb : s.heap.Ns builtinsNs mb) (hmb : mb "super" = some (.type "super"))
    (hx : s.heap.get? x = some (excO C t0)) (hnx : K.lookup x = none) (hroom : A.depth < recursionLimit)
    (hq : ∀ h' tk dx, InitEnd s.heap h' x C dx v → R (.ok (.ret .none)) { s with heap := h', toks := tk }) :
    codeAny (model prog w) A (.call (.ref fI) ⟨[.ref x, v], []⟩) R s := by
  obtain ⟨oc, od, doc, pm, an, ct, osl, ho, hcd⟩ := T.fn
  obtain ⟨nm, q, N, bs, bm, sn, sub, ab, col, dd, k0, k1, k2, k3, k5, hC, hbm⟩ := TC.cls
  obtain ⟨cdD, hD⟩ := T.clD
  obtain ⟨c1, c2, c3, hcell⟩ := T.cell
  obtain ⟨g1, g2, vs, g3, file, tf, hcode, hvs, hfile⟩ := T.code
  have hcl : clsIn K C = some { name := nm, bases := bs, mro := .ref C :: bm, ns := N, qualname := q, hasDict := true, slotNames := sn, subclasses := sub, abstract := ab, collection := col, hasDel := false } := by unfold clsIn; rw [hC] <;> rfl
  refine ks_codeAny_call_defAt (binds := [("self", .ref x), ("value", v)]) hroom (X _ _ ho) rfl hlim (codeRec_of X hcd) rfl (BindsTo.of_eq (by first | rfl | with_unfolding_all rfl)) (by first | decide | (intro y hy; simp [ksFn, fnX, iS] at hy; rcases hy with rfl | rfl | rfl | rfl <;> decide)) (by intro y hy; simp at hy; rcases hy with rfl | rfl <;> rfl) (fun h₁ hns hk₁ => ?_)
  have X₁ : K.In h₁ := X.keeps hk₁
  have hx₁ := hk₁ _ _ hx
  have hxL : s.heap.objs.size ≠ x := Nat.ne_of_gt (Heap.lt_size hx)
  obtain ⟨oD, hD1, hD2⟩ : ∃ oD, h₁.get? D = some oD ∧ oD.data = .cls cdD := by
    unfold clsIn at hD
    split at hD
    · rename_i c d cd' sl hoD
      cases hD
      exact ⟨_, X₁ _ _ hoD, rfl⟩
    · cases hD
  obtain ⟨hp, gg, dr, tk, os⟩ := s
  have In : InstAt h₁ x (excO C t0) C none := ⟨hx₁, rfl, rfl, trivial⟩
  have hneC : x ≠ C := fun z => by
    rw [z, hC] at hnx
    cases hnx
  refine ks_wpAt_execs_cons (ks_wpAt_Expr_any (ks_wpAt_MethodCall ?_))
  refine ks_wpAt_super_base (by rfl) (by rfl) (by decide) rfl (X₁ _ _ ho) rfl rfl rfl (X₁ _ _ hcode) rfl hvs hfile T.top ?_
  refine ks_loadName_global (by rfl) (by rfl) (loadGlobal_builtin (hg.keeps hk₁) T.sup (hb.keeps hk₁) hmb ⟨rfl, ?_⟩)
  refine wpAny_loadName_free (by rfl) (by rfl) (by rfl) ⟨_, X₁ _ _ hcell, rfl⟩ ?_
  refine wpAny_loadName_local (v := .ref x) (by rfl) (by rfl) hns (by first | rfl | with_unfolding_all rfl) ?_
  refine ks_wpAny_isType_cls hD1 hD2 ⟨rfl, ?_⟩
  refine ks_wpAny_call_super hD1 hD2 hx₁ rfl (fun c e => by cases e) (looks_mroIn X₁ TC.mroD) (fun h2 e2 k2 => ?_)
  have X₂ : K.In h2 := X₁.keeps k2
  have hx2 := k2 _ _ hx₁
  have In2 : InstAt h2 x (excO C t0) C none := ⟨hx2, rfl, rfl, trivial⟩
  have hm := TC.supC
  unfold ks_superIn at hm
  rw [hcl] at hm
  refine kxs_getMethod kxs_ValueError e2 (looks_opaque X₂ T.opq) (l₀ := .ref C :: bm) ?_ rfl X₂ hm (In2.type.andThen (looks_subIn X₂ TC.subV)) hneC (by decide) ?_
  · exact fun A Q E s k q => wpAny_bind ((looks_clsIn X₂ hcl) A _ E s k (wpAny_pure q))
  have k3 : ∀ b o, h2.get? b = some o → (h2.push (mw x)).get? b = some o := fun b o e => Heap.get?_push_of_some _ e
  have hu : (h2.push (mw x)).get? h2.objs.size = some (mw x) := Heap.get?_push_at rfl rfl
  have k13 : ∀ b o, h₁.get? b = some o → (h2.push (mw x)).get? b = some o := fun b o e => k3 b o (k2 b o e)
  refine kxs_callWith (i := "ValueError.__init__") (x := x) (by rfl) (evalArgs_plain (Calls.spliced_cons ?_))
  refine ESX.ldL (hns.keeps k13) (v := v) (by first | rfl | with_unfolding_all rfl) ?_ (by rfl) (by rfl)
  refine Calls.spliced_nil ⟨hu, ?_⟩
  refine bw_call (X.keeps (fun b o e => k13 b o (hk₁ b o e)) _ _ hC) (k3 _ _ hx2) hu (one_size v) fun h4 k4 e4 => ?_
  have ne4 : ∀ {b : Addr}, b ≠ x → ∀ o, (h2.push (mw x)).get? b = some o → h4.get? b = some o := fun hb o e => k4 _ o hb e
  have keep4 : ∀ b o, b ≠ x → hp.get? b = some o → h4.get? b = some o := fun b o hb e => k4 b o hb (k13 b o (hk₁ b o e))
  have X₄ : K.In h4 := fun a o e => keep4 a o (fun z => by rw [z, hnx] at e; cases e) (X a o e)
  have hn4 := hns.at (h' := h4) fun o e => k4 _ o hxL (k13 _ o e)
  refine ks_wpAt_execs_cons (wpAt_of_wpAny (plainObj_wpAny_Assign_Attribute ?_))
  refine ESX.ldL hn4 (v := v) (by first | rfl | with_unfolding_all rfl) ?_ (by rfl) (by rfl)
  refine ESX.ldL hn4 (v := .ref x) (by first | rfl | with_unfolding_all rfl) ?_ (by rfl) (by rfl)
  refine set_plain X₄ (ox := excO C (h2.push (mw x)).objs.size) (od := none) ⟨e4, rfl, rfl, trivial⟩ TC.sa ?_
  refine exc_osa X₄ e4 hcl (show refsVE (.ref C :: bm) = true from hbm) rfl TC.noN (fun h5 tk5 dx k5 dn dne e5 hn5 => ?_)
  refine wpAt_of_wpAny (wpAny_execs_nil (hq h5 tk5 dx ⟨fun b o hb e => k5 b o hb (keep4 b o hb e), ⟨_, e5⟩, Nat.le_of_lt (Nat.lt_of_lt_of_le hn4.lt dn), dne, hn5⟩))
theorem room_made {s : Shared} (T : BaseTxt prog K mg D fI cc cda) (TC : ClsTxt K C D fI) {v : Value} (X : K.In s.heap) (hlim : s.heap.NoLimit) (hg : s.heap.Ns mainGlobals mg) (hb : s.heap.Ns builtinsNs mb) (hmb : mb "super" = some (.type "super"))
    (hroom : A.depth + 1 < recursionLimit) (hq : ∀ h' tk e d, OwnMade s.heap h' e C d v → R (.ok (.ret (.ref e))) { s with heap := h', toks := tk }) :
    codeAny (model prog w) A (.call (.ref C) ⟨[v], []⟩) R s := by
  obtain ⟨nm, q, N, bs, bm, sn, sub, ab, col, dd, k0, k1, k2, k3, k5, hC, hbm⟩ := TC.cls
  obtain ⟨hp, g, dr, tk, os⟩ := s
  have k : ∀ b o, hp.get? b = some o → ((hp.push (kdv_tup [v])).push (excO C hp.objs.size)).get? b = some o := fun b o e => Heap.get?_push_of_some _ (Heap.get?_push_of_some _ e)
  have hget : ((hp.push (kdv_tup [v])).push (excO C hp.objs.size)).get? (hp.objs.size + 1) = some (excO C hp.objs.size) := by heap_get
  have hnx : K.lookup (hp.objs.size + 1) = none := by
    cases e : K.lookup (hp.objs.size + 1) with
    | none => rfl
    | some o =>
      have z : hp.get? (hp.objs.size + 1) = some o := X _ _ e
      exact absurd (Nat.lt_of_succ_lt (Heap.lt_size z)) (Nat.lt_irrefl _)
  refine call_own F.excBase_ValueError (fun X => refsVE_contains X bm hbm) (X _ _ hC) (looks_findIn X TC.iC) (fun self => bind_fn X self T.tI) (one_size v) ?_
  refine room_init (s := ⟨(hp.push (kdv_tup [v])).push (excO C hp.objs.size), g, dr, tk, os⟩) T TC (X.keeps k) (hlim.keeps k) (hg.keeps k) (hb.keeps k) hmb hget hnx ?_ fun h' tk' dx ⟨k', ⟨t1, hx⟩, dn, dne, hns⟩ => ?_
  · show A.depth + 1 < recursionLimit
    exact hroom
  · have old : ∀ b o, hp.get? b = some o → h'.get? b = some o := fun b o e => k' b o (Nat.ne_of_lt (Nat.lt_succ_of_lt (Heap.lt_size e))) (k b o e)
    have z : hp.objs.size + 1 + 1 ≤ dx := by
      have q := dn
      rw [Heap.size_push, Heap.size_push] at q
      exact q
    exact ⟨rfl, hq h' tk' (hp.objs.size + 1) dx ⟨old, Nat.le_succ _, ⟨_, _, hx, rfl, rfl, rfl, rfl⟩, Nat.le_trans (Nat.le_trans (Nat.le_succ _) (Nat.le_succ _)) z, dne, hns⟩⟩
end
end RoomX
namespace L2
open PySem PySem.Spec PyProof.Rows
theorem relO_room {v : V} {v' : Value} (r : RelV v v') (f : Str) : RelO (List.lookup f [(("value" : Str), v)]) (if f = "value" then some v' else none) := by
  by_cases hw : f = "value"
  · subst hw
    rw [if_pos rfl]
    have q : List.lookup ("value" : Str) [(("value" : Str), v)] = some v := by simp [List.lookup]
    rw [q]
    exact r
  · rw [if_neg hw]
    have qw : (f == ("value" : Str)) = false := by simpa using hw
    have q2 : List.lookup f [(("value" : Str), v)] = none := by simp [List.lookup, qw]
    rw [q2]
    trivial
section
variable {X : Cx} {C D fI cc cda : Addr}
def tMkRoom (C : Addr) (ta : TA) : L2.St → Hp → XK → Prop := fun σ H Q => ta σ H fun vs H1 => ∃ v, vs = [v] ∧ ∀ d, H1 d = none → Q (.ref C) (some d) (upd H1 d (.xd [(("value" : Str), v)]))
theorem pmk_room {x : Str} {a : Expr} {ta : TA} {p pos : Pos} {k : Nat} (T : RoomX.BaseTxt X.prog X.K X.mg D fI cc cda) (TC : RoomX.ClsTxt X.K C D fI) (gC : X.mg x = some (.ref C)) (hr : Room k X.A) (ha : PA X [a] ta) (hg : Gl X x := by rfl)
    (hdb : (x == ("__debug__" : Str)) = false := by decide)
    (he : starEach (a :: []) X.env = (false, eval a X.env) :: starEach [] X.env := by rfl) (hpl : (backTo pos (starEach [] X.env)).any (·.1) = false := by rfl) :
    PMk X (.Call (.Name x p) [a] [] pos) (tMkRoom C ta) := by
  intro pins s σ H Q I h
  refine wpAny_Call_Name_kw (ld_glob I hg gC ?_ hdb)
  refine PySem.W.callWith_K (h₀ := X.base) I.ok.mod.kin TC.kC (thn (ha.run pos pins s σ H _ I h) fun us s1 hh => ?_) he hpl
  obtain ⟨vs, H1, I1, r1, v, ev, q1⟩ := hh
  subst ev
  refine ⟨I1.kIn, ?_⟩
  cases r1 with
  | cons rv rn =>
    rename_i v' us'
    cases rn
    show wpAny _ _ (call (.ref C) [v']) _ _ _
    have hlim := I1.nolimit
    obtain ⟨mb, hb1, hb2⟩ := I1.ok.mod.blt
    have hbk := I1.bk
    obtain ⟨hp, g, dr, tk, os⟩ := s1
    refine wpAny_call (RoomX.room_made T TC I1.kIn hlim (I1.ok.mod.glob.keeps hbk) (hb1.keeps hbk) ((hb2 _ (by decide)).trans (by decide +kernel)) (by have := hr.dp; omega) fun h' tk' e d M => ?_)
    show MkP X pins σ Q (.ref e) ⟨h', g, dr, tk', os⟩
    obtain ⟨oe, fv, hoe, hc, hd, hdat, h1⟩ := M.obj
    have hns := M.ns
    obtain ⟨G', g1, g2⟩ := restrict h' fun b => decide (b ≠ e)
    have gk : ∀ b, b ≠ e → G'.get? b = h'.get? b := fun b hb => g1 b (decide_eq_true hb)
    have ge : G'.get? e = none := g2 e (by simp)
    have old : ∀ b o, hp.get? b = some o → G'.get? b = some o := fun b o q => (gk b (Nat.ne_of_lt (Nat.lt_of_lt_of_le (Heap.lt_size q) M.new))).trans (M.keep b o q)
    have ob : ObjOk X.prog X.w (upd H1 d (.xd [(("value" : Str), v)])) G' d (.xd [(("value" : Str), v)]) :=
      ⟨_, hns.at (fun o q => (gk d M.dne).trans q), fun f => relO_room rv f⟩
    have J : Inv X pins σ (upd H1 d (.xd [(("value" : Str), v)])) ⟨G', g, dr, tk', os⟩ := I1.laid (t' := tk') old M.dbig ob
    refine ⟨e, oe, fv, ⟨G', g, dr, tk', os⟩, _, .ref C, some d, rfl, J, fun b o q => ?_, ge, hoe, ⟨hc, hd⟩, hdat, h1, ?_, rfl, I1.bare, raises_own TC.exC TC.tyC, q1 d (I1.hok.fresh M.dbig)⟩
    · by_cases hb : b = e
      · have q' : G'.get? b = some o := q
        rw [hb, ge] at q'; cases q'
      · exact (gk b hb).symm.trans q
    · rw [upd_ne (Ne.symm M.dne)]
      exact I1.hok.fresh M.new
def tRaiseRoom (C : Addr) (W : WX) (ta : TA) : TS := fun _ σ H => tMkRoom C ta σ H fun cls d H' => W cls d σ H'
theorem ps_raiseRoom {x : Str} {a : Expr} {ta : TA} {W : WX} {p pos pos2 : Pos} {k : Nat} (hc : X.calm = true) (T : RoomX.BaseTxt X.prog X.K X.mg D fI cc cda) (TC : RoomX.ClsTxt X.K C D fI) (gC : X.mg x = some (.ref C)) (hr : Room k X.A) (tk : Takes X W) (ha : PA X [a] ta) (hg : Gl X x := by rfl)
    (hdb : (x == ("__debug__" : Str)) = false := by decide)
    (he : starEach (a :: []) X.env = (false, eval a X.env) :: starEach [] X.env := by rfl) (hpl : (backTo pos (starEach [] X.env)).any (·.1) = false := by rfl) :
    PS X (.Raise (some (.Call (.Name x p) [a] [] pos)) none pos2) (tRaiseRoom C W ta) := ps_raise hc tk (pmk_room T TC gC hr ha hg hdb he hpl)
end
end L2
namespace Mi
open PySem PySem.Spec PyProof.Rows L2
def mRaise (c : Nat) (m : M D) : M Out := Mi.bnd m fun d _ => .exc c d
theorem sim_raise {K : PySem.W.Frag} {cl : CL} {E : XK} {te : TE} {m : M D} {c : Nat} {C : Addr} (hc : cl c = C) (ha : SimE K cl E te m) : SimS K cl E (tRaiseRoom C (fun cls d _ H => E cls d H) (tCons te tNil)) (mRaise c m) := by
  intro zA F B H es σ Dn r h
  refine ha _ F B H es σ _ r (Po.imp (Po.bnd h) fun d es1 B1 H1 e1 f1 h1 v r1 a => ?_)
  refine ⟨v, rfl, fun dx n => ?_⟩
  have nB : B1 dx = none := r1.bh.free n
  subst hc
  refine h1 v dx B1 _ (Same.rfl' _) (Frs.refl _ _) (r1.fh.trans (same_new n)) ⟨r1.bh.trans (same_new n), r1.nb, fun q hq => (r1.tab q hq).ext (same_new n), r1.fl.trans (r1.fhN.trans (same_noT2 (same_new n)))⟩ (r1.fh.free n) nB upd_same a
end Mi
namespace Mi
open PySem PySem.Spec PyProof.Rows L2
structure RoomG (k : Nat) (A : Around) : Prop where
  r : Room k A
  g : A.guards = some []
theorem RoomG.mono {j k : Nat} {A : Around} (h : RoomG k A) (l : j ≤ k) : RoomG j A := ⟨h.r.mono l, h.g⟩
theorem RoomG.deeper {k : Nat} {A : Around} (h : RoomG (k + 1) A) (env : Env) : RoomG k (A.deeper env) := ⟨h.r.deeper env, h.g⟩
theorem RoomG.units {k : Nat} {A : Around} (h : RoomG k A) : A.units + 64 < cLine := h.r.units
theorem RoomG.make {k : Nat} {A : Around} (h : RoomG (k + 1) A) (C : Addr) (us : List Value) (kw : List (Str × Value)) : RoomG k (A.under (.builtin "type.__call__" ⟨.ref C :: us, kw⟩)) :=
  ⟨h.r.make C us kw, by
    have e := h.g
    first
      | exact e
      | (simp [Around.under, Code.guards, Code.isGuard, guardIds, pushGuards, e])⟩
section
variable {P : Program} {w : World} {K : PySem.W.Frag} {mg : Str → Option Value} {base : Heap} {CX : CXT}
structure FnG (P : Program) (w : World) (K : PySem.W.Frag) (mg : Str → Option Value) (base : Heap) (CX : CXT) (k : Nat) (f : Addr) (fd : FuncData) (ps : List Str) (sp : Sp) : Prop where
  len : ∀ vs H Q E, sp vs H Q E → vs.length = ps.length
  go : ∀ (A : Around) (out : List Env) (s : Shared) (H : Hp) (args : Args) (us : List Value) (vs : List V) (Q : VK) (E : XK), RoomG k A → Env0 P w K mg base A out s H → BindsTo s fd args (ps.zip us) →
    Vals vs us → sp vs H Q E → codeAny (model P w) A (.call (.ref f) args) (CR CX out P w H s Q E) s
theorem FnG.of {k : Nat} {f : Addr} {fd : FuncData} {ps : List Str} {sp : Sp} (F : FnOk P w K mg base CX k f fd ps sp) : FnG P w K mg base CX k f fd ps sp := ⟨F.len, fun A o s H a us vs Q E hr => F.run A o s H a us vs Q E hr.r⟩
theorem FnG.mono {j k : Nat} {f : Addr} {fd : FuncData} {ps : List Str} {sp : Sp} (F : FnG P w K mg base CX j f fd ps sp) (h : j ≤ k) : FnG P w K mg base CX k f fd ps sp := ⟨F.len, fun A o s H a us vs Q E hr => F.go A o s H a us vs Q E (hr.mono h)⟩
end
section
variable {X : Cx} {CX : CXT} {k : Nat} {f C : Addr} {fd : FuncData} {ps : List Str} {sp : Sp} {dvs : List V} {ds : List Value} {E : XK} {x : Str} {p pos : Pos} {e : Expr} {es : List Expr} {t : TA}
theorem ends_of {pins : List (Addr × Obj)} {σ : L2.St} {H : Hp} {s : Shared} {Q : VK} {A : Around} {c : Code} (hx : Passes CX X E) (I : Inv X pins σ H s) (h : codeAny (model X.prog X.w) A c (CR CX X.stack X.prog X.w H s Q E) s) :
    codeAny (model X.prog X.w) A c (fun r s' => match r with | .ok (.ret v) => EP X pins σ Q v s' | .ok _ => False | .error e => X.xe e s') s :=
  codeAny_mono h fun r s' z => by
    cases r with
    | error e => exact hx _ _ _ _ _ _ I z
    | ok fl => cases fl with
      | ret u => exact I.after z
      | _ => exact z
theorem runs_fnG {pins : List (Addr × Obj)} {σ : L2.St} {H : Hp} {s : Shared} {Q : VK} {us : List Value} {vs : List V} (F : FnG X.prog X.w X.K X.mg X.base CX k f fd ps sp) (hr : RoomG k X.A) (hb : Binds X.K fd ps ds) (hd : Vals dvs ds) (hx : Passes CX X E)
    (I : Inv X pins σ H s) (r : Vals vs us) (h : sp (vs ++ dvs) H Q E) : wpAny (model X.prog X.w) X.A (call (.ref f) us) (EP X pins σ Q) X.xe s :=
  have rr : Vals (vs ++ dvs) (us ++ ds) := r.append hd
  wpAny_call (ends_of hx I (F.go X.A X.stack s H ⟨us, []⟩ _ _ Q E hr I.env0 (hb s us I.kIn (rr.length.symm.trans (F.len _ _ _ _ h))) rr h))
theorem pe_callG (F : FnG X.prog X.w X.K X.mg X.base CX k f fd ps sp) (hr : RoomG k X.A) (hg : Gl X x) (hm : X.mg x = some (.ref f)) (hk : PySem.W.keepIn X.K (.ref f) = true) (hb : Binds X.K fd ps ds) (hd : Vals dvs ds) (hx : Passes CX X E)
    (ha : PA X (e :: es) t) (hdb : (x == ("__debug__" : Str)) = false := by decide) (he : starEach (e :: es) X.env = (false, eval e X.env) :: starEach es X.env := by rfl) (hpl : (backTo pos (starEach es X.env)).any (·.1) = false := by rfl) :
    PE X (.Call (.Name x p) (e :: es) [] pos) (tCall sp dvs E t) :=
  ⟨fun pins s σ H Q I h => wpAny_Call_Name_kw (ld_glob I hg hm (PySem.W.callWith_K (h₀ := X.base) I.ok.mod.kin hk
    (thn (ha.run pos pins s σ H _ I h) fun _ _ ⟨_, _, J, r, q⟩ => ⟨J.kIn, runs_fnG F hr hb hd hx J r q⟩) he hpl) hdb)⟩
theorem pe_callG0 (F : FnG X.prog X.w X.K X.mg X.base CX k f fd ps sp) (hr : RoomG k X.A) (hg : Gl X x) (hm : X.mg x = some (.ref f)) (hk : PySem.W.keepIn X.K (.ref f) = true) (hb : Binds X.K fd ps ds) (hd : Vals dvs ds) (hx : Passes CX X E)
    (hdb : (x == ("__debug__" : Str)) = false := by decide) : PE X (.Call (.Name x p) [] [] pos) (tCall sp dvs E tNil) :=
  ⟨fun pins s σ H Q I h => wpAny_Call_Name_kw (ld_glob I hg hm (PySem.W.callWith_K0 I.kIn hk (runs_fnG F hr hb hd hx I .nil h)) hdb)⟩
theorem runs_makeG {pins : List (Addr × Obj)} {σ : L2.St} {H : Hp} {s : Shared} {Q : VK} {us : List Value} {vs : List V} (M : Mk X.K C f) (F : FnG X.prog X.w X.K X.mg X.base CX k f fd ps sp) (hr : RoomG (k + 1) X.A) (hb : Binds X.K fd ps ds) (hd : Vals dvs ds)
    (hx : Passes CX X E) (I : Inv X pins σ H s) (r : Vals vs us)
    (h : ∀ y dx, H y = none → H dx = none → dx ≠ y → sp (.ref y :: (vs ++ dvs)) (upd (upd H dx (.own y)) y (.ins C dx [])) (fun v H2 => v = .non ∧ Q (.ref y) H2) E) :
    wpAny (model X.prog X.w) X.A (call (.ref C) us) (EP X pins σ Q) X.xe s := by
  have q0 := h (s.heap.objs.size + 1) s.heap.objs.size (I.hok.fresh (Nat.le_succ _)) (I.hok.fresh (Nat.le_refl _)) (Nat.ne_of_lt (Nat.lt_succ_self _))
  have J := Inv.made (C := C) I
  have rr : Vals (V.ref (s.heap.objs.size + 1) :: (vs ++ dvs)) (Value.ref (s.heap.objs.size + 1) :: (us ++ ds)) := .cons rfl (r.append hd)
  have ln : (Value.ref (s.heap.objs.size + 1) :: us ++ ds).length = ps.length := rr.length.symm.trans (F.len _ _ _ _ q0)
  have run := F.go _ X.stack _ _ ⟨Value.ref (s.heap.objs.size + 1) :: us, []⟩ _ _ _ E (hr.make C us []) (J.env0.make C us []) (hb _ _ J.kIn ln) rr q0
  exact wpAny_call (make_map (f := f) I.kIn M.makes M.init (beq_iff_eq.mp M.fn) (codeAny_mono run fun r s' z => by
    cases r with
    | error e => exact hx _ _ _ _ _ _ J z
    | ok fl => cases fl with
      | ret u =>
        obtain ⟨v, H', I3, rv, ev, q3⟩ := J.after z
        subst ev
        exact ⟨rv, ⟨V.ref (s.heap.objs.size + 1), H', I3, rfl, q3⟩⟩
      | _ => exact z.elim))
theorem pe_makeG (M : Mk X.K C f) (F : FnG X.prog X.w X.K X.mg X.base CX k f fd ps sp) (hr : RoomG (k + 1) X.A) (hg : Gl X x) (hm : X.mg x = some (.ref C)) (hb : Binds X.K fd ps ds) (hd : Vals dvs ds) (hx : Passes CX X E)
    (ha : PA X (e :: es) t) (hdb : (x == ("__debug__" : Str)) = false := by decide) (he : starEach (e :: es) X.env = (false, eval e X.env) :: starEach es X.env := by rfl) (hpl : (backTo pos (starEach es X.env)).any (·.1) = false := by rfl) :
    PE X (.Call (.Name x p) (e :: es) [] pos) (tMake C sp dvs E t) :=
  ⟨fun pins s σ H Q I h => wpAny_Call_Name_kw (ld_glob I hg hm (PySem.W.callWith_K (h₀ := X.base) I.ok.mod.kin M.kp
    (thn (ha.run pos pins s σ H _ I h) fun _ _ ⟨_, _, J, r, q⟩ => ⟨J.kIn, runs_makeG M F hr hb hd hx J r q⟩) he hpl) hdb)⟩
end
section
variable {P : Program} {w : World} {K : PySem.W.Frag} {mg : Str → Option Value} {base : Heap} {CX : CXT}
theorem fn_ofG {k : Nat} {f : Addr} {name qual : Str} {params : Arguments} {body : List Stmt} {scope : Scope} {dV kV doc pm cdv ct oc : Value} {an od : Option Addr} {osl : Array (Option Value)} {N ps : List Str} {sp : Sp}
    (lk : K.lookup f = some ⟨oc, od, .func (PySem.W.fnOf name qual params body scope dV kV doc pm an cdv ct), osl⟩) (hcd : PySem.W.codeIn K cdv qual = true) (S : FnScope N ps scope) (len : ∀ vs H Q E, sp vs H Q E → vs.length = ps.length)
    (hb : ∀ (A : Around) (outer : List Env) (s : Shared) (H : Hp) (vs : List V) (Q : VK) (E : XK), RoomG k (A.deeper (envOfC qual scope s.heap.objs.size f cdv)) → sp vs H Q E →
      ∃ t, PSs (cxOf CX P w K mg base N qual scope f cdv A outer s H E) body t ∧ t { nx := fun _ H' => Q .non H', rt := Q } (L2.start N vs) H) : FnG P w K mg base CX (k + 1) f (PySem.W.fnOf name qual params body scope dV kV doc pm an cdv ct) ps sp :=
  ⟨len, fun A out s H args us vs Q E hr e0 bt r q => LamX.run_ofS lk hcd S hr.r e0 bt r (len _ _ _ _ q) fun r2 => hb A out s H vs Q E ⟨r2, hr.g⟩ q⟩
theorem okG {x qual : Str} {st : Stmt} {f : Addr} {fd : FuncData} {N ps : List Str} {k : Nat} {sp : Sp} (F : L2.Fun K x qual st f fd) (S : FnScope N ps (defScope st)) (len : ∀ vs H Q E, sp vs H Q E → vs.length = ps.length)
    (hb : ∀ (cdv : Value) (A : Around) (outer : List Env) (s : Shared) (H : Hp) (vs : List V) (Q : VK) (E : XK), RoomG k (A.deeper (envOfC qual (defScope st) s.heap.objs.size f cdv)) → sp vs H Q E →
      ∃ t, PSs (cxOf CX P w K mg base N qual (defScope st) f cdv A outer s H E) (defBody st) t ∧ t { nx := fun _ H' => Q .non H', rt := Q } (L2.start N vs) H) : FnG P w K mg base CX (k + 1) f fd ps sp := by
  obtain ⟨_, _, _, _, _, _, cd, _, _, e, lk, hcd⟩ := F.ex
  subst e
  exact fn_ofG lk hcd S len (hb cd)
end
section
variable {X : Cx} {CX : CXT} {k : Nat} {f : Addr} {fd : FuncData} {ps : List Str} {sp : Sp} {E : L2.St → XK} {x : Str} {p pos : Pos} {e : Expr} {es : List Expr} {t : TA}
theorem pe_callSG (F : FnG X.prog X.w X.K X.mg X.base CX k f fd ps sp) (hr : RoomG k X.A) (hg : Gl X x) (hm : X.mg x = some (.ref f)) (hk : PySem.W.keepIn X.K (.ref f) = true) (hb : Binds X.K fd ps []) (hx : ∀ σ, PassesAt CX X σ (E σ))
    (ha : PA X (e :: es) t) (hdb : (x == ("__debug__" : Str)) = false := by decide) (he : starEach (e :: es) X.env = (false, eval e X.env) :: starEach es X.env := by rfl) (hpl : (backTo pos (starEach es X.env)).any (·.1) = false := by rfl) :
    PE X (.Call (.Name x p) (e :: es) [] pos) (tCallS sp E t) :=
  ⟨fun pins s σ H Q I h => wpAny_Call_Name_kw (ld_glob I hg hm (PySem.W.callWith_K (h₀ := X.base) I.ok.mod.kin hk (thn (ha.run pos pins s σ H _ I h) fun us s1 ⟨vs, H1, J, r, q⟩ => ⟨J.kIn, by
    have bt := hb s1 us J.kIn (by rw [List.append_nil, ← r.length]; exact F.len _ _ _ _ q)
    rw [List.append_nil] at bt
    exact wpAny_call (codeAny_mono (F.go X.A X.stack s1 H1 ⟨us, []⟩ us vs Q (E σ) hr J.env0 bt r q) fun r s' z => by
      cases r with
      | error e => exact hx σ _ _ _ _ _ J z
      | ok fl => cases fl with
        | ret u => exact J.after z
        | _ => exact z)⟩) he hpl) hdb)⟩
end
end Mi
namespace Mi
open PySem PySem.Spec PyProof.Rows L2
inductive Ty where
  | int | bool | str | tuple | list | dict
def Ty.nm : Ty → String
  | .int => "int" | .bool => "bool" | .str => "str" | .tuple => "tuple" | .list => "list" | .dict => "dict"
def tyN : D → Option String
  | .non => some "NoneType" | .bl _ => some "bool" | .int _ => some "int" | .str _ => some "str" | .tup _ => some "tuple" | .lst _ => some "list" | .dc0 => some "dict" | .dct .. => some "dict" | .ins .. => none | .scr _ => none | .fn => none
def isa (T : Ty) : D → Option Bool
  | .non => some false
  | .bl _ => some (match T with | .bool | .int => true | _ => false)
  | .int _ => some (match T with | .int => true | _ => false)
  | .str _ => some (match T with | .str => true | _ => false)
  | .tup _ => some (match T with | .tuple => true | _ => false)
  | .lst _ => some (match T with | .list => true | _ => false)
  | .dc0 => some (match T with | .dict => true | _ => false)
  | .dct .. => some (match T with | .dict => true | _ => false)
  | .ins .. => none
  | .scr _ => none
  | .fn => none
theorem isa_kit {K : PySem.W.Frag} {T : Ty} {d : D} {b : Bool} (h : isa T d = some b) : ∃ n, tyN d = some n ∧ PySem.W.kitOne K (.type n) (.type T.nm) = some b := by
  cases d <;> cases T <;> first
    | (cases h; exact ⟨_, rfl, kit_ty (by decide +kernel)⟩)
    | cases h
def mIsa (T : Ty) (m : M D) : M D := Mi.bnd m fun d => Mi.opt ((isa T d).map .bl)
def mIsa2 (T U : Ty) (m : M D) : M D := Mi.bnd m fun d => Mi.opt ((isa T d).bind fun b => (isa U d).map fun c => .bl (b || c))
def dLen : List D → Option D
  | [.str s] => okB (decide (s.length ≤ sizeLine)) (.int s.length)
  | [.tup l] => some (.int l.length)
  | [.lst l] => some (.int l.length)
  | [.scr l] => some (.int l.length)
  | _ => none
def bls : List D → Option (List Bool)
  | [] => some []
  | .bl b :: r => (bls r).map (b :: ·)
  | _ => none
def dAll : List D → Option D
  | [.lst l] => (bls l).map fun bs => .bl (bs.all id)
  | _ => none
def dAbs : List D → Option D
  | [.int i] => some (.int (if i < 0 then -i else i))
  | _ => none
def dMax : List D → Option D
  | [.int i, .int j] => some (.int (if j > i then j else i))
  | _ => none
def dMin : List D → Option D
  | [.int i, .int j] => some (.int (if j < i then j else i))
  | _ => none
def dInt : List D → Option D
  | [.int i] => some (.int i)
  | [.bl b] => some (.int (if b then 1 else 0))
  | [.str s] => if s.length ≤ 640 then (PySem.intText? s).map .int else none
  | _ => none
def dStr : List D → Option D
  | [.int i] => okB (decide (i.natAbs.log2 < 1920)) (.str (toString i))
  | [.str s] => some (.str s)
  | _ => none
def dRepr : List D → Option D
  | [.int i] => okB (decide (i.natAbs.log2 < 1920)) (.str (toString i))
  | _ => none
def dOrd : List D → Option D
  | [.str s] => okB (decide (s.length = 1)) (.int (s.cps.getD 0 0 : Nat))
  | _ => none
def dTuple : List D → Option D
  | [.lst l] => some (.tup l)
  | [.tup l] => some (.tup l)
  | _ => none
def dList : List D → Option D
  | [.lst l] => some (.lst l)
  | [.tup l] => some (.lst l)
  | _ => none
def txts : List D → Option (List Str)
  | [] => some []
  | .str s :: r => (txts r).map (s :: ·)
  | _ => none
def seqOf : D → Option (List D)
  | .lst l => some l
  | .tup l => some l
  | _ => none
def dSplit (a : Str) : D → Option D
  | .str b => okB (decide ((b.length == 0) = false ∧ a.length + 2 ≤ sizeLine)) (.lst ((Txt.split a b).map .str))
  | _ => none
def dPart (a : Str) : D → Option D
  | .str b => okB (decide ((b.length == 0) = false ∧ a.length ≤ sizeLine)) (.tup [.str (Txt.partition a b).1, .str (Txt.partition a b).2.1, .str (Txt.partition a b).2.2])
  | _ => none
def dRpart (a : Str) : D → Option D
  | .str b => okB (decide ((b.length == 0) = false ∧ a.length ≤ sizeLine)) (.tup [.str (Txt.rpartition a b).1, .str (Txt.rpartition a b).2.1, .str (Txt.rpartition a b).2.2])
  | _ => none
def dJoin (a : Str) (d : D) : Option D := ((seqOf d).bind txts).bind fun ys => okB (decide ((ys.map (·.length)).sum + ys.length * a.length ≤ 16777216)) (.str (Txt.join a ys))
def mM1 (f : Str → D → Option D) (m n : M D) : M D := Mi.bnd m fun x => match x with
  | .str s => Mi.bnd n fun y => Mi.opt (f s y)
  | _ => Mi.bad
def SimM1 (K : PySem.W.Frag) (cl : CL) (r : V → List V → Hp → VK → Prop) (f : Str → D → Option D) : Prop := ∀ (zA : Zp) (F B H : Hp) (es : En) (σ : L2.St) (s : Str) (y : V) (dy d : D) (Q : VK), Rel K cl zA F B H es σ → At K cl B y dy → f s dy = some d →
  FinE K cl zA F B es σ d Q → r (.str s) [y] H Q
section
variable {K : PySem.W.Frag} {cl : CL} {E : XK}
theorem at_ty {F B H : Hp} {es : En} {σ : L2.St} {v : V} {d : D} {n : String} (r : Rel K cl zA F B H es σ) (a : At K cl B v d) (e : tyN d = some n) : TyX K H v (.type n) := by
  cases a with
  | non => cases e; exact .base .non
  | bl b => cases e; exact .base (.bl b)
  | int i => cases e; exact .base (.int i)
  | str s => cases e; exact .base (.str s)
  | tup h1 h2 =>
    cases e
    rcases sqT_mono r.bh h1 with (h | ⟨o, h⟩) | ⟨o, its, n, h, hc, _⟩
    · exact .base (.tup h)
    · exact .fTuple h
    · exact .kTuple h hc
  | lst h1 h2 => cases e; exact .base (.lst (r.bh _ _ h1))
  | ins _ _ _ => cases e
  | scr _ => cases e
  | fn _ _ => cases e
  | dct h1 h2 h3 => cases e; exact .base (.dK (r.bh _ _ h1))
  | dc0 h1 => cases e; exact .base (.dK (r.bh _ _ h1))
theorem sim_isa {T : Ty} {te : TE} {m : M D} (ha : SimE K cl E te m) : SimE K cl E (tCB (rIsi K) (tCons te (tCons (tC (.ty T.nm)) tNil))) (mIsa T m) := by
  intro zA F B H es σ Q r h
  refine ha _ F B H es σ _ r (Po.imp (Po.bnd h) fun d es1 B1 H1 _ _ h1 v r1 a => ?_)
  obtain ⟨x, hx, hk⟩ := Po.opt h1
  cases e : isa T d with
  | none => rw [e] at hx; cases hx
  | some b =>
    rw [e] at hx
    cases hx
    obtain ⟨n, hn, kt⟩ := isa_kit (K := K) e
    exact ⟨v, .ty T.nm, _, _, b, rfl, .ty _, at_ty r1 a hn, kt, hk B1 H1 (Same.rfl' _) (Frs.refl _ _) _ r1 (.bl b)⟩
theorem sim_isa2 {T U : Ty} {te : TE} {m : M D} (ha : SimE K cl E te m) : SimE K cl E (tCB (rIsiT K) (tCons te (tCons (tTup (tCons (tC (.ty T.nm)) (tCons (tC (.ty U.nm)) tNil))) tNil))) (mIsa2 T U m) := by
  intro zA F B H es σ Q r h
  refine ha _ F B H es σ _ r (Po.imp (Po.bnd h) fun d es1 B1 H1 _ _ h1 v r1 a => ?_)
  obtain ⟨x, hx, hk⟩ := Po.opt h1
  cases e : isa T d with
  | none => rw [e] at hx; cases hx
  | some b =>
    cases e2 : isa U d with
    | none => rw [e, e2] at hx; cases hx
    | some c =>
      rw [e, e2] at hx
      cases hx
      obtain ⟨n, hn, kt⟩ := isa_kit (K := K) e
      obtain ⟨n', hn', ku⟩ := isa_kit (K := K) e2
      rw [hn] at hn'
      cases hn'
      refine ⟨by show 2 ≤ sizeLine; decide, fun p np => ?_⟩
      obtain ⟨r2, s2, f2⟩ := r1.news (o := .tup [.ty T.nm, .ty U.nm]) np
      refine ⟨v, p, [.ty T.nm, .ty U.nm], _, [.type T.nm, .type U.nm], (b || c), rfl, upd_same, .cons (.ty _) (.cons (.ty _) .nil), at_ty r2 (a.up s2) hn, ?_, hk _ _ s2 f2 _ r2 (.bl _)⟩
      refine kitAny_cons kt (fun hb => ?_) (fun hb => by rw [hb]; rfl)
      rw [hb]
      refine kitAny_cons ku (fun hc => ?_) (fun hc => by rw [hc]; rfl)
      rw [hc]
      rfl
theorem sim_len : SimC K cl (fun xs H Q => ∃ x n, xs = [x] ∧ LenV K x H n ∧ Q (.int n) H) dLen := by
  intro zA F B H es σ xs ds d Q r a hd q
  match ds, xs, a, hd with
  | [.str s], _, .cons (.str _) .nil, hd =>
    obtain ⟨hz, rfl⟩ := okB_ok hd
    exact ⟨.str s, s.length, rfl, ⟨of_decide_eq_true hz, rfl⟩, q.here r (.int _)⟩
  | [.tup l], _, .cons (.tup (p := p) (vs := vs) h1 h2) .nil, hd =>
    cases hd
    exact ⟨_, l.length, rfl, .inr ⟨_, sqT_mono r.bh h1, h2.len.symm⟩, q.here r (.int _)⟩
  | [.lst l], _, .cons (.lst (p := p) (vs := vs) h1 h2) .nil, hd =>
    cases hd
    exact ⟨_, l.length, rfl, .inl ⟨_, .inl (.inl (r.bh _ _ h1)), h2.len.symm⟩, q.here r (.int _)⟩
  | [.scr l], _, .cons (.scr (p := p) h1) .nil, hd =>
    cases hd
    exact ⟨_, l.length, rfl, .inl ⟨_, sqL_mono r.bh h1, (List.length_map V.int).symm⟩, q.here r (.int _)⟩
theorem at_bls {B : Hp} : ∀ {ds : List D} {vs : List V} {bs : List Bool}, AtL K cl B vs ds → bls ds = some bs → vs = bs.map V.bl
  | [], _, _, a, e => by cases a; cases e; rfl
  | .bl b :: r, _, _, .cons (.bl _) t, e => by
    simp only [bls] at e
    cases q : bls r with
    | none => rw [q] at e; cases e
    | some bs =>
      rw [q] at e
      cases e
      rw [at_bls t q]
      rfl
theorem sim_all : SimC K cl (rAll K) dAll := by
  intro zA F B H es σ xs ds d Q r a hd q
  match ds, xs, a, hd with
  | [.lst l], _, .cons (.lst (p := p) (vs := vs) h1 h2) .nil, hd =>
    simp only [dAll] at hd
    cases e : bls l with
    | none => rw [e] at hd; cases hd
    | some bs =>
      rw [e] at hd
      cases hd
      refine ⟨_, bs, rfl, .inl (.inl ?_), q.here r (.bl _)⟩
      rw [← at_bls h2 e]
      exact r.bh _ _ h1
theorem sim_abs : SimC K cl (fun xs H Q => ∃ i, xs = [.int i] ∧ Q (.int (if i < 0 then -i else i)) H) dAbs := by
  intro zA F B H es σ xs ds d Q r a hd q
  match ds, xs, a, hd with
  | [.int i], _, .cons (.int _) .nil, hd => cases hd; exact ⟨i, rfl, q.here r (.int _)⟩
theorem sim_max : SimC K cl (fun xs H Q => ∃ i j, xs = [.int i, .int j] ∧ Q (.int (if j > i then j else i)) H) dMax := by
  intro zA F B H es σ xs ds d Q r a hd q
  match ds, xs, a, hd with
  | [.int i, .int j], _, .cons (.int _) (.cons (.int _) .nil), hd => cases hd; exact ⟨i, j, rfl, q.here r (.int _)⟩
theorem sim_min : SimC K cl (fun xs H Q => ∃ i j, xs = [.int i, .int j] ∧ Q (.int (if j < i then j else i)) H) dMin := by
  intro zA F B H es σ xs ds d Q r a hd q
  match ds, xs, a, hd with
  | [.int i, .int j], _, .cons (.int _) (.cons (.int _) .nil), hd => cases hd; exact ⟨i, j, rfl, q.here r (.int _)⟩
def rIntD : List V → Hp → VK → Prop := fun xs H Q => (fun xs H Q => (∃ i, xs = [V.int i] ∧ Q (.int i) H) ∨ ∃ k, xs = [V.bl k] ∧ Q (.int (if k then 1 else 0)) H) xs H Q ∨
  (fun xs H Q => ∃ a n, xs = [V.str a] ∧ PySem.intText? a = some n ∧ a.length ≤ 640 ∧ Q (.int n) H) xs H Q
theorem call_intD {X : Cx} : CallR X (.type "int") rIntD := call_int1.or call_int_str
theorem sim_int : SimC K cl rIntD dInt := by
  intro zA F B H es σ xs ds d Q r a hd q
  match ds, xs, a, hd with
  | [.int i], _, .cons (.int _) .nil, hd => cases hd; exact .inl (.inl ⟨i, rfl, q.here r (.int _)⟩)
  | [.bl b], _, .cons (.bl _) .nil, hd => cases hd; exact .inl (.inr ⟨b, rfl, q.here r (.int _)⟩)
  | [.str s], _, .cons (.str _) .nil, hd =>
    simp only [dInt] at hd
    split at hd
    · rename_i hz
      cases e : PySem.intText? s with
      | none => rw [e] at hd; cases hd
      | some n =>
        rw [e] at hd
        cases hd
        exact .inr ⟨s, n, rfl, e, hz, q.here r (.int _)⟩
    · cases hd
def rStrD : List V → Hp → VK → Prop := fun xs H Q => (fun xs H Q => ∃ i : Int, xs = [V.int i] ∧ i.natAbs.log2 < 1920 ∧ Q (.str (toString i)) H) xs H Q ∨ (fun xs H Q => ∃ a, xs = [V.str a] ∧ Q (.str a) H) xs H Q
theorem call_strD {X : Cx} : CallR X (.type "str") rStrD := call_str_int.or SkE.call_str_str
theorem sim_str : SimC K cl rStrD dStr := by
  intro zA F B H es σ xs ds d Q r a hd q
  match ds, xs, a, hd with
  | [.int i], _, .cons (.int _) .nil, hd =>
    obtain ⟨hz, rfl⟩ := okB_ok hd
    exact .inl ⟨i, rfl, of_decide_eq_true hz, q.here r (.str _)⟩
  | [.str s], _, .cons (.str _) .nil, hd => cases hd; exact .inr ⟨s, rfl, q.here r (.str _)⟩
theorem sim_repr : SimC K cl (fun xs H Q => ∃ i, xs = [.int i] ∧ i.natAbs.log2 < 1920 ∧ Q (.str (toString i)) H) dRepr := by
  intro zA F B H es σ xs ds d Q r a hd q
  match ds, xs, a, hd with
  | [.int i], _, .cons (.int _) .nil, hd =>
    obtain ⟨hz, rfl⟩ := okB_ok hd
    exact ⟨i, rfl, of_decide_eq_true hz, q.here r (.str _)⟩
theorem sim_ord : SimC K cl (fun xs H Q => ∃ x, xs = [.str x] ∧ x.length = 1 ∧ Q (.int (x.cps.getD 0 0 : Nat)) H) dOrd := by
  intro zA F B H es σ xs ds d Q r a hd q
  match ds, xs, a, hd with
  | [.str s], _, .cons (.str _) .nil, hd =>
    obtain ⟨hz, rfl⟩ := okB_ok hd
    exact ⟨s, rfl, of_decide_eq_true hz, q.here r (.int _)⟩
theorem sim_tuple : SimC K cl (fun xs H Q => ∃ p ys, xs = [.ref p] ∧ ((SqL K H p ys ∧ ∀ l, H l = none → Q (.ref l) (upd H l (.tup ys))) ∨ (SqT K H p ys ∧ Q (.ref p) H))) dTuple := by
  intro zA F B H es σ xs ds d Q r a hd q
  match ds, xs, a, hd with
  | [.tup l], _, .cons (.tup (p := p) (vs := vs) h1 h2) .nil, hd => cases hd; exact ⟨_, _, rfl, .inr ⟨sqT_mono r.bh h1, q.here r (.tup h1 h2)⟩⟩
  | [.lst l], _, .cons (.lst (p := p) (vs := vs) h1 h2) .nil, hd => cases hd; exact ⟨_, _, rfl, .inl ⟨.inl (.inl (r.bh _ _ h1)), fun l n => q.tup r n h2⟩⟩
theorem sim_list : SimC K cl (fun xs H Q => ∃ p ys, xs = [.ref p] ∧ (SqL K H p ys ∨ SqT K H p ys) ∧ ∀ l, H l = none → Q (.ref l) (upd H l (.lst ys))) dList := by
  intro zA F B H es σ xs ds d Q r a hd q
  match ds, xs, a, hd with
  | [.tup l], _, .cons (.tup (p := p) (vs := vs) h1 h2) .nil, hd => cases hd; exact ⟨_, _, rfl, .inr (sqT_mono r.bh h1), fun l n => q.lst r n h2⟩
  | [.lst l], _, .cons (.lst (p := p) (vs := vs) h1 h2) .nil, hd => cases hd; exact ⟨_, _, rfl, .inl (.inl (.inl (r.bh _ _ h1))), fun l n => q.lst r n h2⟩
theorem sim_m1 {to te : TE} {m n : M D} {r : V → List V → Hp → VK → Prop} {f : Str → D → Option D} (ho : SimE K cl E to m) (he : SimE K cl E te n) (hr : SimM1 K cl r f) : SimE K cl E (tM1 r to te) (mM1 f m n) := by
  intro zA F B H es σ Q rr h
  refine ho _ F B H es σ _ rr (Po.imp (Po.bnd h) fun dx es1 B1 H1 _ _ h1 vx r1 ax => ?_)
  cases ax with
  | str s =>
    refine ⟨⟨s, rfl⟩, ?_⟩
    refine he _ F B1 H1 es1 σ _ r1 (Po.imp (Po.bnd h1) fun dy es2 B2 H2 e2 f2 h2 vy r2 ay => ?_)
    obtain ⟨d, hd, hk⟩ := Po.opt h2
    exact hr _ F B2 H2 es2 σ s vy dy d Q r2 ay hd fun v B' H' s f r' a => hk B' H' s f v r' a
  | _ => exact h1.elim
theorem sim_split : SimM1 K cl (fun x xs H Q => ∃ a b, x = .str a ∧ xs = [.str b] ∧ (b.length == 0) = false ∧ a.length + 2 ≤ sizeLine ∧ rNewStrs (Txt.split a b) H Q) dSplit := by
  intro zA F B H es σ s y dy d Q r a hd q
  cases a with
  | str b =>
    obtain ⟨hz, rfl⟩ := okB_ok hd
    have hz := of_decide_eq_true hz
    refine ⟨s, b, rfl, rfl, hz.1, hz.2, fun p n => ?_⟩
    exact q.lst r n (.strs _)
  | _ => cases hd
theorem sim_part1 : SimM1 K cl (fun x xs H Q => ∃ a b, x = .str a ∧ xs = [.str b] ∧ (b.length == 0) = false ∧ a.length ≤ sizeLine ∧
      ∀ p, H p = none → Q (.ref p) (upd H p (.tup [.str (Txt.partition a b).1, .str (Txt.partition a b).2.1, .str (Txt.partition a b).2.2]))) dPart := by
  intro zA F B H es σ s y dy d Q r a hd q
  cases a with
  | str b =>
    obtain ⟨hz, rfl⟩ := okB_ok hd
    have hz := of_decide_eq_true hz
    refine ⟨s, b, rfl, rfl, hz.1, hz.2, fun p n => ?_⟩
    exact q.tup r n (.cons (.str _) (.cons (.str _) (.cons (.str _) .nil)))
  | _ => cases hd
theorem at_txts {B : Hp} : ∀ {ds : List D} {vs : List V} {ys : List Str}, AtL K cl B vs ds → txts ds = some ys → vs = ys.map V.str
  | [], _, _, a, e => by cases a; cases e; rfl
  | .str b :: r, _, _, .cons (.str _) t, e => by
    simp only [txts] at e
    cases q : txts r with
    | none => rw [q] at e; cases e
    | some bs =>
      rw [q] at e
      cases e
      rw [at_txts t q]
      rfl
theorem sim_join : SimM1 K cl (fun x xs H Q => ∃ a p, ∃ ys : List Str, x = .str a ∧ xs = [.ref p] ∧ (SqL K H p (ys.map V.str) ∨ SqT K H p (ys.map V.str)) ∧
      (ys.map (·.length)).sum + ys.length * a.length ≤ 16777216 ∧ Q (.str (Txt.join a ys)) H) dJoin := by
  intro zA F B H es σ s y dy d Q r a hd q
  unfold dJoin at hd
  cases a with
  | lst h1 h2 =>
    simp only [seqOf, Option.bind_some] at hd
    rename_i p vs ds
    cases e : txts ds with
    | none => rw [e] at hd; cases hd
    | some ys =>
      rw [e] at hd
      obtain ⟨hz, rfl⟩ := okB_ok hd
      have ev := at_txts h2 e
      subst ev
      exact ⟨s, p, ys, rfl, rfl, .inl (.inl (.inl (r.bh _ _ h1))), of_decide_eq_true hz, q.here r (.str _)⟩
  | tup h1 h2 =>
    simp only [seqOf, Option.bind_some] at hd
    rename_i p vs ds
    cases e : txts ds with
    | none => rw [e] at hd; cases hd
    | some ys =>
      rw [e] at hd
      obtain ⟨hz, rfl⟩ := okB_ok hd
      have ev := at_txts h2 e
      subst ev
      exact ⟨s, p, ys, rfl, rfl, .inr (sqT_mono r.bh h1), of_decide_eq_true hz, q.here r (.str _)⟩
  | _ => simp [seqOf] at hd
def mJs : List (M D) → Str → M Str
  | [], acc => Mi.ret acc
  | m :: ms, acc => Mi.bnd m fun d => match d with
    | .str y => if (acc ++ y).length ≤ sizeLine then mJs ms (acc ++ y) else Mi.bad
    | _ => Mi.bad
def mFs (ms : List (M D)) : M D := Mi.bnd (mJs ms Str.empty) fun s => Mi.ret (.str s)
def fmtOf : D → Option D
  | .str y => okB (decide (y.length ≤ sizeLine)) (.str y)
  | .int i => okB (decide (i.natAbs.log2 < 1920)) (.str (toString i))
  | _ => none
def mFmt (m : M D) : M D := Mi.bnd m fun d => Mi.opt (fmtOf d)
inductive SimJ (K : PySem.W.Frag) (cl : CL) (E : XK) : List TE → List (M D) → Prop
  | nil : SimJ K cl E [] []
  | cons {t : TE} {m : M D} {ts : List TE} {ms : List (M D)} : SimE K cl E t m → SimJ K cl E ts ms → SimJ K cl E (t :: ts) (m :: ms)
theorem sim_js {ts : List TE} {ms : List (M D)} (h : SimJ K cl E ts ms) : ∀ (acc : Str) (zA : Zp) (F B H : Hp) (es : En) (σ : L2.St) (Q : Str → Hp → Prop), Rel K cl zA F B H es σ →
    Po K cl E F B (mJs ms acc es) (fun s es' B' H' => Rel K cl zA F B' H' es' σ → Q s H') → tJs ts acc σ H Q := by
  induction h with
  | nil => exact fun acc zA F B H es σ Q r h => Po.ret0 (show Po K cl E F B (Mi.ret acc es) _ from h) H r
  | cons h1 h2 ih =>
    intro acc zA F B H es σ Q r h
    refine h1 _ F B H es σ _ r (Po.imp (Po.bnd h) fun d es1 B1 H1 _ _ k v r1 a => ?_)
    cases a with
    | str y =>
      simp only at k
      by_cases hz : (acc ++ y).length ≤ sizeLine
      · rw [if_pos hz] at k
        exact ⟨y, rfl, hz, ih (acc ++ y) _ F B1 H1 es1 σ Q r1 k⟩
      · rw [if_neg hz] at k
        exact k.elim
    | _ => exact k.elim
theorem sim_fs {ts : List TE} {ms : List (M D)} (h : SimJ K cl E ts ms) : SimE K cl E (fun σ H Q => tJs ts Str.empty σ H fun out H1 => Q (.str out) H1) (mFs ms) := by
  intro zA F B H es σ Q r k
  exact sim_js h Str.empty _ F B H es σ _ r (Po.imp (Po.bnd k) fun s es1 B1 H1 _ _ k1 r1 => Po.ret0 k1 H1 _ r1 (.str s))
theorem sim_fmt {te : TE} {m : M D} (ha : SimE K cl E te m) : SimE K cl E (tFmt te) (mFmt m) := by
  intro zA F B H es σ Q r h
  refine ha _ F B H es σ _ r (Po.imp (Po.bnd h) fun d es1 B1 H1 _ _ h1 v r1 a => ?_)
  obtain ⟨x, hx, hk⟩ := Po.opt h1
  cases a with
  | str y =>
    obtain ⟨hz, rfl⟩ := okB_ok hx
    exact .inl ⟨y, rfl, of_decide_eq_true hz, hk B1 H1 (Same.rfl' _) (Frs.refl _ _) _ r1 (.str y)⟩
  | int i =>
    obtain ⟨hz, rfl⟩ := okB_ok hx
    exact .inr ⟨i, rfl, of_decide_eq_true hz, hk B1 H1 (Same.rfl' _) (Frs.refl _ _) _ r1 (.str _)⟩
  | _ => cases hx
def ends (r : R (Out × En)) : R D := match r with
  | .ok (.nx, _) => .ok .non
  | .ok (.rt d, _) => .ok d
  | .exc c d => .exc c d
  | _ => .bad
def fnM (n : Nat) (m : M Out) (ds : List D) : R D := ends (m (ds.map Sl.dat ++ List.replicate (n - ds.length) .un))
def spM (K : PySem.W.Frag) (cl : CL) (g : List D → R D) (n : Nat) : Sp := fun vs H Q E => ∃ (ds : List D) (B : Hp), ds.length = n ∧ Bas cl B H ∧ AtL K cl B vs ds ∧ match g ds with
  | .ok d => ∀ (v : V) (B' H' : Hp), Same B B' → Frs B (noT H) B' → Same (noT H) H' → Bas cl B' H' → At K cl B' v d → Q v H'
  | .exc c d => Exk K cl E (noT H) B c d
  | .bad => False
def mCall (n : Nat) (g : List D → R D) (a : M (List D)) : M D := Mi.bnd a fun ds => if ds.length = n then Mi.lft (g ds) else Mi.bad
theorem Exk.call {F B H : Hp} {es : En} {σ : L2.St} {c : Nat} {d : D} (r : Rel K cl zA F B H es σ) (h : Exk K cl E F B c d) : Exk K cl E (noT H) B c d := fun v dx B' H' s f sh sb n nb e a =>
  h v dx B' H' s (r.frs f) (r.fhN.trans sh) sb (r.fhN.free n) nb e a
theorem sim_call {ta : TA} {ma : M (List D)} {g : List D → R D} {n : Nat} (ha : SimA K cl E ta ma) : SimE K cl E (tCall (spM K cl g n) [] E ta) (mCall n g ma) := by
  intro zA F B H es σ Q r h
  refine ha _ F B H es σ _ r (Po.imp (Po.bnd h) fun ds es1 B1 H1 _ _ h1 vs r1 a => ?_)
  by_cases hn : ds.length = n
  · rw [if_pos hn] at h1
    show spM K cl g n (vs ++ []) H1 Q E
    rw [List.append_nil]
    refine ⟨ds, B1, hn, r1.bas, a, ?_⟩
    unfold Mi.lft at h1
    cases q : g ds with
    | ok d =>
      rw [q] at h1
      exact fun v B' H' s f sh sb av => h1 B' H' s (r1.frs f) v (r1.grow s sh sb f) av
    | exc c d =>
      rw [q] at h1
      exact Exk.call r1 h1
    | bad => rw [q] at h1; exact h1.elim
  · rw [if_neg hn] at h1
    exact h1.elim
theorem rel_start {B H : Hp} {N : List Str} {vs : List V} {ds : List D} (s : Bas cl B H) (a : AtL K cl B vs ds) (hl : ds.length ≤ N.length) : Rel K cl ⟨none, []⟩ (noT H) B H (ds.map Sl.dat ++ List.replicate (N.length - ds.length) .un) (L2.start N vs) where
  tab := s.tab
  nb := s.nb
  nf := noT_not H
  fl := s.fl
  bh := s.bh
  fh := noT_same H
  len := by
    unfold L2.start
    rw [List.length_append, List.length_append, List.length_map, List.length_map, List.length_replicate, List.length_replicate, a.len]
  dat := fun i d e => by
    by_cases hi : i < ds.length
    · rw [List.getElem?_append_left (by rw [List.length_map]; exact hi), List.getElem?_map] at e
      cases q : ds[i]? with
      | none => rw [q] at e; cases e
      | some d' =>
        rw [q] at e
        cases e
        obtain ⟨v, h1, h2⟩ := a.get q
        refine ⟨v, ?_, h2⟩
        unfold L2.start
        rw [List.getElem?_append_left (by rw [List.length_map, a.len]; exact hi), List.getElem?_map, h1]
        rfl
    · rw [List.getElem?_append_right (by rw [List.length_map]; omega)] at e
      have := List.mem_of_getElem? e
      have := List.eq_of_mem_replicate this
      cases this
  own := fun i l e => by
    by_cases hi : i < ds.length
    · rw [List.getElem?_append_left (by rw [List.length_map]; exact hi), List.getElem?_map] at e
      cases q : ds[i]? with
      | none => rw [q] at e; cases e
      | some d' => rw [q] at e; cases e
    · rw [List.getElem?_append_right (by rw [List.length_map]; omega)] at e
      have := List.mem_of_getElem? e
      have := List.eq_of_mem_replicate this
      cases this
  apart := fun i j l m p _ e => by
    by_cases hi : i < ds.length
    · rw [List.getElem?_append_left (by rw [List.length_map]; exact hi), List.getElem?_map] at e
      cases q : ds[i]? with
      | none => rw [q] at e; cases e
      | some d' => rw [q] at e; cases e
    · rw [List.getElem?_append_right (by rw [List.length_map]; omega)] at e
      have := List.mem_of_getElem? e
      have := List.eq_of_mem_replicate this
      cases this
  zero := fun p l e => by cases e
theorem fn_ok {P : Program} {w : World} {mg : Str → Option Value} {base : Heap} {x qual : Str} {st : Stmt} {f : Addr} {fd : FuncData} {N ps : List Str} {k : Nat} {m : M Out} (Fn : Fun K x qual st f fd) (S : FnScope N ps (defScope st))
    (hb : ∀ (cdv : Value) (A : Around) (outer : List Env) (s : Shared) (H : Hp) (E : XK), RoomG k (A.deeper (envOfC qual (defScope st) s.heap.objs.size f cdv)) →
      ∃ t, PSs (cxOf (L2.CX P w) P w K mg base N qual (defScope st) f cdv A outer s H E) (defBody st) t ∧ SimS K cl E t m) : FnG P w K mg base (L2.CX P w) (k + 1) f fd ps (spM K cl (fnM N.length m) ps.length) := by
  have hpl : ps.length ≤ N.length := by have := congrArg List.length S.pre; rw [List.length_take] at this; omega
  refine okG Fn S (fun vs H Q E h => ?_) (fun cdv A outer s H vs Q E hr h => ?_)
  · obtain ⟨ds, B, hl, _, a, _⟩ := h
    rw [a.len, hl]
  · obtain ⟨ds, B, hl, sB, a, h⟩ := h
    obtain ⟨t, ht, hs⟩ := hb cdv A outer s H E hr
    refine ⟨t, ht, hs _ (noT H) B H _ _ _ (rel_start sB a (by omega)) ?_⟩
    unfold fnM at h
    cases q : m (ds.map Sl.dat ++ List.replicate (N.length - ds.length) .un) with
    | ok p =>
      obtain ⟨o, es⟩ := p
      rw [q] at h
      cases o with
      | nx => exact fun B' H' s f σ' r' => h .non B' H' s f r'.fh r'.bas .non
      | rt d => exact fun B' H' s f v σ' r' av => h v B' H' s f r'.fh r'.bas av
      | bk => exact h.elim
      | ct => exact h.elim
    | exc c d => rw [q] at h; exact h
    | bad => rw [q] at h; exact h.elim
end
end Mi
namespace Mi
open PySem PySem.Spec PyProof.Rows L2
def hid (H : Hp) (p : Addr) : Hp := fun b => if b = p then none else H b
theorem hid_at {H : Hp} {p : Addr} : hid H p p = none := if_pos rfl
theorem hid_ne {H : Hp} {p b : Addr} (h : b ≠ p) : hid H p b = H b := if_neg h
theorem hid_some {H : Hp} {p b : Addr} {o : HO} (h : hid H p b = some o) : b ≠ p ∧ H b = some o := by
  unfold hid at h
  split at h
  · cases h
  · rename_i hb
    exact ⟨hb, h⟩
theorem tabs_hid {T : List (Addr × Str)} {H : Hp} {p : Addr} {ws : List V} (t : LamX.Tabs T H) (h : H p = some (.lst ws)) : LamX.Tabs T (hid H p) := fun q hq => by
  obtain ⟨ps, h1, h2, h3⟩ := t q hq
  refine ⟨ps, ?_, h2, fun pos cv e => ?_⟩
  · rw [hid_ne (fun z => by rw [z, h] at h1; cases h1)]
    exact h1
  · obtain ⟨c, e1, e2⟩ := h3 pos cv e
    exact ⟨c, e1, by rw [hid_ne (fun z => by rw [z, h] at e2; cases e2)]; exact e2⟩
def endsO (r : R (Out × En)) : R (D × List D) := match r with
  | .ok (o, es) => match ownAt 0 es with
    | some l => (match o with
      | .nx => .ok (.non, l)
      | .rt d => .ok (d, l)
      | _ => .bad)
    | none => .bad
  | .exc c d => .exc c d
  | .bad => .bad
def fnO (n : Nat) (m : M Out) (l : List D) (ds : List D) : R (D × List D) := endsO (m (Sl.own l :: (ds.map Sl.dat ++ List.replicate (n - 1 - ds.length) .un)))
def spO (K : PySem.W.Frag) (cl : CL) (g : List D → List D → R (D × List D)) (n : Nat) : Sp := fun vs H Q E => ∃ (p : Addr) (ws vs' : List V) (l ds : List D) (B : Hp), vs = .ref p :: vs' ∧ ds.length = n ∧ Bas cl B (hid H p) ∧ B p = none ∧ H p = some (.lst ws) ∧ AtL K cl B ws l ∧ AtL K cl B vs' ds ∧ match g l ds with
  | .ok (d, l') => ∀ (v : V) (B' H' : Hp) (ws' : List V), Same B B' → Frs B (noT (hid H p)) B' → Same (noT (hid H p)) H' → B' p = none → H' p = some (.lst ws') → AtL K cl B' ws' l' → Bas cl B' H' → At K cl B' v d → Q v H'
  | .exc c d => Exk K cl E (noT (hid H p)) B c d
  | .bad => False
def mCallO (i n : Nat) (g : List D → List D → R (D × List D)) (a : M (List D)) : M D := fun es => match ownAt i es with
  | some _ => Mi.bnd a (fun ds es1 => match ownAt i es1 with
    | some l => if ds.length = n then (match g l ds with
      | .ok (d, l') => .ok (d, es1.set i (.own l'))
      | .exc c d => .exc c d
      | .bad => .bad) else .bad
    | none => .bad) es
  | none => .bad
section
variable {K : PySem.W.Frag} {cl : CL} {E : XK}
theorem sim_callO {i n : Nat} {ta : TA} {ma : M (List D)} {g : List D → List D → R (D × List D)} (ha : SimA K cl E ta ma) : SimE K cl E (tCall (spO K cl g n) [] E (tCons (tVar i) ta)) (mCallO i n g ma) := by
  intro zA F B H es σ Q r h
  unfold mCallO at h
  cases e0 : ownAt i es with
  | none => rw [e0] at h; exact h.elim
  | some l0 =>
    rw [e0] at h
    obtain ⟨p, vs0, h1, h2, h3, h4, h5⟩ := r.own i l0 (own_at e0)
    refine ⟨.ref p, h1, ?_⟩
    refine ha _ F B H es σ _ r (Po.imp (Po.bnd h) fun ds es1 B1 H1 e1 f1 k vs r1 a => ?_)
    cases q : ownAt i es1 with
    | none => rw [q] at k; exact k.elim
    | some l =>
      rw [q] at k
      simp only at k
      by_cases hn : ds.length = n
      · rw [if_pos hn] at k
        obtain ⟨p', ws, g1, g2, g3, g4, g5⟩ := r1.own i l (own_at q)
        rw [h1] at g1
        cases g1
        show spO K cl g n ((.ref p :: vs) ++ []) H1 Q E
        rw [List.append_nil]
        refine ⟨p, ws, vs, l, ds, B1, rfl, hn, ⟨fun b o e => by rw [hid_ne (ne_of_none e g2)]; exact r1.bh _ _ e, r1.nb, tabs_hid r1.tab g4, r1.fl.trans (same_noT (fun b o e => by rw [hid_ne (ne_of_none e g3)]; exact r1.fh _ _ e) r1.nf)⟩, g2, g4, g5, a, ?_⟩
        have sF : Same F (noT (hid H1 p)) := same_noT (fun b o e => by
          rw [hid_ne (ne_of_none e g3)]
          exact r1.fh _ _ e) r1.nf
        have up : ∀ {B' : Hp}, Frs B1 (noT (hid H1 p)) B' → Frs B1 F B' := fun {B'} f x o e n => by
          have z := f x o e n
          exact sF.free z
        cases hg : g l ds with
        | ok pr =>
          obtain ⟨d, l'⟩ := pr
          rw [hg] at k
          intro v B' H' ws' s f sh np hp al sb av
          refine k B' H' s (up f) v ?_ av
          have hl : i < es1.length := (List.getElem?_eq_some_iff.mp (own_at q)).1
          refine ⟨sb.bh, sF.trans sh, by rw [List.length_set]; exact r1.len, fun j e hj => ?_, fun j m hj => ?_, fun a' b' l1 m1 q1 ne ha hb sa sb' => ?_, fun q1 l1 e1 z1 => ?_, sb.tab, sb.nb, r1.nf, r1.fl⟩
          · by_cases hij : i = j
            · subst hij
              rw [List.getElem?_set_self hl] at hj
              cases hj
            · rw [List.getElem?_set_ne hij] at hj
              obtain ⟨w, w1, w2⟩ := r1.dat j e hj
              exact ⟨w, w1, w2.up s⟩
          · by_cases hij : i = j
            · subst hij
              rw [List.getElem?_set_self hl] at hj
              cases hj
              exact ⟨p, ws', h1, np, g3, hp, al⟩
            · rw [List.getElem?_set_ne hij] at hj
              obtain ⟨q', ws2, w1, w2, w3, w4, w5⟩ := r1.own j m hj
              have nq : q' ≠ p := fun z => by
                subst z
                exact r1.apart i j _ _ _ hij (own_at q) hj h1 w1
              have hh : noT (hid H1 p) q' = some (.lst ws2) := noT_of (by rw [hid_ne nq]; exact w4) fun _ z => by cases z
              refine ⟨q', ws2, w1, ?_, w3, sh _ _ hh, w5.up s⟩
              cases z : B' q' with
              | none => rfl
              | some o =>
                have y := f q' o z w2
                rw [hh] at y
                cases y
          · have oa : ∃ l0 : List D, es1[a']? = some (.own l0) := by
              by_cases hia : i = a'
              · subst hia; exact ⟨l, own_at q⟩
              · rw [List.getElem?_set_ne hia] at ha; exact ⟨_, ha⟩
            have ob : ∃ l0 : List D, es1[b']? = some (.own l0) := by
              by_cases hib : i = b'
              · subst hib; exact ⟨l, own_at q⟩
              · rw [List.getElem?_set_ne hib] at hb; exact ⟨_, hb⟩
            obtain ⟨la, oa⟩ := oa
            obtain ⟨lb, ob⟩ := ob
            exact r1.apart a' b' la lb q1 ne oa ob sa sb'
          · by_cases h0 : i = 0
            · subst h0
              exact r1.zero q1 l e1 (own_at q)
            · rw [List.getElem?_set_ne h0] at z1
              exact r1.zero q1 l1 e1 z1
        | exc c d =>
          rw [hg] at k
          intro v dx B' H' s f sh sb n nb e av
          have nd : F dx = none := sF.free n
          exact k v dx B' H' s (up f) (sF.trans sh) sb nd nb e av
        | bad => rw [hg] at k; exact k.elim
      · rw [if_neg hn] at k
        exact k.elim
theorem relO_start {B H : Hp} {N : List Str} {p : Addr} {ws vs : List V} {l ds : List D} (s : Bas cl B (hid H p)) (nb : B p = none) (hp : H p = some (.lst ws)) (al : AtL K cl B ws l) (a : AtL K cl B vs ds) (hl : ds.length + 1 ≤ N.length) :
    Rel K cl ⟨some p, []⟩ (noT (hid H p)) B H (Sl.own l :: (ds.map Sl.dat ++ List.replicate (N.length - 1 - ds.length) .un)) (L2.start N (.ref p :: vs)) where
  tab := fun q hq => (s.tab q hq).ext fun b o e => (hid_some e).2
  nb := s.nb
  nf := noT_not _
  fl := s.fl
  bh := fun b o e => (hid_some (s.bh b o e)).2
  fh := fun b o e => (hid_some (noT_sub e)).2
  len := by
    unfold L2.start
    rw [List.length_cons, List.length_append, List.length_append, List.length_map, List.length_map, List.length_replicate, List.length_replicate, List.length_cons, a.len]
    omega
  dat := fun i d e => by
    cases i with
    | zero => cases e
    | succ i =>
      rw [List.getElem?_cons_succ] at e
      by_cases hi : i < ds.length
      · rw [List.getElem?_append_left (by rw [List.length_map]; exact hi), List.getElem?_map] at e
        cases q : ds[i]? with
        | none => rw [q] at e; cases e
        | some d' =>
          rw [q] at e
          cases e
          obtain ⟨v, h1, h2⟩ := a.get q
          refine ⟨v, ?_, h2⟩
          unfold L2.start
          rw [List.getElem?_append_left (by rw [List.length_map, List.length_cons, a.len]; omega), List.getElem?_map, List.getElem?_cons_succ, h1]
          rfl
      · rw [List.getElem?_append_right (by rw [List.length_map]; omega)] at e
        have := List.mem_of_getElem? e
        have := List.eq_of_mem_replicate this
        cases this
  own := fun i m e => by
    cases i with
    | zero =>
      cases e
      exact ⟨p, ws, rfl, nb, noT_none hid_at, hp, al⟩
    | succ i =>
      rw [List.getElem?_cons_succ] at e
      by_cases hi : i < ds.length
      · rw [List.getElem?_append_left (by rw [List.length_map]; exact hi), List.getElem?_map] at e
        cases q : ds[i]? with
        | none => rw [q] at e; cases e
        | some d' => rw [q] at e; cases e
      · rw [List.getElem?_append_right (by rw [List.length_map]; omega)] at e
        have := List.mem_of_getElem? e
        have := List.eq_of_mem_replicate this
        cases this
  apart := fun i j m1 m2 q ne ei ej _ _ => by
    have z : ∀ {i : Nat} {m : List D}, (Sl.own l :: (ds.map Sl.dat ++ List.replicate (N.length - 1 - ds.length) .un))[i]? = some (.own m) → i = 0 := fun {i m} e => by
      cases i with
      | zero => rfl
      | succ i =>
        rw [List.getElem?_cons_succ] at e
        by_cases hi : i < ds.length
        · rw [List.getElem?_append_left (by rw [List.length_map]; exact hi), List.getElem?_map] at e
          cases q : ds[i]? with
          | none => rw [q] at e; cases e
          | some d' => rw [q] at e; cases e
        · rw [List.getElem?_append_right (by rw [List.length_map]; omega)] at e
          have := List.mem_of_getElem? e
          have := List.eq_of_mem_replicate this
          cases this
    exact ne ((z ei).trans (z ej).symm)
  zero := fun q l' e z => by
    cases e
    rfl
theorem fnO_ok {P : Program} {w : World} {mg : Str → Option Value} {base : Heap} {x qual : Str} {st : Stmt} {f : Addr} {fd : FuncData} {N : List Str} {p0 : Str} {ps : List Str} {k : Nat} {m : M Out} (Fn : Fun K x qual st f fd) (S : FnScope N (p0 :: ps) (defScope st))
    (hb : ∀ (cdv : Value) (A : Around) (outer : List Env) (s : Shared) (H : Hp) (E : XK), RoomG k (A.deeper (envOfC qual (defScope st) s.heap.objs.size f cdv)) →
      ∃ t, PSs (cxOf (L2.CX P w) P w K mg base N qual (defScope st) f cdv A outer s H E) (defBody st) t ∧ SimS K cl E t m) : FnG P w K mg base (L2.CX P w) (k + 1) f fd (p0 :: ps) (spO K cl (fnO N.length m) ps.length) := by
  have hpl : ps.length + 1 ≤ N.length := by have := congrArg List.length S.pre; rw [List.length_take, List.length_cons] at this; omega
  refine okG Fn S (fun vs H Q E h => ?_) (fun cdv A outer s H vs Q E hr h => ?_)
  · obtain ⟨p, ws, vs', l, ds, B, rfl, hl, _, _, _, _, a, _⟩ := h
    rw [List.length_cons, List.length_cons, a.len, hl]
  · obtain ⟨p, ws, vs', l, ds, B, rfl, hl, sB, nb, hp, al, a, h⟩ := h
    obtain ⟨t, ht, hs⟩ := hb cdv A outer s H E hr
    refine ⟨t, ht, hs _ _ B H _ _ _ (relO_start sB nb hp al a (by omega)) ?_⟩
    have fin : ∀ {B' H' : Hp} {es' : En} {σ' : L2.St} {l' : List D}, Rel K cl ⟨some p, []⟩ (noT (hid H p)) B' H' es' σ' → ownAt 0 es' = some l' → ∃ ws', B' p = none ∧ H' p = some (.lst ws') ∧ AtL K cl B' ws' l' := fun r e => by
      obtain ⟨q, ws', h1, h2, h3, h4, h5⟩ := r.own 0 _ (own_at e)
      rw [r.zero p _ rfl (own_at e)] at h1
      cases h1
      exact ⟨ws', h2, h4, h5⟩
    unfold fnO endsO at h
    cases q : m (Sl.own l :: (ds.map Sl.dat ++ List.replicate (N.length - 1 - ds.length) .un)) with
    | ok pr =>
      obtain ⟨o, es⟩ := pr
      rw [q] at h
      simp only at h
      cases eo : ownAt 0 es with
      | none => rw [eo] at h; exact h.elim
      | some l' =>
        rw [eo] at h
        simp only at h
        cases o with
        | nx =>
          intro B' H' s f σ' r'
          obtain ⟨ws', a1, a2, a3⟩ := fin r' eo
          exact h .non B' H' ws' s f r'.fh a1 a2 a3 r'.bas .non
        | rt d =>
          intro B' H' s f v σ' r' av
          obtain ⟨ws', a1, a2, a3⟩ := fin r' eo
          exact h v B' H' ws' s f r'.fh a1 a2 a3 r'.bas av
        | bk => exact h.elim
        | ct => exact h.elim
    | exc c d => rw [q] at h; exact h
    | bad => rw [q] at h; exact h.elim
end
end Mi
namespace Mi
open PySem PySem.Spec PyProof.Rows L2
structure XE (X : Cx) (cl : CL) (E : XK) (e : Expr) (t : TE) (m : M D) : Prop where
  p : PE X e t
  s : SimE X.K cl E t m
structure XT (X : Cx) (cl : CL) (E : XK) (e : Expr) (t : TT) (m : M Bool) : Prop where
  p : PT X e t
  s : SimT X.K cl E t m
structure XW (X : Cx) (cl : CL) (E : XK) (e : Expr) (t : TT) (m : M Bool) : Prop where
  p : PW X e t
  s : SimT X.K cl E t m
structure XA (X : Cx) (cl : CL) (E : XK) (es : List Expr) (t : TA) (m : M (List D)) : Prop where
  p : PA X es t
  s : SimA X.K cl E t m
structure XO (X : Cx) (cl : CL) (E : XK) (e : Option Expr) (t : TO) (m : M (Option Int)) : Prop where
  p : PO X e t
  s : SimO X.K cl E t m
structure XS (X : Cx) (cl : CL) (E : XK) (st : Stmt) (t : TS) (m : M Out) : Prop where
  p : PS X st t
  s : SimS X.K cl E t m
structure XB (X : Cx) (cl : CL) (E : XK) (st : List Stmt) (t : TS) (m : M Out) : Prop where
  p : PSs X st t
  s : SimS X.K cl E t m
structure XI (X : Cx) (cl : CL) (E : XK) (tg it : Expr) (t : TI) (m : M (List D)) : Prop where
  p : PI X tg it t
  s : SimI X.K cl E t m
structure XG (X : Cx) (cl : CL) (tg : Expr) (is : List Nat) (g : TG) (b : D → M Unit) : Prop where
  p : PG X tg g
  s : SimG X.K cl is g b
  n : ∀ x es c d, b x es ≠ .exc c d
structure XGs (X : Cx) (cl : CL) (tg : List Expr) (is : List Nat) (g : TGs) : Prop where
  p : PGs X tg g
  s : SimGs X.K cl is g (bNames is)
section
variable {X : Cx} {cl : CL} {E : XK} {a b c e o : Expr} {es rest : List Expr} {ta tb tc te to : TE} {ma mb mc me mo : M D} {tA tB tC' : TT} {mA mB mC' : M Bool} {t u : TA} {ml : M (List D)} {pos : Pos}
theorem x_var (i : Nat) {x : Str} (hN : X.N[i]? = some x := by rfl) (hv : Vis X.env.scope x := by first | exact Or.inl rfl | exact Or.inr (Or.inl rfl) | exact Or.inr (Or.inr rfl)) (hd : (x == ("__debug__" : Str)) = false := by decide)
    (hcd : (x == ("__classdict__" : Str)) = false := by decide) : XE X cl E (.Name x pos) (tVar i) (mVar i) := ⟨pe_var hN hv hd hcd, sim_var⟩
theorem x_int {i : Int} {j : Nat} : XE X cl E (.Constant (.int i) j pos) (tC (.int i)) (mC (.int i)) := ⟨pe_int, sim_c fun _ => .int i⟩
theorem x_bl {i : Bool} {j : Nat} : XE X cl E (.Constant (.bool i) j pos) (tC (.bl i)) (mC (.bl i)) := ⟨pe_bl, sim_c fun _ => .bl i⟩
theorem x_non {j : Nat} : XE X cl E (.Constant .none j pos) (tC .non) (mC .non) := ⟨pe_non, sim_c fun _ => .non⟩
theorem x_str {s : Str} {j : Nat} : XE X cl E (.Constant (.str s) j pos) (tC (.str s)) (mC (.str s)) := ⟨pe_str, sim_c fun _ => .str s⟩
theorem x_gI {x : Str} {i : Int} (hm : ∃ tk, X.mg x = some (.int i tk)) (hg : Gl X x := by rfl) (hd : (x == ("__debug__" : Str)) = false := by decide) : XE X cl E (.Name x pos) (tC (.int i)) (mC (.int i)) := by
  obtain ⟨tk, hm⟩ := hm
  exact ⟨pe_glob hg hm ⟨tk, rfl⟩ hd, sim_c fun _ => .int i⟩
theorem x_gS {x : Str} {s : Str} (hm : ∃ tk, X.mg x = some (.str s tk)) (hg : Gl X x := by rfl) (hd : (x == ("__debug__" : Str)) = false := by decide) : XE X cl E (.Name x pos) (tC (.str s)) (mC (.str s)) := by
  obtain ⟨tk, hm⟩ := hm
  exact ⟨pe_glob hg hm ⟨tk, rfl⟩ hd, sim_c fun _ => .str s⟩
theorem x_bin {op : Operator} {r : R2} {f : D → D → Option D} (ho : OpR X (binaryOp op) r) (hs : SimR2 X.K cl r f) (ha : XE X cl E a ta ma) (hb : XE X cl E b tb mb) : XE X cl E (.BinOp a op b pos) (tOp r ta tb) (mBin f ma mb) := ⟨pe_op ho ha.p hb.p, sim_bin ha.s hb.s hs⟩
theorem x_un {op : UnaryOp} {r : V → Hp → VK → Prop} {f : D → Option D} (ho : UnR X (unaryOp op) r) (hs : SimR1 X.K cl r f) (ha : XE X cl E a ta ma) : XE X cl E (.UnaryOp op a pos) (tUn r ta) (mUn f ma) := ⟨pe_un ho ha.p, sim_un ha.s hs⟩
theorem x_cmp {op : CmpOp} {r : R2} {f : D → D → Option D} (ho : OpR X (compareOp op) r) (hs : SimR2 X.K cl r f) (ha : XE X cl E a ta ma) (hb : XE X cl E b tb mb) (hm : behindInMarks op b = false := by first | exact nomark _ | rfl) :
    XE X cl E (.Compare a [op] [b] pos) (tOp r ta tb) (mBin f ma mb) := ⟨pe_cmpR ho ha.p hb.p hm, sim_bin ha.s hb.s hs⟩
theorem xt_cmp {op : CmpOp} {r : R2} {f : D → D → Option D} (ho : OpR X (compareOp op) r) (hs : SimR2 X.K cl r f) (ha : XE X cl E a ta ma) (hb : XE X cl E b tb mb) (hm : behindInMarks op b = false := by first | exact nomark _ | rfl) :
    XT X cl E (.Compare a [op] [b] pos) (tTest (tOp r ta tb)) (mTst (mBin f ma mb)) := ⟨pt_cmpR ho ha.p hb.p hm, sim_tst (sim_bin ha.s hb.s hs)⟩
theorem x_chn {op op' : CmpOp} {r r' : R2} {f g : D → D → Option D} (ho : OpR X (compareOp op) r) (hs : SimR2 X.K cl r f) (ho' : OpR X (compareOp op') r') (hs' : SimR2 X.K cl r' g) (ha : XE X cl E a ta ma) (hb : XE X cl E b tb mb) (hc : XE X cl E c tc mc)
    (hm : lastMarks [op, op'] [b, c] = false := by with_unfolding_all rfl) : XE X cl E (.Compare a [op, op'] [b, c] pos) (tChain r r' ta tb tc) (mChn f g ma mb mc) := ⟨pe_chain ho ho' ha.p hb.p hc.p hm, sim_chn ha.s hb.s hc.s hs hs'⟩
theorem xt_chn {op op' : CmpOp} {r r' : R2} {f g : D → D → Option D} (ho : OpR X (compareOp op) r) (hs : SimR2 X.K cl r f) (ho' : OpR X (compareOp op') r') (hs' : SimR2 X.K cl r' g) (ha : XE X cl E a ta ma) (hb : XE X cl E b tb mb) (hc : XE X cl E c tc mc)
    (hm : lastMarks [op, op'] [b, c] = false := by with_unfolding_all rfl) : XT X cl E (.Compare a [op, op'] [b, c] pos) (tTest (tChain r r' ta tb tc)) (mTst (mChn f g ma mb mc)) := ⟨pt_chain ho ho' ha.p hb.p hc.p hm, sim_tst (sim_chn ha.s hb.s hc.s hs hs')⟩
theorem x_one {op : BoolOp} (ha : XE X cl E a ta ma) : XE X cl E (.BoolOp op [a] pos) ta ma := ⟨pe_one ha.p, ha.s⟩
theorem x_and (ha : XE X cl E a ta ma) (hb : XE X cl E (.BoolOp .And (b :: rest) pos) tb mb) : XE X cl E (.BoolOp .And (a :: b :: rest) pos) (tAndV ta tb) (mAnd ma mb) := ⟨pe_and ha.p hb.p, sim_and ha.s hb.s⟩
theorem x_or (ha : XE X cl E a ta ma) (hb : XE X cl E (.BoolOp .Or (b :: rest) pos) tb mb) : XE X cl E (.BoolOp .Or (a :: b :: rest) pos) (tOrV ta tb) (mOr ma mb) := ⟨pe_or ha.p hb.p, sim_or ha.s hb.s⟩
theorem x_not (ha : XE X cl E a ta ma) : XE X cl E (.UnaryOp .Not a pos) (tNotV ta) (mNot ma) := ⟨pe_not ha.p, sim_not ha.s⟩
theorem x_ife (hc : XT X cl E c tA mA) (ha : XE X cl E a ta ma) (hb : XE X cl E b tb mb) : XE X cl E (.IfExp c a b pos) (tIf tA ta tb) (mIfE mA ma mb) := ⟨pe_ifExp hc.p ha.p hb.p, sim_ifE hc.s ha.s hb.s⟩
theorem xt_tru (ha : XE X cl E a ta ma) (he : ∀ whole, isTrue a X.env whole = (do let v ← whole; standAt a.pos; holding [v] (truthy v)) := by intro _; rfl) :
    XT X cl E a (fun σ H Q => ta σ H fun x H' => ∃ k, TruV X.K x H' k ∧ Q k H') (mTru ma) := ⟨pt_truth ha.p he, sim_tru ha.s⟩
theorem xt_not (ha : XT X cl E a tA mA) : XT X cl E (.UnaryOp .Not a pos) (tNot tA) (mNotT mA) := ⟨pt_not ha.p, sim_notT ha.s⟩
theorem xt_w (h : XW X cl E a tA mA) : XT X cl E a tA mA := ⟨h.p.pt, h.s⟩
theorem xw_and1 (ha : XT X cl E a tA mA) : XW X cl E (.BoolOp .And [a] pos) tA mA := ⟨pw_and1 ha.p, ha.s⟩
theorem xw_or1 (ha : XT X cl E a tA mA) : XW X cl E (.BoolOp .Or [a] pos) tA mA := ⟨pw_or1 ha.p, ha.s⟩
theorem xw_and (ha : XT X cl E a tA mA) (hb : XW X cl E (.BoolOp .And (b :: rest) pos) tB mB) : XW X cl E (.BoolOp .And (a :: b :: rest) pos) (tAnd tA tB) (mAndT mA mB) := ⟨pw_and ha.p hb.p, sim_andT ha.s hb.s⟩
theorem xw_or (ha : XT X cl E a tA mA) (hb : XW X cl E (.BoolOp .Or (b :: rest) pos) tB mB) : XW X cl E (.BoolOp .Or (a :: b :: rest) pos) (tOr tA tB) (mOrT mA mB) := ⟨pw_or ha.p hb.p, sim_orT ha.s hb.s⟩
theorem xa_nil : XA X cl E [] tNil mNil := ⟨pa_nil, sim_nil⟩
theorem xa_cons (ha : XE X cl E e te me) (hr : XA X cl E es t ml) (hs : starEach (e :: es) X.env = (false, eval e X.env) :: starEach es X.env := by rfl) : XA X cl E (e :: es) (tCons te t) (mCons me ml) := ⟨pa_cons ha.p hr.p hs, sim_cons ha.s hr.s⟩
theorem x_tup {k : Nat} (h : XA X cl E es t ml) : XE X cl E (.Tuple es k pos) (tTup t) (mTup ml) := ⟨pe_tup h.p, sim_tup h.s⟩
theorem x_lst (h : XA X cl E es t ml) : XE X cl E (.List es pos) (tLst t) (mLst ml) := ⟨pe_lst h.p, sim_lst h.s⟩
theorem x_ix (ha : XE X cl E a ta ma) (hb : XE X cl E b tb mb) (hs : PlainIx b := by exact fun _ _ => rfl) : XE X cl E (.Subscript a b pos) (tOp (rIx X.K) ta tb) (mBin dIx ma mb) := ⟨pe_ix ix_seq ha.p hb.p hs, sim_bin ha.s hb.s sim_ix⟩
theorem x_ixO (i : Nat) {x : Str} {p : Pos} (hb : XE X cl E b tb mb) (hs : PlainIx b := by exact fun _ _ => rfl) (hN : X.N[i]? = some x := by rfl) (hv : Vis X.env.scope x := by first | exact Or.inl rfl | exact Or.inr (Or.inl rfl) | exact Or.inr (Or.inr rfl)) (hd : (x == ("__debug__" : Str)) = false := by decide)
    (hcd : (x == ("__classdict__" : Str)) = false := by decide) : XE X cl E (.Subscript (.Name x p) b pos) (tOp (rIx X.K) (tVar i) tb) (mIxO i mb) := ⟨pe_ix ix_seq (pe_var hN hv hd hcd) hb.p hs, sim_ixO hb.s⟩
theorem xo_none : XO X cl E none tNoPart mNo := ⟨po_none, sim_no⟩
theorem xo_some (h : XE X cl E e te me) : XO X cl E (some e) (tPart te) (mPart me) := ⟨po_some h.p, sim_part h.s⟩
theorem x_slice {lo hi : Option Expr} {tl th : TO} {nl nh : M (Option Int)} {p2 : Pos} (ha : XE X cl E a ta ma) (hl : XO X cl E lo tl nl) (hu : XO X cl E hi th nh) : XE X cl E (.Subscript a (.Slice lo hi none p2) pos) (tSl (rSlD X.K) ta tl th) (mSl dSl ma nl nh) :=
  ⟨pe_slice sl_D ha.p hl.p hu.p, sim_sl ha.s hl.s hu.s sim_slice⟩
def mRev (m : M D) : M D := Mi.bnd m fun d => Mi.opt (dRev d)
theorem x_rev {k : Nat} {p1 p2 p3 : Pos} (ha : XE X cl E a ta ma) : XE X cl E (.Subscript a (.Slice none none (some (.UnaryOp .USub (.Constant (.int 1) k p1) p2)) p3) pos) (tRevL X.K ta) (mRev ma) := by
  refine ⟨pe_revL ha.p, ?_⟩
  intro zA F B H es σ Q r h
  refine ha.s _ F B H es σ _ r (Po.imp (Po.bnd h) fun d es1 B1 H1 _ _ h1 v r1 a => ?_)
  obtain ⟨x, hx, hk⟩ := Po.opt h1
  cases a with
  | lst g1 g2 =>
    cases hx
    exact ⟨_, _, rfl, .inl (.inl (r1.bh _ _ g1)), fun p n => FinE.lst (fun v B' H' s f r' a' => hk B' H' s f v r' a') r1 n g2.rev⟩
  | _ => cases hx
structure Fact (P : Program) (w : World) (K : PySem.W.Frag) (mg : Str → Option Value) (base : Heap) (x : Str) (k : Nat) (ps : List Str) (sp : Sp) : Prop where
  ex : ∃ (f : Addr) (fd : FuncData), FnG P w K mg base (L2.CX P w) k f fd ps sp ∧ mg x = some (.ref f) ∧ PySem.W.keepIn K (.ref f) = true ∧ Binds K fd ps []
theorem x_call {x : Str} {p : Pos} {k n : Nat} {ps : List Str} {g : List D → R D} (T : Fact X.prog X.w X.K X.mg X.base x k ps (spM X.K cl g n)) (hr : RoomG k X.A) (hx : Passes (L2.CX X.prog X.w) X E) (ha : XA X cl E (e :: es) t ml) (hg : Gl X x := by rfl) (hdb : (x == ("__debug__" : Str)) = false := by decide)
    (he : starEach (e :: es) X.env = (false, eval e X.env) :: starEach es X.env := by rfl) (hpl : (backTo pos (starEach es X.env)).any (·.1) = false := by rfl) :
    XE X cl E (.Call (.Name x p) (e :: es) [] pos) (tCall (spM X.K cl g n) [] E t) (mCall n g ml) := by
  obtain ⟨f, fd, G, hm, hk, hb⟩ := T.ex
  exact ⟨pe_callG G hr hg hm hk hb .nil hx ha.p hdb he hpl, sim_call ha.s⟩
theorem x_callO {x y : Str} {p py : Pos} {k n : Nat} {ps : List Str} {g : List D → List D → R (D × List D)} (i : Nat) (T : Fact X.prog X.w X.K X.mg X.base x k ps (spO X.K cl g n)) (hr : RoomG k X.A) (hx : Passes (L2.CX X.prog X.w) X E) (ha : XA X cl E es t ml) (hg : Gl X x := by rfl)
    (hN : X.N[i]? = some y := by rfl) (hv : Vis X.env.scope y := by first | exact Or.inl rfl | exact Or.inr (Or.inl rfl) | exact Or.inr (Or.inr rfl)) (hd : (y == ("__debug__" : Str)) = false := by decide) (hcd : (y == ("__classdict__" : Str)) = false := by decide) (hdb : (x == ("__debug__" : Str)) = false := by decide)
    (hs : starEach (.Name y py :: es) X.env = (false, eval (.Name y py) X.env) :: starEach es X.env := by rfl) (hpl : (backTo pos (starEach es X.env)).any (·.1) = false := by rfl) :
    XE X cl E (.Call (.Name x p) (.Name y py :: es) [] pos) (tCall (spO X.K cl g n) [] E (tCons (tVar i) t)) (mCallO i n g ml) := by
  obtain ⟨f, fd, G, hm, hk, hb⟩ := T.ex
  exact ⟨pe_callG G hr hg hm hk hb .nil hx (pa_cons (pe_var hN hv hd hcd) ha.p hs) hdb hs hpl, sim_callO ha.s⟩
theorem x_cb {x : Str} {p : Pos} {id : String} {r : List V → Hp → VK → Prop} {f : List D → Option D} (hc : CallR X (.builtin id) r) (hs : SimC X.K cl r f) (hm : X.mg x = none) (hv : bootBuiltins x = some (.builtin id)) (ha : XA X cl E (e :: es) t ml) (hg : Gl X x := by rfl) (hn : x ≠ "__name__" := by decide) (hdb : (x == ("__debug__" : Str)) = false := by decide)
    (he : starEach (e :: es) X.env = (false, eval e X.env) :: starEach es X.env := by rfl) (hpl : (backTo pos (starEach es X.env)).any (·.1) = false := by rfl) : XE X cl E (.Call (.Name x p) (e :: es) [] pos) (tCB r t) (mCB f ml) :=
  ⟨pe_callB hc hg hm hv ha.p hn hdb he hpl, sim_cb ha.s hs⟩
theorem x_ct {x : Str} {p : Pos} {T : String} {r : List V → Hp → VK → Prop} {f : List D → Option D} (hc : CallR X (.type T) r) (hs : SimC X.K cl r f) (hm : X.mg x = none) (hv : bootBuiltins x = some (.type T)) (ha : XA X cl E (e :: es) t ml) (hg : Gl X x := by rfl) (hn : x ≠ "__name__" := by decide) (hdb : (x == ("__debug__" : Str)) = false := by decide)
    (he : starEach (e :: es) X.env = (false, eval e X.env) :: starEach es X.env := by rfl) (hpl : (backTo pos (starEach es X.env)).any (·.1) = false := by rfl) : XE X cl E (.Call (.Name x p) (e :: es) [] pos) (tCB r t) (mCB f ml) :=
  ⟨pe_callTy hc hg hm hv ha.p hn hdb he hpl, sim_cb ha.s hs⟩
theorem x_isa {x : Str} {p p2 : Pos} (T : Ty) (ha : XE X cl E e te me) (mi : X.mg "isinstance" = none) (mt : X.mg x = none) (hv : bootBuiltins x = some (.type T.nm)) (hg : Gl X "isinstance" := by rfl) (hgx : Gl X x := by rfl) (hn : x ≠ "__name__" := by decide) (hdb : (x == ("__debug__" : Str)) = false := by decide)
    (h1 : starEach [e, .Name x p2] X.env = (false, eval e X.env) :: starEach [.Name x p2] X.env := by rfl) (h2 : starEach [.Name x p2] X.env = (false, eval (.Name x p2) X.env) :: starEach [] X.env := by rfl) (hpl : (backTo pos (starEach [.Name x p2] X.env)).any (·.1) = false := by rfl) :
    XE X cl E (.Call (.Name "isinstance" p) [e, .Name x p2] [] pos) (tCB (rIsi X.K) (tCons te (tCons (tC (.ty T.nm)) tNil))) (mIsa T me) :=
  ⟨pe_callB call_isi hg mi boot_isinstance (pa_cons ha.p (pa_cons (pe_bltn hgx mt hv rfl hn hdb) pa_nil h2) h1) (by decide) (by decide) h1 hpl, sim_isa ha.s⟩
theorem x_isa2 {x y : Str} {p p2 p3 p4 : Pos} {k : Nat} (T U : Ty) (ha : XE X cl E e te me) (mi : X.mg "isinstance" = none) (mt : X.mg x = none) (hv : bootBuiltins x = some (.type T.nm)) (mu : X.mg y = none) (hw : bootBuiltins y = some (.type U.nm))
    (hg : Gl X "isinstance" := by rfl) (hgx : Gl X x := by rfl) (hgy : Gl X y := by rfl) (hn : x ≠ "__name__" := by decide) (hdb : (x == ("__debug__" : Str)) = false := by decide) (hn' : y ≠ "__name__" := by decide) (hdb' : (y == ("__debug__" : Str)) = false := by decide)
    (h1 : starEach [e, .Tuple [.Name x p2, .Name y p3] k p4] X.env = (false, eval e X.env) :: starEach [.Tuple [.Name x p2, .Name y p3] k p4] X.env := by rfl)
    (h2 : starEach [.Tuple [.Name x p2, .Name y p3] k p4] X.env = (false, eval (.Tuple [.Name x p2, .Name y p3] k p4) X.env) :: starEach [] X.env := by rfl) (hpl : (backTo pos (starEach [.Tuple [.Name x p2, .Name y p3] k p4] X.env)).any (·.1) = false := by rfl)
    (h3 : starEach [.Name x p2, .Name y p3] X.env = (false, eval (.Name x p2) X.env) :: starEach [.Name y p3] X.env := by rfl) (h4 : starEach [.Name y p3] X.env = (false, eval (.Name y p3) X.env) :: starEach [] X.env := by rfl) :
    XE X cl E (.Call (.Name "isinstance" p) [e, .Tuple [.Name x p2, .Name y p3] k p4] [] pos) (tCB (rIsiT X.K) (tCons te (tCons (tTup (tCons (tC (.ty T.nm)) (tCons (tC (.ty U.nm)) tNil))) tNil))) (mIsa2 T U me) :=
  ⟨pe_callB call_isiT hg mi boot_isinstance (pa_cons ha.p (pa_cons (pe_tup (pa_cons (pe_bltn hgx mt hv rfl hn hdb) (pa_cons (pe_bltn hgy mu hw rfl hn' hdb') pa_nil h4) h3)) pa_nil h2) h1) (by decide) (by decide) h1 hpl, sim_isa2 ha.s⟩
theorem x_split {apos : Pos} (ho : XE X cl E o to mo) (he : XE X cl E e te me) (hs : starEach [e] X.env = [(false, eval e X.env)] := by rfl) (hbase : attributeBase o "split" X.env (eval o X.env) = eval o X.env := by rfl) (hline : (apos.endLine == pos.line) = true := by rfl) :
    XE X cl E (.Call (.Attribute o "split" apos) [e] [] pos) (tM1 (fun x xs H Q => ∃ a b, x = .str a ∧ xs = [.str b] ∧ (b.length == 0) = false ∧ a.length + 2 ≤ sizeLine ∧ rNewStrs (Txt.split a b) H Q) to te) (mM1 dSplit mo me) := ⟨pe_split ho.p he.p hs hbase hline, sim_m1 ho.s he.s sim_split⟩
theorem x_part {apos : Pos} (ho : XE X cl E o to mo) (he : XE X cl E e te me) (hs : starEach [e] X.env = [(false, eval e X.env)] := by rfl) (hbase : attributeBase o "partition" X.env (eval o X.env) = eval o X.env := by rfl) (hline : (apos.endLine == pos.line) = true := by rfl) :
    XE X cl E (.Call (.Attribute o "partition" apos) [e] [] pos) (tM1 (fun x xs H Q => ∃ a b, x = .str a ∧ xs = [.str b] ∧ (b.length == 0) = false ∧ a.length ≤ sizeLine ∧
      ∀ p, H p = none → Q (.ref p) (upd H p (.tup [.str (Txt.partition a b).1, .str (Txt.partition a b).2.1, .str (Txt.partition a b).2.2]))) to te) (mM1 dPart mo me) := ⟨pe_partition ho.p he.p hs hbase hline, sim_m1 ho.s he.s sim_part1⟩
theorem x_join {apos : Pos} (ho : XE X cl E o to mo) (he : XE X cl E e te me) (hs : starEach [e] X.env = [(false, eval e X.env)] := by rfl) (hbase : attributeBase o "join" X.env (eval o X.env) = eval o X.env := by rfl) (hline : (apos.endLine == pos.line) = true := by rfl) :
    XE X cl E (.Call (.Attribute o "join" apos) [e] [] pos) (tM1 (fun x xs H Q => ∃ a p, ∃ ys : List Str, x = .str a ∧ xs = [.ref p] ∧ (SqL X.K H p (ys.map V.str) ∨ SqT X.K H p (ys.map V.str)) ∧
      (ys.map (·.length)).sum + ys.length * a.length ≤ 16777216 ∧ Q (.str (Txt.join a ys)) H) to te) (mM1 dJoin mo me) := ⟨pe_join ho.p he.p hs hbase hline, sim_m1 ho.s he.s sim_join⟩
def rRpart : V → List V → Hp → VK → Prop := fun x xs H Q => ∃ a b, x = .str a ∧ xs = [.str b] ∧ (b.length == 0) = false ∧ a.length ≤ sizeLine ∧
      ∀ p, H p = none → Q (.ref p) (upd H p (.tup [.str (Txt.rpartition a b).1, .str (Txt.rpartition a b).2.1, .str (Txt.rpartition a b).2.2]))
theorem mt_rpart : MtR X "str.rpartition" rRpart := by
  intro pins s σ H x xs v us Q I rx rs h
  obtain ⟨a, b, rfl, rfl, hb, hz, h⟩ := h
  obtain ⟨tk, rfl⟩ := rx
  cases rs with
  | cons r1 rs =>
    cases rs
    obtain ⟨u, rfl⟩ := r1
    refine call_meets F.slot_str_rpartition (typeIs_str _ _ _) F.entry_str_rpartition (F.args_str_rpartition_2 _ _) (meets_str_rpartition a b tk u hb hz) ?_
    unfold Txt.rpartition at h
    revert h
    cases Builtin.Str.lastOccurrence a b 0 a.length with
    | none => intro h; exact laid_parts I h
    | some i => intro h; exact laid_parts I h
theorem sim_rpart {K : PySem.W.Frag} : SimM1 K cl rRpart dRpart := by
  intro zA F B H es σ s y dy d Q r a hd q
  cases a with
  | str b =>
    obtain ⟨hz, rfl⟩ := okB_ok hd
    have hz := of_decide_eq_true hz
    refine ⟨s, b, rfl, rfl, hz.1, hz.2, fun p n => ?_⟩
    exact q.tup r n (.cons (.str _) (.cons (.str _) (.cons (.str _) .nil)))
  | _ => cases hd
theorem x_rpart {apos : Pos} (ho : XE X cl E o to mo) (he : XE X cl E e te me) (hs : starEach [e] X.env = [(false, eval e X.env)] := by rfl) (hbase : attributeBase o "rpartition" X.env (eval o X.env) = eval o X.env := by rfl) (hline : (apos.endLine == pos.line) = true := by rfl) :
    XE X cl E (.Call (.Attribute o "rpartition" apos) [e] [] pos) (tM1 rRpart to te) (mM1 dRpart mo me) := ⟨pe_m1 F.slot_str_rpartition F.type_str_rpartition mt_rpart ho.p he.p hs hbase hline, sim_m1 ho.s he.s sim_rpart⟩
theorem x_app (i : Nat) {x : Str} {apos p : Pos} (he : XE X cl E e te me) (hN : X.N[i]? = some x := by rfl) (hv : Vis X.env.scope x := by first | exact Or.inl rfl | exact Or.inr (Or.inl rfl) | exact Or.inr (Or.inr rfl)) (hd : (x == ("__debug__" : Str)) = false := by decide) (hcd : (x == ("__classdict__" : Str)) = false := by decide)
    (hs : starEach [e] X.env = (false, eval e X.env) :: starEach [] X.env := by rfl)
    (hbase : attributeBase (.Name x p) "append" X.env (eval (.Name x p) X.env) = eval (.Name x p) X.env := by rfl)
    (hfew : ((backTo pos (starEach (e :: []) X.env)).all (fun x => !x.1) && (backToKw pos (keywordEach [] X.env)).all (fun x => x.1.isSome)
      && decide ((e :: []).length + ([] : List Keyword).length + (if ([] : List Keyword).isEmpty then 0 else 1) < 30)) = true := by rfl)
    (hline : (apos.endLine == pos.line) = true := by rfl) (hplain : (backTo pos (starEach [] X.env)).any (·.1) = false := by rfl) :
    XE X cl E (.Call (.Attribute (.Name x p) "append" apos) [e] [] pos) (tBM X.K "list" rAppend (tVar i) (tCons te tNil)) (mApp i me) :=
  ⟨pe_bm PySem.F.plainAttrs_list PySem.F.slot_list_append PySem.F.type_list_append mt_append (pe_var hN hv hd hcd) (pa_cons he.p pa_nil hs) hbase hfew hline hs hplain, sim_app he.s⟩
inductive XJ (X : Cx) (cl : CL) (E : XK) : List Expr → List TE → List (M D) → Prop
  | nil : XJ X cl E [] [] []
  | cons {e : Expr} {t : TE} {m : M D} {es : List Expr} {ts : List TE} {ms : List (M D)} : XE X cl E e t m → XJ X cl E es ts ms → XJ X cl E (e :: es) (t :: ts) (m :: ms)
theorem XJ.both {es : List Expr} {ts : List TE} {ms : List (M D)} (h : XJ X cl E es ts ms) : PJ X es ts ∧ SimJ X.K cl E ts ms := by
  induction h with
  | nil => exact ⟨.nil, .nil⟩
  | cons h _ ih => exact ⟨.cons h.p ih.1, .cons h.s ih.2⟩
theorem x_fs {v1 v2 : Expr} {ts : List TE} {ms : List (M D)} (h : XJ X cl E (v1 :: v2 :: rest) ts ms) : XE X cl E (.JoinedStr (v1 :: v2 :: rest) pos) (fun σ H Q => tJs ts Str.empty σ H fun out H1 => Q (.str out) H1) (mFs ms) := ⟨pe_joined h.both.1, sim_fs h.both.2⟩
theorem x_fs1 (h : XE X cl E e te me) : XE X cl E (.JoinedStr [e] pos) te me := ⟨pe_joined1 h.p, h.s⟩
theorem x_fmt (h : XE X cl E e te me) : XE X cl E (.FormattedValue e (-1) none pos) (tFmt te) (mFmt me) := ⟨pe_fmt h.p, sim_fmt h.s⟩
end
section
variable {X : Cx} {cl : CL} {E : XK} {a b c e o tg it : Expr} {es : List Expr} {st : Stmt} {sts rest : List Stmt} {ta tb tc te : TE} {ma mb mc me : M D} {tA : TT} {mA : M Bool} {ts us : TS} {ms ns : M Out} {t : TA} {ml : M (List D)} {pos : Pos}
theorem xb_nil : XB X cl E [] tNext mNext := ⟨pss_nil, sim_next⟩
theorem xb_one (h : XS X cl E st ts ms) : XB X cl E [st] ts ms := ⟨pss_one h.p, h.s⟩
theorem xb_cons (h : XS X cl E st ts ms) (hr : XB X cl E rest us ns) : XB X cl E (st :: rest) (tSeq ts us) (mSeq ms ns) := ⟨pss_cons h.p hr.p, sim_seq h.s hr.s⟩
theorem xg_name (i : Nat) {x : Str} (hN : X.N.Nodup) (hi : X.N[i]? = some x := by rfl) (hx : Loc X.env.scope x := by first | exact Or.inl rfl | exact Or.inr rfl) (hf : X.fn x = true ∨ X.env.scope.names.lookup x = some .local := by first | exact .inl rfl | exact .inr rfl | assumption) : XG X cl (.Name x pos) [i] (gName i) (bName i) :=
  ⟨pg_name hN hi hx hf, sim_gname, fun _ _ _ _ h => by cases h⟩
theorem xgs_nil : XGs X cl [] [] gNil := ⟨pgs_nil, sim_gnil⟩
theorem xgs_cons (i : Nat) {x : Str} {is : List Nat} {g : TGs} {p : Pos} (hN : X.N.Nodup) (h2 : XGs X cl es is g) (hi : X.N[i]? = some x := by rfl) (hx : Loc X.env.scope x := by first | exact Or.inl rfl | exact Or.inr rfl) (hf : X.fn x = true ∨ X.env.scope.names.lookup x = some .local := by first | exact .inl rfl | exact .inr rfl | assumption)
    (hs : (assignEach (.Name x p :: es) X.env).map (·.2) = assign (.Name x p) X.env :: (assignEach es X.env).map (·.2) := by rfl) : XGs X cl (.Name x p :: es) (i :: is) (gCons (gName i) g) := ⟨pgs_cons (pg_name hN hi hx hf) h2.p hs, sim_gcons h2.s⟩
theorem xg_tup {k n : Nat} {is : List Nat} {g : TGs} (hc : X.calm = true) (h : XGs X cl es is g) (hl : is.length = n) (hn : (assignEach es X.env).length = n := by rfl) (hst : (assignEach es X.env).findIdx? (·.1) = none := by rfl) : XG X cl (.Tuple es k pos) is (gTup X.K n g) (bTup is) :=
  ⟨pg_tup hc h.p hn hst, sim_gtup hl h.s, fun _ _ c d => bTup_ne c d⟩
theorem xs_set (i : Nat) {x : Str} {p : Pos} (hN : X.N.Nodup) (he : XE X cl E e te me) (hi : X.N[i]? = some x := by rfl) (hx : Loc X.env.scope x := by first | exact Or.inl rfl | exact Or.inr rfl) (hs : swapsWith e (some (.Name x p)) pos.line X.env = pure false := by rfl)
    (hf : X.fn x = true ∨ X.env.scope.names.lookup x = some .local := by first | exact .inl rfl | exact .inr rfl | assumption) : XS X cl E (.Assign [.Name x p] e pos) (tAsg te (gName i)) (mAsg (bName i) me) :=
  ⟨ps_set hN hi hx he.p hs hf, sim_asg (fun _ _ _ _ h => by cases h) he.s sim_gname⟩
theorem xs_setO (i : Nat) {x : Str} {p p2 : Pos} (hN : X.N.Nodup) (h : XA X cl E es t ml) (i0 : i ≠ 0 := by decide) (hi : X.N[i]? = some x := by rfl) (hx : Loc X.env.scope x := by first | exact Or.inl rfl | exact Or.inr rfl) (hs : swapsWith (.List es p2) (some (.Name x p)) pos.line X.env = pure false := by rfl)
    (hf : X.fn x = true ∨ X.env.scope.names.lookup x = some .local := by first | exact .inl rfl | exact .inr rfl | assumption) : XS X cl E (.Assign [.Name x p] (.List es p2) pos) (tAsg (tLst t) (gName i)) (mAsgO i ml) :=
  ⟨ps_set hN hi hx (pe_lst h.p) hs hf, sim_asgO i0 h.s⟩
theorem xs_asg {is : List Nat} {g : TG} {bd : D → M Unit} (he : XE X cl E e te me) (hg : XG X cl tg is g bd) (hs : swapsWithSole [tg] e pos.line X.env = pure false := by rfl) (hw : swappedStores [tg] e X.env = pure none := by rfl)
    (h1 : (assignEach [tg] X.env).map (·.2) = [assign tg X.env] := by rfl) : XS X cl E (.Assign [tg] e pos) (tAsg te g) (mAsg bd me) := ⟨ps_asg he.p hg.p hs hw h1, sim_asg hg.n he.s hg.s⟩
theorem xs_setIx (i : Nat) {x : Str} {p p2 : Pos} (hk : XE X cl E b tb mb) (he : XE X cl E e te me) (hN : X.N[i]? = some x := by rfl) (hv : Vis X.env.scope x := by first | exact Or.inl rfl | exact Or.inr (Or.inl rfl) | exact Or.inr (Or.inr rfl)) (hd : (x == ("__debug__" : Str)) = false := by decide) (hcd : (x == ("__classdict__" : Str)) = false := by decide)
    (ha : ∀ v, assign (.Subscript (.Name x p) b p2) X.env v = (do
      let ov ← holding [v] (eval (.Name x p) X.env)
      let iv ← holding [v, ov] (eval b X.env)
      standAt p2
      holding [v, ov, iv] (setItem ov iv v)
      release [v, ov, iv] []) := by intro _; rfl)
    (hs : swapsWithSole [.Subscript (.Name x p) b p2] e pos.line X.env = pure false := by rfl) (hw : swappedStores [.Subscript (.Name x p) b p2] e X.env = pure none := by rfl)
    (h1 : (assignEach [.Subscript (.Name x p) b p2] X.env).map (·.2) = [assign (.Subscript (.Name x p) b p2) X.env] := by rfl) : XS X cl E (.Assign [.Subscript (.Name x p) b p2] e pos) (tAsg te (gSub (tVar i) tb rSetL)) (mSetO i mb me) :=
  ⟨ps_asg he.p (pg_sub (pe_var hN hv hd hcd) hk.p set_list ha) hs hw h1, sim_setO he.s hk.s⟩
theorem xs_par (i j : Nat) {x y : Str} {px py pt pt2 : Pos} {kt k2 : Nat} (hc : X.calm = true) (hN : X.N.Nodup) (ha : XA X cl E [a, b] t ml) (hij : i ≠ j := by decide) (hi : X.N[i]? = some x := by rfl) (hj : X.N[j]? = some y := by rfl)
    (hx : X.env.scope.names.lookup x = some .local := by rfl) (hy : X.env.scope.names.lookup y = some .local := by rfl)
    (hw : swappedStores [.Tuple [.Name x px, .Name y py] kt pt] (.Tuple [a, b] k2 pt2) X.env = pure (some [x, y]) := by rfl)
    (hs : swapsWithSole [.Tuple [.Name x px, .Name y py] kt pt] (.Tuple [a, b] k2 pt2) pos.line X.env = pure false := by rfl) :
    XS X cl E (.Assign [.Tuple [.Name x px, .Name y py] kt pt] (.Tuple [a, b] k2 pt2) pos) (tPar i j t) (mPar [i, j] ml) := ⟨ps_par hc hN hi hj hij hx hy ha.p hw hs, sim_par ha.s⟩
theorem xs_parO (i j : Nat) {x y : Str} {px py pt pt2 pl : Pos} {kt k2 : Nat} (hc : X.calm = true) (hN : X.N.Nodup) (ha : XE X cl E a ta ma) (hij : i ≠ j := by decide) (j0 : j ≠ 0 := by decide) (hi : X.N[i]? = some x := by rfl) (hj : X.N[j]? = some y := by rfl)
    (hx : X.env.scope.names.lookup x = some .local := by rfl) (hy : X.env.scope.names.lookup y = some .local := by rfl)
    (hw : swappedStores [.Tuple [.Name x px, .Name y py] kt pt] (.Tuple [a, .List [] pl] k2 pt2) X.env = pure (some [x, y]) := by rfl)
    (hs : swapsWithSole [.Tuple [.Name x px, .Name y py] kt pt] (.Tuple [a, .List [] pl] k2 pt2) pos.line X.env = pure false := by rfl)
    (h1 : starEach [a, .List [] pl] X.env = (false, eval a X.env) :: starEach [.List [] pl] X.env := by rfl) (h2 : starEach [.List [] pl] X.env = (false, eval (.List [] pl) X.env) :: starEach [] X.env := by rfl) :
    XS X cl E (.Assign [.Tuple [.Name x px, .Name y py] kt pt] (.Tuple [a, .List [] pl] k2 pt2) pos) (tPar i j (tCons ta (tCons (tLst tNil) tNil))) (mParO i j ma) := ⟨ps_par hc hN hi hj hij hx hy (pa_cons ha.p (pa_cons (pe_lst pa_nil) pa_nil h2) h1) hw hs, sim_parO j0 ha.s⟩
theorem xs_par3 (i j l : Nat) {x y z : Str} {px py pz pt pt2 : Pos} {kt k2 : Nat} (hc : X.calm = true) (hN : X.N.Nodup) (ha : XA X cl E [a, b, c] t ml) (hij : i ≠ j := by decide) (hil : i ≠ l := by decide) (hjl : j ≠ l := by decide) (hi : X.N[i]? = some x := by rfl) (hj : X.N[j]? = some y := by rfl) (hl : X.N[l]? = some z := by rfl)
    (hx : X.env.scope.names.lookup x = some .local := by rfl) (hy : X.env.scope.names.lookup y = some .local := by rfl) (hz : X.env.scope.names.lookup z = some .local := by rfl)
    (hw : swappedStores [.Tuple [.Name x px, .Name y py, .Name z pz] kt pt] (.Tuple [a, b, c] k2 pt2) X.env = pure (some [x, y, z]) := by rfl)
    (hs : swapsWithSole [.Tuple [.Name x px, .Name y py, .Name z pz] kt pt] (.Tuple [a, b, c] k2 pt2) pos.line X.env = pure false := by rfl) :
    XS X cl E (.Assign [.Tuple [.Name x px, .Name y py, .Name z pz] kt pt] (.Tuple [a, b, c] k2 pt2) pos) (tPar3 i j l t) (mPar [i, j, l] ml) := ⟨ps_par3 hc hN hi hj hl hij hil hjl hx hy hz ha.p hw hs, sim_par3 ha.s⟩
theorem xs_if {us : TS} {ns : M Out} {s1 s2 : List Stmt} (hc : XT X cl E c tA mA) (ha : XB X cl E s1 ts ms) (hb : XB X cl E s2 us ns) : XS X cl E (.If c s1 s2 pos) (tIfS tA ts us) (mIf mA ms ns) := ⟨ps_if hc.p ha.p hb.p, sim_if hc.s ha.s hb.s⟩
theorem xs_ret (h : XE X cl E e te me) : XS X cl E (.Return (some e) pos) (tRet te) (mRet me) := ⟨ps_ret h.p, sim_ret h.s⟩
theorem xs_retN : XS X cl E (.Return none pos) tRetN mRetN := ⟨ps_retN, sim_retN⟩
theorem xs_expr (h : XE X cl E e te me) (hs : swapsWith e none pos.line X.env = pure false := by rfl) : XS X cl E (.Expr e pos) (tDrop te) (mDrop me) := ⟨ps_expr h.p hs, sim_drop h.s⟩
theorem xs_pass : XS X cl E (.Pass pos) tNext mNext := ⟨ps_pass, sim_next⟩
theorem xs_brk : XS X cl E (.Break pos) tBreak mBrk := ⟨ps_break, sim_brk⟩
theorem xs_cnt : XS X cl E (.Continue pos) tCont mCnt := ⟨ps_continue, sim_cnt⟩
theorem xs_raise {x : Str} {p pos2 : Pos} {k : Nat} {C Dd fI cc cda : Addr} (n : Nat) (hcal : X.calm = true) (T : RoomX.BaseTxt X.prog X.K X.mg Dd fI cc cda) (TC : RoomX.ClsTxt X.K C Dd fI) (gC : X.mg x = some (.ref C)) (hcl : cl n = C) (hr : RoomG k X.A) (tk : Takes X (fun cls d _ H => E cls d H)) (ha : XE X cl E a ta ma) (hg : Gl X x := by rfl)
    (hdb : (x == ("__debug__" : Str)) = false := by decide) (he : starEach (a :: []) X.env = (false, eval a X.env) :: starEach [] X.env := by rfl) (hpl : (backTo pos (starEach [] X.env)).any (·.1) = false := by rfl) :
    XS X cl E (.Raise (some (.Call (.Name x p) [a] [] pos)) none pos2) (tRaiseRoom C (fun cls d _ H => E cls d H) (tCons ta tNil)) (mRaise n ma) := ⟨ps_raiseRoom hcal T TC gC hr.r tk (pa_cons ha.p pa_nil he) hg hdb he hpl, sim_raise hcl ha.s⟩
theorem xi_L (h : XE X cl E e te me) : XI X cl E tg e (iList X.K te) (mIL me) := ⟨pi_list h.p, sim_iL h.s⟩
theorem xi_T (h : XE X cl E e te me) : XI X cl E tg e (iTup X.K te) (mIT me) := ⟨pi_tup h.p, sim_iT h.s⟩
theorem xi_S (h : XE X cl E e te me) : XI X cl E tg e (iStr te) (mIS me) := ⟨pi_str h.p, sim_iS h.s⟩
theorem xi_rg1 {p : Pos} (hm : X.mg "range" = none) (h : XA X cl E [a] t ml) (hg : Gl X "range" := by rfl) (hs : starEach [a] X.env = [(false, eval a X.env)] := by rfl) : XI X cl E tg (.Call (.Name "range" p) [a] [] pos) (iRng1 t) (mRg1 ml) := ⟨pi_range1 hg hm h.p hs, sim_rg1 h.s⟩
theorem xi_rg2 {p : Pos} (hm : X.mg "range" = none) (h : XA X cl E [a, b] t ml) (hg : Gl X "range" := by rfl) (hs : starEach [a, b] X.env = [(false, eval a X.env), (false, eval b X.env)] := by rfl) (hs2 : starEach [b] X.env = [(false, eval b X.env)] := by rfl) : XI X cl E tg (.Call (.Name "range" p) [a, b] [] pos) (iRng2 t) (mRg2 ml) := ⟨pi_range2 hg hm h.p hs hs2, sim_rg2 h.s⟩
theorem xi_en {p tp : Pos} {k : Nat} (hm : X.mg "enumerate" = none) (h : XA X cl E [a] t ml) (hg : Gl X "enumerate" := by rfl) (hs : starEach [a] X.env = [(false, eval a X.env)] := by rfl) : XI X cl E (.Tuple es k tp) (.Call (.Name "enumerate" p) [a] [] pos) (iEnum X.K t) (mEn ml) := ⟨pi_enum hg hm h.p hs, sim_en h.s⟩
theorem xs_for {wi : TI} {mi : M (List D)} {is : List Nat} {g : TG} {bd : D → M Unit} (hp : PassesOwn (model X.prog X.w) X.A X.env X.xe) (hc : X.calm = true) (hi : XI X cl E tg it wi mi) (hg : XG X cl tg is g bd) (hb : XB X cl E sts ts ms)
    (hs : ∀ x, foldedSetIterable it X.env x = pure x := by intro _; rfl) : XS X cl E (.For tg it sts [] pos) (tFor wi g ts) (mFor mi bd ms) := ⟨ps_for hp hc hi.p hg.p hb.p hs, sim_for hg.n hi.s hg.s hb.s⟩
structure XTs (X : Cx) (cl : CL) (E : XK) (e : List Expr) (t : TT) (m : M Bool) : Prop where
  p : PTs X e t
  s : SimT X.K cl E t m
theorem xts_nil : XTs X cl E [] tYes mYes := ⟨pts_nil, sim_yes⟩
theorem xts_one (h : XT X cl E c tA mA) : XTs X cl E [c] tA mA := ⟨pts_one h.p, h.s⟩
theorem x_lc {scope : Scope} {own : List (Str × Nat)} {ifs : List Expr} {wi : TI} {mi : M (List D)} {is : List Nat} {g : TG} {bd : D → M Unit} {tT : TT} {mT : M Bool} (hc : X.calm = true) (hN : X.N.Nodup) (hi : XI X cl E tg it wi mi) (ok : BlkOk X.N X.env.scope scope own)
    (hg : ∀ (s : Shared) (H : Hp) (C : Addr) (c : List (Str × Addr)) (fp : List Addr), XG (X.blk s H scope (compEnvC scope c C X.env) fp) cl tg is g bd) (hv : ∀ i ∈ is, i ∈ own.map (·.2)) (ht : ∀ (s : Shared) (H : Hp) (C : Addr) (c : List (Str × Addr)) (fp : List Addr), XTs (X.blk s H scope (compEnvC scope c C X.env) fp) cl E0 ifs tT mT)
    (he : ∀ (s : Shared) (H : Hp) (C : Addr) (c : List (Str × Addr)) (fp : List Addr), XE (X.blk s H scope (compEnvC scope c C X.env) fp) cl E0 e te me) (hs : ∀ x, foldedSetIterable it X.env x = pure x := by intro _; rfl) :
    XE X cl E (.ListComp e [⟨tg, it, ifs, 0⟩] scope pos) (tLc wi g tT te (own.map (·.2))) (mComp (own.map (·.2)) mi bd mT me) :=
  ⟨pe_lc hc hN hi.p ok (fun s H C c fp => (hg s H C c fp).p) (fun s H C c fp => (ht s H C c fp).p) (fun s H C c fp => (he s H C c fp).p) hs, sim_lc hi.s (hg X.s_0 X.H_0 0 [] []).s hv (ht X.s_0 X.H_0 0 [] []).s (he X.s_0 X.H_0 0 [] []).s⟩
theorem xs_setLc (i : Nat) {y : Str} {py : Pos} {scope : Scope} {own : List (Str × Nat)} {ifs : List Expr} {wi : TI} {mi : M (List D)} {is : List Nat} {g : TG} {bd : D → M Unit} {tT : TT} {mT : M Bool} {pos2 : Pos} (hc : X.calm = true) (hN : X.N.Nodup)
    (hsw : swapsWith (.ListComp e [⟨tg, it, ifs, 0⟩] scope pos) (some (.Name y py)) pos2.line X.env = pure true) (hi : XI X cl E tg it wi mi) (ok : BlkOk X.N X.env.scope scope own)
    (hg : ∀ (s : Shared) (H : Hp) (C : Addr) (c : List (Str × Addr)) (fp : List Addr), XG (X.blk s H scope (compEnvC scope c C X.env) fp) cl tg is g bd) (hv : ∀ i ∈ is, i ∈ own.map (·.2)) (ht : ∀ (s : Shared) (H : Hp) (C : Addr) (c : List (Str × Addr)) (fp : List Addr), XTs (X.blk s H scope (compEnvC scope c C X.env) fp) cl E0 ifs tT mT)
    (he : ∀ (s : Shared) (H : Hp) (C : Addr) (c : List (Str × Addr)) (fp : List Addr), XE (X.blk s H scope (compEnvC scope c C X.env) fp) cl E0 e te me) (hy : X.N[i]? = some y := by rfl) (hyl : X.env.scope.names.lookup y = some .local := by rfl) (hs : ∀ x, foldedSetIterable it X.env x = pure x := by intro _; rfl) :
    XS X cl E (.Assign [.Name y py] (.ListComp e [⟨tg, it, ifs, 0⟩] scope pos) pos2) (tAsg (tLc wi g tT te (own.map (·.2))) (gName i)) (mAsg (bName i) (mComp (own.map (·.2)) mi bd mT me)) :=
  ⟨ps_setLc hc hN hy hyl hsw hi.p ok (fun s H C c fp => (hg s H C c fp).p) (fun s H C c fp => (ht s H C c fp).p) (fun s H C c fp => (he s H C c fp).p) hs, sim_asg (fun _ _ _ _ h => by cases h) (sim_lc hi.s (hg X.s_0 X.H_0 0 [] []).s hv (ht X.s_0 X.H_0 0 [] []).s (he X.s_0 X.H_0 0 [] []).s) sim_gname⟩
end
section
variable {P : Program} {w : World} {K : PySem.W.Frag} {mg : Str → Option Value} {base : Heap} {cl : CL}
theorem passX {x : Str} {N : List Str} {sc : Scope} {f : Addr} {cdv : Value} {A : Around} {outer : List Env} {s : Shared} {H : Hp} {E : XK} : Passes (L2.CX P w) (cxOf (L2.CX P w) P w K mg base N x sc f cdv A outer s H E) E := passes_call (takes_of rfl rfl rfl rfl) fun _ _ _ _ h => h
theorem takesX {x : Str} {N : List Str} {sc : Scope} {f : Addr} {cdv : Value} {A : Around} {outer : List Env} {s : Shared} {H : Hp} {E : XK} : Takes (cxOf (L2.CX P w) P w K mg base N x sc f cdv A outer s H E) (fun cls d _ H => E cls d H) := takes_of rfl rfl rfl rfl
theorem pownX {x : Str} {N : List Str} {sc : Scope} {f : Addr} {cdv : Value} {A : Around} {outer : List Env} {s : Shared} {H : Hp} {E : XK} : PassesOwn (model P w) (cxOf (L2.CX P w) P w K mg base N x sc f cdv A outer s H E).A (cxOf (L2.CX P w) P w K mg base N x sc f cdv A outer s H E).env (cxOf (L2.CX P w) P w K mg base N x sc f cdv A outer s H E).xe := passes_of rfl
theorem fact_mk {x : Str} {st : Stmt} {f : Addr} {fd : FuncData} {N ps : List Str} {k : Nat} {m : M Out} (Fn : Fun K x x st f fd) (gm : mg x = some (.ref f)) (bd : Binds K fd ps []) (S : FnScope N ps (defScope st))
    (hb : ∀ (cdv : Value) (A : Around) (outer : List Env) (s : Shared) (H : Hp) (E : XK), RoomG k (A.deeper (envOfC x (defScope st) s.heap.objs.size f cdv)) →
      ∃ t, XB (cxOf (L2.CX P w) P w K mg base N x (defScope st) f cdv A outer s H E) cl E (defBody st) t m) : Fact P w K mg base x (k + 1) ps (spM K cl (fnM N.length m) ps.length) :=
  ⟨f, fd, fn_ok Fn S fun cdv A outer s H E hr => by
    obtain ⟨t, h⟩ := hb cdv A outer s H E hr
    exact ⟨t, h.p, h.s⟩, gm, Fn.kp, bd⟩
theorem factO_mk {x : Str} {st : Stmt} {f : Addr} {fd : FuncData} {N : List Str} {p0 : Str} {ps : List Str} {k : Nat} {m : M Out} (Fn : Fun K x x st f fd) (gm : mg x = some (.ref f)) (bd : Binds K fd (p0 :: ps) []) (S : FnScope N (p0 :: ps) (defScope st))
    (hb : ∀ (cdv : Value) (A : Around) (outer : List Env) (s : Shared) (H : Hp) (E : XK), RoomG k (A.deeper (envOfC x (defScope st) s.heap.objs.size f cdv)) →
      ∃ t, XB (cxOf (L2.CX P w) P w K mg base N x (defScope st) f cdv A outer s H E) cl E (defBody st) t m) : Fact P w K mg base x (k + 1) (p0 :: ps) (spO K cl (fnO N.length m) ps.length) :=
  ⟨f, fd, fnO_ok Fn S fun cdv A outer s H E hr => by
    obtain ⟨t, h⟩ := hb cdv A outer s H E hr
    exact ⟨t, h.p, h.s⟩, gm, Fn.kp, bd⟩
end
end Mi
namespace Mi
open PySem PySem.Spec PyProof.Rows L2
theorem x_callK {X : Cx} {cl : CL} {E : XK} {e : Expr} {es : List Expr} {t : TA} {ml : M (List D)} {pos : Pos} {K : PySem.W.Frag} {x : Str} {p : Pos} {k n : Nat} {ps : List Str} {g : List D → R D} (T : Fact X.prog X.w K X.mg X.base x k ps (spM K cl g n)) (hr : RoomG k X.A) (hx : Passes (L2.CX X.prog X.w) X E) (ha : XA X cl E (e :: es) t ml) (hK : X.K = K := by rfl) (hg : Gl X x := by rfl) (hdb : (x == ("__debug__" : Str)) = false := by decide)
    (he : starEach (e :: es) X.env = (false, eval e X.env) :: starEach es X.env := by rfl) (hpl : (backTo pos (starEach es X.env)).any (·.1) = false := by rfl) :
    XE X cl E (.Call (.Name x p) (e :: es) [] pos) (tCall (spM K cl g n) [] E t) (mCall n g ml) := by
  subst hK; exact x_call T hr hx ha hg hdb he hpl
theorem x_callOK {X : Cx} {cl : CL} {E : XK} {es : List Expr} {t : TA} {ml : M (List D)} {pos : Pos} {K : PySem.W.Frag} {x y : Str} {p py : Pos} {k n : Nat} {ps : List Str} {g : List D → List D → R (D × List D)} (i : Nat) (T : Fact X.prog X.w K X.mg X.base x k ps (spO K cl g n)) (hr : RoomG k X.A) (hx : Passes (L2.CX X.prog X.w) X E) (ha : XA X cl E es t ml) (hK : X.K = K := by rfl) (hg : Gl X x := by rfl)
    (hN : X.N[i]? = some y := by rfl) (hv : Vis X.env.scope y := by first | exact Or.inl rfl | exact Or.inr (Or.inl rfl) | exact Or.inr (Or.inr rfl)) (hd : (y == ("__debug__" : Str)) = false := by decide) (hcd : (y == ("__classdict__" : Str)) = false := by decide) (hdb : (x == ("__debug__" : Str)) = false := by decide)
    (hs : starEach (.Name y py :: es) X.env = (false, eval (.Name y py) X.env) :: starEach es X.env := by rfl) (hpl : (backTo pos (starEach es X.env)).any (·.1) = false := by rfl) :
    XE X cl E (.Call (.Name x p) (.Name y py :: es) [] pos) (tCall (spO K cl g n) [] E (tCons (tVar i) t)) (mCallO i n g ml) := by
  subst hK; exact x_callO i T hr hx ha hg hN hv hd hcd hdb hs hpl
def bLst (is : List Nat) : D → M Unit
  | .lst l => bNames is l
  | _ => Mi.bad
theorem bLst_ne {is : List Nat} {x : D} {es : En} (c : Nat) (d : D) : bLst is x es ≠ .exc c d := by
  cases x <;> first | exact bNames_ne c d | (intro h; cases h)
theorem sim_glst {K : PySem.W.Frag} {cl : CL} {is : List Nat} {n : Nat} {g : TGs} (hn : is.length = n) (hg : SimGs K cl is g (bNames is)) : SimG K cl is (gLst K n g) (bLst is) := by
  intro zA F B H es σ v d es' Q r a e h
  cases a with
  | @lst p vs ds h1 h2 => exact ⟨p, vs, rfl, .inl (.inl (r.bh _ _ h1)), by rw [h2.len, bNames_len e, hn], hg _ F B H es σ vs ds es' Q r h2 e h⟩
  | _ => cases e
theorem xg_lst {X : Cx} {cl : CL} {es : List Expr} {pos : Pos} {k n : Nat} {is : List Nat} {g : TGs} (hc : X.calm = true) (h : XGs X cl es is g) (hl : is.length = n) (hn : (assignEach es X.env).length = n := by rfl) (hst : (assignEach es X.env).findIdx? (·.1) = none := by rfl) : XG X cl (.Tuple es k pos) is (gLst X.K n g) (bLst is) :=
  ⟨pg_lst hc h.p hn hst, sim_glst hl h.s, fun _ _ c d => bLst_ne c d⟩
section
variable {X : Cx} {cl : CL} {E : XK} {a b : Expr} {ta tb : TE} {ma mb : M D} {pos : Pos}
theorem x_sliceK (K : PySem.W.Frag) {lo hi : Option Expr} {tl th : TO} {nl nh : M (Option Int)} {p2 : Pos} (ha : XE X cl E a ta ma) (hl : XO X cl E lo tl nl) (hu : XO X cl E hi th nh) (hK : X.K = K := by rfl) : XE X cl E (.Subscript a (.Slice lo hi none p2) pos) (tSl (rSlD K) ta tl th) (mSl dSl ma nl nh) := by
  subst hK; exact x_slice ha hl hu
theorem x_ixK (K : PySem.W.Frag) (ha : XE X cl E a ta ma) (hb : XE X cl E b tb mb) (hs : PlainIx b := by exact fun _ _ => rfl) (hK : X.K = K := by rfl) : XE X cl E (.Subscript a b pos) (tOp (rIx K) ta tb) (mBin dIx ma mb) := by
  subst hK; exact x_ix ha hb hs
end
end Mi
namespace Mi
open PySem PySem.Spec PyProof.Rows L2
theorem fn_okX {P : Program} {w : World} {K : PySem.W.Frag} {mg : Str → Option Value} {base : Heap} {cl : CL} {x : Str} {st : Stmt} {f : Addr} {fd : FuncData} {N ps : List Str} {k : Nat} {m : M Out} (Fn : Fun K x x st f fd) (S : FnScope N ps (defScope st))
    (hb : ∀ (cdv : Value) (A : Around) (outer : List Env) (s : Shared) (H : Hp) (E : XK), RoomG k (A.deeper (envOfC x (defScope st) s.heap.objs.size f cdv)) →
      ∃ t, XB (cxOf (L2.CX P w) P w K mg base N x (defScope st) f cdv A outer s H E) cl E (defBody st) t m) : FnG P w K mg base (L2.CX P w) (k + 1) f fd ps (spM K cl (fnM N.length m) ps.length) :=
  fn_ok Fn S fun cdv A outer s H E hr => by
    obtain ⟨t, h⟩ := hb cdv A outer s H E hr
    exact ⟨t, h.p, h.s⟩
end Mi
namespace Mi
open PySem PySem.Spec PyProof.Rows L2
def spLaw (n : Nat) (K : PySem.W.Frag) (ts : List (Addr × Str)) : Sp := fun vs H Q E => ∃ (a : Addr) (ns : List Int), vs = [.ref a] ∧ ns.length ≤ n ∧ SqL K H a (ns.map V.int) ∧ LamX.Tabs ts H ∧ ∀ H', Q (.bl true) H'
theorem sqL_noT {K : PySem.W.Frag} {H : Hp} {p : Addr} {vs : List V} (h : SqL K H p vs) : SqL K (noT H) p vs := by
  rcases h with (h | ⟨o, h⟩) | h
  · exact .inl (.inl (noT_of h fun _ z => by cases z))
  · exact .inl (.inr ⟨o, noT_of h fun _ z => by cases z⟩)
  · exact .inr h
theorem spLaw_of {n : Nat} {K : PySem.W.Frag} {cl : CL} {g : List D → R D} (h : ∀ ns : List Int, ns.length ≤ n → g [.scr ns] = .ok (.bl true)) (vs : List V) (H : Hp) (Q : VK) (E : XK) (hl0 : cl.fl = fun _ => none) (s : spLaw n K cl.ts vs H Q E) : spM K cl g 1 vs H Q E := by
  obtain ⟨a, ns, rfl, hl, hs, ht, q⟩ := s
  refine ⟨[.scr ns], noT H, rfl, ⟨noT_same H, noT_not H, ht, by rw [hl0]; intro _ _ z; cases z⟩, .one (.scr (sqL_noT hs)), ?_⟩
  rw [h ns hl]
  intro v B' H' _ _ _ _ av
  cases av
  exact q H'
end Mi
namespace Mi
open PySem PySem.Spec PyProof.Rows L2
def mPar3O (i j k : Nat) (m : M D) (c : D) : M Out := Mi.bnd m fun d es => .ok (.nx, ((es.set i (.dat d)).set j (.own [])).set k (.dat c))
theorem sim_par3O {K : PySem.W.Frag} {cl : CL} {E : XK} {i j k : Nat} {te : TE} {m : M D} {v : V} {c : D} (j0 : j ≠ 0) (hc : ∀ B, At K cl B v c) (ha : SimE K cl E te m) : SimS K cl E (tPar3 i j k (tCons te (tCons (tLst tNil) (tCons (tC v) tNil)))) (mPar3O i j k m c) := by
  intro zA F B H es σ Dn r h
  refine ha _ F B H es σ _ r (Po.imp (Po.bnd h) fun d es1 B1 H1 e1 f1 h1 u r1 a => ?_)
  exact ⟨Nat.zero_le _, fun p n => ⟨u, .ref p, v, rfl, h1 B1 _ (Same.rfl' _) (Frs.refl _ _) _ (((r1.put a).putOwn j0 n .nil).put (hc B1))⟩⟩
theorem xs_par3O {X : Cx} {cl : CL} {E : XK} {a c : Expr} {ta : TE} {ma : M D} {v : V} {dc : D} {pos : Pos} (i j l : Nat) {x y z : Str} {px py pz pt pt2 pl : Pos} {kt k2 : Nat} (hc : X.calm = true) (hN : X.N.Nodup) (ha : XE X cl E a ta ma) (hcc : PE X c (tC v)) (hat : ∀ B, At X.K cl B v dc) (j0 : j ≠ 0 := by decide) (hij : i ≠ j := by decide) (hil : i ≠ l := by decide) (hjl : j ≠ l := by decide) (hi : X.N[i]? = some x := by rfl) (hj : X.N[j]? = some y := by rfl) (hl : X.N[l]? = some z := by rfl)
    (hx : X.env.scope.names.lookup x = some .local := by rfl) (hy : X.env.scope.names.lookup y = some .local := by rfl) (hz : X.env.scope.names.lookup z = some .local := by rfl)
    (hw : swappedStores [.Tuple [.Name x px, .Name y py, .Name z pz] kt pt] (.Tuple [a, .List [] pl, c] k2 pt2) X.env = pure (some [x, y, z]) := by rfl)
    (hs : swapsWithSole [.Tuple [.Name x px, .Name y py, .Name z pz] kt pt] (.Tuple [a, .List [] pl, c] k2 pt2) pos.line X.env = pure false := by rfl)
    (h1 : starEach [a, .List [] pl, c] X.env = (false, eval a X.env) :: starEach [.List [] pl, c] X.env := by rfl) (h2 : starEach [.List [] pl, c] X.env = (false, eval (.List [] pl) X.env) :: starEach [c] X.env := by rfl) (h3 : starEach [c] X.env = (false, eval c X.env) :: starEach [] X.env := by rfl) :
    XS X cl E (.Assign [.Tuple [.Name x px, .Name y py, .Name z pz] kt pt] (.Tuple [a, .List [] pl, c] k2 pt2) pos) (tPar3 i j l (tCons ta (tCons (tLst tNil) (tCons (tC v) tNil)))) (mPar3O i j l ma dc) :=
  ⟨ps_par3 hc hN hi hj hl hij hil hjl hx hy hz (pa_cons ha.p (pa_cons (pe_lst pa_nil) (pa_cons hcc pa_nil h3) h2) h1) hw hs, sim_par3O j0 hat ha.s⟩
end Mi
namespace Mi
open PySem PySem.Spec PyProof.Rows L2
def SimF (K : PySem.W.Frag) (cl : CL) (E : XK) (t : TS) (m : M (List D)) : Prop := ∀ (zA : Zp) (F B H : Hp) (es : En) (σ : L2.St) (Dn : Ends), Rel K cl zA F B H es σ →
  Po K cl E F B (m es) (fun l es' B' H' => ∀ (p : Addr) (vs : List V) (σ' : L2.St), Rel K cl zA F B' H' es' σ' → F p = none → B' p = none → H' p = some (.lst vs) → AtL K cl B' vs l → Dn.rt (.ref p) H') → t Dn σ H
def mRetF (a : M (List D)) : M (List D) := Mi.bnd a fun l => Mi.opt (if l.length ≤ sizeLine then some l else none)
def mSeqF (m : M Out) (n : M (List D)) : M (List D) := Mi.bnd m fun o => match o with
  | .nx => n
  | _ => Mi.bad
def endsF (r : R (List D × En)) : R (List D) := match r with
  | .ok (l, _) => .ok l
  | .exc c d => .exc c d
  | .bad => .bad
def fnF (n : Nat) (m : M (List D)) (ds : List D) : R (List D) := endsF (m (ds.map Sl.dat ++ List.replicate (n - ds.length) .un))
def spF (K : PySem.W.Frag) (cl : CL) (g : List D → R (List D)) (n : Nat) : Sp := fun vs H Q E => ∃ (ds : List D) (B : Hp), ds.length = n ∧ Bas cl B H ∧ AtL K cl B vs ds ∧ match g ds with
  | .ok l => ∀ (p : Addr) (ws : List V) (B' H' : Hp), Same B B' → Frs B (noT H) B' → Same (noT H) H' → Bas cl B' H' → noT H p = none → B' p = none → H' p = some (.lst ws) → AtL K cl B' ws l → Q (.ref p) H'
  | .exc c d => Exk K cl E (noT H) B c d
  | .bad => False
def mAsgF (i n : Nat) (g : List D → R (List D)) (a : M (List D)) : M Out := Mi.bnd a fun ds => if ds.length = n then Mi.bnd (Mi.lft (g ds)) fun l es => .ok (.nx, es.set i (.own l)) else Mi.bad
section
variable {K : PySem.W.Frag} {cl : CL} {E : XK}
theorem sim_retF {ta : TA} {m : M (List D)} (ha : SimA K cl E ta m) : SimF K cl E (tRet (tLst ta)) (mRetF m) := by
  intro zA F B H es σ Dn r h
  refine ha _ F B H es σ _ r (Po.imp (Po.bnd h) fun ds es1 B1 H1 e1 f1 h1 vs r1 a => ?_)
  obtain ⟨l, hl, hk⟩ := Po.opt h1
  split at hl
  · rename_i hz
    cases hl
    refine ⟨by rw [a.len]; exact hz, fun p n => ?_⟩
    refine hk B1 _ (Same.rfl' _) (Frs.refl _ _) p vs σ (r1.growS (Same.rfl' _) (same_new n) (r1.bh.trans (same_new n)) (Frs.refl _ _) r1.nb) (r1.fh.free n) (r1.bh.free n) upd_same a
  · cases hl
theorem sim_seqF {t u : TS} {m : M Out} {n : M (List D)} (ht : SimS K cl E t m) (hu : SimF K cl E u n) : SimF K cl E (tSeq t u) (mSeqF m n) := by
  intro zA F B H es σ Dn r h
  refine ht _ F B H es σ { Dn with nx := u Dn } r (Po.imp (Po.bnd h) fun o es1 B1 H1 e1 f1 h1 => ?_)
  cases o with
  | nx => exact fun σ' r1 => hu _ F B1 H1 es1 σ' Dn r1 h1
  | rt d => exact h1.elim
  | bk => exact h1.elim
  | ct => exact h1.elim
theorem fnF_ok {P : Program} {w : World} {mg : Str → Option Value} {base : Heap} {x qual : Str} {st : Stmt} {f : Addr} {fd : FuncData} {N ps : List Str} {k : Nat} {m : M (List D)} (Fn : Fun K x qual st f fd) (S : FnScope N ps (defScope st))
    (hb : ∀ (cdv : Value) (A : Around) (outer : List Env) (s : Shared) (H : Hp) (E : XK), RoomG k (A.deeper (envOfC qual (defScope st) s.heap.objs.size f cdv)) →
      ∃ t, PSs (cxOf (L2.CX P w) P w K mg base N qual (defScope st) f cdv A outer s H E) (defBody st) t ∧ SimF K cl E t m) : FnG P w K mg base (L2.CX P w) (k + 1) f fd ps (spF K cl (fnF N.length m) ps.length) := by
  have hpl : ps.length ≤ N.length := by have := congrArg List.length S.pre; rw [List.length_take] at this; omega
  refine okG Fn S (fun vs H Q E h => ?_) (fun cdv A outer s H vs Q E hr h => ?_)
  · obtain ⟨ds, B, hl, _, a, _⟩ := h
    rw [a.len, hl]
  · obtain ⟨ds, B, hl, sB, a, h⟩ := h
    obtain ⟨t, ht, hs⟩ := hb cdv A outer s H E hr
    refine ⟨t, ht, hs _ (noT H) B H _ _ _ (rel_start sB a (by omega)) ?_⟩
    unfold fnF at h
    cases q : m (ds.map Sl.dat ++ List.replicate (N.length - ds.length) .un) with
    | ok p =>
      obtain ⟨l, es⟩ := p
      rw [q] at h
      exact fun B' H' s f p vs σ' r' n1 n2 hp al => h p vs B' H' s f r'.fh r'.bas n1 n2 hp al
    | exc c d => rw [q] at h; exact h
    | bad => rw [q] at h; exact h.elim
theorem sim_asgF {i n : Nat} {ta : TA} {m : M (List D)} {g : List D → R (List D)} (i0 : i ≠ 0) (ha : SimA K cl E ta m) : SimS K cl E (tAsg (tCall (spF K cl g n) [] E ta) (gName i)) (mAsgF i n g m) := by
  intro zA F B H es σ Dn r h
  refine ha _ F B H es σ _ r (Po.imp (Po.bnd h) fun ds es1 B1 H1 e1 f1 h1 vs r1 a => ?_)
  by_cases hn : ds.length = n
  · rw [if_pos hn] at h1
    show spF K cl g n (vs ++ []) H1 _ E
    rw [List.append_nil]
    refine ⟨ds, B1, hn, r1.bas, a, ?_⟩
    cases q : g ds with
    | ok l =>
      rw [q] at h1
      intro p ws B' H' s f sh sb n1 n2 hp al
      have hH : upd (hid H' p) p (.lst ws) = H' := by
        funext x
        by_cases hx : x = p
        · subst hx; rw [upd_same]; exact hp.symm
        · rw [upd_ne hx, hid_ne hx]
      have r2 : Rel K cl zA F B' (hid H' p) es1 σ := r1.grow s (fun x o e => by
          have nx : x ≠ p := ne_of_none e n1
          rw [hid_ne nx]; exact sh _ _ e) ⟨fun x o e => by
          have nx : x ≠ p := ne_of_none e n2
          rw [hid_ne nx]; exact sb.bh _ _ e, sb.nb, tabs_hid sb.tab hp, r1.fl.trans (r1.fhN.trans (same_noT (fun x o e => by
          rw [hid_ne (ne_of_none e n1)]; exact sh _ _ e) (noT_not _)))⟩ f
      have r3 := r2.putOwn i0 hid_at al
      rw [hH] at r3
      exact h1 B' H' s (r1.frs f) _ r3
    | exc c d =>
      rw [q] at h1
      exact Exk.call r1 h1
    | bad => rw [q] at h1; exact h1.elim
  · rw [if_neg hn] at h1
    exact h1.elim
end
structure XF (X : Cx) (cl : CL) (E : XK) (st : List Stmt) (t : TS) (m : M (List D)) : Prop where
  p : PSs X st t
  s : SimF X.K cl E t m
section
variable {X : Cx} {cl : CL} {E : XK}
theorem xf_ret {es : List Expr} {t : TA} {m : M (List D)} {pos p : Pos} (h : XA X cl E es t m) : XF X cl E [.Return (some (.List es p)) pos] (tRet (tLst t)) (mRetF m) := ⟨pss_one (ps_ret (pe_lst h.p)), sim_retF h.s⟩
theorem xf_cons {st : Stmt} {rest : List Stmt} {ts us : TS} {ms : M Out} {ns : M (List D)} (h : XS X cl E st ts ms) (hr : XF X cl E rest us ns) : XF X cl E (st :: rest) (tSeq ts us) (mSeqF ms ns) := ⟨pss_cons h.p hr.p, sim_seqF h.s hr.s⟩
theorem factF_mk {P : Program} {w : World} {K : PySem.W.Frag} {mg : Str → Option Value} {base : Heap} {x : Str} {st : Stmt} {f : Addr} {fd : FuncData} {N ps : List Str} {k : Nat} {m : M (List D)} (Fn : Fun K x x st f fd) (gm : mg x = some (.ref f)) (bd : Binds K fd ps []) (S : FnScope N ps (defScope st))
    (hb : ∀ (cdv : Value) (A : Around) (outer : List Env) (s : Shared) (H : Hp) (E : XK), RoomG k (A.deeper (envOfC x (defScope st) s.heap.objs.size f cdv)) →
      ∃ t, XF (cxOf (L2.CX P w) P w K mg base N x (defScope st) f cdv A outer s H E) cl E (defBody st) t m) : Fact P w K mg base x (k + 1) ps (spF K cl (fnF N.length m) ps.length) :=
  ⟨f, fd, fnF_ok Fn S fun cdv A outer s H E hr => by
    obtain ⟨t, h⟩ := hb cdv A outer s H E hr
    exact ⟨t, h.p, h.s⟩, gm, Fn.kp, bd⟩
theorem xs_asgF {e : Expr} {es : List Expr} {t : TA} {ml : M (List D)} {pos pos2 : Pos} {K : PySem.W.Frag} {x y : Str} {p py : Pos} {k n : Nat} {ps : List Str} {g : List D → R (List D)} (i : Nat) (hN0 : X.N.Nodup) (T : Fact X.prog X.w K X.mg X.base x k ps (spF K cl g n)) (hr : RoomG k X.A) (hx : Passes (L2.CX X.prog X.w) X E) (ha : XA X cl E (e :: es) t ml) (hK : X.K = K := by rfl) (i0 : i ≠ 0 := by decide) (hg : Gl X x := by rfl)
    (hi : X.N[i]? = some y := by rfl) (hy : Loc X.env.scope y := by first | exact Or.inl rfl | exact Or.inr rfl) (hdb : (x == ("__debug__" : Str)) = false := by decide)
    (he : starEach (e :: es) X.env = (false, eval e X.env) :: starEach es X.env := by rfl) (hpl : (backTo pos (starEach es X.env)).any (·.1) = false := by rfl)
    (hs : swapsWith (.Call (.Name x p) (e :: es) [] pos) (some (.Name y py)) pos2.line X.env = pure false := by rfl)
    (hf : X.fn y = true ∨ X.env.scope.names.lookup y = some .local := by first | exact .inl rfl | exact .inr rfl | assumption) :
    XS X cl E (.Assign [.Name y py] (.Call (.Name x p) (e :: es) [] pos) pos2) (tAsg (tCall (spF K cl g n) [] E t) (gName i)) (mAsgF i n g ml) := by
  subst hK
  obtain ⟨f, fd, G, hm, hk, hb⟩ := T.ex
  exact ⟨ps_set hN0 hi hy (pe_callG G hr hg hm hk hb .nil hx ha.p hdb he hpl) hs hf, sim_asgF i0 ha.s⟩
end
end Mi
namespace PySem.W
open PySem
theorem kin_classX {prog : Program} {w : World} {A : Around} {E : Value → Shared → Prop} {s : Shared} {K : Frag} {x D : Addr} {ox od : Obj} {Q : Option Value → Shared → Prop}
    (hga : findIn K (.ref D) (Str.ofString "__getattribute__") = some (some (.builtin "BaseException.__getattribute__"))) (hgt : findIn K (.ref D) (Str.ofString "__getattr__") = some none)
    (hsub : subIn K (.ref D) (.type "BaseException") = some true) (hdct : hasDictIn K D = true) (ha : findIn K (.ref D) (Str.ofString "__class__") = some (some (.builtin "object.__class__")))
    (hn : specialIn K (.builtin "object.__class__") (Str.ofString "__get__") = some (some (.builtin "getset_descriptor.__get__"))) (htk : takesIn K (.builtin "object.__class__") = some true)
    (hm : mroIn K D (.type "object") = some true) (X : K.In s.heap) (I : InstAt s.heap x ox D (some od)) (h : Q (some (.ref D)) { s with toks := s.toks + 1 }) :
    wpAny (model prog w) A (getAttr? (.ref x) (Str.ofString "__class__")) Q E s := by
  have hcl : (clsIn K D).isSome = true := by
    obtain ⟨cd, hc, _⟩ := any_some hdct
    rw [hc]; rfl
  have hf := findObj_data (od := od) hcl ha hn htk
  obtain ⟨hp, g, d, t, os⟩ := s
  have L0 := InstAt.type (M := model prog w) I
  have L1 := looks_findIn (M := model prog w) X hga
  have L2 := looks_findIn (M := model prog w) X hgt
  have L3 := looks_find (M := model prog w) X I hf
  have sub : Looks (model prog w) hp (isInstance (.ref x) (.type "BaseException")) true := Looks.andThen L0 (looks_subIn X hsub)
  unfold getAttr?
  refine wpAny_bind (wpAny_mkText ?_)
  unfold getAttrBy?
  refine wpAny_bind (wpAny_attempt ?_)
  unfold getAttrBy
  refine wpAny_holding (wpAny_bind (Looks.at L0 (wpAny_bind (Looks.at L1 ?_))))
  have e2 : ((Value.builtin "BaseException.__getattribute__") == (.builtin "object.__getattribute__")) = false := by decide
  show wpAny (model prog w) A (if (onTheHeap (Value.ref D) && ((Value.builtin "BaseException.__getattribute__") == (.builtin "object.__getattribute__"))) = true then _ else _) _ _ _
  rw [e2, Bool.and_false, if_neg Bool.false_ne_true]
  unfold getAttrByItsOwn
  refine wpAny_bind ?_
  unfold hookBefore
  rw [if_pos (by rfl)]
  refine Looks.at L2 (wpAny_bind (wpAny_attempt (wpAny_holding ?_)))
  unfold callGetattribute
  rw [Bool.false_and, if_neg Bool.false_ne_true]
  unfold boundAndCalled
  rw [F.excAttr_ValueError.ga.bind]
  refine wpAny_bind (wpAny_pure ?_)
  show wpAny (model prog w) A (call (.builtin "BaseException.__getattribute__") [Value.ref x, Value.str (Str.ofString "__class__") t]) _ _ _
  refine wpAny_call ?_
  refine codeAny_call_builtin F.excAttr_ValueError.ga.plain F.entry_bexc_ga ?_
  refine check_slot (i := "BaseException.__getattribute__") (owner := "BaseException") (n := "__getattribute__") (self := .ref x) (rest := [Value.str (Str.ofString "__class__") t]) (kw := []) ?_ ?_ ?_ ?_ ?_
  · exact kin_classE._proof_2
  · exact kin_classE._proof_3
  · exact sub
  · exact F.args_bexc_ga (Value.ref x) (Value.str (Str.ofString "__class__") t)
  unfold Builtin.«object.__getattribute__»
  refine wpAny_bind (wpAny_of_eq (by rfl) ?_)
  refine wpAny_bind (wpAny_pure (wpAny_bind (Looks.at L0 (wpAny_bind (Looks.at L3 ?_)))))
  unfold Builtin.ObjectAttr.bindTo
  refine wpAny_bind (wpAny_holding (wpAny_call (class_get X I hm (wpAny_pure ?_))))
  show wpAny (model prog w) A (handedOut _) _ _ _
  rw [handedOut_of rfl]
  exact wpAny_pure (wpAny_pure h)
theorem kitx_excX {K : Frag} {x D : Addr} {ox od : Obj} (hga : findIn K (.ref D) (Str.ofString "__getattribute__") = some (some (.builtin "BaseException.__getattribute__"))) (hgt : findIn K (.ref D) (Str.ofString "__getattr__") = some none)
    (hsub : subIn K (.ref D) (.type "BaseException") = some true) (hdct : hasDictIn K D = true) (ha : findIn K (.ref D) (Str.ofString "__class__") = some (some (.builtin "object.__class__")))
    (hn : specialIn K (.builtin "object.__class__") (Str.ofString "__get__") = some (some (.builtin "getset_descriptor.__get__"))) (htk : takesIn K (.builtin "object.__class__") = some true)
    (hm : mroIn K D (.type "object") = some true) : KitX K (.ref x) (.ref D) fun h => InstAt h x ox D (some od) := by
  obtain ⟨cd, hc, _⟩ := any_some hdct
  have hl : ∃ c d sl, K.lookup D = some ⟨c, d, .cls cd, sl⟩ := by
    unfold clsIn at hc
    split at hc
    · rename_i heq
      cases hc
      exact ⟨_, _, _, heq⟩
    · cases hc
  obtain ⟨c, d, sl, hl⟩ := hl
  refine ⟨fun M h _ I => InstAt.type I, fun M h X _ => ?_, fun h tp dd its n sl' X htp => ?_, fun X I q => kin_classX hga hgt hsub hdct ha hn htk hm X I q⟩
  · intro A' Q' E' s' k q
    exact wpAny_bind (wpAny_loadPart (k D _ (X D _ hl)) (wpAny_pure q))
  · refine Bool.eq_false_iff.mpr fun q => ?_
    have e := Value.ref.inj (beq_iff_eq.mp q)
    subst e
    have z := (X D _ hl).symm.trans htp
    cases z
end PySem.W
namespace Mi
open PySem PySem.Spec PyProof.Rows L2
def rIsX (K : PySem.W.Frag) (D a dx : Addr) : List V → Hp → VK → Prop := fun xs H Q => ∃ (c : V) (cv : Value) (b : Bool) (fs : List (Str × V)), xs = [.ref a, c] ∧ (∀ u, RelV c u → u = cv) ∧ PySem.W.kitOne K (.ref D) cv = some b ∧ H dx = some (.xd fs) ∧ Q (.bl b) H
theorem call_isX {X : Cx} {a D dx : Addr} {oe : Obj} {pn : List (Addr × Obj)} (C : ExcC X.K D) (hz : Zc (.ref D) (some dx) oe) (hf : ∃ vs, oe.data = .fields vs) : CallR (X.suite a ((a, oe) :: pn)) (.builtin "isinstance") (rIsX X.K D a dx) := by
  intro pins s σ H xs us Q I r h
  obtain ⟨c, cv, b, fs, rfl, hcv, e, hd, q⟩ := h
  cases r with
  | cons rx rr =>
    cases rr with
    | cons rt rr2 =>
      cases rr2
      cases rx
      have ec := hcv _ rt
      subst ec
      have hp := I.pin (a, oe) (List.mem_append.mpr (.inl List.mem_cons_self))
      obtain ⟨vs, hv⟩ := hf
      obtain ⟨mA, ⟨o, es, ep, ho, _⟩, _⟩ := I.hok dx _ hd
      have J : PySem.W.InstAt s.heap a oe D (some o) := ⟨hp.1, hz.1, by unfold PySem.W.notCls; rw [hv], by rw [hz.2]; exact ho⟩
      refine PySem.W.kia_one (PySem.W.kitx_excX C.hg C.hk C.hs C.hd C.ha C.hn C.ht C.hm) I.kIn J e (by intro h; cases h) fun tk => ?_
      exact ⟨.bl b, H, I.kept fun _ _ z => z, rfl, q⟩
end Mi
namespace Mi
open PySem PySem.Spec PyProof.Rows L2
abbrev XdO (v : V) : HO := .xd [(("value" : Str), v)]
def SimX (K : PySem.W.Frag) (cl : CL) (E : XK) (i : Nat) (a dx : Addr) (dv : D) (te : TE) (m : M D) : Prop := ∀ (zA : Zp) (F B H : Hp) (es : En) (σ : L2.St) (Q : VK), Rel K cl zA F B H es σ → σ[i]? = some (some (.ref a)) →
  (∃ v, F dx = some (XdO v) ∧ At K cl B v dv) → Po K cl E F B (m es) (fun d es' B' H' => ∀ v, Rel K cl zA F B' H' es' σ → At K cl B' v d → Q v H') → te σ H Q
def SimXA (K : PySem.W.Frag) (cl : CL) (E : XK) (i : Nat) (a dx : Addr) (dv : D) (ta : TA) (m : M (List D)) : Prop := ∀ (zA : Zp) (F B H : Hp) (es : En) (σ : L2.St) (Q : List V → Hp → Prop), Rel K cl zA F B H es σ → σ[i]? = some (some (.ref a)) →
  (∃ v, F dx = some (XdO v) ∧ At K cl B v dv) → Po K cl E F B (m es) (fun ds es' B' H' => ∀ vs, Rel K cl zA F B' H' es' σ → AtL K cl B' vs ds → Q vs H') → ta σ H Q
def SimXS (K : PySem.W.Frag) (cl : CL) (E : XK) (i : Nat) (a dx : Addr) (dv : D) (t : TS) (m : M Out) : Prop := ∀ (zA : Zp) (F B H : Hp) (es : En) (σ : L2.St) (Dn : Ends), Rel K cl zA F B H es σ → σ[i]? = some (some (.ref a)) →
  (∃ v, F dx = some (XdO v) ∧ At K cl B v dv) → Po K cl E F B (m es) (EndP K cl zA F Dn) → t Dn σ H
section
variable {K : PySem.W.Frag} {cl : CL} {E : XK} {i : Nat} {a dx : Addr} {dv : D}
theorem SimX.of {te : TE} {m : M D} (h : SimE K cl E te m) : SimX K cl E i a dx dv te m := fun zA F B H es σ Q r _ _ p => h zA F B H es σ Q r p
theorem simX_val {C : Addr} : SimX K cl E i a dx dv (tXf a (.ref C) (some dx) C "value" (tVar i)) (mC dv) := by
  intro zA F B H es σ Q r hs hv h
  obtain ⟨v, hF, av⟩ := hv
  exact ⟨.ref a, hs, rfl, rfl, dx, _, v, rfl, r.fh _ _ hF, rfl, Po.ret0 h H v r av⟩
theorem simX_isa {C : Addr} {T : String} {b : Bool} (hk : PySem.W.kitOne K (.ref C) (.type T) = some b) : SimX K cl E i a dx dv (tCB (rIsX K C a dx) (tCons (tVar i) (tCons (tC (.ty T)) tNil))) (mC (.bl b)) := by
  intro zA F B H es σ Q r hs hv h
  obtain ⟨v, hF, av⟩ := hv
  exact ⟨.ref a, hs, .ty T, .type T, b, _, rfl, fun u e => by cases e; rfl, hk, r.fh _ _ hF, Po.ret0 h H (.bl b) r (.bl b)⟩
theorem simXA_nil : SimXA K cl E i a dx dv tNil mNil := fun zA F B H es σ Q r _ _ h => Po.ret0 h H [] r .nil
theorem simXA_cons {te : TE} {m : M D} {ta : TA} {ms : M (List D)} (hx : SimX K cl E i a dx dv te m) (hr : SimXA K cl E i a dx dv ta ms) : SimXA K cl E i a dx dv (tCons te ta) (mCons m ms) := by
  intro zA F B H es σ Q r hs hv h
  refine hx _ F B H es σ _ r hs hv (Po.imp (Po.bnd h) fun d es1 B1 H1 e1 _ h1 v r1 av => ?_)
  obtain ⟨w, hF, aw⟩ := hv
  refine hr _ F B1 H1 es1 σ _ r1 hs ⟨w, hF, aw.up e1⟩ (Po.imp (Po.bnd h1) fun ds es2 B2 H2 e2 _ h2 vs r2 avs => ?_)
  exact Po.ret0 h2 H2 (v :: vs) r2 (.cons (av.up e2) avs)
theorem simX_lst {ta : TA} {ma : M (List D)} (ha : SimXA K cl E i a dx dv ta ma) : SimX K cl E i a dx dv (tLst ta) (mLst ma) := by
  intro zA F B H es σ Q r hs hv h
  refine ha _ F B H es σ _ r hs hv (Po.imp (Po.bnd h) fun ds es1 B1 H1 _ _ h1 vs r1 a => ?_)
  obtain ⟨d, hd, hk⟩ := Po.opt h1
  obtain ⟨hz, rfl⟩ := fit_ok hd
  refine ⟨by rw [a.len]; exact hz, fun p n => ?_⟩
  exact FinE.lst (fun v B' H' s f r' a' => hk B' H' s f v r' a') r1 n a
theorem simX_tup {ta : TA} {ma : M (List D)} (ha : SimXA K cl E i a dx dv ta ma) : SimX K cl E i a dx dv (tTup ta) (mTup ma) := by
  intro zA F B H es σ Q r hs hv h
  refine ha _ F B H es σ _ r hs hv (Po.imp (Po.bnd h) fun ds es1 B1 H1 _ _ h1 vs r1 a => ?_)
  obtain ⟨d, hd, hk⟩ := Po.opt h1
  obtain ⟨hz, rfl⟩ := fit_ok hd
  refine ⟨by rw [a.len]; exact hz, fun p n => ?_⟩
  exact FinE.tup (fun v B' H' s f r' a' => hk B' H' s f v r' a') r1 n a
theorem simX_cb {ta : TA} {ma : M (List D)} {r : List V → Hp → VK → Prop} {f : List D → Option D} (ha : SimXA K cl E i a dx dv ta ma) (hr : SimC K cl r f) : SimX K cl E i a dx dv (tCB r ta) (mCB f ma) := by
  intro zA F B H es σ Q r hs hv h
  refine ha _ F B H es σ _ r hs hv (Po.imp (Po.bnd h) fun ds es1 B1 H1 _ _ h1 vs r1 a => ?_)
  obtain ⟨d, hd, hk⟩ := Po.opt h1
  exact hr _ F B1 H1 es1 σ vs ds d Q r1 a hd fun v B' H' s f r' a' => hk B' H' s f v r' a'
theorem simXS_set {j : Nat} {te : TE} {m : M D} (he : SimX K cl E i a dx dv te m) : SimXS K cl E i a dx dv (tAsg te (gName j)) (mAsg (bName j) m) := by
  intro zA F B H es σ Dn r hs hv h
  refine he _ F B H es σ _ r hs hv (Po.imp (Po.bnd h) fun d es1 B1 H1 e1 f1 h1 v r1 a => ?_)
  exact Po.ret0 (show Po K cl E F B1 (Mi.ret Out.nx (es1.set j (.dat d))) (EndP K cl zA F Dn) from h1) H1 _ (r1.put a)
theorem simXS_ret {te : TE} {m : M D} (he : SimX K cl E i a dx dv te m) : SimXS K cl E i a dx dv (tRet te) (mRet m) := by
  intro zA F B H es σ Dn r hs hv h
  exact he _ F B H es σ _ r hs hv (Po.imp (Po.bnd h) fun d es1 B1 H1 e1 f1 h1 v r1 a => Po.ret0 (show Po K cl E F B1 (Mi.ret (Out.rt d) es1) (EndP K cl zA F Dn) from h1) H1 v σ r1 a)
theorem Rel.floorX {zA : Zp} {F B H : Hp} {es : En} {σ : L2.St} {v : V} (r : Rel K cl zA F B H es σ) (h : H dx = some (XdO v)) (n : F dx = none) : Rel K cl zA (upd F dx (XdO v)) B H es σ where
  tab := r.tab
  nb := r.nb
  nf := r.nf.upd fun _ z => by cases z
  fl := r.fl.trans (same_new n)
  bh := r.bh
  fh := fun b o e => by
    by_cases hb : b = dx
    · subst hb
      rw [upd_same] at e
      cases e
      exact h
    · rw [upd_ne hb] at e
      exact r.fh _ _ e
  len := r.len
  dat := r.dat
  own := fun i l e => by
    obtain ⟨q, ws, h1, h2, h3, h4, h5⟩ := r.own i l e
    have ne : q ≠ dx := fun z => by subst z; rw [h] at h4; cases h4
    exact ⟨q, ws, h1, h2, by rw [upd_ne ne]; exact h3, h4, h5⟩
  apart := r.apart
  zero := r.zero
theorem Rel.lowerX {zA : Zp} {F B H : Hp} {es : En} {σ : L2.St} {o : HO} (r : Rel K cl zA (upd F dx o) B H es σ) (n : F dx = none) (nl : cl.fl dx = none) : Rel K cl zA F B H es σ where
  tab := r.tab
  nb := r.nb
  nf := r.nf.low n
  fl := same_low r.fl nl
  bh := r.bh
  fh := fun b o e => r.fh _ _ (by rw [upd_ne (ne_of_none e n)]; exact e)
  len := r.len
  dat := r.dat
  own := fun i l e => by
    obtain ⟨q, ws, h1, h2, h3, h4, h5⟩ := r.own i l e
    refine ⟨q, ws, h1, h2, ?_, h4, h5⟩
    by_cases hq : q = dx
    · subst hq
      exact n
    · rw [upd_ne hq] at h3
      exact h3
  apart := r.apart
  zero := r.zero
theorem Po.floorX {α : Type} {F B : Hp} {r : R (α × En)} {o : HO} {k : α → En → Hp → Hp → Prop} (n : F dx = none) (h : Po K cl E F B r k) : Po K cl E (upd F dx o) B r k := by
  have s : Same F (upd F dx o) := same_new n
  cases r with
  | ok p => exact fun B' H' s1 f => h B' H' s1 fun x u e m => s.free (f x u e m)
  | exc c d => exact fun v dx' B' H' s1 f sf sb n1 n2 hx av => h v dx' B' H' s1 (fun x u e m => s.free (f x u e m)) (s.trans sf) sb (s.free n1) n2 hx av
  | bad => exact h
theorem Rel.unS {zA : Zp} {F B H : Hp} {es : En} {σ : L2.St} (r : Rel K cl zA F B H es σ) (i : Nat) (x : Option V) : Rel K cl zA F B H (es.set i .un) (σ.set i x) where
  tab := r.tab
  nb := r.nb
  nf := r.nf
  fl := r.fl
  bh := r.bh
  fh := r.fh
  len := by rw [List.length_set, List.length_set]; exact r.len
  dat := fun j d e => by
    by_cases hj : i = j
    · subst hj
      have hi : i < es.length := by
        have := (List.getElem?_eq_some_iff.mp e).1
        rwa [List.length_set] at this
      rw [List.getElem?_set_self hi] at e
      cases e
    · rw [List.getElem?_set_ne hj] at e ⊢
      exact r.dat j d e
  own := fun j d e => by
    by_cases hj : i = j
    · subst hj
      have hi : i < es.length := by
        have := (List.getElem?_eq_some_iff.mp e).1
        rwa [List.length_set] at this
      rw [List.getElem?_set_self hi] at e
      cases e
    · rw [List.getElem?_set_ne hj] at e ⊢
      exact r.own j d e
  apart := fun j k l m p ne e1 e2 s1 s2 => by
    have hj : i ≠ j := fun z => by
      subst z
      have hi : i < es.length := by
        have := (List.getElem?_eq_some_iff.mp e1).1
        rwa [List.length_set] at this
      rw [List.getElem?_set_self hi] at e1
      cases e1
    have hk : i ≠ k := fun z => by
      subst z
      have hi : i < es.length := by
        have := (List.getElem?_eq_some_iff.mp e2).1
        rwa [List.length_set] at this
      rw [List.getElem?_set_self hi] at e2
      cases e2
    rw [List.getElem?_set_ne hj] at e1 s1
    rw [List.getElem?_set_ne hk] at e2 s2
    exact r.apart j k l m p ne e1 e2 s1 s2
  zero := fun p l e z => by
    have hj : i ≠ 0 := fun w => by
      subst w
      have hi : 0 < es.length := by
        have := (List.getElem?_eq_some_iff.mp z).1
        rwa [List.length_set] at this
      rw [List.getElem?_set_self hi] at z
      cases z
    rw [List.getElem?_set_ne hj] at z ⊢
    exact r.zero p l e z
def mTry (i j n c0 : Nat) (g : List D → R D) (ma : M (List D)) (ms : D → M Out) : M Out := Mi.bnd ma fun ds es => if ds.length = n ∧ i < es.length then (match g ds with
  | .ok d => .ok (.nx, es.set j (.dat d))
  | .exc c d => if c = c0 then (match ms d (es.set i .un) with
    | .ok (o, es2) => .ok (o, es2.set i .un)
    | .exc c d => .exc c d
    | .bad => .bad) else .bad
  | .bad => .bad) else .bad
def tSuite (C : Addr) (t : Addr → Addr → TS) : Addr → Value → Option Addr → TS := fun a cls d Dn σ H => ∃ dx, cls = .ref C ∧ d = some dx ∧ t a dx Dn σ H
theorem Po.noExc {α : Type} {E E' : XK} {F B : Hp} {r : R (α × En)} {k : α → En → Hp → Hp → Prop} (n : ∀ c d, r ≠ .exc c d) (h : Po K cl E F B r k) : Po K cl E' F B r k := by
  cases r with
  | ok p => exact h
  | exc c d => exact absurd rfl (n c d)
  | bad => exact h
theorem sim_try {j n c0 : Nat} {g : List D → R D} {ta : TA} {ma : M (List D)} {ms : D → M Out} {t : Addr → Addr → TS} (ha : SimA K cl E ta ma) (hx : PySem.W.exmOne K (.ref (cl c0)) (.ref (cl c0)) = some true)
    (hs : ∀ (a dx : Addr) (dv : D), SimXS K cl E i a dx dv (t a dx) (ms dv)) :
    SimS K cl E (fun Dn σ H => tAsg (tCallS (spM K cl g n) (WE (wAs K (.ref (cl c0)) i (tSuite (cl c0) t) (fun cls d _ H => E cls d H) Dn)) ta) (gName j) Dn σ H) (mTry i j n c0 g ma ms) := by
  intro zA F B H es σ Dn r h
  have hp := Po.bnd h
  refine ha _ F B H es σ _ r (Po.imp hp fun ds es1 B1 H1 e1 f1 h1 vs r1 av => ?_)
  by_cases hn : ds.length = n ∧ i < es1.length
  · rw [if_pos hn] at h1
    refine ⟨ds, B1, hn.1, r1.bas, av, ?_⟩
    cases q : g ds with
    | ok d =>
      rw [q] at h1
      exact fun v B' H' s f sh sb av => h1 B' H' s (r1.frs f) _ ((r1.grow s sh sb f).put av)
    | exc c d =>
      rw [q] at h1
      dsimp only at h1
      by_cases hc : c = c0
      · subst hc
        rw [if_pos rfl] at h1
        intro v dx B' H' s f sh sb nH nb hd av
        refine ⟨true, hx, fun _ a na => ⟨dx, rfl, rfl, ?_⟩, fun z => by cases z⟩
        have nF : F dx = none := r1.fhN.free nH
        have r2 : Rel K cl zA F B' H' es1 σ := r1.grow s sh sb f
        have r3 := (r2.unS i (some (.ref a))).floorX hd nF
        refine hs a dx d zA _ B' H' _ _ _ r3 (List.getElem?_set_self (by rw [← r1.len]; exact hn.2)) ⟨v, upd_same, av⟩ ?_
        refine Po.floorX nF ?_
        have h2 := Po.up s (r1.frs f) h1
        cases q2 : ms d (es1.set i .un) with
        | ok p =>
          obtain ⟨o, es2⟩ := p
          rw [q2] at h2
          intro B'' H'' s2 f2
          have h3 := h2 B'' H'' s2 f2
          cases o with
          | nx => exact fun σ' r' => h3 _ ((r'.lowerX nF (r1.fl.free nF)).unS i none)
          | rt d => exact fun v σ' r' a' => h3 v _ ((r'.lowerX nF (r1.fl.free nF)).unS i none) a'
          | bk => exact fun σ' r' => h3 _ ((r'.lowerX nF (r1.fl.free nF)).unS i none)
          | ct => exact fun σ' r' => h3 _ ((r'.lowerX nF (r1.fl.free nF)).unS i none)
        | exc c d => rw [q2] at h2; exact h2
        | bad => rw [q2] at h2; exact h2.elim
      · rw [if_neg hc] at h1
        exact h1.elim
    | bad => rw [q] at h1; exact h1.elim
  · rw [if_neg hn] at h1
    exact h1.elim
end
structure XXE (X : Cx) (cl : CL) (E : XK) (i : Nat) (a dx : Addr) (dv : D) (e : Expr) (t : TE) (m : M D) : Prop where
  p : PE X e t
  s : SimX X.K cl E i a dx dv t m
structure XXA (X : Cx) (cl : CL) (E : XK) (i : Nat) (a dx : Addr) (dv : D) (es : List Expr) (t : TA) (m : M (List D)) : Prop where
  p : PA X es t
  s : SimXA X.K cl E i a dx dv t m
structure XXS (X : Cx) (cl : CL) (E : XK) (i : Nat) (a dx : Addr) (dv : D) (st : Stmt) (t : TS) (m : M Out) : Prop where
  p : PS X st t
  s : SimXS X.K cl E i a dx dv t m
section
variable {X : Cx} {cl : CL} {E : XK} {i : Nat} {a dx : Addr} {dv : D} {oe : Obj} {pn : List (Addr × Obj)} {C : Addr}
theorem xx_of {e : Expr} {t : TE} {m : M D} (h : XE X cl E e t m) : XXE X cl E i a dx dv e t m := ⟨h.p, .of h.s⟩
theorem xxa_nil : XXA X cl E i a dx dv [] tNil mNil := ⟨pa_nil, simXA_nil⟩
theorem xxa_cons {e : Expr} {es : List Expr} {t : TE} {m : M D} {ts : TA} {ms : M (List D)} (h : XXE X cl E i a dx dv e t m) (hr : XXA X cl E i a dx dv es ts ms) (hs : starEach (e :: es) X.env = (false, eval e X.env) :: starEach es X.env := by rfl) : XXA X cl E i a dx dv (e :: es) (tCons t ts) (mCons m ms) := ⟨pa_cons h.p hr.p hs, simXA_cons h.s hr.s⟩
theorem xx_lst {es : List Expr} {t : TA} {m : M (List D)} {pos : Pos} (h : XXA X cl E i a dx dv es t m) : XXE X cl E i a dx dv (.List es pos) (tLst t) (mLst m) := ⟨pe_lst h.p, simX_lst h.s⟩
theorem xx_tup {es : List Expr} {t : TA} {m : M (List D)} {pos : Pos} {k : Nat} (h : XXA X cl E i a dx dv es t m) : XXE X cl E i a dx dv (.Tuple es k pos) (tTup t) (mTup m) := ⟨pe_tup h.p, simX_tup h.s⟩
theorem xx_val {Dd fI : Addr} {n : Str} {p pos : Pos} (T : RoomX.ClsTxt X.K C Dd fI) (hz : Zc (.ref C) (some dx) oe) (hf : ∃ vs, oe.data = .fields vs)
    (hN : X.N[i]? = some n := by rfl) (hv : Vis X.env.scope n := by first | exact Or.inl rfl | exact Or.inr (Or.inl rfl) | exact Or.inr (Or.inr rfl)) (hd : (n == ("__debug__" : Str)) = false := by decide) (hcd : (n == ("__classdict__" : Str)) = false := by decide) (hb : attributeBase (.Name n p) "value" X.env (eval (.Name n p) X.env) = eval (.Name n p) X.env := by rfl) :
    XXE (X.suite a ((a, oe) :: pn)) cl E i a dx dv (.Attribute (.Name n p) "value" pos) (tXf a (.ref C) (some dx) C "value" (tVar i)) (mC dv) :=
  ⟨pe_xf ⟨T.ga, T.gg, T.exC, T.hdC⟩ T.noN hz hf (pe_var hN hv hd hcd) hb, simX_val⟩
theorem xx_isa {T : String} {b : Bool} {n x : Str} {p p1 p2 pos : Pos} (Cc : ExcC X.K C) (hk : PySem.W.kitOne X.K (.ref C) (.type T) = some b) (hz : Zc (.ref C) (some dx) oe) (hf : ∃ vs, oe.data = .fields vs) (mi : X.mg "isinstance" = none) (mt : X.mg x = none) (hv : bootBuiltins x = some (.type T))
    (hN : X.N[i]? = some n := by rfl) (hvi : Vis X.env.scope n := by first | exact Or.inl rfl | exact Or.inr (Or.inl rfl) | exact Or.inr (Or.inr rfl)) (hd : (n == ("__debug__" : Str)) = false := by decide) (hcd : (n == ("__classdict__" : Str)) = false := by decide)
    (hg : Gl X "isinstance" := by rfl) (hgx : Gl X x := by rfl) (hn : x ≠ "__name__" := by decide) (hdb : (x == ("__debug__" : Str)) = false := by decide)
    (h1 : starEach [.Name n p1, .Name x p2] X.env = (false, eval (.Name n p1) X.env) :: starEach [.Name x p2] X.env := by rfl) (h2 : starEach [.Name x p2] X.env = (false, eval (.Name x p2) X.env) :: starEach [] X.env := by rfl) (hpl : (backTo pos (starEach [.Name x p2] X.env)).any (·.1) = false := by rfl) :
    XXE (X.suite a ((a, oe) :: pn)) cl E i a dx dv (.Call (.Name "isinstance" p) [.Name n p1, .Name x p2] [] pos) (tCB (rIsX X.K C a dx) (tCons (tVar i) (tCons (tC (.ty T)) tNil))) (mC (.bl b)) :=
  ⟨pe_callB (call_isX Cc hz hf) hg mi boot_isinstance (pa_cons (pe_var hN hvi hd hcd) (pa_cons (pe_bltn hgx mt hv rfl hn hdb) pa_nil h2) h1) (by decide) (by decide) h1 hpl, simX_isa hk⟩
theorem xxs_set (j : Nat) {e : Expr} {te : TE} {me : M D} {x : Str} {p pos : Pos} (hN : X.N.Nodup) (he : XXE X cl E i a dx dv e te me) (hi : X.N[j]? = some x := by rfl) (hx : Loc X.env.scope x := by first | exact Or.inl rfl | exact Or.inr rfl) (hs : swapsWith e (some (.Name x p)) pos.line X.env = pure false := by rfl)
    (hf : X.fn x = true ∨ X.env.scope.names.lookup x = some .local := by first | exact .inl rfl | exact .inr rfl | assumption) : XXS X cl E i a dx dv (.Assign [.Name x p] e pos) (tAsg te (gName j)) (mAsg (bName j) me) := ⟨ps_set hN hi hx he.p hs hf, simXS_set he.s⟩
theorem xxs_ret {e : Expr} {te : TE} {me : M D} {pos : Pos} (he : XXE X cl E i a dx dv e te me) : XXS X cl E i a dx dv (.Return (some e) pos) (tRet te) (mRet me) := ⟨ps_ret he.p, simXS_ret he.s⟩
theorem xs_try (i j c0 : Nat) {K : PySem.W.Frag} {e : Expr} {es : List Expr} {ta : TA} {ma : M (List D)} {ms : D → M Out} {t : Addr → Addr → TS} {x y n xc : Str} {p py p3 pos pos2 pos3 pos4 : Pos} {k m : Nat} {ps : List Str} {g : List D → R D} {b₀ : Stmt}
    (hN0 : X.N.Nodup) (T : Fact X.prog X.w K X.mg X.base x k ps (spM K cl g m)) (hr : RoomG k X.A) (gC : X.mg xc = some (.ref (cl c0))) (hxm : PySem.W.exmOne K (.ref (cl c0)) (.ref (cl c0)) = some true) (tk : Takes X (fun cls d _ H => E cls d H))
    (ha : ∀ (pn : List (Addr × Obj)) (xe : Value → Shared → Prop), XA (X.tr pn xe) cl E (e :: es) ta ma)
    (hsu : ∀ (a dx : Addr) (dv : D) (oe : Obj) (pn : List (Addr × Obj)), Zc (.ref (cl c0)) (some dx) oe → (∃ vs, oe.data = .fields vs) → XXS (X.suite a ((a, oe) :: pn)) cl E i a dx dv b₀ (t a dx) (ms dv))
    (hK : X.K = K := by rfl) (hs : X.stack = X.env :: X.outer := by rfl) (hf : X.env.frame = some X.env.locals := by rfl) (hi : X.N[i]? = some n := by rfl) (hln : X.env.kindOf n = some .local := by rfl) (hgc : Gl X xc := by rfl) (hdc : (xc == ("__debug__" : Str)) = false := by decide)
    (hg : Gl X x := by rfl) (hj : X.N[j]? = some y := by rfl) (hy : Loc X.env.scope y := by first | exact Or.inl rfl | exact Or.inr rfl) (hdb : (x == ("__debug__" : Str)) = false := by decide)
    (he : starEach (e :: es) X.env = (false, eval e X.env) :: starEach es X.env := by rfl) (hpl : (backTo pos (starEach es X.env)).any (·.1) = false := by rfl)
    (hsw : swapsWith (.Call (.Name x p) (e :: es) [] pos) (some (.Name y py)) pos2.line X.env = pure false := by rfl)
    (hfn : X.fn y = true ∨ X.env.scope.names.lookup y = some .local := by first | exact .inl rfl | exact .inr rfl | assumption) :
    XS X cl E (.Try [.Assign [.Name y py] (.Call (.Name x p) (e :: es) [] pos) pos2] [.ExceptHandler (some (.Name xc p3)) (some n) [b₀] pos3] [] [] pos4)
      (fun Dn σ H => tAsg (tCallS (spM K cl g m) (WE (wAs K (.ref (cl c0)) i (tSuite (cl c0) t) (fun cls d _ H => E cls d H) Dn)) ta) (gName j) Dn σ H) (mTry i j m c0 g ma ms) := by
  subst hK
  obtain ⟨f, fd, G, hm, hk, hb⟩ := T.ex
  refine ⟨ps_try_as (tb := fun W => tAsg (tCallS (spM X.K cl g m) (WE W) ta) (gName j)) (ts := tSuite (cl c0) t) (Wout := fun cls d _ H => E cls d H) hs hf hN0 hi hln ⟨hgc, hdc, .inl gC⟩ tk (fun W pn xe tk' po => ?_) (fun a oe cls d pn hz hfv => ?_), sim_try (ha [] X.xe).s hxm fun a dx dv => ?_⟩
  · exact pss_one (ps_set hN0 hj hy (pe_callSG G hr hg hm hk hb (fun σ => passAt tk' σ) (ha pn xe).p hdb he hpl) hsw hfn)
  · refine ⟨fun pins s σ H D I h => ?_⟩
    obtain ⟨dx, rfl, rfl, h⟩ := h
    exact (pss_one (hsu a dx .non oe pn hz hfv).p).run pins s σ H D I h
  · exact (hsu a dx dv ⟨.ref (cl c0), some dx, .fields #[], #[]⟩ [] ⟨rfl, rfl⟩ ⟨_, rfl⟩).s
end
end Mi
namespace RepX
open PySem PySem.Spec PyProof.Rows L2 PySem.Calls CwR
def rep1 (x y z : Str) : Str := if ((Builtin.Str.occurrences x y 0 x.length 1).isEmpty || y.length == 0 && z.length == 0) = true then x
  else Builtin.Str.glued z (Builtin.Str.partsBetween x (Builtin.Str.occurrences x y 0 x.length 1) y.length)
theorem gives_rep1 (x y z : Str) (t u v k : Tok)
    (hf : ((Builtin.Str.occurrences x y 0 x.length 1).isEmpty || y.length == 0 && z.length == 0) = false → (u == 0 || v == 0) = false ∧ (u == v) = false ∧ (y == z) = false ∧ Builtin.Str.tooLong (x.length + (Builtin.Str.occurrences x y 0 x.length 1).length * z.length) = false) :
    Gives (Builtin.«str.replace» { pos := [Value.str x t, Value.str y u, Value.str z v, Value.int 1 k] }) (if ((Builtin.Str.occurrences x y 0 x.length 1).isEmpty || y.length == 0 && z.length == 0) = true then Made.val (Value.str x t) else Made.str (Builtin.Str.glued z (Builtin.Str.partsBetween x (Builtin.Str.occurrences x y 0 x.length 1) y.length))) := by
  show Gives (if ((Builtin.Str.occurrences x y 0 x.length 1).isEmpty || y.length == 0 && z.length == 0) = true then do
      rule "str.replace.nothing"
      ret (Value.str x t)
    else do
      let same ← isSame (Value.str y u) (Value.str z v)
      if same = true then do
        rule "str.replace.old-is-new"
        ret (Value.str x t)
      else if Builtin.Str.tooLong (x.length + (Builtin.Str.occurrences x y 0 x.length 1).length * z.length) = true then unsupported "str.replace:memory"
      else retStr (Builtin.Str.glued z (Builtin.Str.partsBetween x (Builtin.Str.occurrences x y 0 x.length 1) y.length))) _
  cases hc : ((Builtin.Str.occurrences x y 0 x.length 1).isEmpty || y.length == 0 && z.length == 0) with
  | true => exact Gives.rule (Gives.of_eq rfl)
  | false =>
    obtain ⟨h0, huv, hyz, hl⟩ := hf hc
    rw [isSame_str_other y z u v h0 huv hyz, hl]
    exact Gives.of_eq rfl
theorem SC_rep1 {prog : Program} {w : World} {A : Around} {E : Value → Shared → Prop} {s : Shared} {x y z : Str} {t u v k : Tok} {Q : Value → Shared → Prop} (hu : u ≠ 0) (hv : v ≠ 0) (huv : u ≠ v) (hyz : (y == z) = false)
    (hb : x.length + z.length ≤ sizeLine) (hb2 : (rep1 x y z).length ≤ sizeLine) (hq : ∀ (t' : Tok) (k : Nat), Q (.str (rep1 x y z) t') { s with toks := k }) :
    wpAny (model prog w) A (call (.builtin "str.replace") [.str x t, .str y u, .str z v, .int 1 k]) Q E s := by
  have hl : Builtin.Str.tooLong (x.length + (Builtin.Str.occurrences x y 0 x.length 1).length * z.length) = false := by
    have h1 := StrLaws.occ_length_le x y 0 x.length 1
    have h2 := Nat.mul_le_mul_right z.length h1
    unfold Builtin.Str.tooLong
    exact decide_eq_false (by omega)
  refine call_gives F.slot_str_replace (typeIs_str _ _ _) F.entry_str_replace (F.args_str_replace_4 _ _ _ _) (gives_rep1 x y z t u v k fun _ => ⟨by simp [hu, hv], by simp [huv], hyz, hl⟩) ?_
  unfold rep1 at hq hb2
  cases hc : ((Builtin.Str.occurrences x y 0 x.length 1).isEmpty || y.length == 0 && z.length == 0) with
  | true =>
    rw [hc] at hq
    exact hq t s.toks
  | false =>
    rw [hc] at hq hb2
    exact ⟨hb2, hq s.toks (s.toks + 1)⟩
def tRep1 (to : TE) (y z : Str) : TE := fun σ H Q => to σ H fun v H1 => ∃ x, v = V.str x ∧ x.length + z.length ≤ sizeLine ∧ (rep1 x y z).length ≤ sizeLine ∧ Q (.str (rep1 x y z)) H1
theorem pet_rep1 {X : Cx} {o : Expr} {to : TE} {y z : Str} {j k m : Nat} {c0 c1 c2 apos pos : Pos} (ho : PE X o to) (hyz : (y == z) = false := by decide)
    (hst : starEach [.Constant (.str y) j c0, .Constant (.str z) k c1, .Constant (.int 1) m c2] X.env = [(false, eval (.Constant (.str y) j c0) X.env), (false, eval (.Constant (.str z) k c1) X.env), (false, eval (.Constant (.int 1) m c2) X.env)] := by rfl)
    (hbase : attributeBase o "replace" X.env (eval o X.env) = eval o X.env := by rfl) (hline : (apos.endLine == pos.line) = true := by rfl) :
    PET X (.Call (.Attribute o "replace" apos) [.Constant (.str y) j c0, .Constant (.str z) k c1, .Constant (.int 1) m c2] [] pos) (tRep1 to y z) := by
  intro pins s σ H Q h0 I h
  refine wpAny_Call_method_lateS hbase (by rw [hst]; rfl) hline ?_
  rw [hst]
  refine wpAny_mono (wpAny_toks (ho.run pins s σ H _ I h)) (fun v s1 q => ?_) fun _ _ z => z.2
  obtain ⟨hk, v', H1, I1, r1, x, rfl, hb, hb2, q⟩ := q
  obtain ⟨tx, rfl⟩ := r1
  refine ⟨"str", "str.replace", F.plainAttrs_str, F.slot_str_replace, F.type_str_replace, typeIs_str s1 x tx, (fun a e => nomatch e), ?_⟩
  refine callWith_builtin (by rfl) (evalArgs_plain (spliced_cons (Constant_str (k := j) (pos := c0) (spliced_cons (Constant_str (k := k) (pos := c1) (spliced_cons (wpAny_Constant_int (k := m) (pos := c2) (spliced_nil ?_))))))))
  refine SC_rep1 (by show s1.toks ≠ 0; omega) (by show s1.toks + 1 ≠ 0; omega) (by show s1.toks ≠ s1.toks + 1; omega) hyz hb hb2 fun t' k => ?_
  exact ⟨.str (rep1 x y z), H1, I1.tok k, ⟨t', rfl⟩, q⟩
def PEU (X : Cx) (e : Expr) (t : TE) : Prop := ∀ (pins : List (Addr × Obj)) (s : Shared) (σ : L2.St) (H : Hp) (Q : VK), L2.Inv X pins σ H s → t σ H Q → wpAny (model X.prog X.w) X.A (eval e X.env) (fun v s' => 1 ≤ s'.toks ∧ EP X pins σ Q v s') X.xe s
def PAU (X : Cx) (es : List Expr) (t : TA) : Prop := ∀ (pos : Pos) (pins : List (Addr × Obj)) (s : Shared) (σ : L2.St) (H : Hp) (Q : List V → Hp → Prop), L2.Inv X pins σ H s → t σ H Q → wpAny (model X.prog X.w) X.A (spliced (backTo pos (starEach es X.env))) (fun v s' => 1 ≤ s'.toks ∧ AP X pins σ Q v s') X.xe s
def PSU (X : Cx) (st : Stmt) (t : TS) : Prop := ∀ (pins : List (Addr × Obj)) (s : Shared) (σ : L2.St) (H : Hp) (Dn : Ends), L2.Inv X pins σ H s → t Dn σ H → wpAny (model X.prog X.w) X.A (exec st X.env) (fun f s' => 1 ≤ s'.toks ∧ SP X pins Dn f s') X.xe s
theorem peu_m1 {X : Cx} {c : Str} {k : Nat} {cp : Pos} {e : Expr} {te : TE} {id : String} {name : Str} {apos pos : Pos} {r : V → List V → Hp → VK → Prop} (slot : Slot "str" name id) (ty : typeOf (.builtin id) = pure (.type "method_descriptor")) (rule : MtR X id r) (he : PE X e te)
    (hs : starEach [e] X.env = [(false, eval e X.env)] := by rfl) (hbase : attributeBase (.Constant (.str c) k cp) name X.env (eval (.Constant (.str c) k cp) X.env) = eval (.Constant (.str c) k cp) X.env := by rfl) (hline : (apos.endLine == pos.line) = true := by rfl) :
    PEU X (.Call (.Attribute (.Constant (.str c) k cp) name apos) [e] [] pos) (tM1 r (tC (.str c)) te) := by
  intro pins s σ H Q I h
  refine Call_method1 hbase hs hline (Constant_str ?_)
  obtain ⟨_, h⟩ := h
  refine ⟨"str", id, F.plainAttrs_str, slot, ty, typeIs_str _ _ _, (fun a e => nomatch e), ?_⟩
  show wpAny _ _ (callWith pos (Value.builtin id) [Value.str c s.toks] [(false, eval e X.env)] []) _ _ _
  refine callWith_builtin (by rfl) (evalArgs_plain (spliced_cons ?_))
  refine wpAny_mono (wpAny_toks (he.run pins _ σ H _ (I.tok _) h)) (fun u s2 q => ?_) fun _ _ z => z.2
  obtain ⟨hk, y, H2, I2, r2, q2⟩ := q
  have hk : s.toks + 1 ≤ s2.toks := hk
  refine spliced_nil ?_
  refine wpAny_mono (wpAny_toks (rule pins s2 σ H2 (.str c) [y] (.str c s.toks) [u] Q I2 ⟨_, rfl⟩ (.cons r2 .nil) q2)) (fun v s3 q => ⟨by have := q.1; omega, q.2⟩) fun _ _ z => z.2
theorem pau_cons {X : Cx} {e : Expr} {es : List Expr} {te : TE} {ta : TA} (ha : PEU X e te) (hr : PAT X es ta) (hs : starEach (e :: es) X.env = (false, eval e X.env) :: starEach es X.env := by rfl) : PAU X (e :: es) (tCons te ta) := by
  intro pos pins s σ H Q I h
  rw [hs]
  refine spliced_cons (wpAny_mono (ha pins s σ H _ I h) (fun v s1 q => ?_) fun _ _ z => z)
  obtain ⟨hk, x, H1, I1, r1, q1⟩ := q
  refine wpAny_mono (wpAny_toks (hr pos pins s1 σ H1 _ hk I1 q1)) (fun us s2 q => ?_) fun _ _ z => z.2
  obtain ⟨hk2, xs, H2, I2, r2, q2⟩ := q
  exact ⟨Nat.le_trans hk hk2, x :: xs, H2, I2, .cons r1 r2, q2⟩
theorem peu_lst {X : Cx} {es : List Expr} {ta : TA} {pos : Pos} (h : PAU X es ta) : PEU X (.List es pos) (tLst ta) := by
  intro pins s σ H Q I hq
  refine wpAny_List_spliced (wpAny_mono (h pos pins s σ H _ I hq) (fun us s1 q => ?_) fun _ _ z => z)
  obtain ⟨hk, xs, H1, I1, r, z, q⟩ := q
  have hf := I1.hok.fresh (Nat.le_refl s1.heap.objs.size)
  exact ⟨by rw [← r.length]; exact z, hk, .ref s1.heap.objs.size, upd H1 s1.heap.objs.size (.lst xs), I1.laid (fun b u e => Heap.get?_push_of_some _ e) (Nat.le_refl _) ⟨z, us, 0, r, Heap.get?_push_size s1.heap rfl⟩, rfl, q _ hf⟩
theorem peu_op {X : Cx} {e f : Expr} {te tf : TE} {pos : Pos} {op : Operator} {r : R2} (ho : OpR X (binaryOp op) r) (ha : PE X e te) (hb : PEU X f tf) : PEU X (.BinOp e op f pos) (tOp r te tf) := by
  intro pins s σ H Q I h
  refine wpAny_BinOp (thn (ha.run pins s σ H _ I h) fun v s1 q => ?_)
  obtain ⟨x, H1, I1, r1, q1⟩ := q
  refine wpAny_mono (hb pins s1 σ H1 _ I1 q1) (fun u s2 q => ?_) fun _ _ z => z
  obtain ⟨hk, y, H2, I2, r2, q2⟩ := q
  exact wpAny_mono (wpAny_toks (ho pins s2 σ H2 x y v u Q I2 r1 r2 q2)) (fun w s3 q => ⟨Nat.le_trans hk q.1, q.2⟩) fun _ _ z => z.2
theorem psu_set {X : Cx} {pos : Pos} {i : Nat} {x : Str} {e : Expr} {te : TE} {pos' : Pos} (hN : X.N.Nodup) (hi : X.N[i]? = some x) (hx : Loc X.env.scope x) (he : PEU X e te) (hs : swapsWith e (some (.Name x pos')) pos.line X.env = pure false) (hf : X.fn x = true ∨ X.env.scope.names.lookup x = some .local) : PSU X (.Assign [.Name x pos'] e pos) (tAsg te (gName i)) := by
  intro pins s σ H Dn I h
  refine wpAny_Assign_Name (wpAny_mono (he pins s σ H _ I h) (fun v s1 q => ?_) fun _ _ z => z) hs
  obtain ⟨hk, y, H1, I1, r1, q1⟩ := q
  exact wpAny_mono (wpAny_toks (store_ok (Q := fun f s' => SP X pins Dn .next s') I1 hN hi hx r1 (fun s2 I2 => ⟨_, H1, I2, q1⟩) hf)) (fun f s2 q => ⟨Nat.le_trans hk q.1, q.2⟩) fun _ _ z => z.2
theorem pss_consU {X : Cx} {st : Stmt} {rest : List Stmt} {t u : TS} (h1 : PSU X st t) (h2 : PSsT X rest u) : PSs X (st :: rest) (tSeq t u) := by
  refine ⟨fun pins s σ H Dn I h => ?_⟩
  refine wpAny_execs_cons (wpAny_mono (h1 pins s σ H { Dn with nx := u Dn } I h) (fun f s1 q => ?_) fun _ _ z => z)
  obtain ⟨hk, q⟩ := q
  cases f with
  | next =>
    obtain ⟨σ', H', I', q⟩ := q
    exact h2 pins s1 σ' H' Dn hk I' q
  | brk => exact q
  | cont => exact q
  | ret v => exact q
end RepX
namespace Mi
open PySem PySem.Spec PyProof.Rows L2 RepX
def dRepl (y z : Str) : D → Option D
  | .str x => okB (decide (x.length + (x.length + 1) * z.length ≤ 16777216)) (.str (Txt.replace x y z))
  | _ => none
def dRep1 (y z : Str) : D → Option D
  | .str x => okB (decide (x.length + z.length ≤ sizeLine ∧ (rep1 x y z).length ≤ sizeLine)) (.str (rep1 x y z))
  | _ => none
section
variable {K : PySem.W.Frag} {cl : CL} {E : XK}
theorem sim_repl {te : TE} {m : M D} {y z : Str} (ha : SimE K cl E te m) : SimE K cl E (CwR.tReplC te y z) (mUn (dRepl y z) m) := by
  intro zA F B H es σ Q r h
  refine ha _ F B H es σ _ r (Po.imp (Po.bnd h) fun d es1 B1 H1 e1 _ h1 v r1 a => ?_)
  obtain ⟨d', hd, hk⟩ := Po.opt h1
  cases a with
  | str x =>
    obtain ⟨hz, rfl⟩ := okB_ok hd
    exact ⟨x, rfl, of_decide_eq_true hz, hk B1 H1 (Same.rfl' _) (Frs.refl _ _) _ r1 (.str _)⟩
  | _ => cases hd
theorem sim_rep1 {te : TE} {m : M D} {y z : Str} (ha : SimE K cl E te m) : SimE K cl E (tRep1 te y z) (mUn (dRep1 y z) m) := by
  intro zA F B H es σ Q r h
  refine ha _ F B H es σ _ r (Po.imp (Po.bnd h) fun d es1 B1 H1 e1 _ h1 v r1 a => ?_)
  obtain ⟨d', hd, hk⟩ := Po.opt h1
  cases a with
  | str x =>
    obtain ⟨hz, rfl⟩ := okB_ok hd
    have hz := of_decide_eq_true hz
    exact ⟨x, rfl, hz.1, hz.2, hk B1 H1 (Same.rfl' _) (Frs.refl _ _) _ r1 (.str _)⟩
  | _ => cases hd
end
structure XET (X : Cx) (cl : CL) (E : XK) (e : Expr) (t : TE) (m : M D) : Prop where
  p : PET X e t
  s : SimE X.K cl E t m
structure XAT (X : Cx) (cl : CL) (E : XK) (e : List Expr) (t : TA) (m : M (List D)) : Prop where
  p : PAT X e t
  s : SimA X.K cl E t m
structure XEU (X : Cx) (cl : CL) (E : XK) (e : Expr) (t : TE) (m : M D) : Prop where
  p : PEU X e t
  s : SimE X.K cl E t m
structure XAU (X : Cx) (cl : CL) (E : XK) (e : List Expr) (t : TA) (m : M (List D)) : Prop where
  p : PAU X e t
  s : SimA X.K cl E t m
structure XST (X : Cx) (cl : CL) (E : XK) (e : Stmt) (t : TS) (m : M Out) : Prop where
  p : PST X e t
  s : SimS X.K cl E t m
structure XSU (X : Cx) (cl : CL) (E : XK) (e : Stmt) (t : TS) (m : M Out) : Prop where
  p : PSU X e t
  s : SimS X.K cl E t m
structure XBT (X : Cx) (cl : CL) (E : XK) (e : List Stmt) (t : TS) (m : M Out) : Prop where
  p : PSsT X e t
  s : SimS X.K cl E t m
section
variable {X : Cx} {cl : CL} {E : XK} {e f o : Expr} {es : List Expr} {te tf to : TE} {me mf mo : M D} {ta : TA} {ma : M (List D)} {ts us : TS} {ms ns : M Out} {pos : Pos}
theorem xet_of (h : XE X cl E e te me) : XET X cl E e te me := ⟨CwR.PET.of h.p, h.s⟩
theorem xet_repl {y z : Str} {j k : Nat} {c0 c1 apos : Pos} (ho : XE X cl E o to mo) (hyz : (y == z) = false := by decide)
    (hst : starEach [.Constant (.str y) j c0, .Constant (.str z) k c1] X.env = [(false, eval (.Constant (.str y) j c0) X.env), (false, eval (.Constant (.str z) k c1) X.env)] := by rfl)
    (hbase : attributeBase o "replace" X.env (eval o X.env) = eval o X.env := by rfl) (hline : (apos.endLine == pos.line) = true := by rfl) :
    XET X cl E (.Call (.Attribute o "replace" apos) [.Constant (.str y) j c0, .Constant (.str z) k c1] [] pos) (CwR.tReplC to y z) (mUn (dRepl y z) mo) := ⟨CwR.pet_replC ho.p hyz hst hbase hline, sim_repl ho.s⟩
theorem xet_rep1 {y z : Str} {j k m : Nat} {c0 c1 c2 apos : Pos} (ho : XE X cl E o to mo) (hyz : (y == z) = false := by decide)
    (hst : starEach [.Constant (.str y) j c0, .Constant (.str z) k c1, .Constant (.int 1) m c2] X.env = [(false, eval (.Constant (.str y) j c0) X.env), (false, eval (.Constant (.str z) k c1) X.env), (false, eval (.Constant (.int 1) m c2) X.env)] := by rfl)
    (hbase : attributeBase o "replace" X.env (eval o X.env) = eval o X.env := by rfl) (hline : (apos.endLine == pos.line) = true := by rfl) :
    XET X cl E (.Call (.Attribute o "replace" apos) [.Constant (.str y) j c0, .Constant (.str z) k c1, .Constant (.int 1) m c2] [] pos) (tRep1 to y z) (mUn (dRep1 y z) mo) := ⟨pet_rep1 ho.p hyz hst hbase hline, sim_rep1 ho.s⟩
theorem xat_nil : XAT X cl E [] tNil mNil := ⟨pat_nil, sim_nil⟩
theorem xat_cons (h : XET X cl E e te me) (hr : XAT X cl E es ta ma) (hs : starEach (e :: es) X.env = (false, eval e X.env) :: starEach es X.env := by rfl) : XAT X cl E (e :: es) (tCons te ta) (mCons me ma) := ⟨pat_cons h.p hr.p hs, sim_cons h.s hr.s⟩
theorem xet_lst (h : XAT X cl E es ta ma) : XET X cl E (.List es pos) (tLst ta) (mLst ma) := ⟨pet_lst h.p, sim_lst h.s⟩
theorem xet_bin {op : Operator} {r : R2} {f' : D → D → Option D} (ho : OpR X (binaryOp op) r) (hs : SimR2 X.K cl r f') (ha : XET X cl E e te me) (hb : XET X cl E f tf mf) : XET X cl E (.BinOp e op f pos) (tOp r te tf) (mBin f' me mf) := ⟨CwR.pet_op ho ha.p hb.p, sim_bin ha.s hb.s hs⟩
theorem xst_ret (h : XET X cl E e te me) : XST X cl E (.Return (some e) pos) (tRet te) (mRet me) := ⟨CwR.pst_ret h.p, sim_ret h.s⟩
theorem xbt_one {st : Stmt} (h : XST X cl E st ts ms) : XBT X cl E [st] ts ms := by
  refine ⟨fun pins s σ H Dn h0 I q => ?_, h.s⟩
  have := psst_cons h.p CwR.psst_nil pins s σ H Dn h0 I
  exact this q
theorem xeu_join {c : Str} {k : Nat} {cp apos : Pos} (he : XE X cl E e te me) (hs : starEach [e] X.env = [(false, eval e X.env)] := by rfl) (hbase : attributeBase (.Constant (.str c) k cp) "join" X.env (eval (.Constant (.str c) k cp) X.env) = eval (.Constant (.str c) k cp) X.env := by rfl) (hline : (apos.endLine == pos.line) = true := by rfl) :
    XEU X cl E (.Call (.Attribute (.Constant (.str c) k cp) "join" apos) [e] [] pos) (tM1 (fun x xs H Q => ∃ a p, ∃ ys : List Str, x = .str a ∧ xs = [.ref p] ∧ (SqL X.K H p (ys.map V.str) ∨ SqT X.K H p (ys.map V.str)) ∧ (ys.map (·.length)).sum + ys.length * a.length ≤ 16777216 ∧ Q (.str (Txt.join a ys)) H) (tC (.str c)) te) (mM1 dJoin (mC (.str c)) me) := ⟨peu_m1 F.slot_str_join F.type_str_join mt_join he.p hs hbase hline, sim_m1 (sim_c fun B => .str c) he.s sim_join⟩
theorem xau_cons (h : XEU X cl E e te me) (hr : XAT X cl E es ta ma) (hs : starEach (e :: es) X.env = (false, eval e X.env) :: starEach es X.env := by rfl) : XAU X cl E (e :: es) (tCons te ta) (mCons me ma) := ⟨pau_cons h.p hr.p hs, sim_cons h.s hr.s⟩
theorem xeu_lst (h : XAU X cl E es ta ma) : XEU X cl E (.List es pos) (tLst ta) (mLst ma) := ⟨peu_lst h.p, sim_lst h.s⟩
theorem xeu_bin {op : Operator} {r : R2} {f' : D → D → Option D} (ho : OpR X (binaryOp op) r) (hs : SimR2 X.K cl r f') (ha : XE X cl E e te me) (hb : XEU X cl E f tf mf) : XEU X cl E (.BinOp e op f pos) (tOp r te tf) (mBin f' me mf) := ⟨peu_op ho ha.p hb.p, sim_bin ha.s hb.s hs⟩
theorem xsu_set (i : Nat) {x : Str} {p : Pos} (hN : X.N.Nodup) (he : XEU X cl E e te me) (hi : X.N[i]? = some x := by rfl) (hx : Loc X.env.scope x := by first | exact Or.inl rfl | exact Or.inr rfl) (hs : swapsWith e (some (.Name x p)) pos.line X.env = pure false := by rfl)
    (hf : X.fn x = true ∨ X.env.scope.names.lookup x = some .local := by first | exact .inl rfl | exact .inr rfl | assumption) : XSU X cl E (.Assign [.Name x p] e pos) (tAsg te (gName i)) (mAsg (bName i) me) :=
  ⟨psu_set hN hi hx he.p hs hf, sim_asg (fun _ _ _ _ h => by cases h) he.s sim_gname⟩
theorem xb_consU {st : Stmt} {rest : List Stmt} (h : XSU X cl E st ts ms) (hr : XBT X cl E rest us ns) : XB X cl E (st :: rest) (tSeq ts us) (mSeq ms ns) := ⟨pss_consU h.p hr.p, sim_seq h.s hr.s⟩
end
end Mi
namespace Mi
open PySem PySem.Spec PyProof.Rows L2
theorem set_un {es : En} {v : Nat} {x y : Sl} : (es.set v x).set v y = es.set v y := List.set_set ..
theorem set_getD {es : En} {v : Nat} {x : Sl} (h : v < es.length) : (es.set v x).set v (es.getD v .un) = es := by
  rw [List.set_set]
  have e : es.getD v .un = es[v] := by
    simp [List.getD, List.getElem?_eq_getElem h]
  rw [e]
  exact List.set_getElem_self h
theorem compL_fm {v : Nat} {mt : M Bool} {me : M D} {p : D → Bool} {f : D → D} : ∀ (ds acc : List D) (es : En),
    (∀ d ∈ ds, mt (es.set v (.dat d)) = .ok (p d, es.set v (.dat d))) → (∀ d ∈ ds, p d = true → me (es.set v (.dat d)) = .ok (f d, es.set v (.dat d))) → acc.length + ds.length ≤ sizeLine →
    compL (bName v) mt me [v] ds acc (es.set v .un) = .ok (acc ++ (ds.filter p).map f, es.set v .un)
  | [], acc, es, _, _, _ => by simp [compL, Mi.ret]
  | d :: ds, acc, es, ht, hm, hl => by
    have h1 := ht d List.mem_cons_self
    have ih := fun acc' h => compL_fm (v := v) (mt := mt) (me := me) (p := p) (f := f) ds acc' es (fun d' h' => ht d' (List.mem_cons_of_mem _ h')) (fun d' h' => hm d' (List.mem_cons_of_mem _ h')) h
    rw [List.length_cons] at hl
    cases hp : p d with
    | true =>
      have h2 := hm d List.mem_cons_self hp
      have hz : acc.length < sizeLine := by omega
      simp only [compL, Mi.bnd, bName, set_un, h1, hp, if_pos, h2, hz, wipeE]
      rw [ih _ (by rw [List.length_append, List.length_singleton]; omega), List.filter_cons_of_pos hp]
      simp
    | false =>
      simp only [compL, Mi.bnd, bName, set_un, h1, hp, wipeE]
      rw [if_neg (by decide), set_un, ih _ (by omega), List.filter_cons_of_neg (by rw [hp]; decide)]
theorem comp_fm {v : Nat} {ms : M (List D)} {mt : M Bool} {me : M D} {p : D → Bool} {f : D → D} {ds : List D} {es : En} (hms : ms es = .ok (ds, es)) (hno : notOwn es [v] = true) (hv : v < es.length)
    (ht : ∀ d ∈ ds, mt (es.set v (.dat d)) = .ok (p d, es.set v (.dat d))) (hm : ∀ d ∈ ds, p d = true → me (es.set v (.dat d)) = .ok (f d, es.set v (.dat d))) (hl : ds.length ≤ sizeLine) :
    mComp [v] ms (bName v) mt me es = .ok (.lst ((ds.filter p).map f), es) := by
  unfold mComp Mi.bnd
  rw [hms]
  simp only [hno, if_pos, wipeE]
  rw [compL_fm ds [] es ht hm (by simpa using hl)]
  simp only [List.nil_append, rstE, set_getD hv]
theorem comp_map {v : Nat} {ms : M (List D)} {me : M D} {f : D → D} {ds : List D} {es : En} (hms : ms es = .ok (ds, es)) (hno : notOwn es [v] = true) (hv : v < es.length)
    (hm : ∀ d ∈ ds, me (es.set v (.dat d)) = .ok (f d, es.set v (.dat d))) (hl : ds.length ≤ sizeLine) :
    mComp [v] ms (bName v) mYes me es = .ok (.lst (ds.map f), es) := by
  have := comp_fm (mt := mYes) (p := fun _ => true) hms hno hv (fun _ _ => rfl) (fun d h _ => hm d h) hl
  have e : List.filter (fun _ : D => true) ds = ds := List.filter_eq_self.mpr fun _ _ => rfl
  rwa [e] at this
def chD (c : Nat) : D := .str ⟨#[c]⟩
theorem bls_map {α : Type} (p : α → Bool) : ∀ l : List α, bls (l.map fun x => D.bl (p x)) = some (l.map p)
  | [] => rfl
  | a :: l => by simp [bls, bls_map p l]
theorem dAll_map {α : Type} (p : α → Bool) (l : List α) : dAll [.lst (l.map fun x => D.bl (p x))] = some (.bl (l.all p)) := by
  simp only [dAll, bls_map, Option.map_some]
  congr 2
  simp [List.all_map, Function.comp_def]
theorem inB_ch (c : Nat) (z : Str) : dIn (.str ⟨#[c]⟩) (.str z) = some (.bl (decide (c ∈ z.cps.toList))) := rfl
theorem ninB_ch (c : Nat) (z : Str) : dNin (.str ⟨#[c]⟩) (.str z) = some (.bl (!decide (c ∈ z.cps.toList))) := rfl
theorem deq_str (s t : Str) : dEq (.str s) (.str t) = some (.bl (decide (s = t))) := by
  have e : scal (.str s) (.str t) = true := rfl
  simp only [dEq, eqB, flat, e, if_pos, Option.map_some]
  congr 2
  simp
theorem dne_str (s t : Str) : dNe (.str s) (.str t) = some (.bl (!decide (s = t))) := by
  have e : scal (.str s) (.str t) = true := rfl
  simp only [dNe, eqB, flat, e, if_pos, Option.map_some]
  congr 3
  simp
theorem dlen_str {s : Str} (h : s.length ≤ sizeLine) : dLen [.str s] = some (.int s.length) := by
  simp [dLen, okB, h]
theorem size_eq : sizeLine = 16777216 := PySem.sizeLine_eq
section
variable {es es1 es2 es3 : En} {a b c m : M D} {x y z : D} {f g : D → D → Option D} {α : Type} {r : R (D × En)} {t u : M Bool} {k l : Bool}
theorem ev_var {i : Nat} (h : es[i]? = some (.dat x)) : mVar i es = .ok (x, es) := by simp only [mVar, h]
theorem ev_bin (h1 : a es = .ok (x, es1)) (h2 : b es1 = .ok (y, es2)) (h3 : f x y = some z) : mBin f a b es = .ok (z, es2) := by simp only [mBin, Mi.bnd, h1, h2, Mi.opt, h3]
theorem ev_un {f : D → Option D} (h1 : a es = .ok (x, es1)) (h3 : f x = some z) : mUn f a es = .ok (z, es1) := by simp only [mUn, Mi.bnd, h1, Mi.opt, h3]
theorem ev_tst (h : a es = .ok (.bl k, es1)) : mTst a es = .ok (k, es1) := by simp only [mTst, Mi.bnd, h, Mi.opt, isBl]
theorem ev_tru (h : a es = .ok (x, es1)) (h2 : tru x = some k) : mTru a es = .ok (k, es1) := by simp only [mTru, Mi.bnd, h, Mi.opt, h2]
theorem ev_notT (h : t es = .ok (k, es1)) : mNotT t es = .ok (!k, es1) := by simp only [mNotT, Mi.bnd, h, Mi.ret]
theorem ev_nT_f (h : t es = .ok (true, es1)) : mNotT t es = .ok (false, es1) := ev_notT h
theorem ev_nT_t (h : t es = .ok (false, es1)) : mNotT t es = .ok (true, es1) := ev_notT h
theorem ev_andT_t {q : R (Bool × En)} (h : t es = .ok (true, es1)) (h2 : u es1 = q) : mAndT t u es = q := by simp only [mAndT, Mi.bnd, h, if_pos, h2]
theorem ev_andT_f (h : t es = .ok (false, es1)) : mAndT t u es = .ok (false, es1) := by simp only [mAndT, Mi.bnd, h]; rfl
theorem ev_orT_t (h : t es = .ok (true, es1)) : mOrT t u es = .ok (true, es1) := by simp only [mOrT, Mi.bnd, h]; rfl
theorem ev_orT_f {q : R (Bool × En)} (h : t es = .ok (false, es1)) (h2 : u es1 = q) : mOrT t u es = q := by simp only [mOrT, Mi.bnd, h]; exact h2
theorem ev_orT (h : t es = .ok (k, es1)) (h2 : k = false → u es1 = .ok (l, es1)) : mOrT t u es = .ok (k || l, es1) := by
  cases k with
  | true => exact ev_orT_t h
  | false => exact ev_orT_f h (h2 rfl)
theorem ev_andT (h : t es = .ok (k, es1)) (h2 : k = true → u es1 = .ok (l, es1)) : mAndT t u es = .ok (k && l, es1) := by
  cases k with
  | true => exact ev_andT_t h (h2 rfl)
  | false => exact ev_andT_f h
theorem ev_and (h : a es = .ok (.bl k, es1)) (h2 : k = true → b es1 = .ok (.bl l, es1)) : mAnd a b es = .ok (.bl (k && l), es1) := by
  cases k with
  | true => simp only [mAnd, Mi.bnd, h, Mi.opt, isBl, if_pos, h2 rfl, Bool.true_and]
  | false => simp only [mAnd, Mi.bnd, h, Mi.opt, isBl]; rfl
theorem ev_not (h : a es = .ok (.bl k, es1)) : mNot a es = .ok (.bl (!k), es1) := by simp only [mNot, Mi.bnd, h, Mi.opt, isBl, Mi.ret]
theorem ev_ife_t (h : t es = .ok (true, es1)) (h2 : a es1 = r) : mIfE t a b es = r := by simp only [mIfE, Mi.bnd, h, if_pos, h2]
theorem ev_ife_f (h : t es = .ok (false, es1)) (h2 : b es1 = r) : mIfE t a b es = r := by simp only [mIfE, Mi.bnd, h]; exact h2
theorem ev_chn (h1 : a es = .ok (x, es)) (h2 : b es = .ok (y, es)) (h3 : f x y = some (.bl k)) (h4 : c es = .ok (z, es)) (h5 : g y z = some (.bl l)) : mChn f g a b c es = .ok (.bl (k && l), es) := by
  cases k with
  | true => simp only [mChn, Mi.bnd, h1, h2, h3, h4, h5, Mi.opt, isBl, if_pos, Bool.true_and]
  | false => simp only [mChn, Mi.bnd, h1, h2, h3, Mi.opt, isBl]; rfl
theorem ev_cons {w : M (List D)} {xs : List D} (h1 : a es = .ok (x, es1)) (h2 : w es1 = .ok (xs, es2)) : mCons a w es = .ok (x :: xs, es2) := by simp only [mCons, Mi.bnd, h1, h2, Mi.ret]
theorem ev_one (h1 : a es = .ok (x, es1)) : mCons a mNil es = .ok ([x], es1) := ev_cons h1 rfl
theorem ev_tup {w : M (List D)} {xs : List D} (h : w es = .ok (xs, es1)) (hl : xs.length ≤ sizeLine) : mTup w es = .ok (.tup xs, es1) := by simp only [mTup, Mi.bnd, h, Mi.opt, fit, if_pos hl]
theorem ev_lst {w : M (List D)} {xs : List D} (h : w es = .ok (xs, es1)) (hl : xs.length ≤ sizeLine) : mLst w es = .ok (.lst xs, es1) := by simp only [mLst, Mi.bnd, h, Mi.opt, fit, if_pos hl]
theorem ev_cb {w : M (List D)} {xs : List D} {f : List D → Option D} (h : w es = .ok (xs, es1)) (h2 : f xs = some x) : mCB f w es = .ok (x, es1) := by simp only [mCB, Mi.bnd, h, Mi.opt, h2]
theorem ev_m1 {f : Str → D → Option D} {s : Str} (h : a es = .ok (.str s, es1)) (h2 : b es1 = .ok (y, es2)) (h3 : f s y = some z) : mM1 f a b es = .ok (z, es2) := by simp only [mM1, Mi.bnd, h, h2, Mi.opt, h3]
theorem ev_isa {T : Ty} (h : a es = .ok (x, es1)) (h2 : isa T x = some k) : mIsa T a es = .ok (.bl k, es1) := by simp only [mIsa, Mi.bnd, h, Mi.opt, h2, Option.map_some]
theorem ev_isa2 {T U : Ty} (h : a es = .ok (x, es1)) (h2 : isa T x = some k) (h3 : isa U x = some l) : mIsa2 T U a es = .ok (.bl (k || l), es1) := by simp only [mIsa2, Mi.bnd, h, Mi.opt, h2, h3, Option.map_some, Option.bind_some]
theorem ev_part {i : Int} (h : a es = .ok (.int i, es1)) : mPart a es = .ok (some i, es1) := by simp only [mPart, Mi.bnd, h, Mi.opt, isI, Mi.ret]
theorem ev_sl {f : D → Option Int → Option Int → Option D} {v w : M (Option Int)} {i j : Option Int} (h : a es = .ok (x, es1)) (h1 : v es1 = .ok (i, es2)) (h2 : w es2 = .ok (j, es3)) (h3 : f x i j = some z) : mSl f a v w es = .ok (z, es3) := by simp only [mSl, Mi.bnd, h, h1, h2, Mi.opt, h3]
theorem ev_call {n : Nat} {g : List D → R D} {w : M (List D)} {xs : List D} (h : w es = .ok (xs, es1)) (hl : xs.length = n) (h2 : g xs = .ok x) : mCall n g w es = .ok (x, es1) := by simp only [mCall, Mi.bnd, h, if_pos hl, Mi.lft, h2]
theorem ev_callO {i n : Nat} {g : List D → List D → R (D × List D)} {w : M (List D)} {xs l l1 l2 : List D} (h0 : ownAt i es = some l) (h : w es = .ok (xs, es1)) (h1 : ownAt i es1 = some l1) (hl : xs.length = n) (h2 : g l1 xs = .ok (x, l2)) : mCallO i n g w es = .ok (x, es1.set i (.own l2)) := by
  simp only [mCallO, h0, Mi.bnd, h, h1, if_pos hl, h2]
end
section
variable {es es1 es2 es3 : En} {a b : M D} {x y : D} {t : M Bool} {m n : M Out} {q : R (Out × En)}
theorem ev_ret (h : a es = .ok (x, es1)) : mRet a es = .ok (.rt x, es1) := by simp only [mRet, Mi.bnd, h, Mi.ret]
theorem ev_seq (h : m es = .ok (.nx, es1)) (h2 : n es1 = q) : mSeq m n es = q := by simp only [mSeq, Mi.bnd, h, h2]
theorem ev_seq_rt (h : m es = .ok (.rt x, es1)) : mSeq m n es = .ok (.rt x, es1) := by simp only [mSeq, Mi.bnd, h, Mi.ret]
theorem ev_seq_exc {c : Nat} {d : D} (h : m es = .exc c d) : mSeq m n es = .exc c d := by simp only [mSeq, Mi.bnd, h]
theorem ev_if_t (h : t es = .ok (true, es1)) (h2 : m es1 = q) : mIf t m n es = q := by simp only [mIf, Mi.bnd, h, if_pos, h2]
theorem ev_if_f (h : t es = .ok (false, es1)) (h2 : n es1 = q) : mIf t m n es = q := by simp only [mIf, Mi.bnd, h]; exact h2
theorem ev_next : mNext es = .ok (.nx, es) := rfl
theorem ev_asg {f : D → M Unit} (h : a es = .ok (x, es1)) (h2 : f x es1 = .ok ((), es2)) : mAsg f a es = .ok (.nx, es2) := by simp only [mAsg, Mi.bnd, h, h2, Mi.ret]
theorem ev_set {i : Nat} (h : a es = .ok (x, es1)) : mAsg (bName i) a es = .ok (.nx, es1.set i (.dat x)) := ev_asg h rfl
theorem ev_drop (h : a es = .ok (x, es1)) : mDrop a es = .ok (.nx, es1) := by simp only [mDrop, Mi.bnd, h, Mi.ret]
theorem ev_raise {c : Nat} (h : a es = .ok (x, es1)) : mRaise c a es = .exc c x := by simp only [mRaise, Mi.bnd, h]
theorem ev_app {i : Nat} {l l1 : List D} (h0 : ownAt i es = some l) (h : a es = .ok (x, es1)) (h1 : ownAt i es1 = some l1) (hl : l1.length < sizeLine) : mApp i a es = .ok (.non, es1.set i (.own (l1 ++ [x]))) := by simp only [mApp, h0, Mi.bnd, h, h1, if_pos hl]
theorem ev_asgO {i : Nat} {w : M (List D)} {xs : List D} (h : w es = .ok (xs, es1)) (hl : xs.length ≤ sizeLine) : mAsgO i w es = .ok (.nx, es1.set i (.own xs)) := by simp only [mAsgO, Mi.bnd, h, if_pos hl]
theorem ev_parO {i j : Nat} (h : a es = .ok (x, es1)) : mParO i j a es = .ok (.nx, (es1.set i (.dat x)).set j (.own [])) := by simp only [mParO, Mi.bnd, h]
theorem ev_par {is : List Nat} {w : M (List D)} {xs : List D} (h : w es = .ok (xs, es1)) (h2 : bNames is xs es1 = .ok ((), es2)) : mPar is w es = .ok (.nx, es2) := by simp only [mPar, Mi.bnd, h, h2, Mi.ret]
theorem ev_for {w : M (List D)} {xs : List D} {f : D → M Unit} (h : w es = .ok (xs, es1)) (h2 : loopM f m xs es1 = q) : mFor w f m es = q := by simp only [mFor, Mi.bnd, h, h2]
theorem ev_iL {l : List D} (h : a es = .ok (.lst l, es1)) : mIL a es = .ok (l, es1) := by simp only [mIL, Mi.bnd, h, Mi.opt, lstOf]
theorem ev_iT {l : List D} (h : a es = .ok (.tup l, es1)) : mIT a es = .ok (l, es1) := by simp only [mIT, Mi.bnd, h, Mi.opt, tupOf]
theorem ev_iS {s : Str} (h : a es = .ok (.str s, es1)) : mIS a es = .ok (s.cps.toList.map fun c => .str ⟨#[c]⟩, es1) := by simp only [mIS, Mi.bnd, h, Mi.opt, strOf]
theorem ev_fn {k : Nat} {ds : List D} (h : m (ds.map Sl.dat ++ List.replicate (k - ds.length) .un) = .ok (.rt x, es1)) : fnM k m ds = .ok x := by simp only [fnM, h, ends]
theorem ev_fn_exc {k : Nat} {ds : List D} {c : Nat} {d : D} (h : m (ds.map Sl.dat ++ List.replicate (k - ds.length) .un) = .exc c d) : fnM k m ds = .exc c d := by simp only [fnM, h, ends]
end
theorem ev_len {es es1 : En} {a : M D} {s : Str} (h : a es = .ok (.str s, es1)) (hl : s.length ≤ sizeLine) : mCB dLen (mCons a mNil) es = .ok (.int s.length, es1) := ev_cb (ev_one h) (dlen_str hl)
section
variable {es es1 es2 : En} {a : M D} {x : D}
theorem ev_setL {i : Nat} (h : a es = .ok (x, es1)) (he : es1.set i (.dat x) = es2 := by rfl) : mAsg (bName i) a es = .ok (.nx, es2) := by rw [← he]; exact ev_set h
theorem ev_appL {i : Nat} {l l1 : List D} (h0 : ownAt i es = some l) (h : a es = .ok (x, es1)) (h1 : ownAt i es1 = some l1) (hl : l1.length < sizeLine) (he : es1.set i (.own (l1 ++ [x])) = es2 := by rfl) : mApp i a es = .ok (.non, es2) := by rw [← he]; exact ev_app h0 h h1 hl
theorem ev_callOL {i n : Nat} {g : List D → List D → R (D × List D)} {w : M (List D)} {xs l l1 l2 : List D} (h0 : ownAt i es = some l) (h : w es = .ok (xs, es1)) (h1 : ownAt i es1 = some l1) (hl : xs.length = n) (h2 : g l1 xs = .ok (x, l2)) (he : es1.set i (.own l2) = es2 := by rfl) : mCallO i n g w es = .ok (x, es2) := by rw [← he]; exact ev_callO h0 h h1 hl h2
end
theorem ev_l_nil {b : D → M Unit} {m : M Out} {es : En} : loopM b m [] es = .ok (.nx, es) := rfl
theorem ev_l_cons {b : D → M Unit} {m : M Out} {d : D} {ds : List D} {es es1 es2 : En} {q : R (Out × En)} (h : b d es = .ok ((), es1)) (h2 : m es1 = .ok (.nx, es2)) (h3 : loopM b m ds es2 = q) : loopM b m (d :: ds) es = q := by simp only [loopM, Mi.bnd, h, h2, h3]
theorem ev_l_rt {b : D → M Unit} {m : M Out} {d x : D} {ds : List D} {es es1 es2 : En} (h : b d es = .ok ((), es1)) (h2 : m es1 = .ok (.rt x, es2)) : loopM b m (d :: ds) es = .ok (.rt x, es2) := by simp only [loopM, Mi.bnd, h, h2, Mi.ret]
end Mi
namespace Mi
open PySem PySem.Spec PyProof.Rows L2
inductive Pt where
  | any | cap (i : Nat) | lits (xs : List Str)
def tPts : List Pt → List V → (List (Nat × V) → Prop) → Prop → Prop
  | [], [], k, _ => k []
  | .any :: ps, _ :: vs, k, n => tPts ps vs k n
  | .cap i :: ps, v :: vs, k, n => tPts ps vs (fun b => k ((i, v) :: b)) n
  | .lits xs :: ps, v :: vs, k, n => ∃ s, v = .str s ∧ (s ∈ xs → tPts ps vs k n) ∧ (s ∉ xs → n)
  | _, _, _, _ => False
def stores : L2.St → List (Nat × V) → L2.St
  | σ, [] => σ
  | σ, (i, v) :: r => stores (σ.set i (some v)) r
def tMc (K : PySem.W.Frag) : List (Option (List Pt) × TS) → V → TS
  | [], _ => tNext
  | (none, t) :: _, _ => t
  | (some ps, t) :: r, v => fun D σ H => ∃ p vs, v = .ref p ∧ SqT K H p vs ∧ (vs.length = ps.length → tPts ps vs (fun bs => t D (stores σ bs) H) (tMc K r v D σ H)) ∧ (vs.length ≠ ps.length → tMc K r v D σ H)
def tMatch (K : PySem.W.Frag) (te : TE) (cs : List (Option (List Pt) × TS)) : TS := fun D σ H => te σ H fun v H1 => tMc K cs v D σ H1
inductive Lits : List Pattern → List Str → Prop
  | nil : Lits [] []
  | cons {x : Str} {j : Nat} {p1 p2 : Pos} {ps : List Pattern} {xs : List Str} : Lits ps xs → Lits (.MatchValue (.Constant (.str x) j p1) p2 :: ps) (x :: xs)
inductive Bnd (X : Cx) : List (Str × Value) → List (Nat × V) → Prop
  | nil : Bnd X [] []
  | cons {x : Str} {i : Nat} {v : V} {u : Value} {bs : List (Str × Value)} {r : List (Nat × V)} : X.N[i]? = some x → X.env.scope.names.lookup x = some .local → RelV v u → Bnd X bs r → Bnd X ((x, u) :: bs) ((i, v) :: r)
structure PPs (X : Cx) (ps : List Pattern) (q : List Pt) : Prop where
  len : ps.length = q.length
  run : ∀ (pins : List (Addr × Obj)) (s : Shared) (σ : L2.St) (H : Hp) (vs : List V) (us : List Value) (k : List (Nat × V) → Prop) (n : Prop), Inv X pins σ H s → Vals vs us → tPts q vs k n →
    wpAny (model X.prog X.w) X.A (matchEach ps X.env us) (fun r s' => Inv X pins σ H s' ∧ match r with
      | none => n
      | some bs => ∃ b, k b ∧ Bnd X bs b) X.xe s
structure PCs (X : Cx) (cs : List MatchCase) (q : List (Option (List Pt) × TS)) : Prop where
  run : ∀ (pins : List (Addr × Obj)) (s : Shared) (σ : L2.St) (H : Hp) (v : V) (u : Value) (f : Bool) (D : Ends), Inv X pins σ H s → RelV v u → tMc X.K q v D σ H →
    wpAny (model X.prog X.w) X.A (matchCases cs X.env u f) (SP X pins D) X.xe s
section
variable {X : Cx} {pins : List (Addr × Obj)} {σ : L2.St} {H : Hp} {s : Shared}
theorem lit_one {x : Str} {j : Nat} {p1 p2 : Pos} {y : Str} {t : Nat} (I : Inv X pins σ H s) : wpAny (model X.prog X.w) X.A (matchPattern (.MatchValue (.Constant (.str x) j p1) p2) X.env (.str y t))
    (fun r s' => Inv X pins σ H s' ∧ ((y = x ∧ r = some []) ∨ (y ≠ x ∧ r = none))) X.xe s := by
  refine wpAny_matchPattern_Value (thn (pe_str.run pins s σ H (fun v H' => v = .str x ∧ H' = H) I ⟨rfl, rfl⟩) fun u s1 ⟨v, H1, I1, r1, e1, e2⟩ => ?_)
  subst e1
  subst e2
  obtain ⟨t1, rfl⟩ := r1
  refine PyProof.Rows.eq_str (wpAny_truthy_bool ?_)
  by_cases h : y = x
  · subst h
    rw [if_pos (by simp)]
    exact ⟨I1, .inl ⟨rfl, rfl⟩⟩
  · rw [if_neg (by simpa using h)]
    exact ⟨I1, .inr ⟨h, rfl⟩⟩
theorem lits_first {ps : List Pattern} {xs : List Str} {y : Str} {t : Nat} (h : Lits ps xs) : ∀ {s : Shared}, Inv X pins σ H s → wpAny (model X.prog X.w) X.A (matchFirst ps X.env (.str y t))
    (fun r s' => Inv X pins σ H s' ∧ ((y ∈ xs ∧ r = some []) ∨ (y ∉ xs ∧ r = none))) X.xe s := by
  induction h with
  | nil => exact fun I => wpAny_matchFirst_nil ⟨I, .inr ⟨List.not_mem_nil, rfl⟩⟩
  | @cons x j p1 p2 ps xs h ih =>
    intro s I
    refine wpAny_matchFirst_cons (thn (lit_one I) fun r s1 ⟨I1, h1⟩ => ?_)
    rcases h1 with ⟨e, rfl⟩ | ⟨e, rfl⟩
    · exact ⟨I1, .inl ⟨by rw [e]; exact List.mem_cons_self, rfl⟩⟩
    · refine thn (ih I1) fun r s2 ⟨I2, h2⟩ => ⟨I2, ?_⟩
      rcases h2 with ⟨e2, rfl⟩ | ⟨e2, rfl⟩
      · exact .inl ⟨List.mem_cons_of_mem _ e2, rfl⟩
      · exact .inr ⟨fun z => by rcases List.mem_cons.mp z with z | z; exact e z; exact e2 z, rfl⟩
theorem pps_nil : PPs X [] [] := ⟨rfl, fun pins s σ H vs us k n I r h => by
  cases r with
  | nil => exact wpAny_matchEach_nil ⟨I, [], h, .nil⟩
  | cons _ _ => exact h.elim⟩
theorem pps_cap (i : Nat) {x : Str} {p : Pos} {ps : List Pattern} {q : List Pt} (h : PPs X ps q) (hi : X.N[i]? = some x := by rfl) (hl : X.env.scope.names.lookup x = some .local := by rfl) : PPs X (.MatchAs none (some x) p :: ps) (.cap i :: q) := by
  refine ⟨congrArg Nat.succ h.len, fun pins s σ H vs us k n I r w => ?_⟩
  cases r with
  | nil => exact w.elim
  | @cons v u vs us r rr =>
    refine wpAny_matchEach_cons (wpAny_matchPattern_Capture ?_)
    refine thn (h.run pins s σ H vs us (fun b => k ((i, v) :: b)) n I rr w) fun r' s2 ⟨I2, h2⟩ => ?_
    cases r' with
    | none => exact ⟨I2, h2⟩
    | some bs =>
      obtain ⟨b, kb, B⟩ := h2
      exact ⟨I2, _, kb, .cons hi hl r B⟩
theorem pps_any {p : Pos} {ps : List Pattern} {q : List Pt} (h : PPs X ps q) : PPs X (.MatchAs none none p :: ps) (.any :: q) := by
  refine ⟨congrArg Nat.succ h.len, fun pins s σ H vs us k n I r w => ?_⟩
  cases r with
  | nil => exact w.elim
  | @cons v u vs us r rr =>
    refine wpAny_matchEach_cons (wpAny_matchPattern_Capture ?_)
    refine thn (h.run pins s σ H vs us k n I rr w) fun r' s2 ⟨I2, h2⟩ => ?_
    cases r' with
    | none => exact ⟨I2, h2⟩
    | some bs => exact ⟨I2, h2⟩
theorem pps_lits {p : Pattern} {xs : List Str} {ps : List Pattern} {q : List Pt} (hp : p.isStar = false) (hm : ∀ (pins : List (Addr × Obj)) (σ : L2.St) (H : Hp) (s : Shared) (y : Str) (t : Nat), Inv X pins σ H s → wpAny (model X.prog X.w) X.A (matchPattern p X.env (.str y t))
    (fun r s' => Inv X pins σ H s' ∧ ((y ∈ xs ∧ r = some []) ∨ (y ∉ xs ∧ r = none))) X.xe s) (h : PPs X ps q) : PPs X (p :: ps) (.lits xs :: q) := by
  refine ⟨congrArg Nat.succ h.len, fun pins s σ H vs us k n I r w => ?_⟩
  cases r with
  | nil => exact w.elim
  | @cons v u vs us r rr =>
    obtain ⟨y, rfl, w1, w2⟩ := w
    obtain ⟨t, rfl⟩ := r
    refine wpAny_matchEach_cons (thn (hm pins σ H s y t I) fun r1 s1 ⟨I1, h1⟩ => ?_) hp
    rcases h1 with ⟨e, rfl⟩ | ⟨e, rfl⟩
    · refine thn (h.run pins s1 σ H vs us k n I1 rr (w1 e)) fun r' s2 ⟨I2, h2⟩ => ?_
      cases r' with
      | none => exact ⟨I2, h2⟩
      | some bs => exact ⟨I2, h2⟩
    · exact ⟨I1, w2 e⟩
theorem pps_lit {x : Str} {j : Nat} {p1 p2 : Pos} {ps : List Pattern} {q : List Pt} (h : PPs X ps q) : PPs X (.MatchValue (.Constant (.str x) j p1) p2 :: ps) (.lits [x] :: q) :=
  pps_lits rfl (fun pins σ H s y t I => thn (lit_one I) fun r s1 ⟨I1, h1⟩ => ⟨I1, h1.imp (fun z => ⟨by rw [z.1]; exact List.mem_cons_self, z.2⟩) (fun z => ⟨fun m => z.1 (List.mem_singleton.mp m), z.2⟩)⟩) h
theorem pps_or {os : List Pattern} {xs : List Str} {p1 : Pos} {ps : List Pattern} {q : List Pt} (hl : Lits os xs) (h : PPs X ps q) (hn : namesOfAll (os.take 1) = [] := by rfl) : PPs X (.MatchOr os p1 :: ps) (.lits xs :: q) :=
  pps_lits rfl (fun pins σ H s y t I => wpAny_matchPattern_Or (thn (lits_first hl I) fun r s1 ⟨I1, h1⟩ => by
    rcases h1 with ⟨e, rfl⟩ | ⟨e, rfl⟩
    · exact ⟨I1, .inl ⟨e, by rw [hn]; rfl⟩⟩
    · exact ⟨I1, .inr ⟨e, rfl⟩⟩)) h
theorem bnd_run {Q : Unit → Shared → Prop} (hN : X.N.Nodup) {bs : List (Str × Value)} {b : List (Nat × V)} (B : Bnd X bs b) : ∀ {σ : L2.St} {s : Shared}, Inv X pins σ H s → (∀ s', Inv X pins (stores σ b) H s' → Q () s') →
    wpAny (model X.prog X.w) X.A (assignInOrder (bs.map fun (n, _) => bindName X.env n) (bs.map (·.2))) Q X.xe s := by
  induction B with
  | nil => exact fun I h => wpAny_assignInOrder_none (h _ I)
  | @cons x i v u bs r hi hl rv B ih =>
    intro σ s I h
    refine wpAny_assignInOrder_more ?_
    refine wpAny_bindName ?_
    refine store_ok I hN hi (.inl hl) rv (fun s' I' => ?_) (.inr hl)
    exact ih I' h
theorem pcs_nil : PCs X [] [] := ⟨fun pins s σ H v u f D I r h => wpAny_matchCases_nil ⟨σ, H, I, h⟩⟩
theorem pcs_rest {p : Pos} {b : List Stmt} {r : List MatchCase} {q : List (Option (List Pt) × TS)} {t : TS} (hb : PSs X b t) : PCs X (⟨.MatchAs none none p, none, b⟩ :: r) ((none, t) :: q) := ⟨fun pins s σ H v u f D I rv h => by
  refine wpAny_matchCases_cons (wpAny_matchPattern_Capture ?_)
  exact wpAny_assignInOrder_none (hb.run pins s σ H D I h)⟩
theorem pcs_seq {p : Pos} {ps : List Pattern} {pt : List Pt} {b : List Stmt} {r : List MatchCase} {q : List (Option (List Pt) × TS)} {t : TS} (hc : X.calm = true) (hN : X.N.Nodup) (hp : PPs X ps pt) (hb : PSs X b t) (hr : PCs X r q)
    (hstar : ps.findIdx? (·.isStar) = none := by rfl) (hwild : (ps.all fun p => p.isWildcard || (p.isStar && p.names.isEmpty)) = false := by rfl) : PCs X (⟨.MatchSequence ps p, none, b⟩ :: r) ((some pt, t) :: q) := ⟨fun pins s σ H v u f D I rv h => by
  obtain ⟨a, vs, rfl, hq, h1, h2⟩ := h
  cases id rv
  obtain ⟨its, rvs, ht, hz⟩ := I.tuple hq
  have hsz : its.toArray.size = vs.length := by rw [List.size_toArray]; exact rvs.length.symm
  have hfit : (its.toArray.size : Int) < 2 ^ 63 := by
    rw [hsz]
    have : vs.length ≤ sizeLine := hz
    have e : sizeLine = 2 ^ 24 ∨ sizeLine < 2 ^ 62 := .inr (by decide)
    rcases e with e | e <;> omega
  refine wpAny_matchCases_cons ?_
  by_cases hl : vs.length = pt.length
  · refine matchSeq_tuple_hit ht hfit (by rw [hsz, hl, hp.len]) ?_ hstar hwild
    have hn : its.toArray.size = ps.length := by rw [hsz, hl, hp.len]
    rw [← hn]
    refine unpackItems_tuple (I.ok.hd hc) (by exact ht) fun h' hx => ?_
    have I1 : Inv X pins σ H { s with heap := h', toks := s.toks + 1 + 1 } := I.kept (t' := s.toks + 1 + 1) fun b o e => hx b o (Nat.ne_of_lt (Heap.lt_size e)) e
    refine thn (hp.run pins _ σ H vs its _ _ I1 rvs (h1 hl)) fun r1 s1 ⟨I2, g⟩ => ?_
    cases r1 with
    | none => exact hr.run pins s1 σ H _ _ false D I2 rv g
    | some bs =>
      obtain ⟨bb, kb, B⟩ := g
      exact bnd_run hN B I2 fun s' I' => hb.run pins s' _ H D I' kb
  · refine matchSeq_tuple_miss ht hfit (by rw [hsz, hp.len]; exact hl) ?_ hstar hwild
    exact hr.run pins _ σ H _ _ false D (I.tok _) rv (h2 hl)⟩
theorem ps_match {e : Expr} {te : TE} {cs : List MatchCase} {q : List (Option (List Pt) × TS)} {pos : Pos} (he : PE X e te) (hc : PCs X cs q) : PS X (.Match e cs pos) (tMatch X.K te q) := ⟨fun pins s σ H D I h =>
  wpAny_Match (thn (he.run pins s σ H _ I h) fun u s1 ⟨v, H1, I1, r1, h1⟩ => hc.run pins s1 σ H1 v u true D I1 r1 h1)⟩
end
def mPts : List Pt → List D → Option (Option (List (Nat × D)))
  | [], [] => some (some [])
  | .any :: ps, _ :: ds => mPts ps ds
  | .cap i :: ps, d :: ds => (mPts ps ds).map fun o => o.map ((i, d) :: ·)
  | .lits xs :: ps, .str s :: ds => if s ∈ xs then mPts ps ds else some none
  | _, _ => none
def puts : En → List (Nat × D) → En
  | es, [] => es
  | es, (i, d) :: r => puts (es.set i (.dat d)) r
def mMc : List (Option (List Pt) × M Out) → D → M Out
  | [], _ => mNext
  | (none, m) :: _, _ => m
  | (some ps, m) :: r, d => match d with
    | .tup l => if l.length = ps.length then (match mPts ps l with
        | some (some b) => fun es => m (puts es b)
        | some none => mMc r d
        | none => Mi.bad) else mMc r d
    | _ => Mi.bad
def mMatch (me : M D) (cs : List (Option (List Pt) × M Out)) : M Out := Mi.bnd me fun d => mMc cs d
inductive SimCs (K : PySem.W.Frag) (cl : CL) (E : XK) : List (Option (List Pt) × TS) → List (Option (List Pt) × M Out) → Prop
  | nil : SimCs K cl E [] []
  | cons {p : Option (List Pt)} {t : TS} {m : M Out} {q : List (Option (List Pt) × TS)} {r : List (Option (List Pt) × M Out)} : SimS K cl E t m → SimCs K cl E q r → SimCs K cl E ((p, t) :: q) ((p, m) :: r)
section
variable {K : PySem.W.Frag} {cl : CL} {zA : Zp} {E : XK} {F B H : Hp} {es : En} {σ : L2.St}
inductive BndD (K : PySem.W.Frag) (cl : CL) (B : Hp) : List (Nat × V) → List (Nat × D) → Prop
  | nil : BndD K cl B [] []
  | cons {i : Nat} {v : V} {d : D} {b : List (Nat × V)} {c : List (Nat × D)} : At K cl B v d → BndD K cl B b c → BndD K cl B ((i, v) :: b) ((i, d) :: c)
theorem Rel.puts {b : List (Nat × V)} {c : List (Nat × D)} (h : BndD K cl B b c) : ∀ {es : En} {σ : L2.St}, Rel K cl zA F B H es σ → Rel K cl zA F B H (puts es c) (stores σ b) := by
  induction h with
  | nil => exact fun r => r
  | cons a h ih => exact fun r => ih (r.put a)
theorem pts_sim : ∀ (ps : List Pt) (vs : List V) (ds : List D) (k : List (Nat × V) → Prop) (n : Prop) (o : Option (List (Nat × D))), AtL K cl B vs ds → mPts ps ds = some o → (∀ c b, o = some c → BndD K cl B b c → k b) → (o = none → n) → tPts ps vs k n
  | [], _, [], k, n, o, .nil, h, hk, hn => by
    cases h
    exact hk [] [] rfl .nil
  | [], _, _ :: _, k, n, o, _, h, hk, hn => by cases h
  | p :: ps, _, [], k, n, o, .nil, h, hk, hn => by cases p <;> cases h
  | .any :: ps, _, d :: ds, k, n, o, .cons a t, h, hk, hn => pts_sim ps _ ds k n o t h hk hn
  | .cap i :: ps, _, d :: ds, k, n, o, .cons a t, h, hk, hn => by
    simp only [mPts] at h
    cases e : mPts ps ds with
    | none => rw [e] at h; cases h
    | some o' =>
      rw [e] at h
      simp only [Option.map_some, Option.some.injEq] at h
      subst h
      refine pts_sim ps _ ds _ n o' t e (fun c b ho hb => hk ((i, d) :: c) _ (by rw [ho]; rfl) (.cons a hb)) (fun ho => hn (by rw [ho]; rfl))
  | .lits xs :: ps, _, d :: ds, k, n, o, .cons a t, h, hk, hn => by
    cases a with
    | str s =>
      simp only [mPts] at h
      refine ⟨s, rfl, fun m => ?_, fun m => ?_⟩
      · rw [if_pos m] at h
        exact pts_sim ps _ ds k n o t h hk hn
      · rw [if_neg m] at h
        cases h
        exact hn rfl
    | _ => cases h
theorem sim_mc {q : List (Option (List Pt) × TS)} {r : List (Option (List Pt) × M Out)} (h : SimCs K cl E q r) : ∀ (zA : Zp) (F B H : Hp) (es : En) (σ : L2.St) (v : V) (d : D) (Dn : Ends), Rel K cl zA F B H es σ → At K cl B v d → Po K cl E F B (mMc r d es) (EndP K cl zA F Dn) → tMc K q v Dn σ H := by
  induction h with
  | nil => exact fun zA F B H es σ v d Dn r a h => sim_next (K := K) (cl := cl) (E := E) zA F B H es σ Dn r h
  | @cons p t m q r' hs hr ih =>
    intro zA F B H es σ v d Dn r a h
    cases p with
    | none => exact hs zA F B H es σ Dn r h
    | some ps =>
      cases a with
      | @tup p vs ds h1 h2 =>
        simp only [mMc] at h
        refine ⟨p, vs, rfl, sqT_mono r.bh h1, fun hl => ?_, fun hl => ?_⟩
        · rw [if_pos (by rw [← h2.len]; exact hl)] at h
          cases e : mPts ps ds with
          | none => rw [e] at h; exact h.elim
          | some o =>
            rw [e] at h
            refine pts_sim ps vs ds _ _ o h2 e (fun c b ho hb => ?_) (fun ho => ?_)
            · subst ho
              exact hs zA F B H _ _ Dn (r.puts hb) h
            · subst ho
              exact ih zA F B H es σ _ _ Dn r (.tup h1 h2) h
        · rw [if_neg (by rw [← h2.len]; exact hl)] at h
          exact ih zA F B H es σ _ _ Dn r (.tup h1 h2) h
      | _ => exact h.elim
theorem sim_match {te : TE} {me : M D} {q : List (Option (List Pt) × TS)} {r : List (Option (List Pt) × M Out)} (he : SimE K cl E te me) (hc : SimCs K cl E q r) : SimS K cl E (tMatch K te q) (mMatch me r) := by
  intro zA F B H es σ Dn rr h
  exact he _ F B H es σ _ rr (Po.imp (Po.bnd h) fun d es1 B1 H1 _ _ h1 v r1 a => sim_mc hc _ F B1 H1 es1 σ v d Dn r1 a h1)
end
structure XC (X : Cx) (cl : CL) (E : XK) (cs : List MatchCase) (q : List (Option (List Pt) × TS)) (r : List (Option (List Pt) × M Out)) : Prop where
  p : PCs X cs q
  s : SimCs X.K cl E q r
section
variable {X : Cx} {cl : CL} {E : XK} {e : Expr} {te : TE} {me : M D} {cs : List MatchCase} {q : List (Option (List Pt) × TS)} {r : List (Option (List Pt) × M Out)} {b : List Stmt} {t : TS} {m : M Out} {p : Pos}
theorem xc_nil : XC X cl E [] [] [] := ⟨pcs_nil, .nil⟩
theorem xc_rest (hb : XB X cl E b t m) : XC X cl E [⟨.MatchAs none none p, none, b⟩] [(none, t)] [(none, m)] := ⟨pcs_rest hb.p, .cons hb.s .nil⟩
theorem xc_seq {ps : List Pattern} {pt : List Pt} (hc : X.calm = true) (hN : X.N.Nodup) (hp : PPs X ps pt) (hb : XB X cl E b t m) (hr : XC X cl E cs q r)
    (hstar : ps.findIdx? (·.isStar) = none := by rfl) (hwild : (ps.all fun p => p.isWildcard || (p.isStar && p.names.isEmpty)) = false := by rfl) : XC X cl E (⟨.MatchSequence ps p, none, b⟩ :: cs) ((some pt, t) :: q) ((some pt, m) :: r) := ⟨pcs_seq hc hN hp hb.p hr.p hstar hwild, .cons hb.s hr.s⟩
theorem xs_match (he : XE X cl E e te me) (hc : XC X cl E cs q r) : XS X cl E (.Match e cs p) (tMatch X.K te q) (mMatch me r) := ⟨ps_match he.p hc.p, sim_match he.s hc.s⟩
end
end Mi
namespace Mi
open PySem PySem.Spec PyProof.Rows L2
structure KCls (K : PySem.W.Frag) (C : Addr) (fs : List Str) : Prop where
  cls : Cls K C
  na : ∀ f ∈ fs, NoAttr K C f
  ca : PySem.W.findIn K (.ref C) "__class__" = some (some (.builtin "object.__class__"))
  cn : PySem.W.specialIn K (.builtin "object.__class__") "__get__" = some (some (.builtin "getset_descriptor.__get__"))
  ct : PySem.W.takesIn K (.builtin "object.__class__") = some true
  cm : PySem.W.mroIn K C (.type "object") = some true
  kT : ∀ n ∈ ["NoneType", "bool", "int", "str", "tuple", "list", "dict"], PySem.W.kitOne K (.type n) (.ref C) = some false
def dFld (c : Nat) (f : Str) : D → Option D
  | .ins c' ns l => if c' = c then (ns.zip l).lookup f else none
  | _ => none
def isC (c : Nat) : D → Option D
  | .ins c' _ _ => if c' = c then some (.bl true) else none
  | .scr _ => none
  | .fn => none
  | _ => some (.bl false)
section
variable {K : PySem.W.Frag} {cl : CL} {zA : Zp} {E : XK} {F B H : Hp} {es : En} {σ : L2.St}
theorem at_lookup {f : Str} : ∀ {ns : List Str} {vs : List V} {ds : List D} {d : D}, AtL K cl B vs ds → (ns.zip ds).lookup f = some d → ∃ v, (ns.zip vs).lookup f = some v ∧ At K cl B v d
  | [], _, _, _, _, h => by cases h
  | _ :: _, _, _, _, .nil, h => by cases h
  | n :: ns, v :: vs, d :: ds, e, .cons a t, h => by
    rw [List.zip_cons_cons, List.lookup_cons] at h ⊢
    cases q : f == n with
    | true =>
      rw [q] at h
      cases h
      exact ⟨v, rfl, a⟩
    | false =>
      rw [q] at h
      exact at_lookup t h
theorem sim_fld {c : Nat} {f : Str} {fs : List Str} {te : TE} {m : M D} (k : KCls K (cl c) fs) (hf : f ∈ fs) (ha : SimE K cl E te m) : SimE K cl E (tFld K te f) (mUn (dFld c f) m) := by
  intro zA F B H es σ Q r h
  refine ha _ F B H es σ _ r (Po.imp (Po.bnd h) fun d es1 B1 H1 _ _ h1 v r1 a => ?_)
  obtain ⟨x, hx, hk⟩ := Po.opt h1
  cases a with
  | @ins p dx c' ns vs ds g1 g2 g3 =>
    simp only [dFld] at hx
    split at hx
    · rename_i hc
      subst hc
      obtain ⟨w, hw, aw⟩ := at_lookup g3 hx
      exact ⟨p, cl c', dx, _, w, rfl, r1.bh _ _ g1, k.cls, k.na f hf, hw, hk B1 H1 (Same.rfl' _) (Frs.refl _ _) w r1 aw⟩
    · cases hx
  | _ => cases hx
theorem isC_ty {c : Nat} {fs : List Str} {v : V} {d x : D} (k : KCls K (cl c) fs) (r : Rel K cl zA F B H es σ) (a : At K cl B v d) (h : isC c d = some x) : ∃ (t : Value) (b : Bool), TyX K H v t ∧ PySem.W.kitOne K t (.ref (cl c)) = some b ∧ x = .bl b := by
  have g : ∀ n : String, tyN d = some n → n ∈ ["NoneType", "bool", "int", "str", "tuple", "list", "dict"] → ∃ (t : Value) (b : Bool), TyX K H v t ∧ PySem.W.kitOne K t (.ref (cl c)) = some b ∧ D.bl false = .bl b := fun n e m =>
    ⟨.type n, false, at_ty r a e, k.kT n m, rfl⟩
  cases d with
  | ins c' ns l =>
    simp only [isC] at h
    split at h
    · rename_i hc
      subst hc
      cases h
      cases a with
      | ins h1 h2 h3 => exact ⟨_, true, .base (.ins (r.bh _ _ h1) k.cls k.ca k.cn k.ct k.cm), by unfold PySem.W.kitOne; rw [if_pos (by simp)], rfl⟩
    · cases h
  | scr l => cases h
  | non => cases h; exact g _ rfl (by decide)
  | bl _ => cases h; exact g _ rfl (by decide)
  | int _ => cases h; exact g _ rfl (by decide)
  | str _ => cases h; exact g _ rfl (by decide)
  | tup _ => cases h; exact g _ rfl (by decide)
  | lst _ => cases h; exact g _ rfl (by decide)
  | dc0 => cases h; exact g _ rfl (by decide)
  | dct _ _ => cases h; exact g _ rfl (by decide)
  | fn => cases h
theorem sim_isC {c : Nat} {fs : List Str} {te : TE} {m : M D} (k : KCls K (cl c) fs) (ha : SimE K cl E te m) : SimE K cl E (tCB (rIsi K) (tCons te (tCons (tC (.ref (cl c))) tNil))) (mUn (isC c) m) := by
  intro zA F B H es σ Q r h
  refine ha _ F B H es σ _ r (Po.imp (Po.bnd h) fun d es1 B1 H1 _ _ h1 v r1 a => ?_)
  obtain ⟨x, hx, hk⟩ := Po.opt h1
  obtain ⟨t, b, ty, ek, rfl⟩ := isC_ty k r1 a hx
  exact ⟨v, .ref (cl c), t, .ref (cl c), b, rfl, .own _, ty, ek, hk B1 H1 (Same.rfl' _) (Frs.refl _ _) _ r1 (.bl b)⟩
def spI (K : PySem.W.Frag) (cl : CL) (c : Nat) (g : List D → R (List Str × List D)) (n : Nat) : Sp := fun vs H Q E => ∃ (x dx : Addr) (vs' : List V) (ds : List D) (B : Hp), vs = .ref x :: vs' ∧ ds.length = n ∧ Bas cl B (hid H x) ∧ B x = none ∧ H x = some (.ins (cl c) dx []) ∧ AtL K cl B vs' ds ∧ match g ds with
  | .ok (ns, l) => ∀ (dx' : Addr) (B' H' : Hp) (ws : List V), Same B B' → Frs B (noT (hid H x)) B' → Same (noT (hid H x)) H' → B' x = none → H' x = some (.ins (cl c) dx' (ns.zip ws)) → ws.length = ns.length → AtL K cl B' ws l → Bas cl B' H' → Q .non H'
  | .exc e d => Exk K cl E (noT (hid H x)) B e d
  | .bad => False
def mkIns (c : Nat) (r : R (List Str × List D)) : R D := match r with
  | .ok (ns, l) => .ok (.ins c ns l)
  | .exc e d => .exc e d
  | .bad => .bad
def mMake (c n : Nat) (g : List D → R (List Str × List D)) (a : M (List D)) : M D := Mi.bnd a fun ds => if ds.length = n then Mi.lft (mkIns c (g ds)) else Mi.bad
theorem sim_make {c n : Nat} {ta : TA} {ma : M (List D)} {g : List D → R (List Str × List D)} (ha : SimA K cl E ta ma) : SimE K cl E (tMake (cl c) (spI K cl c g n) [] E ta) (mMake c n g ma) := by
  intro zA F B H es σ Q r h
  refine ha _ F B H es σ _ r (Po.imp (Po.bnd h) fun ds es1 B1 H1 _ _ h1 vs r1 a => ?_)
  by_cases hn : ds.length = n
  · rw [if_pos hn] at h1
    intro x dx nx ndx ne
    have nB : B1 x = none := r1.bh.free nx
    have nF : F x = none := r1.fh.free nx
    have s1 : Same H1 (upd (upd H1 dx (.own x)) x (.ins (cl c) dx [])) := (same_new ndx).trans (same_new (by rw [upd_ne (Ne.symm ne)]; exact nx))
    have s2 : Same H1 (hid (upd (upd H1 dx (.own x)) x (.ins (cl c) dx [])) x) := fun b o e => by
      rw [hid_ne (ne_of_none e nx)]
      exact s1 _ _ e
    have s0 := s2
    have s2 := same_noT2 s2
    have up : ∀ {B' : Hp}, Frs B1 (noT (hid (upd (upd H1 dx (.own x)) x (.ins (cl c) dx [])) x)) B' → Frs B1 (noT H1) B' := fun {B'} f b o e n => s2.free (f b o e n)
    show spI K cl c g n (.ref x :: (vs ++ [])) _ _ E
    rw [List.append_nil]
    refine ⟨x, dx, vs, ds, B1, rfl, hn, ⟨r1.bh.trans s0, r1.nb, fun q hq => (r1.tab q hq).ext s0, r1.fl.trans (r1.fhN.trans (same_noT2 s0))⟩, nB, upd_same, a, ?_⟩
    unfold Mi.lft at h1
    cases q : g ds with
    | ok pr =>
      obtain ⟨ns, l⟩ := pr
      rw [q] at h1
      intro dx' B' H' ws s f sh nx' hx hl al sb
      refine ⟨rfl, ?_⟩
      have sB : Same B' (upd B' x (.ins (cl c) dx' (ns.zip ws))) := same_new nx'
      have fB : Frs B1 (noT H1) (upd B' x (.ins (cl c) dx' (ns.zip ws))) := fun b o e n => by
        by_cases hb : b = x
        · rw [hb]; exact noT_none nx
        · rw [upd_ne hb] at e
          exact up f b o e n
      refine h1 (upd B' x (.ins (cl c) dx' (ns.zip ws))) H' (s.trans sB) (r1.frs fB) (.ref x) (r1.grow (s.trans sB) (s2.trans sh) ⟨fun b o e => ?_, sb.nb.upd (fun _ z => by cases z), sb.tab, sb.fl⟩ fB) (.ins upd_same hl (al.up sB))
      by_cases hb : b = x
      · subst hb
        rw [upd_same] at e
        cases e
        exact hx
      · rw [upd_ne hb] at e
        exact sb.bh _ _ e
    | exc e d =>
      rw [q] at h1
      intro v dd B' H' s f sh sb nd nb e' av
      have h2 : Exk K cl E F B1 e d := h1
      exact h2 v dd B' H' s (r1.frs (up f)) (r1.fhN.trans (s2.trans sh)) sb (r1.fhN.free (s2.free nd)) nb e' av
    | bad => rw [q] at h1; exact h1.elim
  · rw [if_neg hn] at h1
    exact h1.elim
abbrev MN := List Str → List D → M (List Str × List D)
abbrev insO (cl : CL) (c : Nat) (dx : Addr) (ns : List Str) (vs : List V) : HO := .ins (cl c) dx (ns.zip vs)
structure Self (K : PySem.W.Frag) (cl : CL) (c : Nat) (F0 B H : Hp) (es : En) (σ : L2.St) (p dx : Addr) (ns : List Str) (vs : List V) (ds : List D) : Prop where
  nf : F0 p = none
  nl : cl.fl p = none
  nb : B p = none
  at0 : σ[0]? = some (some (.ref p))
  len : vs.length = ns.length
  al : AtL K cl B vs ds
  rel : Rel K cl ⟨none, []⟩ (upd F0 p (insO cl c dx ns vs)) B H es σ
def SimN (K : PySem.W.Frag) (cl : CL) (E : XK) (c : Nat) (t : TS) (mn : MN) : Prop := ∀ (F0 B H : Hp) (es : En) (σ : L2.St) (Dn : Ends) (p dx : Addr) (ns : List Str) (vs : List V) (ds : List D), Self K cl c F0 B H es σ p dx ns vs ds →
  Po K cl E F0 B (mn ns ds es) (fun r es' B' H' => ∀ (vs2 : List V) (dx' : Addr), Self K cl c F0 B' H' es' σ p dx' r.1 vs2 r.2 → Dn.nx σ H') → t Dn σ H
def SimNE (K : PySem.W.Frag) (cl : CL) (E : XK) (c : Nat) (t : TE) (me : List Str → List D → M D) : Prop := ∀ (F0 B H : Hp) (es : En) (σ : L2.St) (Q : VK) (p dx : Addr) (ns : List Str) (vs : List V) (ds : List D), Self K cl c F0 B H es σ p dx ns vs ds →
  Po K cl E F0 B (me ns ds es) (fun d es' B' H' => ∀ v, Self K cl c F0 B' H' es' σ p dx ns vs ds → At K cl B' v d → Q v H') → t σ H Q
def SimNA (K : PySem.W.Frag) (cl : CL) (E : XK) (c : Nat) (t : TA) (me : List Str → List D → M (List D)) : Prop := ∀ (F0 B H : Hp) (es : En) (σ : L2.St) (Q : List V → Hp → Prop) (p dx : Addr) (ns : List Str) (vs : List V) (ds : List D), Self K cl c F0 B H es σ p dx ns vs ds →
  Po K cl E F0 B (me ns ds es) (fun l es' B' H' => ∀ ws, Self K cl c F0 B' H' es' σ p dx ns vs ds → AtL K cl B' ws l → Q ws H') → t σ H Q
theorem Exk.floor {F0 : Hp} {p : Addr} {o : HO} {e : Nat} {d : D} (h : Exk K cl E F0 B e d) (nf : F0 p = none) : Exk K cl E (upd F0 p o) B e d := fun v dx B' H' s f sh sb n nb e' a => by
  refine h v dx B' H' s (f.floor nf) ((same_new nf).trans sh) sb ?_ nb e' a
  exact (same_new nf).free n
theorem Po.floor {α : Type} {F0 : Hp} {p : Addr} {o : HO} {r : R (α × En)} {k : α → En → Hp → Hp → Prop} (h : Po K cl E F0 B r k) (nf : F0 p = none) (nb : B p = none) : Po K cl E (upd F0 p o) B r (fun a es' B' H' => Same B B' ∧ B' p = none ∧ k a es' B' H') := by
  cases r with
  | ok pr => exact fun B' H' s f => ⟨s, f.notp nb, h B' H' s (f.floor nf)⟩
  | exc e d => exact Exk.floor h nf
  | bad => exact h
theorem Self.grow {c : Nat} {F0 B' H' : Hp} {es' : En} {p dx : Addr} {ns : List Str} {vs : List V} {ds : List D} (S : Self K cl c F0 B H es σ p dx ns vs ds) (s : Same B B') (nb : B' p = none) (r : Rel K cl ⟨none, []⟩ (upd F0 p (insO cl c dx ns vs)) B' H' es' σ) : Self K cl c F0 B' H' es' σ p dx ns vs ds :=
  ⟨S.nf, S.nl, nb, S.at0, S.len, S.al.up s, r⟩
theorem ne_of {c : Nat} {te : TE} {m : M D} (h : SimE K cl E te m) : SimNE K cl E c te (fun _ _ => m) := by
  intro F0 B H es σ Q p dx ns vs ds S k
  refine h _ _ B H es σ _ S.rel (Po.imp (Po.floor k S.nf S.nb) fun d es1 B1 H1 _ _ ⟨s1, n1, k1⟩ v r1 a => k1 v (S.grow s1 n1 r1) a)
theorem ne_self {c : Nat} {f : Str} {fs : List Str} (k : KCls K (cl c) fs) (hf : f ∈ fs) : SimNE K cl E c (tFld K (tVar 0) f) (fun ns ds => Mi.opt ((ns.zip ds).lookup f)) := by
  intro F0 B H es σ Q p dx ns vs ds S h
  obtain ⟨d, hd, hk⟩ := Po.opt h
  obtain ⟨w, hw, aw⟩ := at_lookup S.al hd
  exact ⟨.ref p, S.at0, p, cl c, dx, _, w, rfl, S.rel.fh _ _ upd_same, k.cls, k.na f hf, hw, hk B H (Same.rfl' _) (Frs.refl _ _) w S aw⟩
theorem na_nil {c : Nat} : SimNA K cl E c tNil (fun _ _ => mNil) := fun F0 B H es σ Q p dx ns vs ds S h => Po.ret0 h H [] S .nil
theorem na_cons {c : Nat} {ta : TE} {tr : TA} {ma : List Str → List D → M D} {mr : List Str → List D → M (List D)} (ha : SimNE K cl E c ta ma) (hr : SimNA K cl E c tr mr) : SimNA K cl E c (tCons ta tr) (fun ns ds => mCons (ma ns ds) (mr ns ds)) := by
  intro F0 B H es σ Q p dx ns vs ds S h
  refine ha F0 B H es σ _ p dx ns vs ds S (Po.imp (Po.bnd h) fun d1 es1 B1 H1 _ _ h1 v S1 a => ?_)
  refine hr F0 B1 H1 es1 σ _ p dx ns vs ds S1 (Po.imp (Po.bnd h1) fun l es2 B2 H2 e2 _ h2 ws S2 al => ?_)
  exact Po.ret0 h2 H2 (v :: ws) S2 (.cons (a.up e2) al)
theorem ne_call {c n : Nat} {ta : TA} {ma : List Str → List D → M (List D)} {g : List D → R D} (ha : SimNA K cl E c ta ma) : SimNE K cl E c (tCall (spM K cl g n) [] E ta) (fun ns ds => mCall n g (ma ns ds)) := by
  intro F0 B H es σ Q p dx ns vs ds S h
  refine ha F0 B H es σ _ p dx ns vs ds S (Po.imp (Po.bnd h) fun l es1 B1 H1 _ _ h1 ws S1 al => ?_)
  by_cases hn : l.length = n
  · rw [if_pos hn] at h1
    show spM K cl g n (ws ++ []) H1 Q E
    rw [List.append_nil]
    have r1 := S1.rel
    refine ⟨l, B1, hn, r1.bas, al, ?_⟩
    unfold Mi.lft at h1
    cases q : g l with
    | ok d =>
      rw [q] at h1
      intro v B' H' s f sh sb av
      have f2 := (r1.frs f)
      exact h1 B' H' s (f2.floor S1.nf) v (S1.grow s (f2.notp S1.nb) (r1.grow s sh sb f)) av
    | exc e d =>
      rw [q] at h1
      have h2 : Exk K cl E F0 B1 e d := h1
      exact Exk.call r1 (Exk.floor h2 S1.nf)
    | bad => rw [q] at h1; exact h1.elim
  · rw [if_neg hn] at h1
    exact h1.elim
def mnEnd : MN := fun ns ds => Mi.ret (ns, ds)
def mnIfR (mt : M Bool) (mr : M Out) (rest : MN) : MN := fun ns ds => Mi.bnd mt fun b => if b = true then (fun es => match mr es with
  | .exc e d => .exc e d
  | _ => .bad) else rest ns ds
def mnFld (f : Str) (me : List Str → List D → M D) (rest : MN) : MN := fun ns ds => Mi.bnd (me ns ds) fun d => if f ∉ ns ∧ ns.length < 900 then rest (ns ++ [f]) (ds ++ [d]) else Mi.bad
theorem sim_nend {c : Nat} : SimN K cl E c tNext mnEnd := fun F0 B H es σ Dn p dx ns vs ds S h => Po.ret0 h H vs dx S
theorem sim_nifr {c : Nat} {tt : TT} {mt : M Bool} {tr u : TS} {mr : M Out} {mn : MN} (ht : SimT K cl E tt mt) (hr : SimS K cl E tr mr) (hu : SimN K cl E c u mn) : SimN K cl E c (tSeq (tIfS tt tr tNext) u) (mnIfR mt mr mn) := by
  intro F0 B H es σ Dn p dx ns vs ds S h
  refine ht _ _ B H es σ _ S.rel (Po.imp (Po.floor (Po.bnd h) S.nf S.nb) fun b es1 B1 H1 _ _ ⟨s1, n1, k1⟩ r1 => ?_)
  have S1 := S.grow s1 n1 r1
  cases b with
  | true =>
    simp only [if_true] at k1
    refine hr _ _ B1 H1 es1 σ _ r1 ?_
    cases q : mr es1 with
    | ok pr => rw [q] at k1; exact k1.elim
    | exc e d =>
      rw [q] at k1
      have k2 : Exk K cl E F0 B1 e d := k1
      exact Exk.floor k2 S.nf
    | bad => rw [q] at k1; exact k1.elim
  | false => exact hu F0 B1 H1 es1 σ Dn p dx ns vs ds S1 k1
theorem putF_new {f : Str} {v : V} : ∀ {ns : List Str} {vs : List V}, f ∉ ns → vs.length = ns.length → putF f v (ns.zip vs) = (ns ++ [f]).zip (vs ++ [v])
  | [], [], _, _ => rfl
  | [], _ :: _, _, h => by cases h
  | _ :: _, [], _, h => by cases h
  | n :: ns, w :: vs, hf, h => by
    have ne : n ≠ f := fun e => hf (by rw [e]; exact List.mem_cons_self)
    have e1 : (n :: ns).zip (w :: vs) = (n, w) :: ns.zip vs := rfl
    have e2 : (n :: ns ++ [f]).zip (w :: vs ++ [v]) = (n, w) :: (ns ++ [f]).zip (vs ++ [v]) := rfl
    rw [e1, e2, putF, if_neg ne, putF_new (fun z => hf (List.mem_cons_of_mem _ z)) (Nat.succ.inj h)]
theorem sim_nfld {c : Nat} {f : Str} {fs : List Str} {te : TE} {me : List Str → List D → M D} {u : TS} {mn : MN} (k : KCls K (cl c) fs) (hf : f ∈ fs) (he : SimNE K cl E c te me) (hu : SimN K cl E c u mn) : SimN K cl E c (tSeq (sFld K (tVar 0) te f) u) (mnFld f me mn) := by
  intro F0 B H es σ Dn p dx ns vs ds S h
  refine he F0 B H es σ _ p dx ns vs ds S (Po.imp (Po.bnd h) fun d es1 B1 H1 _ _ h1 v S1 a => ?_)
  by_cases hn : f ∉ ns ∧ ns.length < 900
  · rw [if_pos hn] at h1
    refine ⟨.ref p, S1.at0, p, cl c, dx, _, rfl, S1.rel.fh _ _ upd_same, k.cls, k.na f hf, ?_, ?_⟩
    · rw [List.length_zip, S1.len]
      omega
    · have e := putF_new (v := v) hn.1 S1.len
      rw [e]
      refine hu F0 B1 _ es1 σ Dn p dx (ns ++ [f]) (vs ++ [v]) (ds ++ [d]) ⟨S1.nf, S1.nl, S1.nb, S1.at0, by rw [List.length_append, List.length_append, S1.len]; rfl, S1.al.app (.one a), ?_⟩ h1
      exact S1.rel.refloorG S1.nf S1.nb S1.nl (fun _ z => by cases z) (fun _ z => by cases z)
  · rw [if_neg hn] at h1
    exact h1.elim
end
end Mi
namespace Mi
open PySem PySem.Spec PyProof.Rows L2
abbrev ClF := Addr → Value → Option Addr → TS
def goneD (i : Nat) (D : Ends) : Ends := { nx := fun z G => D.nx (z.set i none) G, rt := D.rt, bk := fun z G => D.bk (z.set i none) G, ct := fun z G => D.ct (z.set i none) G }
def wNamed (K : PySem.W.Frag) (W0 : WX) (D : Ends) : List (Value × Nat × ClF) → WX
  | [] => W0
  | (c, i, ts) :: r => fun cls d z G => ∃ b, PySem.W.exmOne K cls c = some b ∧ (b = true → ∀ a, G a = none → ts a cls d (goneD i D) (z.set i (some (.ref a))) G) ∧ (b = false → wNamed K W0 D r cls d z G)
inductive Clauses (X : Cx) : List ExceptHandler → List (Value × Nat × ClF) → Prop
  | nil : Clauses X [] []
  | cons {x n : Str} {c : Value} {i : Nat} {ts : ClF} {st : Stmt} {p1 p2 : Pos} {hds : List ExceptHandler} {l : List (Value × Nat × ClF)} (hi : X.N[i]? = some n) (hl : X.env.kindOf n = some .local) (hc : Names X x c)
      (hsu : ∀ (a : Addr) (oe : Obj) (cls : Value) (d : Option Addr) (pn : List (Addr × Obj)), Zc cls d oe → (∃ vs, oe.data = .fields vs) → PSs (X.suite a ((a, oe) :: pn)) [st] (ts a cls d)) (r : Clauses X hds l) :
      Clauses X (.ExceptHandler (some (.Name x p1)) (some n) [st] p2 :: hds) ((c, i, ts) :: l)
section
variable {X : Cx} {body : List Stmt} {h0 : ExceptHandler} {hds : List ExceptHandler} {l : List (Value × Nat × ClF)} {pos : Pos} {tb : WX → TS} {W0 : WX}
theorem ps_try_named (hs : X.stack = X.env :: X.outer) (hf : X.env.frame = some X.env.locals) (hN : X.N.Nodup) (tk : Takes X W0)
    (hb : ∀ (W : WX) (pn : List (Addr × Obj)) (xe : Value → Shared → Prop), Takes (X.tr pn xe) W → PassesOwn (model X.prog X.w) X.A X.env xe → PSs (X.tr pn xe) body (tb W))
    (hh : Clauses X (h0 :: hds) l) : PS X (.Try body (h0 :: hds) [] [] pos) (fun D z G => tb (wNamed X.K W0 D l) D z G) := by
  refine ⟨fun pins s z G D I h => ?_⟩
  have okX := I.ok
  have hfr : X.A.frames = some (X.env :: X.outer) := by rw [okX.frames, hs]
  refine wpAny_Try_except ?_
  refine wpAny_mono ((hb (wNamed X.K W0 D l) (X.pn ++ pins) _ (fun u s' xx => ?_) PassesOwn.looking).run [] s z G D (I.toTry _) h)
    (fun f s1 hsp => ?_) (fun e s1 he => he)
  · obtain ⟨a, B, sI, pins', z', G', cls, d, rfl, Jt, nb, up, sk0, na, os, ag, wd⟩ := xx
    have J := Jt.ofTry okX
    have sk1 : Sky B (X.env :: X.outer) a (Zc cls d) X.env.locals s'.heap := by
      rw [← hs]
      exact sk0
    show wpAny (model X.prog X.w) X.A (noteFrame (.ref a) X.env) _ _ _
    refine Sky.land Zc.steady hfr hf sk1 fun hp3 fl up3 => ?_
    have J3 : Inv X pins z' G' { s' with heap := hp3 } := J.landed nb fl.1 (up.trans up3) os ag
    obtain ⟨ob, vs3, hob, hzc, hdt⟩ := fl.there
    have nfr : a ∉ frs (X.env :: X.outer) := fun hm => by
      obtain ⟨_, o', e', hnf⟩ := fl.2.2.1.mem hm
      rw [hob] at e'
      cases e'
      exact hnf _ hdt
    have nL : a ≠ X.env.locals := fun q => nfr (List.mem_filterMap.mpr ⟨X.env, List.mem_cons_self, by rw [hf, q]⟩)
    have nF : a ∉ X.fs := fun hm => by
      obtain ⟨e, he, q⟩ := List.mem_filterMap.mp hm
      exact nfr (List.mem_filterMap.mpr ⟨e, List.mem_cons_of_mem _ he, q⟩)
    have S3 := J3.suite hob hdt na nL nF
    have go : ∀ {hl : List ExceptHandler} {ll : List (Value × Nat × ClF)}, Clauses X hl ll → wNamed X.K W0 D ll cls d z' G' →
        wpAny (model X.prog X.w) X.A (handleBy (.ref a) X.env hl) (SP X pins D) X.xe { s' with heap := hp3 } := by
      intro hl ll hk
      induction hk with
      | nil =>
        intro wd
        refine wpAny_handleBy_nil ?_
        obtain ⟨_, _, _, oe, vs, T, oT, ts', he, hz, hd, h1, hr⟩ := id fl
        unfold PySem.passOn
        refine wpAny_bind (wpAny_field he hd h1 ?_)
        rw [if_neg (by simp)]
        have fin : wpAny (model X.prog X.w) X.A (setFlight (.ref a) X.env.frame)
            (fun _ s4 => wpAny (model X.prog X.w) X.A (throw (.ref a) : Sem Flow) (SP X pins D) X.xe s4) X.xe { s' with heap := hp3 } := by
          rw [hf]
          refine HandSPX.setFlight_upZ fl fun h4 hh4 up4 => wpAny_throw (tk _ _ ?_)
          refine ⟨a, B, sI, pins, z', G', cls, d, rfl, J, nb, (up.trans up3).trans up4, .inr (.inr ?_), na, os, ag, wd⟩
          rw [hs]
          exact hh4
        first
          | exact wpAny_bind (wpAny_pure (wpAny_bind fin))
          | exact wpAny_bind fin
      | @cons x n c i ts st p1 p2 hds2 l2 hi hloc hc hsu r ih =>
        intro wd
        obtain ⟨b, hb1, hyes, hno⟩ := wd
        refine wpAny_handleBy_cons (codeAny_handlers_test ?_) (by intro q; cases q)
        have LT : PySem.W.Looks (model X.prog X.w) hp3 (typeOf (.ref a)) cls := fun A Q E s k q => wpAny_typeOf_ref (k _ _ hob) (by
          rw [hzc.1]
          exact q)
        have LM := PySem.W.exm_one (M := model X.prog X.w) (J3.kIn) LT hb1
        have asked : ∀ {Q : Value → Shared → Prop} {E : Value → Shared → Prop}, Q c { s' with heap := hp3 } →
            wpAny (model X.prog X.w) (X.A.mark (some (.ref a))) (eval (.Name x p1) X.env) Q E { s' with heap := hp3 } := fun {Q E} q => by
          obtain ⟨hg, hdbg, hm | ⟨hm, hv, hnn⟩⟩ := hc
          · exact ld_glob (X := X.suite a ((a, ob) :: (X.pn ++ pins))) S3 hg hm q hdbg
          · exact ld_blt (X := X.suite a ((a, ob) :: (X.pn ++ pins))) S3 hg hm hv q hnn hdbg
        refine asked (LM.here ?_)
        cases b with
        | true =>
          refine codeAny_handlers_suite_as ?_
          refine HandSPX.lands_againZ fl fun h4 fl4 up4 => ?_
          have J4 : Inv X pins z' G' { s' with heap := h4 } := J.landed nb fl4.1 ((up.trans up3).trans up4) os ag
          obtain ⟨oe4, vs4, he4, hz4, hd4⟩ := fl4.there
          have S4 := J4.suite he4 hd4 na nL nF
          refine store_ok (X := X.suite a ((a, oe4) :: (X.pn ++ pins))) (v := .ref a) S4 hN hi (Or.inl hloc) rfl (fun s5 S5 => ?_) (.inr hloc)
          refine wpAny_mono ((hsu a oe4 cls d (X.pn ++ pins) hz4 ⟨_, hd4⟩).run [] s5 _ G' _ S5 (hyes rfl a na))
            (fun f s6 hsp => ?_) (fun _ _ q => False.elim q)
          have cease : ∀ {z6 : L2.St} {G6 : Hp} {Q : Shared → Prop}, Inv (X.suite a ((a, oe4) :: (X.pn ++ pins))) [] z6 G6 s6 → (∀ s7, Inv X pins (z6.set i none) G6 s7 → Q s7) →
              wpAny (model X.prog X.w) X.A (do bindName X.env n .none; unbindBehindTheSuite X.env n p2) (fun _ s7 => Q s7) X.xe s6 :=
            fun S6 hq => gone_ok (S6.unsuite okX) hN hi hloc hq
          cases f with
          | ret u =>
            obtain ⟨v6, z6, G6, S6, r6, q6⟩ := hsp
            exact cease S6 fun s7 J7 => ⟨_, _, _, J7, r6, q6⟩
          | next =>
            obtain ⟨z6, G6, S6, q6⟩ := hsp
            exact cease S6 fun s7 J7 => ⟨_, _, J7, q6⟩
          | brk =>
            obtain ⟨z6, G6, S6, q6⟩ := hsp
            exact cease S6 fun s7 J7 => ⟨_, _, J7, q6⟩
          | cont =>
            obtain ⟨z6, G6, S6, q6⟩ := hsp
            exact cease S6 fun s7 J7 => ⟨_, _, J7, q6⟩
        | false =>
          show wpAny _ X.A (handleBy (.ref a) X.env hds2) _ _ _
          exact ih (hno rfl)
    exact go hh wd
  · cases f with
    | ret u =>
      obtain ⟨v, z', G', J', r, q⟩ := hsp
      exact ⟨v, z', G', J'.ofTry okX, r, q⟩
    | next =>
      obtain ⟨z', G', J', q⟩ := hsp
      exact wpAny_execs_nil ⟨z', G', J'.ofTry okX, q⟩
    | brk =>
      obtain ⟨z', G', J', q⟩ := hsp
      exact ⟨z', G', J'.ofTry okX, q⟩
    | cont =>
      obtain ⟨z', G', J', q⟩ := hsp
      exact ⟨z', G', J'.ofTry okX, q⟩
end
def runC (i : Nat) : List (Nat × (D → M Out)) → Nat → D → M Out
  | [], _, _ => Mi.bad
  | (c0, ms) :: r, c, d => if c = c0 then (fun es => match ms d (es.set i .un) with
    | .ok (o, es2) => .ok (o, es2.set i .un)
    | .exc c d => .exc c d
    | .bad => .bad) else runC i r c d
def mTryN (i n : Nat) (g : List D → R D) (ma : M (List D)) (cs : List (Nat × (D → M Out))) : M Out := Mi.bnd ma fun ds es => if ds.length = n ∧ i < es.length then (match g ds with
  | .ok _ => .ok (.nx, es)
  | .exc c d => runC i cs c d es
  | .bad => .bad) else .bad
inductive SimCl (K : PySem.W.Frag) (cl : CL) (E : XK) (i : Nat) : List (Value × Nat × ClF) → List (Nat × (D → M Out)) → Prop
  | nil : SimCl K cl E i [] []
  | cons {c0 : Nat} {t : Addr → Addr → Nat → TS} {ms : D → M Out} {l : List (Value × Nat × ClF)} {r : List (Nat × (D → M Out))} (hx : PySem.W.exmOne K (.ref (cl c0)) (.ref (cl c0)) = some true)
      (ho : ∀ p ∈ r, PySem.W.exmOne K (.ref (cl p.1)) (.ref (cl c0)) = some false)
      (hs : ∀ (a dx : Addr) (dv : D), SimXS K cl E i a dx dv (t a dx c0) (ms dv)) (hr : SimCl K cl E i l r) : SimCl K cl E i ((.ref (cl c0), i, tSuite (cl c0) (fun a dx => t a dx c0)) :: l) ((c0, ms) :: r)
section
variable {K : PySem.W.Frag} {cl : CL} {E : XK} {i : Nat}
theorem runC_mem {c : Nat} {d : D} : ∀ {cs : List (Nat × (D → M Out))} {es : En} {zA : Zp} {F B : Hp} {k : Out → En → Hp → Hp → Prop}, Po K cl E F B (runC i cs c d es) k → ∃ p ∈ cs, p.1 = c
  | [], _, _, _, _, _, h => h.elim
  | (c0, ms) :: r, es, zA, F, B, k, h => by
    by_cases e : c = c0
    · exact ⟨_, List.mem_cons_self, e.symm⟩
    · simp only [runC] at h
      rw [if_neg e] at h
      obtain ⟨p, m, q⟩ := runC_mem (zA := zA) h
      exact ⟨p, List.mem_cons_of_mem _ m, q⟩
theorem sim_cl {l : List (Value × Nat × ClF)} {r : List (Nat × (D → M Out))} (h : SimCl K cl E i l r) : ∀ {zA : Zp} {F B H : Hp} {es : En} {σ : L2.St} {c : Nat} {dx : Addr} {v : V} {d : D} {Dn : Ends}, Rel K cl zA F B H es σ → i < es.length → F dx = none → H dx = some (XdO v) → At K cl B v d →
    Po K cl E F B (runC i r c d es) (EndP K cl zA F Dn) → wNamed K (fun cls d _ H => E cls d H) Dn l (.ref (cl c)) (some dx) σ H := by
  induction h with
  | nil => exact fun _ _ _ _ _ h => h.elim
  | @cons c0 t ms l r hx ho hs hr ih =>
    intro zA F B H es σ c dx v d Dn rl hi nF hd av h
    by_cases hc : c = c0
    · subst hc
      simp only [runC, if_true] at h
      refine ⟨true, hx, fun _ a na => ⟨dx, rfl, rfl, ?_⟩, fun z => by cases z⟩
      have r3 := (rl.unS i (some (.ref a))).floorX hd nF
      refine hs a dx d zA _ B H _ _ _ r3 (List.getElem?_set_self (by rw [← rl.len]; exact hi)) ⟨v, upd_same, av⟩ ?_
      refine Po.floorX nF ?_
      cases q2 : ms d (es.set i .un) with
      | ok p =>
        obtain ⟨o, es2⟩ := p
        rw [q2] at h
        intro B'' H'' s2 f2
        have h3 := h B'' H'' s2 f2
        cases o with
        | nx => exact fun σ' r' => h3 _ ((r'.lowerX nF (rl.fl.free nF)).unS i none)
        | rt d => exact fun v σ' r' a' => h3 v _ ((r'.lowerX nF (rl.fl.free nF)).unS i none) a'
        | bk => exact fun σ' r' => h3 _ ((r'.lowerX nF (rl.fl.free nF)).unS i none)
        | ct => exact fun σ' r' => h3 _ ((r'.lowerX nF (rl.fl.free nF)).unS i none)
      | exc c d => rw [q2] at h; exact h
      | bad => rw [q2] at h; exact h.elim
    · simp only [runC] at h
      rw [if_neg hc] at h
      obtain ⟨p, m, rfl⟩ := runC_mem (zA := zA) h
      exact ⟨false, ho p m, (fun z => by cases z), fun _ => ih rl hi nF hd av h⟩
theorem sim_tryN {n : Nat} {g : List D → R D} {ta : TA} {ma : M (List D)} {l : List (Value × Nat × ClF)} {cs : List (Nat × (D → M Out))} (ha : SimA K cl E ta ma) (hc : SimCl K cl E i l cs) :
    SimS K cl E (fun Dn σ H => tDrop (tCallS (spM K cl g n) (WE (wNamed K (fun cls d _ H => E cls d H) Dn l)) ta) Dn σ H) (mTryN i n g ma cs) := by
  intro zA F B H es σ Dn r h
  refine ha _ F B H es σ _ r (Po.imp (Po.bnd h) fun ds es1 B1 H1 e1 f1 h1 vs r1 av => ?_)
  by_cases hn : ds.length = n ∧ i < es1.length
  · rw [if_pos hn] at h1
    refine ⟨ds, B1, hn.1, r1.bas, av, ?_⟩
    cases q : g ds with
    | ok d =>
      rw [q] at h1
      exact fun v B' H' s f sh sb av => h1 B' H' s (r1.frs f) _ (r1.grow s sh sb f)
    | exc c d =>
      rw [q] at h1
      intro v dx B' H' s f sh sb nH nb hd av
      exact sim_cl hc (r1.grow s sh sb f) hn.2 (r1.fhN.free nH) hd av (Po.up s (r1.frs f) h1)
    | bad => rw [q] at h1; exact h1.elim
  · rw [if_neg hn] at h1
    exact h1.elim
end
structure XCl (X : Cx) (cl : CL) (E : XK) (i : Nat) (hds : List ExceptHandler) (l : List (Value × Nat × ClF)) (r : List (Nat × (D → M Out))) : Prop where
  p : Clauses X hds l
  s : SimCl X.K cl E i l r
section
variable {X : Cx} {cl : CL} {E : XK} {i : Nat}
theorem xcl_nil : XCl X cl E i [] [] [] := ⟨.nil, .nil⟩
theorem xcl_cons {n xc : Str} {c0 : Nat} {t : Addr → Addr → Nat → TS} {ms : D → M Out} {st : Stmt} {p1 p2 : Pos} {hds : List ExceptHandler} {l : List (Value × Nat × ClF)} {r : List (Nat × (D → M Out))}
    (gC : X.mg xc = some (.ref (cl c0))) (hx : PySem.W.exmOne X.K (.ref (cl c0)) (.ref (cl c0)) = some true) (ho : ∀ p ∈ r, PySem.W.exmOne X.K (.ref (cl p.1)) (.ref (cl c0)) = some false)
    (hsu : ∀ (a dx : Addr) (dv : D) (oe : Obj) (pn : List (Addr × Obj)), Zc (.ref (cl c0)) (some dx) oe → (∃ vs, oe.data = .fields vs) → XXS (X.suite a ((a, oe) :: pn)) cl E i a dx dv st (t a dx c0) (ms dv)) (hr : XCl X cl E i hds l r)
    (hi : X.N[i]? = some n := by rfl) (hl : X.env.kindOf n = some .local := by rfl) (hgc : Gl X xc := by rfl) (hdc : (xc == ("__debug__" : Str)) = false := by decide) :
    XCl X cl E i (.ExceptHandler (some (.Name xc p1)) (some n) [st] p2 :: hds) ((.ref (cl c0), i, tSuite (cl c0) (fun a dx => t a dx c0)) :: l) ((c0, ms) :: r) := by
  refine ⟨.cons hi hl ⟨hgc, hdc, .inl gC⟩ (fun a oe cls d pn hz hfv => ?_) hr.p, .cons hx ho (fun a dx dv => ?_) hr.s⟩
  · refine ⟨fun pins s σ H D I h => ?_⟩
    obtain ⟨dx, rfl, rfl, h⟩ := h
    exact (pss_one (hsu a dx .non oe pn hz hfv).p).run pins s σ H D I h
  · exact (hsu a dx dv ⟨.ref (cl c0), some dx, .fields #[], #[]⟩ [] ⟨rfl, rfl⟩ ⟨_, rfl⟩).s
theorem xs_tryN (i : Nat) {K : PySem.W.Frag} {e : Expr} {es : List Expr} {ta : TA} {ma : M (List D)} {x : Str} {p pos pos2 pos4 : Pos} {k m : Nat} {ps : List Str} {g : List D → R D} {h0 : ExceptHandler} {hds : List ExceptHandler} {l : List (Value × Nat × ClF)} {cs : List (Nat × (D → M Out))}
    (hN0 : X.N.Nodup) (T : Fact X.prog X.w K X.mg X.base x k ps (spM K cl g m)) (hr : RoomG k X.A) (tk : Takes X (fun cls d _ H => E cls d H))
    (ha : ∀ (pn : List (Addr × Obj)) (xe : Value → Shared → Prop), XA (X.tr pn xe) cl E (e :: es) ta ma) (hc : XCl X cl E i (h0 :: hds) l cs)
    (hK : X.K = K := by rfl) (hs : X.stack = X.env :: X.outer := by rfl) (hf : X.env.frame = some X.env.locals := by rfl)
    (hg : Gl X x := by rfl) (hdb : (x == ("__debug__" : Str)) = false := by decide)
    (he : starEach (e :: es) X.env = (false, eval e X.env) :: starEach es X.env := by rfl) (hpl : (backTo pos (starEach es X.env)).any (·.1) = false := by rfl)
    (hsw : swapsWith (.Call (.Name x p) (e :: es) [] pos) none pos2.line X.env = pure false := by rfl) :
    XS X cl E (.Try [.Expr (.Call (.Name x p) (e :: es) [] pos) pos2] (h0 :: hds) [] [] pos4)
      (fun Dn σ H => tDrop (tCallS (spM K cl g m) (WE (wNamed K (fun cls d _ H => E cls d H) Dn l)) ta) Dn σ H) (mTryN i m g ma cs) := by
  subst hK
  obtain ⟨f, fd, G, hm, hk, hb⟩ := T.ex
  exact ⟨ps_try_named (tb := fun W => tDrop (tCallS (spM X.K cl g m) (WE W) ta)) (W0 := fun cls d _ H => E cls d H) hs hf hN0 tk (fun W pn xe tk' po => pss_one (ps_expr (pe_callSG G hr hg hm hk hb (fun σ => passAt tk' σ) (ha pn xe).p hdb he hpl) hsw)) hc.p,
    sim_tryN (ha [] X.xe).s hc.s⟩
end
end Mi
namespace Mi
open PySem PySem.Spec PyProof.Rows L2
structure FactC (P : Program) (w : World) (K : PySem.W.Frag) (mg : Str → Option Value) (base : Heap) (x : Str) (C : Addr) (k : Nat) (ps : List Str) (sp : Sp) : Prop where
  ex : ∃ (f : Addr) (fd : FuncData), Mk K C f ∧ FnG P w K mg base (L2.CX P w) k f fd ps sp ∧ mg x = some (.ref C) ∧ Binds K fd ps []
section
variable {X : Cx} {cl : CL} {E : XK} {K : PySem.W.Frag} {e : Expr} {es : List Expr} {te : TE} {me : M D} {t : TA} {ml : M (List D)} {pos p : Pos} {fs : List Str}
theorem x_fld (c : Nat) {f : Str} (k : KCls K (cl c) fs) (he : XE X cl E e te me) (hf : f ∈ fs := by decide) (hK : X.K = K := by rfl) (hb : attributeBase e f X.env (eval e X.env) = eval e X.env := by rfl) : XE X cl E (.Attribute e f pos) (tFld K te f) (mUn (dFld c f) me) := by
  subst hK
  exact ⟨pe_fld he.p hb, sim_fld k hf he.s⟩
theorem x_isC (c : Nat) {x : Str} {p2 : Pos} (k : KCls K (cl c) fs) (gC : X.mg x = some (.ref (cl c))) (he : XE X cl E e te me) (mi : X.mg "isinstance" = none) (hK : X.K = K := by rfl) (hg : Gl X "isinstance" := by rfl) (hgx : Gl X x := by rfl) (hdb : (x == ("__debug__" : Str)) = false := by decide)
    (h1 : starEach [e, .Name x p2] X.env = (false, eval e X.env) :: starEach [.Name x p2] X.env := by rfl) (h2 : starEach [.Name x p2] X.env = (false, eval (.Name x p2) X.env) :: starEach [] X.env := by rfl) (hpl : (backTo pos (starEach [.Name x p2] X.env)).any (·.1) = false := by rfl) :
    XE X cl E (.Call (.Name "isinstance" p) [e, .Name x p2] [] pos) (tCB (rIsi K) (tCons te (tCons (tC (.ref (cl c))) tNil))) (mUn (isC c) me) := by
  subst hK
  exact ⟨pe_callB call_isi hg mi boot_isinstance (pa_cons he.p (pa_cons (pe_glob hgx gC rfl hdb) pa_nil h2) h1) (by decide) (by decide) h1 hpl, sim_isC k he.s⟩
theorem x_make (c : Nat) {x : Str} {k n : Nat} {ps : List Str} {g : List D → R (List Str × List D)} (T : FactC X.prog X.w K X.mg X.base x (cl c) k ps (spI K cl c g n)) (hr : RoomG (k + 1) X.A) (hx : Passes (L2.CX X.prog X.w) X E) (ha : XA X cl E (e :: es) t ml) (hK : X.K = K := by rfl) (hg : Gl X x := by rfl) (hdb : (x == ("__debug__" : Str)) = false := by decide)
    (he : starEach (e :: es) X.env = (false, eval e X.env) :: starEach es X.env := by rfl) (hpl : (backTo pos (starEach es X.env)).any (·.1) = false := by rfl) :
    XE X cl E (.Call (.Name x p) (e :: es) [] pos) (tMake (cl c) (spI K cl c g n) [] E t) (mMake c n g ml) := by
  subst hK
  obtain ⟨f, fd, Mc, G, hm, hb⟩ := T.ex
  exact ⟨pe_makeG Mc G hr hg hm hb .nil hx ha.p hdb he hpl, sim_make ha.s⟩
structure XN (X : Cx) (cl : CL) (E : XK) (c : Nat) (st : List Stmt) (t : TS) (m : MN) : Prop where
  p : PSs X st t
  s : SimN X.K cl E c t m
structure XNE (X : Cx) (cl : CL) (E : XK) (c : Nat) (e : Expr) (t : TE) (m : List Str → List D → M D) : Prop where
  p : PE X e t
  s : SimNE X.K cl E c t m
structure XNA (X : Cx) (cl : CL) (E : XK) (c : Nat) (e : List Expr) (t : TA) (m : List Str → List D → M (List D)) : Prop where
  p : PA X e t
  s : SimNA X.K cl E c t m
theorem xn_nil {c : Nat} : XN X cl E c [] tNext mnEnd := ⟨pss_nil, sim_nend⟩
theorem xn_ifr {c : Nat} {a : Expr} {st : List Stmt} {sts : List Stmt} {tA : TT} {mA : M Bool} {tr u : TS} {mr : M Out} {mn : MN} (hc : XT X cl E a tA mA) (hr : XB X cl E st tr mr) (h : XN X cl E c sts u mn) : XN X cl E c (.If a st [] pos :: sts) (tSeq (tIfS tA tr tNext) u) (mnIfR mA mr mn) :=
  ⟨pss_cons (ps_if hc.p hr.p pss_nil) h.p, sim_nifr hc.s hr.s h.s⟩
theorem xn_fld {c : Nat} {f : Str} {x : Str} {p1 p2 : Pos} {a : Expr} {sts : List Stmt} {ta : TE} {ma : List Str → List D → M D} {u : TS} {mn : MN} (k : KCls X.K (cl c) fs) (he : XNE X cl E c a ta ma) (h : XN X cl E c sts u mn) (hf : f ∈ fs := by decide) (hN : X.N[0]? = some x := by rfl) (hv : Vis X.env.scope x := by first | exact Or.inl rfl | exact Or.inr (Or.inl rfl) | exact Or.inr (Or.inr rfl)) (hd : (x == ("__debug__" : Str)) = false := by decide)
    (hcd : (x == ("__classdict__" : Str)) = false := by decide) (hs : swapsWith a (some (.Attribute (.Name x p1) f p2)) pos.line X.env = pure false := by rfl) : XN X cl E c (.Assign [.Attribute (.Name x p1) f p2] a pos :: sts) (tSeq (sFld X.K (tVar 0) ta f) u) (mnFld f ma mn) :=
  ⟨pss_cons (ps_fld (pe_var hN hv hd hcd) he.p hs) h.p, sim_nfld k hf he.s h.s⟩
theorem xne_of {c : Nat} (h : XE X cl E e te me) : XNE X cl E c e te (fun _ _ => me) := ⟨h.p, ne_of h.s⟩
theorem xne_self {c : Nat} {f : Str} {x : Str} {p1 : Pos} (k : KCls X.K (cl c) fs) (hf : f ∈ fs := by decide) (hN : X.N[0]? = some x := by rfl) (hv : Vis X.env.scope x := by first | exact Or.inl rfl | exact Or.inr (Or.inl rfl) | exact Or.inr (Or.inr rfl)) (hd : (x == ("__debug__" : Str)) = false := by decide)
    (hcd : (x == ("__classdict__" : Str)) = false := by decide) (hb : attributeBase (.Name x p1) f X.env (eval (.Name x p1) X.env) = eval (.Name x p1) X.env := by rfl) : XNE X cl E c (.Attribute (.Name x p1) f pos) (tFld X.K (tVar 0) f) (fun ns ds => Mi.opt ((ns.zip ds).lookup f)) :=
  ⟨pe_fld (pe_var hN hv hd hcd) hb, ne_self k hf⟩
theorem xna_nil {c : Nat} : XNA X cl E c [] tNil (fun _ _ => mNil) := ⟨pa_nil, na_nil⟩
theorem xna_cons {c : Nat} {ta : TE} {ma : List Str → List D → M D} {tr : TA} {mr : List Str → List D → M (List D)} (h : XNE X cl E c e ta ma) (hr : XNA X cl E c es tr mr) (hs : starEach (e :: es) X.env = (false, eval e X.env) :: starEach es X.env := by rfl) : XNA X cl E c (e :: es) (tCons ta tr) (fun ns ds => mCons (ma ns ds) (mr ns ds)) :=
  ⟨pa_cons h.p hr.p hs, na_cons h.s hr.s⟩
theorem xne_call {c : Nat} {x : Str} {k n : Nat} {ps : List Str} {g : List D → R D} {ta : TA} {ma : List Str → List D → M (List D)} (T : Fact X.prog X.w X.K X.mg X.base x k ps (spM X.K cl g n)) (hr : RoomG k X.A) (hx : Passes (L2.CX X.prog X.w) X E) (ha : XNA X cl E c (e :: es) ta ma) (hg : Gl X x := by rfl) (hdb : (x == ("__debug__" : Str)) = false := by decide)
    (he : starEach (e :: es) X.env = (false, eval e X.env) :: starEach es X.env := by rfl) (hpl : (backTo pos (starEach es X.env)).any (·.1) = false := by rfl) :
    XNE X cl E c (.Call (.Name x p) (e :: es) [] pos) (tCall (spM X.K cl g n) [] E ta) (fun ns ds => mCall n g (ma ns ds)) := by
  obtain ⟨f, fd, G, hm, hk, hb⟩ := T.ex
  exact ⟨pe_callG G hr hg hm hk hb .nil hx ha.p hdb he hpl, ne_call ha.s⟩
end
def endsI (r : R ((List Str × List D) × En)) : R (List Str × List D) := match r with
  | .ok (x, _) => .ok x
  | .exc e d => .exc e d
  | .bad => .bad
def fnI (n : Nat) (mn : MN) (ds : List D) : R (List Str × List D) := endsI (mn [] [] (Sl.un :: (ds.map Sl.dat ++ List.replicate (n - 1 - ds.length) .un)))
section
variable {P : Program} {w : World} {K : PySem.W.Frag} {mg : Str → Option Value} {base : Heap} {cl : CL}
theorem relI_start {B H : Hp} {N : List Str} {p : Addr} {vs : List V} {ds : List D} (s : Bas cl B H) (a : AtL K cl B vs ds) (hl : ds.length + 1 ≤ N.length) :
    Rel K cl ⟨none, []⟩ (noT H) B H (Sl.un :: (ds.map Sl.dat ++ List.replicate (N.length - 1 - ds.length) .un)) (L2.start N (.ref p :: vs)) where
  tab := s.tab
  nb := s.nb
  nf := noT_not H
  fl := s.fl
  bh := s.bh
  fh := noT_same H
  len := by
    unfold L2.start
    rw [List.length_cons, List.length_append, List.length_append, List.length_map, List.length_map, List.length_replicate, List.length_replicate, List.length_cons, a.len]
    omega
  dat := fun i d e => by
    cases i with
    | zero => cases e
    | succ i =>
      rw [List.getElem?_cons_succ] at e
      by_cases hi : i < ds.length
      · rw [List.getElem?_append_left (by rw [List.length_map]; exact hi), List.getElem?_map] at e
        cases q : ds[i]? with
        | none => rw [q] at e; cases e
        | some d' =>
          rw [q] at e
          cases e
          obtain ⟨v, h1, h2⟩ := a.get q
          refine ⟨v, ?_, h2⟩
          unfold L2.start
          rw [List.getElem?_append_left (by rw [List.length_map, List.length_cons, a.len]; omega), List.getElem?_map, List.getElem?_cons_succ, h1]
          rfl
      · rw [List.getElem?_append_right (by rw [List.length_map]; omega)] at e
        have := List.eq_of_mem_replicate (List.mem_of_getElem? e)
        cases this
  own := fun i m e => by
    cases i with
    | zero => cases e
    | succ i =>
      rw [List.getElem?_cons_succ] at e
      by_cases hi : i < ds.length
      · rw [List.getElem?_append_left (by rw [List.length_map]; exact hi), List.getElem?_map] at e
        cases q : ds[i]? with
        | none => rw [q] at e; cases e
        | some d' => rw [q] at e; cases e
      · rw [List.getElem?_append_right (by rw [List.length_map]; omega)] at e
        have := List.eq_of_mem_replicate (List.mem_of_getElem? e)
        cases this
  apart := fun i j m1 m2 q ne ei ej _ _ => by
    cases i with
    | zero => cases ei
    | succ i =>
      rw [List.getElem?_cons_succ] at ei
      by_cases hi : i < ds.length
      · rw [List.getElem?_append_left (by rw [List.length_map]; exact hi), List.getElem?_map] at ei
        cases q : ds[i]? with
        | none => rw [q] at ei; cases ei
        | some d' => rw [q] at ei; cases ei
      · rw [List.getElem?_append_right (by rw [List.length_map]; omega)] at ei
        have := List.eq_of_mem_replicate (List.mem_of_getElem? ei)
        cases this
  zero := fun q l' e z => by cases e
theorem hidT_upd {H : Hp} {p : Addr} {o : HO} (h : H p = some o) (n : ∀ ps, o ≠ .tbl ps) : upd (noT (hid H p)) p o = noT H := by
  funext b
  by_cases hb : b = p
  · subst hb
    rw [upd_same, noT_of h n]
  · rw [upd_ne hb]
    unfold noT
    rw [hid_ne hb]
theorem hid_upd {H : Hp} {p : Addr} {o : HO} (h : H p = some o) : upd (hid H p) p o = H := by
  funext b
  by_cases hb : b = p
  · subst hb
    rw [upd_same, h]
  · rw [upd_ne hb, hid_ne hb]
structure FunV (K : PySem.W.Frag) (x qual : Str) (st : Stmt) (f : Addr) (fd : FuncData) : Prop where
  ex : ∃ (oc : Value) (od : Option Addr) (dV kV doc pm : Value) (an : Option Addr) (cdv ct : Value) (osl : Array (Option Value)),
    fd = PySem.W.fnOf x qual (defArgs st) (defBody st) (defScope st) dV kV doc pm an cdv ct ∧ K.lookup f = some ⟨oc, od, .func fd, osl⟩ ∧ PySem.W.codeIn K cdv qual = true
theorem FunV.okX {x qual : Str} {st : Stmt} {f : Addr} {fd : FuncData} {N ps : List Str} {k : Nat} {sp : Sp} (F : FunV K x qual st f fd) (S : FnScope N ps (defScope st)) (len : ∀ vs H Q E, sp vs H Q E → vs.length = ps.length)
    (hbody : ∀ (cdv : Value) (A : Around) (outer : List Env) (s : Shared) (H : Hp) (vs : List V) (Q : VK) (E : XK), RoomG k (A.deeper (envOfC qual (defScope st) s.heap.objs.size f cdv)) → sp vs H Q E →
      ∃ t, PSs (cxOf (L2.CX P w) P w K mg base N qual (defScope st) f cdv A outer s H E) (defBody st) t ∧ t { nx := fun _ H' => Q .non H', rt := Q } (start N vs) H) : FnG P w K mg base (L2.CX P w) (k + 1) f fd ps sp := by
  obtain ⟨oc, od, dV, kV, doc, pm, an, cdv, ct, osl, rfl, lk, hcd⟩ := F.ex
  exact fn_ofG lk hcd S len fun A outer s H vs Q E hr hsp => hbody cdv A outer s H vs Q E hr hsp
theorem funV_mk {x qual : Str} {st : Stmt} {f : Addr} {oc : Value} {od an : Option Addr} {osl : Array (Option Value)} {dV kV doc pm cdv ct : Value} (l : K.lookup f = some ⟨oc, od, .func (PySem.W.fnOf x qual (defArgs st) (defBody st) (defScope st) dV kV doc pm an cdv ct), osl⟩)
    (c : PySem.W.codeIn K cdv qual = true) : FunV K x qual st f (PySem.W.fnOf x qual (defArgs st) (defBody st) (defScope st) dV kV doc pm an cdv ct) := ⟨⟨oc, od, dV, kV, doc, pm, an, cdv, ct, osl, rfl, l, c⟩⟩
theorem binds_dfl {x qual : Str} {st : Stmt} {ps : List Str} {T : Addr} {o : Obj} {its : Array Value} {n : Nat} {kV doc pm cdv ct : Value} {an : Option Addr} (lT : K.lookup T = some o) (oT : o.data = .seq its n)
    (h : ∀ us : List Value, us.length = ps.length → ∃ k, bindArgs (PySem.W.fnOf x qual (defArgs st) (defBody st) (defScope st) (.ref T) kV doc pm an cdv ct) ⟨us, []⟩ = seqItems? (.ref T) >>= k ∧ k (some its) = pure (ps.zip us)) :
    Binds K (PySem.W.fnOf x qual (defArgs st) (defBody st) (defScope st) (.ref T) kV doc pm an cdv ct) ps [] := by
  intro s us X hl
  rw [List.append_nil] at hl ⊢
  obtain ⟨k, e1, e2⟩ := h us hl
  exact fun M A E Q q => by
    rw [e1]
    exact wpAny_bind (wpAny_seqItems (X _ _ lT) oT (by rw [e2]; exact wpAny_pure q))
theorem Bas.unhid {cl : CL} {B H : Hp} {p : Addr} (b : Bas cl B (hid H p)) : Bas cl B H :=
  have s : Same (hid H p) H := fun _ _ e => (hid_some e).2
  ⟨b.bh.trans s, b.nb, fun q hq => (b.tab q hq).ext s, b.fl.trans (same_noT2 s)⟩
theorem fnI_ok {x qual : Str} {st : Stmt} {f : Addr} {fd : FuncData} {N : List Str} {p0 : Str} {ps : List Str} {k c : Nat} {mn : MN} (Fn : FunV K x qual st f fd) (S : FnScope N (p0 :: ps) (defScope st))
    (hb : ∀ (cdv : Value) (A : Around) (outer : List Env) (s : Shared) (H : Hp) (E : XK), RoomG k (A.deeper (envOfC qual (defScope st) s.heap.objs.size f cdv)) →
      ∃ t, XN (cxOf (L2.CX P w) P w K mg base N qual (defScope st) f cdv A outer s H E) cl E c (defBody st) t mn) : FnG P w K mg base (L2.CX P w) (k + 1) f fd (p0 :: ps) (spI K cl c (fnI N.length mn) ps.length) := by
  have hpl : ps.length + 1 ≤ N.length := by have := congrArg List.length S.pre; rw [List.length_take, List.length_cons] at this; omega
  refine Fn.okX S (fun vs H Q E h => ?_) (fun cdv A outer s H vs Q E hr h => ?_)
  · obtain ⟨y, dx, vs', ds, B, rfl, hl, _, _, _, a, _⟩ := h
    rw [List.length_cons, List.length_cons, a.len, hl]
  · obtain ⟨y, dx, vs', ds, B, rfl, hl, sB, nb, hy, a, h⟩ := h
    obtain ⟨t, X⟩ := hb cdv A outer s H E hr
    refine ⟨t, X.p, ?_⟩
    have r0 := relI_start (K := K) (cl := cl) (N := N) (p := y) sB.unhid a (by omega)
    refine X.s (noT (hid H y)) B H (Sl.un :: (ds.map Sl.dat ++ List.replicate (N.length - 1 - ds.length) .un)) (L2.start N (.ref y :: vs')) _ y dx [] [] [] ⟨noT_none hid_at, sB.fl.free (noT_none hid_at), nb, rfl, rfl, .nil, ?_⟩ ?_
    · have e := hidT_upd hy (fun _ z => by cases z)
      show Rel K cl ⟨none, []⟩ (upd (noT (hid H y)) y (.ins (cl c) dx [])) B H _ _
      rw [e]
      exact r0
    · unfold fnI endsI at h
      cases q : mn [] [] (Sl.un :: (ds.map Sl.dat ++ List.replicate (N.length - 1 - ds.length) .un)) with
      | ok pr =>
        obtain ⟨⟨ns, l⟩, es'⟩ := pr
        rw [q] at h
        intro B' H' s' f' vs2 dx' S2
        refine h dx' B' H' vs2 s' f' ?_ S2.nb ?_ S2.len S2.al S2.rel.bas
        · exact fun b o e => S2.rel.fh _ _ (same_new S2.nf _ _ e)
        · exact S2.rel.fh _ _ upd_same
      | exc e d => rw [q] at h; exact h
      | bad => rw [q] at h; exact h.elim
theorem factI_mk {x : Str} {st : Stmt} {f C : Addr} {fd : FuncData} {N : List Str} {p0 : Str} {ps : List Str} {k c : Nat} {mn : MN} {qual xc : Str} (Fn : FunV K x qual st f fd) (Mc : Mk K C f) (gm : mg xc = some (.ref C)) (hC : cl c = C) (bd : Binds K fd (p0 :: ps) []) (S : FnScope N (p0 :: ps) (defScope st))
    (hb : ∀ (cdv : Value) (A : Around) (outer : List Env) (s : Shared) (H : Hp) (E : XK), RoomG k (A.deeper (envOfC qual (defScope st) s.heap.objs.size f cdv)) →
      ∃ t, XN (cxOf (L2.CX P w) P w K mg base N qual (defScope st) f cdv A outer s H E) cl E c (defBody st) t mn) : FactC P w K mg base xc (cl c) (k + 1) (p0 :: ps) (spI K cl c (fnI N.length mn) ps.length) := by
  subst hC
  exact ⟨f, fd, Mc, fnI_ok Fn S hb, gm, bd⟩
end
structure FactE (P : Program) (w : World) (K : PySem.W.Frag) (mg : Str → Option Value) (base : Heap) (C : Addr) (k : Nat) (ps : List Str) (sp : Sp) : Prop where
  ex : ∃ (f : Addr) (fd : FuncData), FnG P w K mg base (L2.CX P w) k f fd ps sp ∧ PySem.W.findIn K (.ref C) "__eq__" = some (some (.ref f)) ∧ PySem.W.isFn K (.ref f) = true ∧ Binds K fd ps []
  ne : PySem.W.findIn K (.ref C) "__ne__" = some (some (.builtin "object.__ne__"))
  ob : PySem.W.subIn K (.ref C) (.type "object") = some true
theorem factE_mk {P : Program} {w : World} {K : PySem.W.Frag} {mg : Str → Option Value} {base : Heap} {cl : CL} {x qual : Str} {st : Stmt} {f C : Addr} {fd : FuncData} {N ps : List Str} {k : Nat} {m : M Out} {c : Nat} (Fn : FunV K x qual st f fd) (hC : cl c = C) (hs : PySem.W.findIn K (.ref C) "__eq__" = some (some (.ref f))) (hf : PySem.W.isFn K (.ref f) = true)
    (ne : PySem.W.findIn K (.ref C) "__ne__" = some (some (.builtin "object.__ne__"))) (ob : PySem.W.subIn K (.ref C) (.type "object") = some true) (bd : Binds K fd ps []) (S : FnScope N ps (defScope st))
    (hb : ∀ (cdv : Value) (A : Around) (outer : List Env) (s : Shared) (H : Hp) (E : XK), RoomG k (A.deeper (envOfC qual (defScope st) s.heap.objs.size f cdv)) →
      ∃ t, XB (cxOf (L2.CX P w) P w K mg base N qual (defScope st) f cdv A outer s H E) cl E (defBody st) t m) : FactE P w K mg base (cl c) (k + 1) ps (spM K cl (fnM N.length m) ps.length) := by
  subst hC
  have hpl : ps.length ≤ N.length := by have := congrArg List.length S.pre; rw [List.length_take] at this; omega
  refine ⟨⟨f, fd, Fn.okX S (fun vs H Q E h => ?_) (fun cdv A outer s H vs Q E hr h => ?_), hs, hf, bd⟩, ne, ob⟩
  · obtain ⟨ds, B, hl, _, a, _⟩ := h
    rw [a.len, hl]
  · obtain ⟨ds, B, hl, sB, a, h⟩ := h
    obtain ⟨t, X⟩ := hb cdv A outer s H E hr
    refine ⟨t, X.p, X.s _ (noT H) B H _ _ _ (rel_start sB a (by omega)) ?_⟩
    unfold fnM at h
    cases q : m (ds.map Sl.dat ++ List.replicate (N.length - ds.length) .un) with
    | ok p =>
      obtain ⟨o, es⟩ := p
      rw [q] at h
      cases o with
      | nx => exact fun B' H' s f σ' r' => h .non B' H' s f r'.fh r'.bas .non
      | rt d => exact fun B' H' s f v σ' r' av => h v B' H' s f r'.fh r'.bas av
      | bk => exact h.elim
      | ct => exact h.elim
    | exc c d => rw [q] at h; exact h
    | bad => rw [q] at h; exact h.elim
def rNeO (C : Addr) (sp : Sp) (E : XK) : R2 := fun x y H Q => ∃ a b dx dy fs gs, x = .ref a ∧ y = .ref b ∧ H a = some (.ins C dx fs) ∧ H b = some (.ins C dy gs) ∧ sp [x, y] H (fun v H' => ∃ k, v = .bl k ∧ Q (.bl (!k)) H') E
theorem op_neO {X : Cx} {C f : Addr} {fd : FuncData} {k : Nat} {ps : List Str} {sp : Sp} {E : XK} (F : FnG X.prog X.w X.K X.mg X.base (L2.CX X.prog X.w) k f fd ps sp) (hs : PySem.W.findIn X.K (.ref C) "__eq__" = some (some (.ref f))) (hf : PySem.W.isFn X.K (.ref f) = true) (hb : Binds X.K fd ps [])
    (hne : PySem.W.findIn X.K (.ref C) "__ne__" = some (some (.builtin "object.__ne__"))) (hob : PySem.W.subIn X.K (.ref C) (.type "object") = some true) (hr : RoomG (k + 1) X.A) (hx : Passes (L2.CX X.prog X.w) X E) : OpR X (compareOp .NotEq) (rNeO C sp E) := by
  intro pins s σ H x y v u Q I rx ry hq
  obtain ⟨a, b, dx, dy, fs, gs, rfl, rfl, ha, hb', hsp⟩ := hq
  cases rx
  cases ry
  have sb : Sub X (k + 1) X.A := ⟨hr.r, rfl⟩
  obtain ⟨mA, JA, _⟩ := ins_get I.hok ha
  obtain ⟨mB, JB, _⟩ := ins_get I.hok hb'
  obtain ⟨oA, JA, _⟩ := JA.look
  obtain ⟨oB, JB, _⟩ := JB.look
  have XK := I.kIn
  have eqC : wpAny (model X.prog X.w) X.A.in1 (call (.ref f) [.ref a, .ref b]) (fun r s' => ∃ k, r = .bool k ∧ EP X pins σ Q (.bool (!k)) s') X.xe s := by
    have e0 : Env0 X.prog X.w X.K X.mg X.base X.A.in1 X.stack s H := by
      have e := I.env0
      exact ⟨by rw [sb.in1.fr]; exact e.frames, e.mod, e.bs, e.bsz, e.funs, e.frf, e.hok, e.bare⟩
    have r2 : Vals [V.ref a, V.ref b] [Value.ref a, Value.ref b] := .cons rfl (.cons rfl .nil)
    have hl := F.len _ _ _ _ hsp
    refine wpAny_call (codeAny_mono (F.go X.A.in1 X.stack s H ⟨[.ref a, .ref b], []⟩ [.ref a, .ref b] [.ref a, .ref b] _ E ⟨sb.in1.room, hr.g⟩ e0 (by
      have := hb s [.ref a, .ref b] XK (by simpa using hl)
      simpa using this) r2 hsp) fun r s' hq => ?_)
    cases r with
    | error e => exact hx pins σ H s e s' I hq
    | ok fl =>
      cases fl with
      | ret z =>
        obtain ⟨q, H', I', rz, c, ec, qc⟩ := I.after hq
        subst ec
        cases rz
        exact ⟨c, rfl, .bl (!c), H', I', rfl, qc⟩
      | next => exact False.elim hq
      | brk => exact False.elim hq
      | cont => exact False.elim hq
  have objB : wpAny (model X.prog X.w) X.A.in1 (Builtin.«object.__ne__» ⟨[.ref a, .ref b], []⟩) (fun fin s' => ∃ r, fin = .done (.ret r) ∧ r ≠ .notImplemented ∧ EP X pins σ Q r s') X.xe s := by
    unfold Builtin.«object.__ne__»
    repeat (first
      | with_reducible refine wpAny_cRoomFor sb.in1.room.units0 ?_
      | (refine wpAny_bind (m := callSpecialIfBound? (.ref a) (PySem.Str.ofString "__eq__") [.ref b]) (PySem.W.ifBound_K XK JA hs hf (wpAny_mono eqC (fun r s' hr => by
          obtain ⟨k, rfl, hq⟩ := hr
          repeat (first | exact ⟨_, rfl, (fun z => nomatch z), hq⟩ | (refine wpAny_bind (m := truthy (.bool _)) (wpAny_truthy_bool ?_)) | wp_step)) fun _ _ e => e)))
      | wp_step)
  have one : wpAny (model X.prog X.w) X.A (tryCompare (.ref a) "__ne__" (.ref b)) (fun r s' => ∃ v, r = some v ∧ EP X pins σ Q v s') X.xe s := by
    unfold tryCompare
    have S := PySem.F.cmp_object.ne
    have go : wpAny (model X.prog X.w) X.A (call (.builtin "object.__ne__") [.ref a, .ref b]) (fun r s' => r ≠ .notImplemented ∧ EP X pins σ Q r s') X.xe s := by
      refine wpAny_call (codeAny_call_builtin S.plain PySem.F.cmpEntry_ne (PySem.W.check_slot PySem.F.cmpKind_ne PySem.F.cmpSplit_ne ?_ (PySem.F.cmpArgs_ne _ _) ?_))
      · exact JA.type.andThen (PySem.W.looks_subIn XK hob)
      · refine wpAny_mono objB (fun fin s' h => ?_) fun _ _ e => e
        obtain ⟨r, rfl, h⟩ := h
        exact h
    refine wpAny_bind ?_
    simp only [callSpecialIfBound?, bindSpecialIfBound?]
    refine wpAny_holding (wpAny_bind (wpAny_bind (wpAny_bind (JA.type.here ((PySem.W.looks_findIn XK hne).here ?_)))))
    simp only [S.bind]
    refine wpAny_bind (wpAny_askSetting (wpAny_ite ?_))
    have fin : wpAny (model X.prog X.w) X.A (call (.builtin "object.__ne__") ([.ref a] ++ [.ref b]) >>= fun v => pure (some v)) (fun r s' => wpAny (model X.prog X.w) X.A (match r with | some .notImplemented | none => pure none | some v => pure (some v)) (fun r s' => ∃ v, r = some v ∧ EP X pins σ Q v s') X.xe s') X.xe s :=
      wpAny_bind (wpAny_mono go (fun v s' h' => wpAny_pure (by
        obtain ⟨hn, h'⟩ := h'
        cases v <;> first | exact absurd rfl hn | exact wpAny_pure ⟨_, rfl, h'⟩)) fun _ _ h' => h')
    split
    · exact wpAny_bind (wpAny_pure (wpAny_pure fin))
    · exact wpAny_tryCatch (wpAny_bind (wpAny_pure (wpAny_pure fin)))
  show wpAny (model X.prog X.w) X.A (richCompare .NotEq (.ref a) (.ref b)) (EP X pins σ Q) X.xe s
  unfold richCompare
  simp only [oneThing_ref]
  refine wpAny_holding (wpAny_bind (wpAny_cRoomFor sb.room.units0 ?_))
  refine wpAny_bind (JA.type.here (wpAny_bind (JB.type.here ?_)))
  rw [if_neg (by simp)]
  refine wpAny_bind (wpAny_pure ?_)
  simp only [Bool.false_eq_true, if_false]
  refine wpAny_bind (wpAny_mono one (fun r s' z => ?_) fun _ _ e => e)
  obtain ⟨v, rfl, hq⟩ := z
  exact wpAny_pure hq
end Mi
namespace Mi
open PySem PySem.Spec PyProof.Rows L2
theorem meets_enum1 {v : Value} {o : Obj} {H : Heap → Prop} (B : Begins v o H) : Meets (Builtin.«enumerate.__new__» ⟨[.type "enumerate", v], []⟩)
    (fun _ R s => H s.heap ∧ R (.ok (.ret (.ref (s.heap.push o).objs.size))) { s with heap := (s.heap.push o).push { cls := .type "enumerate", data := .fields #[.none, .bool false, .ref s.heap.objs.size, rawInt 0, .none, .none] } }) :=
  .of_wp fun prog w A R s h => by
    obtain ⟨hp, g, d, tk, os⟩ := s
    obtain ⟨h1, h⟩ := h
    have hsub := PySem.sub_enumerate
    have q1 : ∀ {A' : Around} {E : Value → Shared → Prop} {Q : Value → Shared → Prop}, Q (.ref hp.objs.size) ⟨hp.push o, g, d, tk, os⟩ →
        wpAny (model prog w) A' (pyIter v) Q E ⟨hp, g, d, tk, os⟩ := fun q => B.iter prog w _ _ ⟨hp, g, d, tk, os⟩ _ h1 q
    wp_walk using q1
    first
      | exact ⟨_, rfl, h⟩
      | (refine wpAny_stack_any fun st => wpAny_pure ?_
         split
         · rename_i c _ _ _ _ _
           cases (c == Value.type "enumerate")
           · wp_walk using q1
             exact ⟨_, rfl, h⟩
           · wp_walk using q1
             exact ⟨_, rfl, h⟩
         · wp_walk using q1
           exact ⟨_, rfl, h⟩)
theorem call_enum1 {prog : Program} {w : World} {A : Around} {E : Value → Shared → Prop} {s : Shared} {v : Value} {o : Obj} {H : Heap → Prop} {Q : Value → Shared → Prop} (B : Begins v o H) (h1 : H s.heap)
    (h : ∀ h', IsEnum h' (s.heap.objs.size + 1) s.heap.objs.size 0 .none → h'.get? s.heap.objs.size = some o → (∀ b u, s.heap.get? b = some u → h'.get? b = some u) → Q (.ref (s.heap.objs.size + 1)) { s with heap := h' }) :
    wpAny (model prog w) A (call (.type "enumerate") [v]) Q E s := by
  refine callType_new F.called_enumerate (by decide) (F.typeCall_enumerate_1 _) (F.newCall_enumerate_1 _) (fun obj => F.args_object_init_2 obj _) F.entry_enumerate_new (meets_enum1 B) ⟨h1, ?_⟩
  have hz : (s.heap.push o).objs.size = s.heap.objs.size + 1 := Heap.size_push ..
  show _ ∧ _
  rw [hz]
  have he : IsEnum ((s.heap.push o).push { cls := .type "enumerate", data := .fields #[.none, .bool false, .ref s.heap.objs.size, rawInt 0, .none, .none] }) (s.heap.objs.size + 1) s.heap.objs.size 0 .none := by
    have := Heap.get?_push_size (s.heap.push o) (o := { cls := .type "enumerate", data := .fields #[.none, .bool false, .ref s.heap.objs.size, rawInt 0, .none, .none] }) rfl
    rw [hz] at this
    exact this
  exact ⟨⟨_, he, rfl⟩, h _ he (Heap.get?_push_of_some _ (Heap.get?_push_size _ B.free)) fun b u x => Heap.get?_push_of_some _ (Heap.get?_push_of_some _ x)⟩
def IteT (K : PySem.W.Frag) (a : Addr) : It :=
  ⟨fun i H => ∃ (xs : List V) (x : V), SqT K H a xs ∧ xs[i]? = some x, fun i H v H' => ∃ T x, v = .ref T ∧ H T = none ∧ H' = upd H T (.tup [.int (i : Nat), x]) ∧ ∀ xs, SqT K H a xs → xs[i]? = some x, fun i H => ∃ xs : List V, SqT K H a xs ∧ xs.length ≤ i⟩
theorem cls_ne {h : Heap} {a b : Addr} {o o' : Obj} (e : h.get? a = some o) (e' : h.get? b = some o') (n : o.cls ≠ o'.cls) : a ≠ b := fun z => by
  subst z
  rw [e] at e'
  cases e'
  exact n rfl
theorem enumT_end {prog : Program} {w : World} {A : Around} {E : Value → Shared → Prop} {s : Shared} {e it t : Addr} {i : Nat} {c : Int} {its : Array Value} {old : Value} {Q : Option Value → Shared → Prop} (hh : A.handled = none)
    (he : IsEnum s.heap e it c old) (hit : s.heap.IsTupleIter it t i) (ht : s.heap.IsTuple t its) (hx : its[i]? = none) (hQ : ∀ h', Heap.ExtBut it s.heap h' → Q none { s with heap := h' }) : wpAny (model prog w) A (pyNext (.ref e)) Q E s := by
  have ty : s.TypeIs (.ref e) "enumerate" := ⟨_, he, rfl⟩
  unfold pyNext
  refine wpAny_bind (wpAny_attempt (wpAny_callSpecial?_slot (name := PySem.Str.ofString "__next__") ty F.slot_enumerate_next
    (wpAny_call_entry F.slot_enumerate_next ty F.entry_enumerate_next ?_ (F.args_enumerate_next_1 _))))
  show wpAny _ _ (field (.ref e) 2 >>= _) _ _ _
  refine wpAny_bind (wpAny_field he rfl (x := .ref it) rfl (wpAny_bind (wpAny_nextOf_tuple_end hh hit ht hx fun h' x eb hx' => ?_)))
  obtain ⟨o, ho, hc⟩ := hx'
  exact wpAny_bind (wpAny_isInstance (T := "StopIteration") (b := true) ⟨o, ho, hc⟩ isSubtype_stop (wpAny_pure (hQ _ eb)))
theorem turn_enumT {P : Program} {w : World} {K : PySem.W.Frag} {elts : List Expr} {kk : Nat} {tpos : Pos} (a e it : Addr) :
    Turn P w K (.Tuple elts kk tpos) (IteT K a) [e, it] e (fun i h => (∃ old, IsEnum h e it ((i : Nat) : Int) old) ∧ h.IsTupleIter it a i ∧ e ≠ it) where
  mem := by simp
  obj := fun i h st b hb => by
    obtain ⟨⟨old, he⟩, ⟨o, ho, hc, hd⟩, _⟩ := st
    have e' : b = e ∨ b = it := by simpa using hb
    rcases e' with z | z
    · rw [z]
      exact ⟨_, he, fun v q => nomatch q⟩
    · rw [z]
      exact ⟨o, ho, fun v q => by rw [hd] at q; cases q⟩
  keep := fun i h h' st k => by
    obtain ⟨⟨old, he⟩, hi, hne⟩ := st
    exact ⟨⟨old, k e (by simp) _ he⟩, hi.at fun o q => k it (by simp) o q, hne⟩
  item := by
    intro X hP hw hK hc i pins s σ H E I hf st hg
    subst hP hw hK
    obtain ⟨⟨old, he⟩, hit, hne⟩ := st
    obtain ⟨xs, x, hq, hx⟩ := hg
    obtain ⟨its, rv, p, hz⟩ := I.tuple hq
    obtain ⟨u, hu, ru⟩ := rv.get hx
    have ht : s.heap.IsTuple a its.toArray := p
    have hel : e < s.heap.objs.size := Heap.lt_size he
    have hil : it < s.heap.objs.size := by obtain ⟨_, q, _⟩ := hit; exact Heap.lt_size q
    have hai : a ≠ it := by
      obtain ⟨o1, q1, c1, _⟩ := ht
      obtain ⟨o2, q2, c2, _⟩ := hit
      exact cls_ne q1 q2 (by rw [c1, c2]; decide)
    have hae : e ≠ a := by
      obtain ⟨o1, q1, c1, _⟩ := ht
      exact cls_ne he q1 (by rw [c1]; show Value.type "enumerate" ≠ Value.type "tuple"; decide)
    have hlt : i < its.toArray.size := by
      rw [List.size_toArray, ← rv.length]
      exact (List.getElem?_eq_some_iff.mp hx).1
    refine wpAny_pyNext_enum_itemD (Draws.tuple (A := X.A.in1) (by exact I.ok.hd hc) it a hai its.toArray) he ⟨hit, ht⟩ hlt hne (by simp [hne, hae]) fun y h' tk hy ho hst hT hsz hk => ?_
    have ey : y = u := by
      rw [show its.toArray[i]? = its[i]? by simp, hu] at hy
      exact (Option.some.inj hy).symm
    subst ey
    refine ⟨_, rfl, wpAny_letOwnedTupleGo_enum (s := { s with heap := h', toks := tk + 1 }) ho fun h'' he' sb => ?_⟩
    have hT2 : h''.get? s.heap.objs.size = some { cls := .type "tuple", data := .seq #[.int i tk, y] } := (sb.2 _ (Nat.ne_of_gt hel)).trans hT
    have new : ObjOk X.prog X.w (upd H s.heap.objs.size (.tup [.int (i : Nat), x])) h'' s.heap.objs.size (.tup [.int (i : Nat), x]) :=
      ⟨by show 2 ≤ sizeLine; decide, [.int i tk, y], .cons ⟨_, rfl⟩ (.cons ru .nil), ⟨_, hT2, rfl, _, rfl⟩⟩
    have I1 : Inv X pins σ (upd H s.heap.objs.size (.tup [.int (i : Nat), x])) { s with heap := h'', toks := tk + 1 } :=
      I.turnedNew (ch := [e, it]) (fun b ob hb q => (sb.2 b (fun z => hb (by simp [z]))).trans (hk b ob (fun z => hb (by simp [z])) (fun z => hb (by simp [z])) q)) hf (Nat.le_refl _) new
    refine ⟨.ref s.heap.objs.size, _, I1, rfl, ⟨_, x, rfl, I.hok.fresh (Nat.le_refl _), rfl, fun ys hy => by rw [I.tuple_inj hy hq]; exact hx⟩, ⟨⟨y, ?_⟩, hst.1.at fun o q => (sb.2 it (Ne.symm hne)).trans q, hne⟩, fun b hb => ?_⟩
    · have e1 : ((i + 1 : Nat) : Int) = (i : Int) + 1 := by omega
      rw [e1]
      exact he'
    · have hb' : b < s.heap.objs.size := by
        have e' : b = e ∨ b = it := by simpa using hb
        rcases e' with z | z
        · rw [z]; exact hel
        · rw [z]; exact hil
      rw [upd_ne (Nat.ne_of_lt hb')]
      exact (hf b hb).1
  done := by
    intro X hP hw hK hc i pins s σ H E I hf st hg
    subst hP hw hK
    obtain ⟨⟨old, he⟩, hit, hne⟩ := st
    obtain ⟨xs, hq, hx⟩ := hg
    obtain ⟨its, rv, p, hz⟩ := I.tuple hq
    have ht : s.heap.IsTuple a its.toArray := p
    obtain ⟨f0, f1, f2, f3, f4, f5⟩ := hf it (by simp)
    have hl := rv.length
    obtain ⟨o2, q2, c2, d2⟩ := id hit
    have hz2 : its.toArray.size ≤ i := by
      rw [List.size_toArray]
      omega
    exact enumT_end (I.ok.hd hc) he hit ht (by simp; omega) fun h' eb => ⟨rfl, I.turned (t' := s.toks) (fun b o hb q => eb b o hb q) f0 f1 f3 f4 f5⟩
  self := fun A i s Q E st h => by
    obtain ⟨⟨_, he⟩, _⟩ := st
    exact wpAny_pyIter_enum he h
end Mi
namespace Mi
open PySem PySem.Spec PyProof.Rows L2
def plusText (a : Int) : Str := ⟨((if a < 0 then [45] else [43]) ++ (Nat.toDigits 10 a.natAbs).map Char.toNat).toArray⟩
theorem plus_eq (a : Int) (z : Bool) (pr ty : Option Nat) : intField' { fill := 32, align := 62, sign := some 43, noNeg0 := z, alt := false, width := none, grouping := none, precision := pr, type := ty } (decide (a < 0)) [] ((Nat.toDigits 10 a.natAbs).map fun c => (if (100 == 88) = true then c.toUpper else c).toNat) [] 3 = plusText a := by
  have h1 := tDigits_len_ge 10 a.natAbs
  have hd : ((Nat.toDigits 10 a.natAbs).map fun c => (if (100 == 88) = true then c.toUpper else c).toNat) = (Nat.toDigits 10 a.natAbs).map Char.toNat := by
    congr 1
  unfold intField' plusText
  rw [hd]
  have h2 : ((Nat.toDigits 10 a.natAbs).map Char.toNat).isEmpty = false := by
    cases h : Nat.toDigits 10 a.natAbs with
    | nil => rw [h] at h1; simp at h1
    | cons _ _ => rfl
  simp only [h2]
  have hp : ∀ n m : Nat, ((-1 : Int) - ((n : Int) + ((List.length ([] : List Nat)) : Int) + ((List.length ([] : List Nat)) : Int)) - (m : Int)).toNat = 0 := fun n m => by
    simp only [List.length_nil]
    omega
  by_cases ha : a < 0
  · simp [ha]
  · simp [ha]
theorem plus_len {a : Int} (h : a.natAbs.log2 < 1920) : (plusText a).length ≤ sizeLine := by
  have e1 : a.natAbs < 2 ^ 1920 := Nat.lt_of_lt_of_le Nat.lt_log2_self (Nat.pow_le_pow_right (by decide) h)
  have h3 : (Nat.toDigits 10 a.natAbs).length ≤ 1920 := digits10_le (by decide) (Nat.lt_of_lt_of_le e1 (Nat.pow_le_pow_left (by decide) 1920))
  unfold plusText
  show (((if a < 0 then [45] else [43]) ++ (Nat.toDigits 10 a.natAbs).map Char.toNat).toArray).size ≤ sizeLine
  rw [List.size_toArray, List.length_append, List.length_map]
  have : sizeLine = 2 ^ 24 ∨ 5000 ≤ sizeLine := .inr (by decide)
  split <;> (simp only [List.length_cons, List.length_nil]; omega)
open PySem.W in
theorem meets_plus (a : Int) (t : Tok) (ha : a.natAbs.log2 < 1920) : ∀ u, Meets (Builtin.«int.__format__» ⟨[.int a t, .str (PySem.Str.ofString "+d") u], []⟩) (fun _ R s => ∀ t' k, R (.ok (.ret (.str (plusText a) t'))) { s with toks := k }) := by
  intro _
  apply KPc.meets_of
  intro _ _ _ _ _ _ _
  unfold Builtin.«int.__format__»
  refine wpAny_bind (wpAny_of_eq (a := (_, _)) rfl ?_)
  refine wpAny_bind (wpAny_of_eq (a := _) rfl ?_)
  kxf_if
  refine wpAny_bind (wpAny_typeNameOf (T := "str") (typeIs_str _ _ _) (by decide) fun _ => ?_)
  refine wpAny_bind (wpAny_of_eq (a := some _) rfl ?_)
  kxf_if
  kxf_if
  refine wpAny_bind (wpAny_typeNameOfCut_int ?_)
  (repeat kxf_if)
  generalize hf : ({ align := _, sign := _, width := _, type := _ : Builtin.Float.FormatSpec }) = f
  have e1 : f.precision.isSome = false := by subst hf; first | rfl | decide
  have e2 : f.noNeg0 = false := by subst hf; first | rfl | decide
  have e3 : f.width = none := by subst hf; first | rfl | decide
  have e4 : f.alt = false := by subst hf; first | rfl | decide
  have e5 : f.type.getD (if ((Str.ofString "+d").cps.back? == some 0) = true then 0 else 100) = 100 := by subst hf; first | rfl | decide
  have e6 : f.sign = some 43 := by subst hf; first | rfl | decide
  have e7 : f.align = 62 := by subst hf; first | rfl | decide
  have e8 : f.grouping = none := by subst hf; first | rfl | decide
  rw [e5]
  show wpAny _ _ (if f.precision.isSome = true then _ else _) _ _ _
  rw [if_neg (by rw [e1]; decide)]
  show wpAny _ _ (if f.noNeg0 = true then _ else _) _ _ _
  rw [if_neg (by rw [e2]; decide)]
  show wpAny _ _ (if (100 == 99) = true then _ else _) _ _ _
  rw [if_neg (by decide)]
  show wpAny _ _ (do let r ← Builtin.overDigitLimit? a; _) _ _ _
  refine wpAny_bind (wpAny_of_eq (PyProof.Rows.overDigitLimit_small ha) ?_)
  show wpAny _ _ (if f.width.getD 0 > 100000 then _ else _) _ _ _
  rw [if_neg (by rw [e3]; decide)]
  show wpAny _ _ (retStr _) _ _ _
  obtain ⟨fill, al, sg, z, alt, wd, gr, pr, ty⟩ := f
  simp only at e1 e2 e3 e4 e5 e6 e7 e8 hf
  have e9 : fill = 32 := by injection hf with h1; exact h1.symm
  subst e3 e4 e6 e7 e8 e9
  refine KXf.ret_text (T := plusText a) ?_ ?_ (by assumption)
  · exact (plus_eq a z pr ty)
  · exact Nat.le_trans (Nat.le_of_eq (congrArg PySem.Str.length (plus_eq a z pr ty))) (plus_len ha)
def tFmtP (te : TE) : TE := fun σ H Q => te σ H fun x H1 => ∃ i : Int, x = .int i ∧ i.natAbs.log2 < 1920 ∧ Q (.str (plusText i)) H1
def fmtP : D → Option D
  | .int i => okB (decide (i.natAbs.log2 < 1920)) (.str (plusText i))
  | _ => none
section
variable {X : Cx} {cl : CL} {E : XK} {a b e : Expr} {es : List Expr} {ta tb te : TE} {ma mb me : M D} {t : TA} {ml : M (List D)} {pos p : Pos}
theorem pe_fmtP {j : Nat} {p2 p3 : Pos} (he : PE X e te) : PE X (.FormattedValue e (-1) (some (.JoinedStr [.Constant (.str "+d") j p2] p3)) pos) (tFmtP te) := by
  refine ⟨fun pins s σ H Q I h => ?_⟩
  refine wpAny_FormattedValue_spec (thn (he.run pins s σ H _ I h) fun v s1 hv => ?_)
  obtain ⟨x, H1, I1, r1, i, rfl, hz, q⟩ := hv
  obtain ⟨tk, rfl⟩ := r1
  refine thn ((pe_joined1 (X := X) (pos := p3) (pe_str (x := "+d") (j := j) (pos := p2))).run pins s1 σ H1 (fun v H' => v = .str "+d" ∧ H' = H1) I1 ⟨rfl, rfl⟩) fun r s2 hr => ?_
  obtain ⟨w, H2, I2, r2, rfl, rfl⟩ := hr
  obtain ⟨t2, rfl⟩ := r2
  refine ⟨_, t2, rfl, ?_⟩
  exact PySem.W.KXf.field_int (spec' := PySem.Str.ofString "+d") rfl (by decide +kernel) (by decide +kernel) (meets_plus i tk hz) fun t' k => ⟨.str (plusText i), H2, I2.tok k, ⟨_, rfl⟩, q⟩
theorem sim_fmtP {K : PySem.W.Frag} (ha : SimE K cl E te me) : SimE K cl E (tFmtP te) (mUn fmtP me) := by
  intro zA F B H es σ Q r h
  refine ha _ F B H es σ _ r (Po.imp (Po.bnd h) fun d es1 B1 H1 _ _ h1 v r1 a => ?_)
  obtain ⟨x, hx, hk⟩ := Po.opt h1
  cases a with
  | int i =>
    obtain ⟨hz, rfl⟩ := okB_ok hx
    exact ⟨i, rfl, of_decide_eq_true hz, hk B1 H1 (Same.rfl' _) (Frs.refl _ _) _ r1 (.str _)⟩
  | _ => cases hx
theorem x_fmtP {j : Nat} {p2 p3 : Pos} (h : XE X cl E e te me) : XE X cl E (.FormattedValue e (-1) (some (.JoinedStr [.Constant (.str "+d") j p2] p3)) pos) (tFmtP te) (mUn fmtP me) := ⟨pe_fmtP h.p, sim_fmtP h.s⟩
def iEnumT (K : PySem.W.Frag) (ta : TA) : TI := fun σ H R => ta σ H fun vs H1 => ∃ a xs, vs = [.ref a] ∧ SqT K H1 a xs ∧ R (IteT K a) H1
theorem pi_enumT {elts : List Expr} {kk : Nat} {tpos : Pos} (hg : Gl X "enumerate") (hm : X.mg "enumerate" = none) (ha : PA X [e] t) (hs : starEach [e] X.env = [(false, eval e X.env)] := by rfl) : PI X (.Tuple elts kk tpos) (.Call (.Name "enumerate" p) [e] [] pos) (iEnumT X.K t) := by
  refine ⟨fun pins s σ H R I h => ?_⟩
  refine Call_ (ld_blt I hg hm boot_enumerate (PyProof.Rows.callWith_type1 (thn (ha.run pos pins s σ H _ I h) fun us s1 ⟨vs, H1, I1, r1, q1⟩ => ?_) hs rfl))
  obtain ⟨a, xs, ex, hq, q⟩ := q1
  subst ex
  cases r1 with
  | cons r rr =>
    cases rr
    cases r
    obtain ⟨its, rv, p', hz⟩ := I1.tuple hq
    refine call_enum1 (begins_tuple a its.toArray) (by exact p') fun h' he hit hk => wpAny_pyIter_enum he ?_
    have I2 : Inv X pins σ H1 { s1 with heap := h' } := I1.kept (t' := s1.toks) hk
    refine ⟨s1.heap.objs.size + 1, [s1.heap.objs.size + 1, s1.heap.objs.size], _, _, H1, rfl, I2, turn_enumT a (s1.heap.objs.size + 1) s1.heap.objs.size, ⟨⟨.none, he⟩, ⟨_, hit, rfl, rfl⟩, Nat.succ_ne_self _⟩, fun b hb => ?_, q⟩
    have e' : b = s1.heap.objs.size + 1 ∨ b = s1.heap.objs.size := by simpa using hb
    have hle : s1.heap.objs.size ≤ b := by
      rcases e' with z | z
      · rw [z]; exact Nat.le_add_right _ _
      · rw [z]; exact Nat.le_refl _
    exact I1.fpOk hle (I1.hok.fresh hle)
def mEnT (m : M (List D)) : M (List D) := Mi.bnd m fun l => Mi.opt (match l with
  | [.tup l] => some ((List.range l.length).zipWith (fun (k : Nat) d => D.tup [.int (k : Int), d]) l)
  | _ => none)
theorem sim_enT {K : PySem.W.Frag} {ta : TA} {m : M (List D)} (ha : SimA K cl E ta m) : SimI K cl E (iEnumT K ta) (mEnT m) := by
  intro zA F B H es σ R r h
  refine ha _ F B H es σ _ r (Po.imp (Po.bnd h) fun l es1 B1 H1 e1 f1 h1 vs r1 a => ?_)
  obtain ⟨ds, hd, hk⟩ := Po.opt h1
  split at hd
  · rename_i l
    cases hd
    cases a with
    | cons a1 a2 =>
      cases a2
      cases a1 with
      | @tup p ws _ g1 g2 =>
        refine ⟨p, ws, rfl, sqT_mono r1.bh g1, hk B1 H1 (Same.rfl' _) (Frs.refl _ _) _ r1 fun zA F2 B2 H2 es2 σ2 r2 s2 => ?_⟩
        have hq : SqT K H2 p ws := sqT_mono r2.bh (sqT_mono s2 g1)
        have hz : (List.zipWith (fun (k : Nat) d => D.tup [.int (k : Int), d]) (List.range l.length) l).length = l.length := by
          rw [List.length_zipWith, List.length_range, Nat.min_self]
        refine ⟨fun i d hi => ?_, fun i hi => ⟨ws, hq, by rw [g2.len, ← hz]; exact hi⟩⟩
        have hlt : i < l.length := by
          rw [← hz]
          exact (List.getElem?_eq_some_iff.mp hi).1
        have hx0 : l[i]? = some l[i] := List.getElem?_eq_getElem hlt
        obtain ⟨x, hx, ax⟩ := g2.get hx0
        rw [List.getElem?_zipWith, List.getElem?_range hlt, hx0] at hi
        cases hi
        refine ⟨⟨ws, x, hq, hx⟩, fun y H' hy => ?_⟩
        obtain ⟨T, x', rfl, nT, rfl, hy⟩ := hy
        have := hy ws hq
        rw [hx] at this
        cases this
        obtain ⟨r3, s3, f3⟩ := r2.news (o := .tup [.int (i : Nat), x]) nT
        refine ⟨_, s3, f3, r3, .tup (.inl (.inl upd_same)) (.cons (.int _) (.cons ((ax.up s2).up s3) .nil))⟩
  · cases hd
theorem xi_enT {tp : Pos} {k : Nat} (hm : X.mg "enumerate" = none) (h : XA X cl E [a] t ml) (hg : Gl X "enumerate" := by rfl) (hs : starEach [a] X.env = [(false, eval a X.env)] := by rfl) : XI X cl E (.Tuple es k tp) (.Call (.Name "enumerate" p) [a] [] pos) (iEnumT X.K t) (mEnT ml) := ⟨pi_enumT hg hm h.p hs, sim_enT h.s⟩
def rExtT (K : PySem.W.Frag) : V → List V → Hp → VK → Prop := fun x vs H Q => ∃ l b xs zs, x = .ref l ∧ vs = [.ref b] ∧ H l = some (.lst xs) ∧ SqT K H b zs ∧ xs.length + zs.length ≤ sizeLine ∧ Q .non (upd H l (.lst (xs ++ zs)))
theorem meets_extT (l : Addr) (its : Array Value) (n : Nat) (b : Addr) (ws : Array Value) (m : Nat) (dd : Option Addr) (sl : Array (Option Value)) (q0 : ¬(!its.isEmpty && Builtin.List.listTooLong (its.size + ws.size)) = true) (q1 : its.size ≤ sizeLine) (q2 : its.size + ws.size ≤ sizeLine + 1) :
    Meets (Builtin.«list.extend» ⟨[.ref l, .ref b], []⟩) (fun _ R s => s.heap.get? l = some { cls := .type "list", data := .seq its n } ∧
      s.heap.get? b = some { cls := .type "tuple", dict := dd, data := .seq ws m, slots := sl } ∧ R (.ok (.ret Value.none)) { s with heap := s.heap.update l (Obj.mapSeq fun x => x ++ ws), toks := s.toks }) :=
  .of_wp fun prog w A R s h => by
    obtain ⟨hp, g, d, tk, os⟩ := s
    obtain ⟨hl, hb, h⟩ := h
    have f2 := AutoSeq1.sub_tuple_tuple
    have f3 := AutoSeq1.sub_list_list
    have f4 := AutoSeq1.sub_tuple_list
    have f5 := AutoSeq1.sub_list_tuple
    have hz' : (its ++ ws).size ≤ sizeLine + 1 := by rw [Array.size_append]; exact q2
    wp_walk using (PySem.wpAny_updateSeq hl rfl (hz := q1) (_hz' := hz')), AutoSeq1.wpAny_loadPart' hl, AutoSeq1.wpAny_loadPart' hb
    exact ⟨_, rfl, h⟩
theorem mt_extT : MtM X "list.extend" (rExtT X.K) := by
  intro pins s σ H x vs v us Q I rx rv h
  obtain ⟨l, b, xs, zs, rfl, rfl, hH, hB, hz, q⟩ := h
  cases rx
  obtain ⟨u, rfl, ru⟩ := rv.one
  cases ru
  obtain ⟨z, its, n, r, hl, e⟩ := I.lstM hH
  obtain ⟨its2, r2, p2, z2⟩ := I.tuple hB
  obtain ⟨⟨c2, d2, dt2, sl2⟩, e2, hc2, n2, hd2⟩ := (show s.heap.IsTuple b its2.toArray from p2)
  replace hc2 : c2 = .type "tuple" := hc2
  replace hd2 : dt2 = .seq its2.toArray n2 := hd2
  subst hc2 hd2
  have k1 := r.length
  have k2 := r2.length
  have hsz : its.toArray.size + its2.toArray.size ≤ sizeLine := by rw [List.size_toArray, List.size_toArray]; omega
  have hlong : ¬ (!its.toArray.isEmpty && Builtin.List.listTooLong (its.toArray.size + its2.toArray.size)) = true := by
    rw [notLongL hsz, Bool.and_false]
    exact Bool.false_ne_true
  refine call_meets F.slot_list_extend ⟨_, e, rfl⟩ F.entry_list_extend (F.args_list_extend_2 _ _) (meets_extT l its.toArray n b its2.toArray n2 d2 sl2 hlong (by omega) (by omega)) ⟨e, e2, ?_⟩
  refine ⟨.non, _, I.lset (its' := its ++ its2) hH e (by simp) (r.append r2) ?_, rfl, q⟩
  rw [List.length_append]
  omega
def rExt (K : PySem.W.Frag) : V → List V → Hp → VK → Prop := fun x vs H Q => rExtend x vs H Q ∨ rExtT K x vs H Q
theorem mt_ext : MtM X "list.extend" (rExt X.K) := fun pins s σ H x xs v us Q I rx rv h => h.elim (mt_extend pins s σ H x xs v us Q I rx rv) (mt_extT pins s σ H x xs v us Q I rx rv)
def seqD : D → Option (List D)
  | .lst l => some l
  | .tup l => some l
  | _ => none
def mExt (i : Nat) (m : M D) : M D := fun es => match ownAt i es with
  | some _ => Mi.bnd m (fun d es1 => match ownAt i es1, seqD d with
    | some l, some r => if l.length + r.length ≤ sizeLine then .ok (.non, es1.set i (.own (l ++ r))) else .bad
    | _, _ => .bad) es
  | none => .bad
theorem sim_ext {K : PySem.W.Frag} {i : Nat} (ha : SimE K cl E te me) : SimE K cl E (tBM K "list" (rExt K) (tVar i) (tCons te tNil)) (mExt i me) := by
  intro zA F B H es σ Q r h
  unfold mExt at h
  cases e0 : ownAt i es with
  | none => rw [e0] at h; exact h.elim
  | some l0 =>
    rw [e0] at h
    obtain ⟨p, vs, h1, h2, h3, h4, h5⟩ := r.own i l0 (own_at e0)
    refine ⟨.ref p, h1, .inl ⟨rfl, _, .inl (.inl h4)⟩, ?_⟩
    refine ha _ F B H es σ _ r (Po.imp (Po.bnd h) fun d es1 B1 H1 e1 f1 k v r1 a => ?_)
    cases q : ownAt i es1 with
    | none => rw [q] at k; exact k.elim
    | some l =>
      cases qs : seqD d with
      | none => rw [q, qs] at k; exact k.elim
      | some rr =>
        rw [q, qs] at k
        simp only at k
        by_cases hz : l.length + rr.length ≤ sizeLine
        · rw [if_pos hz] at k
          obtain ⟨p', ws, g1, g2, g3, g4, g5⟩ := r1.own i l (own_at q)
          rw [h1] at g1
          cases g1
          cases a with
          | @lst pb vb db b1 b2 =>
            cases qs
            exact .inl ⟨p, pb, ws, vb, rfl, rfl, g4, r1.bh _ _ b1, by rw [g5.len, b2.len]; exact hz, k B1 _ (Same.rfl' _) (Frs.refl _ _) .non (r1.chg (own_at q) h1 (g5.app b2)) .non⟩
          | @tup pb vb db b1 b2 =>
            cases qs
            exact .inr ⟨p, pb, ws, vb, rfl, rfl, g4, sqT_mono r1.bh b1, by rw [g5.len, b2.len]; exact hz, k B1 _ (Same.rfl' _) (Frs.refl _ _) .non (r1.chg (own_at q) h1 (g5.app b2)) .non⟩
          | _ => cases qs
        · rw [if_neg hz] at k
          exact k.elim
theorem x_ext (i : Nat) {x : Str} {apos : Pos} (he : XE X cl E e te me) (hN : X.N[i]? = some x := by rfl) (hv : Vis X.env.scope x := by first | exact Or.inl rfl | exact Or.inr (Or.inl rfl) | exact Or.inr (Or.inr rfl)) (hd : (x == ("__debug__" : Str)) = false := by decide) (hcd : (x == ("__classdict__" : Str)) = false := by decide)
    (hs : starEach [e] X.env = (false, eval e X.env) :: starEach [] X.env := by rfl) (hbase : attributeBase (.Name x p) "extend" X.env (eval (.Name x p) X.env) = eval (.Name x p) X.env := by rfl)
    (hfew : ((backTo pos (starEach (e :: []) X.env)).all (fun x => !x.1) && (backToKw pos (keywordEach [] X.env)).all (fun x => x.1.isSome) && decide ((e :: []).length + ([] : List Keyword).length + (if ([] : List Keyword).isEmpty then 0 else 1) < 30)) = true := by rfl)
    (hline : (apos.endLine == pos.line) = true := by rfl) (hplain : (backTo pos (starEach [] X.env)).any (·.1) = false := by rfl) : XE X cl E (.Call (.Attribute (.Name x p) "extend" apos) [e] [] pos) (tBM X.K "list" (rExt X.K) (tVar i) (tCons te tNil)) (mExt i me) :=
  ⟨pe_bm PySem.F.plainAttrs_list PySem.F.slot_list_extend PySem.F.type_list_extend mt_ext (pe_var hN hv hd hcd) (pa_cons he.p pa_nil hs) hbase hfew hline hs hplain, sim_ext he.s⟩
def mAsgCat (i : Nat) (ma mb : M D) : M Out := Mi.bnd ma fun x => Mi.bnd mb fun y es => match x, y with
  | .lst l, .lst m => if l.length + m.length ≤ sizeLine then .ok (.nx, es.set i (.own (l ++ m))) else .bad
  | _, _ => .bad
theorem sim_asgCat {K : PySem.W.Frag} {i : Nat} (i0 : i ≠ 0) (ha : SimE K cl E ta ma) (hb : SimE K cl E tb mb) : SimS K cl E (tAsg (tOp (rAddD K) ta tb) (gName i)) (mAsgCat i ma mb) := by
  intro zA F B H es σ Dn r h
  refine ha _ F B H es σ _ r (Po.imp (Po.bnd h) fun dx es1 B1 H1 _ _ h1 vx r1 ax => ?_)
  refine hb _ F B1 H1 es1 σ _ r1 (Po.imp (Po.bnd h1) fun dy es2 B2 H2 e2 f2 h2 vy r2 ay => ?_)
  cases ax with
  | @lst p vs l g1 g2 =>
    cases ay with
    | @lst p2 vs2 m k1 k2 =>
      simp only at h2
      by_cases hz : l.length + m.length ≤ sizeLine
      · rw [if_pos hz] at h2
        have g2' := g2.up e2
        refine .inr (.inr (.inl ⟨_, _, _, _, rfl, rfl, r2.bh _ _ (e2 _ _ g1), r2.bh _ _ k1, ?_, fun q n => ?_⟩))
        · rw [g2.len, k2.len]
          exact hz
        · exact h2 B2 _ (Same.rfl' _) (Frs.refl _ _) _ (r2.putOwn i0 n (g2'.app k2))
      · rw [if_neg hz] at h2
        exact h2.elim
    | _ => exact h2.elim
  | _ => exact h2.elim
theorem xs_asgCat (i : Nat) {K : PySem.W.Frag} {x : Str} {p2 : Pos} (hN : X.N.Nodup) (ha : XE X cl E a ta ma) (hb : XE X cl E b tb mb) (hK : X.K = K := by rfl) (i0 : i ≠ 0 := by decide) (hi : X.N[i]? = some x := by rfl) (hx : Loc X.env.scope x := by first | exact Or.inl rfl | exact Or.inr rfl) (hs : swapsWith (.BinOp a .Add b p2) (some (.Name x p)) pos.line X.env = pure false := by rfl)
    (hf : X.fn x = true ∨ X.env.scope.names.lookup x = some .local := by first | exact .inl rfl | exact .inr rfl | assumption) : XS X cl E (.Assign [.Name x p] (.BinOp a .Add b p2) pos) (tAsg (tOp (rAddD K) ta tb) (gName i)) (mAsgCat i ma mb) := by
  subst hK
  exact ⟨ps_set hN hi hx (pe_op op_addD ha.p hb.p) hs hf, sim_asgCat i0 ha.s hb.s⟩
def mLenO (i : Nat) : M D := fun es => match ownAt i es with
  | some l => .ok (.int l.length, es)
  | none => .bad
theorem sim_lenO {K : PySem.W.Frag} {i : Nat} : SimE K cl E (tCB (fun xs H Q => ∃ x n, xs = [x] ∧ LenV K x H n ∧ Q (.int n) H) (tCons (tVar i) tNil)) (mLenO i) := by
  intro zA F B H es σ Q r h
  unfold mLenO at h
  cases e0 : ownAt i es with
  | none => rw [e0] at h; exact h.elim
  | some l =>
    rw [e0] at h
    obtain ⟨p, vs, h1, h2, h3, h4, h5⟩ := r.own i l (own_at e0)
    refine ⟨.ref p, h1, .ref p, l.length, rfl, .inl ⟨_, .inl (.inl h4), h5.len.symm⟩, ?_⟩
    exact h B H (Same.rfl' _) (Frs.refl _ _) _ r (.int _)
theorem x_lenO (i : Nat) {K : PySem.W.Frag} {x : Str} {p2 : Pos} (hm : X.mg "len" = none) (hK : X.K = K := by rfl) (hN : X.N[i]? = some x := by rfl) (hv : Vis X.env.scope x := by first | exact Or.inl rfl | exact Or.inr (Or.inl rfl) | exact Or.inr (Or.inr rfl)) (hd : (x == ("__debug__" : Str)) = false := by decide) (hcd : (x == ("__classdict__" : Str)) = false := by decide) (hg : Gl X "len" := by rfl)
    (he : starEach [.Name x p2] X.env = (false, eval (.Name x p2) X.env) :: starEach [] X.env := by rfl) (hpl : (backTo pos (starEach [] X.env)).any (·.1) = false := by rfl) : XE X cl E (.Call (.Name "len" p) [.Name x p2] [] pos) (tCB (fun xs H Q => ∃ x n, xs = [x] ∧ LenV K x H n ∧ Q (.int n) H) (tCons (tVar i) tNil)) (mLenO i) := by
  subst hK
  exact ⟨pe_callB call_len hg hm PySem.boot_len (pa_cons (pe_var hN hv hd hcd) pa_nil he) (by decide) (by decide) he hpl, sim_lenO⟩
def mParO1 (i j : Nat) (m : M D) : M Out := Mi.bnd m fun d es => .ok (.nx, (es.set i (.own [])).set j (.dat d))
theorem sim_parO1 {K : PySem.W.Frag} {i j : Nat} (i0 : i ≠ 0) (ha : SimE K cl E te me) : SimS K cl E (tPar i j (tCons (tLst tNil) (tCons te tNil))) (mParO1 i j me) := by
  intro zA F B H es σ Dn r h
  refine ⟨Nat.zero_le _, fun p n => ?_⟩
  have nf : F p = none := r.fh.free n
  have nb : B p = none := r.bh.free n
  have h0 : Po K cl E F B (me es) _ := Po.bnd h
  refine ha _ (upd F p (.lst [])) B (upd H p (.lst [])) es σ _ (r.floor n) (Po.imp (Po.floor h0 nf nb) fun d es1 B1 H1 _ f1 hh v r1 a => ?_)
  obtain ⟨s1, n1, h1⟩ := hh
  have hp : H1 p = some (.lst []) := r1.fh _ _ upd_same
  refine ⟨.ref p, v, rfl, h1 B1 H1 (Same.rfl' _) (Frs.refl _ _) _ ?_⟩
  have r2 : Rel K cl zA F B1 H1 es1 σ := r1.lower (B0 := B1) nf (r.fl.free nf)
  refine Rel.put ?_ a
  have notp : ∀ (j : Nat) (m : List D) (q : Addr), es1[j]? = some (.own m) → σ[j]? = some (some (.ref q)) → q ≠ p := fun j m q e s z => by
    obtain ⟨p', vs', g1, _, g3, _, _⟩ := r1.own j m e
    rw [s] at g1
    cases g1
    subst z
    rw [upd_same] at g3
    cases g3
  exact {
    tab := r2.tab
    nb := r2.nb
    nf := r2.nf
    fl := r2.fl
    bh := r2.bh
    fh := r2.fh
    len := by rw [List.length_set, List.length_set]; exact r2.len
    dat := fun j e q => by
      by_cases hj : i = j
      · subst hj
        have hi : i < es1.length := by
          have := (List.getElem?_eq_some_iff.mp q).1
          rwa [List.length_set] at this
        rw [List.getElem?_set_self hi] at q
        cases q
      · rw [List.getElem?_set_ne hj] at q ⊢
        exact r2.dat j e q
    own := fun j m q => by
      by_cases hj : i = j
      · subst hj
        have hi : i < es1.length := by
          have := (List.getElem?_eq_some_iff.mp q).1
          rwa [List.length_set] at this
        rw [List.getElem?_set_self hi] at q
        cases q
        exact ⟨p, [], by rw [List.getElem?_set_self (by rw [← r2.len]; exact hi)], n1, nf, hp, .nil⟩
      · rw [List.getElem?_set_ne hj] at q ⊢
        exact r2.own j m q
    apart := fun a' b' l' m q ne ha' hb' sa sb => by
      by_cases hia : i = a'
      · subst hia
        have hi : i < es1.length := by
          have := (List.getElem?_eq_some_iff.mp ha').1
          rwa [List.length_set] at this
        rw [List.getElem?_set_self (by rw [← r2.len]; exact hi)] at sa
        cases sa
        rw [List.getElem?_set_ne ne] at hb' sb
        exact notp b' m p hb' sb rfl
      · rw [List.getElem?_set_ne hia] at ha' sa
        by_cases hib : i = b'
        · subst hib
          have hi : i < es1.length := by
            have := (List.getElem?_eq_some_iff.mp hb').1
            rwa [List.length_set] at this
          rw [List.getElem?_set_self (by rw [← r2.len]; exact hi)] at sb
          cases sb
          exact notp a' l' p ha' sa rfl
        · rw [List.getElem?_set_ne hib] at hb' sb
          exact r2.apart a' b' l' m q ne ha' hb' sa sb
    zero := fun q l e z => by rw [List.getElem?_set_ne i0] at z ⊢; exact r2.zero q l e z }
theorem xs_parO1 (i j : Nat) {x y : Str} {px py pt pt2 pl : Pos} {kt k2 : Nat} (hc : X.calm = true) (hN : X.N.Nodup) (ha : XE X cl E a ta ma) (hij : i ≠ j := by decide) (i0 : i ≠ 0 := by decide) (hi : X.N[i]? = some x := by rfl) (hj : X.N[j]? = some y := by rfl)
    (hx : X.env.scope.names.lookup x = some .local := by rfl) (hy : X.env.scope.names.lookup y = some .local := by rfl) (hw : swappedStores [.Tuple [.Name x px, .Name y py] kt pt] (.Tuple [.List [] pl, a] k2 pt2) X.env = pure (some [x, y]) := by rfl)
    (hs : swapsWithSole [.Tuple [.Name x px, .Name y py] kt pt] (.Tuple [.List [] pl, a] k2 pt2) pos.line X.env = pure false := by rfl) (h1 : starEach [.List [] pl, a] X.env = (false, eval (.List [] pl) X.env) :: starEach [a] X.env := by rfl) (h2 : starEach [a] X.env = (false, eval a X.env) :: starEach [] X.env := by rfl) :
    XS X cl E (.Assign [.Tuple [.Name x px, .Name y py] kt pt] (.Tuple [.List [] pl, a] k2 pt2) pos) (tPar i j (tCons (tLst tNil) (tCons ta tNil))) (mParO1 i j ma) := ⟨ps_par hc hN hi hj hij hx hy (pa_cons (pe_lst pa_nil) (pa_cons ha.p pa_nil h2) h1) hw hs, sim_parO1 i0 ha.s⟩
def mNeO (c : Nat) (g : List D → R D) (ma mb : M D) : M D := Mi.bnd ma fun x => Mi.bnd mb fun y => match x, y with
  | .ins c1 n1 l1, .ins c2 n2 l2 => if c1 = c ∧ c2 = c then Mi.bnd (Mi.lft (g [.ins c1 n1 l1, .ins c2 n2 l2])) fun k => Mi.bnd (Mi.opt (isBl k)) fun b => Mi.ret (.bl (!b)) else Mi.bad
  | _, _ => Mi.bad
theorem sim_neO {K : PySem.W.Frag} {c : Nat} {g : List D → R D} (ha : SimE K cl E ta ma) (hb : SimE K cl E tb mb) : SimE K cl E (tOp (rNeO (cl c) (spM K cl g 2) E) ta tb) (mNeO c g ma mb) := by
  intro zA F B H es σ Q r h
  refine ha _ F B H es σ _ r (Po.imp (Po.bnd h) fun dx es1 B1 H1 _ _ h1 vx r1 ax => ?_)
  refine hb _ F B1 H1 es1 σ _ r1 (Po.imp (Po.bnd h1) fun dy es2 B2 H2 e2 f2 h2 vy r2 ay => ?_)
  have ax2 := ax.up e2
  cases ax with
  | @ins p1 dx1 c1 n1 vs1 ds1 a1 a2 a3 =>
    cases id ay with
    | @ins p2 dx2 c2 n2 vs2 ds2 b1 b2 b3 =>
      simp only at h2
      by_cases hc : c1 = c ∧ c2 = c
      · rw [if_pos hc] at h2
        obtain ⟨rfl, hc2⟩ := hc
        subst hc2
        refine ⟨p1, p2, dx1, dx2, _, _, rfl, rfl, r2.bh _ _ (e2 _ _ a1), r2.bh _ _ b1, _, B2, rfl, r2.bas, .cons ax2 (.cons ay .nil), ?_⟩
        have h3 := Po.bnd h2
        unfold Mi.lft at h3
        cases q : g [.ins _ n1 ds1, .ins _ n2 ds2] with
        | ok d =>
          rw [q] at h3
          intro v B' H' s f sh sb av
          obtain ⟨k, hk, hr⟩ := Po.opt (Po.bnd (h3 B' H' s (r2.frs f)))
          exact ⟨k, at_bl av hk, Po.ret0 (hr B' H' (Same.rfl' _) (Frs.refl _ _)) H' _ (r2.grow s sh sb f) (.bl _)⟩
        | exc e d =>
          rw [q] at h3
          exact Exk.call r2 h3
        | bad => rw [q] at h3; exact h3.elim
      · rw [if_neg hc] at h2
        exact h2.elim
    | _ => exact h2.elim
  | _ => exact h2.elim
theorem x_neO (c : Nat) {K : PySem.W.Frag} {k : Nat} {ps : List Str} {g : List D → R D} (T : FactE X.prog X.w K X.mg X.base (cl c) k ps (spM K cl g 2)) (hr : RoomG (k + 1) X.A) (hx : Passes (L2.CX X.prog X.w) X E) (ha : XE X cl E a ta ma) (hb : XE X cl E b tb mb) (hK : X.K = K := by rfl) (hm : behindInMarks .NotEq b = false := by first | exact nomark _ | rfl) :
    XE X cl E (.Compare a [.NotEq] [b] pos) (tOp (rNeO (cl c) (spM K cl g 2) E) ta tb) (mNeO c g ma mb) := by
  subst hK
  obtain ⟨f, fd, G, he, hf, hb2⟩ := T.ex
  exact ⟨pe_cmpR (op_neO G he hf hb2 T.ne T.ob hr hx) ha.p hb.p hm, sim_neO ha.s hb.s⟩
theorem xt_neO (c : Nat) {K : PySem.W.Frag} {k : Nat} {ps : List Str} {g : List D → R D} (T : FactE X.prog X.w K X.mg X.base (cl c) k ps (spM K cl g 2)) (hr : RoomG (k + 1) X.A) (hx : Passes (L2.CX X.prog X.w) X E) (ha : XE X cl E a ta ma) (hb : XE X cl E b tb mb) (hK : X.K = K := by rfl) (hm : behindInMarks .NotEq b = false := by first | exact nomark _ | rfl) :
    XT X cl E (.Compare a [.NotEq] [b] pos) (tTest (tOp (rNeO (cl c) (spM K cl g 2) E) ta tb)) (mTst (mNeO c g ma mb)) := by
  subst hK
  obtain ⟨f, fd, G, he, hf, hb2⟩ := T.ex
  exact ⟨pt_cmpR (op_neO G he hf hb2 T.ne T.ob hr hx) ha.p hb.p hm, sim_tst (sim_neO ha.s hb.s)⟩
end
section
variable {P : Program} {w : World} {K : PySem.W.Frag} {mg : Str → Option Value} {base : Heap} {cl : CL}
theorem fact0 {x : Str} {st : Stmt} {f : Addr} {fd : FuncData} {N ps : List Str} {k : Nat} (Fn : Fun K x x st f fd) (gm : mg x = some (.ref f)) (bd : Binds K fd ps []) (S : FnScope N ps (defScope st)) : Fact P w K mg base x (k + 1) ps (spM K cl (fun _ => .bad) ps.length) :=
  ⟨f, fd, fn_ok (m := Mi.bad) Fn S fun cdv A outer s H E hr => ⟨tNever, pss_never, fun _ _ _ _ _ _ _ _ h => h⟩, gm, Fn.kp, bd⟩
theorem fact0O {x : Str} {st : Stmt} {f : Addr} {fd : FuncData} {N : List Str} {p0 : Str} {ps : List Str} {k : Nat} (Fn : Fun K x x st f fd) (gm : mg x = some (.ref f)) (bd : Binds K fd (p0 :: ps) []) (S : FnScope N (p0 :: ps) (defScope st)) : Fact P w K mg base x (k + 1) (p0 :: ps) (spO K cl (fun _ _ => .bad) ps.length) :=
  ⟨f, fd, fnO_ok (m := Mi.bad) Fn S fun cdv A outer s H E hr => ⟨tNever, pss_never, fun _ _ _ _ _ _ _ _ h => h⟩, gm, Fn.kp, bd⟩
end
def clsB : Stmt → Nat → Stmt
  | .ClassDef _ _ _ body _ _ _ _ _ _ _, j => body.getD j (.Pass ⟨0, 0, 0, 0⟩)
  | s, _ => s
end Mi
namespace Mi
open PySem PySem.Spec PyProof.Rows L2
def canShow (q : PyData) : Bool := q.showable && !q.hasDict && decide (q.depth ≤ 100) && decide (q.shown.length ≤ sizeLine)
def dShow : D → Option D
  | .dc0 => some (.str "{}")
  | d => match toPy d with
    | some q => if canShow q then some (.str q.shown) else none
    | none => none
def dShow1 : List D → Option D
  | [d] => dShow d
  | _ => none
def rRepr (K : PySem.W.Frag) : List V → Hp → VK → Prop := fun xs H Q => ∃ v, xs = [v] ∧ ((∃ q, Dp K H v q ∧ canShow q = true ∧ Q (.str q.shown) H) ∨ ∃ p, v = .ref p ∧ H p = some (.dK []) ∧ Q (.str "{}") H)
section
variable {X : Cx} {cl : CL} {E : XK}
theorem call_show (hg : X.A.guards = some []) (un : X.A.units + 200 < cLine) : CallR X (.builtin "repr") (rRepr X.K) := by
  intro pins s σ H xs us Q I r h
  obtain ⟨v, rfl, h⟩ := h
  obtain ⟨u, rfl, ru⟩ := vals1 r
  rcases h with ⟨q, dp, cs, hq⟩ | ⟨p, rfl, hp, hq⟩
  · unfold canShow at cs
    simp only [Bool.and_eq_true, Bool.not_eq_true', decide_eq_true_eq] at cs
    obtain ⟨⟨⟨s1, s2⟩, s3⟩, s4⟩ := cs
    have go : ∀ a, u = .ref a → wpAny (model X.prog X.w) X.A (call (.builtin "repr") [u]) (EP X pins σ Q) X.xe s := fun a e => by
      obtain ⟨as, R⟩ := Dp.reads I q v u dp ru
      subst e
      exact repr_of_reads' R s1 (PyData.noDict_hsm s2) hg (by omega) (fun _ _ e => e) (fun h' u tk hk => ⟨.str _, H, I.kept hk, ⟨_, rfl⟩, hq⟩) s4
    cases dp with
    | non => cases ru; exact PySem.P.repr_of_none ⟨.str _, H, I.tok _, ⟨_, rfl⟩, hq⟩
    | bl b => cases ru; exact PySem.P.repr_of_bool ⟨.str _, H, I.tok _, ⟨_, rfl⟩, hq⟩
    | int i => obtain ⟨t, rfl⟩ := ru; exact PySem.P.repr_of_int (by simpa [PyData.showable] using s1) ⟨.str _, H, I.tok _, ⟨_, rfl⟩, hq⟩
    | str x => obtain ⟨t, rfl⟩ := ru; exact PySem.P.repr_of_str ⟨.str _, H, I.tok _, ⟨_, rfl⟩, hq⟩ s4
    | lst => exact go _ ru
    | tup => exact go _ ru
  · cases ru
    obtain ⟨_, lo, vs, kv, o, es, ep, h1, h2, h3, h4, h5, h6⟩ := dk_of I.hok hp
    have ev : vs = [] := by cases kv; rfl
    subst ev
    have e0 : es = #[] := by
      obtain ⟨l⟩ := es
      cases h5
      rfl
    subst e0
    have R : Reads s.heap (.ref p) (.dict []) (p :: [] ++ []) := Reads.dict h1 h2.1 h3 .nil .nil
    exact repr_of_reads' R rfl (fun _ hm => by
      have e : sysModules = p := by simpa using hm
      rw [e] at lo
      simp at lo) hg (by simp [PyData.depth, PyData.depthKv]; omega) (fun _ _ e => e) (fun h' u tk hk => ⟨.str _, H, I.kept hk, ⟨_, rfl⟩, hq⟩) (by decide +kernel)
end
theorem sim_show {K : PySem.W.Frag} {cl : CL} : SimC K cl (rRepr K) dShow1 := by
  intro zA F B H es σ xs ds d Q r a e fin
  cases a with
  | nil => cases e
  | @cons v vs d0 ds0 a0 an =>
    cases an with
    | cons => cases e
    | nil =>
      refine ⟨v, rfl, ?_⟩
      have e : dShow d0 = some d := e
      have nd : ∀ q, toPy d0 = some q → (if canShow q then some (D.str q.shown) else none) = some d → ∃ q, Dp K H v q ∧ canShow q = true ∧ Q (.str q.shown) H := fun q h1 h2 => by
        split at h2
        · rename_i hc
          cases h2
          exact ⟨q, at_dp r d0 v q a0 h1, hc, fin.here r (.str _)⟩
        · cases h2
      cases a0 with
      | dc0 hp =>
        cases e
        exact .inr ⟨_, rfl, r.bh _ _ hp, fin.here r (.str _)⟩
      | _ =>
        refine .inl ?_
        unfold dShow at e
        split at e
        · rename_i hz; cases hz
        · cases et : toPy _ with
          | none => rw [et] at e; cases e
          | some q => rw [et] at e; exact nd q et e
section
variable {X : Cx} {cl : CL} {E : XK}
theorem x_show {e : Expr} {te : TE} {me : M D} {p pos : Pos} {k : Nat} (hr : RoomG k X.A) (hm : X.mg "repr" = none) (ha : XE X cl E e te me) (hg : Gl X "repr" := by rfl) (hs : starEach [e] X.env = (false, eval e X.env) :: starEach [] X.env := by rfl)
    (hpl : (backTo pos (starEach [] X.env)).any (·.1) = false := by rfl) : XE X cl E (.Call (.Name "repr" p) [e] [] pos) (tCB (rRepr X.K) (tCons te tNil)) (mCB dShow1 (mCons me mNil)) :=
  x_cb (call_show hr.g (by have := hr.r.un; omega)) sim_show hm (by rfl) (xa_cons ha xa_nil hs) hg (by decide) (by decide) hs hpl
theorem xx_show {i k : Nat} {a dx : Addr} {dv : D} {oe : Obj} {pn : List (Addr × Obj)} {e : Expr} {te : TE} {me : M D} {p pos : Pos} (hr : RoomG k X.A) (hm : X.mg "repr" = none) (he : XXE (X.suite a ((a, oe) :: pn)) cl E i a dx dv e te me) (hgl : Gl X "repr" := by rfl)
    (hs : starEach [e] X.env = (false, eval e X.env) :: starEach [] X.env := by rfl) (hpl : (backTo pos (starEach [] X.env)).any (·.1) = false := by rfl) :
    XXE (X.suite a ((a, oe) :: pn)) cl E i a dx dv (.Call (.Name "repr" p) [e] [] pos) (tCB (rRepr X.K) (tCons te tNil)) (mCB dShow1 (mCons me mNil)) :=
  ⟨pe_callB (X := X.suite a ((a, oe) :: pn)) (call_show hr.g (by have := hr.r.un; show X.A.units + 200 < cLine; omega)) hgl hm (by rfl) (pa_cons he.p pa_nil hs) (by decide) (by decide) hs hpl, simX_cb (simXA_cons he.s simXA_nil) sim_show⟩
end
end Mi
namespace Mi
open PySem PySem.Spec PyProof.Rows L2
theorem guards_caller : callerA.guards = some [] := rfl
section
variable {P : Program} {w : World} {K : PySem.W.Frag} {mg mb : Str → Option Value} {CX : CXT} {k : Nat} {fa a : Addr} {cs : List (Addr × Addr)} {fd : FuncData} {x : Str} {sp : Sp} {s : Shared} {vs : List Value} {ns : List Int}
def tabO : Obj := { cls := .none, data := .fields #[] }
def scrO (vs : List Value) : Obj := { cls := .type "list", data := .seq vs.toArray }
open Classical in
noncomputable def startH (K : PySem.W.Frag) (cs : List (Addr × Addr)) (a : Addr) (vs : List Value) (ns : List Int) : Hp := fun b =>
  if ∃ p ∈ cs, p.2 = b then some (.tbl #[]) else if b = a ∧ K.lookup a = none then some (.frz (scrO vs) (.lst (ns.map V.int))) else none
theorem startH_tab {p : Addr × Addr} (h : p ∈ cs) : startH K cs a vs ns p.2 = some (.tbl #[]) := by
  unfold startH
  exact if_pos ⟨p, h, rfl⟩
theorem startH_inv {b : Addr} {u : HO} (h : startH K cs a vs ns b = some u) : ((∃ p ∈ cs, p.2 = b) ∧ u = .tbl #[]) ∨ (b = a ∧ K.lookup a = none ∧ u = .frz (scrO vs) (.lst (ns.map V.int))) := by
  unfold startH at h
  split at h
  · cases h; exact .inl ⟨‹_›, rfl⟩
  · split at h
    · rename_i q
      cases h
      exact .inr ⟨q.1, q.2, rfl⟩
    · cases h
theorem law_callG (KX : K.In s.heap) (hm : s.heap.Ns mainGlobals mg) (hb : s.heap.Ns builtinsNs mb) (hbb : ∀ y : Str, y ≠ "__name__" → mb y = bootBuiltins y) (hlim : s.heap.NoLimit) (hg : s.gens = #[])
    (hT : ∀ p ∈ cs, s.heap.get? p.2 = some tabO) (nT : ∀ p ∈ cs, K.lookup p.2 = none) (C : ∀ p ∈ cs, PySem.W.CodeHd s.heap p.1 p.2)
    (hbm : ∃ (bm : Addr) (ob : Obj), mg "__builtins__" = some (.ref bm) ∧ bm ≠ builtinsNs ∧ s.heap.get? bm = some ob ∧ ob.cls = .type "module" ∧ ob.dict = some builtinsNs ∧ ob.data = .plain)
    (ha : s.heap.get? a = some (scrO vs)) (hi : IntsAre vs ns) (hl : ns.length ≤ sizeLine) (hr : RoomG k callerA)
    (F : ∀ base : Heap, K.In base → base.Ns mainGlobals mg → (∀ p ∈ cs, LamX.TabB base mg p.1 p.2) → FnG P w K mg base CX k fa fd [x] sp) (hbind : ∀ (s : Shared) (u : Value), BindsTo s fd ⟨[u], []⟩ [(x, u)])
    (hsp : ∀ H : Hp, (∀ p ∈ cs, H p.2 = some (.tbl #[])) → SqL K H a (ns.map V.int) → sp [.ref a] H (fun v _ => v = .bl true) fun _ _ _ => False)
    (hCX : ∀ H e s', CX [] H s (fun _ _ _ => False) e s' → False) :
    codeAny (model P w) callerA (.call (.ref fa) ⟨[.ref a], []⟩) (fun r s' => r = .ok (.ret (.bool true)) ∧ OldK s.heap s'.heap ∧ s'.os = s.os ∧ AllBare s'.gens) s := by
  have rv := vals_ints hi
  have aT : ¬ ∃ p ∈ cs, p.2 = a := fun ⟨p, hp, e⟩ => by
    have q := (hT p hp).symm.trans (e ▸ ha)
    have z : Data.fields #[] = Data.seq vs.toArray _ := congrArg Obj.data (Option.some.inj q)
    cases z
  have what : ∀ {b : Addr} {u : HO} {o : Obj}, startH K cs a vs ns b = some u → s.heap.get? b = some o → o = tabO ∨ o = scrO vs := fun {b u o} h e => by
    rcases startH_inv h with ⟨⟨p, hp, ep⟩, _⟩ | ⟨ea, _, _⟩
    · subst ep
      exact .inl (Option.some.inj (e.symm.trans (hT p hp)))
    · subst ea
      exact .inr (Option.some.inj (e.symm.trans ha))
  have bs : ∀ {b : Addr} {o : Obj}, s.heap.get? b = some o → o.data ≠ tabO.data → o.data ≠ (scrO vs).data → (hidT s.heap (startH K cs a vs ns)).get? b = some o := fun {b o} e h1 h2 => by
    refine hidT_get e ?_
    cases q : startH K cs a vs ns b with
    | none => rfl
    | some u =>
      rcases what q e with z | z
      · exact (h1 (by rw [z])).elim
      · exact (h2 (by rw [z])).elim
  have nsB : ∀ {b : Addr} {m : Str → Option Value}, s.heap.Ns b m → (hidT s.heap (startH K cs a vs ns)).Ns b m := fun {b m} ⟨o, es, ep, e, d, r⟩ =>
    ⟨o, es, ep, bs e (by rw [d]; intro z; cases z) (by rw [d]; intro z; cases z), d, r⟩
  have hK : K.In (hidT s.heap (startH K cs a vs ns)) := fun b o e => hidT_get (KX b o e) (by
    cases q : startH K cs a vs ns b with
    | none => rfl
    | some u =>
      rcases startH_inv q with ⟨⟨p, hp, ep⟩, _⟩ | ⟨ea, en, _⟩
      · subst ep
        rw [nT p hp] at e
        cases e
      · subst ea
        rw [en] at e
        cases e)
  have TB : ∀ p ∈ cs, LamX.TabB (hidT s.heap (startH K cs a vs ns)) mg p.1 p.2 := fun p hp => by
    refine ⟨?_, ?_, fun z => ?_⟩
    · obtain ⟨o, us, file, tf, flags, tg, inF, text, tt, e1, r1, r2, r3, more⟩ := C p hp
      refine ⟨o, us, file, tf, flags, tg, inF, text, tt, bs e1 (fun z => ?_) (fun z => ?_), r1, r2, r3, more⟩ <;> rw [r2] at z <;> cases z
      simp at r3
    · obtain ⟨bm, ob, b1, b2, b3, b4, b5, b6⟩ := hbm
      refine ⟨bm, ob, b1, b2, fun q => ?_, fun q => ?_, bs b3 (fun z => ?_) (fun z => ?_), b4, b5, b6⟩
      · obtain ⟨o, es, ep, e, d, _⟩ := hm
        subst q
        cases b3.symm.trans e
        rw [d] at b6
        cases b6
      · subst q
        cases b3.symm.trans (hT p hp)
        cases b6
      all_goals (rw [b6] at z; cases z)
    · obtain ⟨o, es, ep, e, d, _⟩ := hm
      rw [z] at e
      cases e.symm.trans (hT p hp)
      cases d
  have ok : HOk P w (startH K cs a vs ns) s.heap := fun b u h => by
    rcases startH_inv h with ⟨⟨p, hp, ep⟩, eu⟩ | ⟨ea, _, eu⟩
    · subst ep
      subst eu
      exact hT p hp
    · subst ea
      subst eu
      exact ⟨ha, by rw [List.length_map]; exact hl, vs, _, rv, ha⟩
  have sq : SqL K (startH K cs a vs ns) a (ns.map V.int) := by
    cases q : K.lookup a with
    | none =>
      refine .inl (.inr ⟨scrO vs, ?_⟩)
      unfold startH
      rw [if_neg aT, if_pos ⟨rfl, q⟩]
    | some o =>
      cases (KX a o q).symm.trans ha
      exact .inr ⟨_, vs.toArray, _, q, rfl, rfl, rfl, by rw [List.size_toArray, hi.length]; exact hl, by simpa using rv⟩
  have hM : L2.Mod K mg (hidT s.heap (startH K cs a vs ns)) := ⟨hK, nsB hm, ⟨mb, nsB hb, hbb⟩, hlim.elim fun mc h => ⟨mc, nsB h.1, h.2⟩⟩
  have env : Env0 P w K mg (hidT s.heap (startH K cs a vs ns)) callerA [] s (startH K cs a vs ns) :=
    { frames := rfl, mod := hM, bs := fun _ _ e => of_hidT e, bsz := Nat.le_of_eq (hidT_size _ _), funs := trivial, frf := fun b z => (List.not_mem_nil (show b ∈ ([] : List Addr) from z)).elim, hok := ok, bare := .of_eq hg }
  have run := (F _ hK (nsB hm) TB).go callerA [] s _ ⟨[.ref a], []⟩ [.ref a] [.ref a] (fun v _ => v = .bl true) (fun _ _ _ => False) hr env (hbind s (.ref a)) (.cons rfl .nil) (hsp _ (fun _ => startH_tab) sq)
  refine codeAny_mono run fun r s' h => ?_
  match r, h with
  | .error e, h => exact (hCX _ _ _ h).elim
  | .ok (.ret u), ⟨v, H', os, bare, un, hok', rv', q⟩ =>
    have q : v = .bl true := q
    subst q
    have rv' : u = .bool true := rv'
    subst rv'
    have olds : ∀ b o, (¬ ∃ p ∈ cs, p.2 = b) → s.heap.get? b = some o → s'.heap.get? b = some o := fun b o nb e => by
      cases hq : startH K cs a vs ns b with
      | none => exact un.keep b o e hq (fun z => List.not_mem_nil (show b ∈ ([] : List Addr) from z)) (by simp)
      | some u =>
        rcases startH_inv hq with ⟨z, _⟩ | ⟨_, _, eu⟩
        · exact (nb z).elim
        · subst eu
          have y := (hok' b _ (un.frzs b _ _ hq)).1
          exact (e.symm.trans (ok b _ hq).1) ▸ y
    have grown : ∀ p ∈ cs, ∃ more : Array Value, s'.heap.get? p.2 = some { cls := .none, data := .fields more } := fun p hp => by
      obtain ⟨more, z⟩ := un.tbls p.2 #[] (startH_tab hp)
      exact ⟨_, hok' p.2 _ z⟩
    have both : ∀ b o, s.heap.get? b = some o → asItWas s.heap s'.heap b o ∧ ∃ o', s'.heap.get? b = some o' := fun b o e => by
      by_cases hb' : ∃ p ∈ cs, p.2 = b
      · obtain ⟨p, hp, ep⟩ := hb'
        obtain ⟨more, hmore⟩ := grown p hp
        subst ep
        cases e.symm.trans (hT p hp)
        exact ⟨.inr (.inl ⟨((C p hp).tab (hT p hp)).isCodeTable, rfl, #[], more, rfl, by rw [Array.empty_append]; exact hmore⟩), _, hmore⟩
      · exact ⟨.inl (olds b o hb' e), o, olds b o hb' e⟩
    exact ⟨rfl, ⟨fun b o e => (both b o e).1, fun b o e => (both b o e).2⟩, os, bare⟩
end
def LawG (l : PySem.W.OpenLaw) (w : World) (K : PySem.W.Frag) (CX : CXT) (k n : Nat) (x : Str) (mg : Str → Option Value) (fa : Addr) (h : Heap) : Prop :=
  ∃ (fd : FuncData) (cs : List (Addr × Addr)) (sp : Sp), (∀ p ∈ cs, h.get? p.2 = some tabO ∧ K.lookup p.2 = none ∧ PySem.W.CodeHd h p.1 p.2) ∧ (∀ (s : Shared) (u : Value), BindsTo s fd ⟨[u], []⟩ [(x, u)]) ∧
    (∀ (H : Hp) (a : Addr) (ns : List Int), ns.length ≤ n → (∀ p ∈ cs, H p.2 = some (.tbl #[])) → SqL K H a (ns.map V.int) → sp [.ref a] H (fun v _ => v = .bl true) fun _ _ _ => False) ∧
    ∀ base : Heap, K.In base → base.Ns mainGlobals mg → (∀ p ∈ cs, LamX.TabB base mg p.1 p.2) → FnG l.prog w K mg base CX k fa fd [x] sp
theorem walkG {l : PySem.W.OpenLaw} {n k : Nat} {q : Program} {loose : List Str} {XP : (Str → Option Value) → Heap → Prop} {YP : World → Heap → Prop} {d : DefRec} {K : Params → PySem.W.Frag} {CX : World → CXT} {x : Str} (hn : l.most = some n)
    (hn2 : n ≤ sizeLine) (hdf : d.params.defaults = []) (hr : Room k callerA) (hY : ∀ (w : World) (h : Heap), YP w h → (K w.params).In h)
    (F : ∀ (w : World) (mg : Str → Option Value) (fa : Addr) (h : Heap), YP w h → (K w.params).In h → h.Ns mainGlobals mg → mg d.name = some (.ref fa) →
      (∀ (e : DefRec) (y : Str) (c P : Addr), (recsOf q).find? (fun e => e.name == y) = some e → PySem.W.tabIn (K w.params) y = some (c, P) → PySem.W.CodeHd h c P ∧ h.get? P = some tabO) → LawG l w (K w.params) (CX w) k n x mg fa h)
    (hCX : ∀ (w : World) (H : Hp) (s : Shared) (e : Value) (s' : Shared), CX w [] H s (fun _ _ _ => False) e s' → False) : PySem.W.WalkO q loose XP YP l.row.toRowW d [] (fun f vs => PySem.call f vs) :=
  Att.attach_callB hn hdf fun w _ s₁ mg _ fa _ _ _ _ a vs ns G Y _ _ _ hmg hobj hints hlen _ hg => by
    obtain ⟨fd, cs, sp, hC, hb, hsp, hF⟩ := F w mg fa _ Y (hY w _ Y) G.T.g hmg fun _ _ _ _ hr ht => PySem.W.tab_of G.T (hY w _ Y) hr ht
    exact law_callG (hY w _ Y) G.T.g G.T.b G.T.builtins G.T.nolimit hg (fun p hp => (hC p hp).1) (fun p hp => (hC p hp).2.1) (fun p hp => (hC p hp).2.2) G.T.bmain hobj hints (Nat.le_trans hlen hn2) ⟨hr, guards_caller⟩ hF hb
      (fun H hH hS => hsp H a ns hlen hH hS) fun H e s' => hCX w H s₁ e s'
end Mi
namespace Mi
open PySem PySem.Spec PyProof.Rows L2
mutual
def noFn : D → Bool
  | .fn => false
  | .tup l => noFnL l
  | .lst l => noFnL l
  | .ins _ _ l => noFnL l
  | .dct _ l => noFnL l
  | _ => true
def noFnL : List D → Bool
  | [] => true
  | d :: l => noFn d && noFnL l
end
section
variable {K : PySem.W.Frag} {cl cl' : CL} {B : Hp}
mutual
theorem At.chC (hf : cl.f = cl'.f) : ∀ (d : D) (v : V), noFn d = true ∨ cl.fn = none → At K cl B v d → At K cl' B v d
  | .non, _, _, h => by cases h; exact .non
  | .bl b, _, _, h => by cases h; exact .bl b
  | .int i, _, _, h => by cases h; exact .int i
  | .str s, _, _, h => by cases h; exact .str s
  | .tup ds, _, n, h => by cases h with | tup h1 h2 => exact .tup h1 (At.chL hf ds _ (n.imp_left fun z => by simpa [noFn] using z) h2)
  | .lst ds, _, n, h => by cases h with | lst h1 h2 => exact .lst h1 (At.chL hf ds _ (n.imp_left fun z => by simpa [noFn] using z) h2)
  | .ins c ns ds, _, n, h => by cases h with | ins h1 h2 h3 => exact .ins (by rw [← hf]; exact h1) h2 (At.chL hf ds _ (n.imp_left fun z => by simpa [noFn] using z) h3)
  | .dc0, _, _, h => by cases h with | dc0 h1 => exact .dc0 h1
  | .scr l, _, _, h => by cases h with | scr h1 => exact .scr h1
  | .dct ks ds, _, n, h => by cases h with | dct h1 h2 h3 => exact .dct h1 h2 (At.chL hf ds _ (n.imp_left fun z => by simpa [noFn] using z) h3)
  | .fn, _, n, h => by
    cases h with
    | fn h1 h2 =>
      rcases n with n | n
      · cases n
      · rw [n] at h1; cases h1
theorem At.chL (hf : cl.f = cl'.f) : ∀ (ds : List D) (vs : List V), noFnL ds = true ∨ cl.fn = none → AtL K cl B vs ds → AtL K cl' B vs ds
  | [], _, _, h => by cases h; exact .nil
  | d :: ds, _, n, h => by
    cases h with
    | cons h1 h2 => exact .cons (At.chC hf d _ (n.imp_left fun z => by simp [noFnL] at z; exact z.1) h1) (At.chL hf ds _ (n.imp_left fun z => by simp [noFnL] at z; exact z.2) h2)
end
end
def LamSp (K : PySem.W.Frag) (cl : CL) (r : R D) (H : Hp) (Q : VK) (E : XK) : Prop := ∃ B, (∃ p G, cl.fn = some (p, G) ∧ Same G B) ∧ Bas cl B H ∧ match r with
  | .ok d => ∀ (v : V) (B' H' : Hp), Same B B' → Frs B (noT H) B' → Same (noT H) H' → Bas cl B' H' → At K cl B' v d → Q v H'
  | .exc c d => Exk K cl E (noT H) B c d
  | .bad => False
structure LamOk (P : Program) (w : World) (K : PySem.W.Frag) (mg : Str → Option Value) (base : Heap) (cl : CL) (k : Nat) (f : Addr) (stk : List Env) (s0 : Shared) (H0 : Hp) (r : R D) : Prop where
  at_ : ∃ o fd, s0.heap.get? f = some o ∧ o.data = .func fd ∧ H0 f = none ∧ f ∉ frs stk
  go : ∀ (A : Around) (out : List Env) (s : Shared) (H : Hp) (Q : VK) (E : XK), RoomG k A → Env0 P w K mg base A out s H → Un (frs stk) [] H0 H s0.heap s.heap → LamSp K cl r H Q E →
    codeAny (model P w) A (.call (.ref f) ⟨[], []⟩) (CR (L2.CX P w) out P w H s Q E) s
def datS : Sl → Sl
  | .dat d => .dat d
  | _ => .un
def resOf {α : Type} (r : R (α × En)) : R α := match r with
  | .ok (a, _) => .ok a
  | .exc c d => .exc c d
  | .bad => .bad
theorem datS_at {es : En} {i : Nat} {d : D} (h : (es.map datS)[i]? = some (.dat d)) : es[i]? = some (.dat d) := by
  rw [List.getElem?_map] at h
  cases q : es[i]? with
  | none => rw [q] at h; cases h
  | some x =>
    rw [q] at h
    cases x with
    | dat e => cases h; rfl
    | un => cases h
    | own l => cases h
theorem datS_own {es : En} {i : Nat} {l : List D} (h : (es.map datS)[i]? = some (.own l)) : False := by
  rw [List.getElem?_map] at h
  cases q : es[i]? with
  | none => rw [q] at h; cases h
  | some x => rw [q] at h; cases x <;> cases h
section
variable {K : PySem.W.Frag} {cl : CL} {zA : Zp} {E : XK} {F B H : Hp} {es : En} {σ : L2.St}
theorem Rel.later (r : Rel K cl zA F B H es σ) {B' H' : Hp} (sb : Same B B') (bs : Bas cl B' H') : Rel K cl ⟨none, []⟩ (noT H') B' H' (es.map datS) σ where
  bh := bs.bh
  fh := noT_same H'
  len := by rw [List.length_map]; exact r.len
  dat := fun i d e => by
    obtain ⟨v, h1, h2⟩ := r.dat i d (datS_at e)
    exact ⟨v, h1, h2.up sb⟩
  own := fun i l e => (datS_own e).elim
  apart := fun i j l m p _ e _ _ _ => (datS_own e).elim
  zero := fun p l e _ => by cases e
  tab := bs.tab
  nb := bs.nb
  nf := noT_not H'
  fl := bs.fl
end
abbrev CL.with (cl : CL) (f : Addr) (B G : Hp) : CL := { cl with fn := some (f, B), fl := G }
theorem lamSp_body {K : PySem.W.Frag} {cl : CL} {zA : Zp} {F B H1 H' : Hp} {es : En} {σ : L2.St} {f : Addr} {t : TE} {m : M D} {Q : VK} {E : XK} (hn : cl.fn = none) (r : Rel K cl zA F B H1 es σ) (hs : SimE K cl E t m)
    (h : LamSp K (cl.with f B (noT H1)) (resOf (m (es.map datS))) H' Q E) : t σ H' Q := by
  obtain ⟨B', ⟨p, G, hfn, sG⟩, bs, h⟩ := h
  cases hfn
  have s1 : Same (noT H1) (noT H') := bs.fl
  have flOf : Same cl.fl (noT H1) := r.fl.trans r.fhN
  have bs0 : Bas cl B' H' := ⟨bs.bh, bs.nb, bs.tab, flOf.trans s1⟩
  have up : ∀ {B2 H2 : Hp}, Bas cl B2 H2 → Same (noT H') H2 → Bas (cl.with f B (noT H1)) B2 H2 := fun b s => ⟨b.bh, b.nb, b.tab, s1.trans (same_noT s (noT_not _))⟩
  refine hs _ _ B' H' _ σ Q (r.later sG bs0) ?_
  cases q : m (es.map datS) with
  | ok pr =>
    obtain ⟨d, es2⟩ := pr
    rw [q] at h
    exact fun B2 H2 s2 f2 v r2 a => h v B2 H2 s2 f2 r2.fh (up r2.bas r2.fh) (At.chC (cl := cl) (cl' := cl.with _ B (noT H1)) rfl d v (.inr hn) a)
  | exc c d =>
    rw [q] at h
    exact fun v dx B2 H2 s2 f2 sf sb n nb e a => h v dx B2 H2 s2 f2 sf (up sb sf) n nb e (At.chC (cl := cl) (cl' := cl.with _ B (noT H1)) rfl d v (.inr hn) a)
  | bad => rw [q] at h; exact h
section
variable {X : Cx} {pins : List (Addr × Obj)} {σ : L2.St} {H1 : Hp} {s1 : Shared}
theorem lamOk_mk {cl2 : CL} {k : Nat} {f c' : Addr} {pm ctv : Value} {params : Arguments} {body : Expr} {scope : Scope} {t : XK → TE} {r : R D}
    (I : Inv X pins σ H1 s1) (L : LamX.LamS X.env.scope scope) (hf : s1.heap.get? f = some (PySem.W.kla_obj "<lambda>" (X.env.qual ++ "<lambda>") params body scope (cloFrom X.env.cells scope.names []) pm c' ctv)) (hfn : H1 f = none) (hfr : f ∉ frs X.stack)
    (hco : H1 c' = some (LamX.CodeO c' (X.env.qual ++ "<lambda>"))) (hfl : cl2.fl = noT H1)
    (hbind : bindArgs (PySem.W.kla_fn "<lambda>" (X.env.qual ++ "<lambda>") params body scope (cloFrom X.env.cells scope.names []) pm (.ref c') ctv) ⟨[], []⟩ = pure [])
    (hbody : ∀ (A : Around) (outer : List Env) (s : Shared) (H : Hp) (E : XK), RoomG k (A.deeper (LamX.lamEnv X scope s.heap.objs.size f c')) → PE (LamX.lamCx X A outer s H E scope f c') body (t E))
    (hst : ∀ (H : Hp) (Q : VK) (E : XK), LamSp X.K cl2 r H Q E → t E σ H Q) : LamOk X.prog X.w X.K X.mg X.base cl2 (k + 1) f X.stack s1 H1 r := by
  refine ⟨⟨_, _, hf, rfl, hfn, hfr⟩, fun A out s H Q E hr e0 un h => ?_⟩
  have of1 := un.keep f _ hf hfn hfr (List.not_mem_nil)
  have hc : H c' = some (LamX.CodeO c' (X.env.qual ++ "<lambda>")) := by
    obtain ⟨B, _, bs, _⟩ := h
    have := bs.fl
    rw [hfl] at this
    exact noT_sub (this c' _ (noT_of hco LamX.codeO_ne))
  obtain ⟨⟨oc, vs, tk, hoc, hdc, hvc⟩, _⟩ := e0.hok c' _ hc
  refine PySem.W.kla_callFunE hr.r.depth of1 rfl L.co L.gen rfl ⟨c', oc, vs, tk, rfl, hoc, hdc, hvc⟩ ?_
  rw [hbind]
  refine wpAny_pure (wpAny_newFunctionEnv (fun y hy => (L.own y hy).2) (fun y hy => (List.not_mem_nil hy).elim) (fun h₁ hns hsb => ?_) L.kind)
  have kp : ∀ b o, s.heap.get? b = some o → h₁.get? b = some o := fun b o e => hsb.extBut b o (Nat.ne_of_lt (Heap.lt_size e)) (Heap.get?_push_of_some _ e)
  have lim : s.heap.NoLimit := e0.mod.nolimit.keeps fun b o e => (e0.bs b o e).1
  refine ⟨lim.fresh _ hsb, PySem.W.kla_codeExpr ?_⟩
  have J := LamX.lam_start2 (E := E) (f := f) (c' := c') (tk := s.toks + ([] : List (Str × Value)).length) I L e0 hr.r.hd un hns kp
  refine wpAny_mono ((hbody A out s H E (hr.deeper _)).run [] _ σ H Q J (hst H Q E h)) (fun v s' hq => ?_) fun e s' hq => hq
  obtain ⟨w', H', J', rv, q⟩ := hq
  exact ⟨w', H', J'.os, J'.bare, J'.base, J'.hok, rv, q⟩
end
def tFn (K : PySem.W.Frag) (cl : CL) (f : Addr) (r : R D) (i : Nat) (Es : L2.St → XK) : TE := fun σ H Q => σ[i]? = some (some (.ref f)) ∧ LamSp K cl r H Q (Es σ)
structure CanFn (X : Cx) (cl : CL) (k : Nat) (f : Addr) (r : R D) : Prop where
  ex : ∃ (stk : List Env) (s0 : Shared) (H0 : Hp), LamOk X.prog X.w X.K X.mg X.base cl k f stk s0 H0 r ∧ ∀ (pins : List (Addr × Obj)) (σ : L2.St) (H : Hp) (s : Shared), Inv X pins σ H s → Un (frs stk) [] H0 H s0.heap s.heap
section
variable {X : Cx}
theorem pe_fn {cl : CL} {k i : Nat} {f : Addr} {r : R D} {a : Str} {p1 p2 : Pos} {Es : L2.St → XK} (C : CanFn X cl k f r) (hr : RoomG k X.A) (hx : ∀ σ, PassesAt (L2.CX X.prog X.w) X σ (Es σ)) (hN : X.N[i]? = some a) (hv : Vis X.env.scope a)
    (hd : (a == ("__debug__" : Str)) = false := by decide) (hcd : (a == ("__classdict__" : Str)) = false := by decide) : PE X (.Call (.Name a p1) [] [] p2) (tFn X.K cl f r i Es) := by
  obtain ⟨stk, s0, H0, LO, hU⟩ := C.ex
  refine ⟨fun pins s σ H Q I h => wpAny_Call_Name_kw (thn ((pe_var (pos := p1) (i := i) hN hv hd hcd).run pins s σ H (fun v G => v = .ref f ∧ G = H) I ⟨.ref f, h.1, rfl, rfl⟩) fun u s2 ⟨v, G, I2, rv, ev, eG⟩ => ?_)⟩
  subst ev
  subst eG
  obtain rfl : u = Value.ref f := rv
  obtain ⟨o, fd, e1, e2, e3, e4⟩ := LO.at_
  have un := hU _ _ _ _ I2
  have of := un.keep f _ e1 e3 e4 List.not_mem_nil
  obtain ⟨oc, od, dt, sl⟩ := o
  cases e2
  refine PySem.W.callWith_F0 ⟨_, _, _, _, of⟩ (wpAny_call (codeAny_mono (LO.go X.A X.stack s2 G Q (Es σ) hr I2.env0 un h.2) fun rr s' z => ?_))
  cases rr with
  | error e => exact hx σ _ _ _ _ _ I2 z
  | ok fl => cases fl with
    | ret u => exact I2.after z
    | _ => exact z
end
def isFnAt (es : En) (v : Nat) : Bool := match es[v]? with
  | some (.dat .fn) => true
  | _ => false
theorem isFnAt_at {es : En} {v : Nat} (h : isFnAt es v = true) : es[v]? = some (.dat .fn) := by
  unfold isFnAt at h
  split at h
  · assumption
  · cases h
def mTryL (i j v : Nat) (r : R D) (cs : List (Nat × (D → M Out))) : M Out := fun es => if isFnAt es v = true ∧ i < es.length then (match r with
  | .ok d => .ok (.nx, es.set j (.dat d))
  | .exc c d => runC i cs c d es
  | .bad => .bad) else .bad
def mTryR (i v : Nat) (w : Str) (r : R D) (cs : List (Nat × (D → M Out))) : M Out := fun es => if isFnAt es v = true ∧ i < es.length then (match r with
  | .ok d => .ok (.rt (.tup [.str w, d]), es)
  | .exc c d => runC i cs c d es
  | .bad => .bad) else .bad
section
variable {K : PySem.W.Frag} {cl : CL} {E : XK} {zA : Zp} {F B H : Hp} {es : En} {σ : L2.St} {i v : Nat} {f : Addr} {G0 : Hp} {r : R D} {l : List (Value × Nat × ClF)} {cs : List (Nat × (D → M Out))} {Dn : Ends}
theorem fn_sp (hcl : cl.fn = some (f, G0)) (rl : Rel K cl zA F B H es σ) (hv : isFnAt es v = true) (hi : i < es.length) (hc : SimCl K cl E i l cs) {Q : VK} {k : Out → En → Hp → Hp → Prop}
    (h : match r with
      | .ok d => ∀ (w : V) (B' H' : Hp), Same B B' → Frs B (noT H) B' → Same (noT H) H' → Bas cl B' H' → At K cl B' w d → Q w H'
      | .exc c d => Po K cl E F B (runC i cs c d es) (EndP K cl zA F Dn)
      | .bad => False) : tFn K cl f r v (WE (wNamed K (fun cls d _ H => E cls d H) Dn l)) σ H Q := by
  obtain ⟨u, hu, au⟩ := rl.dat v .fn (isFnAt_at hv)
  cases au with
  | fn h1 h2 =>
    cases h1.symm.trans hcl
    refine ⟨hu, B, ⟨_, _, hcl, h2⟩, rl.bas, ?_⟩
    cases r with
    | ok d => exact h
    | exc c d => exact fun w dx B' H' s f sh sb nH nb hd av => sim_cl hc (rl.grow s sh sb f) hi (rl.fhN.free nH) hd av (Po.up s (rl.frs f) h)
    | bad => exact h
theorem sim_tryL {j : Nat} (hcl : cl.fn = some (f, G0)) (hc : SimCl K cl E i l cs) :
    SimS K cl E (fun Dn σ H => tAsg (tFn K cl f r v (WE (wNamed K (fun cls d _ H => E cls d H) Dn l))) (gName j) Dn σ H) (mTryL i j v r cs) := by
  intro zA F B H es σ Dn rl h
  unfold mTryL at h
  split at h
  · rename_i hh
    refine fn_sp (k := EndP K cl zA F Dn) hcl rl hh.1 hh.2 hc ?_
    cases r with
    | ok d => exact fun w B' H' s f sh sb av => h B' H' s (rl.frs f) _ ((rl.grow s sh sb f).put av)
    | exc c d => exact h
    | bad => exact h
  · exact h.elim
end
section
variable {X : Cx} {cl : CL} {E : XK} {i : Nat}
theorem xs_tryL (i j v : Nat) {f : Addr} {G0 : Hp} {r : R D} {k : Nat} {a y : Str} {p py pos pos2 pos4 : Pos} {h0 : ExceptHandler} {hds : List ExceptHandler} {l : List (Value × Nat × ClF)} {cs : List (Nat × (D → M Out))}
    (hN0 : X.N.Nodup) (hcl : cl.fn = some (f, G0)) (C : ∀ (pn : List (Addr × Obj)) (xe : Value → Shared → Prop), CanFn (X.tr pn xe) cl k f r) (hr : RoomG k X.A) (tk : Takes X (fun cls d _ H => E cls d H)) (hc : XCl X cl E i (h0 :: hds) l cs)
    (hs : X.stack = X.env :: X.outer := by rfl) (hf : X.env.frame = some X.env.locals := by rfl)
    (hN : X.N[v]? = some a := by rfl) (hv : Vis X.env.scope a := by first | exact Or.inl rfl | exact Or.inr (Or.inl rfl) | exact Or.inr (Or.inr rfl)) (hd : (a == ("__debug__" : Str)) = false := by decide) (hcd : (a == ("__classdict__" : Str)) = false := by decide)
    (hj : X.N[j]? = some y := by rfl) (hy : Loc X.env.scope y := by first | exact Or.inl rfl | exact Or.inr rfl)
    (hsw : swapsWith (.Call (.Name a p) [] [] pos) (some (.Name y py)) pos2.line X.env = pure false := by rfl)
    (hfn : X.fn y = true ∨ X.env.scope.names.lookup y = some .local := by first | exact .inl rfl | exact .inr rfl | assumption) :
    XS X cl E (.Try [.Assign [.Name y py] (.Call (.Name a p) [] [] pos) pos2] (h0 :: hds) [] [] pos4)
      (fun Dn σ H => tAsg (tFn X.K cl f r v (WE (wNamed X.K (fun cls d _ H => E cls d H) Dn l))) (gName j) Dn σ H) (mTryL i j v r cs) :=
  ⟨ps_try_named (tb := fun W => tAsg (tFn X.K cl f r v (WE W)) (gName j)) (W0 := fun cls d _ H => E cls d H) hs hf hN0 tk
    (fun W pn xe tk' po => pss_one (ps_set hN0 hj hy (pe_fn (C pn xe) hr (fun σ => passAt tk' σ) hN hv hd hcd) hsw hfn)) hc.p, sim_tryL hcl hc.s⟩
end
def spL (K : PySem.W.Frag) (cl : CL) (g : R D → List D → R D) (n : Nat) (r : R D) (vs : List V) (H : Hp) (Q : VK) (E : XK) : Prop := ∃ (ds : List D) (B : Hp), ds.length = n ∧ (∃ p G, cl.fn = some (p, G) ∧ Same G B) ∧ Bas cl B H ∧ AtL K cl B vs ds ∧ match g r ds with
  | .ok d => ∀ (v : V) (B' H' : Hp), Same B B' → Frs B (noT H) B' → Same (noT H) H' → Bas cl B' H' → At K cl B' v d → Q v H'
  | .exc c d => Exk K cl E (noT H) B c d
  | .bad => False
structure FactL (P : Program) (w : World) (K : PySem.W.Frag) (mg : Str → Option Value) (base : Heap) (cl : CL) (x : Str) (k kl : Nat) (ps : List Str) (g : R D → List D → R D) (n : Nat) : Prop where
  ex : ∃ (f : Addr) (fd : FuncData), mg x = some (.ref f) ∧ PySem.W.keepIn K (.ref f) = true ∧ Binds K fd ps [] ∧ ps.length = n + 1 ∧
    ∀ (A : Around) (out : List Env) (s : Shared) (H : Hp) (args : Args) (us : List Value) (fl : Addr) (G : Hp) (vs : List V) (Q : VK) (E : XK) (r : R D), cl.fn = some (fl, G) → RoomG k A → Env0 P w K mg base A out s H → BindsTo s fd args (ps.zip us) →
      Vals (.ref fl :: vs) us → LamOk P w K mg base cl kl fl out s H r → spL K cl g n r vs H Q E → codeAny (model P w) A (.call (.ref f) args) (CR (L2.CX P w) out P w H s Q E) s
def fnL (n : Nat) (m : R D → M Out) (r : R D) (ds : List D) : R D := fnM n (m r) (.fn :: ds)
theorem canFn_of {P : Program} {w : World} {K : PySem.W.Frag} {mg : Str → Option Value} {base : Heap} {cl : CL} {k : Nat} {f g : Addr} {r : R D} {N : List Str} {x : Str} {sc : Scope} {cdv : Value} {A : Around} {outer : List Env} {s : Shared} {H : Hp} {E : XK}
    (LO : LamOk P w K mg base cl k f outer s H r) (pn : List (Addr × Obj)) (xe : Value → Shared → Prop) : CanFn ((cxOf (L2.CX P w) P w K mg base N x sc g cdv A outer s H E).tr pn xe) cl k f r :=
  ⟨outer, s, H, LO, fun _ _ _ _ I => I.base⟩
section
variable {P : Program} {w : World} {K : PySem.W.Frag} {mg : Str → Option Value} {base : Heap} {cl : CL}
theorem factL_mk {x : Str} {st : Stmt} {f : Addr} {fd : FuncData} {N ps : List Str} {k kl n : Nat} {m : R D → M Out} (Fn : L2.Fun K x x st f fd) (gm : mg x = some (.ref f)) (bd : Binds K fd ps []) (hn : ps.length = n + 1) (S : FnScope N ps (defScope st))
    (hb : ∀ (cdv : Value) (A : Around) (outer : List Env) (s : Shared) (H : Hp) (E : XK) (fl : Addr) (G : Hp) (r : R D), cl.fn = some (fl, G) → RoomG k (A.deeper (envOfC x (defScope st) s.heap.objs.size f cdv)) → LamOk P w K mg base cl kl fl outer s H r →
      ∃ t, XB (cxOf (L2.CX P w) P w K mg base N x (defScope st) f cdv A outer s H E) cl E (defBody st) t (m r)) : FactL P w K mg base cl x (k + 1) kl ps (fnL N.length m) n := by
  have hpl : ps.length ≤ N.length := by have := congrArg List.length S.pre; rw [List.length_take] at this; omega
  refine ⟨f, fd, gm, Fn.kp, bd, hn, fun A out s H args us fl G vs Q E r hcl hr e0 bt rv LO h => ?_⟩
  obtain ⟨ds, B, hl, ⟨p, G', hcl', sG⟩, bs, a, h⟩ := h
  cases hcl.symm.trans hcl'
  obtain ⟨_, _, _, _, _, _, cd, _, _, e, lk, hcd⟩ := Fn.ex
  subst e
  have av : AtL K cl B (.ref fl :: vs) (.fn :: ds) := .cons (.fn hcl sG) a
  have lv : (V.ref fl :: vs).length = ps.length := by rw [List.length_cons, a.len, hl, hn]
  refine LamX.run_ofS lk hcd S hr.r e0 bt rv lv fun r2 => ?_
  obtain ⟨t, X⟩ := hb cd A out s H E fl G r hcl ⟨r2, hr.g⟩ LO
  refine ⟨t, X.p, X.s _ (noT H) B H _ _ _ (rel_start bs av (by rw [List.length_cons, hl]; omega)) ?_⟩
  unfold fnL fnM at h
  cases q : m r ((D.fn :: ds).map Sl.dat ++ List.replicate (N.length - (D.fn :: ds).length) .un) with
  | ok pr =>
    obtain ⟨o, es⟩ := pr
    rw [q] at h
    cases o with
    | nx => exact fun B' H' s f σ' r' => h .non B' H' s f r'.fh r'.bas .non
    | rt d => exact fun B' H' s f v σ' r' av => h v B' H' s f r'.fh r'.bas av
    | bk => exact h.elim
    | ct => exact h.elim
  | exc c d => rw [q] at h; exact h
  | bad => rw [q] at h; exact h.elim
end
def mLamC (g : R D → List D → R D) (m : M D) : M D := fun es => match g (resOf (m (es.map datS))) [] with
  | .ok d => if noFn d = true then .ok (d, es) else .bad
  | .exc c d => if noFn d = true then .exc c d else .bad
  | .bad => .bad
def tLamC (K : PySem.W.Frag) (cl : CL) (E : XK) (g : R D → List D → R D) (q : Str) (t : XK → TE) : TE := fun σ H Q => LamX.Tabs cl.ts H ∧ ∀ (f c' : Addr) (H1 : Hp), LamX.ExtN H H1 → LamX.Tabs cl.ts H1 → H1 f = none → H1 c' = some (LamX.CodeO c' q) →
  ∃ (G : Hp) (r : R D), (∀ (H' : Hp) (Q' : VK) (E' : XK), LamSp K (cl.with f G (noT H1)) r H' Q' E' → t E' σ H' Q') ∧ spL K (cl.with f G (noT H1)) g 0 r [] H1 Q E
theorem sim_lamC {K : PySem.W.Frag} {cl : CL} {E : XK} {g : R D → List D → R D} {q : Str} {t : XK → TE} {m : M D} (hn : cl.fn = none) (hs : ∀ E, SimE K cl E (t E) m) : SimE K cl E (tLamC K cl E g q t) (mLamC g m) := by
  intro zA F B H es σ Q r h
  refine ⟨r.tab, fun f c' H1 eN T1 nf hc => ?_⟩
  have s1 : Same (noT H) H1 := fun b o e => eN b o (noT_sub e) fun ps z => noT_not H b ps (by rw [e, z])
  have r1 : Rel K cl zA F B H1 es σ := r.grow (Same.rfl' B) s1 ⟨(same_noT r.bh r.nb).trans s1, r.nb, T1, r.fl.trans (r.fhN.trans (same_noT s1 (noT_not _)))⟩ (fun x o e n => by rw [e] at n; cases n)
  have flOf : Same cl.fl (noT H1) := r1.fl.trans r1.fhN
  refine ⟨B, resOf (m (es.map datS)), fun H' Q' E' k => lamSp_body hn r1 (hs E') k, [], B, rfl, ⟨f, B, rfl, Same.rfl' B⟩, ⟨r1.bh, r1.nb, T1, Same.rfl' _⟩, .nil, ?_⟩
  unfold mLamC at h
  cases q : g (resOf (m (es.map datS))) [] with
  | ok d =>
    rw [q] at h
    simp only at h
    split at h
    · rename_i hd
      intro v B' H' s f sh sb av
      have bs : Bas cl B' H' := ⟨sb.bh, sb.nb, sb.tab, flOf.trans sb.fl⟩
      exact h B' H' s (r1.frs f) v (r1.grow s sh bs f) (At.chC (cl := cl.with _ B (noT H1)) (cl' := cl) rfl d v (.inl hd) av)
    · exact h.elim
  | exc c d =>
    rw [q] at h
    simp only at h
    split at h
    · rename_i hd
      intro v dx B' H' s f sh sb n nb e av
      have bs : Bas cl B' H' := ⟨sb.bh, sb.nb, sb.tab, flOf.trans sb.fl⟩
      exact h v dx B' H' s (r1.frs f) (r1.fhN.trans sh) bs (r1.fhN.free n) nb e (At.chC (cl := cl.with _ B (noT H1)) (cl' := cl) rfl d v (.inl hd) av)
    · exact h.elim
  | bad => rw [q] at h; exact h.elim
section
variable {X : Cx} {cl : CL} {E : XK}
theorem pe_lamC {g : R D → List D → R D} {x : Str} {ps : List Str} {c P : Addr} {k kl : Nat} {params : Arguments} {body : Expr} {scope : Scope} {t : XK → TE} {p lpos pos : Pos}
    (TF : ∀ (f : Addr) (B G : Hp), FactL X.prog X.w X.K X.mg X.base (cl.with f B G) x k (kl + 1) ps g 0) (hx : Passes (L2.CX X.prog X.w) X E) (hr : RoomG k X.A) (hg : Gl X x)
    (TB : LamX.TabB X.base X.mg c P) (hcode : X.env.code = .ref c) (hm : (P, X.env.qual ++ "<lambda>") ∈ cl.ts) (hu : ∀ p ∈ cl.ts, p.1 = P → p.2 = X.env.qual ++ "<lambda>") (L : LamX.LamS X.env.scope scope) (hdef : defaultsOf params X.env = ([], []))
    (hbind : ∀ (q : Str) (cs : List (Str × Addr)) (pm cv ctv : Value), bindArgs (PySem.W.kla_fn "<lambda>" q params body scope cs pm cv ctv) ⟨[], []⟩ = pure [])
    (hbody : ∀ (A : Around) (outer : List Env) (s : Shared) (H : Hp) (E : XK) (f c' : Addr), RoomG kl (A.deeper (LamX.lamEnv X scope s.heap.objs.size f c')) → PE (LamX.lamCx X A outer s H E scope f c') body (t E))
    (hdb : (x == ("__debug__" : Str)) = false := by decide) : PE X (.Call (.Name x p) [.Lambda params body scope lpos] [] pos) (tLamC X.K cl E g (X.env.qual ++ "<lambda>") t) := by
  obtain ⟨ga, _, gm, gk, _⟩ := (TF 0 (fun _ => none) (fun _ => none)).ex
  refine ⟨fun pins s σ H Q I h => wpAny_Call_Name_kw (ld_glob I hg gm ?_ hdb)⟩
  obtain ⟨hT, h⟩ := h
  refine PySem.W.callWith_K (h₀ := X.base) I.ok.mod.kin gk ?_ (by rfl) (by rfl)
  show wpAny _ _ (spliced ((false, eval (.Lambda params body scope lpos) X.env) :: backTo pos (starEach [] X.env))) _ _ s
  refine Calls.spliced_cons (LamX.lam_make2 I TB hcode hm hu hT hdef (L.has I.ok) fun f c' pm' ctv H1 s' I1 eN T1 hf hfn hfr hco => Calls.spliced_nil ⟨I1.kIn, ?_⟩)
  obtain ⟨G, r, hst, sp⟩ := h f c' H1 eN T1 hfn hco
  obtain ⟨fa, fd, fm, _, fb, fn, go⟩ := (TF f G (noT H1)).ex
  cases gm.symm.trans fm
  have LO : LamOk X.prog X.w X.K X.mg X.base (cl.with f G (noT H1)) (kl + 1) f X.stack s' H1 r := lamOk_mk I1 L hf hfn hfr hco rfl (hbind _ _ _ _ _) (fun A outer s H E hr2 => hbody A outer s H E f c' hr2) hst
  have hl : ([Value.ref f] : List Value).length = ps.length := by rw [fn]; rfl
  have bt := fb s' [.ref f] I1.kIn (by rw [List.append_nil]; exact hl)
  rw [List.append_nil] at bt
  exact wpAny_call (ends_of hx I1 (go X.A X.stack s' H1 ⟨[.ref f], []⟩ [.ref f] f G [] Q E r rfl hr I1.env0 bt (.cons rfl .nil) LO sp))
theorem passM {A : Around} {outer : List Env} {s : Shared} {H : Hp} {E : XK} {scope : Scope} {f c' : Addr} : Passes (L2.CX (LamX.lamCx X A outer s H E scope f c').prog (LamX.lamCx X A outer s H E scope f c').w) (LamX.lamCx X A outer s H E scope f c') E := passes_call (takes_of rfl rfl rfl rfl) fun _ _ _ _ h => h
theorem x_lamC {g : R D → List D → R D} {x : Str} {ps : List Str} {c P : Addr} {k kl : Nat} {params : Arguments} {body : Expr} {scope : Scope} {m : M D} {p lpos pos : Pos} (t : XK → TE)
    (TF : ∀ (f : Addr) (B G : Hp), FactL X.prog X.w X.K X.mg X.base (cl.with f B G) x k (kl + 1) ps g 0) (hx : Passes (L2.CX X.prog X.w) X E) (hr : RoomG k X.A) (hn : cl.fn = none)
    (TB : LamX.TabB X.base X.mg c P) (hcode : X.env.code = .ref c) (hm : (P, X.env.qual ++ "<lambda>") ∈ cl.ts) (hu : ∀ p ∈ cl.ts, p.1 = P → p.2 = X.env.qual ++ "<lambda>") (L : LamX.LamS X.env.scope scope)
    (hbody : ∀ (A : Around) (outer : List Env) (s : Shared) (H : Hp) (E : XK) (f c' : Addr), RoomG kl (A.deeper (LamX.lamEnv X scope s.heap.objs.size f c')) → XE (LamX.lamCx X A outer s H E scope f c') cl E body (t E) m)
    (hk : kl + 1 ≤ k)
    (hdef : defaultsOf params X.env = ([], []) := by rfl) (hbind : ∀ (q : Str) (cs : List (Str × Addr)) (pm cv ctv : Value), bindArgs (PySem.W.kla_fn "<lambda>" q params body scope cs pm cv ctv) ⟨[], []⟩ = pure [] := by intro _ _ _ _ _; rfl) (hg : Gl X x := by rfl)
    (hdb : (x == ("__debug__" : Str)) = false := by decide) : XE X cl E (.Call (.Name x p) [.Lambda params body scope lpos] [] pos) (tLamC X.K cl E g (X.env.qual ++ "<lambda>") t) (mLamC g m) :=
  ⟨pe_lamC TF hx hr hg TB hcode hm hu L hdef hbind (fun A outer s H E f c' hr => (hbody A outer s H E f c' hr).p) hdb, sim_lamC hn fun E => (hbody X.A X.stack X.s_0 X.H_0 E 0 0 ((hr.mono hk).deeper _)).s⟩
end
section
variable {P : Program} {w : World} {K : PySem.W.Frag} {mg : Str → Option Value} {base : Heap} {cl : CL}
theorem fn_okC {x : Str} {st : Stmt} {f c : Addr} {fd : FuncData} {N ps : List Str} {k : Nat} {m : M Out} (Fn : L2.Fun K x x st f fd) (hc : fd.code = .ref c) (S : FnScope N ps (defScope st))
    (hb : ∀ (A : Around) (outer : List Env) (s : Shared) (H : Hp) (E : XK), RoomG k (A.deeper (envOfC x (defScope st) s.heap.objs.size f (.ref c))) →
      ∃ t, XB (cxOf (L2.CX P w) P w K mg base N x (defScope st) f (.ref c) A outer s H E) cl E (defBody st) t m) : FnG P w K mg base (L2.CX P w) (k + 1) f fd ps (spM K cl (fnM N.length m) ps.length) := by
  have hpl : ps.length ≤ N.length := by have := congrArg List.length S.pre; rw [List.length_take] at this; omega
  obtain ⟨_, _, _, _, _, _, cd, _, _, e, lk, hcd⟩ := Fn.ex
  subst e
  have hc : cd = .ref c := hc
  subst hc
  refine fn_ofG lk hcd S (fun vs H Q E h => ?_) fun A outer s H vs Q E hr h => ?_
  · obtain ⟨ds, B, hl, _, a, _⟩ := h
    rw [a.len, hl]
  · obtain ⟨ds, B, hl, sB, a, h⟩ := h
    obtain ⟨t, X⟩ := hb A outer s H E hr
    refine ⟨t, X.p, X.s _ (noT H) B H _ _ _ (rel_start sB a (by omega)) ?_⟩
    unfold fnM at h
    cases q : m (ds.map Sl.dat ++ List.replicate (N.length - ds.length) .un) with
    | ok pr =>
      obtain ⟨o, es⟩ := pr
      rw [q] at h
      cases o with
      | nx => exact fun B' H' s f σ' r' => h .non B' H' s f r'.fh r'.bas .non
      | rt d => exact fun B' H' s f v σ' r' av => h v B' H' s f r'.fh r'.bas av
      | bk => exact h.elim
      | ct => exact h.elim
    | exc c d => rw [q] at h; exact h
    | bad => rw [q] at h; exact h.elim
end
theorem ts_mem {ts : List (Addr × Str)} {P : Addr} {q : Str} (h : ts = [(P, q)]) : (P, q) ∈ ts := by rw [h]; exact List.mem_singleton.mpr rfl
theorem ts_uni {ts : List (Addr × Str)} {P : Addr} {q : Str} (h : ts = [(P, q)]) : ∀ p ∈ ts, p.1 = P → p.2 = q := fun p hp _ => by rw [h] at hp; cases List.mem_singleton.mp hp; rfl
theorem FnG.imp {P : Program} {w : World} {K : PySem.W.Frag} {mg : Str → Option Value} {base : Heap} {CX : CXT} {k : Nat} {f : Addr} {fd : FuncData} {ps : List Str} {sp sp' : Sp} (F : FnG P w K mg base CX k f fd ps sp) (h : ∀ vs H Q E, sp' vs H Q E → sp vs H Q E) : FnG P w K mg base CX k f fd ps sp' :=
  ⟨fun vs H Q E q => F.len _ _ _ _ (h _ _ _ _ q), fun A o s H a us vs Q E hr e0 b v q => F.go A o s H a us vs Q E hr e0 b v (h _ _ _ _ q)⟩
section
variable {X : Cx} {cl : CL} {E : XK} {e : Expr} {te : TE} {me : M D} {pos : Pos}
theorem xt_truK (K : PySem.W.Frag) (ha : XE X cl E e te me) (hK : X.K = K := by rfl) (he : ∀ whole, isTrue e X.env whole = (do let v ← whole; standAt e.pos; holding [v] (truthy v)) := by intro _; rfl) :
    XT X cl E e (fun σ H Q => te σ H fun x H' => ∃ k, TruV K x H' k ∧ Q k H') (mTru me) := by
  subst hK
  exact xt_tru ha he
theorem x_isaK (K : PySem.W.Frag) {x : Str} {p p2 : Pos} (T : Ty) (ha : XE X cl E e te me) (mi : X.mg "isinstance" = none) (mt : X.mg x = none) (hv : bootBuiltins x = some (.type T.nm)) (hK : X.K = K := by rfl) (hg : Gl X "isinstance" := by rfl) (hgx : Gl X x := by rfl) (hn : x ≠ "__name__" := by decide) (hdb : (x == ("__debug__" : Str)) = false := by decide)
    (h1 : starEach [e, .Name x p2] X.env = (false, eval e X.env) :: starEach [.Name x p2] X.env := by rfl) (h2 : starEach [.Name x p2] X.env = (false, eval (.Name x p2) X.env) :: starEach [] X.env := by rfl) (hpl : (backTo pos (starEach [.Name x p2] X.env)).any (·.1) = false := by rfl) :
    XE X cl E (.Call (.Name "isinstance" p) [e, .Name x p2] [] pos) (tCB (rIsi K) (tCons te (tCons (tC (.ty T.nm)) tNil))) (mIsa T me) := by
  subst hK
  exact x_isa T ha mi mt hv hg hgx hn hdb h1 h2 hpl
end
section
variable {X : Cx} {cl : CL} {E : XK} {K : PySem.W.Frag}
def mDc0 : M D := Mi.ret .dc0
theorem sim_dc0 : SimE K cl E tDNewK mDc0 := fun zA F B H es σ Q r h p n => by
  have r1 := r.news (o := .dK []) n
  exact h (upd B p (.dK [])) (upd H p (.dK [])) r1.2.1 r1.2.2 (.ref p) r1.1 (.dc0 upd_same)
theorem x_dc0 {pos : Pos} : XE X cl E (.Dict [] [] pos) tDNewK mDc0 := ⟨pe_dnewK, sim_dc0⟩
def dMulS : D → D → Option D
  | .str x, .int n => okB (decide (2 ≤ n ∧ n < 2 ^ 40 ∧ 1 ≤ x.length ∧ (x.length : Int) * n ≤ 1000000)) (.str (Txt.mul x n))
  | _, _ => none
def rMulS : R2 := fun x y H Q => ∃ (a : Str) (n : Int), x = .str a ∧ y = .int n ∧ MulOk a n ∧ Q (.str (Txt.mul a n)) H
theorem op_mulS : OpR X (binaryOp .Mult) rMulS := by
  intro pins s σ H x y v u Q I rx ry q
  obtain ⟨a, n, rfl, rfl, hm, q⟩ := q
  obtain ⟨t, rfl⟩ := rx
  obtain ⟨t2, rfl⟩ := ry
  exact SB.mul hm fun t' k => ⟨.str _, H, I.tok _, ⟨_, rfl⟩, q⟩
theorem sim_mulS : SimR2 K cl rMulS dMulS := by
  intro zA F B H es σ x y dx dy d Q r ax ay hd q
  cases ax with
  | str a =>
    cases ay with
    | int n =>
      obtain ⟨hz, rfl⟩ := okB_ok hd
      obtain ⟨h1, h2, h3, h4⟩ := of_decide_eq_true hz
      refine ⟨a, n, rfl, rfl, ⟨by rw [decide_eq_false (by omega), decide_eq_false (by omega)]; rfl, fun _ _ h => ?_, fun _ _ => ?_⟩, q.here r (.str _)⟩
      · have := Int.le_ediv_of_mul_le (show (0 : Int) < n by omega) (show (a.length : Int) * n ≤ 2 ^ 63 - 1 by omega)
        omega
      · unfold Builtin.Str.tooLong
        refine decide_eq_false fun h => ?_
        have e : ((a.length * n.toNat : Nat) : Int) = (a.length : Int) * n := by rw [Int.natCast_mul, Int.toNat_of_nonneg (by omega)]
        have := PySem.sizeLine_eq
        omega
    | _ => simp [dMulS] at hd
  | _ => simp [dMulS] at hd
end
end Mi
namespace G
open PySem PySem.Spec PyProof.Rows L2 Mi
def m__law_pool : M (List D) := (mSeqF (mAsg (bName 2) (mC (.int 0)))
    (mSeqF (mIf (mTst (mBin dLt (mVar 1) (mCB dLen (mCons (mVar 0) mNil)))) (mAsg (bName 2) (mBin dIx (mVar 0) (mVar 1))) mNext)
    (mSeqF (mAsg (bName 3) (mBin dMod (mBin dMul (mBin dAdd (mBin dAdd (mBin dMod (mVar 2) (mC (.int 2147483629))) (mBin dMul (mBin dMul (mC (.int 7919)) (mVar 1)) (mVar 1))) (mC (.int 13))) (mC (.int 48271))) (mC (.int 2147483647))))
    (mSeqF (mIf (mTst (mBin dLt (mVar 2) (mBin dPow (mC (.int 10)) (mC (.int 18))))) (mAsg (bName 2) (mC (.int 0))) mNext)
    (mRetF (mCons (mVar 2) (mCons (mBin dAdd (mBin dMod (mBin dMul (mVar 3) (mVar 3)) (mC (.int 2147483587))) (mC (.int 1))) mNil)))))))
def g__law_pool : List D → R (List D) := fnF 4 m__law_pool
def m__law_take : M Out := (mSeq (mIf (mTst (mBin dGt (mIxO 0 (mC (.int 0))) (mC (.int 0)))) (mSeq (mAsg (bName 2) (mBin dMod (mIxO 0 (mC (.int 0))) (mVar 1)))
    (mSeq (mSetO 0 (mC (.int 0)) (mBin dDiv (mIxO 0 (mC (.int 0))) (mVar 1)))
    (mRet (mVar 2)))) mNext)
    (mSeq (mSetO 0 (mC (.int 1)) (mBin dMod (mBin dAdd (mBin dMul (mIxO 0 (mC (.int 1))) (mC (.int 48271))) (mC (.int 11))) (mC (.int 2147483647))))
    (mRet (mBin dMod (mBin dDiv (mBin dMod (mBin dMul (mIxO 0 (mC (.int 1))) (mIxO 0 (mC (.int 1)))) (mC (.int 2147483629))) (mC (.int 64))) (mVar 1)))))
def g__law_take : List D → List D → R (D × List D) := fnO 3 m__law_take
def m__law_number : M Out := (mSeq (mAsg (bName 1) (mLst (mCons (mCallO 0 1 g__law_take (mCons (mC (.int 12)) mNil)) (mCons (mBin dSub (mBin dPow (mC (.int 10)) (mC (.int 30))) (mCallO 0 1 g__law_take (mCons (mC (.int 3)) mNil))) (mCons (mCallO 0 1 g__law_take (mCons (mBin dPow (mC (.int 10)) (mC (.int 20))) mNil)) (mCons (mC (.int 1)) (mCons (mC (.int 0)) mNil)))))))
    (mRet (mBin dIx (mVar 1) (mCallO 0 1 g__law_take (mCons (mC (.int 5)) mNil)))))
def g__law_number : List D → List D → R (D × List D) := fnO 2 m__law_number
def m_is_integer : M Out := (mRet (mAnd (mIsa .int (mVar 0)) (mNot (mIsa .bool (mVar 0)))))
def g_is_integer : List D → R D := fnM 1 m_is_integer
def m_is_between : M Out := (mRet (mAnd (mCall 1 g_is_integer (mCons (mVar 0) mNil)) (mChn dLe dLe (mVar 1) (mVar 0) (mVar 2))))
def g_is_between : List D → R D := fnM 3 m_is_between
def m_is_count : M Out := (mSeq (mIf (mOrT (mNotT (mTru (mIsa .tuple (mVar 0)))) (mOrT (mTst (mBin dNe (mCB dLen (mCons (mVar 0) mNil)) (mC (.int 2)))) (mNotT (mTru (mCall 3 g_is_between (mCons (mBin dIx (mVar 0) (mC (.int 0))) (mCons (mC (.int 0)) (mCons (mC (.int 9)) mNil)))))))) (mRet (mC (.bl false))) mNext)
    (mRet (mCall 3 g_is_between (mCons (mBin dIx (mVar 0) (mC (.int 1))) (mCons (mIfE (mTst (mBin dEq (mBin dIx (mVar 0) (mC (.int 0))) (mC (.int 0)))) (mC (.int 0)) (mUn dNeg (mC (.int 1000000000000000000000000000000)))) (mCons (mC (.int 1000000000000000000000000000000)) mNil))))))
def g_is_count : List D → R D := fnM 1 m_is_count
def m__law_due : M Out := (mSeq (mIf (mOrT (mNotT (mTru (mIsa .tuple (mVar 0)))) (mTst (mBin dNe (mCB dLen (mCons (mVar 0) mNil)) (mC (.int 2))))) (mRet (mC (.bl false))) mNext)
    (mSeq (mIf (mTst (mBin dNe (mComp [1] (mIT (mVar 0)) (bName 1) (mOrT (mNotT (mTru (mIsa .int (mVar 1)))) (mTru (mIsa .bool (mVar 1)))) (mC (.int 1))) (mLst mNil))) (mRet (mC (.bl false))) mNext)
    (mSeq (mIf (mOrT (mNotT (mTst (mChn dLe dLe (mC (.int 0)) (mBin dIx (mVar 0) (mC (.int 0))) (mC (.int 9))))) (mTst (mBin dGt (mCB dAbs (mCons (mBin dIx (mVar 0) (mC (.int 1))) mNil)) (mBin dPow (mC (.int 10)) (mC (.int 30)))))) (mRet (mC (.bl false))) mNext)
    (mRet (mOr (mBin dGt (mBin dIx (mVar 0) (mC (.int 0))) (mC (.int 0))) (mBin dGe (mBin dIx (mVar 0) (mC (.int 1))) (mC (.int 0))))))))
def g__law_due : List D → R D := fnM 2 m__law_due
def m_check_count : M Out := (mIf (mNotT (mTru (mCall 1 g_is_count (mCons (mVar 0) mNil)))) (mRaise 1 (mVar 0)) mNext)
def g_check_count : List D → R D := fnM 1 m_check_count
def m_format_count : M Out := (mSeq (mDrop (mCall 1 g_check_count (mCons (mVar 0) mNil)))
    (mSeq (mAsg (bTup [1, 2]) (mVar 0))
    (mSeq (mIf (mTst (mBin dEq (mVar 1) (mC (.int 0)))) (mRet (mCB dStr (mCons (mVar 2) mNil))) mNext)
    (mSeq (mAsg (bName 3) (mIfE (mTst (mBin dEq (mVar 1) (mC (.int 1)))) (mC (.str "n")) (mFs [(mFmt (mVar 1)), (mC (.str "n"))])))
    (mRet (mIfE (mTst (mBin dEq (mVar 2) (mC (.int 0)))) (mVar 3) (mFs [(mFmt (mVar 3)), (mUn fmtP (mVar 2))])))))))
def g_format_count : List D → R D := fnM 4 m_format_count
def m__law_refused (r : R D) : M Out := (mSeq (mAsg (bName 1) (mC .non))
    (mSeq (mTryL 2 1 0 r [(1, fun dv => (mAsg (bName 1) (mLst (mCons (mC (.str "count")) (mCons (mCB dShow1 (mCons (mC dv) mNil)) (mCons (mC (.bl true)) mNil)))))), (2, fun dv => (mAsg (bName 1) (mLst (mCons (mC (.str "number")) (mCons (mCB dShow1 (mCons (mC dv) mNil)) mNil))))), (0, fun dv => (mAsg (bName 1) (mLst (mCons (mC (.str "text")) (mCons (mCB dShow1 (mCons (mC dv) mNil)) mNil)))))])
    (mRet (mVar 1))))
def g__law_refused : R D → List D → R D := fnL 3 m__law_refused
def m_check_number : M Out := (mIf (mNotT (mTru (mCall 3 g_is_between (mCons (mVar 0) (mCons (mC (.int 0)) (mCons (mC (.int 1000000000000000000000000000000)) mNil)))))) (mRaise 2 (mVar 0)) mNext)
def g_check_number : List D → R D := fnM 1 m_check_number
def m_rounds_at : M Out := (mRet (mCB dMax (mCons (mC (.int 0)) (mCons (mBin dAdd (mBin dMul (mBin dIx (mVar 0) (mC (.int 0))) (mVar 1)) (mBin dIx (mVar 0) (mC (.int 1)))) mNil))))
def g_rounds_at : List D → R D := fnM 2 m_rounds_at
def m_rounds : M Out := (mSeq (mDrop (mCall 1 g_check_count (mCons (mVar 0) mNil)))
    (mSeq (mDrop (mCall 1 g_check_number (mCons (mVar 1) mNil)))
    (mRet (mCall 2 g_rounds_at (mCons (mVar 0) (mCons (mVar 1) mNil))))))
def g_rounds : List D → R D := fnM 2 m_rounds
def m__law_text : M Out := (mSeq (mIf (mTst (mBin dEq (mBin dIx (mVar 0) (mC (.int 0))) (mC (.int 0)))) (mRet (mCB dStr (mCons (mBin dIx (mVar 0) (mC (.int 1))) mNil))) mNext)
    (mSeq (mAsg (bName 1) (mBin dAdd (mBin dIx (mLst (mCons (mC (.str "")) (mCons (mCB dStr (mCons (mBin dIx (mVar 0) (mC (.int 0))) mNil)) mNil))) (mCB dInt (mCons (mBin dGt (mBin dIx (mVar 0) (mC (.int 0))) (mC (.int 1))) mNil))) (mC (.str "n"))))
    (mSeq (mIf (mTst (mBin dEq (mBin dIx (mVar 0) (mC (.int 1))) (mC (.int 0)))) (mRet (mVar 1)) mNext)
    (mRet (mBin dAdd (mBin dAdd (mVar 1) (mBin dIx (mLst (mCons (mC (.str "-")) (mCons (mC (.str "+")) mNil))) (mCB dInt (mCons (mBin dGt (mBin dIx (mVar 0) (mC (.int 1))) (mC (.int 0))) mNil)))) (mCB dStr (mCons (mCB dAbs (mCons (mBin dIx (mVar 0) (mC (.int 1))) mNil)) mNil)))))))
def g__law_text : List D → R D := fnM 2 m__law_text
def m__law_bent : M Out := (mSeq (mPar [2, 3] (mCons (mCallO 0 1 g__law_take (mCons (mBin dAdd (mCB dLen (mCons (mVar 1) mNil)) (mC (.int 1))) mNil)) (mCons (mBin dIx (mC (.str "n0+-91 x2")) (mCallO 0 1 g__law_take (mCons (mC (.int 9)) mNil))) mNil)))
    (mRet (mLst (mCons (mBin dAdd (mBin dAdd (mSl dSl (mVar 1) mNo (mPart (mVar 2))) (mVar 3)) (mSl dSl (mVar 1) (mPart (mVar 2)) mNo)) (mCons (mBin dAdd (mSl dSl (mVar 1) mNo (mPart (mVar 2))) (mSl dSl (mVar 1) (mPart (mBin dAdd (mVar 2) (mC (.int 1)))) mNo)) (mCons (mBin dAdd (mBin dAdd (mSl dSl (mVar 1) mNo (mPart (mVar 2))) (mVar 3)) (mSl dSl (mVar 1) (mPart (mBin dAdd (mVar 2) (mC (.int 1)))) mNo)) mNil))))))
def g__law_bent : List D → List D → R (D × List D) := fnO 4 m__law_bent
def m__law_is_number : M Out := (mSeq (mIf (mOrT (mTst (mBin dEq (mVar 0) (mC (.str "")))) (mOrT (mTst (mBin dGt (mCB dLen (mCons (mVar 0) mNil)) (mC (.int 31)))) (mTst (mBin dNe (mComp [1] (mIS (mVar 0)) (bName 1) (mTst (mBin dNin (mVar 1) (mC (.str "0123456789")))) (mVar 1)) (mLst mNil))))) (mRet (mC (.bl false))) mNext)
    (mRet (mAnd (mOr (mBin dEq (mVar 0) (mC (.str "0"))) (mBin dNe (mBin dIx (mVar 0) (mC (.int 0))) (mC (.str "0")))) (mBin dLe (mCB dInt (mCons (mVar 0) mNil)) (mBin dPow (mC (.int 10)) (mC (.int 30)))))))
def g__law_is_number : List D → R D := fnM 2 m__law_is_number
def m__law_value : M Out := (mSeq (mAsg (bTup [1, 2, 3]) (mM1 dPart (mVar 0) (mC (.str "n"))))
    (mSeq (mIf (mTst (mBin dEq (mVar 2) (mC (.str "")))) (mRet (mIfE (mTru (mCall 1 g__law_is_number (mCons (mVar 1) mNil))) (mTup (mCons (mC (.int 0)) (mCons (mCB dInt (mCons (mVar 1) mNil)) mNil))) (mC .non))) mNext)
    (mSeq (mIf (mAndT (mTst (mBin dNe (mVar 1) (mC (.str "")))) (mOrT (mNotT (mTru (mCall 1 g__law_is_number (mCons (mVar 1) mNil)))) (mNotT (mTst (mChn dLe dLe (mC (.int 2)) (mCB dInt (mCons (mVar 1) mNil)) (mC (.int 9))))))) (mRet (mC .non)) mNext)
    (mSeq (mIf (mTst (mBin dEq (mVar 3) (mC (.str "")))) (mRet (mTup (mCons (mIfE (mTst (mBin dEq (mVar 1) (mC (.str "")))) (mC (.int 1)) (mCB dInt (mCons (mVar 1) mNil))) (mCons (mC (.int 0)) mNil)))) mNext)
    (mSeq (mIf (mOrT (mTst (mBin dNin (mBin dIx (mVar 3) (mC (.int 0))) (mC (.str "+-")))) (mOrT (mNotT (mTru (mCall 1 g__law_is_number (mCons (mSl dSl (mVar 3) (mPart (mC (.int 1))) mNo) mNil)))) (mTst (mBin dEq (mCB dInt (mCons (mSl dSl (mVar 3) (mPart (mC (.int 1))) mNo) mNil)) (mC (.int 0)))))) (mRet (mC .non)) mNext)
    (mRet (mTup (mCons (mIfE (mTst (mBin dEq (mVar 1) (mC (.str "")))) (mC (.int 1)) (mCB dInt (mCons (mVar 1) mNil))) (mCons (mBin dMul (mCB dInt (mCons (mSl dSl (mVar 3) (mPart (mC (.int 1))) mNo) mNil)) (mIfE (mTst (mBin dEq (mBin dIx (mVar 3) (mC (.int 0))) (mC (.str "+")))) (mC (.int 1)) (mUn dNeg (mC (.int 1))))) mNil)))))))))
def g__law_value : List D → R D := fnM 4 m__law_value
def m_number_in : M Out := (mSeq (mIf (mOrT (mNotT (mTru (mIsa .str (mVar 0)))) (mOrT (mNotT (mTst (mChn dLe dLe (mC (.int 1)) (mCB dLen (mCons (mVar 0) mNil)) (mC (.int 31))))) (mNotT (mTru (mCB dAll (mCons (mComp [1] (mIS (mVar 0)) (bName 1) mYes (mBin dIn (mVar 1) (mC (.str "0123456789")))) mNil)))))) (mRet (mC .non)) mNext)
    (mRet (mIfE (mOrT (mTst (mBin dEq (mVar 0) (mC (.str "0")))) (mTst (mBin dNe (mBin dIx (mVar 0) (mC (.int 0))) (mC (.str "0"))))) (mCB dInt (mCons (mVar 0) mNil)) (mC .non))))
def g_number_in : List D → R D := fnM 2 m_number_in
def m_count_in : M Out := (mSeq (mAsg (bTup [1, 2, 3]) (mM1 dPart (mVar 0) (mC (.str "n"))))
    (mSeq (mIf (mTst (mBin dEq (mVar 2) (mC (.str "")))) (mSeq (mAsg (bName 4) (mCall 1 g_number_in (mCons (mVar 1) mNil)))
    (mRet (mIfE (mOrT (mTst (mBin dIs (mVar 4) (mC .non))) (mTst (mBin dGt (mVar 4) (mC (.int 1000000000000000000000000000000))))) (mC .non) (mTup (mCons (mC (.int 0)) (mCons (mVar 4) mNil)))))) mNext)
    (mSeq (mAsg (bName 5) (mIfE (mTst (mBin dEq (mVar 1) (mC (.str "")))) (mC (.int 1)) (mCall 1 g_number_in (mCons (mVar 1) mNil))))
    (mSeq (mIf (mOrT (mTst (mBin dIs (mVar 5) (mC .non))) (mOrT (mNotT (mTst (mChn dLe dLe (mC (.int 1)) (mVar 5) (mC (.int 9))))) (mTst (mBin dEq (mVar 1) (mC (.str "1")))))) (mRet (mC .non)) mNext)
    (mSeq (mIf (mTst (mBin dEq (mVar 3) (mC (.str "")))) (mRet (mTup (mCons (mVar 5) (mCons (mC (.int 0)) mNil)))) mNext)
    (mSeq (mAsg (bName 4) (mCall 1 g_number_in (mCons (mSl dSl (mVar 3) (mPart (mC (.int 1))) mNo) mNil)))
    (mSeq (mIf (mOrT (mTst (mBin dNin (mBin dIx (mVar 3) (mC (.int 0))) (mC (.str "+-")))) (mOrT (mTst (mBin dIs (mVar 4) (mC .non))) (mNotT (mTst (mChn dLe dLe (mC (.int 1)) (mVar 4) (mC (.int 1000000000000000000000000000000))))))) (mRet (mC .non)) mNext)
    (mRet (mTup (mCons (mVar 5) (mCons (mIfE (mTst (mBin dEq (mBin dIx (mVar 3) (mC (.int 0))) (mC (.str "+")))) (mVar 4) (mUn dNeg (mVar 4))) mNil)))))))))))
def g_count_in : List D → R D := fnM 6 m_count_in
def m_parse_count : M Out := (mSeq (mAsg (bName 1) (mIfE (mTru (mIsa .str (mVar 0))) (mCall 1 g_count_in (mCons (mVar 0) mNil)) (mC .non)))
    (mSeq (mIf (mTst (mBin dIs (mVar 1) (mC .non))) (mRaise 0 (mVar 0)) mNext)
    (mRet (mVar 1))))
def g_parse_count : List D → R D := fnM 2 m_parse_count
def m_law : M Out := (mSeq (mAsg (bName 1) (mLst (mCons (mC .non) (mCons (mC (.int 5)) (mCons (mC (.str "n")) (mCons (mC (.str "7")) (mCons (mTup mNil) (mCons (mTup (mCons (mC (.int 1)) mNil)) (mCons (mTup (mCons (mC (.int 1)) (mCons (mC (.int 2)) (mCons (mC (.int 3)) mNil)))) (mCons (mLst (mCons (mC (.int 1)) (mCons (mC (.int 2)) mNil))) (mCons (mTup (mCons (mC (.bl true)) (mCons (mC (.int 0)) mNil))) (mCons (mTup (mCons (mC (.int 1)) (mCons (mC (.bl true)) mNil))) (mCons (mTup (mCons (mC (.int 10)) (mCons (mC (.int 0)) mNil))) (mCons (mTup (mCons (mUn dNeg (mC (.int 1))) (mCons (mC (.int 5)) mNil))) (mCons (mTup (mCons (mC (.int 0)) (mCons (mUn dNeg (mC (.int 1))) mNil))) (mCons (mTup (mCons (mC (.int 9)) (mCons (mUn dNeg (mC (.int 1))) mNil))) mNil))))))))))))))))
    (mSeq (mAsg (bName 1) (mBin dAdd (mVar 1) (mLst (mCons (mTup (mCons (mC (.int 1)) (mCons (mBin dAdd (mBin dPow (mC (.int 10)) (mC (.int 30))) (mC (.int 1))) mNil))) (mCons (mTup (mCons (mC (.int 1)) (mCons (mBin dSub (mUn dNeg (mBin dPow (mC (.int 10)) (mC (.int 30)))) (mC (.int 1))) mNil))) (mCons (mTup (mCons (mC (.int 0)) (mCons (mBin dPow (mC (.int 10)) (mC (.int 30))) mNil))) (mCons (mTup (mCons (mC (.str "1")) (mCons (mC (.int 2)) mNil))) (mCons mDc0 (mCons (mTup (mCons (mC (.int 0)) (mCons (mC (.int 0)) mNil))) (mCons (mTup (mCons (mC (.int 9)) (mCons (mUn dNeg (mBin dPow (mC (.int 10)) (mC (.int 30)))) mNil))) mNil))))))))))
    (mSeq (mAsg (bName 2) (mLst (mCons (mC (.str "")) (mCons (mC (.str "n")) (mCons (mC (.str "0")) (mCons (mC (.str "00")) (mCons (mC (.str "1n")) (mCons (mC (.str "0n")) (mCons (mC (.str "n+0")) (mCons (mC (.str "n-0")) (mCons (mC (.str "+3")) (mCons (mC (.str "-3")) (mCons (mC (.str "10n")) (mCons (mC (.str "2n+")) (mCons (mC (.str "nn")) (mCons (mC (.str "n + 1")) (mCons (mC (.str "9n-1")) (mCons (mC (.str "3N")) (mCons (mC (.str "2n1")) mNil)))))))))))))))))))
    (mSeq (mFor (mRg1 (mCons (mCB dMax (mCons (mC (.int 1)) (mCons (mCB dMin (mCons (mCB dLen (mCons (mVar 0) mNil)) (mCons (mC (.int 8)) mNil))) mNil))) mNil)) (bName 3) (mSeq (mAsgF 4 2 g__law_pool (mCons (mVar 0) (mCons (mVar 3) mNil)))
    (mSeq (mPar [5, 6] (mCons (mCallO 4 1 g__law_take (mCons (mC (.int 10)) mNil)) (mCons (mBin dMul (mBin dIx (mLst (mCons (mC (.int 1)) (mCons (mUn dNeg (mC (.int 1))) mNil))) (mCallO 4 1 g__law_take (mCons (mC (.int 2)) mNil))) (mCallO 4 0 g__law_number mNil)) mNil)))
    (mSeq (mAsg (bTup [7, 8]) (mTup (mCons (mTup (mCons (mVar 5) (mCons (mIfE (mTst (mBin dGt (mVar 5) (mC (.int 0)))) (mVar 6) (mCB dAbs (mCons (mVar 6) mNil))) mNil))) (mCons (mCallO 4 0 g__law_number mNil) mNil))))
    (mSeq (mFor (mIL (mBin dAdd (mVar 1) (mLst (mCons (mVar 7) (mCons (mTup (mCons (mBin dIx (mVar 7) (mC (.int 0))) (mCons (mBin dIx (mVar 7) (mC (.int 1))) (mCons (mC (.int 0)) mNil)))) (mCons (mCB dList (mCons (mVar 7) mNil)) mNil)))))) (bName 9) (mSeq (mIf (mOrT (mTst (mBin dNe (mCall 1 g_is_count (mCons (mVar 9) mNil)) (mCall 1 g__law_due (mCons (mVar 9) mNil)))) (mNotT (mTru (mIsa .bool (mCall 1 g_is_count (mCons (mVar 9) mNil)))))) (mRet (mC (.bl false))) mNext)
    (mIf (mNotT (mTru (mCall 1 g__law_due (mCons (mVar 9) mNil)))) (mSeq (mIf (mTst (mBin dNe (mLamC g__law_refused (mCall 1 g_format_count (mCons (mVar 9) mNil))) (mLst (mCons (mC (.str "count")) (mCons (mCB dShow1 (mCons (mVar 9) mNil)) (mCons (mC (.bl true)) mNil)))))) (mRet (mC (.bl false))) mNext)
    (mIf (mTst (mBin dNe (mLamC g__law_refused (mCall 2 g_rounds (mCons (mVar 9) (mCons (mVar 8) mNil)))) (mLst (mCons (mC (.str "count")) (mCons (mCB dShow1 (mCons (mVar 9) mNil)) (mCons (mC (.bl true)) mNil)))))) (mRet (mC (.bl false))) mNext)) mNext)))
    (mSeq (mIf (mOrT (mTst (mBin dNe (mCall 2 g_rounds (mCons (mVar 7) (mCons (mVar 8) mNil))) (mCB dMax (mCons (mC (.int 0)) (mCons (mBin dAdd (mBin dMul (mBin dIx (mVar 7) (mC (.int 0))) (mVar 8)) (mBin dIx (mVar 7) (mC (.int 1)))) mNil))))) (mTst (mBin dNe (mCall 1 g_format_count (mCons (mVar 7) mNil)) (mCall 1 g__law_text (mCons (mVar 7) mNil))))) (mRet (mC (.bl false))) mNext)
    (mSeq (mFor (mIL (mBin dAdd (mBin dAdd (mLst (mCons (mCall 1 g__law_text (mCons (mVar 7) mNil)) mNil)) (mCallO 4 1 g__law_bent (mCons (mCall 1 g__law_text (mCons (mVar 7) mNil)) mNil))) (mVar 2))) (bName 10) (mSeq (mAsg (bName 11) (mCall 1 g__law_value (mCons (mVar 10) mNil)))
    (mIf (mTst (mBin dNe (mLamC g__law_refused (mCall 1 g_parse_count (mCons (mVar 10) mNil))) (mIfE (mTst (mBin dIsn (mVar 11) (mC .non))) (mVar 11) (mLst (mCons (mC (.str "text")) (mCons (mCB dShow1 (mCons (mVar 10) mNil)) mNil)))))) (mRet (mC (.bl false))) mNext)))
    (mSeq (mFor (mIL (mLst (mCons (mC .non) (mCons (mC (.int 5)) (mCons (mLst (mCons (mC (.str "n")) mNil)) (mCons (mTup (mCons (mC (.int 1)) (mCons (mC (.int 0)) mNil))) (mCons (mBin dMulS (mC (.str "9")) (mC (.int 4000))) mNil))))))) (bName 9) (mIf (mTst (mBin dNe (mLamC g__law_refused (mCall 1 g_parse_count (mCons (mVar 9) mNil))) (mLst (mCons (mC (.str "text")) (mCons (mCB dShow1 (mCons (mVar 9) mNil)) mNil))))) (mRet (mC (.bl false))) mNext))
    (mFor (mIL (mLst (mCons (mC .non) (mCons (mUn dNeg (mC (.int 1))) (mCons (mBin dAdd (mBin dPow (mC (.int 10)) (mC (.int 30))) (mC (.int 1))) (mCons (mC (.bl true)) (mCons (mC (.str "5")) (mCons (mLst (mCons (mC (.int 5)) mNil)) mNil)))))))) (bName 9) (mIf (mTst (mBin dNe (mLamC g__law_refused (mCall 2 g_rounds (mCons (mVar 7) (mCons (mVar 9) mNil)))) (mLst (mCons (mC (.str "number")) (mCons (mCB dShow1 (mCons (mVar 9) mNil)) mNil))))) (mRet (mC (.bl false))) mNext))))))))))
    (mRet (mC (.bl true)))))))
def g_law : List D → R D := fnM 12 m_law
end G
namespace G
open PySem PySem.Spec PyProof.Rows L2 Mi
theorem sl (k : Nat) (h : k ≤ 16777216) : k ≤ sizeLine := by rw [size_eq]; exact h
theorem opt_ok {α : Type} (a : α) (es : En) : Mi.opt (some a) es = .ok (a, es) := rfl
theorem e_int_i (i : Int) : g_is_integer [.int i] = .ok (.bl true) := rfl
theorem e_int_n : g_is_integer [.non] = .ok (.bl false) := rfl
theorem e_int_s (s : Str) : g_is_integer [.str s] = .ok (.bl false) := rfl
theorem e_btw (v a b : Int) : g_is_between [.int v, .int a, .int b] = .ok (.bl (decide (a ≤ v) && decide (v ≤ b))) := by
  by_cases h : a ≤ v
  · simp [g_is_between, fnM, m_is_between, ends, mRet, mAnd, mCall, mChn, Mi.bnd, mCons, mNil, Mi.ret, mVar, Mi.lft, e_int_i, Mi.opt, isBl, dLe, h]
  · simp [g_is_between, fnM, m_is_between, ends, mRet, mAnd, mCall, mChn, Mi.bnd, mCons, mNil, Mi.ret, mVar, Mi.lft, e_int_i, Mi.opt, isBl, dLe, h]
theorem e_btw_n (a b : D) : g_is_between [.non, a, b] = .ok (.bl false) := rfl
mutual
def nice : D → Bool
  | .non => true
  | .bl _ => true
  | .int _ => true
  | .str s => PyData.strOk s
  | .tup l => niceL l
  | .lst l => niceL l
  | _ => false
def niceL : List D → Bool
  | [] => true
  | d :: ds => nice d && niceL ds
end
mutual
def depD : D → Nat
  | .tup l => depL l + 1
  | .lst l => depL l + 1
  | _ => 0
def depL : List D → Nat
  | [] => 0
  | d :: ds => max (depD d) (depL ds)
end
mutual
theorem nice_py : ∀ d : D, nice d = true → ∃ p, toPy d = some p ∧ p.canLay0 = true ∧ p.depth = depD d ∧ p.eqv p = true
  | .non, _ => ⟨.none, rfl, by unfold PyData.canLay0; rfl, by unfold PyData.depth; rfl, by unfold PyData.eqv; rfl⟩
  | .bl b, _ => ⟨.bool b, rfl, by unfold PyData.canLay0; rfl, by unfold PyData.depth; rfl, by unfold PyData.eqv; simp⟩
  | .int i, _ => ⟨.int i, rfl, by unfold PyData.canLay0; rfl, by unfold PyData.depth; rfl, by unfold PyData.eqv; simp⟩
  | .str s, h => ⟨.str s, rfl, by unfold PyData.canLay0; exact h, by unfold PyData.depth; rfl, by unfold PyData.eqv; simp⟩
  | .tup l, h => by
    obtain ⟨ps, h1, h2, h3, h4⟩ := nice_pyL l h
    exact ⟨.tuple ps, by simp only [toPy, h1, Option.map_some], by unfold PyData.canLay0; exact h2, by unfold PyData.depth; rw [h3]; rfl, by unfold PyData.eqv; exact h4⟩
  | .lst l, h => by
    obtain ⟨ps, h1, h2, h3, h4⟩ := nice_pyL l h
    exact ⟨.list ps, by simp only [toPy, h1, Option.map_some], by unfold PyData.canLay0; exact h2, by unfold PyData.depth; rw [h3]; rfl, by unfold PyData.eqv; exact h4⟩
  | .ins .., h => by cases h
  | .dc0, h => by cases h
  | .scr _, h => by cases h
  | .dct .., h => by cases h
theorem nice_pyL : ∀ l : List D, niceL l = true → ∃ ps, toPyL l = some ps ∧ PyData.canLayAll0 ps = true ∧ PyData.depthAll ps = depL l ∧ PyData.eqvAll ps ps = true
  | [], _ => ⟨[], rfl, by unfold PyData.canLayAll0; rfl, by unfold PyData.depthAll; rfl, by unfold PyData.eqvAll; rfl⟩
  | d :: ds, h => by
    have h := (Bool.and_eq_true _ _).mp h
    obtain ⟨p, h1, h2, h3, h4⟩ := nice_py d h.1
    obtain ⟨ps, g1, g2, g3, g4⟩ := nice_pyL ds h.2
    exact ⟨p :: ps, by simp only [toPyL, h1, g1], by unfold PyData.canLayAll0; rw [h2, g2]; rfl, by unfold PyData.depthAll; rw [h3, g3]; rfl, by unfold PyData.eqvAll; rw [h4, g4]; rfl⟩
end
theorem deep_self {d : D} (h : nice d = true) (hd : depD d ≤ 64) : deepB d d = some true := by
  obtain ⟨p, h1, h2, h3, h4⟩ := nice_py d h
  have hs : SeqAt.shaped p = true := by
    unfold SeqAt.shaped
    rw [h2, h3]
    simpa using hd
  simp only [deepB, h1, hs, Bool.and_self, if_pos, h4]
theorem eqB_self {d : D} (h : nice d = true) (hd : depD d ≤ 64) : eqB d d = some true := by
  unfold eqB
  cases e : flat d with
  | none => exact deep_self h hd
  | some x =>
    dsimp only
    split
    · simp
    · exact deep_self h hd
theorem ne_self {d : D} (h : nice d = true) (hd : depD d ≤ 64) : dNe d d = some (.bl false) := by
  simp only [dNe, eqB_self h hd, Option.map_some]; rfl
theorem lg {i : Int} (h : i.natAbs < 2 ^ 100) : i.natAbs.log2 < 100 := by
  by_cases h0 : i.natAbs = 0
  · rw [h0]; decide
  · exact (Nat.log2_lt h0).mpr h
theorem mul_ok {i j : Int} (hi : i.natAbs < 2 ^ 100) (hj : j.natAbs < 2 ^ 100) : dMul (.int i) (.int j) = some (.int (i * j)) := by
  have h1 := lg hi
  have h2 := lg hj
  have : i.natAbs.log2 + j.natAbs.log2 < 1000000 := by omega
  simp only [dMul, okB, decide_eq_true this, if_pos]
theorem div_ok {i j : Int} (h0 : 0 < j) (hj : j.natAbs < 2 ^ 100) : dDiv (.int i) (.int j) = some (.int (i / j)) := by
  have h2 := lg hj
  have : 0 < j ∧ j.natAbs.log2 < 9000 := ⟨h0, by omega⟩
  simp only [dDiv, okB, decide_eq_true this, if_pos]
theorem mod_ok {i j : Int} (h0 : 0 < j) : dMod (.int i) (.int j) = some (.int (i % j)) := by
  simp only [dMod, okB, decide_eq_true h0, if_pos]
theorem deq_int (a b : Int) : dEq (.int a) (.int b) = some (.bl (decide (a = b))) := by
  have e : scal (.int a) (.int b) = true := rfl
  simp only [dEq, eqB, flat, e, if_pos, Option.map_some]
  congr 2
  simp
theorem ev_ixO {i : Nat} {m : M D} {es es1 : En} {l l1 : List D} {k : Int} {x : D} (h0 : ownAt i es = some l) (h : m es = .ok (.int k, es1)) (h1 : ownAt i es1 = some l1) (h2 : atI l1 k = some x) : mIxO i m es = .ok (x, es1) := by
  simp only [mIxO, h0, Mi.bnd, h, h1, isI, Option.bind_some, h2, Mi.opt]
theorem ev_setO {i j : Nat} {mk m : M D} {es es0 es1 : En} {l l1 : List D} {k : Int} {x : D} {es2 : En} (h : m es = .ok (x, es0)) (h0 : ownAt i es0 = some l) (hk : mk es0 = .ok (.int k, es1)) (h1 : ownAt i es1 = some l1) (h2 : ixN l1.length k = some j) (he : es1.set i (.own (l1.set j x)) = es2 := by rfl) : mSetO i mk m es = .ok (.nx, es2) := by
  rw [← he]
  simp only [mSetO, Mi.bnd, h, h0, hk, h1, isI, Option.bind_some, h2, Mi.opt]
theorem ev_fnO {k : Nat} {m : M Out} {l l' ds : List D} {d : D} {es : En} (h : m (Sl.own l :: (ds.map Sl.dat ++ List.replicate (k - 1 - ds.length) .un)) = .ok (.rt d, es)) (h2 : ownAt 0 es = some l') : fnO k m l ds = .ok (d, l') := by
  simp only [fnO, h, endsO, h2]
structure Pool (l : List D) : Prop where
  ex : ∃ a b : Int, l = [.int a, .int b] ∧ 0 ≤ b ∧ b ≤ 2147483647
theorem e_take {l : List D} (p : Pool l) (m : Int) (h1 : 0 < m) (h2 : m < 2 ^ 100) : ∃ (r : Int) (l' : List D), g__law_take l [.int m] = .ok (.int r, l') ∧ Pool l' ∧ 0 ≤ r ∧ r < m := by
  obtain ⟨a, b, rfl, hb0, hb1⟩ := p.ex
  by_cases ha : 0 < a
  · refine ⟨a % m, [.int (a / m), .int b], ?_, ⟨_, _, rfl, hb0, hb1⟩, Int.emod_nonneg _ (by omega), Int.emod_lt_of_pos _ h1⟩
    have hd := div_ok (i := a) (j := m) h1 (by omega)
    have hm := mod_ok (i := a) (j := m) h1
    exact ev_fnO (es := [.own [.int (a / m), .int b], .dat (.int m), .dat (.int (a % m))]) (ev_seq_rt (ev_if_t (ev_tst (ev_bin (ev_ixO rfl rfl rfl rfl) rfl (by show some (D.bl (decide (0 < a))) = _; rw [decide_eq_true ha]))) (ev_seq (ev_set (ev_bin (ev_ixO rfl rfl rfl rfl) rfl hm)) (ev_seq (ev_setO (ev_bin (ev_ixO rfl rfl rfl rfl) rfl hd) rfl rfl rfl rfl) (ev_ret rfl))))) rfl
  · have q0 : 0 ≤ (b * 48271 + 11) % 2147483647 := Int.emod_nonneg _ (by decide)
    have q1 : (b * 48271 + 11) % 2147483647 < 2147483647 := Int.emod_lt_of_pos _ (by decide)
    generalize hB : (b * 48271 + 11) % 2147483647 = B at q0 q1
    refine ⟨B * B % 2147483629 / 64 % m, [.int a, .int B], ?_, ⟨_, _, rfl, q0, by omega⟩, Int.emod_nonneg _ (by omega), Int.emod_lt_of_pos _ h1⟩
    have m1 : dMul (.int b) (.int 48271) = some (.int (b * 48271)) := mul_ok (by omega) (by decide)
    have m2 : dMod (.int (b * 48271 + 11)) (.int 2147483647) = some (.int B) := by rw [mod_ok (by decide), hB]
    have m3 : dMul (.int B) (.int B) = some (.int (B * B)) := mul_ok (by omega) (by omega)
    have m4 := mod_ok (i := B * B) (j := 2147483629) (by decide)
    have m5 := div_ok (i := B * B % 2147483629) (j := 64) (by decide) (by decide)
    have m6 := mod_ok (i := B * B % 2147483629 / 64) (j := m) h1
    refine ev_fnO (es := [.own [.int a, .int B], .dat (.int m), .un]) (ev_seq (es1 := [.own [.int a, .int b], .dat (.int m), .un]) (ev_if_f (ev_tst (ev_bin (ev_ixO rfl rfl rfl rfl) rfl (by show some (D.bl (decide (0 < a))) = _; rw [decide_eq_false ha]))) rfl) (ev_seq (ev_setO (ev_bin (ev_bin (ev_bin (ev_ixO rfl rfl rfl rfl) rfl m1) rfl rfl) rfl m2) rfl rfl rfl rfl) (ev_ret (ev_bin (ev_bin (ev_bin (ev_bin (ev_ixO rfl rfl rfl rfl) (ev_ixO rfl rfl rfl rfl) m3) rfl m4) rfl m5) rfl m6)))) rfl
theorem ev_rg1 {w : M (List D)} {es es1 : En} {j : Int} (h : w es = .ok ([.int j], es1)) (hb : -(2 ^ 62) ≤ j ∧ j < 2 ^ 62) : mRg1 w es = .ok ((List.range j.toNat).map fun (k : Nat) => D.int (k : Int), es1) := by
  simp only [mRg1, Mi.bnd, h, Mi.opt, if_pos hb]
theorem ixL {l : List D} {k : Nat} {x : D} (h : l[k]? = some x) : dIx (.lst l) (.int k) = some x := atI_nat h
theorem ixT {l : List D} {k : Nat} {x : D} (h : l[k]? = some x) : dIx (.tup l) (.int k) = some x := atI_nat h
theorem ev_fnF {k : Nat} {m : M (List D)} {ds l : List D} {es : En} (h : m (ds.map Sl.dat ++ List.replicate (k - ds.length) .un) = .ok (l, es)) : fnF k m ds = .ok l := by simp only [fnF, h, endsF]
theorem ev_seqF {m : M Out} {n : M (List D)} {es es1 : En} {q : R (List D × En)} (h : m es = .ok (.nx, es1)) (h2 : n es1 = q) : mSeqF m n es = q := by simp only [mSeqF, Mi.bnd, h, h2]
theorem ev_retF {w : M (List D)} {es es1 : En} {xs : List D} (h : w es = .ok (xs, es1)) (hl : xs.length ≤ sizeLine) : mRetF w es = .ok (xs, es1) := by simp only [mRetF, Mi.bnd, h, Mi.opt, if_pos hl]
theorem e_pool (ns : List Int) (k : Int) (h0 : 0 ≤ k) (h1 : k ≤ 100) : ∃ l, g__law_pool [.scr ns, .int k] = .ok l ∧ Pool l := by
  have hz := size_eq
  have cell : ∃ c : Int, mIf (mTst (mBin dLt (mVar 1) (mCB dLen (mCons (mVar 0) mNil)))) (mAsg (bName 2) (mBin dIx (mVar 0) (mVar 1))) mNext [.dat (.scr ns), .dat (.int k), .dat (.int 0), .un] = .ok (.nx, [.dat (.scr ns), .dat (.int k), .dat (.int c), .un]) := by
    by_cases hk : k < ns.length
    · obtain ⟨j, rfl⟩ := Int.eq_ofNat_of_zero_le h0
      have hj : j < ns.length := by omega
      refine ⟨ns[j], ev_if_t (ev_tst (ev_bin rfl (ev_cb (ev_one rfl) rfl) (by show some (D.bl (decide _)) = _; rw [decide_eq_true hk]))) (ev_setL (ev_bin rfl rfl ?_))⟩
      show (atI ns (j : Int)).map D.int = _
      rw [atI_nat (List.getElem?_eq_getElem hj)]; rfl
    · exact ⟨0, ev_if_f (ev_tst (ev_bin rfl (ev_cb (ev_one rfl) rfl) (by show some (D.bl (decide _)) = _; rw [decide_eq_false hk]))) rfl⟩
  obtain ⟨c, hc⟩ := cell
  have q0 : 0 ≤ c % 2147483629 := Int.emod_nonneg _ (by decide)
  have q1 : c % 2147483629 < 2147483629 := Int.emod_lt_of_pos _ (by decide)
  have kk : 0 ≤ 7919 * k * k ∧ 7919 * k * k ≤ 79190000 := by
    constructor
    · exact Int.mul_nonneg (by omega) h0
    · have h2 : 7919 * k ≤ 791900 := by omega
      have h3 : 7919 * k * k ≤ 791900 * k := Int.mul_le_mul_of_nonneg_right h2 h0
      omega
  have m0 := mod_ok (i := c) (j := 2147483629) (by decide)
  have m1 : dMul (.int 7919) (.int k) = some (.int (7919 * k)) := mul_ok (by decide) (by omega)
  have m2 : dMul (.int (7919 * k)) (.int k) = some (.int (7919 * k * k)) := mul_ok (by omega) (by omega)
  generalize hs : c % 2147483629 + 7919 * k * k + 13 = s at *
  have hs0 : 0 ≤ s ∧ s < 10000000000 := by omega
  have m3 : dMul (.int s) (.int 48271) = some (.int (s * 48271)) := mul_ok (by omega) (by decide)
  have m4 := mod_ok (i := s * 48271) (j := 2147483647) (by decide)
  have r0 : 0 ≤ s * 48271 % 2147483647 := Int.emod_nonneg _ (by decide)
  have r1 : s * 48271 % 2147483647 < 2147483647 := Int.emod_lt_of_pos _ (by decide)
  have a1 : dAdd (.int (c % 2147483629 + 7919 * k * k)) (.int 13) = some (.int s) := by rw [← hs]; rfl
  generalize hq : s * 48271 % 2147483647 = q at *
  have m5 : dMul (.int q) (.int q) = some (.int (q * q)) := mul_ok (by omega) (by omega)
  have m6 := mod_ok (i := q * q) (j := 2147483587) (by decide)
  have u0 : 0 ≤ q * q % 2147483587 := Int.emod_nonneg _ (by decide)
  have u1 : q * q % 2147483587 < 2147483587 := Int.emod_lt_of_pos _ (by decide)
  have hp : dPow (.int 10) (.int 18) = some (.int 1000000000000000000) := by simp [dPow, okB]
  have hge : ∃ a : Int, mIf (mTst (mBin dLt (mVar 2) (mBin dPow (mC (.int 10)) (mC (.int 18))))) (mAsg (bName 2) (mC (.int 0))) mNext [.dat (.scr ns), .dat (.int k), .dat (.int c), .dat (.int q)] = .ok (.nx, [.dat (.scr ns), .dat (.int k), .dat (.int a), .dat (.int q)]) := by
    by_cases h : c < (1000000000000000000 : Int)
    · exact ⟨0, ev_if_t (ev_tst (ev_bin rfl (ev_bin rfl rfl hp) (by show some (D.bl (decide _)) = _; rw [decide_eq_true h]))) (ev_setL rfl)⟩
    · exact ⟨c, ev_if_f (ev_tst (ev_bin rfl (ev_bin rfl rfl hp) (by show some (D.bl (decide _)) = _; rw [decide_eq_false h]))) rfl⟩
  obtain ⟨a, ha⟩ := hge
  refine ⟨[.int a, .int (q * q % 2147483587 + 1)], ?_, ⟨_, _, rfl, by omega, by omega⟩⟩
  exact ev_fnF (ev_seqF (es1 := [.dat (.scr ns), .dat (.int k), .dat (.int 0), .un]) (ev_setL rfl) (ev_seqF hc (ev_seqF (es1 := [.dat (.scr ns), .dat (.int k), .dat (.int c), .dat (.int q)]) (ev_setL (ev_bin (ev_bin (ev_bin (ev_bin (ev_bin rfl rfl m0) (ev_bin (ev_bin rfl rfl m1) rfl m2) rfl) rfl a1) rfl m3) rfl m4)) (ev_seqF ha (ev_retF (ev_cons rfl (ev_one (ev_bin (ev_bin (ev_bin rfl rfl m5) rfl m6) rfl rfl))) (sl 2 (by decide)))))))
end G
namespace G
open PySem PySem.Spec PyProof.Rows L2 Mi
abbrev figS : Str := "0123456789"
def inSet (z : Str) (c : Nat) : Bool := decide (c ∈ z.cps.toList)
def figB (s : Str) : Bool := s.cps.toList.all (inSet figS)
theorem chs_len (s : Str) : (s.cps.toList.map fun c => D.str ⟨#[c]⟩).length = s.length := by rw [List.length_map]; rfl
theorem all_comp (s z : Str) (es : En) (v : Nat) (ms : M (List D)) (me : M D) (hms : ms es = .ok (s.cps.toList.map fun c => D.str ⟨#[c]⟩, es)) (hno : notOwn es [v] = true) (hv : v < es.length) (hl : s.length ≤ sizeLine)
    (hme : ∀ c, me (es.set v (.dat (.str ⟨#[c]⟩))) = .ok (.bl (inSet z c), es.set v (.dat (.str ⟨#[c]⟩)))) :
    mCB dAll (mCons (mComp [v] ms (bName v) mYes me) mNil) es = .ok (.bl (s.cps.toList.all (inSet z)), es) := by
  have h := comp_map (v := v) (me := me) (f := fun d => match d with | .str t => .bl (inSet z (t.cps.getD 0 0)) | _ => .non) hms hno hv (fun d hd => by
    obtain ⟨c, _, rfl⟩ := List.mem_map.mp hd
    rw [hme c]; rfl) (by rw [chs_len]; exact hl)
  have e : ((s.cps.toList.map fun c => D.str ⟨#[c]⟩).map fun d => match d with | .str t => D.bl (inSet z (t.cps.getD 0 0)) | _ => .non) = s.cps.toList.map fun c => D.bl (inSet z c) := by
    rw [List.map_map]; rfl
  rw [e] at h
  simp only [mCB, mCons, mNil, Mi.bnd, Mi.ret, Mi.opt, h, dAll_map]
theorem fig_split (s : Str) : s.cps.toList.all (inSet figS) = figB s := rfl
def canB (s : Str) : Bool := decide (s = ("0" : Str)) || !decide ((⟨#[s.cps.getD 0 0]⟩ : Str) = ("0" : Str))
def numIn (s : Str) : Option Nat := if (decide (1 ≤ s.length) && decide (s.length ≤ 31)) && figB s && canB s then some (NumText.digitsVal s.cps.toList) else none
def numD : Option Nat → D
  | none => .non
  | some n => .int n
theorem figs_digits {s : Str} (h : figB s = true) : NumText.AllDigits s.cps.toList := by
  intro c hc
  have h1 := List.all_eq_true.mp h c hc
  have h2 : c ∈ figS.cps.toList := of_decide_eq_true h1
  have e : figS.cps.toList = [48, 49, 50, 51, 52, 53, 54, 55, 56, 57] := by decide +kernel
  rw [e] at h2
  simp at h2
  omega
theorem figs_int {s : Str} (h : figB s = true) (h1 : 1 ≤ s.length) (h2 : s.length ≤ 640) : dInt [.str s] = some (.int (NumText.digitsVal s.cps.toList : Nat)) := by
  have hn : s.cps.toList ≠ [] := fun z => by
    have : s.cps.toList.length = 0 := by rw [z]; rfl
    have e : s.length = s.cps.toList.length := TL.len_tl s
    omega
  simp only [dInt, if_pos h2]
  rw [intText_digits (figs_digits h) hn (by omega)]
  rfl
theorem ix0 {s : Str} (h1 : 1 ≤ s.length) (hl : s.length ≤ sizeLine) : dIx (.str s) (.int 0) = some (.str ⟨#[s.cps.getD 0 0]⟩) := by
  have h2 : 0 < s.cps.size := h1
  have e : ixN s.cps.toList.length 0 = some 0 := by
    simp [ixN, h2]
  simp only [dIx, if_pos hl, atI, e, Option.bind_some]
  simp [h2, Array.getD]
theorem chn31 (s : Str) (hl : s.length ≤ sizeLine) (es : En) (h : es[0]? = some (.dat (.str s))) : mChn dLe dLe (mC (.int 1)) (mCB dLen (mCons (mVar 0) mNil)) (mC (.int 31)) es = .ok (.bl (decide (1 ≤ s.length) && decide (s.length ≤ 31)), es) := by
  have e : (decide (1 ≤ s.length) && decide (s.length ≤ 31)) = (decide ((1 : Int) ≤ s.length) && decide ((s.length : Int) ≤ 31)) := by
    congr 1 <;> congr 1 <;> exact propext (by omega)
  rw [e]
  exact ev_chn rfl (ev_len (ev_var h) hl) rfl rfl rfl
theorem e_number_in (s : Str) (hl : s.length ≤ sizeLine) : g_number_in [.str s] = .ok (numD (numIn s)) := by
  have h := all_comp s figS [.dat (.str s), .un] 1 (mIS (mVar 0)) (mBin dIn (mVar 1) (mC (.str figS))) rfl rfl (by show 1 < 2; decide) hl (fun c => rfl)
  have h1 := chn31 s hl [.dat (.str s), .un] rfl
  cases hc : (decide (1 ≤ s.length) && decide (s.length ≤ 31)) with
  | false =>
    have e : numIn s = none := by unfold numIn; rw [hc]; rfl
    rw [e]
    rw [hc] at h1
    exact ev_fn (ev_seq_rt (ev_if_t (ev_orT_f (ev_nT_f (ev_tru (ev_isa rfl rfl) rfl)) (ev_orT_t (ev_nT_t (ev_tst h1)))) (ev_ret rfl)))
  | true =>
    rw [hc] at h1
    rw [Bool.and_eq_true, decide_eq_true_eq, decide_eq_true_eq] at hc
    have hx := ix0 hc.1 hl
    cases hf : figB s with
    | false =>
      have e : numIn s = none := by unfold numIn; rw [hf, Bool.and_false]; rfl
      rw [e]
      have h' := h
      rw [fig_split, hf] at h'
      exact ev_fn (ev_seq_rt (ev_if_t (ev_orT_f (ev_nT_f (ev_tru (ev_isa rfl rfl) rfl)) (ev_orT_f (ev_nT_f (ev_tst h1)) (ev_nT_t (ev_tru h' rfl)))) (ev_ret rfl)))
    | true =>
      have h' := h
      rw [fig_split, hf] at h'
      have hi := figs_int hf hc.1 (by omega)
      refine ev_fn (es1 := [.dat (.str s), .un]) (ev_seq (ev_if_f (ev_orT_f (ev_nT_f (ev_tru (ev_isa rfl rfl) rfl)) (ev_orT_f (ev_nT_f (ev_tst h1)) (ev_nT_f (ev_tru h' rfl)))) rfl) (ev_ret ?_))
      · cases hz : decide (s = ("0" : Str)) with
        | true =>
          have e : numIn s = some (NumText.digitsVal s.cps.toList) := by unfold numIn canB; simp [hc.1, hc.2, hf, hz]
          rw [e]
          exact ev_ife_t (ev_orT_t (ev_tst (by rw [← hz]; exact ev_bin rfl rfl (deq_str _ _)))) (ev_cb (ev_one rfl) hi)
        | false =>
          cases hy : decide ((⟨#[s.cps.getD 0 0]⟩ : Str) = ("0" : Str)) with
          | true =>
            have e : numIn s = none := by unfold numIn canB; simp only [hz, hy]; simp
            rw [e]
            exact ev_ife_f (ev_orT_f (ev_tst (by rw [← hz]; exact ev_bin rfl rfl (deq_str _ _))) (ev_tst (ev_bin (ev_bin rfl rfl hx) rfl (by rw [dne_str, hy]; rfl)))) rfl
          | false =>
            have e : numIn s = some (NumText.digitsVal s.cps.toList) := by unfold numIn canB; simp only [hz, hy]; simp [hc.1, hc.2, hf]
            rw [e]
            exact ev_ife_t (ev_orT_f (ev_tst (by rw [← hz]; exact ev_bin rfl rfl (deq_str _ _))) (ev_tst (ev_bin (ev_bin rfl rfl hx) rfl (by rw [dne_str, hy]; rfl)))) (ev_cb (ev_one rfl) hi)
theorem filt_nil (z s : Str) : ((s.cps.toList.filter fun c => !inSet z c).isEmpty) = s.cps.toList.all (inSet z) := by
  induction s.cps.toList with
  | nil => rfl
  | cons c l ih =>
    cases h : inSet z c with
    | true => rw [List.filter_cons_of_neg (by rw [h]; decide), List.all_cons, h, ih]; rfl
    | false => rw [List.filter_cons_of_pos (by rw [h]; rfl), List.all_cons, h]; rfl
theorem fold_ge : ∀ (cs : List Nat) (a : Nat), a * 10 ^ cs.length ≤ cs.foldl (fun acc c => acc * 10 + (c - 48)) a
  | [], a => by simp
  | c :: cs, a => by
    have h := fold_ge cs (a * 10 + (c - 48))
    rw [List.foldl_cons, List.length_cons, Nat.pow_succ]
    refine Nat.le_trans ?_ h
    have e : a * (10 ^ cs.length * 10) = a * 10 * 10 ^ cs.length := by rw [Nat.mul_comm (10 ^ cs.length) 10, Nat.mul_assoc]
    rw [e]
    exact Nat.mul_le_mul_right _ (Nat.le_add_right _ _)
theorem can_head {s : Str} (hf : figB s = true) (hc : canB s = true) (h1 : 2 ≤ s.length) : ∃ c cs, s.cps.toList = c :: cs ∧ 49 ≤ c ∧ c ≤ 57 := by
  cases e : s.cps.toList with
  | nil =>
    have := TL.len_tl s
    have e' : s.length = 0 := by rw [this]; show s.cps.toList.length = 0; rw [e]; rfl
    omega
  | cons c cs =>
    refine ⟨c, cs, rfl, ?_⟩
    have hd := figs_digits hf c (by rw [e]; exact List.mem_cons_self)
    have hn : s ≠ ("0" : Str) := fun z => by rw [z] at h1; exact absurd h1 (by decide)
    unfold canB at hc
    rw [decide_eq_false hn, Bool.false_or] at hc
    have hg : s.cps.getD 0 0 = c := by
      have e2 : s.cps[0]? = some c := by rw [← Array.getElem?_toList, e]; rfl
      simp [Array.getD_eq_getD_getElem?, e2]
    rw [hg] at hc
    have hz : c ≠ 48 := fun z => by subst z; revert hc; decide
    omega
theorem str_nil {s : Str} : s = ("" : Str) ↔ s.length = 0 := by
  constructor
  · intro h; rw [h]; rfl
  · intro h
    have e : s.cps = #[] := Array.eq_empty_of_size_eq_zero h
    cases s
    cases e
    decide
theorem rev_ind {P : List Nat → Prop} (h0 : P []) (hs : ∀ l c, P l → P (l ++ [c])) (l : List Nat) : P l := by
  rw [← List.reverse_reverse l]
  induction l.reverse with
  | nil => exact h0
  | cons c m ih => rw [List.reverse_cons]; exact hs _ _ ih
theorem dv_snoc (l : List Nat) (c : Nat) : NumText.digitsVal (l ++ [c]) = NumText.digitsVal l * 10 + (c - 48) := by
  unfold NumText.digitsVal
  rw [List.foldl_append]; rfl
theorem dv_pos {c : Nat} {l : List Nat} (h : 49 ≤ c) : 1 ≤ NumText.digitsVal (c :: l) := by
  unfold NumText.digitsVal
  rw [List.foldl_cons]
  refine Nat.le_trans ?_ (fold_ge l _)
  have h4 : 1 ≤ 0 * 10 + (c - 48) := by omega
  exact Nat.le_trans (Nat.one_le_two_pow (n := 0)) (Nat.le_trans h4 (Nat.le_mul_of_pos_right _ (Nat.pow_pos (by decide))))
theorem dv_lt : ∀ (l : List Nat), NumText.AllDigits l → NumText.digitsVal l < 10 ^ l.length := by
  refine rev_ind ?_ ?_
  · intro _; decide
  · intro l c ih h
    have h1 := ih fun d hd => h d (List.mem_append_left _ hd)
    have h2 := h c (List.mem_append_right _ (List.mem_singleton_self c))
    rw [dv_snoc, List.length_append, List.length_singleton, Nat.pow_succ]
    omega
theorem numL_one : ∀ c, 48 ≤ c → c ≤ 57 → TL.numL (c - 48) = [c] := by
  intro c h1 h2
  have h : ∀ k : Fin 10, TL.numL k.val = [k.val + 48] := by decide +kernel
  have := h ⟨c - 48, by omega⟩
  simpa [Nat.sub_add_cancel h1] using this
theorem canon_L : ∀ (l : List Nat), NumText.AllDigits l → (∃ c cs, l = c :: cs ∧ (49 ≤ c ∨ cs = [])) → TL.numL (NumText.digitsVal l) = l := by
  refine rev_ind ?_ ?_
  · rintro _ ⟨c, cs, e, _⟩; cases e
  · intro l c ih h hc
    have h2 := h c (List.mem_append_right _ (List.mem_singleton_self c))
    cases l with
    | nil =>
      rw [List.nil_append]
      have e : NumText.digitsVal [c] = c - 48 := by unfold NumText.digitsVal; simp
      rw [e]
      exact numL_one c h2.1 h2.2
    | cons d l =>
      obtain ⟨d', cs, e, hd⟩ := hc
      rw [List.cons_append] at e
      cases e
      have h49 : 49 ≤ d := hd.resolve_right (by simp)
      have h1 := ih (fun x hx => h x (List.mem_append_left _ hx)) ⟨d, l, rfl, .inl h49⟩
      have hp := dv_pos (l := l) h49
      rw [dv_snoc, TL.numL_step (by omega)]
      have e1 : (NumText.digitsVal (d :: l) * 10 + (c - 48)) / 10 = NumText.digitsVal (d :: l) := by omega
      have e2 : 48 + (NumText.digitsVal (d :: l) * 10 + (c - 48)) % 10 = c := by omega
      rw [e1, e2, h1]
structure IsNum (s : Str) (n : Nat) : Prop where
  f : figB s = true
  c : canB s = true
  l1 : 1 ≤ s.length
  l2 : s.length ≤ 31
  e : n = NumText.digitsVal s.cps.toList
theorem numIn_is {s : Str} {n : Nat} (h : numIn s = some n) : IsNum s n := by
  unfold numIn at h
  split at h
  · rename_i hc
    rw [Bool.and_eq_true, Bool.and_eq_true, Bool.and_eq_true, decide_eq_true_eq, decide_eq_true_eq] at hc
    exact ⟨hc.1.2, hc.2, hc.1.1.1, hc.1.1.2, (Option.some.inj h).symm⟩
  · cases h
theorem IsNum.lt {s : Str} {n : Nat} (h : IsNum s n) : n < 10 ^ 31 := by
  rw [h.e]
  refine Nat.lt_of_lt_of_le (dv_lt _ (figs_digits h.f)) (Nat.pow_le_pow_right (by decide) ?_)
  have := h.l2
  rw [TL.len_tl] at this
  exact this
theorem canon {s : Str} {n : Nat} (h : IsNum s n) : Str.ofString (toString (n : Int)) = s := by
  have ht : TL.tl (Str.ofString (toString (n : Int))) = TL.tl s := by
    rw [TL.tl_num, h.e]
    refine canon_L _ (figs_digits h.f) ?_
    by_cases h2 : 2 ≤ s.length
    · obtain ⟨c, cs, e, h3, _⟩ := can_head h.f h.c h2
      exact ⟨c, cs, e, .inl h3⟩
    · have hl : s.length = 1 := by have := h.l1; omega
      rw [TL.len_tl] at hl
      match e : s.cps.toList, hl with
      | [c], _ => exact ⟨c, [], rfl, .inr rfl⟩
      | [], hl => rw [show TL.tl s = s.cps.toList from rfl, e] at hl; cases hl
      | _ :: _ :: _, hl => rw [show TL.tl s = s.cps.toList from rfl, e] at hl; simp at hl
  rw [← TL.mk_tl s, ← ht, TL.mk_tl]
theorem log_small {n : Nat} (h : n < 10 ^ 31) : n.log2 < 1920 := by
  by_cases h0 : n = 0
  · subst h0; decide
  · exact (Nat.log2_lt h0).mpr (Nat.lt_of_lt_of_le h (by decide +kernel))
theorem str_num {s : Str} {n : Nat} (h : numIn s = some n) : dStr [.int n] = some (.str s) := by
  have hn := numIn_is h
  have hb : (n : Int).natAbs.log2 < 1920 := by
    rw [Int.natAbs_natCast]
    exact log_small hn.lt
  simp only [dStr, okB, decide_eq_true hb, if_pos]
  rw [← canon hn]
theorem strs_py {α : Type} (f : α → Str) : ∀ l : List α, (∀ a ∈ l, PyData.strOk (f a) = true) → ∃ ps, toPyL (l.map fun a => D.str (f a)) = some ps ∧ PyData.canLayAll0 ps = true ∧ PyData.depthAll ps = 0 ∧ PyData.eqvAll ps [] = l.isEmpty
  | [], _ => ⟨[], rfl, by unfold PyData.canLayAll0; rfl, by unfold PyData.depthAll; rfl, by unfold PyData.eqvAll; rfl⟩
  | a :: l, h => by
    obtain ⟨ps, h1, h2, h3, _⟩ := strs_py f l fun b hb => h b (List.mem_cons_of_mem _ hb)
    exact ⟨.str (f a) :: ps, by rw [List.map_cons]; simp only [toPyL, toPy, h1], by unfold PyData.canLayAll0; rw [h2]; unfold PyData.canLay0; rw [h a List.mem_cons_self]; rfl, by unfold PyData.depthAll; rw [h3]; unfold PyData.depth; rfl, by unfold PyData.eqvAll; rfl⟩
theorem strs_eq {α : Type} (f : α → Str) (l : List α) (h : ∀ a ∈ l, PyData.strOk (f a) = true) : eqB (.lst (l.map fun a => D.str (f a))) (.lst []) = some l.isEmpty := by
  obtain ⟨ps, h1, h2, h3, h4⟩ := strs_py f l h
  have hs : SeqAt.shaped (.list ps) = true := by
    unfold SeqAt.shaped PyData.canLay0 PyData.depth
    rw [h2, h3]; rfl
  have hs0 : SeqAt.shaped (.list []) = true := by decide
  have e0 : toPy (.lst []) = some (.list []) := rfl
  have e1 : toPy (.lst (l.map fun a => D.str (f a))) = some (.list ps) := by simp only [toPy, h1, Option.map_some]
  have e2 : PyData.eqv (.list ps) (.list []) = l.isEmpty := by unfold PyData.eqv; exact h4
  have hb : deepB (.lst (l.map fun a => D.str (f a))) (.lst []) = some l.isEmpty := by
    simp only [deepB, e0, e1, hs, hs0, Bool.and_self, if_pos, e2]
  exact hb
def Asc (s : Str) : Prop := ∀ c ∈ s.cps.toList, c < 128
theorem sign_ok {c : Nat} (h : c < 128) : PyData.strOk ⟨#[c]⟩ = true := by
  unfold PyData.strOk
  simp
  omega
theorem asc_ok {s : Str} (h : Asc s) : PyData.strOk s = true := by
  unfold PyData.strOk
  rw [← Array.all_toList]
  exact List.all_eq_true.mpr fun c hc => by
    have := h c hc
    simp
    omega
theorem ev_or {es es1 : En} {a b : M D} {k l : Bool} (h : a es = .ok (.bl k, es1)) (h2 : k = false → b es1 = .ok (.bl l, es1)) : mOr a b es = .ok (.bl (k || l), es1) := by
  cases k with
  | true => simp only [mOr, Mi.bnd, h, Mi.opt, isBl]; rfl
  | false =>
    simp only [mOr, Mi.bnd, h, Mi.opt, isBl, Bool.false_or]
    simpa using h2 rfl
def lnB (s : Str) : Bool := match numIn s with
  | some n => decide ((n : Int) ≤ 1000000000000000000000000000000)
  | none => false
theorem odd_comp (s z : Str) (es : En) (v : Nat) (ms : M (List D)) (hms : ms es = .ok (s.cps.toList.map fun c => D.str ⟨#[c]⟩, es)) (hno : notOwn es [v] = true) (hv : v < es.length) (hl : s.length ≤ sizeLine) :
    mComp [v] ms (bName v) (mTst (mBin dNin (mVar v) (mC (.str z)))) (mVar v) es = .ok (.lst ((s.cps.toList.filter fun c => !inSet z c).map fun c => D.str ⟨#[c]⟩), es) := by
  have h := comp_fm (v := v) (mt := mTst (mBin dNin (mVar v) (mC (.str z)))) (me := mVar v) (p := fun d => match d with | .str t => !inSet z (t.cps.getD 0 0) | _ => false) (f := fun d => d) hms hno hv (fun d hd => by
    obtain ⟨c, _, rfl⟩ := List.mem_map.mp hd
    exact ev_tst (ev_bin (ev_var (List.getElem?_set_self hv)) rfl (ninB_ch c z))) (fun d _ _ => ev_var (List.getElem?_set_self hv)) (by rw [chs_len]; exact hl)
  rw [h, List.filter_map, List.map_map]
  rfl
theorem pow30 : dPow (.int 10) (.int 30) = some (.int 1000000000000000000000000000000) := by simp [dPow, okB]
theorem e_lisnum (s : Str) (hl : s.length ≤ sizeLine) (ha : Asc s) : g__law_is_number [.str s] = .ok (.bl (lnB s)) := by
  have h := odd_comp s figS [.dat (.str s), .un] 1 (mIS (mVar 0)) rfl rfl (by show 1 < 2; decide) hl
  have t1 : mTst (mBin dEq (mVar 0) (mC (.str ""))) [.dat (.str s), .un] = .ok (decide (s = ("" : Str)), [.dat (.str s), .un]) := ev_tst (ev_bin rfl rfl (deq_str _ _))
  have t2 : mTst (mBin dGt (mCB dLen (mCons (mVar 0) mNil)) (mC (.int 31))) [.dat (.str s), .un] = .ok (decide ((31 : Int) < s.length), [.dat (.str s), .un]) := ev_tst (ev_bin (ev_len rfl hl) rfl rfl)
  have ok : ∀ a ∈ s.cps.toList.filter fun c => !inSet figS c, PyData.strOk ⟨#[a]⟩ = true := fun a m => sign_ok (ha a (List.mem_filter.mp m).1)
  have t3 := ev_tst (ev_bin (f := dNe) (b := mLst mNil) (z := .bl (!figB s)) h rfl (by simp only [dNe, strs_eq (fun c => (⟨#[c]⟩ : Str)) _ ok, Option.map_some, filt_nil]; rfl))
  by_cases h0 : s.length = 0
  · rw [decide_eq_true (str_nil.mpr h0)] at t1
    have e : lnB s = false := by unfold lnB numIn; simp [h0]
    rw [e]
    exact ev_fn (ev_seq_rt (ev_if_t (ev_orT_t t1) (ev_ret rfl)))
  · rw [decide_eq_false (fun z => h0 (str_nil.mp z))] at t1
    by_cases h31 : 31 < s.length
    · rw [decide_eq_true (by omega : (31 : Int) < s.length)] at t2
      have e : lnB s = false := by
        have h31' : ¬ s.length ≤ 31 := by omega
        unfold lnB numIn; simp [h31']
      rw [e]
      exact ev_fn (ev_seq_rt (ev_if_t (ev_orT_f t1 (ev_orT_t t2)) (ev_ret rfl)))
    · rw [decide_eq_false (by omega : ¬ (31 : Int) < s.length)] at t2
      cases hf : figB s with
      | false =>
        rw [hf] at t3
        have e : lnB s = false := by unfold lnB numIn; simp [hf]
        rw [e]
        exact ev_fn (ev_seq_rt (ev_if_t (ev_orT_f t1 (ev_orT_f t2 t3)) (ev_ret rfl)))
      | true =>
        rw [hf] at t3
        have hx := ix0 (s := s) (by omega) hl
        have hi := figs_int hf (by omega) (by omega)
        have c1 : mOr (mBin dEq (mVar 0) (mC (.str "0"))) (mBin dNe (mBin dIx (mVar 0) (mC (.int 0))) (mC (.str "0"))) [.dat (.str s), .un] = .ok (.bl (canB s), [.dat (.str s), .un]) := by
          unfold canB
          exact ev_or (ev_bin rfl rfl (deq_str _ _)) fun _ => ev_bin (ev_bin rfl rfl hx) rfl (dne_str _ _)
        have en : numIn s = if canB s then some (NumText.digitsVal s.cps.toList) else none := by
          have g1 : 1 ≤ s.length := by omega
          have g2 : s.length ≤ 31 := by omega
          unfold numIn
          simp [hf, g1, g2]
        have e : lnB s = (canB s && decide (((NumText.digitsVal s.cps.toList : Nat) : Int) ≤ 1000000000000000000000000000000)) := by
          unfold lnB
          rw [en]
          cases canB s <;> simp
        rw [e]
        exact ev_fn (es1 := [.dat (.str s), .un]) (ev_seq (ev_if_f (ev_orT_f t1 (ev_orT_f t2 t3)) rfl) (ev_ret (ev_and c1 fun _ => ev_bin (ev_cb (ev_one rfl) hi) (ev_bin rfl rfl pow30) rfl)))
end G
namespace G
open PySem PySem.Spec PyProof.Rows L2 Mi
def tmOf (h : Str) : Option Nat := if h = ("" : Str) then some 1 else match numIn h with
  | some n => if 2 ≤ n ∧ n ≤ 9 then some n else none
  | none => none
def nmOf (u : Str) : Option Nat := match numIn u with
  | some n => if 1 ≤ n ∧ n ≤ 1000000000000000000000000000000 then some n else none
  | none => none
def sgB (t : Str) : Bool := decide (t.cps.getD 0 0 ∈ ("+-" : Str).cps.toList)
def plB (t : Str) : Bool := decide ((⟨#[t.cps.getD 0 0]⟩ : Str) = ("+" : Str))
def valOf (s : Str) : Option (Nat × Int) :=
  let P := Txt.partition s ("n" : Str)
  if P.2.1 = ("" : Str) then (match numIn P.1 with
    | some n => if n ≤ 1000000000000000000000000000000 then some (0, (n : Int)) else none
    | none => none)
  else match tmOf P.1 with
    | none => none
    | some k => if P.2.2 = ("" : Str) then some (k, 0) else if sgB P.2.2 = false then none else match nmOf (cutS P.2.2 (some 1) none) with
      | none => none
      | some n => some (k, if plB P.2.2 = true then (n : Int) else -(n : Int))
def cD : Option (Nat × Int) → D
  | none => .non
  | some (k, m) => .tup [.int k, .int m]
theorem ndec {p q : Prop} [Decidable p] [Decidable q] (h : p ↔ q) : decide p = decide q := decide_eq_decide.mpr h
theorem e_nin (u : Str) (hl : u.length ≤ sizeLine) : g_number_in [.str u] = .ok (numD (numIn u)) := e_number_in u hl
theorem one_is {h : Str} (e : numIn h = some 1) : h = ("1" : Str) := by
  have := canon (numIn_is e)
  rw [← this]
  decide +kernel
theorem one_num : numIn ("1" : Str) = some 1 := by decide +kernel
theorem fit_part {s : Str} (hs : s.length ≤ 5000) : dPart s (.str ("n" : Str)) = some (.tup [.str (Txt.partition s ("n" : Str)).1, .str (Txt.partition s ("n" : Str)).2.1, .str (Txt.partition s ("n" : Str)).2.2]) := by
  have z := size_eq
  have e : (("n" : Str).length == 0) = false := by decide
  have h : (("n" : Str).length == 0) = false ∧ s.length ≤ sizeLine := ⟨e, by omega⟩
  simp only [dPart, okB, decide_eq_true h, if_pos]
theorem cutS_mem {s : Str} {lo hi : Option Int} {c : Nat} (h : c ∈ (cutS s lo hi).cps.toList) : c ∈ s.cps.toList := List.mem_of_mem_drop (List.mem_of_mem_take (by simpa [cutS] using h))
theorem Asc.cut {s : Str} (h : Asc s) (lo hi : Option Int) : Asc (cutS s lo hi) := fun c hc => h c (cutS_mem hc)
theorem par_sub (S : List Nat) : ∀ (l acc p q : List Nat), TL.par S acc l = some (p, q) → (∀ c ∈ p, c ∈ acc ∨ c ∈ l) ∧ (∀ c ∈ q, c ∈ l) ∧ p.length ≤ acc.length + l.length ∧ q.length ≤ l.length
  | [], acc, p, q, h => by simp [TL.par] at h
  | c :: r, acc, p, q, h => by
    unfold TL.par at h
    split at h
    · cases h
      exact ⟨fun d hd => .inl hd, fun d hd => List.mem_of_mem_drop hd, by omega, by simp⟩
    · obtain ⟨h1, h2, h3, h4⟩ := par_sub S r (acc ++ [c]) p q h
      refine ⟨fun d hd => ?_, fun d hd => List.mem_cons_of_mem _ (h2 d hd), by simp at h3 ⊢; omega, by simp; omega⟩
      rcases h1 d hd with z | z
      · rcases List.mem_append.mp z with z | z
        · exact .inl z
        · exact .inr (by rw [List.mem_singleton.mp z]; exact List.mem_cons_self)
      · exact .inr (List.mem_cons_of_mem _ z)
theorem part_asc {s : Str} (ha : Asc s) (hs : s.length ≤ 5000) : (Asc (Txt.partition s ("n" : Str)).1 ∧ (Txt.partition s ("n" : Str)).1.length ≤ 5000) ∧ (Asc (Txt.partition s ("n" : Str)).2.2 ∧ (Txt.partition s ("n" : Str)).2.2.length ≤ 5000) := by
  rw [TL.partition_par s ("n" : Str) (by decide)]
  have ls : (TL.tl s).length = s.length := (TL.len_tl s).symm
  cases hq : TL.par (TL.tl ("n" : Str)) [] (TL.tl s) with
  | none =>
    have e : Asc Str.empty := fun c hc => by
      have e : (Str.empty).cps.toList = [] := rfl
      rw [e] at hc
      cases hc
    exact ⟨⟨ha, hs⟩, e, (by show Str.empty.length ≤ 5000; decide)⟩
  | some pq =>
    obtain ⟨p, r⟩ := pq
    obtain ⟨h1, h2, h3, h4⟩ := par_sub _ _ _ _ _ hq
    have l1 : ∀ l : List Nat, (⟨l.toArray⟩ : Str).length = l.length := fun l => by rw [TL.len_tl]
    rw [List.length_nil, Nat.zero_add, ls] at h3
    rw [ls] at h4
    have b1 : Asc (⟨p.toArray⟩ : Str) := fun c hc => by
      have hc' : c ∈ p := by simpa using hc
      rcases h1 c hc' with z | z
      · cases z
      · exact ha c z
    have b2 : Asc (⟨r.toArray⟩ : Str) := fun c hc => by
      have hc' : c ∈ r := by simpa using hc
      exact ha c (h2 c hc')
    exact ⟨⟨b1, by rw [l1]; omega⟩, b2, by rw [l1]; omega⟩
theorem isn_numD (o : Option Nat) : dIs (numD o) .non = some (.bl o.isNone) := by cases o <;> rfl
theorem e_count_in (s : Str) (hs : s.length ≤ 5000) (ha : Asc s) : g_count_in [.str s] = .ok (cD (valOf s)) := by
  have z := size_eq
  obtain ⟨⟨a1, l1⟩, a2, l2⟩ := part_asc ha hs
  have hp := fit_part hs
  unfold valOf
  generalize Txt.partition s ("n" : Str) = P at *
  obtain ⟨h, f, t⟩ := P
  dsimp only at *
  have s1 : mAsg (bTup [1, 2, 3]) (mM1 dPart (mVar 0) (mC (.str "n"))) [.dat (.str s), .un, .un, .un, .un, .un] = .ok (.nx, [.dat (.str s), .dat (.str h), .dat (.str f), .dat (.str t), .un, .un]) := ev_asg (ev_m1 rfl rfl hp) rfl
  have nh := e_nin h (by omega)
  by_cases hf : f = ("" : Str)
  · rw [if_pos hf]
    have t1 : mTst (mBin dEq (mVar 2) (mC (.str ""))) [.dat (.str s), .dat (.str h), .dat (.str f), .dat (.str t), .un, .un] = .ok (true, [.dat (.str s), .dat (.str h), .dat (.str f), .dat (.str t), .un, .un]) := ev_tst (ev_bin rfl rfl (by rw [deq_str, decide_eq_true hf]))
    refine ev_fn (es1 := [.dat (.str s), .dat (.str h), .dat (.str f), .dat (.str t), .dat (numD (numIn h)), .un]) (ev_seq s1 (ev_seq_rt (ev_if_t t1 (ev_seq (es1 := [.dat (.str s), .dat (.str h), .dat (.str f), .dat (.str t), .dat (numD (numIn h)), .un]) (ev_setL (ev_call (ev_one rfl) rfl nh)) (ev_ret ?_)))))
    cases q : numIn h with
    | none => exact ev_ife_t (ev_orT_t (ev_tst (ev_bin rfl rfl (isn_numD none)))) rfl
    | some n =>
      dsimp only
      by_cases hn : n ≤ 1000000000000000000000000000000
      · rw [if_pos hn]
        exact ev_ife_f (ev_orT_f (ev_tst (ev_bin rfl rfl (isn_numD (some n)))) (ev_tst (ev_bin rfl rfl (by show some (D.bl (decide ((1000000000000000000000000000000 : Int) < (n : Int)))) = _; rw [decide_eq_false (by omega)])))) (ev_tup (ev_cons rfl (ev_one rfl)) (sl 2 (by decide)))
      · rw [if_neg hn]
        exact ev_ife_t (ev_orT_f (ev_tst (ev_bin rfl rfl (isn_numD (some n)))) (ev_tst (ev_bin rfl rfl (by show some (D.bl (decide ((1000000000000000000000000000000 : Int) < (n : Int)))) = _; rw [decide_eq_true (by omega)])))) rfl
  · rw [if_neg hf]
    have t1 : mTst (mBin dEq (mVar 2) (mC (.str ""))) [.dat (.str s), .dat (.str h), .dat (.str f), .dat (.str t), .un, .un] = .ok (false, [.dat (.str s), .dat (.str h), .dat (.str f), .dat (.str t), .un, .un]) := ev_tst (ev_bin rfl rfl (by rw [deq_str, decide_eq_false hf]))
    have tms : mAsg (bName 5) (mIfE (mTst (mBin dEq (mVar 1) (mC (.str "")))) (mC (.int 1)) (mCall 1 g_number_in (mCons (mVar 1) mNil))) [.dat (.str s), .dat (.str h), .dat (.str f), .dat (.str t), .un, .un] = .ok (.nx, [.dat (.str s), .dat (.str h), .dat (.str f), .dat (.str t), .un, .dat (if h = ("" : Str) then .int 1 else numD (numIn h))]) := by
      refine ev_setL (es1 := [.dat (.str s), .dat (.str h), .dat (.str f), .dat (.str t), .un, .un]) ?_
      by_cases hh : h = ("" : Str)
      · rw [if_pos hh]
        exact ev_ife_t (ev_tst (ev_bin rfl rfl (by rw [deq_str, decide_eq_true hh]))) rfl
      · rw [if_neg hh]
        exact ev_ife_f (ev_tst (ev_bin rfl rfl (by rw [deq_str, decide_eq_false hh]))) (ev_call (ev_one rfl) rfl nh)
    have tst : ∀ d : D, d = (if h = ("" : Str) then .int 1 else numD (numIn h)) → mOrT (mTst (mBin dIs (mVar 5) (mC .non))) (mOrT (mNotT (mTst (mChn dLe dLe (mC (.int 1)) (mVar 5) (mC (.int 9))))) (mTst (mBin dEq (mVar 1) (mC (.str "1"))))) [.dat (.str s), .dat (.str h), .dat (.str f), .dat (.str t), .un, .dat d] = .ok ((tmOf h).isNone, [.dat (.str s), .dat (.str h), .dat (.str f), .dat (.str t), .un, .dat d]) := by
      intro d hd
      unfold tmOf
      by_cases hh : h = ("" : Str)
      · rw [if_pos hh] at hd ⊢
        subst hd
        have hne : ¬ h = ("1" : Str) := by rw [hh]; decide
        have c1 : mTst (mChn dLe dLe (mC (.int 1)) (mVar 5) (mC (.int 9))) [.dat (.str s), .dat (.str h), .dat (.str f), .dat (.str t), .un, .dat (.int 1)] = .ok (true, [.dat (.str s), .dat (.str h), .dat (.str f), .dat (.str t), .un, .dat (.int 1)]) := rfl
        exact ev_orT_f (ev_tst (ev_bin rfl rfl rfl)) (ev_orT_f (ev_nT_f c1) (ev_tst (ev_bin rfl rfl (by rw [deq_str, decide_eq_false hne]; rfl))))
      · rw [if_neg hh] at hd ⊢
        cases q : numIn h with
        | none => rw [q] at hd; subst hd; exact ev_orT_t (ev_tst (ev_bin rfl rfl rfl))
        | some n =>
          rw [q] at hd
          subst hd
          dsimp only
          have c1 : mTst (mChn dLe dLe (mC (.int 1)) (mVar 5) (mC (.int 9))) [.dat (.str s), .dat (.str h), .dat (.str f), .dat (.str t), .un, .dat (numD (some n))] = .ok (decide ((1 : Int) ≤ (n : Int)) && decide ((n : Int) ≤ 9), [.dat (.str s), .dat (.str h), .dat (.str f), .dat (.str t), .un, .dat (numD (some n))]) := ev_tst (ev_chn rfl rfl rfl rfl rfl)
          by_cases h1 : 1 ≤ n ∧ n ≤ 9
          · rw [decide_eq_true (by omega : (1 : Int) ≤ (n : Int)), decide_eq_true (by omega : (n : Int) ≤ 9)] at c1
            refine ev_orT_f (ev_tst (ev_bin rfl rfl rfl)) (ev_orT_f (ev_nT_f c1) (ev_tst (ev_bin rfl rfl ?_)))
            rw [deq_str]
            congr 2
            by_cases e1 : n = 1
            · subst e1
              rw [decide_eq_true (one_is q), if_neg (by omega)]; rfl
            · rw [decide_eq_false (fun e => by rw [e, one_num] at q; cases q; exact e1 rfl), if_pos (by omega)]; rfl
          · have : (decide ((1 : Int) ≤ (n : Int)) && decide ((n : Int) ≤ 9)) = false := by
              rw [Bool.and_eq_false_iff]
              by_cases h2 : 1 ≤ n
              · exact .inr (decide_eq_false (by omega))
              · exact .inl (decide_eq_false (by omega))
            rw [this] at c1
            rw [if_neg (by omega)]
            exact ev_orT_f (ev_tst (ev_bin rfl rfl rfl)) (ev_orT_t (ev_nT_t c1))
    have tv : ∀ k, tmOf h = some k → (if h = ("" : Str) then D.int 1 else numD (numIn h)) = .int (k : Int) := by
      intro k hk
      unfold tmOf at hk
      by_cases hh : h = ("" : Str)
      · rw [if_pos hh] at hk ⊢
        cases hk; rfl
      · rw [if_neg hh] at hk ⊢
        cases q : numIn h with
        | none => rw [q] at hk; cases hk
        | some n =>
          rw [q] at hk
          dsimp only at hk
          split at hk
          · cases hk; rfl
          · cases hk
    have tst := tst _ rfl
    cases hk : tmOf h with
    | none =>
      rw [hk] at tst
      exact ev_fn (ev_seq s1 (ev_seq (ev_if_f t1 rfl) (ev_seq tms (ev_seq_rt (ev_if_t tst (ev_ret rfl))))))
    | some k =>
      rw [hk] at tst
      rw [tv k hk] at tst tms
      dsimp only
      by_cases ht : t = ("" : Str)
      · rw [if_pos ht]
        exact ev_fn (ev_seq s1 (ev_seq (ev_if_f t1 rfl) (ev_seq tms (ev_seq (ev_if_f tst rfl) (ev_seq_rt (ev_if_t (ev_tst (ev_bin rfl rfl (by rw [deq_str, decide_eq_true ht]))) (ev_ret (ev_tup (ev_cons rfl (ev_one rfl)) (sl 2 (by decide))))))))))
      · rw [if_neg ht]
        have lt : 1 ≤ t.length := by
          cases q : t.length with
          | zero => exact absurd (str_nil.mpr q) ht
          | succ n => omega
        have hx := ix0 lt (by omega : t.length ≤ sizeLine)
        have hu : dSl (.str t) (some 1) none = some (.str (cutS t (some 1) none)) := if_pos (by omega)
        have lu := cutS_length t (some 1) none
        have nu := e_nin (cutS t (some 1) none) (by omega)
        generalize cutS t (some 1) none = u at *
        let E : En := [.dat (.str s), .dat (.str h), .dat (.str f), .dat (.str t), .dat (numD (numIn u)), .dat (.int k)]
        have s5 : mAsg (bName 4) (mCall 1 g_number_in (mCons (mSl dSl (mVar 3) (mPart (mC (.int 1))) mNo) mNil)) [.dat (.str s), .dat (.str h), .dat (.str f), .dat (.str t), .un, .dat (.int k)] = .ok (.nx, E) := ev_setL (ev_call (ev_one (ev_sl rfl (ev_part rfl) rfl hu)) rfl nu)
        have c6 : mTst (mBin dNin (mBin dIx (mVar 3) (mC (.int 0))) (mC (.str "+-"))) E = .ok (!sgB t, E) := ev_tst (ev_bin (ev_bin rfl rfl hx) rfl (ninB_ch _ _))
        have pre : ∀ {q : R (Out × En)} {d : D} {e2 : En}, q = .ok (.rt d, e2) → (mSeq (mIf (mOrT (mTst (mBin dNin (mBin dIx (mVar 3) (mC (.int 0))) (mC (.str "+-")))) (mOrT (mTst (mBin dIs (mVar 4) (mC .non))) (mNotT (mTst (mChn dLe dLe (mC (.int 1)) (mVar 4) (mC (.int 1000000000000000000000000000000))))))) (mRet (mC .non)) mNext)
    (mRet (mTup (mCons (mVar 5) (mCons (mIfE (mTst (mBin dEq (mBin dIx (mVar 3) (mC (.int 0))) (mC (.str "+")))) (mVar 4) (mUn dNeg (mVar 4))) mNil))))) E = q → g_count_in [.str s] = .ok d := fun h1 h2 =>
          ev_fn (ev_seq s1 (ev_seq (ev_if_f t1 rfl) (ev_seq tms (ev_seq (ev_if_f tst rfl) (ev_seq (ev_if_f (ev_tst (ev_bin rfl rfl (by rw [deq_str, decide_eq_false ht]))) rfl) (ev_seq s5 (h2.trans h1)))))))
        cases hg : sgB t with
        | false =>
          rw [hg] at c6
          rw [if_pos rfl]
          exact pre rfl (ev_seq_rt (ev_if_t (ev_orT_t c6) (ev_ret rfl)))
        | true =>
          rw [hg] at c6
          rw [if_neg (by decide)]
          cases q : numIn u with
          | none =>
            have e : nmOf u = none := by unfold nmOf; rw [q]
            rw [e]
            have eE : E = [.dat (.str s), .dat (.str h), .dat (.str f), .dat (.str t), .dat (numD none), .dat (.int k)] := by rw [← q]
            rw [eE] at pre c6
            exact pre rfl (ev_seq_rt (ev_if_t (ev_orT_f c6 (ev_orT_t (ev_tst (ev_bin rfl rfl rfl)))) (ev_ret rfl)))
          | some n =>
            have eE : E = [.dat (.str s), .dat (.str h), .dat (.str f), .dat (.str t), .dat (numD (some n)), .dat (.int k)] := by rw [← q]
            rw [eE] at pre c6
            have c7 : mTst (mChn dLe dLe (mC (.int 1)) (mVar 4) (mC (.int 1000000000000000000000000000000))) [.dat (.str s), .dat (.str h), .dat (.str f), .dat (.str t), .dat (numD (some n)), .dat (.int k)] = .ok (decide ((1 : Int) ≤ (n : Int)) && decide ((n : Int) ≤ 1000000000000000000000000000000), [.dat (.str s), .dat (.str h), .dat (.str f), .dat (.str t), .dat (numD (some n)), .dat (.int k)]) := ev_tst (ev_chn rfl rfl rfl rfl rfl)
            by_cases hn : 1 ≤ n ∧ n ≤ 1000000000000000000000000000000
            · have e : nmOf u = some n := by unfold nmOf; rw [q]; exact if_pos hn
              rw [e]
              rw [decide_eq_true (by omega : (1 : Int) ≤ (n : Int)), decide_eq_true (by omega : (n : Int) ≤ 1000000000000000000000000000000)] at c7
              have cp : mTst (mBin dEq (mBin dIx (mVar 3) (mC (.int 0))) (mC (.str "+"))) [.dat (.str s), .dat (.str h), .dat (.str f), .dat (.str t), .dat (numD (some n)), .dat (.int k)] = .ok (plB t, [.dat (.str s), .dat (.str h), .dat (.str f), .dat (.str t), .dat (numD (some n)), .dat (.int k)]) := ev_tst (ev_bin (ev_bin rfl rfl hx) rfl (deq_str _ _))
              refine pre (e2 := [.dat (.str s), .dat (.str h), .dat (.str f), .dat (.str t), .dat (numD (some n)), .dat (.int k)]) rfl (ev_seq (ev_if_f (ev_orT_f c6 (ev_orT_f (ev_tst (ev_bin rfl rfl rfl)) (ev_nT_f c7))) rfl) (ev_ret (ev_tup (ev_cons rfl (ev_one (x := .int (if plB t = true then (n : Int) else -(n : Int))) ?_)) (sl 2 (by decide)))))
              cases hpl : plB t with
              | true => rw [hpl] at cp; exact ev_ife_t cp rfl
              | false => rw [hpl] at cp; exact ev_ife_f cp (ev_un rfl rfl)
            · have e : nmOf u = none := by unfold nmOf; rw [q]; exact if_neg hn
              rw [e]
              have : (decide ((1 : Int) ≤ (n : Int)) && decide ((n : Int) ≤ 1000000000000000000000000000000)) = false := by
                rw [Bool.and_eq_false_iff]
                by_cases h2 : 1 ≤ n
                · exact .inr (decide_eq_false (by omega))
                · exact .inl (decide_eq_false (by omega))
              rw [this] at c7
              exact pre rfl (ev_seq_rt (ev_if_t (ev_orT_f c6 (ev_orT_f (ev_tst (ev_bin rfl rfl rfl)) (ev_nT_t c7))) (ev_ret rfl)))
end G
namespace G
open PySem PySem.Spec PyProof.Rows L2 Mi
theorem int_of {u : Str} {n : Nat} (h : numIn u = some n) : dInt [.str u] = some (.int (n : Int)) := by
  have i := numIn_is h
  rw [i.e]
  exact figs_int i.f i.l1 (by have := i.l2; omega)
theorem lnB_some {u : Str} {n : Nat} (h : numIn u = some n) : lnB u = decide ((n : Int) ≤ 1000000000000000000000000000000) := by unfold lnB; rw [h]
theorem lnB_none {u : Str} (h : numIn u = none) : lnB u = false := by unfold lnB; rw [h]
theorem e_lvalue (s : Str) (hs : s.length ≤ 5000) (ha : Asc s) : g__law_value [.str s] = .ok (cD (valOf s)) := by
  have z := size_eq
  obtain ⟨⟨a1, l1⟩, a2, l2⟩ := part_asc ha hs
  have hp := fit_part hs
  unfold valOf
  generalize Txt.partition s ("n" : Str) = P at *
  obtain ⟨h, f, t⟩ := P
  dsimp only at *
  let E : En := [.dat (.str s), .dat (.str h), .dat (.str f), .dat (.str t)]
  have s1 : mAsg (bTup [1, 2, 3]) (mM1 dPart (mVar 0) (mC (.str "n"))) [.dat (.str s), .un, .un, .un] = .ok (.nx, E) := ev_asg (ev_m1 rfl rfl hp) rfl
  have nh : mTru (mCall 1 g__law_is_number (mCons (mVar 1) mNil)) E = .ok (lnB h, E) := ev_tru (ev_call (ev_one rfl) rfl (e_lisnum h (by omega) a1)) rfl
  by_cases hf : f = ("" : Str)
  · rw [if_pos hf]
    have t1 : mTst (mBin dEq (mVar 2) (mC (.str ""))) E = .ok (true, E) := ev_tst (ev_bin rfl rfl (by rw [deq_str, decide_eq_true hf]))
    refine ev_fn (es1 := E) (ev_seq s1 (ev_seq_rt (ev_if_t t1 (ev_ret ?_))))
    cases q : numIn h with
    | none =>
      rw [lnB_none q] at nh
      exact ev_ife_f nh rfl
    | some n =>
      rw [lnB_some q] at nh
      dsimp only
      by_cases hn : n ≤ 1000000000000000000000000000000
      · rw [decide_eq_true (by omega)] at nh
        rw [if_pos hn]
        exact ev_ife_t nh (ev_tup (ev_cons rfl (ev_one (ev_cb (ev_one rfl) (int_of q)))) (sl 2 (by decide)))
      · rw [decide_eq_false (by omega)] at nh
        rw [if_neg hn]
        exact ev_ife_f nh rfl
  · rw [if_neg hf]
    have t1 : mTst (mBin dEq (mVar 2) (mC (.str ""))) E = .ok (false, E) := ev_tst (ev_bin rfl rfl (by rw [deq_str, decide_eq_false hf]))
    have tst : mAndT (mTst (mBin dNe (mVar 1) (mC (.str "")))) (mOrT (mNotT (mTru (mCall 1 g__law_is_number (mCons (mVar 1) mNil)))) (mNotT (mTst (mChn dLe dLe (mC (.int 2)) (mCB dInt (mCons (mVar 1) mNil)) (mC (.int 9)))))) E = .ok ((tmOf h).isNone, E) := by
      unfold tmOf
      by_cases hh : h = ("" : Str)
      · rw [if_pos hh]
        exact ev_andT_f (ev_tst (ev_bin rfl rfl (by rw [dne_str, decide_eq_true hh]; rfl)))
      · rw [if_neg hh]
        refine ev_andT_t (ev_tst (ev_bin rfl rfl (by rw [dne_str, decide_eq_false hh]; rfl))) ?_
        cases q : numIn h with
        | none =>
          rw [lnB_none q] at nh
          exact ev_orT_t (ev_nT_t nh)
        | some n =>
          rw [lnB_some q] at nh
          dsimp only
          have c1 : mTst (mChn dLe dLe (mC (.int 2)) (mCB dInt (mCons (mVar 1) mNil)) (mC (.int 9))) E = .ok (decide ((2 : Int) ≤ (n : Int)) && decide ((n : Int) ≤ 9), E) := ev_tst (ev_chn rfl (ev_cb (ev_one rfl) (int_of q)) rfl rfl rfl)
          by_cases hn : n ≤ 1000000000000000000000000000000
          · rw [decide_eq_true (by omega)] at nh
            refine ev_orT_f (ev_nT_f nh) ?_
            by_cases h2 : 2 ≤ n ∧ n ≤ 9
            · rw [if_pos h2]
              rw [decide_eq_true (by omega : (2 : Int) ≤ (n : Int)), decide_eq_true (by omega : (n : Int) ≤ 9)] at c1
              exact ev_nT_f c1
            · rw [if_neg h2]
              have e : (decide ((2 : Int) ≤ (n : Int)) && decide ((n : Int) ≤ 9)) = false := by
                rw [Bool.and_eq_false_iff]
                by_cases h3 : 2 ≤ n
                · exact .inr (decide_eq_false (by omega))
                · exact .inl (decide_eq_false (by omega))
              rw [e] at c1
              exact ev_nT_t c1
          · rw [decide_eq_false (by omega)] at nh
            rw [if_neg (by omega)]
            exact ev_orT_t (ev_nT_t nh)
    have tv : ∀ k, tmOf h = some k → mIfE (mTst (mBin dEq (mVar 1) (mC (.str "")))) (mC (.int 1)) (mCB dInt (mCons (mVar 1) mNil)) E = .ok (.int (k : Int), E) := by
      intro k hk
      unfold tmOf at hk
      by_cases hh : h = ("" : Str)
      · rw [if_pos hh] at hk
        cases hk
        exact ev_ife_t (ev_tst (ev_bin rfl rfl (by rw [deq_str, decide_eq_true hh]))) rfl
      · rw [if_neg hh] at hk
        cases q : numIn h with
        | none => rw [q] at hk; cases hk
        | some n =>
          rw [q] at hk
          dsimp only at hk
          split at hk
          · cases hk
            exact ev_ife_f (ev_tst (ev_bin rfl rfl (by rw [deq_str, decide_eq_false hh]))) (ev_cb (ev_one rfl) (int_of q))
          · cases hk
    cases hk : tmOf h with
    | none =>
      rw [hk] at tst
      exact ev_fn (ev_seq s1 (ev_seq (ev_if_f t1 rfl) (ev_seq_rt (ev_if_t tst (ev_ret rfl)))))
    | some k =>
      rw [hk] at tst
      have tv := tv k hk
      dsimp only
      by_cases ht : t = ("" : Str)
      · rw [if_pos ht]
        exact ev_fn (es1 := E) (ev_seq s1 (ev_seq (ev_if_f t1 rfl) (ev_seq (ev_if_f tst rfl) (ev_seq_rt (ev_if_t (ev_tst (ev_bin rfl rfl (by rw [deq_str, decide_eq_true ht]))) (ev_ret (ev_tup (ev_cons tv (ev_one rfl)) (sl 2 (by decide)))))))))
      · rw [if_neg ht]
        have lt : 1 ≤ t.length := by
          cases q : t.length with
          | zero => exact absurd (str_nil.mpr q) ht
          | succ n => omega
        have hx := ix0 lt (by omega : t.length ≤ sizeLine)
        have hu : dSl (.str t) (some 1) none = some (.str (cutS t (some 1) none)) := if_pos (by omega)
        have lu := cutS_length t (some 1) none
        have au := a2.cut (some 1) none
        generalize cutS t (some 1) none = u at *
        have nu : mTru (mCall 1 g__law_is_number (mCons (mSl dSl (mVar 3) (mPart (mC (.int 1))) mNo) mNil)) E = .ok (lnB u, E) := ev_tru (ev_call (ev_one (ev_sl rfl (ev_part rfl) rfl hu)) rfl (e_lisnum u (by omega) au)) rfl
        have c6 : mTst (mBin dNin (mBin dIx (mVar 3) (mC (.int 0))) (mC (.str "+-"))) E = .ok (!sgB t, E) := ev_tst (ev_bin (ev_bin rfl rfl hx) rfl (ninB_ch _ _))
        have pre : ∀ {q : R (Out × En)} {d : D} {e2 : En}, q = .ok (.rt d, e2) → (mSeq (mIf (mOrT (mTst (mBin dNin (mBin dIx (mVar 3) (mC (.int 0))) (mC (.str "+-")))) (mOrT (mNotT (mTru (mCall 1 g__law_is_number (mCons (mSl dSl (mVar 3) (mPart (mC (.int 1))) mNo) mNil)))) (mTst (mBin dEq (mCB dInt (mCons (mSl dSl (mVar 3) (mPart (mC (.int 1))) mNo) mNil)) (mC (.int 0)))))) (mRet (mC .non)) mNext)
    (mRet (mTup (mCons (mIfE (mTst (mBin dEq (mVar 1) (mC (.str "")))) (mC (.int 1)) (mCB dInt (mCons (mVar 1) mNil))) (mCons (mBin dMul (mCB dInt (mCons (mSl dSl (mVar 3) (mPart (mC (.int 1))) mNo) mNil)) (mIfE (mTst (mBin dEq (mBin dIx (mVar 3) (mC (.int 0))) (mC (.str "+")))) (mC (.int 1)) (mUn dNeg (mC (.int 1))))) mNil))))) E = q → g__law_value [.str s] = .ok d := fun h1 h2 =>
          ev_fn (ev_seq s1 (ev_seq (ev_if_f t1 rfl) (ev_seq (ev_if_f tst rfl) (ev_seq (ev_if_f (ev_tst (ev_bin rfl rfl (by rw [deq_str, decide_eq_false ht]))) rfl) (h2.trans h1)))))
        cases hg : sgB t with
        | false =>
          rw [hg] at c6
          rw [if_pos rfl]
          exact pre rfl (ev_seq_rt (ev_if_t (ev_orT_t c6) (ev_ret rfl)))
        | true =>
          rw [hg] at c6
          rw [if_neg (by decide)]
          cases q : numIn u with
          | none =>
            have e : nmOf u = none := by unfold nmOf; rw [q]
            rw [e]
            rw [lnB_none q] at nu
            exact pre rfl (ev_seq_rt (ev_if_t (ev_orT_f c6 (ev_orT_t (ev_nT_t nu))) (ev_ret rfl)))
          | some n =>
            rw [lnB_some q] at nu
            have iu : mCB dInt (mCons (mSl dSl (mVar 3) (mPart (mC (.int 1))) mNo) mNil) E = .ok (.int (n : Int), E) := ev_cb (ev_one (ev_sl rfl (ev_part rfl) rfl hu)) (int_of q)
            have c8 : mTst (mBin dEq (mCB dInt (mCons (mSl dSl (mVar 3) (mPart (mC (.int 1))) mNo) mNil)) (mC (.int 0))) E = .ok (decide ((n : Int) = 0), E) := ev_tst (ev_bin iu rfl (deq_int _ _))
            by_cases hn : n ≤ 1000000000000000000000000000000
            · rw [decide_eq_true (by omega)] at nu
              by_cases h0 : n = 0
              · have e : nmOf u = none := by unfold nmOf; rw [q]; exact if_neg (by omega)
                rw [e]
                rw [decide_eq_true (by omega)] at c8
                exact pre rfl (ev_seq_rt (ev_if_t (ev_orT_f c6 (ev_orT_f (ev_nT_f nu) c8)) (ev_ret rfl)))
              · have e : nmOf u = some n := by unfold nmOf; rw [q]; exact if_pos (by omega)
                rw [e]
                rw [decide_eq_false (by omega)] at c8
                have cp : mTst (mBin dEq (mBin dIx (mVar 3) (mC (.int 0))) (mC (.str "+"))) E = .ok (plB t, E) := ev_tst (ev_bin (ev_bin rfl rfl hx) rfl (deq_str _ _))
                have mu : ∀ k : Int, k.natAbs ≤ 1 → dMul (.int (n : Int)) (.int k) = some (.int ((n : Int) * k)) := fun k h => mul_ok (by omega) (by omega)
                refine pre (e2 := E) rfl (ev_seq (ev_if_f (ev_orT_f c6 (ev_orT_f (ev_nT_f nu) c8)) rfl) (ev_ret (ev_tup (ev_cons tv (ev_one (x := .int (if plB t = true then (n : Int) else -(n : Int))) ?_)) (sl 2 (by decide)))))
                cases hpl : plB t with
                | true =>
                  rw [hpl] at cp
                  exact ev_bin iu (ev_ife_t cp rfl) (by rw [mu 1 (by decide), Int.mul_one]; rfl)
                | false =>
                  rw [hpl] at cp
                  exact ev_bin iu (ev_ife_f cp (ev_un rfl rfl)) (by rw [mu (-1) (by decide)]; simp)
            · have e : nmOf u = none := by unfold nmOf; rw [q]; exact if_neg (by omega)
              rw [e]
              rw [decide_eq_false (by omega)] at nu
              exact pre rfl (ev_seq_rt (ev_if_t (ev_orT_f c6 (ev_orT_t (ev_nT_t nu))) (ev_ret rfl)))
end G
namespace G
open PySem PySem.Spec PyProof.Rows L2 Mi
structure Cv (a : Nat) (m : Int) : Prop where
  a9 : a ≤ 9
  lo : a = 0 → 0 ≤ m
  m1 : -1000000000000000000000000000000 ≤ m
  m2 : m ≤ 1000000000000000000000000000000
abbrev cnt (a : Nat) (m : Int) : D := .tup [.int (a : Int), .int m]
theorem btw (v a b : Int) (h : a ≤ v ∧ v ≤ b) : g_is_between [.int v, .int a, .int b] = .ok (.bl true) := by rw [e_btw, decide_eq_true h.1, decide_eq_true h.2]; rfl
theorem e_isc {a : Nat} {m : Int} (c : Cv a m) : g_is_count [cnt a m] = .ok (.bl true) := by
  have h1 := c.a9; have h2 := c.lo; have h3 := c.m1; have h4 := c.m2
  have t1 : mIfE (mTst (mBin dEq (mBin dIx (mVar 0) (mC (.int 0))) (mC (.int 0)))) (mC (.int 0)) (mUn dNeg (mC (.int 1000000000000000000000000000000))) [.dat (cnt a m)] = .ok (.int (if a = 0 then 0 else -1000000000000000000000000000000), [.dat (cnt a m)]) := by
    by_cases h0 : a = 0
    · rw [if_pos h0]
      exact ev_ife_t (ev_tst (ev_bin (ev_bin rfl rfl rfl) rfl (by rw [deq_int, decide_eq_true (by omega)]))) rfl
    · rw [if_neg h0]
      exact ev_ife_f (ev_tst (ev_bin (ev_bin rfl rfl rfl) rfl (by rw [deq_int, decide_eq_false (by omega)]))) (ev_un rfl rfl)
  have b2 : g_is_between [.int m, .int (if a = 0 then 0 else -1000000000000000000000000000000), .int 1000000000000000000000000000000] = .ok (.bl true) := btw _ _ _ ⟨by split <;> omega, h4⟩
  exact ev_fn (es1 := [.dat (cnt a m)]) (ev_seq (ev_if_f (ev_orT_f (ev_nT_f (ev_tru (ev_isa rfl rfl) rfl)) (ev_orT_f (ev_tst (ev_bin (ev_cb (ev_one rfl) rfl) rfl rfl)) (ev_nT_f (ev_tru (ev_call (ev_cons (ev_bin rfl rfl rfl) (ev_cons rfl (ev_one rfl))) rfl (btw (a : Int) 0 9 ⟨by omega, by omega⟩)) rfl)))) rfl) (ev_ret (ev_call (ev_cons (ev_bin rfl rfl rfl) (ev_cons t1 (ev_one rfl))) rfl b2)))
theorem gt_i (i j : Int) : dGt (.int i) (.int j) = some (.bl (decide (j < i))) := rfl
theorem ge_i (i j : Int) : dGe (.int i) (.int j) = some (.bl (decide (j ≤ i))) := rfl
theorem e_due {a : Nat} {m : Int} (c : Cv a m) : g__law_due [cnt a m] = .ok (.bl true) := by
  have h1 := c.a9; have h2 := c.lo; have h3 := c.m1; have h4 := c.m2
  have comp : mComp [1] (mIT (mVar 0)) (bName 1) (mOrT (mNotT (mTru (mIsa .int (mVar 1)))) (mTru (mIsa .bool (mVar 1)))) (mC (.int 1)) [.dat (cnt a m), .un] = .ok (.lst [], [.dat (cnt a m), .un]) := rfl
  have c0 : mNotT (mTst (mChn dLe dLe (mC (.int 0)) (mBin dIx (mVar 0) (mC (.int 0))) (mC (.int 9)))) [.dat (cnt a m), .un] = .ok (false, [.dat (cnt a m), .un]) := by
    have h := ev_chn (es := [.dat (cnt a m), .un]) (a := mC (.int 0)) (b := mBin dIx (mVar 0) (mC (.int 0))) (c := mC (.int 9)) (f := dLe) (g := dLe) (x := .int 0) (y := .int (a : Int)) (z := .int 9) (k := decide ((0 : Int) ≤ a)) (l := decide ((a : Int) ≤ 9)) rfl (ev_bin rfl rfl rfl) rfl rfl rfl
    rw [decide_eq_true (by omega), decide_eq_true (by omega)] at h
    exact ev_nT_f (ev_tst h)
  have c1 : mTst (mBin dGt (mCB dAbs (mCons (mBin dIx (mVar 0) (mC (.int 1))) mNil)) (mBin dPow (mC (.int 10)) (mC (.int 30)))) [.dat (cnt a m), .un] = .ok (false, [.dat (cnt a m), .un]) :=
    ev_tst (ev_bin (ev_cb (ev_one (ev_bin rfl rfl rfl)) rfl) (ev_bin rfl rfl pow30) (by rw [gt_i, decide_eq_false (by split <;> omega)]))
  have fin : mOr (mBin dGt (mBin dIx (mVar 0) (mC (.int 0))) (mC (.int 0))) (mBin dGe (mBin dIx (mVar 0) (mC (.int 1))) (mC (.int 0))) [.dat (cnt a m), .un] = .ok (.bl true, [.dat (cnt a m), .un]) := by
    have h := ev_or (es := [.dat (cnt a m), .un]) (es1 := [.dat (cnt a m), .un]) (a := mBin dGt (mBin dIx (mVar 0) (mC (.int 0))) (mC (.int 0))) (b := mBin dGe (mBin dIx (mVar 0) (mC (.int 1))) (mC (.int 0))) (k := decide ((0 : Int) < a)) (l := decide ((0 : Int) ≤ m)) (ev_bin (ev_bin rfl rfl rfl) rfl rfl) (fun _ => ev_bin (ev_bin rfl rfl rfl) rfl rfl)
    have e : (decide ((0 : Int) < a) || decide ((0 : Int) ≤ m)) = true := by
      by_cases h0 : a = 0
      · rw [decide_eq_true (show (0 : Int) ≤ m from h2 h0), Bool.or_true]
      · rw [decide_eq_true (by omega : (0 : Int) < a)]; rfl
    rw [e] at h
    exact h
  exact ev_fn (es1 := [.dat (cnt a m), .un]) (ev_seq (ev_if_f (ev_orT_f (ev_nT_f (ev_tru (ev_isa rfl rfl) rfl)) (ev_tst (ev_bin (ev_cb (ev_one rfl) rfl) rfl rfl))) rfl) (ev_seq (ev_if_f (ev_tst (ev_bin comp rfl rfl)) rfl) (ev_seq (ev_if_f (ev_orT_f c0 c1) rfl) (ev_ret fin))))
theorem e_check_ok {d : D} (h : g_is_count [d] = .ok (.bl true)) : g_check_count [d] = .ok .non := by
  have e : m_check_count [.dat d] = .ok (.nx, [.dat d]) := ev_if_f (ev_nT_f (ev_tru (ev_call (ev_one rfl) rfl h) rfl)) rfl
  show fnM 1 m_check_count [d] = _
  unfold fnM
  rw [show ([d].map Sl.dat ++ List.replicate (1 - [d].length) Sl.un) = [Sl.dat d] from rfl, e]
  rfl
theorem e_check_no {d : D} (h : g_is_count [d] = .ok (.bl false)) : g_check_count [d] = .exc 1 d :=
  ev_fn_exc (ev_if_t (es1 := [.dat d]) (ev_nT_t (ev_tru (ev_call (ev_one rfl) rfl h) rfl)) (ev_raise rfl))
def intS (i : Int) : Str := Str.ofString (toString i)
theorem tl_intS (n : Nat) : TL.tl (intS (n : Int)) = TL.numL n := TL.tl_num n
theorem str_int {i : Int} (h : i.natAbs < 10 ^ 31) : dStr [.int i] = some (.str (intS i)) := by
  simp only [dStr, okB, decide_eq_true (log_small h), if_pos]
  rfl
def hdL (a : Nat) : Str := (if 1 < a then intS a else ("" : Str)) ++ ("n" : Str)
def T (a : Nat) (m : Int) : Str := if a = 0 then intS m else if m = 0 then hdL a else (hdL a ++ (if 0 < m then ("+" : Str) else ("-" : Str))) ++ intS (m.natAbs : Nat)
structure Sm (k : Nat) (s : Str) : Prop where
  asc : Asc s
  len : s.length ≤ k
theorem Sm.app {j k : Nat} {s t : Str} (a : Sm j s) (b : Sm k t) : Sm (j + k) (s ++ t) := by
  have e := TL.tl_append s t
  refine ⟨fun c hc => ?_, ?_⟩
  · have hc : c ∈ TL.tl (s ++ t) := hc
    rw [e] at hc
    rcases List.mem_append.mp hc with z | z
    · exact a.asc c z
    · exact b.asc c z
  · rw [TL.len_tl, e, List.length_append, ← TL.len_tl, ← TL.len_tl]
    have := a.len
    have := b.len
    omega
theorem Sm.mono {j k : Nat} {s : Str} (a : Sm j s) (h : j ≤ k) : Sm k s := ⟨a.asc, Nat.le_trans a.len h⟩
theorem sm_int {n : Nat} (h : n < 10 ^ 31) : Sm 31 (intS (n : Int)) := by
  refine ⟨fun c hc => ?_, ?_⟩
  · have hc : c ∈ TL.tl (intS (n : Int)) := hc
    rw [tl_intS] at hc
    have := TL.numL_digits n c hc
    omega
  · rw [TL.len_tl, tl_intS]
    exact TL.numL_len (by decide) h
def smB (k : Nat) (s : Str) : Bool := s.cps.toList.all (fun c => decide (c < 128)) && decide (s.length ≤ k)
theorem sm_by {k : Nat} {s : Str} (h : smB k s = true) : Sm k s := by
  unfold smB at h
  rw [Bool.and_eq_true, decide_eq_true_eq] at h
  exact ⟨fun c hc => of_decide_eq_true (List.all_eq_true.mp h.1 c hc), h.2⟩
theorem sm_hd {a : Nat} (h : a ≤ 9) : Sm 32 (hdL a) := by
  unfold hdL
  refine Sm.app (j := 31) (k := 1) ?_ (sm_by (by decide +kernel))
  split
  · exact sm_int (Nat.lt_of_le_of_lt h (by decide))
  · exact sm_by (by decide +kernel)
theorem sm_T {a : Nat} {m : Int} (c : Cv a m) : Sm 64 (T a m) := by
  have h1 := c.a9; have h2 := c.lo; have h3 := c.m1; have h4 := c.m2
  have hm : m.natAbs < 10 ^ 31 := by omega
  unfold T
  split
  · rename_i h0
    have e : m = ((m.natAbs : Nat) : Int) := by have := h2 h0; omega
    rw [e]
    exact (sm_int (by simpa using hm)).mono (by decide)
  · split
    · exact (sm_hd h1).mono (by decide)
    · refine Sm.app (j := 33) (k := 31) (Sm.app (j := 32) (k := 1) (sm_hd h1) ?_) (sm_int hm)
      split <;> exact sm_by (by decide +kernel)
theorem hd_eq {a : Nat} (h0 : a ≠ 0) : (if a = 1 then ("n" : Str) else (Str.empty ++ intS a) ++ ("n" : Str)) = hdL a := by
  unfold hdL
  by_cases h1 : a = 1
  · rw [if_pos h1, if_neg (by omega)]
    decide
  · rw [if_neg h1, if_pos (by omega)]
    refine TL.ext_tl ?_
    rw [TL.tl_append, TL.tl_append, TL.tl_append]
    rfl
theorem more_eq {a : Nat} {m : Int} (h : m ≠ 0) : (Str.empty ++ hdL a) ++ plusText m = (hdL a ++ (if 0 < m then ("+" : Str) else ("-" : Str))) ++ intS (m.natAbs : Nat) := by
  refine TL.ext_tl ?_
  rw [TL.tl_append, TL.tl_append, TL.tl_append, TL.tl_append, tl_intS]
  have e0 : TL.tl Str.empty = [] := rfl
  have e1 : TL.tl (plusText m) = (if m < 0 then [45] else [43]) ++ TL.numL m.natAbs := rfl
  rw [e0, e1, List.nil_append, List.append_assoc]
  by_cases hm : 0 < m
  · rw [if_pos hm, if_neg (by omega)]; rfl
  · rw [if_neg hm, if_pos (by omega)]; rfl
theorem ev_fs2 {es : En} {a b : M D} {x y : Str} (h1 : a es = .ok (.str x, es)) (h2 : b es = .ok (.str y, es)) (hx : x.length ≤ 5000) (hy : y.length ≤ 5000) : mFs [a, b] es = .ok (.str ((Str.empty ++ x) ++ y), es) := by
  have z := size_eq
  have l1 : (Str.empty ++ x).length ≤ sizeLine := by
    rw [TL.len_tl, TL.tl_append, List.length_append, ← TL.len_tl x]
    have : (TL.tl Str.empty).length = 0 := rfl
    omega
  have l2 : ((Str.empty ++ x) ++ y).length ≤ sizeLine := by
    rw [TL.len_tl, TL.tl_append, TL.tl_append, List.length_append, List.length_append, ← TL.len_tl x, ← TL.len_tl y]
    have : (TL.tl Str.empty).length = 0 := rfl
    omega
  simp only [mFs, mJs, Mi.bnd, h1, h2, if_pos l1, if_pos l2, Mi.ret]
theorem ev_fmtS {es : En} {a : M D} {x : Str} (h : a es = .ok (.str x, es)) (hx : x.length ≤ 5000) : mFmt a es = .ok (.str x, es) := by
  have z := size_eq
  have : x.length ≤ sizeLine := by omega
  simp only [mFmt, Mi.bnd, h, fmtOf, okB, decide_eq_true this, if_pos, Mi.opt]
theorem ev_fmtI {es : En} {a : M D} {i : Int} (h : a es = .ok (.int i, es)) (hx : i.natAbs < 10 ^ 31) : mFmt a es = .ok (.str (intS i), es) := by
  simp only [mFmt, Mi.bnd, h, fmtOf, okB, decide_eq_true (log_small hx), if_pos, Mi.opt]
  rfl
theorem len_plus {m : Int} (h : m.natAbs < 10 ^ 31) : (plusText m).length ≤ 32 := by
  rw [TL.len_tl]
  have e1 : TL.tl (plusText m) = (if m < 0 then [45] else [43]) ++ TL.numL m.natAbs := rfl
  rw [e1, List.length_append]
  have := TL.numL_len (by decide) h
  split <;> simp <;> omega
theorem e_format {a : Nat} {m : Int} (c : Cv a m) : g_format_count [cnt a m] = .ok (.str (T a m)) := by
  have h1 := c.a9; have h2 := c.lo; have h3 := c.m1; have h4 := c.m2
  have hm : m.natAbs < 10 ^ 31 := by omega
  have ha : ((a : Int)).natAbs < 10 ^ 31 := by omega
  have ck := e_check_ok (e_isc c)
  let E : En := [.dat (cnt a m), .dat (.int a), .dat (.int m), .un]
  have s0 : mDrop (mCall 1 g_check_count (mCons (mVar 0) mNil)) [.dat (cnt a m), .un, .un, .un] = .ok (.nx, [.dat (cnt a m), .un, .un, .un]) := ev_drop (ev_call (ev_one rfl) rfl ck)
  have s1 : mAsg (bTup [1, 2]) (mVar 0) [.dat (cnt a m), .un, .un, .un] = .ok (.nx, E) := rfl
  unfold T
  by_cases h0 : a = 0
  · rw [if_pos h0]
    exact ev_fn (es1 := E) (ev_seq s0 (ev_seq s1 (ev_seq_rt (ev_if_t (ev_tst (ev_bin rfl rfl (by rw [deq_int, decide_eq_true (by omega)]))) (ev_ret (ev_cb (ev_one rfl) (str_int hm)))))))
  · rw [if_neg h0]
    have t0 : mTst (mBin dEq (mVar 1) (mC (.int 0))) E = .ok (false, E) := ev_tst (ev_bin rfl rfl (by rw [deq_int, decide_eq_false (by omega)]))
    have lh := (sm_hd h1).len
    have hd : mIfE (mTst (mBin dEq (mVar 1) (mC (.int 1)))) (mC (.str "n")) (mFs [(mFmt (mVar 1)), (mC (.str "n"))]) E = .ok (.str (hdL a), E) := by
      rw [← hd_eq h0]
      by_cases ha1 : a = 1
      · rw [if_pos ha1]
        exact ev_ife_t (ev_tst (ev_bin rfl rfl (by rw [deq_int, decide_eq_true (by omega)]))) rfl
      · rw [if_neg ha1]
        have := (sm_int (n := a) (Nat.lt_of_le_of_lt h1 (by decide))).len
        exact ev_ife_f (ev_tst (ev_bin rfl rfl (by rw [deq_int, decide_eq_false (by omega)]))) (ev_fs2 (ev_fmtI rfl ha) rfl (by omega) (by decide +kernel))
    let E2 : En := [.dat (cnt a m), .dat (.int a), .dat (.int m), .dat (.str (hdL a))]
    have s3 : mAsg (bName 3) (mIfE (mTst (mBin dEq (mVar 1) (mC (.int 1)))) (mC (.str "n")) (mFs [(mFmt (mVar 1)), (mC (.str "n"))])) E = .ok (.nx, E2) := ev_setL hd
    refine ev_fn (es1 := E2) (ev_seq s0 (ev_seq s1 (ev_seq (ev_if_f t0 rfl) (ev_seq s3 (ev_ret ?_)))))
    by_cases hm0 : m = 0
    · rw [if_pos hm0]
      exact ev_ife_t (ev_tst (ev_bin rfl rfl (by rw [deq_int, decide_eq_true hm0]))) rfl
    · rw [if_neg hm0, ← more_eq hm0]
      have lp := len_plus hm
      exact ev_ife_f (ev_tst (ev_bin rfl rfl (by rw [deq_int, decide_eq_false hm0]))) (ev_fs2 (ev_fmtS rfl (by omega)) (ev_un rfl (by simp only [fmtP, okB, decide_eq_true (log_small hm), if_pos])) (by omega) (by omega))
theorem int_bl (b : Bool) : dInt [.bl b] = some (.int (if b then 1 else 0)) := rfl
theorem cat_ok {s t : Str} (h1 : s.length ≤ 5000) (h2 : t.length ≤ 5000) : dAdd (.str s) (.str t) = some (.str (s ++ t)) := by
  have z := size_eq
  have : s.length + t.length ≤ sizeLine := by omega
  simp only [dAdd, okB, decide_eq_true this, if_pos]
theorem e_ltext {a : Nat} {m : Int} (c : Cv a m) : g__law_text [cnt a m] = .ok (.str (T a m)) := by
  have h1 := c.a9; have h2 := c.lo; have h3 := c.m1; have h4 := c.m2
  have hm : m.natAbs < 10 ^ 31 := by omega
  have ha : ((a : Int)).natAbs < 10 ^ 31 := by omega
  let E : En := [.dat (cnt a m), .un]
  unfold T
  by_cases h0 : a = 0
  · rw [if_pos h0]
    exact ev_fn (es1 := E) (ev_seq_rt (ev_if_t (ev_tst (ev_bin (ev_bin rfl rfl rfl) rfl (by rw [deq_int, decide_eq_true (by omega)]))) (ev_ret (ev_cb (ev_one (ev_bin rfl rfl rfl)) (str_int hm)))))
  · rw [if_neg h0]
    have t0 : mTst (mBin dEq (mBin dIx (mVar 0) (mC (.int 0))) (mC (.int 0))) E = .ok (false, E) := ev_tst (ev_bin (ev_bin rfl rfl rfl) rfl (by rw [deq_int, decide_eq_false (by omega)]))
    have la := (sm_int (n := a) (Nat.lt_of_le_of_lt h1 (by decide))).len
    have pick : dIx (.lst [.str ("" : Str), .str (intS a)]) (.int (if decide ((1 : Int) < a) then 1 else 0)) = some (.str (if 1 < a then intS a else ("" : Str))) := by
      by_cases h : 1 < a
      · rw [if_pos h, decide_eq_true (by omega)]; rfl
      · rw [if_neg h, decide_eq_false (by omega)]; rfl
    have lp : (if 1 < a then intS a else ("" : Str)).length ≤ 5000 := by
      split
      · omega
      · decide
    have hd : mBin dAdd (mBin dIx (mLst (mCons (mC (.str "")) (mCons (mCB dStr (mCons (mBin dIx (mVar 0) (mC (.int 0))) mNil)) mNil))) (mCB dInt (mCons (mBin dGt (mBin dIx (mVar 0) (mC (.int 0))) (mC (.int 1))) mNil))) (mC (.str "n")) E = .ok (.str (hdL a), E) :=
      ev_bin (ev_bin (ev_lst (ev_cons rfl (ev_one (ev_cb (ev_one (ev_bin rfl rfl rfl)) (str_int ha)))) (sl 2 (by decide))) (ev_cb (ev_one (ev_bin (ev_bin rfl rfl rfl) rfl rfl)) (int_bl _)) pick) rfl (cat_ok lp (by decide +kernel))
    let E2 : En := [.dat (cnt a m), .dat (.str (hdL a))]
    have lh := (sm_hd h1).len
    refine ev_fn (es1 := E2) (ev_seq (ev_if_f t0 rfl) (ev_seq (ev_setL (es2 := E2) hd) ?_))
    by_cases hm0 : m = 0
    · rw [if_pos hm0]
      exact ev_seq_rt (ev_if_t (ev_tst (ev_bin (ev_bin rfl rfl rfl) rfl (by rw [deq_int, decide_eq_true hm0]))) (ev_ret rfl))
    · rw [if_neg hm0]
      have ab : dAbs [.int m] = some (.int ((m.natAbs : Nat) : Int)) := by
        show some (D.int (if m < 0 then -m else m)) = _
        congr 2
        split <;> omega
      have pick2 : dIx (.lst [.str ("-" : Str), .str ("+" : Str)]) (.int (if decide ((0 : Int) < m) then 1 else 0)) = some (.str (if 0 < m then ("+" : Str) else ("-" : Str))) := by
        by_cases h : 0 < m
        · rw [if_pos h, decide_eq_true h]; rfl
        · rw [if_neg h, decide_eq_false h]; rfl
      have lm := (sm_int hm).len
      have ls : (if 0 < m then ("+" : Str) else ("-" : Str)).length ≤ 1 := by split <;> decide
      have lc : (hdL a ++ (if 0 < m then ("+" : Str) else ("-" : Str))).length ≤ 5000 := by
        rw [TL.len_tl, TL.tl_append, List.length_append, ← TL.len_tl, ← TL.len_tl]; omega
      exact ev_seq (ev_if_f (ev_tst (ev_bin (ev_bin rfl rfl rfl) rfl (by rw [deq_int, decide_eq_false hm0]))) rfl) (ev_ret (ev_bin (ev_bin rfl (ev_bin rfl (ev_cb (ev_one (ev_bin (ev_bin rfl rfl rfl) rfl rfl)) (int_bl _)) pick2) (cat_ok (by omega) (by omega))) (ev_cb (ev_one (ev_cb (ev_one (ev_bin rfl rfl rfl)) ab)) (str_int (by simpa using hm))) (cat_ok lc (by omega))))
def rnd (a : Nat) (m n : Int) : Int := if (a : Int) * n + m > 0 then (a : Int) * n + m else 0
theorem mul_an {a : Nat} {n : Int} (h1 : a ≤ 9) (n0 : 0 ≤ n) (n1 : n ≤ 1000000000000000000000000000000) : dMul (.int (a : Int)) (.int n) = some (.int ((a : Int) * n)) := mul_ok (by omega) (by omega)
theorem e_cnum {n : Int} (n0 : 0 ≤ n) (n1 : n ≤ 1000000000000000000000000000000) : g_check_number [.int n] = .ok .non := by
  have e : m_check_number [.dat (.int n)] = .ok (.nx, [.dat (.int n)]) := ev_if_f (ev_nT_f (ev_tru (ev_call (ev_cons rfl (ev_cons rfl (ev_one rfl))) rfl (btw n 0 _ ⟨n0, n1⟩)) rfl)) rfl
  show fnM 1 m_check_number [.int n] = _
  unfold fnM
  rw [show ([D.int n].map Sl.dat ++ List.replicate (1 - [D.int n].length) Sl.un) = [Sl.dat (.int n)] from rfl, e]
  rfl
theorem e_cnum_no {d : D} (h : g_is_between [d, .int 0, .int 1000000000000000000000000000000] = .ok (.bl false)) : g_check_number [d] = .exc 2 d :=
  ev_fn_exc (ev_if_t (es1 := [.dat d]) (ev_nT_t (ev_tru (ev_call (ev_cons rfl (ev_cons rfl (ev_one rfl))) rfl h) rfl)) (ev_raise rfl))
theorem e_rounds {a : Nat} {m n : Int} (c : Cv a m) (n0 : 0 ≤ n) (n1 : n ≤ 1000000000000000000000000000000) : g_rounds [cnt a m, .int n] = .ok (.int (rnd a m n)) := by
  have ra : g_rounds_at [cnt a m, .int n] = .ok (.int (rnd a m n)) := ev_fn (ev_ret (ev_cb (ev_cons rfl (ev_one (ev_bin (ev_bin (ev_bin rfl rfl rfl) rfl (mul_an c.a9 n0 n1)) (ev_bin rfl rfl rfl) rfl))) rfl))
  exact ev_fn (es1 := [.dat (cnt a m), .dat (.int n)]) (ev_seq (ev_drop (ev_call (ev_one rfl) rfl (e_check_ok (e_isc c)))) (ev_seq (ev_drop (ev_call (ev_one rfl) rfl (e_cnum n0 n1))) (ev_ret (ev_call (ev_cons rfl (ev_one rfl)) rfl ra))))
theorem ev_drop_exc {es : En} {a : M D} {c : Nat} {d : D} (h : a es = .exc c d) : mDrop a es = .exc c d := by simp only [mDrop, Mi.bnd, h]
theorem ev_call_exc {es es1 : En} {n : Nat} {g : List D → R D} {w : M (List D)} {xs : List D} {c : Nat} {d : D} (h : w es = .ok (xs, es1)) (hl : xs.length = n) (h2 : g xs = .exc c d) : mCall n g w es = .exc c d := by simp only [mCall, Mi.bnd, h, if_pos hl, Mi.lft, h2]
theorem e_rounds_no {d x : D} (h : g_is_count [d] = .ok (.bl false)) : g_rounds [d, x] = .exc 1 d :=
  ev_fn_exc (ev_seq_exc (ev_drop_exc (ev_call_exc (ev_one rfl) rfl (e_check_no h))))
theorem e_rounds_nn {a : Nat} {m : Int} {x : D} (c : Cv a m) (h : g_is_between [x, .int 0, .int 1000000000000000000000000000000] = .ok (.bl false)) : g_rounds [cnt a m, x] = .exc 2 x :=
  ev_fn_exc (ev_seq (es1 := [.dat (cnt a m), .dat x]) (ev_drop (ev_call (ev_one rfl) rfl (e_check_ok (e_isc c)))) (ev_seq_exc (ev_drop_exc (ev_call_exc (ev_one rfl) rfl (e_cnum_no h)))))
theorem e_format_no {d : D} (h : g_is_count [d] = .ok (.bl false)) : g_format_count [d] = .exc 1 d :=
  ev_fn_exc (ev_seq_exc (ev_drop_exc (ev_call_exc (ev_one rfl) rfl (e_check_no h))))
end G
namespace G
open PySem PySem.Spec PyProof.Rows L2 Mi
theorem rc_small : ∀ c : Fin 128, ∀ q ∈ [34, 39], ∀ d ∈ Builtin.Str.reprChar q c.val, d < 128 := by decide +kernel
theorem quote_is (x : Str) : reprQuote x ∈ [34, 39] := by
  unfold reprQuote
  split <;> simp
theorem fold_small {q : Nat} (hq : q ∈ [34, 39]) : ∀ (l : List Nat) (acc : Array Nat), (∀ c ∈ l, c < 128) → (∀ d ∈ acc.toList, d < 128) → ∀ d ∈ (l.foldl (fun out c => out ++ (Builtin.Str.reprChar q c).toArray) acc).toList, d < 128
  | [], acc, _, h => h
  | c :: l, acc, hl, h => fold_small hq l _ (fun d m => hl d (List.mem_cons_of_mem _ m)) fun d m => by
    rw [Array.toList_append] at m
    rcases List.mem_append.mp m with z | z
    · exact h d z
    · exact rc_small ⟨c, hl c List.mem_cons_self⟩ q hq d (by simpa using z)
theorem asc_repr {x : Str} (h : Asc x) : Asc (reprText x) := by
  intro d hd
  unfold reprText at hd
  have hd : d ∈ ((x.cps.foldl (fun out c => out ++ (Builtin.Str.reprChar (reprQuote x) c).toArray) #[reprQuote x]).push (reprQuote x)).toList := hd
  have hq := quote_is x
  have q1 : reprQuote x < 128 := by
    rcases List.mem_cons.mp hq with e | e
    · rw [e]; decide
    · rw [List.mem_singleton.mp e]; decide
  rw [Array.toList_push, ← Array.foldl_toList] at hd
  rcases List.mem_append.mp hd with z | z
  · exact fold_small hq _ _ h (fun e he => by
      have : e = reprQuote x := by simpa using he
      rw [this]; exact q1) d z
  · rw [List.mem_singleton.mp z]; exact q1
theorem len_repr {x : Str} {k : Nat} (h : Sm k x) : (reprText x).length ≤ 10 * k + 2 := by
  have := StrLaws.reprText_len x fun c hc => Nat.lt_of_lt_of_le (h.asc c hc) (by decide)
  have := h.len
  omega
theorem show_str {x : Str} (h : Sm 5000 x) : dShow (.str x) = some (.str (reprText x)) := by
  have z := size_eq
  have e : PyData.shown (.str x) = reprText x := by unfold PyData.shown; rfl
  have l := len_repr h
  have c : canShow (.str x) = true := by
    unfold canShow
    rw [e, decide_eq_true (by omega : (reprText x).length ≤ sizeLine)]
    unfold PyData.showable PyData.hasDict PyData.depth
    rfl
  show (match toPy (.str x) with | some q => if canShow q = true then some (D.str q.shown) else none | none => none) = _
  have e2 : toPy (.str x) = some (.str x) := by unfold toPy; rfl
  rw [e2]
  dsimp only
  rw [if_pos c, e]
theorem e_ref_ok (d : D) : g__law_refused (.ok d) [] = .ok d := rfl
theorem e_ref_1 {d : D} {s : Str} (h : dShow d = some (.str s)) : g__law_refused (.exc 1 d) [] = .ok (.lst [.str "count", .str s, .bl true]) := by
  have z := size_eq
  have st : mAsg (bName 1) (mLst (mCons (mC (.str "count")) (mCons (mCB dShow1 (mCons (mC d) mNil)) (mCons (mC (.bl true)) mNil)))) [.dat .fn, .dat .non, .un] = .ok (.nx, [.dat .fn, .dat (.lst [.str "count", .str s, .bl true]), .un]) :=
    ev_setL (ev_lst (ev_cons rfl (ev_cons (ev_cb (ev_one rfl) h) (ev_one rfl))) (sl 3 (by decide)))
  have tr : mTryL 2 1 0 (.exc 1 d) [(1, fun dv => (mAsg (bName 1) (mLst (mCons (mC (.str "count")) (mCons (mCB dShow1 (mCons (mC dv) mNil)) (mCons (mC (.bl true)) mNil)))))), (2, fun dv => (mAsg (bName 1) (mLst (mCons (mC (.str "number")) (mCons (mCB dShow1 (mCons (mC dv) mNil)) mNil))))), (0, fun dv => (mAsg (bName 1) (mLst (mCons (mC (.str "text")) (mCons (mCB dShow1 (mCons (mC dv) mNil)) mNil)))))] [.dat .fn, .dat .non, .un] = .ok (.nx, [.dat .fn, .dat (.lst [.str "count", .str s, .bl true]), .un]) := by
    show (match mAsg (bName 1) (mLst (mCons (mC (.str "count")) (mCons (mCB dShow1 (mCons (mC d) mNil)) (mCons (mC (.bl true)) mNil)))) [.dat .fn, .dat .non, .un] with | .ok (o, es2) => R.ok (o, es2.set 2 Sl.un) | .exc c d => .exc c d | .bad => .bad) = _
    rw [st]; rfl
  exact ev_fn (m := m__law_refused (.exc 1 d)) (ev_seq (es1 := [.dat .fn, .dat .non, .un]) rfl (ev_seq tr (ev_ret rfl)))
theorem e_ref_2 {d : D} {s : Str} (h : dShow d = some (.str s)) : g__law_refused (.exc 2 d) [] = .ok (.lst [.str "number", .str s]) := by
  have z := size_eq
  have st : mAsg (bName 1) (mLst (mCons (mC (.str "number")) (mCons (mCB dShow1 (mCons (mC d) mNil)) mNil))) [.dat .fn, .dat .non, .un] = .ok (.nx, [.dat .fn, .dat (.lst [.str "number", .str s]), .un]) :=
    ev_setL (ev_lst (ev_cons rfl (ev_one (ev_cb (ev_one rfl) h))) (sl 2 (by decide)))
  have tr : mTryL 2 1 0 (.exc 2 d) [(1, fun dv => (mAsg (bName 1) (mLst (mCons (mC (.str "count")) (mCons (mCB dShow1 (mCons (mC dv) mNil)) (mCons (mC (.bl true)) mNil)))))), (2, fun dv => (mAsg (bName 1) (mLst (mCons (mC (.str "number")) (mCons (mCB dShow1 (mCons (mC dv) mNil)) mNil))))), (0, fun dv => (mAsg (bName 1) (mLst (mCons (mC (.str "text")) (mCons (mCB dShow1 (mCons (mC dv) mNil)) mNil)))))] [.dat .fn, .dat .non, .un] = .ok (.nx, [.dat .fn, .dat (.lst [.str "number", .str s]), .un]) := by
    show (match mAsg (bName 1) (mLst (mCons (mC (.str "number")) (mCons (mCB dShow1 (mCons (mC d) mNil)) mNil))) [.dat .fn, .dat .non, .un] with | .ok (o, es2) => R.ok (o, es2.set 2 Sl.un) | .exc c d => .exc c d | .bad => .bad) = _
    rw [st]; rfl
  exact ev_fn (m := m__law_refused (.exc 2 d)) (ev_seq (es1 := [.dat .fn, .dat .non, .un]) rfl (ev_seq tr (ev_ret rfl)))
theorem e_ref_0 {d : D} {s : Str} (h : dShow d = some (.str s)) : g__law_refused (.exc 0 d) [] = .ok (.lst [.str "text", .str s]) := by
  have z := size_eq
  have st : mAsg (bName 1) (mLst (mCons (mC (.str "text")) (mCons (mCB dShow1 (mCons (mC d) mNil)) mNil))) [.dat .fn, .dat .non, .un] = .ok (.nx, [.dat .fn, .dat (.lst [.str "text", .str s]), .un]) :=
    ev_setL (ev_lst (ev_cons rfl (ev_one (ev_cb (ev_one rfl) h))) (sl 2 (by decide)))
  have tr : mTryL 2 1 0 (.exc 0 d) [(1, fun dv => (mAsg (bName 1) (mLst (mCons (mC (.str "count")) (mCons (mCB dShow1 (mCons (mC dv) mNil)) (mCons (mC (.bl true)) mNil)))))), (2, fun dv => (mAsg (bName 1) (mLst (mCons (mC (.str "number")) (mCons (mCB dShow1 (mCons (mC dv) mNil)) mNil))))), (0, fun dv => (mAsg (bName 1) (mLst (mCons (mC (.str "text")) (mCons (mCB dShow1 (mCons (mC dv) mNil)) mNil)))))] [.dat .fn, .dat .non, .un] = .ok (.nx, [.dat .fn, .dat (.lst [.str "text", .str s]), .un]) := by
    show (match mAsg (bName 1) (mLst (mCons (mC (.str "text")) (mCons (mCB dShow1 (mCons (mC d) mNil)) mNil))) [.dat .fn, .dat .non, .un] with | .ok (o, es2) => R.ok (o, es2.set 2 Sl.un) | .exc c d => .exc c d | .bad => .bad) = _
    rw [st]; rfl
  exact ev_fn (m := m__law_refused (.exc 0 d)) (ev_seq (es1 := [.dat .fn, .dat .non, .un]) rfl (ev_seq tr (ev_ret rfl)))
theorem ev_lamC_ok {g : R D → List D → R D} {m : M D} {es e2 : En} {d x : D} (h : m (es.map datS) = .ok (d, e2)) (h2 : g (.ok d) [] = .ok x) (h3 : noFn x = true) : mLamC g m es = .ok (x, es) := by
  simp only [mLamC, h, resOf, h2, h3, if_pos]
theorem ev_lamC_exc {g : R D → List D → R D} {m : M D} {es : En} {c : Nat} {d x : D} (h : m (es.map datS) = .exc c d) (h2 : g (.exc c d) [] = .ok x) (h3 : noFn x = true) : mLamC g m es = .ok (x, es) := by
  simp only [mLamC, h, resOf, h2, h3, if_pos]
theorem isn_cD (o : Option (Nat × Int)) : dIs (cD o) .non = some (.bl o.isNone) := by
  cases o with
  | none => rfl
  | some p => obtain ⟨k, m⟩ := p; rfl
theorem isnn_cD (o : Option (Nat × Int)) : dIsn (cD o) .non = some (.bl o.isSome) := by
  cases o with
  | none => rfl
  | some p => obtain ⟨k, m⟩ := p; rfl
theorem e_parse {s : Str} (h : Sm 5000 s) : g_parse_count [.str s] = match valOf s with
    | none => .exc 0 (.str s)
    | some p => .ok (cD (some p)) := by
  have ci := e_count_in s h.len h.asc
  have s1 : mAsg (bName 1) (mIfE (mTru (mIsa .str (mVar 0))) (mCall 1 g_count_in (mCons (mVar 0) mNil)) (mC .non)) [.dat (.str s), .un] = .ok (.nx, [.dat (.str s), .dat (cD (valOf s))]) := ev_setL (ev_ife_t (ev_tru (ev_isa rfl rfl) rfl) (ev_call (ev_one rfl) rfl ci))
  have t : mTst (mBin dIs (mVar 1) (mC .non)) [.dat (.str s), .dat (cD (valOf s))] = .ok ((valOf s).isNone, [.dat (.str s), .dat (cD (valOf s))]) := ev_tst (ev_bin rfl rfl (isn_cD _))
  cases q : valOf s with
  | none =>
    rw [q] at s1 t
    exact ev_fn_exc (ev_seq s1 (ev_seq_exc (ev_if_t t (ev_raise rfl))))
  | some p =>
    rw [q] at s1 t
    exact ev_fn (ev_seq s1 (ev_seq (ev_if_f t rfl) (ev_ret rfl)))
theorem e_parse_no {d : D} (h : isa .str d = some false) : g_parse_count [d] = .exc 0 d := by
  have s1 : mAsg (bName 1) (mIfE (mTru (mIsa .str (mVar 0))) (mCall 1 g_count_in (mCons (mVar 0) mNil)) (mC .non)) [.dat d, .un] = .ok (.nx, [.dat d, .dat .non]) := ev_setL (ev_ife_f (ev_tru (ev_isa rfl h) rfl) rfl)
  exact ev_fn_exc (ev_seq s1 (ev_seq_exc (ev_if_t (ev_tst (ev_bin rfl rfl rfl)) (ev_raise rfl))))
end G
namespace G
open PySem PySem.Spec PyProof.Rows L2 Mi
theorem tl_neg (k : Nat) : TL.tl (intS (Int.negSucc k)) = 45 :: TL.numL (k + 1) := by
  have e : toString (Int.negSucc k) = "-" ++ Nat.repr (k + 1) := rfl
  unfold intS
  rw [e, TL.tl_ofString, String.toList_append, List.map_append]
  have e2 : (Nat.repr (k + 1)).toList.map Char.toNat = TL.numL (k + 1) := by
    have := TL.tl_num (k + 1)
    rw [TL.tl_ofString] at this
    exact this
  rw [e2]
  rfl
theorem sm_intZ {i : Int} (h : i.natAbs < 10 ^ 31) : Sm 32 (intS i) := by
  cases i with
  | ofNat n => exact (sm_int (n := n) h).mono (by decide)
  | negSucc k =>
    have hk : k + 1 < 10 ^ 31 := h
    refine ⟨fun c hc => ?_, ?_⟩
    · have hc : c ∈ TL.tl (intS (Int.negSucc k)) := hc
      rw [tl_neg] at hc
      rcases List.mem_cons.mp hc with z | z
      · omega
      · have := TL.numL_digits _ c z
        omega
    · rw [TL.len_tl, tl_neg, List.length_cons]
      have := TL.numL_len (by decide) hk
      omega
theorem shown_int (i : Int) : PyData.shown (.int i) = intS i := by unfold PyData.shown; rfl
theorem showable_int {i : Int} (h : i.natAbs < 10 ^ 31) : PyData.showable (.int i) = true := by unfold PyData.showable; exact decide_eq_true (log_small h)
theorem can_of {q : PyData} (h1 : q.showable = true) (h2 : q.hasDict = false) (h3 : q.depth ≤ 100) (h4 : q.shown.length ≤ 5000) : canShow q = true := by
  have z := size_eq
  unfold canShow
  rw [h1, h2, decide_eq_true h3, decide_eq_true (by omega : q.shown.length ≤ sizeLine)]; rfl
theorem show_of {d : D} {q : PyData} (h0 : d ≠ .dc0) (h1 : toPy d = some q) (h2 : canShow q = true) : dShow d = some (.str q.shown) := by
  unfold dShow
  split
  · exact absurd rfl h0
  · rw [h1]; dsimp only; rw [if_pos h2]
theorem sm_join3 {x y z : Str} {k : Nat} (hx : Sm k x) (hy : Sm k y) (hz : Sm k z) : Sm (3 * k + 6) (tupleText [x, y, z]) := by
  have l1 : Sm 1 ("(" : Str) := sm_by (by decide +kernel)
  have l2 : Sm 2 (", " : Str) := sm_by (by decide +kernel)
  have l3 : Sm 1 (")" : Str) := sm_by (by decide +kernel)
  have h := ((l1.app ((hx.app l2).app ((hy.app l2).app hz))).app l3)
  exact Sm.mono (show Sm _ (tupleText [x, y, z]) from h) (by omega)
theorem sm_list2 {x y : Str} {k : Nat} (hx : Sm k x) (hy : Sm k y) : Sm (2 * k + 8) (listText [x, y]) := by
  have l1 : Sm 1 ("[" : Str) := sm_by (by decide +kernel)
  have l0 : Sm 0 ("" : Str) := sm_by (by decide +kernel)
  have l2 : Sm 2 (", " : Str) := sm_by (by decide +kernel)
  have l3 : Sm 1 ("]" : Str) := sm_by (by decide +kernel)
  have h := (((((l1.app l0).app hx).app l2).app hy).app l3)
  exact Sm.mono (show Sm _ (listText [x, y]) from h) (by omega)
inductive Th (t : D) : Prop where
  | good (h1 : g_is_count [t] = .ok (.bl true)) (h2 : g__law_due [t] = .ok (.bl true))
  | bad (h1 : g_is_count [t] = .ok (.bl false)) (h2 : g__law_due [t] = .ok (.bl false)) (s : Str) (h3 : dShow t = some (.str s)) (h4 : PyData.strOk s = true)
theorem th_three {a : Nat} {m : Int} (c : Cv a m) : Th (.tup [.int (a : Int), .int m, .int 0]) := by
  have h1 := c.a9; have h3 := c.m1; have h4 := c.m2
  have ha : ((a : Int)).natAbs < 10 ^ 31 := by omega
  have hm : m.natAbs < 10 ^ 31 := by omega
  have e : toPy (.tup [.int (a : Int), .int m, .int 0]) = some (.tuple [.int a, .int m, .int 0]) := by simp only [toPy, toPyL, Option.map_some]
  have es : PyData.shown (.tuple [.int a, .int m, .int 0]) = tupleText [intS a, intS m, intS 0] := by
    unfold PyData.shown
    simp only [PyData.shownAll, shown_int]
  have sm := sm_join3 (sm_intZ ha) (sm_intZ hm) (sm_intZ (i := 0) (by decide))
  have cs : canShow (.tuple [.int a, .int m, .int 0]) = true := by
    refine can_of ?_ (by simp [PyData.hasDict, PyData.hasDictAll]) (by simp [PyData.depth, PyData.depthAll]) ?_
    · unfold PyData.showable
      simp only [PyData.showableAll, showable_int ha, showable_int hm, showable_int (i := 0) (by decide), Bool.and_self]
    · rw [es]; have := sm.len; omega
  exact .bad rfl rfl _ (show_of (by intro h; cases h) e cs) (by rw [es]; exact asc_ok sm.asc)
theorem th_list {a : Nat} {m : Int} (c : Cv a m) : Th (.lst [.int (a : Int), .int m]) := by
  have h1 := c.a9; have h3 := c.m1; have h4 := c.m2
  have ha : ((a : Int)).natAbs < 10 ^ 31 := by omega
  have hm : m.natAbs < 10 ^ 31 := by omega
  have e : toPy (.lst [.int (a : Int), .int m]) = some (.list [.int a, .int m]) := by simp only [toPy, toPyL, Option.map_some]
  have es : PyData.shown (.list [.int a, .int m]) = listText [intS a, intS m] := by
    unfold PyData.shown
    simp only [PyData.shownAll, shown_int]
  have sm := sm_list2 (sm_intZ ha) (sm_intZ hm)
  have cs : canShow (.list [.int a, .int m]) = true := by
    refine can_of ?_ (by simp [PyData.hasDict, PyData.hasDictAll]) (by simp [PyData.depth, PyData.depthAll]) ?_
    · unfold PyData.showable
      simp only [PyData.showableAll, showable_int ha, showable_int hm, Bool.and_self]
    · rw [es]; have := sm.len; omega
  exact .bad rfl rfl _ (show_of (by intro h; cases h) e cs) (by rw [es]; exact asc_ok sm.asc)
def thB (t : D) : Bool := match g_is_count [t], g__law_due [t] with
  | .ok (.bl true), .ok (.bl true) => true
  | .ok (.bl false), .ok (.bl false) => (match dShow t with | some (.str s) => PyData.strOk s | _ => false)
  | _, _ => false
theorem th_by {t : D} (h : thB t = true) : Th t := by
  unfold thB at h
  split at h
  · rename_i h1 h2; exact .good h1 h2
  · rename_i h1 h2
    split at h
    · rename_i s hs; exact .bad h1 h2 s hs h
    · cases h
  · cases h
def oddL : List D := [.non, .int 5, .str "n", .str "7", .tup [], .tup [.int 1], .tup [.int 1, .int 2, .int 3], .lst [.int 1, .int 2], .tup [.bl true, .int 0], .tup [.int 1, .bl true], .tup [.int 10, .int 0], .tup [.int (-1), .int 5], .tup [.int 0, .int (-1)], .tup [.int 9, .int (-1)]] ++
  [.tup [.int 1, .int 1000000000000000000000000000001], .tup [.int 1, .int (-1000000000000000000000000000001)], .tup [.int 0, .int 1000000000000000000000000000000], .tup [.str "1", .int 2], .dc0, .tup [.int 0, .int 0], .tup [.int 9, .int (-1000000000000000000000000000000)]]
theorem odd_th : ∀ t ∈ oddL, Th t := fun t ht => th_by (List.all_eq_true.mp (show oddL.all thB = true by decide +kernel) t ht)
end G
namespace G
open PySem PySem.Spec PyProof.Rows L2 Mi
abbrev rfM (m : M D) : M D := mLamC g__law_refused m
abbrev lCount : M D := mLst (mCons (mC (.str "count")) (mCons (mCB dShow1 (mCons (mVar 9) mNil)) (mCons (mC (.bl true)) mNil)))
abbrev B1 : M Out := (mSeq (mIf (mOrT (mTst (mBin dNe (mCall 1 g_is_count (mCons (mVar 9) mNil)) (mCall 1 g__law_due (mCons (mVar 9) mNil)))) (mNotT (mTru (mIsa .bool (mCall 1 g_is_count (mCons (mVar 9) mNil)))))) (mRet (mC (.bl false))) mNext)
    (mIf (mNotT (mTru (mCall 1 g__law_due (mCons (mVar 9) mNil)))) (mSeq (mIf (mTst (mBin dNe (mLamC g__law_refused (mCall 1 g_format_count (mCons (mVar 9) mNil))) (mLst (mCons (mC (.str "count")) (mCons (mCB dShow1 (mCons (mVar 9) mNil)) (mCons (mC (.bl true)) mNil)))))) (mRet (mC (.bl false))) mNext)
    (mIf (mTst (mBin dNe (mLamC g__law_refused (mCall 2 g_rounds (mCons (mVar 9) (mCons (mVar 8) mNil)))) (mLst (mCons (mC (.str "count")) (mCons (mCB dShow1 (mCons (mVar 9) mNil)) (mCons (mC (.bl true)) mNil)))))) (mRet (mC (.bl false))) mNext)) mNext))
abbrev B2 : M Out := (mSeq (mAsg (bName 11) (mCall 1 g__law_value (mCons (mVar 10) mNil)))
    (mIf (mTst (mBin dNe (mLamC g__law_refused (mCall 1 g_parse_count (mCons (mVar 10) mNil))) (mIfE (mTst (mBin dIsn (mVar 11) (mC .non))) (mVar 11) (mLst (mCons (mC (.str "text")) (mCons (mCB dShow1 (mCons (mVar 10) mNil)) mNil)))))) (mRet (mC (.bl false))) mNext))
abbrev B3 : M Out := (mIf (mTst (mBin dNe (mLamC g__law_refused (mCall 1 g_parse_count (mCons (mVar 9) mNil))) (mLst (mCons (mC (.str "text")) (mCons (mCB dShow1 (mCons (mVar 9) mNil)) mNil))))) (mRet (mC (.bl false))) mNext)
abbrev B4 : M Out := (mIf (mTst (mBin dNe (mLamC g__law_refused (mCall 2 g_rounds (mCons (mVar 7) (mCons (mVar 9) mNil)))) (mLst (mCons (mC (.str "number")) (mCons (mCB dShow1 (mCons (mVar 9) mNil)) mNil))))) (mRet (mC (.bl false))) mNext)
section
variable {x0 x1 x2 x3 x4 x5 x6 x9 x10 x11 : Sl} {a : Nat} {m n : Int}
abbrev EN (x0 x1 x2 x3 x4 x5 x6 : Sl) (a : Nat) (m n : Int) (x9 x10 x11 : Sl) : En := [x0, x1, x2, x3, x4, x5, x6, .dat (cnt a m), .dat (.int n), x9, x10, x11]
theorem ne_c {s : Str} (h : PyData.strOk s = true) : dNe (.lst [.str "count", .str s, .bl true]) (.lst [.str "count", .str s, .bl true]) = some (.bl false) := by
  refine ne_self ?_ (by simp [depD, depL])
  simp only [nice, niceL, h, Bool.and_true, Bool.true_and]
  decide +kernel
theorem ne_n {s : Str} (h : PyData.strOk s = true) : dNe (.lst [.str "number", .str s]) (.lst [.str "number", .str s]) = some (.bl false) := by
  refine ne_self ?_ (by simp [depD, depL])
  simp only [nice, niceL, h, Bool.and_true, Bool.true_and]
  decide +kernel
theorem ne_t {s : Str} (h : PyData.strOk s = true) : dNe (.lst [.str "text", .str s]) (.lst [.str "text", .str s]) = some (.bl false) := by
  refine ne_self ?_ (by simp [depD, depL])
  simp only [nice, niceL, h, Bool.and_true, Bool.true_and]
  decide +kernel
theorem b1_ok {t : D} (h : Th t) : B1 (EN x0 x1 x2 x3 x4 x5 x6 a m n (.dat t) x10 x11) = .ok (.nx, EN x0 x1 x2 x3 x4 x5 x6 a m n (.dat t) x10 x11) := by
  cases h with
  | good h1 h2 =>
    have c1 : mCall 1 g_is_count (mCons (mVar 9) mNil) (EN x0 x1 x2 x3 x4 x5 x6 a m n (.dat t) x10 x11) = .ok (.bl true, EN x0 x1 x2 x3 x4 x5 x6 a m n (.dat t) x10 x11) := ev_call (ev_one rfl) rfl h1
    have c2 : mCall 1 g__law_due (mCons (mVar 9) mNil) (EN x0 x1 x2 x3 x4 x5 x6 a m n (.dat t) x10 x11) = .ok (.bl true, EN x0 x1 x2 x3 x4 x5 x6 a m n (.dat t) x10 x11) := ev_call (ev_one rfl) rfl h2
    exact ev_seq (ev_if_f (ev_orT_f (ev_tst (ev_bin c1 c2 rfl)) (ev_nT_f (ev_tru (ev_isa c1 rfl) rfl))) rfl) (ev_if_f (ev_nT_f (ev_tru c2 rfl)) rfl)
  | bad h1 h2 s h3 h4 =>
    have c1 : mCall 1 g_is_count (mCons (mVar 9) mNil) (EN x0 x1 x2 x3 x4 x5 x6 a m n (.dat t) x10 x11) = .ok (.bl false, EN x0 x1 x2 x3 x4 x5 x6 a m n (.dat t) x10 x11) := ev_call (ev_one rfl) rfl h1
    have c2 : mCall 1 g__law_due (mCons (mVar 9) mNil) (EN x0 x1 x2 x3 x4 x5 x6 a m n (.dat t) x10 x11) = .ok (.bl false, EN x0 x1 x2 x3 x4 x5 x6 a m n (.dat t) x10 x11) := ev_call (ev_one rfl) rfl h2
    have sh : mLst (mCons (mC (.str "count")) (mCons (mCB dShow1 (mCons (mVar 9) mNil)) (mCons (mC (.bl true)) mNil))) (EN x0 x1 x2 x3 x4 x5 x6 a m n (.dat t) x10 x11) = .ok (.lst [.str "count", .str s, .bl true], EN x0 x1 x2 x3 x4 x5 x6 a m n (.dat t) x10 x11) := ev_lst (ev_cons rfl (ev_cons (ev_cb (ev_one rfl) h3) (ev_one rfl))) (sl 3 (by decide))
    have r1 : mLamC g__law_refused (mCall 1 g_format_count (mCons (mVar 9) mNil)) (EN x0 x1 x2 x3 x4 x5 x6 a m n (.dat t) x10 x11) = .ok (.lst [.str "count", .str s, .bl true], EN x0 x1 x2 x3 x4 x5 x6 a m n (.dat t) x10 x11) := ev_lamC_exc (ev_call_exc (ev_one (ev_var rfl)) rfl (e_format_no h1)) (e_ref_1 h3) rfl
    have r2 : mLamC g__law_refused (mCall 2 g_rounds (mCons (mVar 9) (mCons (mVar 8) mNil))) (EN x0 x1 x2 x3 x4 x5 x6 a m n (.dat t) x10 x11) = .ok (.lst [.str "count", .str s, .bl true], EN x0 x1 x2 x3 x4 x5 x6 a m n (.dat t) x10 x11) := ev_lamC_exc (ev_call_exc (ev_cons (ev_var rfl) (ev_one (ev_var rfl))) rfl (e_rounds_no h1)) (e_ref_1 h3) rfl
    exact ev_seq (ev_if_f (ev_orT_f (ev_tst (ev_bin c1 c2 rfl)) (ev_nT_f (ev_tru (ev_isa c1 rfl) rfl))) rfl) (ev_if_t (ev_nT_t (ev_tru c2 rfl)) (ev_seq (ev_if_f (ev_tst (ev_bin r1 sh (ne_c h4))) rfl) (ev_if_f (ev_tst (ev_bin r2 sh (ne_c h4))) rfl)))
theorem l1_ok : ∀ (L : List D) (x9 : Sl), (∀ t ∈ L, Th t) → ∃ y, loopM (bName 9) B1 L (EN x0 x1 x2 x3 x4 x5 x6 a m n x9 x10 x11) = .ok (.nx, EN x0 x1 x2 x3 x4 x5 x6 a m n y x10 x11)
  | [], x9, _ => ⟨x9, rfl⟩
  | t :: L, x9, h => by
    obtain ⟨y, e⟩ := l1_ok L (.dat t) fun u hu => h u (List.mem_cons_of_mem _ hu)
    exact ⟨y, ev_l_cons rfl (b1_ok (h t List.mem_cons_self)) e⟩
theorem ne_p (k : Nat) (v : Int) : dNe (cD (some (k, v))) (cD (some (k, v))) = some (.bl false) := ne_self (by simp only [cD, nice, niceL, Bool.and_self]) (by simp [cD, depD, depL])
theorem b2_ok {s : Str} (h : Sm 5000 s) : B2 (EN x0 x1 x2 x3 x4 x5 x6 a m n x9 (.dat (.str s)) x11) = .ok (.nx, EN x0 x1 x2 x3 x4 x5 x6 a m n x9 (.dat (.str s)) (.dat (cD (valOf s)))) := by
  have lv := e_lvalue s h.len h.asc
  have s1 : mAsg (bName 11) (mCall 1 g__law_value (mCons (mVar 10) mNil)) (EN x0 x1 x2 x3 x4 x5 x6 a m n x9 (.dat (.str s)) x11) = .ok (.nx, EN x0 x1 x2 x3 x4 x5 x6 a m n x9 (.dat (.str s)) (.dat (cD (valOf s)))) := ev_setL (ev_call (ev_one rfl) rfl lv)
  refine ev_seq s1 ?_
  have pc := e_parse h
  have sh := show_str h
  have ok := asc_ok (asc_repr h.asc)
  cases q : valOf s with
  | none =>
    rw [q] at pc
    have r1 : mLamC g__law_refused (mCall 1 g_parse_count (mCons (mVar 10) mNil)) (EN x0 x1 x2 x3 x4 x5 x6 a m n x9 (.dat (.str s)) (.dat .non)) = .ok (.lst [.str "text", .str (reprText s)], EN x0 x1 x2 x3 x4 x5 x6 a m n x9 (.dat (.str s)) (.dat .non)) := ev_lamC_exc (ev_call_exc (ev_one (ev_var rfl)) rfl pc) (e_ref_0 sh) rfl
    have r2 : mIfE (mTst (mBin dIsn (mVar 11) (mC .non))) (mVar 11) (mLst (mCons (mC (.str "text")) (mCons (mCB dShow1 (mCons (mVar 10) mNil)) mNil))) (EN x0 x1 x2 x3 x4 x5 x6 a m n x9 (.dat (.str s)) (.dat .non)) = .ok (.lst [.str "text", .str (reprText s)], EN x0 x1 x2 x3 x4 x5 x6 a m n x9 (.dat (.str s)) (.dat .non)) := ev_ife_f (ev_tst (ev_bin rfl rfl rfl)) (ev_lst (ev_cons rfl (ev_one (ev_cb (ev_one rfl) sh))) (sl 2 (by decide)))
    exact ev_if_f (ev_tst (ev_bin r1 r2 (ne_t ok))) rfl
  | some p =>
    obtain ⟨k, v⟩ := p
    rw [q] at pc
    have r1 : mLamC g__law_refused (mCall 1 g_parse_count (mCons (mVar 10) mNil)) (EN x0 x1 x2 x3 x4 x5 x6 a m n x9 (.dat (.str s)) (.dat (cD (some (k, v))))) = .ok (cD (some (k, v)), EN x0 x1 x2 x3 x4 x5 x6 a m n x9 (.dat (.str s)) (.dat (cD (some (k, v))))) := ev_lamC_ok (ev_call (ev_one (ev_var rfl)) rfl pc) (e_ref_ok _) rfl
    have r2 : mIfE (mTst (mBin dIsn (mVar 11) (mC .non))) (mVar 11) (mLst (mCons (mC (.str "text")) (mCons (mCB dShow1 (mCons (mVar 10) mNil)) mNil))) (EN x0 x1 x2 x3 x4 x5 x6 a m n x9 (.dat (.str s)) (.dat (cD (some (k, v))))) = .ok (cD (some (k, v)), EN x0 x1 x2 x3 x4 x5 x6 a m n x9 (.dat (.str s)) (.dat (cD (some (k, v))))) := ev_ife_t (ev_tst (ev_bin rfl rfl rfl)) rfl
    exact ev_if_f (ev_tst (ev_bin r1 r2 (ne_p k v))) rfl
theorem l2_ok : ∀ (L : List Str) (x10 x11 : Sl), (∀ s ∈ L, Sm 5000 s) → ∃ y z, loopM (bName 10) B2 (L.map .str) (EN x0 x1 x2 x3 x4 x5 x6 a m n x9 x10 x11) = .ok (.nx, EN x0 x1 x2 x3 x4 x5 x6 a m n x9 y z)
  | [], x10, x11, _ => ⟨x10, x11, rfl⟩
  | s :: L, x10, x11, h => by
    obtain ⟨y, z, e⟩ := l2_ok L (.dat (.str s)) (.dat (cD (valOf s))) fun u hu => h u (List.mem_cons_of_mem _ hu)
    exact ⟨y, z, ev_l_cons rfl (b2_ok (h s List.mem_cons_self)) e⟩
structure Tx (t : D) : Prop where
  p : g_parse_count [t] = .exc 0 t
  s : ∃ s, dShow t = some (.str s) ∧ PyData.strOk s = true
theorem b3_ok {t : D} (h : Tx t) : B3 (EN x0 x1 x2 x3 x4 x5 x6 a m n (.dat t) x10 x11) = .ok (.nx, EN x0 x1 x2 x3 x4 x5 x6 a m n (.dat t) x10 x11) := by
  obtain ⟨s, h3, h4⟩ := h.s
  have r1 : mLamC g__law_refused (mCall 1 g_parse_count (mCons (mVar 9) mNil)) (EN x0 x1 x2 x3 x4 x5 x6 a m n (.dat t) x10 x11) = .ok (.lst [.str "text", .str s], EN x0 x1 x2 x3 x4 x5 x6 a m n (.dat t) x10 x11) := ev_lamC_exc (ev_call_exc (ev_one (ev_var rfl)) rfl h.p) (e_ref_0 h3) rfl
  exact ev_if_f (ev_tst (ev_bin r1 (ev_lst (ev_cons rfl (ev_one (ev_cb (ev_one rfl) h3))) (sl 2 (by decide))) (ne_t h4))) rfl
theorem l3_ok : ∀ (L : List D) (x9 : Sl), (∀ t ∈ L, Tx t) → ∃ y, loopM (bName 9) B3 L (EN x0 x1 x2 x3 x4 x5 x6 a m n x9 x10 x11) = .ok (.nx, EN x0 x1 x2 x3 x4 x5 x6 a m n y x10 x11)
  | [], x9, _ => ⟨x9, rfl⟩
  | t :: L, x9, h => by
    obtain ⟨y, e⟩ := l3_ok L (.dat t) fun u hu => h u (List.mem_cons_of_mem _ hu)
    exact ⟨y, ev_l_cons rfl (b3_ok (h t List.mem_cons_self)) e⟩
structure Nx (t : D) : Prop where
  p : g_is_between [t, .int 0, .int 1000000000000000000000000000000] = .ok (.bl false)
  s : ∃ s, dShow t = some (.str s) ∧ PyData.strOk s = true
theorem b4_ok {t : D} (c : Cv a m) (h : Nx t) : B4 (EN x0 x1 x2 x3 x4 x5 x6 a m n (.dat t) x10 x11) = .ok (.nx, EN x0 x1 x2 x3 x4 x5 x6 a m n (.dat t) x10 x11) := by
  obtain ⟨s, h3, h4⟩ := h.s
  have r1 : mLamC g__law_refused (mCall 2 g_rounds (mCons (mVar 7) (mCons (mVar 9) mNil))) (EN x0 x1 x2 x3 x4 x5 x6 a m n (.dat t) x10 x11) = .ok (.lst [.str "number", .str s], EN x0 x1 x2 x3 x4 x5 x6 a m n (.dat t) x10 x11) := ev_lamC_exc (ev_call_exc (ev_cons (ev_var rfl) (ev_one (ev_var rfl))) rfl (e_rounds_nn c h.p)) (e_ref_2 h3) rfl
  exact ev_if_f (ev_tst (ev_bin r1 (ev_lst (ev_cons rfl (ev_one (ev_cb (ev_one rfl) h3))) (sl 2 (by decide))) (ne_n h4))) rfl
theorem l4_ok (c : Cv a m) : ∀ (L : List D) (x9 : Sl), (∀ t ∈ L, Nx t) → ∃ y, loopM (bName 9) B4 L (EN x0 x1 x2 x3 x4 x5 x6 a m n x9 x10 x11) = .ok (.nx, EN x0 x1 x2 x3 x4 x5 x6 a m n y x10 x11)
  | [], x9, _ => ⟨x9, rfl⟩
  | t :: L, x9, h => by
    obtain ⟨y, e⟩ := l4_ok c L (.dat t) fun u hu => h u (List.mem_cons_of_mem _ hu)
    exact ⟨y, ev_l_cons rfl (b4_ok c (h t List.mem_cons_self)) e⟩
end
def shB (t : D) : Bool := match dShow t with | some (.str s) => PyData.strOk s | _ => false
theorem sh_by {t : D} (h : shB t = true) : ∃ s, dShow t = some (.str s) ∧ PyData.strOk s = true := by
  unfold shB at h
  split at h
  · rename_i s hs; exact ⟨s, hs, h⟩
  · cases h
theorem rep_tl (c : Nat) : ∀ (n : Nat) (acc : Array Nat), ((List.replicate n #[c]).foldl (· ++ ·) acc).toList = acc.toList ++ List.replicate n c
  | 0, acc => by simp
  | n + 1, acc => by
    rw [List.replicate_succ, List.foldl_cons, rep_tl c n, Array.toList_append, List.append_assoc, List.replicate_succ]
    rfl
def nines : Str := Txt.mul ("9" : Str) 4000
theorem tl_nines : TL.tl nines = List.replicate 4000 57 := by
  have e : nines = ⟨(List.replicate 4000 #[57]).foldl (· ++ ·) #[]⟩ := by
    unfold nines Txt.mul
    rw [if_neg (by decide), if_neg (by decide)]
    rfl
  rw [e]
  show ((List.replicate 4000 #[57]).foldl (· ++ ·) #[]).toList = _
  rw [rep_tl]
  rfl
theorem sm_nines : Sm 5000 nines := ⟨fun c hc => by
  have hc : c ∈ TL.tl nines := hc
  rw [tl_nines] at hc
  rw [List.eq_of_mem_replicate hc]; decide, by rw [TL.len_tl, tl_nines, List.length_replicate]; decide⟩
theorem val_nines : valOf nines = none := by
  have hn : (110 : Nat) ∉ TL.tl nines := fun h => by
    rw [tl_nines] at h
    have := List.eq_of_mem_replicate h
    omega
  have e : Txt.partition nines ("n" : Str) = (nines, Str.empty, Str.empty) := TL.partition_none (s := 110) (S := []) (by decide +kernel) hn
  have l : nines.length = 4000 := by rw [TL.len_tl, tl_nines, List.length_replicate]
  have q : numIn nines = none := by
    unfold numIn
    have h31 : ¬ nines.length ≤ 31 := by omega
    simp [h31]
  unfold valOf
  rw [e]
  dsimp only
  rw [if_pos (by decide), q]
def txL : List D := [.non, .int 5, .lst [.str "n"], .tup [.int 1, .int 0], .str nines]
theorem tx_all : ∀ t ∈ txL, Tx t := by
  intro t ht
  unfold txL at ht
  rcases List.mem_cons.mp ht with rfl | ht
  · exact ⟨e_parse_no rfl, sh_by (by decide +kernel)⟩
  rcases List.mem_cons.mp ht with rfl | ht
  · exact ⟨e_parse_no rfl, sh_by (by decide +kernel)⟩
  rcases List.mem_cons.mp ht with rfl | ht
  · exact ⟨e_parse_no rfl, sh_by (by decide +kernel)⟩
  rcases List.mem_cons.mp ht with rfl | ht
  · exact ⟨e_parse_no rfl, sh_by (by decide +kernel)⟩
  rw [List.mem_singleton.mp ht]
  refine ⟨?_, _, show_str sm_nines, asc_ok (asc_repr sm_nines.asc)⟩
  have h := e_parse sm_nines
  rw [val_nines] at h
  exact h
def nxL : List D := [.non, .int (-1), .int 1000000000000000000000000000001, .bl true, .str "5", .lst [.int 5]]
def nxB (t : D) : Bool := (match g_is_between [t, .int 0, .int 1000000000000000000000000000000] with | .ok (.bl false) => true | _ => false) && shB t
theorem nx_all : ∀ t ∈ nxL, Nx t := fun t ht => by
  have h := List.all_eq_true.mp (show nxL.all nxB = true by decide +kernel) t ht
  unfold nxB at h
  rw [Bool.and_eq_true] at h
  refine ⟨?_, sh_by h.2⟩
  have h1 := h.1
  split at h1
  · assumption
  · cases h1
end G
namespace G
open PySem PySem.Spec PyProof.Rows L2 Mi
theorem pow20 : dPow (.int 10) (.int 20) = some (.int 100000000000000000000) := by simp [dPow, okB]
theorem e_lnumber {l : List D} (p : Pool l) : ∃ (v : Int) (l' : List D), g__law_number l [] = .ok (.int v, l') ∧ Pool l' ∧ 0 ≤ v ∧ v ≤ 1000000000000000000000000000000 := by
  obtain ⟨r1, l1, h1, p1, a1, b1⟩ := e_take p 12 (by decide) (by decide)
  obtain ⟨r2, l2, h2, p2, a2, b2⟩ := e_take p1 3 (by decide) (by decide)
  obtain ⟨r3, l3, h3, p3, a3, b3⟩ := e_take p2 100000000000000000000 (by decide) (by decide)
  obtain ⟨r4, l4, h4, p4, a4, b4⟩ := e_take p3 5 (by decide) (by decide)
  let cs : List D := [.int r1, .int (1000000000000000000000000000000 - r2), .int r3, .int 1, .int 0]
  have hl : mLst (mCons (mCallO 0 1 g__law_take (mCons (mC (.int 12)) mNil)) (mCons (mBin dSub (mBin dPow (mC (.int 10)) (mC (.int 30))) (mCallO 0 1 g__law_take (mCons (mC (.int 3)) mNil))) (mCons (mCallO 0 1 g__law_take (mCons (mBin dPow (mC (.int 10)) (mC (.int 20))) mNil)) (mCons (mC (.int 1)) (mCons (mC (.int 0)) mNil))))) [.own l, .un] = .ok (.lst cs, [.own l3, .un]) :=
    ev_lst (ev_cons (ev_callOL (es2 := [.own l1, .un]) rfl (ev_one rfl) rfl rfl h1) (ev_cons (ev_bin (ev_bin rfl rfl pow30) (ev_callOL (es2 := [.own l2, .un]) rfl (ev_one rfl) rfl rfl h2) rfl) (ev_cons (ev_callOL (es2 := [.own l3, .un]) rfl (ev_one (ev_bin rfl rfl pow20)) rfl rfl h3) (ev_cons rfl (ev_one rfl))))) (sl 5 (by decide))
  have main : ∀ v : Int, dIx (.lst cs) (.int r4) = some (.int v) → 0 ≤ v → v ≤ 1000000000000000000000000000000 → ∃ (v : Int) (l' : List D), g__law_number l [] = .ok (.int v, l') ∧ Pool l' ∧ 0 ≤ v ∧ v ≤ 1000000000000000000000000000000 := fun v hi v0 v1 =>
    ⟨v, l4, ev_fnO (es := [.own l4, .dat (.lst cs)]) (ev_seq (es1 := [.own l3, .dat (.lst cs)]) (ev_setL hl) (ev_ret (ev_bin rfl (ev_callOL (es2 := [.own l4, .dat (.lst cs)]) rfl (ev_one rfl) rfl rfl h4) hi))) rfl, p4, v0, v1⟩
  have hr : r4 = 0 ∨ r4 = 1 ∨ r4 = 2 ∨ r4 = 3 ∨ r4 = 4 := by omega
  rcases hr with rfl | rfl | rfl | rfl | rfl
  · exact main r1 rfl (by omega) (by omega)
  · exact main (1000000000000000000000000000000 - r2) rfl (by omega) (by omega)
  · exact main r3 rfl (by omega) (by omega)
  · exact main 1 rfl (by omega) (by omega)
  · exact main 0 rfl (by omega) (by omega)
theorem Sm.cut {k : Nat} {s : Str} (h : Sm k s) (lo hi : Option Int) : Sm k (cutS s lo hi) := ⟨h.asc.cut lo hi, Nat.le_trans (cutS_length s lo hi) h.len⟩
abbrev sgs : Str := "n0+-91 x2"
theorem e_bent {l : List D} {s : Str} (p : Pool l) (h : Sm 64 s) : ∃ (xs : List Str) (l' : List D), g__law_bent l [.str s] = .ok (.lst (xs.map .str), l') ∧ Pool l' ∧ (∀ x ∈ xs, Sm 5000 x) ∧ xs.length = 3 := by
  have z := size_eq
  have hl := h.len
  obtain ⟨r1, l1, h1, p1, a1, b1⟩ := e_take p ((s.length : Int) + 1) (by omega) (by omega)
  obtain ⟨r2, l2, h2, p2, a2, b2⟩ := e_take p1 9 (by decide) (by decide)
  have sg : ∃ c : Str, dIx (.str sgs) (.int r2) = some (.str c) ∧ Sm 1 c := by
    have hr : r2 = 0 ∨ r2 = 1 ∨ r2 = 2 ∨ r2 = 3 ∨ r2 = 4 ∨ r2 = 5 ∨ r2 = 6 ∨ r2 = 7 ∨ r2 = 8 := by omega
    have go : ∀ k : Nat, k < 9 → ∃ c : Str, dIx (.str sgs) (.int (k : Int)) = some (.str c) ∧ Sm 1 c := by
      intro k hk
      have e : sgs.cps.toList.length = 9 := by decide +kernel
      have e2 : sgs.length ≤ sizeLine := by rw [TL.len_tl]; show sgs.cps.toList.length ≤ _; omega
      have hk2 : k < sgs.cps.toList.length := by omega
      have e3 : atI sgs.cps.toList (k : Int) = some sgs.cps.toList[k] := atI_nat (List.getElem?_eq_getElem hk2)
      refine ⟨⟨#[sgs.cps.toList[k]]⟩, ?_, ⟨fun c hc => ?_, Nat.le_refl 1⟩⟩
      · simp only [dIx, if_pos e2, e3, Option.map_some]
      · have hc : c = sgs.cps.toList[k] := by simpa using hc
        have hm := List.getElem_mem hk2
        rw [← hc] at hm
        have all : sgs.cps.toList.all (fun c => decide (c < 128)) = true := by decide +kernel
        exact of_decide_eq_true (List.all_eq_true.mp all c hm)
    obtain ⟨k, hk⟩ := Int.eq_ofNat_of_zero_le a2
    rw [hk]
    exact go k (by omega)
  obtain ⟨c, hc, sc⟩ := sg
  let E : En := [.own l2, .dat (.str s), .dat (.int r1), .dat (.str c)]
  have s1 : mPar [2, 3] (mCons (mCallO 0 1 g__law_take (mCons (mBin dAdd (mCB dLen (mCons (mVar 1) mNil)) (mC (.int 1))) mNil)) (mCons (mBin dIx (mC (.str "n0+-91 x2")) (mCallO 0 1 g__law_take (mCons (mC (.int 9)) mNil))) mNil)) [.own l, .dat (.str s), .un, .un] = .ok (.nx, E) :=
    ev_par (ev_cons (ev_callOL (es2 := [.own l1, .dat (.str s), .un, .un]) rfl (ev_one (ev_bin (ev_len rfl (by omega)) rfl rfl)) rfl rfl h1) (ev_one (ev_bin rfl (ev_callOL (es2 := [.own l2, .dat (.str s), .un, .un]) rfl (ev_one rfl) rfl rfl h2) hc))) rfl
  have ct : ∀ lo hi, dSl (.str s) lo hi = some (.str (cutS s lo hi)) := fun lo hi => if_pos (by omega)
  have f1 : mSl dSl (mVar 1) mNo (mPart (mVar 2)) E = .ok (.str (cutS s none (some r1)), E) := ev_sl rfl rfl (ev_part rfl) (ct _ _)
  have f2 : mSl dSl (mVar 1) (mPart (mVar 2)) mNo E = .ok (.str (cutS s (some r1) none), E) := ev_sl rfl (ev_part rfl) rfl (ct _ _)
  have f3 : mSl dSl (mVar 1) (mPart (mBin dAdd (mVar 2) (mC (.int 1)))) mNo E = .ok (.str (cutS s (some (r1 + 1)) none), E) := ev_sl rfl (ev_part (ev_bin rfl rfl rfl)) rfl (ct _ _)
  have g1 := h.cut none (some r1)
  have g2 := h.cut (some r1) none
  have g3 := h.cut (some (r1 + 1)) none
  have k1 := g1.app sc
  have n1 := g1.len
  have n2 := g2.len
  have n3 := g3.len
  have n4 := sc.len
  have n5 := k1.len
  refine ⟨[(cutS s none (some r1) ++ c) ++ cutS s (some r1) none, cutS s none (some r1) ++ cutS s (some (r1 + 1)) none, (cutS s none (some r1) ++ c) ++ cutS s (some (r1 + 1)) none], l2, ?_, p2, fun x hx => ?_, rfl⟩
  · exact ev_fnO (es := E) (ev_seq s1 (ev_ret (ev_lst (ev_cons (ev_bin (ev_bin f1 rfl (cat_ok (by omega) (by omega))) f2 (cat_ok (by omega) (by omega))) (ev_cons (ev_bin f1 f3 (cat_ok (by omega) (by omega))) (ev_one (ev_bin (ev_bin f1 rfl (cat_ok (by omega) (by omega))) f3 (cat_ok (by omega) (by omega)))))) (sl 3 (by decide))))) rfl
  · rcases List.mem_cons.mp hx with rfl | hx
    · exact (k1.app g2).mono (by decide)
    rcases List.mem_cons.mp hx with rfl | hx
    · exact (g1.app g3).mono (by decide)
    rw [List.mem_singleton.mp hx]
    exact (k1.app g3).mono (by decide)
def txtL : List Str := ["", "n", "0", "00", "1n", "0n", "n+0", "n-0", "+3", "-3", "10n", "2n+", "nn", "n + 1", "9n-1", "3N", "2n1"]
theorem txt_all : ∀ s ∈ txtL, Sm 5000 s := fun s hs => sm_by (List.all_eq_true.mp (show txtL.all (smB 5000) = true by decide +kernel) s hs)
end G
namespace G
open PySem PySem.Spec PyProof.Rows L2 Mi
theorem ev_asgF {i n : Nat} {g : List D → R (List D)} {a : M (List D)} {es es1 es2 : En} {ds l : List D} (h : a es = .ok (ds, es1)) (hn : ds.length = n) (h2 : g ds = .ok l) (he : es1.set i (.own l) = es2 := by rfl) : mAsgF i n g a es = .ok (.nx, es2) := by
  rw [← he]
  simp only [mAsgF, Mi.bnd, h, if_pos hn, Mi.lft, h2]
theorem catL {l m : List D} (h : l.length + m.length ≤ 5000) : dAdd (.lst l) (.lst m) = some (.lst (l ++ m)) := by
  have z := size_eq
  have : l.length + m.length ≤ sizeLine := by omega
  simp only [dAdd, okB, decide_eq_true this, if_pos]
abbrev BK : M Out := (mSeq (mAsgF 4 2 g__law_pool (mCons (mVar 0) (mCons (mVar 3) mNil)))
    (mSeq (mPar [5, 6] (mCons (mCallO 4 1 g__law_take (mCons (mC (.int 10)) mNil)) (mCons (mBin dMul (mBin dIx (mLst (mCons (mC (.int 1)) (mCons (mUn dNeg (mC (.int 1))) mNil))) (mCallO 4 1 g__law_take (mCons (mC (.int 2)) mNil))) (mCallO 4 0 g__law_number mNil)) mNil)))
    (mSeq (mAsg (bTup [7, 8]) (mTup (mCons (mTup (mCons (mVar 5) (mCons (mIfE (mTst (mBin dGt (mVar 5) (mC (.int 0)))) (mVar 6) (mCB dAbs (mCons (mVar 6) mNil))) mNil))) (mCons (mCallO 4 0 g__law_number mNil) mNil))))
    (mSeq (mFor (mIL (mBin dAdd (mVar 1) (mLst (mCons (mVar 7) (mCons (mTup (mCons (mBin dIx (mVar 7) (mC (.int 0))) (mCons (mBin dIx (mVar 7) (mC (.int 1))) (mCons (mC (.int 0)) mNil)))) (mCons (mCB dList (mCons (mVar 7) mNil)) mNil)))))) (bName 9) B1)
    (mSeq (mIf (mOrT (mTst (mBin dNe (mCall 2 g_rounds (mCons (mVar 7) (mCons (mVar 8) mNil))) (mCB dMax (mCons (mC (.int 0)) (mCons (mBin dAdd (mBin dMul (mBin dIx (mVar 7) (mC (.int 0))) (mVar 8)) (mBin dIx (mVar 7) (mC (.int 1)))) mNil))))) (mTst (mBin dNe (mCall 1 g_format_count (mCons (mVar 7) mNil)) (mCall 1 g__law_text (mCons (mVar 7) mNil))))) (mRet (mC (.bl false))) mNext)
    (mSeq (mFor (mIL (mBin dAdd (mBin dAdd (mLst (mCons (mCall 1 g__law_text (mCons (mVar 7) mNil)) mNil)) (mCallO 4 1 g__law_bent (mCons (mCall 1 g__law_text (mCons (mVar 7) mNil)) mNil))) (mVar 2))) (bName 10) B2)
    (mSeq (mFor (mIL (mLst (mCons (mC .non) (mCons (mC (.int 5)) (mCons (mLst (mCons (mC (.str "n")) mNil)) (mCons (mTup (mCons (mC (.int 1)) (mCons (mC (.int 0)) mNil))) (mCons (mBin dMulS (mC (.str "9")) (mC (.int 4000))) mNil))))))) (bName 9) B3)
    (mFor (mIL (mLst (mCons (mC .non) (mCons (mUn dNeg (mC (.int 1))) (mCons (mBin dAdd (mBin dPow (mC (.int 10)) (mC (.int 30))) (mC (.int 1))) (mCons (mC (.bl true)) (mCons (mC (.str "5")) (mCons (mLst (mCons (mC (.int 5)) mNil)) mNil)))))))) (bName 9) B4))))))))
def EK (ns : List Int) (k x4 x5 x6 x7 x8 x9 x10 x11 : Sl) : En := [.dat (.scr ns), .dat (.lst oddL), .dat (.lst (txtL.map .str)), k, x4, x5, x6, x7, x8, x9, x10, x11]
theorem ne_i (i : Int) : dNe (.int i) (.int i) = some (.bl false) := by
  have e : scal (.int i) (.int i) = true := rfl
  simp only [dNe, eqB, flat, e, if_pos, Option.map_some]
  simp
theorem bk_ok (ns : List Int) (k : Int) (h0 : 0 ≤ k) (h1 : k ≤ 100) (x4 x5 x6 x7 x8 x9 x10 x11 : Sl) : ∃ y4 y5 y6 y7 y8 y9 y10 y11, BK (EK ns (.dat (.int k)) x4 x5 x6 x7 x8 x9 x10 x11) = .ok (.nx, EK ns (.dat (.int k)) y4 y5 y6 y7 y8 y9 y10 y11) := by
  have z := size_eq
  obtain ⟨l0, hp, p0⟩ := e_pool ns k h0 h1
  obtain ⟨a, l1, ha, p1, a0, a1⟩ := e_take p0 10 (by decide) (by decide)
  obtain ⟨w, l2, hw, p2, w0, w1⟩ := e_take p1 2 (by decide) (by decide)
  obtain ⟨v, l3, hv, p3, v0, v1⟩ := e_lnumber p2
  obtain ⟨n, l4, hn, p4, n0, n1⟩ := e_lnumber p3
  obtain ⟨an, rfl⟩ := Int.eq_ofNat_of_zero_le a0
  have sgn : ∃ j : Int, dIx (.lst [.int 1, .int (-1)]) (.int w) = some (.int j) ∧ (j = 1 ∨ j = -1) := by
    have : w = 0 ∨ w = 1 := by omega
    rcases this with rfl | rfl
    · exact ⟨1, rfl, .inl rfl⟩
    · exact ⟨-1, rfl, .inr rfl⟩
  obtain ⟨j, hj, jj⟩ := sgn
  have hm : dMul (.int j) (.int v) = some (.int (j * v)) := mul_ok (by rcases jj with rfl | rfl <;> decide) (by omega)
  have jb : -1000000000000000000000000000000 ≤ j * v ∧ j * v ≤ 1000000000000000000000000000000 := by
    rcases jj with rfl | rfl
    · rw [Int.one_mul]; omega
    · rw [Int.neg_mul, Int.one_mul]; omega
  generalize hb : j * v = b at hm jb
  have s1 : mAsgF 4 2 g__law_pool (mCons (mVar 0) (mCons (mVar 3) mNil)) (EK ns (.dat (.int k)) x4 x5 x6 x7 x8 x9 x10 x11) = .ok (.nx, EK ns (.dat (.int k)) (.own l0) x5 x6 x7 x8 x9 x10 x11) := ev_asgF (ev_cons rfl (ev_one rfl)) rfl hp
  have s2 : mPar [5, 6] (mCons (mCallO 4 1 g__law_take (mCons (mC (.int 10)) mNil)) (mCons (mBin dMul (mBin dIx (mLst (mCons (mC (.int 1)) (mCons (mUn dNeg (mC (.int 1))) mNil))) (mCallO 4 1 g__law_take (mCons (mC (.int 2)) mNil))) (mCallO 4 0 g__law_number mNil)) mNil)) (EK ns (.dat (.int k)) (.own l0) x5 x6 x7 x8 x9 x10 x11) = .ok (.nx, EK ns (.dat (.int k)) (.own l3) (.dat (.int (an : Int))) (.dat (.int b)) x7 x8 x9 x10 x11) :=
    ev_par (es1 := EK ns (.dat (.int k)) (.own l3) x5 x6 x7 x8 x9 x10 x11) (ev_cons (ev_callOL (es2 := EK ns (.dat (.int k)) (.own l1) x5 x6 x7 x8 x9 x10 x11) rfl (ev_one rfl) rfl rfl ha) (ev_one (ev_bin (ev_bin rfl (ev_callOL (es2 := EK ns (.dat (.int k)) (.own l2) x5 x6 x7 x8 x9 x10 x11) rfl (ev_one rfl) rfl rfl hw) hj) (ev_callOL (es2 := EK ns (.dat (.int k)) (.own l3) x5 x6 x7 x8 x9 x10 x11) rfl rfl rfl rfl hv) hm))) rfl
  have cc : ∃ m : Int, Cv an m ∧ mIfE (mTst (mBin dGt (mVar 5) (mC (.int 0)))) (mVar 6) (mCB dAbs (mCons (mVar 6) mNil)) (EK ns (.dat (.int k)) (.own l3) (.dat (.int (an : Int))) (.dat (.int b)) x7 x8 x9 x10 x11) = .ok (.int m, EK ns (.dat (.int k)) (.own l3) (.dat (.int (an : Int))) (.dat (.int b)) x7 x8 x9 x10 x11) := by
    by_cases h : an = 0
    · refine ⟨if b < 0 then -b else b, ⟨by omega, fun _ => by split <;> omega, by split <;> omega, by split <;> omega⟩, ev_ife_f (ev_tst (ev_bin rfl rfl (by rw [gt_i, decide_eq_false (by omega)]))) (ev_cb (ev_one rfl) rfl)⟩
    · exact ⟨b, ⟨by omega, fun e => absurd e h, jb.1, jb.2⟩, ev_ife_t (ev_tst (ev_bin rfl rfl (by rw [gt_i, decide_eq_true (by omega)]))) rfl⟩
  obtain ⟨m, cv, hc⟩ := cc
  have s3 : mAsg (bTup [7, 8]) (mTup (mCons (mTup (mCons (mVar 5) (mCons (mIfE (mTst (mBin dGt (mVar 5) (mC (.int 0)))) (mVar 6) (mCB dAbs (mCons (mVar 6) mNil))) mNil))) (mCons (mCallO 4 0 g__law_number mNil) mNil))) (EK ns (.dat (.int k)) (.own l3) (.dat (.int (an : Int))) (.dat (.int b)) x7 x8 x9 x10 x11) = .ok (.nx, EK ns (.dat (.int k)) (.own l4) (.dat (.int (an : Int))) (.dat (.int b)) (.dat (cnt an m)) (.dat (.int n)) x9 x10 x11) :=
    ev_asg (es1 := EK ns (.dat (.int k)) (.own l4) (.dat (.int (an : Int))) (.dat (.int b)) x7 x8 x9 x10 x11) (ev_tup (ev_cons (ev_tup (ev_cons rfl (ev_one hc)) (sl 2 (by decide))) (ev_one (ev_callOL (es2 := EK ns (.dat (.int k)) (.own l4) (.dat (.int (an : Int))) (.dat (.int b)) x7 x8 x9 x10 x11) rfl rfl rfl rfl hn))) (sl 2 (by decide))) rfl
  let E0 : Sl → Sl → Sl → Sl → En := fun p => EN (.dat (.scr ns)) (.dat (.lst oddL)) (.dat (.lst (txtL.map .str))) (.dat (.int k)) p (.dat (.int (an : Int))) (.dat (.int b)) an m n
  obtain ⟨y9, e4⟩ := l1_ok (x0 := .dat (.scr ns)) (x1 := .dat (.lst oddL)) (x2 := .dat (.lst (txtL.map .str))) (x3 := .dat (.int k)) (x4 := .own l4) (x5 := .dat (.int (an : Int))) (x6 := .dat (.int b)) (a := an) (m := m) (n := n) (x10 := x10) (x11 := x11) (oddL ++ [cnt an m, .tup [.int (an : Int), .int m, .int 0], .lst [.int (an : Int), .int m]]) x9 (fun t ht => by
    rcases List.mem_append.mp ht with h | h
    · exact odd_th t h
    rcases List.mem_cons.mp h with rfl | h
    · exact .good (e_isc cv) (e_due cv)
    rcases List.mem_cons.mp h with rfl | h
    · exact th_three cv
    rw [List.mem_singleton.mp h]
    exact th_list cv)
  have lodd : oddL.length = 21 := rfl
  have s4 : mFor (mIL (mBin dAdd (mVar 1) (mLst (mCons (mVar 7) (mCons (mTup (mCons (mBin dIx (mVar 7) (mC (.int 0))) (mCons (mBin dIx (mVar 7) (mC (.int 1))) (mCons (mC (.int 0)) mNil)))) (mCons (mCB dList (mCons (mVar 7) mNil)) mNil)))))) (bName 9) B1 (E0 (.own l4) x9 x10 x11) = .ok (.nx, E0 (.own l4) y9 x10 x11) :=
    ev_for (ev_iL (ev_bin rfl (ev_lst (ev_cons rfl (ev_cons (ev_tup (ev_cons (ev_bin rfl rfl rfl) (ev_cons (ev_bin rfl rfl rfl) (ev_one rfl))) (sl 3 (by decide))) (ev_one (ev_cb (ev_one rfl) rfl)))) (sl 3 (by decide))) (catL (by rw [lodd]; show 21 + 3 ≤ 5000; decide)))) e4
  have r5 : mTst (mBin dNe (mCall 2 g_rounds (mCons (mVar 7) (mCons (mVar 8) mNil))) (mCB dMax (mCons (mC (.int 0)) (mCons (mBin dAdd (mBin dMul (mBin dIx (mVar 7) (mC (.int 0))) (mVar 8)) (mBin dIx (mVar 7) (mC (.int 1)))) mNil)))) (E0 (.own l4) y9 x10 x11) = .ok (false, E0 (.own l4) y9 x10 x11) :=
    ev_tst (ev_bin (ev_call (ev_cons rfl (ev_one rfl)) rfl (e_rounds cv n0 n1)) (ev_cb (ev_cons rfl (ev_one (ev_bin (ev_bin (ev_bin rfl rfl rfl) rfl (mul_an cv.a9 n0 n1)) (ev_bin rfl rfl rfl) rfl))) rfl) (ne_i _))
  have tx : mCall 1 g__law_text (mCons (mVar 7) mNil) (E0 (.own l4) y9 x10 x11) = .ok (.str (T an m), E0 (.own l4) y9 x10 x11) := ev_call (ev_one rfl) rfl (e_ltext cv)
  have f5 : mTst (mBin dNe (mCall 1 g_format_count (mCons (mVar 7) mNil)) (mCall 1 g__law_text (mCons (mVar 7) mNil))) (E0 (.own l4) y9 x10 x11) = .ok (false, E0 (.own l4) y9 x10 x11) :=
    ev_tst (ev_bin (ev_call (ev_one rfl) rfl (e_format cv)) tx (by rw [dne_str, decide_eq_true rfl]; rfl))
  obtain ⟨xs, l5, hbt, p5, hxs, lxs⟩ := e_bent p4 (sm_T cv)
  obtain ⟨y10, y11, e6⟩ := l2_ok (x0 := .dat (.scr ns)) (x1 := .dat (.lst oddL)) (x2 := .dat (.lst (txtL.map .str))) (x3 := .dat (.int k)) (x4 := .own l5) (x5 := .dat (.int (an : Int))) (x6 := .dat (.int b)) (a := an) (m := m) (n := n) (x9 := y9) ((T an m :: xs) ++ txtL) x10 x11 (fun s hs => by
    rcases List.mem_append.mp hs with h | h
    · rcases List.mem_cons.mp h with rfl | h
      · exact (sm_T cv).mono (by decide)
      · exact hxs s h
    · exact txt_all s h)
  have tx2 : mCall 1 g__law_text (mCons (mVar 7) mNil) (E0 (.own l4) y9 x10 x11) = .ok (.str (T an m), E0 (.own l4) y9 x10 x11) := tx
  have ea : dAdd (.lst [.str (T an m)]) (.lst (xs.map .str)) = some (.lst ([.str (T an m)] ++ xs.map .str)) := catL (by rw [List.length_map, lxs]; show 1 + 3 ≤ 5000; decide)
  have eb : dAdd (.lst ([.str (T an m)] ++ xs.map .str)) (.lst (txtL.map .str)) = some (.lst (((T an m :: xs) ++ txtL).map .str)) := by
    rw [catL (by rw [List.length_append, List.length_map, lxs, List.length_map]; show 1 + 3 + 17 ≤ 5000; decide)]
    rw [List.map_append]; rfl
  have s6 : mFor (mIL (mBin dAdd (mBin dAdd (mLst (mCons (mCall 1 g__law_text (mCons (mVar 7) mNil)) mNil)) (mCallO 4 1 g__law_bent (mCons (mCall 1 g__law_text (mCons (mVar 7) mNil)) mNil))) (mVar 2))) (bName 10) B2 (E0 (.own l4) y9 x10 x11) = .ok (.nx, E0 (.own l5) y9 y10 y11) :=
    ev_for (ev_iL (ev_bin (ev_bin (ev_lst (ev_one tx) (sl 1 (by decide))) (ev_callOL (es2 := E0 (.own l5) y9 x10 x11) rfl (ev_one tx) rfl rfl hbt) ea) rfl eb)) e6
  obtain ⟨z9, e7⟩ := l3_ok (x0 := .dat (.scr ns)) (x1 := .dat (.lst oddL)) (x2 := .dat (.lst (txtL.map .str))) (x3 := .dat (.int k)) (x4 := .own l5) (x5 := .dat (.int (an : Int))) (x6 := .dat (.int b)) (a := an) (m := m) (n := n) (x10 := y10) (x11 := y11) txL y9 tx_all
  have mu : dMulS (.str ("9" : Str)) (.int 4000) = some (.str nines) := by
    have c : (2 : Int) ≤ 4000 ∧ (4000 : Int) < 2 ^ 40 ∧ 1 ≤ ("9" : Str).length ∧ ((("9" : Str).length : Nat) : Int) * 4000 ≤ 1000000 := by decide +kernel
    simp only [dMulS, okB, decide_eq_true c, if_pos]
    rfl
  have s7 : mFor (mIL (mLst (mCons (mC .non) (mCons (mC (.int 5)) (mCons (mLst (mCons (mC (.str "n")) mNil)) (mCons (mTup (mCons (mC (.int 1)) (mCons (mC (.int 0)) mNil))) (mCons (mBin dMulS (mC (.str "9")) (mC (.int 4000))) mNil))))))) (bName 9) B3 (E0 (.own l5) y9 y10 y11) = .ok (.nx, E0 (.own l5) z9 y10 y11) :=
    ev_for (ev_iL (ev_lst (ev_cons rfl (ev_cons rfl (ev_cons (ev_lst (ev_one rfl) (sl 1 (by decide))) (ev_cons (ev_tup (ev_cons rfl (ev_one rfl)) (sl 2 (by decide))) (ev_one (ev_bin rfl rfl mu)))))) (sl 5 (by decide)))) e7
  obtain ⟨w9, e8⟩ := l4_ok (x0 := .dat (.scr ns)) (x1 := .dat (.lst oddL)) (x2 := .dat (.lst (txtL.map .str))) (x3 := .dat (.int k)) (x4 := .own l5) (x5 := .dat (.int (an : Int))) (x6 := .dat (.int b)) (n := n) (x10 := y10) (x11 := y11) cv nxL z9 nx_all
  have s8 : mFor (mIL (mLst (mCons (mC .non) (mCons (mUn dNeg (mC (.int 1))) (mCons (mBin dAdd (mBin dPow (mC (.int 10)) (mC (.int 30))) (mC (.int 1))) (mCons (mC (.bl true)) (mCons (mC (.str "5")) (mCons (mLst (mCons (mC (.int 5)) mNil)) mNil)))))))) (bName 9) B4 (E0 (.own l5) z9 y10 y11) = .ok (.nx, E0 (.own l5) w9 y10 y11) :=
    ev_for (ev_iL (ev_lst (ev_cons rfl (ev_cons (ev_un rfl rfl) (ev_cons (ev_bin (ev_bin rfl rfl pow30) rfl rfl) (ev_cons rfl (ev_cons rfl (ev_one (ev_lst (ev_one rfl) (sl 1 (by decide))))))))) (sl 6 (by decide)))) e8
  exact ⟨.own l5, .dat (.int (an : Int)), .dat (.int b), .dat (cnt an m), .dat (.int n), w9, y10, y11, ev_seq s1 (ev_seq s2 (ev_seq s3 (ev_seq (es1 := E0 (.own l4) y9 x10 x11) s4 (ev_seq (ev_if_f (ev_orT_f r5 f5) rfl) (ev_seq s6 (ev_seq s7 s8))))))⟩
theorem loop_k (ns : List Int) : ∀ (L : List Nat) (x3 x4 x5 x6 x7 x8 x9 x10 x11 : Sl), (∀ k ∈ L, k ≤ 100) → ∃ y3 y4 y5 y6 y7 y8 y9 y10 y11, loopM (bName 3) BK (L.map fun (k : Nat) => D.int (k : Int)) (EK ns x3 x4 x5 x6 x7 x8 x9 x10 x11) = .ok (.nx, EK ns y3 y4 y5 y6 y7 y8 y9 y10 y11)
  | [], x3, x4, x5, x6, x7, x8, x9, x10, x11, _ => ⟨x3, x4, x5, x6, x7, x8, x9, x10, x11, rfl⟩
  | k :: L, x3, x4, x5, x6, x7, x8, x9, x10, x11, h => by
    obtain ⟨z4, z5, z6, z7, z8, z9, z10, z11, e⟩ := bk_ok ns (k : Int) (by omega) (by have := h k List.mem_cons_self; omega) x4 x5 x6 x7 x8 x9 x10 x11
    obtain ⟨y3, y4, y5, y6, y7, y8, y9, y10, y11, e2⟩ := loop_k ns L (.dat (.int (k : Int))) z4 z5 z6 z7 z8 z9 z10 z11 fun j hj => h j (List.mem_cons_of_mem _ hj)
    exact ⟨y3, y4, y5, y6, y7, y8, y9, y10, y11, ev_l_cons (es1 := EK ns (.dat (.int (k : Int))) x4 x5 x6 x7 x8 x9 x10 x11) rfl e e2⟩
theorem law_true (ns : List Int) (h : ns.length ≤ 63) : g_law [.scr ns] = .ok (.bl true) := by
  have z := size_eq
  let E : Sl → Sl → En := fun p q => [.dat (.scr ns), p, q, .un, .un, .un, .un, .un, .un, .un, .un, .un]
  let o1 : List D := [.non, .int 5, .str "n", .str "7", .tup [], .tup [.int 1], .tup [.int 1, .int 2, .int 3], .lst [.int 1, .int 2], .tup [.bl true, .int 0], .tup [.int 1, .bl true], .tup [.int 10, .int 0], .tup [.int (-1), .int 5], .tup [.int 0, .int (-1)], .tup [.int 9, .int (-1)]]
  have two : ∀ {a b : M D} {x y : D} {es : En}, a es = .ok (x, es) → b es = .ok (y, es) → mTup (mCons a (mCons b mNil)) es = .ok (.tup [x, y], es) := fun h1 h2 => ev_tup (ev_cons h1 (ev_one h2)) (sl 2 (by decide))
  have s1 : ∀ q, mAsg (bName 1) (mLst (mCons (mC .non) (mCons (mC (.int 5)) (mCons (mC (.str "n")) (mCons (mC (.str "7")) (mCons (mTup mNil) (mCons (mTup (mCons (mC (.int 1)) mNil)) (mCons (mTup (mCons (mC (.int 1)) (mCons (mC (.int 2)) (mCons (mC (.int 3)) mNil)))) (mCons (mLst (mCons (mC (.int 1)) (mCons (mC (.int 2)) mNil))) (mCons (mTup (mCons (mC (.bl true)) (mCons (mC (.int 0)) mNil))) (mCons (mTup (mCons (mC (.int 1)) (mCons (mC (.bl true)) mNil))) (mCons (mTup (mCons (mC (.int 10)) (mCons (mC (.int 0)) mNil))) (mCons (mTup (mCons (mUn dNeg (mC (.int 1))) (mCons (mC (.int 5)) mNil))) (mCons (mTup (mCons (mC (.int 0)) (mCons (mUn dNeg (mC (.int 1))) mNil))) (mCons (mTup (mCons (mC (.int 9)) (mCons (mUn dNeg (mC (.int 1))) mNil))) mNil))))))))))))))) (E .un q) = .ok (.nx, E (.dat (.lst o1)) q) := fun q =>
    ev_setL (es1 := E .un q) (ev_lst (ev_cons rfl (ev_cons rfl (ev_cons rfl (ev_cons rfl (ev_cons (ev_tup rfl (sl 0 (by decide))) (ev_cons (ev_tup (ev_one rfl) (sl 1 (by decide))) (ev_cons (ev_tup (ev_cons rfl (ev_cons rfl (ev_one rfl))) (sl 3 (by decide))) (ev_cons (ev_lst (ev_cons rfl (ev_one rfl)) (sl 2 (by decide))) (ev_cons (two rfl rfl) (ev_cons (two rfl rfl) (ev_cons (two rfl rfl) (ev_cons (two (ev_un rfl rfl) rfl) (ev_cons (two rfl (ev_un rfl rfl)) (ev_one (two rfl (ev_un rfl rfl)))))))))))))))) (sl 14 (by decide)))
  have c30 : ∀ q p : Sl, mBin dPow (mC (.int 10)) (mC (.int 30)) (E p q) = .ok (.int 1000000000000000000000000000000, E p q) := fun q p => ev_bin rfl rfl pow30
  have s2 : ∀ q, mAsg (bName 1) (mBin dAdd (mVar 1) (mLst (mCons (mTup (mCons (mC (.int 1)) (mCons (mBin dAdd (mBin dPow (mC (.int 10)) (mC (.int 30))) (mC (.int 1))) mNil))) (mCons (mTup (mCons (mC (.int 1)) (mCons (mBin dSub (mUn dNeg (mBin dPow (mC (.int 10)) (mC (.int 30)))) (mC (.int 1))) mNil))) (mCons (mTup (mCons (mC (.int 0)) (mCons (mBin dPow (mC (.int 10)) (mC (.int 30))) mNil))) (mCons (mTup (mCons (mC (.str "1")) (mCons (mC (.int 2)) mNil))) (mCons mDc0 (mCons (mTup (mCons (mC (.int 0)) (mCons (mC (.int 0)) mNil))) (mCons (mTup (mCons (mC (.int 9)) (mCons (mUn dNeg (mBin dPow (mC (.int 10)) (mC (.int 30)))) mNil))) mNil))))))))) (E (.dat (.lst o1)) q) = .ok (.nx, E (.dat (.lst oddL)) q) := fun q =>
    ev_setL (es1 := E (.dat (.lst o1)) q) (ev_bin rfl (ev_lst (ev_cons (two rfl (ev_bin (c30 _ _) rfl rfl)) (ev_cons (two rfl (ev_bin (ev_un (c30 _ _) rfl) rfl rfl)) (ev_cons (two rfl (c30 _ _)) (ev_cons (two rfl rfl) (ev_cons rfl (ev_cons (two rfl rfl) (ev_one (two rfl (ev_un (c30 _ _) rfl))))))))) (sl 7 (by decide))) (catL (by show 14 + 7 ≤ 5000; decide)))
  have s3 : mAsg (bName 2) (mLst (mCons (mC (.str "")) (mCons (mC (.str "n")) (mCons (mC (.str "0")) (mCons (mC (.str "00")) (mCons (mC (.str "1n")) (mCons (mC (.str "0n")) (mCons (mC (.str "n+0")) (mCons (mC (.str "n-0")) (mCons (mC (.str "+3")) (mCons (mC (.str "-3")) (mCons (mC (.str "10n")) (mCons (mC (.str "2n+")) (mCons (mC (.str "nn")) (mCons (mC (.str "n + 1")) (mCons (mC (.str "9n-1")) (mCons (mC (.str "3N")) (mCons (mC (.str "2n1")) mNil)))))))))))))))))) (E (.dat (.lst oddL)) .un) = .ok (.nx, E (.dat (.lst oddL)) (.dat (.lst (txtL.map .str)))) :=
    ev_setL (es1 := E (.dat (.lst oddL)) .un) (ev_lst (ev_cons rfl (ev_cons rfl (ev_cons rfl (ev_cons rfl (ev_cons rfl (ev_cons rfl (ev_cons rfl (ev_cons rfl (ev_cons rfl (ev_cons rfl (ev_cons rfl (ev_cons rfl (ev_cons rfl (ev_cons rfl (ev_cons rfl (ev_cons rfl (ev_one rfl))))))))))))))))) (sl 17 (by decide)))
  obtain ⟨j, hj, j0, j1⟩ : ∃ j : Int, mCB dMax (mCons (mC (.int 1)) (mCons (mCB dMin (mCons (mCB dLen (mCons (mVar 0) mNil)) (mCons (mC (.int 8)) mNil))) mNil)) (E (.dat (.lst oddL)) (.dat (.lst (txtL.map .str)))) = .ok (.int j, E (.dat (.lst oddL)) (.dat (.lst (txtL.map .str)))) ∧ 0 ≤ j ∧ j ≤ 8 := by
    refine ⟨_, ev_cb (ev_cons rfl (ev_one (ev_cb (ev_cons (ev_cb (ev_one rfl) rfl) (ev_one rfl)) rfl))) rfl, ?_, ?_⟩ <;> (repeat' split) <;> omega
  obtain ⟨y3, y4, y5, y6, y7, y8, y9, y10, y11, e⟩ := loop_k ns (List.range j.toNat) .un .un .un .un .un .un .un .un .un fun k hk => by
    have := List.mem_range.mp hk
    omega
  exact ev_fn (es1 := EK ns y3 y4 y5 y6 y7 y8 y9 y10 y11) (ev_seq (s1 .un) (ev_seq (s2 .un) (ev_seq s3 (ev_seq (ev_for (ev_rg1 (ev_one hj) (by omega)) e) (ev_ret rfl)))))
end G
namespace G
open PySem PySem.Spec PyProof.Rows L2 Mi
def qLam : Str := (PySem.Str.ofString "law" ++ ".<locals>.") ++ "<lambda>"
def topS (i : Nat) : Stmt := PySem.Challenge.pw_ringtolls_k01_counts_judged.main.body.getD i (.Pass ⟨0, 0, 0, 0⟩)
structure Txt (P : Program) (K : PySem.W.Frag) (mg : Str → Option Value) (cl : CL) (Dd fI cc cda : Addr) : Prop where
  b_ValueError : mg "ValueError" = none
  b_abs : mg "abs" = none
  b_all : mg "all" = none
  b_bool : mg "bool" = none
  b_int : mg "int" = none
  b_isinstance : mg "isinstance" = none
  b_len : mg "len" = none
  b_list : mg "list" = none
  b_max : mg "max" = none
  b_min : mg "min" = none
  b_range : mg "range" = none
  b_repr : mg "repr" = none
  b_str : mg "str" = none
  b_tuple : mg "tuple" = none
  c_FIGURES : ∃ tk, mg "FIGURES" = some (.str (PySem.Str.ofString "0123456789") tk)
  c_MOST_FIGURES : ∃ tk, mg "MOST_FIGURES" = some (.int 31 tk)
  c_MOST_NUMBER : ∃ tk, mg "MOST_NUMBER" = some (.int 1000000000000000000000000000000 tk)
  c_MOST_TIMES : ∃ tk, mg "MOST_TIMES" = some (.int 9 tk)
  base : RoomX.BaseTxt P K mg Dd fI cc cda
  x_BadCount : RoomX.ClsTxt K (cl 1) Dd fI
  g_BadCount : mg "BadCount" = some (.ref (cl 1))
  m_BadCount : PySem.W.exmOne K (.ref (cl 1)) (.ref (cl 1)) = some true
  e_BadCount : ExcC K (cl 1)
  k_BadCount : PySem.W.kitOne K (.ref (cl 1)) (.type "ValueError") = some true
  x_BadNumber : RoomX.ClsTxt K (cl 2) Dd fI
  g_BadNumber : mg "BadNumber" = some (.ref (cl 2))
  m_BadNumber : PySem.W.exmOne K (.ref (cl 2)) (.ref (cl 2)) = some true
  x_BadText : RoomX.ClsTxt K (cl 0) Dd fI
  g_BadText : mg "BadText" = some (.ref (cl 0))
  m_BadText : PySem.W.exmOne K (.ref (cl 0)) (.ref (cl 0)) = some true
  q_BadNumber_BadCount : PySem.W.exmOne K (.ref (cl 2)) (.ref (cl 1)) = some false
  q_BadText_BadCount : PySem.W.exmOne K (.ref (cl 0)) (.ref (cl 1)) = some false
  q_BadText_BadNumber : PySem.W.exmOne K (.ref (cl 0)) (.ref (cl 2)) = some false
theorem Txt.with {P : Program} {K : PySem.W.Frag} {mg : Str → Option Value} {cl : CL} {Dd fI cc cda : Addr} (T : Txt P K mg cl Dd fI cc cda) (f : Addr) (B G : Hp) : Txt P K mg (cl.with f B G) Dd fI cc cda := {
  b_ValueError := T.b_ValueError,
  b_abs := T.b_abs,
  b_all := T.b_all,
  b_bool := T.b_bool,
  b_int := T.b_int,
  b_isinstance := T.b_isinstance,
  b_len := T.b_len,
  b_list := T.b_list,
  b_max := T.b_max,
  b_min := T.b_min,
  b_range := T.b_range,
  b_repr := T.b_repr,
  b_str := T.b_str,
  b_tuple := T.b_tuple,
  c_FIGURES := T.c_FIGURES,
  c_MOST_FIGURES := T.c_MOST_FIGURES,
  c_MOST_NUMBER := T.c_MOST_NUMBER,
  c_MOST_TIMES := T.c_MOST_TIMES,
  base := T.base,
  x_BadCount := T.x_BadCount,
  g_BadCount := T.g_BadCount,
  m_BadCount := T.m_BadCount,
  e_BadCount := T.e_BadCount,
  k_BadCount := T.k_BadCount,
  x_BadNumber := T.x_BadNumber,
  g_BadNumber := T.g_BadNumber,
  m_BadNumber := T.m_BadNumber,
  x_BadText := T.x_BadText,
  g_BadText := T.g_BadText,
  m_BadText := T.m_BadText,
  q_BadNumber_BadCount := T.q_BadNumber_BadCount,
  q_BadText_BadCount := T.q_BadText_BadCount,
  q_BadText_BadNumber := T.q_BadText_BadNumber }
section
variable {P : Program} {w : World} {K : PySem.W.Frag} {mg : Str → Option Value} {base : Heap} {cl : CL} {Dd fI cc cda : Addr}
theorem sc__law_pool : FnScope ["script", "k", "cell", "seed"] ["script", "k"] (defScope (topS 22)) := ⟨rfl, rfl, rfl, by decide +kernel, rfl, by decide +kernel, by decide +kernel⟩
theorem ok__law_pool (T : Txt P K mg cl Dd fI cc cda)  {f : Addr} {fd : FuncData} (Fn : Fun K "_law_pool" "_law_pool" (topS 22) f fd) (gm : mg "_law_pool" = some (.ref f)) (bd : Binds K fd ["script", "k"] []) :
    Fact P w K mg base "_law_pool" 1 ["script", "k"] (spF K cl g__law_pool 2) :=
  factF_mk (N := ["script", "k", "cell", "seed"]) (m := m__law_pool) Fn gm bd sc__law_pool fun cdv A outer s H E hr => ⟨_, by
    have nd := sc__law_pool.nd
    exact (xf_cons (xs_set 2 nd x_int)
      (xf_cons (xs_if (xt_cmp op_lt sim_lt (x_var 1) (x_cb call_len sim_len T.b_len PySem.boot_len (xa_cons (x_var 0) xa_nil))) (xb_one (xs_set 2 nd (x_ixK K (x_var 0) (x_var 1)))) xb_nil)
      (xf_cons (xs_set 3 nd (x_bin op_mod sim_mod (x_bin op_mulD sim_mul (x_bin op_addD sim_add (x_bin op_addD sim_add (x_bin op_mod sim_mod (x_var 2) x_int) (x_bin op_mulD sim_mul (x_bin op_mulD sim_mul x_int (x_var 1)) (x_var 1))) x_int) x_int) x_int))
      (xf_cons (xs_if (xt_cmp op_lt sim_lt (x_var 2) (x_bin op_pow sim_pow x_int x_int)) (xb_one (xs_set 2 nd x_int)) xb_nil)
      (xf_ret (xa_cons (x_var 2) (xa_cons (x_bin op_addD sim_add (x_bin op_mod sim_mod (x_bin op_mulD sim_mul (x_var 3) (x_var 3)) x_int) x_int) xa_nil)))))))⟩
theorem sc__law_take : FnScope ["pool", "many", "found"] ["pool", "many"] (defScope (topS 23)) := ⟨rfl, rfl, rfl, by decide +kernel, rfl, by decide +kernel, by decide +kernel⟩
theorem ok__law_take (T : Txt P K mg cl Dd fI cc cda)  {f : Addr} {fd : FuncData} (Fn : Fun K "_law_take" "_law_take" (topS 23) f fd) (gm : mg "_law_take" = some (.ref f)) (bd : Binds K fd ["pool", "many"] []) :
    Fact P w K mg base "_law_take" 1 ["pool", "many"] (spO K cl g__law_take 1) :=
  factO_mk (N := ["pool", "many", "found"]) (m := m__law_take) Fn gm bd sc__law_take fun cdv A outer s H E hr => ⟨_, by
    have nd := sc__law_take.nd
    exact (xb_cons (xs_if (xt_cmp op_gt sim_gt (x_ixO 0 x_int) x_int) (xb_cons (xs_set 2 nd (x_bin op_mod sim_mod (x_ixO 0 x_int) (x_var 1)))
      (xb_cons (xs_setIx 0 x_int (x_bin op_fdivW sim_div (x_ixO 0 x_int) (x_var 1)))
      (xb_one (xs_ret (x_var 2))))) xb_nil)
      (xb_cons (xs_setIx 0 x_int (x_bin op_mod sim_mod (x_bin op_addD sim_add (x_bin op_mulD sim_mul (x_ixO 0 x_int) x_int) x_int) x_int))
      (xb_one (xs_ret (x_bin op_mod sim_mod (x_bin op_fdivW sim_div (x_bin op_mod sim_mod (x_bin op_mulD sim_mul (x_ixO 0 x_int) (x_ixO 0 x_int)) x_int) x_int) (x_var 1))))))⟩
theorem sc__law_number : FnScope ["pool", "some"] ["pool"] (defScope (topS 24)) := ⟨rfl, rfl, rfl, by decide +kernel, rfl, by decide +kernel, by decide +kernel⟩
theorem ok__law_number (T : Txt P K mg cl Dd fI cc cda) (h__law_take : Fact P w K mg base "_law_take" 1 ["pool", "many"] (spO K cl g__law_take 1)) {f : Addr} {fd : FuncData} (Fn : Fun K "_law_number" "_law_number" (topS 24) f fd) (gm : mg "_law_number" = some (.ref f)) (bd : Binds K fd ["pool"] []) :
    Fact P w K mg base "_law_number" 2 ["pool"] (spO K cl g__law_number 0) :=
  factO_mk (N := ["pool", "some"]) (m := m__law_number) Fn gm bd sc__law_number fun cdv A outer s H E hr => ⟨_, by
    have nd := sc__law_number.nd
    exact (xb_cons (xs_set 1 nd (x_lst (xa_cons (x_callOK 0 h__law_take (hr.mono (show 1 ≤ 1 by decide)) passX (xa_cons x_int xa_nil)) (xa_cons (x_bin op_sub sim_sub (x_bin op_pow sim_pow x_int x_int) (x_callOK 0 h__law_take (hr.mono (show 1 ≤ 1 by decide)) passX (xa_cons x_int xa_nil))) (xa_cons (x_callOK 0 h__law_take (hr.mono (show 1 ≤ 1 by decide)) passX (xa_cons (x_bin op_pow sim_pow x_int x_int) xa_nil)) (xa_cons x_int (xa_cons x_int xa_nil)))))))
      (xb_one (xs_ret (x_ixK K (x_var 1) (x_callOK 0 h__law_take (hr.mono (show 1 ≤ 1 by decide)) passX (xa_cons x_int xa_nil))))))⟩
theorem sc_is_integer : FnScope ["thing"] ["thing"] (defScope (topS 10)) := ⟨rfl, rfl, rfl, by decide +kernel, rfl, by decide +kernel, by decide +kernel⟩
theorem ok_is_integer (T : Txt P K mg cl Dd fI cc cda)  {f : Addr} {fd : FuncData} (Fn : Fun K "is_integer" "is_integer" (topS 10) f fd) (gm : mg "is_integer" = some (.ref f)) (bd : Binds K fd ["thing"] []) :
    Fact P w K mg base "is_integer" 1 ["thing"] (spM K cl g_is_integer 1) :=
  fact_mk (N := ["thing"]) (m := m_is_integer) Fn gm bd sc_is_integer fun cdv A outer s H E hr => ⟨_, by
    have nd := sc_is_integer.nd
    exact (xb_one (xs_ret (x_and (x_isa .int (x_var 0) T.b_isinstance T.b_int (by decide +kernel)) (x_one (x_not (x_isa .bool (x_var 0) T.b_isinstance T.b_bool (by decide +kernel)))))))⟩
theorem sc_is_between : FnScope ["thing", "least", "most"] ["thing", "least", "most"] (defScope (topS 11)) := ⟨rfl, rfl, rfl, by decide +kernel, rfl, by decide +kernel, by decide +kernel⟩
theorem ok_is_between (T : Txt P K mg cl Dd fI cc cda) (h_is_integer : Fact P w K mg base "is_integer" 1 ["thing"] (spM K cl g_is_integer 1)) {f : Addr} {fd : FuncData} (Fn : Fun K "is_between" "is_between" (topS 11) f fd) (gm : mg "is_between" = some (.ref f)) (bd : Binds K fd ["thing", "least", "most"] []) :
    Fact P w K mg base "is_between" 2 ["thing", "least", "most"] (spM K cl g_is_between 3) :=
  fact_mk (N := ["thing", "least", "most"]) (m := m_is_between) Fn gm bd sc_is_between fun cdv A outer s H E hr => ⟨_, by
    have nd := sc_is_between.nd
    exact (xb_one (xs_ret (x_and (x_callK h_is_integer (hr.mono (show 1 ≤ 1 by decide)) passX (xa_cons (x_var 0) xa_nil)) (x_one (x_chn op_le sim_le op_le sim_le (x_var 1) (x_var 0) (x_var 2))))))⟩
theorem sc_is_count : FnScope ["thing"] ["thing"] (defScope (topS 13)) := ⟨rfl, rfl, rfl, by decide +kernel, rfl, by decide +kernel, by decide +kernel⟩
theorem ok_is_count (T : Txt P K mg cl Dd fI cc cda) (h_is_between : Fact P w K mg base "is_between" 2 ["thing", "least", "most"] (spM K cl g_is_between 3)) {f : Addr} {fd : FuncData} (Fn : Fun K "is_count" "is_count" (topS 13) f fd) (gm : mg "is_count" = some (.ref f)) (bd : Binds K fd ["thing"] []) :
    Fact P w K mg base "is_count" 3 ["thing"] (spM K cl g_is_count 1) :=
  fact_mk (N := ["thing"]) (m := m_is_count) Fn gm bd sc_is_count fun cdv A outer s H E hr => ⟨_, by
    have nd := sc_is_count.nd
    exact (xb_cons (xs_if (xt_w (xw_or (xt_not (xt_tru (x_isa .tuple (x_var 0) T.b_isinstance T.b_tuple (by decide +kernel)))) (xw_or (xt_cmp (op_neK hr.units) sim_ne (x_cb call_len sim_len T.b_len PySem.boot_len (xa_cons (x_var 0) xa_nil)) x_int) (xw_or1 (xt_not (xt_tru (x_callK h_is_between (hr.mono (show 2 ≤ 2 by decide)) passX (xa_cons (x_ixK K (x_var 0) x_int) (xa_cons x_int (xa_cons (x_gI T.c_MOST_TIMES) xa_nil)))))))))) (xb_one (xs_ret x_bl)) xb_nil)
      (xb_one (xs_ret (x_callK h_is_between (hr.mono (show 2 ≤ 2 by decide)) passX (xa_cons (x_ixK K (x_var 0) x_int) (xa_cons (x_ife (xt_cmp (op_eqK hr.units) sim_eq (x_ixK K (x_var 0) x_int) x_int) x_int (x_un un_neg sim_neg (x_gI T.c_MOST_NUMBER))) (xa_cons (x_gI T.c_MOST_NUMBER) xa_nil)))))))⟩
theorem sc__law_due : FnScope ["thing", "one"] ["thing"] (defScope (topS 25)) := ⟨rfl, rfl, rfl, by decide +kernel, rfl, by decide +kernel, by decide +kernel⟩
theorem ok__law_due (T : Txt P K mg cl Dd fI cc cda)  {f : Addr} {fd : FuncData} (Fn : Fun K "_law_due" "_law_due" (topS 25) f fd) (gm : mg "_law_due" = some (.ref f)) (bd : Binds K fd ["thing"] []) :
    Fact P w K mg base "_law_due" 1 ["thing"] (spM K cl g__law_due 1) :=
  fact_mk (N := ["thing", "one"]) (m := m__law_due) Fn gm bd sc__law_due fun cdv A outer s H E hr => ⟨_, by
    have nd := sc__law_due.nd
    exact (xb_cons (xs_if (xt_w (xw_or (xt_not (xt_tru (x_isa .tuple (x_var 0) T.b_isinstance T.b_tuple (by decide +kernel)))) (xw_or1 (xt_cmp (op_neK hr.units) sim_ne (x_cb call_len sim_len T.b_len PySem.boot_len (xa_cons (x_var 0) xa_nil)) x_int)))) (xb_one (xs_ret x_bl)) xb_nil)
      (xb_cons (xs_if (xt_cmp (op_neK hr.units) sim_ne (x_lc (own := [("one", 1)]) rfl nd (xi_T (x_var 0)) (blkOk_by (own := [("one", 1)]) (by show L2.blkC (["thing", "one"].map PySem.Str.ofString) (L2.defScope (topS 25)) _ _ = true; decide +kernel)) (fun _ _ _ _ _ => (xg_name 1 nd)) (by decide) (fun _ _ _ _ _ => (xts_one (xt_w (xw_or (xt_not (xt_truK K (x_isaK K .int (x_var 1) T.b_isinstance T.b_int (by decide +kernel)))) (xw_or1 (xt_truK K (x_isaK K .bool (x_var 1) T.b_isinstance T.b_bool (by decide +kernel)))))))) (fun _ _ _ _ _ => x_int)) (x_lst xa_nil)) (xb_one (xs_ret x_bl)) xb_nil)
      (xb_cons (xs_if (xt_w (xw_or (xt_not (xt_chn op_le sim_le op_le sim_le x_int (x_ixK K (x_var 0) x_int) x_int)) (xw_or1 (xt_cmp op_gt sim_gt (x_cb call_abs sim_abs T.b_abs PyProof.Rows.boot_abs (xa_cons (x_ixK K (x_var 0) x_int) xa_nil)) (x_bin op_pow sim_pow x_int x_int))))) (xb_one (xs_ret x_bl)) xb_nil)
      (xb_one (xs_ret (x_or (x_cmp op_gt sim_gt (x_ixK K (x_var 0) x_int) x_int) (x_one (x_cmp op_ge sim_ge (x_ixK K (x_var 0) x_int) x_int))))))))⟩
theorem sc_check_count : FnScope ["count"] ["count"] (defScope (topS 14)) := ⟨rfl, rfl, rfl, by decide +kernel, rfl, by decide +kernel, by decide +kernel⟩
theorem ok_check_count (T : Txt P K mg cl Dd fI cc cda) (h_is_count : Fact P w K mg base "is_count" 3 ["thing"] (spM K cl g_is_count 1)) {f : Addr} {fd : FuncData} (Fn : Fun K "check_count" "check_count" (topS 14) f fd) (gm : mg "check_count" = some (.ref f)) (bd : Binds K fd ["count"] []) :
    Fact P w K mg base "check_count" 4 ["count"] (spM K cl g_check_count 1) :=
  fact_mk (N := ["count"]) (m := m_check_count) Fn gm bd sc_check_count fun cdv A outer s H E hr => ⟨_, by
    have nd := sc_check_count.nd
    exact (xb_one (xs_if (xt_not (xt_tru (x_callK h_is_count (hr.mono (show 3 ≤ 3 by decide)) passX (xa_cons (x_var 0) xa_nil)))) (xb_one (xs_raise 1 rfl T.base T.x_BadCount T.g_BadCount rfl hr takesX (x_var 0))) xb_nil))⟩
theorem sc_format_count : FnScope ["count", "times", "more", "head"] ["count"] (defScope (topS 17)) := ⟨rfl, rfl, rfl, by decide +kernel, rfl, by decide +kernel, by decide +kernel⟩
theorem ok_format_count (T : Txt P K mg cl Dd fI cc cda) (h_check_count : Fact P w K mg base "check_count" 4 ["count"] (spM K cl g_check_count 1)) {f : Addr} {fd : FuncData} (Fn : Fun K "format_count" "format_count" (topS 17) f fd) (gm : mg "format_count" = some (.ref f)) (bd : Binds K fd ["count"] []) :
    Fact P w K mg base "format_count" 5 ["count"] (spM K cl g_format_count 1) :=
  fact_mk (N := ["count", "times", "more", "head"]) (m := m_format_count) Fn gm bd sc_format_count fun cdv A outer s H E hr => ⟨_, by
    have nd := sc_format_count.nd
    exact (xb_cons (xs_expr (x_callK h_check_count (hr.mono (show 4 ≤ 4 by decide)) passX (xa_cons (x_var 0) xa_nil)))
      (xb_cons (xs_asg (x_var 0) (xg_tup rfl (xgs_cons 1 nd (xgs_cons 2 nd xgs_nil)) rfl))
      (xb_cons (xs_if (xt_cmp (op_eqK hr.units) sim_eq (x_var 1) x_int) (xb_one (xs_ret (x_ct call_strD sim_str T.b_str (by decide +kernel) (xa_cons (x_var 2) xa_nil)))) xb_nil)
      (xb_cons (xs_set 3 nd (x_ife (xt_cmp (op_eqK hr.units) sim_eq (x_var 1) x_int) x_str (x_fs (.cons (x_fmt (x_var 1)) (.cons x_str .nil)))))
      (xb_one (xs_ret (x_ife (xt_cmp (op_eqK hr.units) sim_eq (x_var 2) x_int) (x_var 3) (x_fs (.cons (x_fmt (x_var 3)) (.cons (x_fmtP (x_var 2)) .nil))))))))))⟩
theorem sc__law_refused : FnScope ["call", "kept", "e"] ["call"] (defScope (topS 29)) := ⟨rfl, rfl, rfl, by decide +kernel, rfl, by decide +kernel, by decide +kernel⟩
theorem ok__law_refused (T : Txt P K mg cl Dd fI cc cda) {f : Addr} {fd : FuncData} (Fn : Fun K "_law_refused" "_law_refused" (topS 29) f fd) (gm : mg "_law_refused" = some (.ref f)) (bd : Binds K fd ["call"] []) :
    FactL P w K mg base cl "_law_refused" 7 6 ["call"] g__law_refused 0 :=
  factL_mk (N := ["call", "kept", "e"]) (m := m__law_refused) Fn gm bd rfl sc__law_refused fun cdv A outer s H E fl G r hcl hr LO => ⟨_, by
    have nd := sc__law_refused.nd
    exact (xb_cons (xs_set 1 nd x_non)
      (xb_cons (xs_tryL 2 1 0 nd hcl (fun pn xe => canFn_of LO pn xe) (hr.mono (show 6 ≤ 6 by decide)) takesX (xcl_cons (t := fun a dx _ => _) T.g_BadCount T.m_BadCount (fun p hp => by (rcases List.mem_cons.mp hp with rfl | hp; exact T.q_BadNumber_BadCount); (rcases List.mem_cons.mp hp with rfl | hp; exact T.q_BadText_BadCount); cases hp) (fun _ _ _ _ _ hz hf => (xxs_set 1 nd (xx_lst (xxa_cons (xx_of x_str) (xxa_cons (xx_show hr T.b_repr (xx_val T.x_BadCount hz hf)) (xxa_cons (xx_isa T.e_BadCount T.k_BadCount hz hf T.b_isinstance T.b_ValueError (by decide +kernel)) xxa_nil)))))) (xcl_cons (t := fun a dx _ => _) T.g_BadNumber T.m_BadNumber (fun p hp => by (rcases List.mem_cons.mp hp with rfl | hp; exact T.q_BadText_BadNumber); cases hp) (fun _ _ _ _ _ hz hf => (xxs_set 1 nd (xx_lst (xxa_cons (xx_of x_str) (xxa_cons (xx_show hr T.b_repr (xx_val T.x_BadNumber hz hf)) xxa_nil))))) (xcl_cons (t := fun a dx _ => _) T.g_BadText T.m_BadText (fun p hp => by  cases hp) (fun _ _ _ _ _ hz hf => (xxs_set 1 nd (xx_lst (xxa_cons (xx_of x_str) (xxa_cons (xx_show hr T.b_repr (xx_val T.x_BadText hz hf)) xxa_nil))))) xcl_nil))))
      (xb_one (xs_ret (x_var 1)))))⟩
theorem sc_check_number : FnScope ["n"] ["n"] (defScope (topS 12)) := ⟨rfl, rfl, rfl, by decide +kernel, rfl, by decide +kernel, by decide +kernel⟩
theorem ok_check_number (T : Txt P K mg cl Dd fI cc cda) (h_is_between : Fact P w K mg base "is_between" 2 ["thing", "least", "most"] (spM K cl g_is_between 3)) {f : Addr} {fd : FuncData} (Fn : Fun K "check_number" "check_number" (topS 12) f fd) (gm : mg "check_number" = some (.ref f)) (bd : Binds K fd ["n"] []) :
    Fact P w K mg base "check_number" 3 ["n"] (spM K cl g_check_number 1) :=
  fact_mk (N := ["n"]) (m := m_check_number) Fn gm bd sc_check_number fun cdv A outer s H E hr => ⟨_, by
    have nd := sc_check_number.nd
    exact (xb_one (xs_if (xt_not (xt_tru (x_callK h_is_between (hr.mono (show 2 ≤ 2 by decide)) passX (xa_cons (x_var 0) (xa_cons x_int (xa_cons (x_gI T.c_MOST_NUMBER) xa_nil)))))) (xb_one (xs_raise 2 rfl T.base T.x_BadNumber T.g_BadNumber rfl hr takesX (x_var 0))) xb_nil))⟩
theorem sc_rounds_at : FnScope ["count", "n"] ["count", "n"] (defScope (topS 15)) := ⟨rfl, rfl, rfl, by decide +kernel, rfl, by decide +kernel, by decide +kernel⟩
theorem ok_rounds_at (T : Txt P K mg cl Dd fI cc cda)  {f : Addr} {fd : FuncData} (Fn : Fun K "rounds_at" "rounds_at" (topS 15) f fd) (gm : mg "rounds_at" = some (.ref f)) (bd : Binds K fd ["count", "n"] []) :
    Fact P w K mg base "rounds_at" 1 ["count", "n"] (spM K cl g_rounds_at 2) :=
  fact_mk (N := ["count", "n"]) (m := m_rounds_at) Fn gm bd sc_rounds_at fun cdv A outer s H E hr => ⟨_, by
    have nd := sc_rounds_at.nd
    exact (xb_one (xs_ret (x_cb (call_max2 rfl) sim_max T.b_max PyProof.Rows.boot_max (xa_cons x_int (xa_cons (x_bin op_addD sim_add (x_bin op_mulD sim_mul (x_ixK K (x_var 0) x_int) (x_var 1)) (x_ixK K (x_var 0) x_int)) xa_nil)))))⟩
theorem sc_rounds : FnScope ["count", "n"] ["count", "n"] (defScope (topS 16)) := ⟨rfl, rfl, rfl, by decide +kernel, rfl, by decide +kernel, by decide +kernel⟩
theorem ok_rounds (T : Txt P K mg cl Dd fI cc cda) (h_check_count : Fact P w K mg base "check_count" 4 ["count"] (spM K cl g_check_count 1)) (h_check_number : Fact P w K mg base "check_number" 3 ["n"] (spM K cl g_check_number 1)) (h_rounds_at : Fact P w K mg base "rounds_at" 1 ["count", "n"] (spM K cl g_rounds_at 2)) {f : Addr} {fd : FuncData} (Fn : Fun K "rounds" "rounds" (topS 16) f fd) (gm : mg "rounds" = some (.ref f)) (bd : Binds K fd ["count", "n"] []) :
    Fact P w K mg base "rounds" 5 ["count", "n"] (spM K cl g_rounds 2) :=
  fact_mk (N := ["count", "n"]) (m := m_rounds) Fn gm bd sc_rounds fun cdv A outer s H E hr => ⟨_, by
    have nd := sc_rounds.nd
    exact (xb_cons (xs_expr (x_callK h_check_count (hr.mono (show 4 ≤ 4 by decide)) passX (xa_cons (x_var 0) xa_nil)))
      (xb_cons (xs_expr (x_callK h_check_number (hr.mono (show 3 ≤ 4 by decide)) passX (xa_cons (x_var 1) xa_nil)))
      (xb_one (xs_ret (x_callK h_rounds_at (hr.mono (show 1 ≤ 4 by decide)) passX (xa_cons (x_var 0) (xa_cons (x_var 1) xa_nil)))))))⟩
theorem sc__law_text : FnScope ["count", "head"] ["count"] (defScope (topS 26)) := ⟨rfl, rfl, rfl, by decide +kernel, rfl, by decide +kernel, by decide +kernel⟩
theorem ok__law_text (T : Txt P K mg cl Dd fI cc cda)  {f : Addr} {fd : FuncData} (Fn : Fun K "_law_text" "_law_text" (topS 26) f fd) (gm : mg "_law_text" = some (.ref f)) (bd : Binds K fd ["count"] []) :
    Fact P w K mg base "_law_text" 1 ["count"] (spM K cl g__law_text 1) :=
  fact_mk (N := ["count", "head"]) (m := m__law_text) Fn gm bd sc__law_text fun cdv A outer s H E hr => ⟨_, by
    have nd := sc__law_text.nd
    exact (xb_cons (xs_if (xt_cmp (op_eqK hr.units) sim_eq (x_ixK K (x_var 0) x_int) x_int) (xb_one (xs_ret (x_ct call_strD sim_str T.b_str (by decide +kernel) (xa_cons (x_ixK K (x_var 0) x_int) xa_nil)))) xb_nil)
      (xb_cons (xs_set 1 nd (x_bin op_addD sim_add (x_ixK K (x_lst (xa_cons x_str (xa_cons (x_ct call_strD sim_str T.b_str (by decide +kernel) (xa_cons (x_ixK K (x_var 0) x_int) xa_nil)) xa_nil))) (x_ct call_intD sim_int T.b_int (by decide +kernel) (xa_cons (x_cmp op_gt sim_gt (x_ixK K (x_var 0) x_int) x_int) xa_nil))) x_str))
      (xb_cons (xs_if (xt_cmp (op_eqK hr.units) sim_eq (x_ixK K (x_var 0) x_int) x_int) (xb_one (xs_ret (x_var 1))) xb_nil)
      (xb_one (xs_ret (x_bin op_addD sim_add (x_bin op_addD sim_add (x_var 1) (x_ixK K (x_lst (xa_cons x_str (xa_cons x_str xa_nil))) (x_ct call_intD sim_int T.b_int (by decide +kernel) (xa_cons (x_cmp op_gt sim_gt (x_ixK K (x_var 0) x_int) x_int) xa_nil)))) (x_ct call_strD sim_str T.b_str (by decide +kernel) (xa_cons (x_cb call_abs sim_abs T.b_abs PyProof.Rows.boot_abs (xa_cons (x_ixK K (x_var 0) x_int) xa_nil)) xa_nil))))))))⟩
theorem sc__law_bent : FnScope ["pool", "text", "at", "sign"] ["pool", "text"] (defScope (topS 30)) := ⟨rfl, rfl, rfl, by decide +kernel, rfl, by decide +kernel, by decide +kernel⟩
theorem ok__law_bent (T : Txt P K mg cl Dd fI cc cda) (h__law_take : Fact P w K mg base "_law_take" 1 ["pool", "many"] (spO K cl g__law_take 1)) {f : Addr} {fd : FuncData} (Fn : Fun K "_law_bent" "_law_bent" (topS 30) f fd) (gm : mg "_law_bent" = some (.ref f)) (bd : Binds K fd ["pool", "text"] []) :
    Fact P w K mg base "_law_bent" 2 ["pool", "text"] (spO K cl g__law_bent 1) :=
  factO_mk (N := ["pool", "text", "at", "sign"]) (m := m__law_bent) Fn gm bd sc__law_bent fun cdv A outer s H E hr => ⟨_, by
    have nd := sc__law_bent.nd
    exact (xb_cons (xs_par 2 3 rfl nd (xa_cons (x_callOK 0 h__law_take (hr.mono (show 1 ≤ 1 by decide)) passX (xa_cons (x_bin op_addD sim_add (x_cb call_len sim_len T.b_len PySem.boot_len (xa_cons (x_var 1) xa_nil)) x_int) xa_nil)) (xa_cons (x_ixK K x_str (x_callOK 0 h__law_take (hr.mono (show 1 ≤ 1 by decide)) passX (xa_cons x_int xa_nil))) xa_nil)))
      (xb_one (xs_ret (x_lst (xa_cons (x_bin op_addD sim_add (x_bin op_addD sim_add (x_sliceK K (x_var 1) xo_none (xo_some (x_var 2))) (x_var 3)) (x_sliceK K (x_var 1) (xo_some (x_var 2)) xo_none)) (xa_cons (x_bin op_addD sim_add (x_sliceK K (x_var 1) xo_none (xo_some (x_var 2))) (x_sliceK K (x_var 1) (xo_some (x_bin op_addD sim_add (x_var 2) x_int)) xo_none)) (xa_cons (x_bin op_addD sim_add (x_bin op_addD sim_add (x_sliceK K (x_var 1) xo_none (xo_some (x_var 2))) (x_var 3)) (x_sliceK K (x_var 1) (xo_some (x_bin op_addD sim_add (x_var 2) x_int)) xo_none)) xa_nil)))))))⟩
theorem sc__law_is_number : FnScope ["text", "sign"] ["text"] (defScope (topS 28)) := ⟨rfl, rfl, rfl, by decide +kernel, rfl, by decide +kernel, by decide +kernel⟩
theorem ok__law_is_number (T : Txt P K mg cl Dd fI cc cda)  {f : Addr} {fd : FuncData} (Fn : Fun K "_law_is_number" "_law_is_number" (topS 28) f fd) (gm : mg "_law_is_number" = some (.ref f)) (bd : Binds K fd ["text"] []) :
    Fact P w K mg base "_law_is_number" 1 ["text"] (spM K cl g__law_is_number 1) :=
  fact_mk (N := ["text", "sign"]) (m := m__law_is_number) Fn gm bd sc__law_is_number fun cdv A outer s H E hr => ⟨_, by
    have nd := sc__law_is_number.nd
    exact (xb_cons (xs_if (xt_w (xw_or (xt_cmp (op_eqK hr.units) sim_eq (x_var 0) x_str) (xw_or (xt_cmp op_gt sim_gt (x_cb call_len sim_len T.b_len PySem.boot_len (xa_cons (x_var 0) xa_nil)) x_int) (xw_or1 (xt_cmp (op_neK hr.units) sim_ne (x_lc (own := [("sign", 1)]) rfl nd (xi_S (x_var 0)) (blkOk_by (own := [("sign", 1)]) (by show L2.blkC (["text", "sign"].map PySem.Str.ofString) (L2.defScope (topS 28)) _ _ = true; decide +kernel)) (fun _ _ _ _ _ => (xg_name 1 nd)) (by decide) (fun _ _ _ _ _ => (xts_one (xt_cmp (r := rNinD K) op_ninD sim_nin (x_var 1) x_str))) (fun _ _ _ _ _ => (x_var 1))) (x_lst xa_nil)))))) (xb_one (xs_ret x_bl)) xb_nil)
      (xb_one (xs_ret (x_and (x_or (x_cmp (op_eqK hr.units) sim_eq (x_var 0) x_str) (x_one (x_cmp (op_neK hr.units) sim_ne (x_ixK K (x_var 0) x_int) x_str))) (x_one (x_cmp op_le sim_le (x_ct call_intD sim_int T.b_int (by decide +kernel) (xa_cons (x_var 0) xa_nil)) (x_bin op_pow sim_pow x_int x_int)))))))⟩
theorem sc__law_value : FnScope ["text", "head", "found", "tail"] ["text"] (defScope (topS 27)) := ⟨rfl, rfl, rfl, by decide +kernel, rfl, by decide +kernel, by decide +kernel⟩
theorem ok__law_value (T : Txt P K mg cl Dd fI cc cda) (h__law_is_number : Fact P w K mg base "_law_is_number" 1 ["text"] (spM K cl g__law_is_number 1)) {f : Addr} {fd : FuncData} (Fn : Fun K "_law_value" "_law_value" (topS 27) f fd) (gm : mg "_law_value" = some (.ref f)) (bd : Binds K fd ["text"] []) :
    Fact P w K mg base "_law_value" 2 ["text"] (spM K cl g__law_value 1) :=
  fact_mk (N := ["text", "head", "found", "tail"]) (m := m__law_value) Fn gm bd sc__law_value fun cdv A outer s H E hr => ⟨_, by
    have nd := sc__law_value.nd
    exact (xb_cons (xs_asg (x_part (x_var 0) x_str) (xg_tup rfl (xgs_cons 1 nd (xgs_cons 2 nd (xgs_cons 3 nd xgs_nil))) rfl))
      (xb_cons (xs_if (xt_cmp (op_eqK hr.units) sim_eq (x_var 2) x_str) (xb_one (xs_ret (x_ife (xt_tru (x_callK h__law_is_number (hr.mono (show 1 ≤ 1 by decide)) passX (xa_cons (x_var 1) xa_nil))) (x_tup (xa_cons x_int (xa_cons (x_ct call_intD sim_int T.b_int (by decide +kernel) (xa_cons (x_var 1) xa_nil)) xa_nil))) x_non))) xb_nil)
      (xb_cons (xs_if (xt_w (xw_and (xt_cmp (op_neK hr.units) sim_ne (x_var 1) x_str) (xw_and1 (xt_w (xw_or (xt_not (xt_tru (x_callK h__law_is_number (hr.mono (show 1 ≤ 1 by decide)) passX (xa_cons (x_var 1) xa_nil)))) (xw_or1 (xt_not (xt_chn op_le sim_le op_le sim_le x_int (x_ct call_intD sim_int T.b_int (by decide +kernel) (xa_cons (x_var 1) xa_nil)) x_int)))))))) (xb_one (xs_ret x_non)) xb_nil)
      (xb_cons (xs_if (xt_cmp (op_eqK hr.units) sim_eq (x_var 3) x_str) (xb_one (xs_ret (x_tup (xa_cons (x_ife (xt_cmp (op_eqK hr.units) sim_eq (x_var 1) x_str) x_int (x_ct call_intD sim_int T.b_int (by decide +kernel) (xa_cons (x_var 1) xa_nil))) (xa_cons x_int xa_nil))))) xb_nil)
      (xb_cons (xs_if (xt_w (xw_or (xt_cmp (r := rNinD K) op_ninD sim_nin (x_ixK K (x_var 3) x_int) x_str) (xw_or (xt_not (xt_tru (x_callK h__law_is_number (hr.mono (show 1 ≤ 1 by decide)) passX (xa_cons (x_sliceK K (x_var 3) (xo_some x_int) xo_none) xa_nil)))) (xw_or1 (xt_cmp (op_eqK hr.units) sim_eq (x_ct call_intD sim_int T.b_int (by decide +kernel) (xa_cons (x_sliceK K (x_var 3) (xo_some x_int) xo_none) xa_nil)) x_int))))) (xb_one (xs_ret x_non)) xb_nil)
      (xb_one (xs_ret (x_tup (xa_cons (x_ife (xt_cmp (op_eqK hr.units) sim_eq (x_var 1) x_str) x_int (x_ct call_intD sim_int T.b_int (by decide +kernel) (xa_cons (x_var 1) xa_nil))) (xa_cons (x_bin op_mulD sim_mul (x_ct call_intD sim_int T.b_int (by decide +kernel) (xa_cons (x_sliceK K (x_var 3) (xo_some x_int) xo_none) xa_nil)) (x_ife (xt_cmp (op_eqK hr.units) sim_eq (x_ixK K (x_var 3) x_int) x_str) x_int (x_un un_neg sim_neg x_int))) xa_nil))))))))))⟩
theorem sc_number_in : FnScope ["text", "sign"] ["text"] (defScope (topS 18)) := ⟨rfl, rfl, rfl, by decide +kernel, rfl, by decide +kernel, by decide +kernel⟩
theorem ok_number_in (T : Txt P K mg cl Dd fI cc cda)  {f : Addr} {fd : FuncData} (Fn : Fun K "number_in" "number_in" (topS 18) f fd) (gm : mg "number_in" = some (.ref f)) (bd : Binds K fd ["text"] []) :
    Fact P w K mg base "number_in" 1 ["text"] (spM K cl g_number_in 1) :=
  fact_mk (N := ["text", "sign"]) (m := m_number_in) Fn gm bd sc_number_in fun cdv A outer s H E hr => ⟨_, by
    have nd := sc_number_in.nd
    exact (xb_cons (xs_if (xt_w (xw_or (xt_not (xt_tru (x_isa .str (x_var 0) T.b_isinstance T.b_str (by decide +kernel)))) (xw_or (xt_not (xt_chn op_le sim_le op_le sim_le x_int (x_cb call_len sim_len T.b_len PySem.boot_len (xa_cons (x_var 0) xa_nil)) (x_gI T.c_MOST_FIGURES))) (xw_or1 (xt_not (xt_tru (x_cb (cr_all rfl) sim_all T.b_all PyProof.Rows.boot_all (xa_cons (x_lc (own := [("sign", 1)]) rfl nd (xi_S (x_var 0)) (blkOk_by (own := [("sign", 1)]) (by show L2.blkC (["text", "sign"].map PySem.Str.ofString) (L2.defScope (topS 18)) _ _ = true; decide +kernel)) (fun _ _ _ _ _ => (xg_name 1 nd)) (by decide) (fun _ _ _ _ _ => xts_nil) (fun _ _ _ _ _ => (x_cmp (r := rInD K) op_inD sim_in (x_var 1) (x_gS T.c_FIGURES)))) xa_nil)))))))) (xb_one (xs_ret x_non)) xb_nil)
      (xb_one (xs_ret (x_ife (xt_w (xw_or (xt_cmp (op_eqK hr.units) sim_eq (x_var 0) x_str) (xw_or1 (xt_cmp (op_neK hr.units) sim_ne (x_ixK K (x_var 0) x_int) x_str)))) (x_ct call_intD sim_int T.b_int (by decide +kernel) (xa_cons (x_var 0) xa_nil)) x_non))))⟩
theorem sc_count_in : FnScope ["text", "head", "found", "tail", "number", "times"] ["text"] (defScope (topS 19)) := ⟨rfl, rfl, rfl, by decide +kernel, rfl, by decide +kernel, by decide +kernel⟩
theorem ok_count_in (T : Txt P K mg cl Dd fI cc cda) (h_number_in : Fact P w K mg base "number_in" 1 ["text"] (spM K cl g_number_in 1)) {f : Addr} {fd : FuncData} (Fn : Fun K "count_in" "count_in" (topS 19) f fd) (gm : mg "count_in" = some (.ref f)) (bd : Binds K fd ["text"] []) :
    Fact P w K mg base "count_in" 2 ["text"] (spM K cl g_count_in 1) :=
  fact_mk (N := ["text", "head", "found", "tail", "number", "times"]) (m := m_count_in) Fn gm bd sc_count_in fun cdv A outer s H E hr => ⟨_, by
    have nd := sc_count_in.nd
    exact (xb_cons (xs_asg (x_part (x_var 0) x_str) (xg_tup rfl (xgs_cons 1 nd (xgs_cons 2 nd (xgs_cons 3 nd xgs_nil))) rfl))
      (xb_cons (xs_if (xt_cmp (op_eqK hr.units) sim_eq (x_var 2) x_str) (xb_cons (xs_set 4 nd (x_callK h_number_in (hr.mono (show 1 ≤ 1 by decide)) passX (xa_cons (x_var 1) xa_nil)))
      (xb_one (xs_ret (x_ife (xt_w (xw_or (xt_cmp op_isN sim_is (x_var 4) x_non) (xw_or1 (xt_cmp op_gt sim_gt (x_var 4) (x_gI T.c_MOST_NUMBER))))) x_non (x_tup (xa_cons x_int (xa_cons (x_var 4) xa_nil))))))) xb_nil)
      (xb_cons (xs_set 5 nd (x_ife (xt_cmp (op_eqK hr.units) sim_eq (x_var 1) x_str) x_int (x_callK h_number_in (hr.mono (show 1 ≤ 1 by decide)) passX (xa_cons (x_var 1) xa_nil))))
      (xb_cons (xs_if (xt_w (xw_or (xt_cmp op_isN sim_is (x_var 5) x_non) (xw_or (xt_not (xt_chn op_le sim_le op_le sim_le x_int (x_var 5) (x_gI T.c_MOST_TIMES))) (xw_or1 (xt_cmp (op_eqK hr.units) sim_eq (x_var 1) x_str))))) (xb_one (xs_ret x_non)) xb_nil)
      (xb_cons (xs_if (xt_cmp (op_eqK hr.units) sim_eq (x_var 3) x_str) (xb_one (xs_ret (x_tup (xa_cons (x_var 5) (xa_cons x_int xa_nil))))) xb_nil)
      (xb_cons (xs_set 4 nd (x_callK h_number_in (hr.mono (show 1 ≤ 1 by decide)) passX (xa_cons (x_sliceK K (x_var 3) (xo_some x_int) xo_none) xa_nil)))
      (xb_cons (xs_if (xt_w (xw_or (xt_cmp (r := rNinD K) op_ninD sim_nin (x_ixK K (x_var 3) x_int) x_str) (xw_or (xt_cmp op_isN sim_is (x_var 4) x_non) (xw_or1 (xt_not (xt_chn op_le sim_le op_le sim_le x_int (x_var 4) (x_gI T.c_MOST_NUMBER))))))) (xb_one (xs_ret x_non)) xb_nil)
      (xb_one (xs_ret (x_tup (xa_cons (x_var 5) (xa_cons (x_ife (xt_cmp (op_eqK hr.units) sim_eq (x_ixK K (x_var 3) x_int) x_str) (x_var 4) (x_un un_neg sim_neg (x_var 4))) xa_nil))))))))))))⟩
theorem sc_parse_count : FnScope ["text", "found"] ["text"] (defScope (topS 20)) := ⟨rfl, rfl, rfl, by decide +kernel, rfl, by decide +kernel, by decide +kernel⟩
theorem ok_parse_count (T : Txt P K mg cl Dd fI cc cda) (h_count_in : Fact P w K mg base "count_in" 2 ["text"] (spM K cl g_count_in 1)) {f : Addr} {fd : FuncData} (Fn : Fun K "parse_count" "parse_count" (topS 20) f fd) (gm : mg "parse_count" = some (.ref f)) (bd : Binds K fd ["text"] []) :
    Fact P w K mg base "parse_count" 3 ["text"] (spM K cl g_parse_count 1) :=
  fact_mk (N := ["text", "found"]) (m := m_parse_count) Fn gm bd sc_parse_count fun cdv A outer s H E hr => ⟨_, by
    have nd := sc_parse_count.nd
    exact (xb_cons (xs_set 1 nd (x_ife (xt_tru (x_isa .str (x_var 0) T.b_isinstance T.b_str (by decide +kernel))) (x_callK h_count_in (hr.mono (show 2 ≤ 2 by decide)) passX (xa_cons (x_var 0) xa_nil)) x_non))
      (xb_cons (xs_if (xt_cmp op_isN sim_is (x_var 1) x_non) (xb_one (xs_raise 0 rfl T.base T.x_BadText T.g_BadText rfl hr takesX (x_var 0))) xb_nil)
      (xb_one (xs_ret (x_var 1)))))⟩
theorem sc_law : FnScope ["script", "odd", "texts", "k", "pool", "a", "b", "count", "n", "thing", "text", "due"] ["script"] (defScope (topS 31)) := ⟨rfl, rfl, rfl, by decide +kernel, rfl, by decide +kernel, by decide +kernel⟩
theorem fnok_law (T : Txt P K mg cl Dd fI cc cda) (h__law_pool : Fact P w K mg base "_law_pool" 1 ["script", "k"] (spF K cl g__law_pool 2)) (h__law_take : Fact P w K mg base "_law_take" 1 ["pool", "many"] (spO K cl g__law_take 1)) (h__law_number : Fact P w K mg base "_law_number" 2 ["pool"] (spO K cl g__law_number 0)) (h_is_count : Fact P w K mg base "is_count" 3 ["thing"] (spM K cl g_is_count 1)) (h__law_due : Fact P w K mg base "_law_due" 1 ["thing"] (spM K cl g__law_due 1)) (h_format_count : Fact P w K mg base "format_count" 5 ["count"] (spM K cl g_format_count 1)) (h__law_refused : ∀ (f : Addr) (B G : Hp), FactL P w K mg base (cl.with f B G) "_law_refused" 7 6 ["call"] g__law_refused 0) (h_rounds : Fact P w K mg base "rounds" 5 ["count", "n"] (spM K cl g_rounds 2)) (h__law_text : Fact P w K mg base "_law_text" 1 ["count"] (spM K cl g__law_text 1)) (h__law_bent : Fact P w K mg base "_law_bent" 2 ["pool", "text"] (spO K cl g__law_bent 1)) (h__law_value : Fact P w K mg base "_law_value" 2 ["text"] (spM K cl g__law_value 1)) (h_parse_count : Fact P w K mg base "parse_count" 3 ["text"] (spM K cl g_parse_count 1)) {f c P' : Addr} {fd : FuncData} (Fn : Fun K "law" "law" (topS 31) f fd) (hc : fd.code = .ref c) (hn : cl.fn = none) (hts : cl.ts = [(P', ((PySem.Str.ofString "law" : Str) ++ ".<locals>.") ++ "<lambda>")]) (TB : LamX.TabB base mg c P') :
    FnG P w K mg base (L2.CX P w) 8 f fd ["script"] (spM K cl g_law 1) :=
  fn_okC (N := ["script", "odd", "texts", "k", "pool", "a", "b", "count", "n", "thing", "text", "due"]) (m := m_law) Fn hc sc_law fun A outer s H E hr => ⟨_, by
    have nd := sc_law.nd
    exact (xb_cons (xs_set 1 nd (x_lst (xa_cons x_non (xa_cons x_int (xa_cons x_str (xa_cons x_str (xa_cons (x_tup xa_nil) (xa_cons (x_tup (xa_cons x_int xa_nil)) (xa_cons (x_tup (xa_cons x_int (xa_cons x_int (xa_cons x_int xa_nil)))) (xa_cons (x_lst (xa_cons x_int (xa_cons x_int xa_nil))) (xa_cons (x_tup (xa_cons x_bl (xa_cons x_int xa_nil))) (xa_cons (x_tup (xa_cons x_int (xa_cons x_bl xa_nil))) (xa_cons (x_tup (xa_cons x_int (xa_cons x_int xa_nil))) (xa_cons (x_tup (xa_cons (x_un un_neg sim_neg x_int) (xa_cons x_int xa_nil))) (xa_cons (x_tup (xa_cons x_int (xa_cons (x_un un_neg sim_neg x_int) xa_nil))) (xa_cons (x_tup (xa_cons x_int (xa_cons (x_un un_neg sim_neg x_int) xa_nil))) xa_nil))))))))))))))))
      (xb_cons (xs_set 1 nd (x_bin op_addD sim_add (x_var 1) (x_lst (xa_cons (x_tup (xa_cons x_int (xa_cons (x_bin op_addD sim_add (x_bin op_pow sim_pow x_int x_int) x_int) xa_nil))) (xa_cons (x_tup (xa_cons x_int (xa_cons (x_bin op_sub sim_sub (x_un un_neg sim_neg (x_bin op_pow sim_pow x_int x_int)) x_int) xa_nil))) (xa_cons (x_tup (xa_cons x_int (xa_cons (x_bin op_pow sim_pow x_int x_int) xa_nil))) (xa_cons (x_tup (xa_cons x_str (xa_cons x_int xa_nil))) (xa_cons x_dc0 (xa_cons (x_tup (xa_cons x_int (xa_cons x_int xa_nil))) (xa_cons (x_tup (xa_cons x_int (xa_cons (x_un un_neg sim_neg (x_bin op_pow sim_pow x_int x_int)) xa_nil))) xa_nil))))))))))
      (xb_cons (xs_set 2 nd (x_lst (xa_cons x_str (xa_cons x_str (xa_cons x_str (xa_cons x_str (xa_cons x_str (xa_cons x_str (xa_cons x_str (xa_cons x_str (xa_cons x_str (xa_cons x_str (xa_cons x_str (xa_cons x_str (xa_cons x_str (xa_cons x_str (xa_cons x_str (xa_cons x_str (xa_cons x_str xa_nil)))))))))))))))))))
      (xb_cons (xs_for pownX rfl (xi_rg1 T.b_range (xa_cons (x_cb (call_max2 rfl) sim_max T.b_max PyProof.Rows.boot_max (xa_cons x_int (xa_cons (x_cb (call_min2 rfl) sim_min T.b_min PyProof.Rows.boot_min (xa_cons (x_cb call_len sim_len T.b_len PySem.boot_len (xa_cons (x_var 0) xa_nil)) (xa_cons x_int xa_nil))) xa_nil))) xa_nil)) (xg_name 3 nd) (xb_cons (xs_asgF 4 nd h__law_pool (hr.mono (show 1 ≤ 7 by decide)) passX (xa_cons (x_var 0) (xa_cons (x_var 3) xa_nil)))
      (xb_cons (xs_par 5 6 rfl nd (xa_cons (x_callOK 4 h__law_take (hr.mono (show 1 ≤ 7 by decide)) passX (xa_cons x_int xa_nil)) (xa_cons (x_bin op_mulD sim_mul (x_ixK K (x_lst (xa_cons x_int (xa_cons (x_un un_neg sim_neg x_int) xa_nil))) (x_callOK 4 h__law_take (hr.mono (show 1 ≤ 7 by decide)) passX (xa_cons x_int xa_nil))) (x_callOK 4 h__law_number (hr.mono (show 2 ≤ 7 by decide)) passX xa_nil)) xa_nil)))
      (xb_cons (xs_asg (x_tup (xa_cons (x_tup (xa_cons (x_var 5) (xa_cons (x_ife (xt_cmp op_gt sim_gt (x_var 5) x_int) (x_var 6) (x_cb call_abs sim_abs T.b_abs PyProof.Rows.boot_abs (xa_cons (x_var 6) xa_nil))) xa_nil))) (xa_cons (x_callOK 4 h__law_number (hr.mono (show 2 ≤ 7 by decide)) passX xa_nil) xa_nil))) (xg_tup rfl (xgs_cons 7 nd (xgs_cons 8 nd xgs_nil)) rfl))
      (xb_cons (xs_for pownX rfl (xi_L (x_bin op_addD sim_add (x_var 1) (x_lst (xa_cons (x_var 7) (xa_cons (x_tup (xa_cons (x_ixK K (x_var 7) x_int) (xa_cons (x_ixK K (x_var 7) x_int) (xa_cons x_int xa_nil)))) (xa_cons (x_ct call_list_of sim_list T.b_list (by decide +kernel) (xa_cons (x_var 7) xa_nil)) xa_nil)))))) (xg_name 9 nd) (xb_cons (xs_if (xt_w (xw_or (xt_cmp (op_neK hr.units) sim_ne (x_callK h_is_count (hr.mono (show 3 ≤ 7 by decide)) passX (xa_cons (x_var 9) xa_nil)) (x_callK h__law_due (hr.mono (show 1 ≤ 7 by decide)) passX (xa_cons (x_var 9) xa_nil))) (xw_or1 (xt_not (xt_tru (x_isa .bool (x_callK h_is_count (hr.mono (show 3 ≤ 7 by decide)) passX (xa_cons (x_var 9) xa_nil)) T.b_isinstance T.b_bool (by decide +kernel))))))) (xb_one (xs_ret x_bl)) xb_nil)
      (xb_one (xs_if (xt_not (xt_tru (x_callK h__law_due (hr.mono (show 1 ≤ 7 by decide)) passX (xa_cons (x_var 9) xa_nil)))) (xb_cons (xs_if (xt_cmp (op_neK hr.units) sim_ne (x_lamC _ h__law_refused passX (hr.mono (show 7 ≤ 7 by decide)) hn TB rfl (ts_mem hts) (ts_uni hts) (LamX.lamS_by (by show LamX.lamSB (L2.defScope (topS 31)) _ = true; decide +kernel)) (fun A outer s H E f c' hr => (x_callK h_format_count (hr.mono (show 5 ≤ 5 by decide)) passM (xa_cons (x_var 9) xa_nil))) (show 5 + 1 ≤ 7 by decide)) (x_lst (xa_cons x_str (xa_cons (x_show hr T.b_repr (x_var 9)) (xa_cons x_bl xa_nil))))) (xb_one (xs_ret x_bl)) xb_nil)
      (xb_one (xs_if (xt_cmp (op_neK hr.units) sim_ne (x_lamC _ h__law_refused passX (hr.mono (show 7 ≤ 7 by decide)) hn TB rfl (ts_mem hts) (ts_uni hts) (LamX.lamS_by (by show LamX.lamSB (L2.defScope (topS 31)) _ = true; decide +kernel)) (fun A outer s H E f c' hr => (x_callK h_rounds (hr.mono (show 5 ≤ 5 by decide)) passM (xa_cons (x_var 9) (xa_cons (x_var 8) xa_nil)))) (show 5 + 1 ≤ 7 by decide)) (x_lst (xa_cons x_str (xa_cons (x_show hr T.b_repr (x_var 9)) (xa_cons x_bl xa_nil))))) (xb_one (xs_ret x_bl)) xb_nil))) xb_nil))))
      (xb_cons (xs_if (xt_w (xw_or (xt_cmp (op_neK hr.units) sim_ne (x_callK h_rounds (hr.mono (show 5 ≤ 7 by decide)) passX (xa_cons (x_var 7) (xa_cons (x_var 8) xa_nil))) (x_cb (call_max2 rfl) sim_max T.b_max PyProof.Rows.boot_max (xa_cons x_int (xa_cons (x_bin op_addD sim_add (x_bin op_mulD sim_mul (x_ixK K (x_var 7) x_int) (x_var 8)) (x_ixK K (x_var 7) x_int)) xa_nil)))) (xw_or1 (xt_cmp (op_neK hr.units) sim_ne (x_callK h_format_count (hr.mono (show 5 ≤ 7 by decide)) passX (xa_cons (x_var 7) xa_nil)) (x_callK h__law_text (hr.mono (show 1 ≤ 7 by decide)) passX (xa_cons (x_var 7) xa_nil)))))) (xb_one (xs_ret x_bl)) xb_nil)
      (xb_cons (xs_for pownX rfl (xi_L (x_bin op_addD sim_add (x_bin op_addD sim_add (x_lst (xa_cons (x_callK h__law_text (hr.mono (show 1 ≤ 7 by decide)) passX (xa_cons (x_var 7) xa_nil)) xa_nil)) (x_callOK 4 h__law_bent (hr.mono (show 2 ≤ 7 by decide)) passX (xa_cons (x_callK h__law_text (hr.mono (show 1 ≤ 7 by decide)) passX (xa_cons (x_var 7) xa_nil)) xa_nil))) (x_var 2))) (xg_name 10 nd) (xb_cons (xs_set 11 nd (x_callK h__law_value (hr.mono (show 2 ≤ 7 by decide)) passX (xa_cons (x_var 10) xa_nil)))
      (xb_one (xs_if (xt_cmp (op_neK hr.units) sim_ne (x_lamC _ h__law_refused passX (hr.mono (show 7 ≤ 7 by decide)) hn TB rfl (ts_mem hts) (ts_uni hts) (LamX.lamS_by (by show LamX.lamSB (L2.defScope (topS 31)) _ = true; decide +kernel)) (fun A outer s H E f c' hr => (x_callK h_parse_count (hr.mono (show 3 ≤ 5 by decide)) passM (xa_cons (x_var 10) xa_nil))) (show 5 + 1 ≤ 7 by decide)) (x_ife (xt_cmp op_notN sim_isn (x_var 11) x_non) (x_var 11) (x_lst (xa_cons x_str (xa_cons (x_show hr T.b_repr (x_var 10)) xa_nil))))) (xb_one (xs_ret x_bl)) xb_nil))))
      (xb_cons (xs_for pownX rfl (xi_L (x_lst (xa_cons x_non (xa_cons x_int (xa_cons (x_lst (xa_cons x_str xa_nil)) (xa_cons (x_tup (xa_cons x_int (xa_cons x_int xa_nil))) (xa_cons (x_bin op_mulS sim_mulS x_str x_int) xa_nil))))))) (xg_name 9 nd) (xb_one (xs_if (xt_cmp (op_neK hr.units) sim_ne (x_lamC _ h__law_refused passX (hr.mono (show 7 ≤ 7 by decide)) hn TB rfl (ts_mem hts) (ts_uni hts) (LamX.lamS_by (by show LamX.lamSB (L2.defScope (topS 31)) _ = true; decide +kernel)) (fun A outer s H E f c' hr => (x_callK h_parse_count (hr.mono (show 3 ≤ 5 by decide)) passM (xa_cons (x_var 9) xa_nil))) (show 5 + 1 ≤ 7 by decide)) (x_lst (xa_cons x_str (xa_cons (x_show hr T.b_repr (x_var 9)) xa_nil)))) (xb_one (xs_ret x_bl)) xb_nil)))
      (xb_one (xs_for pownX rfl (xi_L (x_lst (xa_cons x_non (xa_cons (x_un un_neg sim_neg x_int) (xa_cons (x_bin op_addD sim_add (x_bin op_pow sim_pow x_int x_int) x_int) (xa_cons x_bl (xa_cons x_str (xa_cons (x_lst (xa_cons x_int xa_nil)) xa_nil)))))))) (xg_name 9 nd) (xb_one (xs_if (xt_cmp (op_neK hr.units) sim_ne (x_lamC _ h__law_refused passX (hr.mono (show 7 ≤ 7 by decide)) hn TB rfl (ts_mem hts) (ts_uni hts) (LamX.lamS_by (by show LamX.lamSB (L2.defScope (topS 31)) _ = true; decide +kernel)) (fun A outer s H E f c' hr => (x_callK h_rounds (hr.mono (show 5 ≤ 5 by decide)) passM (xa_cons (x_var 7) (xa_cons (x_var 9) xa_nil)))) (show 5 + 1 ≤ 7 by decide)) (x_lst (xa_cons x_str (xa_cons (x_show hr T.b_repr (x_var 9)) xa_nil)))) (xb_one (xs_ret x_bl)) xb_nil))))))))))))
      (xb_one (xs_ret x_bl))))))⟩
end
end G
namespace G
open PySem PySem.Spec PyProof.Rows L2 Mi
theorem all_mk {w : World} {K : PySem.W.Frag} {h : Heap} {mg : Str → Option Value} (X : K.In h) (G : h.Ns mainGlobals mg)
    {fa Dd fI cc cda : Addr}
    {pf : Str}
    {ptf : Tok}
    {bc bct : Value}
    {bdoc bpm : Value}
    {bod ban : Option Addr}
    {bsl : Array (Option Value)}
    {cdD : ClassData}
    {lc ld : Value}
    {lod ldd : Option Addr}
    {lsl lsd : Array (Option Value)}
    {lvs : Array Value}
    {C1 N1 : Addr}
    {n1 q1 : Str}
    {b1 m1 u1 : List Value}
    {s1 : List Str}
    {ab1 : Bool}
    {co1 : Option Bool}
    {dd1 : Option Addr}
    {x10 x11 x12 x13 x15 : Option Value}
    {C2 N2 : Addr}
    {n2 q2 : Str}
    {b2 m2 u2 : List Value}
    {s2 : List Str}
    {ab2 : Bool}
    {co2 : Option Bool}
    {dd2 : Option Addr}
    {x20 x21 x22 x23 x25 : Option Value}
    {C0 N0 : Addr}
    {n0 q0 : Str}
    {b0 m0 u0 : List Value}
    {s0 : List Str}
    {ab0 : Bool}
    {co0 : Option Bool}
    {dd0 : Option Addr}
    {x00 x01 x02 x03 x05 : Option Value}
    {k_FIGURES : Tok}
    {k_MOST_FIGURES : Tok}
    {k_MOST_NUMBER : Tok}
    {k_MOST_TIMES : Tok}
    {f__law_pool : Addr}
    {od__law_pool an__law_pool : Option Addr}
    {sl__law_pool : Array (Option Value)}
    {oc__law_pool kV__law_pool dc__law_pool pm__law_pool cd__law_pool ct__law_pool : Value}
    {f__law_take : Addr}
    {od__law_take an__law_take : Option Addr}
    {sl__law_take : Array (Option Value)}
    {oc__law_take kV__law_take dc__law_take pm__law_take cd__law_take ct__law_take : Value}
    {f__law_number : Addr}
    {od__law_number an__law_number : Option Addr}
    {sl__law_number : Array (Option Value)}
    {oc__law_number kV__law_number dc__law_number pm__law_number cd__law_number ct__law_number : Value}
    {f_is_integer : Addr}
    {od_is_integer an_is_integer : Option Addr}
    {sl_is_integer : Array (Option Value)}
    {oc_is_integer kV_is_integer dc_is_integer pm_is_integer cd_is_integer ct_is_integer : Value}
    {f_is_between : Addr}
    {od_is_between an_is_between : Option Addr}
    {sl_is_between : Array (Option Value)}
    {oc_is_between kV_is_between dc_is_between pm_is_between cd_is_between ct_is_between : Value}
    {f_is_count : Addr}
    {od_is_count an_is_count : Option Addr}
    {sl_is_count : Array (Option Value)}
    {oc_is_count kV_is_count dc_is_count pm_is_count cd_is_count ct_is_count : Value}
    {f__law_due : Addr}
    {od__law_due an__law_due : Option Addr}
    {sl__law_due : Array (Option Value)}
    {oc__law_due kV__law_due dc__law_due pm__law_due cd__law_due ct__law_due : Value}
    {f_check_count : Addr}
    {od_check_count an_check_count : Option Addr}
    {sl_check_count : Array (Option Value)}
    {oc_check_count kV_check_count dc_check_count pm_check_count cd_check_count ct_check_count : Value}
    {f_format_count : Addr}
    {od_format_count an_format_count : Option Addr}
    {sl_format_count : Array (Option Value)}
    {oc_format_count kV_format_count dc_format_count pm_format_count cd_format_count ct_format_count : Value}
    {f__law_refused : Addr}
    {od__law_refused an__law_refused : Option Addr}
    {sl__law_refused : Array (Option Value)}
    {oc__law_refused kV__law_refused dc__law_refused pm__law_refused cd__law_refused ct__law_refused : Value}
    {f_check_number : Addr}
    {od_check_number an_check_number : Option Addr}
    {sl_check_number : Array (Option Value)}
    {oc_check_number kV_check_number dc_check_number pm_check_number cd_check_number ct_check_number : Value}
    {f_rounds_at : Addr}
    {od_rounds_at an_rounds_at : Option Addr}
    {sl_rounds_at : Array (Option Value)}
    {oc_rounds_at kV_rounds_at dc_rounds_at pm_rounds_at cd_rounds_at ct_rounds_at : Value}
    {f_rounds : Addr}
    {od_rounds an_rounds : Option Addr}
    {sl_rounds : Array (Option Value)}
    {oc_rounds kV_rounds dc_rounds pm_rounds cd_rounds ct_rounds : Value}
    {f__law_text : Addr}
    {od__law_text an__law_text : Option Addr}
    {sl__law_text : Array (Option Value)}
    {oc__law_text kV__law_text dc__law_text pm__law_text cd__law_text ct__law_text : Value}
    {f__law_bent : Addr}
    {od__law_bent an__law_bent : Option Addr}
    {sl__law_bent : Array (Option Value)}
    {oc__law_bent kV__law_bent dc__law_bent pm__law_bent cd__law_bent ct__law_bent : Value}
    {f__law_is_number : Addr}
    {od__law_is_number an__law_is_number : Option Addr}
    {sl__law_is_number : Array (Option Value)}
    {oc__law_is_number kV__law_is_number dc__law_is_number pm__law_is_number cd__law_is_number ct__law_is_number : Value}
    {f__law_value : Addr}
    {od__law_value an__law_value : Option Addr}
    {sl__law_value : Array (Option Value)}
    {oc__law_value kV__law_value dc__law_value pm__law_value cd__law_value ct__law_value : Value}
    {f_number_in : Addr}
    {od_number_in an_number_in : Option Addr}
    {sl_number_in : Array (Option Value)}
    {oc_number_in kV_number_in dc_number_in pm_number_in cd_number_in ct_number_in : Value}
    {f_count_in : Addr}
    {od_count_in an_count_in : Option Addr}
    {sl_count_in : Array (Option Value)}
    {oc_count_in kV_count_in dc_count_in pm_count_in cd_count_in ct_count_in : Value}
    {f_parse_count : Addr}
    {od_parse_count an_parse_count : Option Addr}
    {sl_parse_count : Array (Option Value)}
    {oc_parse_count kV_parse_count dc_parse_count pm_parse_count cd_parse_count ct_parse_count : Value}
    {f_law : Addr}
    {od_law an_law : Option Addr}
    {sl_law : Array (Option Value)}
    {oc_law kV_law dc_law pm_law ct_law : Value}
    {c_law P_law : Addr}
    (hfa : mg "law" = some (.ref fa)) (lawT : ∀ ns : List Int, ns.length ≤ 63 → g_law [.scr ns] = .ok (.bl true)) (HC : PySem.W.tabIn K "law" = some (c_law, P_law) → PySem.W.CodeHd h c_law P_law ∧ h.get? P_law = some tabO)
    (aB : PySem.W.nsIn K mainGlobals "RoomError" = some (some (.ref Dd)))
    (iB : PySem.W.findIn K (.ref Dd) "__init__" = some (some (.ref fI)))
    (lB : K.lookup fI = some ⟨bc, bod, .func (PySem.W.ksFn "__init__" "RoomError.__init__" RoomX.iA RoomX.iB RoomX.iS .none .none bdoc bpm ban (.ref cda) bct cc), bsl⟩)
    (cB : PySem.W.codeIn K (.ref cda) "RoomError.__init__" = true)
    (tB : PySem.W.typeIn K (.ref fI) = some (.type "function"))
    (dB : PySem.W.clsIn K Dd = some cdD)
    (oB : PySem.W.nsIn K cStatics "thirdparty.any" = some none)
    (eB : K.lookup cc = some ⟨lc, lod, .cell (some (.ref Dd)), lsl⟩)
    (kB : K.lookup cda = some ⟨ld, ldd, .fields lvs, lsd⟩)
    (vB : lvs[2]? = some (.str pf ptf))
    (fB : ((PySem.Challenge.pw_ringtolls_k01_counts_judged.main.file : Str) == pf) = true)
    (sB : PySem.W.nsIn K mainGlobals "super" = some none)
    (a_BadCount : PySem.W.nsIn K mainGlobals "BadCount" = some (some (.ref C1)))
    (l_BadCount : K.lookup C1 = some (excClassObj n1 q1 C1 N1 b1 m1 true s1 u1 ab1 co1 dd1 x10 x11 x12 x13 x15 "ValueError.__new__"))
    (r_BadCount : PySem.HandSPX.refsVE m1 = true)
    (sa_BadCount : PySem.W.findIn K (.ref C1) "__setattr__" = some (some (.builtin "object.__setattr__")))
    (ga_BadCount : PySem.W.findIn K (.ref C1) "__getattribute__" = some (some (.builtin "BaseException.__getattribute__")))
    (gg_BadCount : PySem.W.findIn K (.ref C1) "__getattr__" = some none)
    (nv_BadCount : PySem.W.findIn K (.ref C1) "value" = some none)
    (ii_BadCount : PySem.W.findIn K (.ref C1) "__init__" = some (some (.ref fI)))
    (kp_BadCount : PySem.W.keepIn K (.ref C1) = true)
    (ex_BadCount : PySem.W.subIn K (.ref C1) (.type "BaseException") = some true)
    (ty_BadCount : PySem.W.typeIn K (.ref C1) = some (.type "type"))
    (hd_BadCount : PySem.W.hasDictIn K C1 = true)
    (su_BadCount : PySem.W.ks_superIn K C1 Dd "__init__" = some (some (.builtin "ValueError.__init__")))
    (sv_BadCount : PySem.W.subIn K (.ref C1) (.type "ValueError") = some true)
    (mr_BadCount : PySem.W.mroIn K C1 (.ref Dd) = some true)
    (me_BadCount : PySem.W.exmOne K (.ref C1) (.ref C1) = some true)
    (ec_BadCount : PySem.W.findIn K (.ref C1) "__class__" = some (some (.builtin "object.__class__")))
    (en_BadCount : PySem.W.specialIn K (.builtin "object.__class__") "__get__" = some (some (.builtin "getset_descriptor.__get__")))
    (et_BadCount : PySem.W.takesIn K (.builtin "object.__class__") = some true)
    (em_BadCount : PySem.W.mroIn K C1 (.type "object") = some true)
    (ek_BadCount : PySem.W.kitOne K (.ref C1) (.type "ValueError") = some true)
    (a_BadNumber : PySem.W.nsIn K mainGlobals "BadNumber" = some (some (.ref C2)))
    (l_BadNumber : K.lookup C2 = some (excClassObj n2 q2 C2 N2 b2 m2 true s2 u2 ab2 co2 dd2 x20 x21 x22 x23 x25 "ValueError.__new__"))
    (r_BadNumber : PySem.HandSPX.refsVE m2 = true)
    (sa_BadNumber : PySem.W.findIn K (.ref C2) "__setattr__" = some (some (.builtin "object.__setattr__")))
    (ga_BadNumber : PySem.W.findIn K (.ref C2) "__getattribute__" = some (some (.builtin "BaseException.__getattribute__")))
    (gg_BadNumber : PySem.W.findIn K (.ref C2) "__getattr__" = some none)
    (nv_BadNumber : PySem.W.findIn K (.ref C2) "value" = some none)
    (ii_BadNumber : PySem.W.findIn K (.ref C2) "__init__" = some (some (.ref fI)))
    (kp_BadNumber : PySem.W.keepIn K (.ref C2) = true)
    (ex_BadNumber : PySem.W.subIn K (.ref C2) (.type "BaseException") = some true)
    (ty_BadNumber : PySem.W.typeIn K (.ref C2) = some (.type "type"))
    (hd_BadNumber : PySem.W.hasDictIn K C2 = true)
    (su_BadNumber : PySem.W.ks_superIn K C2 Dd "__init__" = some (some (.builtin "ValueError.__init__")))
    (sv_BadNumber : PySem.W.subIn K (.ref C2) (.type "ValueError") = some true)
    (mr_BadNumber : PySem.W.mroIn K C2 (.ref Dd) = some true)
    (me_BadNumber : PySem.W.exmOne K (.ref C2) (.ref C2) = some true)
    (a_BadText : PySem.W.nsIn K mainGlobals "BadText" = some (some (.ref C0)))
    (l_BadText : K.lookup C0 = some (excClassObj n0 q0 C0 N0 b0 m0 true s0 u0 ab0 co0 dd0 x00 x01 x02 x03 x05 "ValueError.__new__"))
    (r_BadText : PySem.HandSPX.refsVE m0 = true)
    (sa_BadText : PySem.W.findIn K (.ref C0) "__setattr__" = some (some (.builtin "object.__setattr__")))
    (ga_BadText : PySem.W.findIn K (.ref C0) "__getattribute__" = some (some (.builtin "BaseException.__getattribute__")))
    (gg_BadText : PySem.W.findIn K (.ref C0) "__getattr__" = some none)
    (nv_BadText : PySem.W.findIn K (.ref C0) "value" = some none)
    (ii_BadText : PySem.W.findIn K (.ref C0) "__init__" = some (some (.ref fI)))
    (kp_BadText : PySem.W.keepIn K (.ref C0) = true)
    (ex_BadText : PySem.W.subIn K (.ref C0) (.type "BaseException") = some true)
    (ty_BadText : PySem.W.typeIn K (.ref C0) = some (.type "type"))
    (hd_BadText : PySem.W.hasDictIn K C0 = true)
    (su_BadText : PySem.W.ks_superIn K C0 Dd "__init__" = some (some (.builtin "ValueError.__init__")))
    (sv_BadText : PySem.W.subIn K (.ref C0) (.type "ValueError") = some true)
    (mr_BadText : PySem.W.mroIn K C0 (.ref Dd) = some true)
    (me_BadText : PySem.W.exmOne K (.ref C0) (.ref C0) = some true)
    (z_ValueError : PySem.W.nsIn K mainGlobals "ValueError" = some none)
    (z_abs : PySem.W.nsIn K mainGlobals "abs" = some none)
    (z_all : PySem.W.nsIn K mainGlobals "all" = some none)
    (z_bool : PySem.W.nsIn K mainGlobals "bool" = some none)
    (z_int : PySem.W.nsIn K mainGlobals "int" = some none)
    (z_isinstance : PySem.W.nsIn K mainGlobals "isinstance" = some none)
    (z_len : PySem.W.nsIn K mainGlobals "len" = some none)
    (z_list : PySem.W.nsIn K mainGlobals "list" = some none)
    (z_max : PySem.W.nsIn K mainGlobals "max" = some none)
    (z_min : PySem.W.nsIn K mainGlobals "min" = some none)
    (z_range : PySem.W.nsIn K mainGlobals "range" = some none)
    (z_repr : PySem.W.nsIn K mainGlobals "repr" = some none)
    (z_str : PySem.W.nsIn K mainGlobals "str" = some none)
    (z_tuple : PySem.W.nsIn K mainGlobals "tuple" = some none)
    (c_FIGURES : PySem.W.nsIn K mainGlobals "FIGURES" = some (some (.str (PySem.Str.ofString "0123456789") k_FIGURES)))
    (c_MOST_FIGURES : PySem.W.nsIn K mainGlobals "MOST_FIGURES" = some (some (.int 31 k_MOST_FIGURES)))
    (c_MOST_NUMBER : PySem.W.nsIn K mainGlobals "MOST_NUMBER" = some (some (.int 1000000000000000000000000000000 k_MOST_NUMBER)))
    (c_MOST_TIMES : PySem.W.nsIn K mainGlobals "MOST_TIMES" = some (some (.int 9 k_MOST_TIMES)))
    (pq_BadNumber_BadCount : PySem.W.exmOne K (.ref C2) (.ref C1) = some false)
    (pq_BadText_BadCount : PySem.W.exmOne K (.ref C0) (.ref C1) = some false)
    (pq_BadText_BadNumber : PySem.W.exmOne K (.ref C0) (.ref C2) = some false)
    (d__law_pool : PySem.W.nsIn K mainGlobals "_law_pool" = some (some (.ref f__law_pool)))
    (l__law_pool : K.lookup f__law_pool = some ⟨oc__law_pool, od__law_pool, .func (PySem.W.fnOf "_law_pool" "_law_pool" (defArgs (topS 22)) (defBody (topS 22)) (defScope (topS 22)) .none kV__law_pool dc__law_pool pm__law_pool an__law_pool cd__law_pool ct__law_pool), sl__law_pool⟩)
    (o__law_pool : PySem.W.codeIn K cd__law_pool "_law_pool" = true)
    (p__law_pool : PySem.W.keepIn K (.ref f__law_pool) = true)
    (d__law_take : PySem.W.nsIn K mainGlobals "_law_take" = some (some (.ref f__law_take)))
    (l__law_take : K.lookup f__law_take = some ⟨oc__law_take, od__law_take, .func (PySem.W.fnOf "_law_take" "_law_take" (defArgs (topS 23)) (defBody (topS 23)) (defScope (topS 23)) .none kV__law_take dc__law_take pm__law_take an__law_take cd__law_take ct__law_take), sl__law_take⟩)
    (o__law_take : PySem.W.codeIn K cd__law_take "_law_take" = true)
    (p__law_take : PySem.W.keepIn K (.ref f__law_take) = true)
    (d__law_number : PySem.W.nsIn K mainGlobals "_law_number" = some (some (.ref f__law_number)))
    (l__law_number : K.lookup f__law_number = some ⟨oc__law_number, od__law_number, .func (PySem.W.fnOf "_law_number" "_law_number" (defArgs (topS 24)) (defBody (topS 24)) (defScope (topS 24)) .none kV__law_number dc__law_number pm__law_number an__law_number cd__law_number ct__law_number), sl__law_number⟩)
    (o__law_number : PySem.W.codeIn K cd__law_number "_law_number" = true)
    (p__law_number : PySem.W.keepIn K (.ref f__law_number) = true)
    (d_is_integer : PySem.W.nsIn K mainGlobals "is_integer" = some (some (.ref f_is_integer)))
    (l_is_integer : K.lookup f_is_integer = some ⟨oc_is_integer, od_is_integer, .func (PySem.W.fnOf "is_integer" "is_integer" (defArgs (topS 10)) (defBody (topS 10)) (defScope (topS 10)) .none kV_is_integer dc_is_integer pm_is_integer an_is_integer cd_is_integer ct_is_integer), sl_is_integer⟩)
    (o_is_integer : PySem.W.codeIn K cd_is_integer "is_integer" = true)
    (p_is_integer : PySem.W.keepIn K (.ref f_is_integer) = true)
    (d_is_between : PySem.W.nsIn K mainGlobals "is_between" = some (some (.ref f_is_between)))
    (l_is_between : K.lookup f_is_between = some ⟨oc_is_between, od_is_between, .func (PySem.W.fnOf "is_between" "is_between" (defArgs (topS 11)) (defBody (topS 11)) (defScope (topS 11)) .none kV_is_between dc_is_between pm_is_between an_is_between cd_is_between ct_is_between), sl_is_between⟩)
    (o_is_between : PySem.W.codeIn K cd_is_between "is_between" = true)
    (p_is_between : PySem.W.keepIn K (.ref f_is_between) = true)
    (d_is_count : PySem.W.nsIn K mainGlobals "is_count" = some (some (.ref f_is_count)))
    (l_is_count : K.lookup f_is_count = some ⟨oc_is_count, od_is_count, .func (PySem.W.fnOf "is_count" "is_count" (defArgs (topS 13)) (defBody (topS 13)) (defScope (topS 13)) .none kV_is_count dc_is_count pm_is_count an_is_count cd_is_count ct_is_count), sl_is_count⟩)
    (o_is_count : PySem.W.codeIn K cd_is_count "is_count" = true)
    (p_is_count : PySem.W.keepIn K (.ref f_is_count) = true)
    (d__law_due : PySem.W.nsIn K mainGlobals "_law_due" = some (some (.ref f__law_due)))
    (l__law_due : K.lookup f__law_due = some ⟨oc__law_due, od__law_due, .func (PySem.W.fnOf "_law_due" "_law_due" (defArgs (topS 25)) (defBody (topS 25)) (defScope (topS 25)) .none kV__law_due dc__law_due pm__law_due an__law_due cd__law_due ct__law_due), sl__law_due⟩)
    (o__law_due : PySem.W.codeIn K cd__law_due "_law_due" = true)
    (p__law_due : PySem.W.keepIn K (.ref f__law_due) = true)
    (d_check_count : PySem.W.nsIn K mainGlobals "check_count" = some (some (.ref f_check_count)))
    (l_check_count : K.lookup f_check_count = some ⟨oc_check_count, od_check_count, .func (PySem.W.fnOf "check_count" "check_count" (defArgs (topS 14)) (defBody (topS 14)) (defScope (topS 14)) .none kV_check_count dc_check_count pm_check_count an_check_count cd_check_count ct_check_count), sl_check_count⟩)
    (o_check_count : PySem.W.codeIn K cd_check_count "check_count" = true)
    (p_check_count : PySem.W.keepIn K (.ref f_check_count) = true)
    (d_format_count : PySem.W.nsIn K mainGlobals "format_count" = some (some (.ref f_format_count)))
    (l_format_count : K.lookup f_format_count = some ⟨oc_format_count, od_format_count, .func (PySem.W.fnOf "format_count" "format_count" (defArgs (topS 17)) (defBody (topS 17)) (defScope (topS 17)) .none kV_format_count dc_format_count pm_format_count an_format_count cd_format_count ct_format_count), sl_format_count⟩)
    (o_format_count : PySem.W.codeIn K cd_format_count "format_count" = true)
    (p_format_count : PySem.W.keepIn K (.ref f_format_count) = true)
    (d__law_refused : PySem.W.nsIn K mainGlobals "_law_refused" = some (some (.ref f__law_refused)))
    (l__law_refused : K.lookup f__law_refused = some ⟨oc__law_refused, od__law_refused, .func (PySem.W.fnOf "_law_refused" "_law_refused" (defArgs (topS 29)) (defBody (topS 29)) (defScope (topS 29)) .none kV__law_refused dc__law_refused pm__law_refused an__law_refused cd__law_refused ct__law_refused), sl__law_refused⟩)
    (o__law_refused : PySem.W.codeIn K cd__law_refused "_law_refused" = true)
    (p__law_refused : PySem.W.keepIn K (.ref f__law_refused) = true)
    (d_check_number : PySem.W.nsIn K mainGlobals "check_number" = some (some (.ref f_check_number)))
    (l_check_number : K.lookup f_check_number = some ⟨oc_check_number, od_check_number, .func (PySem.W.fnOf "check_number" "check_number" (defArgs (topS 12)) (defBody (topS 12)) (defScope (topS 12)) .none kV_check_number dc_check_number pm_check_number an_check_number cd_check_number ct_check_number), sl_check_number⟩)
    (o_check_number : PySem.W.codeIn K cd_check_number "check_number" = true)
    (p_check_number : PySem.W.keepIn K (.ref f_check_number) = true)
    (d_rounds_at : PySem.W.nsIn K mainGlobals "rounds_at" = some (some (.ref f_rounds_at)))
    (l_rounds_at : K.lookup f_rounds_at = some ⟨oc_rounds_at, od_rounds_at, .func (PySem.W.fnOf "rounds_at" "rounds_at" (defArgs (topS 15)) (defBody (topS 15)) (defScope (topS 15)) .none kV_rounds_at dc_rounds_at pm_rounds_at an_rounds_at cd_rounds_at ct_rounds_at), sl_rounds_at⟩)
    (o_rounds_at : PySem.W.codeIn K cd_rounds_at "rounds_at" = true)
    (p_rounds_at : PySem.W.keepIn K (.ref f_rounds_at) = true)
    (d_rounds : PySem.W.nsIn K mainGlobals "rounds" = some (some (.ref f_rounds)))
    (l_rounds : K.lookup f_rounds = some ⟨oc_rounds, od_rounds, .func (PySem.W.fnOf "rounds" "rounds" (defArgs (topS 16)) (defBody (topS 16)) (defScope (topS 16)) .none kV_rounds dc_rounds pm_rounds an_rounds cd_rounds ct_rounds), sl_rounds⟩)
    (o_rounds : PySem.W.codeIn K cd_rounds "rounds" = true)
    (p_rounds : PySem.W.keepIn K (.ref f_rounds) = true)
    (d__law_text : PySem.W.nsIn K mainGlobals "_law_text" = some (some (.ref f__law_text)))
    (l__law_text : K.lookup f__law_text = some ⟨oc__law_text, od__law_text, .func (PySem.W.fnOf "_law_text" "_law_text" (defArgs (topS 26)) (defBody (topS 26)) (defScope (topS 26)) .none kV__law_text dc__law_text pm__law_text an__law_text cd__law_text ct__law_text), sl__law_text⟩)
    (o__law_text : PySem.W.codeIn K cd__law_text "_law_text" = true)
    (p__law_text : PySem.W.keepIn K (.ref f__law_text) = true)
    (d__law_bent : PySem.W.nsIn K mainGlobals "_law_bent" = some (some (.ref f__law_bent)))
    (l__law_bent : K.lookup f__law_bent = some ⟨oc__law_bent, od__law_bent, .func (PySem.W.fnOf "_law_bent" "_law_bent" (defArgs (topS 30)) (defBody (topS 30)) (defScope (topS 30)) .none kV__law_bent dc__law_bent pm__law_bent an__law_bent cd__law_bent ct__law_bent), sl__law_bent⟩)
    (o__law_bent : PySem.W.codeIn K cd__law_bent "_law_bent" = true)
    (p__law_bent : PySem.W.keepIn K (.ref f__law_bent) = true)
    (d__law_is_number : PySem.W.nsIn K mainGlobals "_law_is_number" = some (some (.ref f__law_is_number)))
    (l__law_is_number : K.lookup f__law_is_number = some ⟨oc__law_is_number, od__law_is_number, .func (PySem.W.fnOf "_law_is_number" "_law_is_number" (defArgs (topS 28)) (defBody (topS 28)) (defScope (topS 28)) .none kV__law_is_number dc__law_is_number pm__law_is_number an__law_is_number cd__law_is_number ct__law_is_number), sl__law_is_number⟩)
    (o__law_is_number : PySem.W.codeIn K cd__law_is_number "_law_is_number" = true)
    (p__law_is_number : PySem.W.keepIn K (.ref f__law_is_number) = true)
    (d__law_value : PySem.W.nsIn K mainGlobals "_law_value" = some (some (.ref f__law_value)))
    (l__law_value : K.lookup f__law_value = some ⟨oc__law_value, od__law_value, .func (PySem.W.fnOf "_law_value" "_law_value" (defArgs (topS 27)) (defBody (topS 27)) (defScope (topS 27)) .none kV__law_value dc__law_value pm__law_value an__law_value cd__law_value ct__law_value), sl__law_value⟩)
    (o__law_value : PySem.W.codeIn K cd__law_value "_law_value" = true)
    (p__law_value : PySem.W.keepIn K (.ref f__law_value) = true)
    (d_number_in : PySem.W.nsIn K mainGlobals "number_in" = some (some (.ref f_number_in)))
    (l_number_in : K.lookup f_number_in = some ⟨oc_number_in, od_number_in, .func (PySem.W.fnOf "number_in" "number_in" (defArgs (topS 18)) (defBody (topS 18)) (defScope (topS 18)) .none kV_number_in dc_number_in pm_number_in an_number_in cd_number_in ct_number_in), sl_number_in⟩)
    (o_number_in : PySem.W.codeIn K cd_number_in "number_in" = true)
    (p_number_in : PySem.W.keepIn K (.ref f_number_in) = true)
    (d_count_in : PySem.W.nsIn K mainGlobals "count_in" = some (some (.ref f_count_in)))
    (l_count_in : K.lookup f_count_in = some ⟨oc_count_in, od_count_in, .func (PySem.W.fnOf "count_in" "count_in" (defArgs (topS 19)) (defBody (topS 19)) (defScope (topS 19)) .none kV_count_in dc_count_in pm_count_in an_count_in cd_count_in ct_count_in), sl_count_in⟩)
    (o_count_in : PySem.W.codeIn K cd_count_in "count_in" = true)
    (p_count_in : PySem.W.keepIn K (.ref f_count_in) = true)
    (d_parse_count : PySem.W.nsIn K mainGlobals "parse_count" = some (some (.ref f_parse_count)))
    (l_parse_count : K.lookup f_parse_count = some ⟨oc_parse_count, od_parse_count, .func (PySem.W.fnOf "parse_count" "parse_count" (defArgs (topS 20)) (defBody (topS 20)) (defScope (topS 20)) .none kV_parse_count dc_parse_count pm_parse_count an_parse_count cd_parse_count ct_parse_count), sl_parse_count⟩)
    (o_parse_count : PySem.W.codeIn K cd_parse_count "parse_count" = true)
    (p_parse_count : PySem.W.keepIn K (.ref f_parse_count) = true)
    (d_law : PySem.W.nsIn K mainGlobals "law" = some (some (.ref f_law)))
    (l_law : K.lookup f_law = some ⟨oc_law, od_law, .func (PySem.W.fnOf "law" "law" (defArgs (topS 31)) (defBody (topS 31)) (defScope (topS 31)) .none kV_law dc_law pm_law an_law (.ref c_law) ct_law), sl_law⟩)
    (o_law : PySem.W.codeIn K (.ref c_law) "law" = true)
    (p_law : PySem.W.keepIn K (.ref f_law) = true)
    (tA : PySem.W.tabIn K "law" = some (c_law, P_law))
    (nP : K.lookup P_law = none) :
    LawG PySem.Challenge.rw_ringtolls_k01_counts_judged w K (L2.CX PySem.Challenge.pw_ringtolls_k01_counts_judged w) 8 63 "script" mg fa h := by
  have e := hfa.symm.trans (PySem.W.mg_of X G d_law)
  cases e
  let cl : CL := { f := fun n => (match n with | 1 => C1 | 2 => C2 | 0 => C0 | _ => 0), ts := [(P_law, qLam)] }
  have T : Txt PySem.Challenge.pw_ringtolls_k01_counts_judged K mg cl Dd fI cc cda := {
    b_ValueError := PySem.W.mg_none_of X G z_ValueError,
    b_abs := PySem.W.mg_none_of X G z_abs,
    b_all := PySem.W.mg_none_of X G z_all,
    b_bool := PySem.W.mg_none_of X G z_bool,
    b_int := PySem.W.mg_none_of X G z_int,
    b_isinstance := PySem.W.mg_none_of X G z_isinstance,
    b_len := PySem.W.mg_none_of X G z_len,
    b_list := PySem.W.mg_none_of X G z_list,
    b_max := PySem.W.mg_none_of X G z_max,
    b_min := PySem.W.mg_none_of X G z_min,
    b_range := PySem.W.mg_none_of X G z_range,
    b_repr := PySem.W.mg_none_of X G z_repr,
    b_str := PySem.W.mg_none_of X G z_str,
    b_tuple := PySem.W.mg_none_of X G z_tuple,
    c_FIGURES := ⟨_, PySem.W.mg_of X G c_FIGURES⟩,
    c_MOST_FIGURES := ⟨_, PySem.W.mg_of X G c_MOST_FIGURES⟩,
    c_MOST_NUMBER := ⟨_, PySem.W.mg_of X G c_MOST_NUMBER⟩,
    c_MOST_TIMES := ⟨_, PySem.W.mg_of X G c_MOST_TIMES⟩,
    base := { tI := tB, clD := ⟨_, dB⟩, opq := oB, cell := ⟨_, _, _, eB⟩, code := ⟨_, _, _, _, _, _, kB, vB, fB⟩, top := by rfl, sup := PySem.W.mg_none_of X G sB, fn := ⟨_, _, _, _, _, _, _, lB, cB⟩ },
    x_BadCount := { cls := ⟨_, _, _, _, _, _, _, _, _, _, _, _, _, _, _, l_BadCount, r_BadCount⟩, sa := sa_BadCount, ga := ga_BadCount, gg := gg_BadCount, noN := nv_BadCount, iC := ii_BadCount, kC := kp_BadCount, exC := ex_BadCount, tyC := ty_BadCount, hdC := hd_BadCount, supC := su_BadCount, subV := sv_BadCount, mroD := mr_BadCount },
    g_BadCount := PySem.W.mg_of X G a_BadCount,
    m_BadCount := me_BadCount,
    e_BadCount := ⟨ga_BadCount, gg_BadCount, ex_BadCount, hd_BadCount, ec_BadCount, en_BadCount, et_BadCount, em_BadCount⟩,
    k_BadCount := ek_BadCount,
    x_BadNumber := { cls := ⟨_, _, _, _, _, _, _, _, _, _, _, _, _, _, _, l_BadNumber, r_BadNumber⟩, sa := sa_BadNumber, ga := ga_BadNumber, gg := gg_BadNumber, noN := nv_BadNumber, iC := ii_BadNumber, kC := kp_BadNumber, exC := ex_BadNumber, tyC := ty_BadNumber, hdC := hd_BadNumber, supC := su_BadNumber, subV := sv_BadNumber, mroD := mr_BadNumber },
    g_BadNumber := PySem.W.mg_of X G a_BadNumber,
    m_BadNumber := me_BadNumber,
    x_BadText := { cls := ⟨_, _, _, _, _, _, _, _, _, _, _, _, _, _, _, l_BadText, r_BadText⟩, sa := sa_BadText, ga := ga_BadText, gg := gg_BadText, noN := nv_BadText, iC := ii_BadText, kC := kp_BadText, exC := ex_BadText, tyC := ty_BadText, hdC := hd_BadText, supC := su_BadText, subV := sv_BadText, mroD := mr_BadText },
    g_BadText := PySem.W.mg_of X G a_BadText,
    m_BadText := me_BadText,
    q_BadNumber_BadCount := pq_BadNumber_BadCount,
    q_BadText_BadCount := pq_BadText_BadCount,
    q_BadText_BadNumber := pq_BadText_BadNumber }
  have F__law_pool := fun_mk (st := (topS 22)) l__law_pool o__law_pool p__law_pool
  have B__law_pool := F__law_pool.binds (ps := ["script", "k"]) fun _ _ _ _ _ _ us hl => match us, hl with | [_, _], _ => rfl
  have F__law_take := fun_mk (st := (topS 23)) l__law_take o__law_take p__law_take
  have B__law_take := F__law_take.binds (ps := ["pool", "many"]) fun _ _ _ _ _ _ us hl => match us, hl with | [_, _], _ => rfl
  have F__law_number := fun_mk (st := (topS 24)) l__law_number o__law_number p__law_number
  have B__law_number := F__law_number.binds (ps := ["pool"]) fun _ _ _ _ _ _ us hl => match us, hl with | [_], _ => rfl
  have F_is_integer := fun_mk (st := (topS 10)) l_is_integer o_is_integer p_is_integer
  have B_is_integer := F_is_integer.binds (ps := ["thing"]) fun _ _ _ _ _ _ us hl => match us, hl with | [_], _ => rfl
  have F_is_between := fun_mk (st := (topS 11)) l_is_between o_is_between p_is_between
  have B_is_between := F_is_between.binds (ps := ["thing", "least", "most"]) fun _ _ _ _ _ _ us hl => match us, hl with | [_, _, _], _ => rfl
  have F_is_count := fun_mk (st := (topS 13)) l_is_count o_is_count p_is_count
  have B_is_count := F_is_count.binds (ps := ["thing"]) fun _ _ _ _ _ _ us hl => match us, hl with | [_], _ => rfl
  have F__law_due := fun_mk (st := (topS 25)) l__law_due o__law_due p__law_due
  have B__law_due := F__law_due.binds (ps := ["thing"]) fun _ _ _ _ _ _ us hl => match us, hl with | [_], _ => rfl
  have F_check_count := fun_mk (st := (topS 14)) l_check_count o_check_count p_check_count
  have B_check_count := F_check_count.binds (ps := ["count"]) fun _ _ _ _ _ _ us hl => match us, hl with | [_], _ => rfl
  have F_format_count := fun_mk (st := (topS 17)) l_format_count o_format_count p_format_count
  have B_format_count := F_format_count.binds (ps := ["count"]) fun _ _ _ _ _ _ us hl => match us, hl with | [_], _ => rfl
  have F__law_refused := fun_mk (st := (topS 29)) l__law_refused o__law_refused p__law_refused
  have B__law_refused := F__law_refused.binds (ps := ["call"]) fun _ _ _ _ _ _ us hl => match us, hl with | [_], _ => rfl
  have F_check_number := fun_mk (st := (topS 12)) l_check_number o_check_number p_check_number
  have B_check_number := F_check_number.binds (ps := ["n"]) fun _ _ _ _ _ _ us hl => match us, hl with | [_], _ => rfl
  have F_rounds_at := fun_mk (st := (topS 15)) l_rounds_at o_rounds_at p_rounds_at
  have B_rounds_at := F_rounds_at.binds (ps := ["count", "n"]) fun _ _ _ _ _ _ us hl => match us, hl with | [_, _], _ => rfl
  have F_rounds := fun_mk (st := (topS 16)) l_rounds o_rounds p_rounds
  have B_rounds := F_rounds.binds (ps := ["count", "n"]) fun _ _ _ _ _ _ us hl => match us, hl with | [_, _], _ => rfl
  have F__law_text := fun_mk (st := (topS 26)) l__law_text o__law_text p__law_text
  have B__law_text := F__law_text.binds (ps := ["count"]) fun _ _ _ _ _ _ us hl => match us, hl with | [_], _ => rfl
  have F__law_bent := fun_mk (st := (topS 30)) l__law_bent o__law_bent p__law_bent
  have B__law_bent := F__law_bent.binds (ps := ["pool", "text"]) fun _ _ _ _ _ _ us hl => match us, hl with | [_, _], _ => rfl
  have F__law_is_number := fun_mk (st := (topS 28)) l__law_is_number o__law_is_number p__law_is_number
  have B__law_is_number := F__law_is_number.binds (ps := ["text"]) fun _ _ _ _ _ _ us hl => match us, hl with | [_], _ => rfl
  have F__law_value := fun_mk (st := (topS 27)) l__law_value o__law_value p__law_value
  have B__law_value := F__law_value.binds (ps := ["text"]) fun _ _ _ _ _ _ us hl => match us, hl with | [_], _ => rfl
  have F_number_in := fun_mk (st := (topS 18)) l_number_in o_number_in p_number_in
  have B_number_in := F_number_in.binds (ps := ["text"]) fun _ _ _ _ _ _ us hl => match us, hl with | [_], _ => rfl
  have F_count_in := fun_mk (st := (topS 19)) l_count_in o_count_in p_count_in
  have B_count_in := F_count_in.binds (ps := ["text"]) fun _ _ _ _ _ _ us hl => match us, hl with | [_], _ => rfl
  have F_parse_count := fun_mk (st := (topS 20)) l_parse_count o_parse_count p_parse_count
  have B_parse_count := F_parse_count.binds (ps := ["text"]) fun _ _ _ _ _ _ us hl => match us, hl with | [_], _ => rfl
  have F_law := fun_mk (st := (topS 31)) l_law o_law p_law
  have B_law := F_law.binds (ps := ["script"]) fun _ _ _ _ _ _ us hl => match us, hl with | [_], _ => rfl
  refine ⟨PySem.W.fnOf "law" "law" (defArgs (topS 31)) (defBody (topS 31)) (defScope (topS 31)) .none kV_law dc_law pm_law an_law (.ref c_law) ct_law, [(c_law, P_law)], spLaw 63 K cl.ts, fun p hp => by cases List.mem_singleton.mp hp; exact ⟨(HC tA).2, nP, (HC tA).1⟩, fun s v => .of_eq rfl, fun H a ns hl hH hS => ⟨a, ns, rfl, hl, hS, fun p hp => by cases List.mem_singleton.mp hp; exact .nil (hH _ (List.mem_singleton.mpr rfl)), fun _ => rfl⟩, fun base _ _ TB => ?_⟩
  have H__law_pool := ok__law_pool (w := w) (base := base) T  F__law_pool (PySem.W.mg_of X G d__law_pool) B__law_pool
  have H__law_take := ok__law_take (w := w) (base := base) T  F__law_take (PySem.W.mg_of X G d__law_take) B__law_take
  have H__law_number := ok__law_number (w := w) (base := base) T H__law_take F__law_number (PySem.W.mg_of X G d__law_number) B__law_number
  have H_is_integer := ok_is_integer (w := w) (base := base) T  F_is_integer (PySem.W.mg_of X G d_is_integer) B_is_integer
  have H_is_between := ok_is_between (w := w) (base := base) T H_is_integer F_is_between (PySem.W.mg_of X G d_is_between) B_is_between
  have H_is_count := ok_is_count (w := w) (base := base) T H_is_between F_is_count (PySem.W.mg_of X G d_is_count) B_is_count
  have H__law_due := ok__law_due (w := w) (base := base) T  F__law_due (PySem.W.mg_of X G d__law_due) B__law_due
  have H_check_count := ok_check_count (w := w) (base := base) T H_is_count F_check_count (PySem.W.mg_of X G d_check_count) B_check_count
  have H_format_count := ok_format_count (w := w) (base := base) T H_check_count F_format_count (PySem.W.mg_of X G d_format_count) B_format_count
  have H__law_refused := fun f B H => ok__law_refused (w := w) (base := base) (T.with f B H) F__law_refused (PySem.W.mg_of X G d__law_refused) B__law_refused
  have H_check_number := ok_check_number (w := w) (base := base) T H_is_between F_check_number (PySem.W.mg_of X G d_check_number) B_check_number
  have H_rounds_at := ok_rounds_at (w := w) (base := base) T  F_rounds_at (PySem.W.mg_of X G d_rounds_at) B_rounds_at
  have H_rounds := ok_rounds (w := w) (base := base) T H_check_count H_check_number H_rounds_at F_rounds (PySem.W.mg_of X G d_rounds) B_rounds
  have H__law_text := ok__law_text (w := w) (base := base) T  F__law_text (PySem.W.mg_of X G d__law_text) B__law_text
  have H__law_bent := ok__law_bent (w := w) (base := base) T H__law_take F__law_bent (PySem.W.mg_of X G d__law_bent) B__law_bent
  have H__law_is_number := ok__law_is_number (w := w) (base := base) T  F__law_is_number (PySem.W.mg_of X G d__law_is_number) B__law_is_number
  have H__law_value := ok__law_value (w := w) (base := base) T H__law_is_number F__law_value (PySem.W.mg_of X G d__law_value) B__law_value
  have H_number_in := ok_number_in (w := w) (base := base) T  F_number_in (PySem.W.mg_of X G d_number_in) B_number_in
  have H_count_in := ok_count_in (w := w) (base := base) T H_number_in F_count_in (PySem.W.mg_of X G d_count_in) B_count_in
  have H_parse_count := ok_parse_count (w := w) (base := base) T H_count_in F_parse_count (PySem.W.mg_of X G d_parse_count) B_parse_count
  exact (fnok_law T H__law_pool H__law_take H__law_number H_is_count H__law_due H_format_count H__law_refused H_rounds H__law_text H__law_bent H__law_value H_parse_count F_law rfl rfl rfl (TB _ (List.mem_singleton.mpr rfl))).imp (fun vs H Q E => spLaw_of lawT vs H Q E rfl)
end G
open PySem PySem.W PyProof.Rows
set_option maxHeartbeats 0 in
theorem PySem.Challenge.cw_ringtolls_k01_counts_judged_holds : PySem.Challenge.rw_ringtolls_k01_counts_judged.Holds := by
  w_on; o_law; k_head; (case hw => w_witness2)
  k_fill
  refine Mi.walkG (l := PySem.Challenge.rw_ringtolls_k01_counts_judged) (n := 63) (k := 8) (x := "script") (CX := fun w => L2.CX PySem.Challenge.pw_ringtolls_k01_counts_judged w) rfl (by decide) rfl ⟨rfl, by decide, by decide⟩ (fun w h Y => PySem.W.km_in_of Y) ?F (fun _ _ _ _ _ h => by obtain ⟨_, _, _, _, _, _, _, _, _, _, _, _, z⟩ := h; exact z)
  case F =>
    intro w mg fa h _ KX G hmg HT
    refine' _root_.G.all_mk KX G hmg _root_.G.law_true (fun z => HT _ _ _ _ rfl z) ?aB ?iB ?lB ?cB ?tB ?dB ?oB ?eB ?kB ?vB ?fB ?sB ?a_BadCount ?l_BadCount ?r_BadCount ?sa_BadCount ?ga_BadCount ?gg_BadCount ?nv_BadCount ?ii_BadCount ?kp_BadCount ?ex_BadCount ?ty_BadCount ?hd_BadCount ?su_BadCount ?sv_BadCount ?mr_BadCount ?me_BadCount ?ec_BadCount ?en_BadCount ?et_BadCount ?em_BadCount ?ek_BadCount ?a_BadNumber ?l_BadNumber ?r_BadNumber ?sa_BadNumber ?ga_BadNumber ?gg_BadNumber ?nv_BadNumber ?ii_BadNumber ?kp_BadNumber ?ex_BadNumber ?ty_BadNumber ?hd_BadNumber ?su_BadNumber ?sv_BadNumber ?mr_BadNumber ?me_BadNumber ?a_BadText ?l_BadText ?r_BadText ?sa_BadText ?ga_BadText ?gg_BadText ?nv_BadText ?ii_BadText ?kp_BadText ?ex_BadText ?ty_BadText ?hd_BadText ?su_BadText ?sv_BadText ?mr_BadText ?me_BadText ?z_ValueError ?z_abs ?z_all ?z_bool ?z_int ?z_isinstance ?z_len ?z_list ?z_max ?z_min ?z_range ?z_repr ?z_str ?z_tuple ?c_FIGURES ?c_MOST_FIGURES ?c_MOST_NUMBER ?c_MOST_TIMES ?pq_BadNumber_BadCount ?pq_BadText_BadCount ?pq_BadText_BadNumber ?d__law_pool ?l__law_pool ?o__law_pool ?p__law_pool ?d__law_take ?l__law_take ?o__law_take ?p__law_take ?d__law_number ?l__law_number ?o__law_number ?p__law_number ?d_is_integer ?l_is_integer ?o_is_integer ?p_is_integer ?d_is_between ?l_is_between ?o_is_between ?p_is_between ?d_is_count ?l_is_count ?o_is_count ?p_is_count ?d__law_due ?l__law_due ?o__law_due ?p__law_due ?d_check_count ?l_check_count ?o_check_count ?p_check_count ?d_format_count ?l_format_count ?o_format_count ?p_format_count ?d__law_refused ?l__law_refused ?o__law_refused ?p__law_refused ?d_check_number ?l_check_number ?o_check_number ?p_check_number ?d_rounds_at ?l_rounds_at ?o_rounds_at ?p_rounds_at ?d_rounds ?l_rounds ?o_rounds ?p_rounds ?d__law_text ?l__law_text ?o__law_text ?p__law_text ?d__law_bent ?l__law_bent ?o__law_bent ?p__law_bent ?d__law_is_number ?l__law_is_number ?o__law_is_number ?p__law_is_number ?d__law_value ?l__law_value ?o__law_value ?p__law_value ?d_number_in ?l_number_in ?o_number_in ?p_number_in ?d_count_in ?l_count_in ?o_count_in ?p_count_in ?d_parse_count ?l_parse_count ?o_parse_count ?p_parse_count ?d_law ?l_law ?o_law ?p_law ?tA ?nP
    (case aB => k_is)
    (case iB => k_is)
    (case lB => k_is)
    (case cB => k_is)
    (case tB => k_is)
    (case dB => k_is)
    (case oB => k_is)
    (case eB => k_is)
    (case kB => k_is)
    (case vB => rfl)
    (case fB => rfl)
    (case sB => k_is)
    (case a_BadCount => k_is)
    (case l_BadCount => k_is)
    (case r_BadCount => decide +kernel)
    (case sa_BadCount => k_is)
    (case ga_BadCount => k_is)
    (case gg_BadCount => k_is)
    (case nv_BadCount => k_is)
    (case ii_BadCount => k_is)
    (case kp_BadCount => k_is)
    (case ex_BadCount => k_is)
    (case ty_BadCount => k_is)
    (case hd_BadCount => k_is)
    (case su_BadCount => rfl)
    (case sv_BadCount => k_is)
    (case mr_BadCount => k_is)
    (case me_BadCount => rfl)
    (case ec_BadCount => k_is)
    (case en_BadCount => k_is)
    (case et_BadCount => k_is)
    (case em_BadCount => k_is)
    (case ek_BadCount => rfl)
    (case a_BadNumber => k_is)
    (case l_BadNumber => k_is)
    (case r_BadNumber => decide +kernel)
    (case sa_BadNumber => k_is)
    (case ga_BadNumber => k_is)
    (case gg_BadNumber => k_is)
    (case nv_BadNumber => k_is)
    (case ii_BadNumber => k_is)
    (case kp_BadNumber => k_is)
    (case ex_BadNumber => k_is)
    (case ty_BadNumber => k_is)
    (case hd_BadNumber => k_is)
    (case su_BadNumber => rfl)
    (case sv_BadNumber => k_is)
    (case mr_BadNumber => k_is)
    (case me_BadNumber => rfl)
    (case a_BadText => k_is)
    (case l_BadText => k_is)
    (case r_BadText => decide +kernel)
    (case sa_BadText => k_is)
    (case ga_BadText => k_is)
    (case gg_BadText => k_is)
    (case nv_BadText => k_is)
    (case ii_BadText => k_is)
    (case kp_BadText => k_is)
    (case ex_BadText => k_is)
    (case ty_BadText => k_is)
    (case hd_BadText => k_is)
    (case su_BadText => rfl)
    (case sv_BadText => k_is)
    (case mr_BadText => k_is)
    (case me_BadText => rfl)
    (case z_ValueError => k_is)
    (case z_abs => k_is)
    (case z_all => k_is)
    (case z_bool => k_is)
    (case z_int => k_is)
    (case z_isinstance => k_is)
    (case z_len => k_is)
    (case z_list => k_is)
    (case z_max => k_is)
    (case z_min => k_is)
    (case z_range => k_is)
    (case z_repr => k_is)
    (case z_str => k_is)
    (case z_tuple => k_is)
    (case c_FIGURES => k_is)
    (case c_MOST_FIGURES => k_is)
    (case c_MOST_NUMBER => k_is)
    (case c_MOST_TIMES => k_is)
    (case pq_BadNumber_BadCount => first | rfl | k_is)
    (case pq_BadText_BadCount => first | rfl | k_is)
    (case pq_BadText_BadNumber => first | rfl | k_is)
    (case d__law_pool => k_is)
    (case l__law_pool => k_is)
    (case o__law_pool => k_is)
    (case p__law_pool => k_is)
    (case d__law_take => k_is)
    (case l__law_take => k_is)
    (case o__law_take => k_is)
    (case p__law_take => k_is)
    (case d__law_number => k_is)
    (case l__law_number => k_is)
    (case o__law_number => k_is)
    (case p__law_number => k_is)
    (case d_is_integer => k_is)
    (case l_is_integer => k_is)
    (case o_is_integer => k_is)
    (case p_is_integer => k_is)
    (case d_is_between => k_is)
    (case l_is_between => k_is)
    (case o_is_between => k_is)
    (case p_is_between => k_is)
    (case d_is_count => k_is)
    (case l_is_count => k_is)
    (case o_is_count => k_is)
    (case p_is_count => k_is)
    (case d__law_due => k_is)
    (case l__law_due => k_is)
    (case o__law_due => k_is)
    (case p__law_due => k_is)
    (case d_check_count => k_is)
    (case l_check_count => k_is)
    (case o_check_count => k_is)
    (case p_check_count => k_is)
    (case d_format_count => k_is)
    (case l_format_count => k_is)
    (case o_format_count => k_is)
    (case p_format_count => k_is)
    (case d__law_refused => k_is)
    (case l__law_refused => k_is)
    (case o__law_refused => k_is)
    (case p__law_refused => k_is)
    (case d_check_number => k_is)
    (case l_check_number => k_is)
    (case o_check_number => k_is)
    (case p_check_number => k_is)
    (case d_rounds_at => k_is)
    (case l_rounds_at => k_is)
    (case o_rounds_at => k_is)
    (case p_rounds_at => k_is)
    (case d_rounds => k_is)
    (case l_rounds => k_is)
    (case o_rounds => k_is)
    (case p_rounds => k_is)
    (case d__law_text => k_is)
    (case l__law_text => k_is)
    (case o__law_text => k_is)
    (case p__law_text => k_is)
    (case d__law_bent => k_is)
    (case l__law_bent => k_is)
    (case o__law_bent => k_is)
    (case p__law_bent => k_is)
    (case d__law_is_number => k_is)
    (case l__law_is_number => k_is)
    (case o__law_is_number => k_is)
    (case p__law_is_number => k_is)
    (case d__law_value => k_is)
    (case l__law_value => k_is)
    (case o__law_value => k_is)
    (case p__law_value => k_is)
    (case d_number_in => k_is)
    (case l_number_in => k_is)
    (case o_number_in => k_is)
    (case p_number_in => k_is)
    (case d_count_in => k_is)
    (case l_count_in => k_is)
    (case o_count_in => k_is)
    (case p_count_in => k_is)
    (case d_parse_count => k_is)
    (case l_parse_count => k_is)
    (case o_parse_count => k_is)
    (case p_parse_count => k_is)
    (case d_law => k_is)
    (case l_law => k_is)
    (case o_law => k_is)
    (case p_law => k_is)
    (case tA => first | rfl | k_is)
    (case nP => first | rfl | decide +kernel | k_is)
