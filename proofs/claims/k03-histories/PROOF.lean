import PyProof.Rows.All
import Wide.All
import OpenK.AllK
import Wide.FinOn
import HandS.ForMost
import HandS.SlotsVar
import HandS.Exc
import HandS.Walk
import HandS.CallSlots
import HandS.WordsExc
import HandS.Property
import HandS.TupAny
import HandS.Dict
import HandS.IsInst
import PyProof.EqLayable
import HandS.Conv
import HandS.WordsDict
import HandS.Zip
import HandS.Small
import PyProof.RulesMatch
import HandS.Words
import HandS.Ends
import KE.GoesEnum
import HandS.SortRule
import HandS.SortInts
import KE.KSortTupAny
import HandS.DictComp
import KE.KEqDict
import PyProof.P3Eq
import HandS.More
import HandS.Head2
import HandS.HeadEnd
import HandS.HeadHook4
import HandS.ExcInit
import HandS.ExcIs
import HandS.ExcField
import PySem.Challenge.RW_clockback_k03_histories
set_option Elab.async false
set_option linter.all false
set_option maxRecDepth 100000
set_option maxHeartbeats 4000000
/-! The O layer, 1: data that own their mutable parts, and how they stand in the abstract heap. -/
namespace OL
open PySem PySem.Spec PyProof.Rows L2

/-- pure data. lst, dct, ins: owned by their place; fls, fdc, fin: frozen; exo: an error in hand; mvd: nothing is known -/
inductive D where
  | non | bl (b : Bool) | int (i : Int) | str (x : Str) | fn (n : Nat)
  | tup (xs : List D)
  | lst (xs : List D) | fls (xs : List D)
  | dct (ks : List Key) (ds : List D) | fdc (ks : List Key) (ds : List D)
  | ins (c : Nat) (ds : List D) | fin (c : Nat) (ds : List D)
  | exo (n c : Nat) (ds : List D)
  | mvd

/-- a class: its address, its fields, whether they are slots -/
structure Cli where
  ad : Addr
  ns : List Str
  sl : Bool
structure Ct where
  K : PySem.W.Frag
  cl : Nat → Option Cli
  fv : Nat → Option Addr

abbrev As := Addr → Prop
def emp : As := fun _ => False
def but (P : As) (a : Addr) : As := fun b => P b ∧ b ≠ a
def uni (P Q : As) : As := fun b => P b ∨ Q b
def mns (P Q : As) : As := fun b => P b ∧ ¬ Q b
def Sub (P Q : As) : Prop := ∀ a, P a → Q a
def Dis (P Q : As) : Prop := ∀ a, P a → Q a → False
structure Sp (P1 P2 P : As) : Prop where
  l : Sub P1 P
  r : Sub P2 P
  d : Dis P1 P2

/-- a list that nothing changes any more -/
def FrL (C : Ct) (H : Hp) (Z : As) (a : Addr) (vs : List V) : Prop :=
  (H a = some (.lst vs) ∧ Z a) ∨ (∃ o, H a = some (.frz o (.lst vs))) ∨
    ∃ (o : Obj) (its : Array Value) (n : Nat), C.K.lookup a = some o ∧ o.cls = .type "list" ∧ o.dict = none ∧ o.data = .seq its n ∧ its.size ≤ sizeLine ∧ Vals vs its.toList
/-- an instance of the class c at a, its fields by place -/
def InsAt (C : Ct) (H : Hp) (a : Addr) (c : Nat) (os : List (Option V)) : Prop :=
  ∃ q, C.cl c = some q ∧ ((q.sl = false ∧ ∃ dx fs, H a = some (.ins q.ad dx fs) ∧ os = (q.ns.map fun n => fs.lookup n) ∧ (fs.map (·.1)).Nodup ∧ ∀ n ∈ fs.map (·.1), n ∈ q.ns) ∨
    (q.sl = true ∧ ∃ dx vs, L2.SlAt H a q.ad dx vs ∧ os = (List.range q.ns.length).map fun i => (vs[i]?).getD none))

mutual
def Rep (C : Ct) (H : Hp) (Z : As) : D → V → As → Prop
  | .non, v, _ => v = .non
  | .bl b, v, _ => v = .bl b
  | .int i, v, _ => v = .int i
  | .str x, v, _ => v = .str x
  | .fn n, v, _ => ∃ a, C.fv n = some a ∧ v = .ref a
  | .tup ds, v, P => ∃ a vs, v = .ref a ∧ SqT C.K H a vs ∧ RepL C H Z ds (vs.map some) P
  | .lst ds, v, P => ∃ a vs, v = .ref a ∧ P a ∧ H a = some (.lst vs) ∧ RepL C H Z ds (vs.map some) (but P a)
  | .fls ds, v, _ => ∃ a vs, v = .ref a ∧ FrL C H Z a vs ∧ RepL C H Z ds (vs.map some) emp
  | .dct ks ds, v, P => ∃ a vs, v = .ref a ∧ P a ∧ ks.length = ds.length ∧ H a = some (.dK (ks.zip vs)) ∧ RepL C H Z ds (vs.map some) (but P a)
  | .fdc ks ds, v, _ => ∃ a vs, v = .ref a ∧ Z a ∧ ks.length = ds.length ∧ H a = some (.dK (ks.zip vs)) ∧ RepL C H Z ds (vs.map some) emp
  | .ins c ds, v, P => ∃ a os, v = .ref a ∧ P a ∧ InsAt C H a c os ∧ RepL C H Z ds os (but P a)
  | .fin c ds, v, _ => ∃ a os, v = .ref a ∧ Z a ∧ InsAt C H a c os ∧ RepL C H Z ds os emp
  | .exo n c ds, v, _ => ∃ a dx q fs, v = .ref a ∧ C.fv n = some a ∧ C.fv (n + 1) = some dx ∧ C.cl c = some q ∧ C.fv (n + 2) = some q.ad ∧ H dx = some (.xd fs) ∧ RepL C H Z ds (q.ns.map fun m => fs.lookup m) emp
  | .mvd, _, _ => True
def RepL (C : Ct) (H : Hp) (Z : As) : List D → List (Option V) → As → Prop
  | [], os, _ => os = []
  | d :: ds, os, P => ∃ o os' P1 P2, os = o :: os' ∧ (d = .mvd ∨ ∃ v, o = some v ∧ Rep C H Z d v P1) ∧ RepL C H Z ds os' P2 ∧ Sp P1 P2 P
end

mutual
/-- nothing in it can change -/
def D.st : D → Bool
  | .lst _ | .dct _ _ | .ins _ _ | .mvd => false
  | .tup ds => stL ds
  | _ => true
def stL : List D → Bool
  | [] => true
  | d :: ds => d.st && stL ds
end
mutual
/-- frozen -/
def D.fz : D → D
  | .lst ds => .fls (fzL ds)
  | .dct ks ds => .fdc ks (fzL ds)
  | .ins c ds => .fin c (fzL ds)
  | .tup ds => .tup (fzL ds)
  | d => d
def fzL : List D → List D
  | [] => []
  | d :: ds => d.fz :: fzL ds
end

/-! ### heaps that change -/
def Own : HO → Prop
  | .lst _ => True
  | .dK _ => True
  | .ins _ _ _ => True
  | .ext _ => True
  | _ => False
def Keep (Q : As) (H H' : Hp) : Prop := ∀ a o, H a = some o → ¬ Q a → H' a = some o
def OkP (P Z : As) (H : Hp) : Prop := ∀ a, P a → ¬ Z a ∧ ∃ o, H a = some o ∧ Own o
theorem OkP.sub {P P' Z : As} {H : Hp} (h : OkP P Z H) (s : Sub P' P) : OkP P' Z H := fun a p => h a (s a p)
theorem OkP.emp {Z : As} {H : Hp} : OkP OL.emp Z H := fun _ h => h.elim

section
variable {C : Ct} {H H' : Hp} {Z Z' Q : As}
theorem sqt_keep {a : Addr} {vs : List V} (h : SqT C.K H a vs) (k : Keep Q H H') (ok : OkP Q Z H) : SqT C.K H' a vs := by
  rcases h with (h | ⟨o, h⟩) | h
  · refine .inl (.inl (k a _ h fun q => ?_))
    obtain ⟨_, o, e, w⟩ := ok a q
    rw [h] at e; cases e; exact w
  · refine .inl (.inr ⟨o, k a _ h fun q => ?_⟩)
    obtain ⟨_, o, e, w⟩ := ok a q
    rw [h] at e; cases e; exact w
  · exact .inr h
theorem frl_keep {a : Addr} {vs : List V} (h : FrL C H Z a vs) (k : Keep Q H H') (ok : OkP Q Z H) (z : Sub Z Z') : FrL C H' Z' a vs := by
  rcases h with ⟨h, za⟩ | ⟨o, h⟩ | h
  · exact .inl ⟨k a _ h fun q => (ok a q).1 za, z a za⟩
  · refine .inr (.inl ⟨o, k a _ h fun q => ?_⟩)
    obtain ⟨_, o, e, w⟩ := ok a q
    rw [h] at e; cases e; exact w
  · exact .inr (.inr h)
theorem insAt_keep {a : Addr} {c : Nat} {os : List (Option V)} (h : InsAt C H a c os) (k : Keep Q H H') (ok : OkP Q Z H) (na : ¬ Q a) : InsAt C H' a c os := by
  obtain ⟨q, hq, ⟨s, dx, fs, h, e⟩ | ⟨s, dx, vs, ⟨h1, h2, h3⟩, e⟩⟩ := h
  · exact ⟨q, hq, .inl ⟨s, dx, fs, k a _ h na, e⟩⟩
  · refine ⟨q, hq, .inr ⟨s, dx, vs, ⟨k dx _ h1 fun z => ?_, h2, ?_⟩, e⟩⟩
    · obtain ⟨_, o, e, w⟩ := ok dx z
      rw [h1] at e; cases e; exact w
    · rcases h3 with h3 | ⟨e3, h3⟩
      · exact .inl (k a _ h3 na)
      · exact .inr ⟨e3, k a _ h3 na⟩
mutual
theorem rep_mono : ∀ {d : D} {v : V} {P P' : As}, Rep C H Z d v P → Sub P P' → Rep C H Z d v P'
  | .non, _, _, _, h, _ => h
  | .bl _, _, _, _, h, _ => h
  | .int _, _, _, _, h, _ => h
  | .str _, _, _, _, h, _ => h
  | .fn _, _, _, _, h, _ => h
  | .tup ds, v, P, P', ⟨a, vs, e, s, r⟩, z => ⟨a, vs, e, s, repL_mono r z⟩
  | .lst ds, v, P, P', ⟨a, vs, e, p, s, r⟩, z => ⟨a, vs, e, z a p, s, repL_mono r fun b hb => ⟨z b hb.1, hb.2⟩⟩
  | .fls ds, v, P, P', h, z => h
  | .dct ks ds, v, P, P', ⟨a, vs, e, p, l, s, r⟩, z => ⟨a, vs, e, z a p, l, s, repL_mono r fun b hb => ⟨z b hb.1, hb.2⟩⟩
  | .fdc ks ds, v, P, P', h, z => h
  | .ins c ds, v, P, P', ⟨a, os, e, p, s, r⟩, z => ⟨a, os, e, z a p, s, repL_mono r fun b hb => ⟨z b hb.1, hb.2⟩⟩
  | .fin c ds, v, P, P', h, z => h
  | .exo n c ds, v, P, P', h, z => h
  | .mvd, _, _, _, _, _ => trivial
theorem repL_mono : ∀ {ds : List D} {os : List (Option V)} {P P' : As}, RepL C H Z ds os P → Sub P P' → RepL C H Z ds os P'
  | [], _, _, _, h, _ => h
  | d :: ds, os, P, P', ⟨o, os', P1, P2, e, h, r, s⟩, z => ⟨o, os', P1, P2, e, h, r, ⟨fun a x => z a (s.l a x), fun a x => z a (s.r a x), s.d⟩⟩
end
mutual
theorem rep_st : ∀ {d : D} {v : V} {P : As} (P' : As), d.st = true → Rep C H Z d v P → Rep C H Z d v P'
  | .non, _, _, _, _, h => h
  | .bl _, _, _, _, _, h => h
  | .int _, _, _, _, _, h => h
  | .str _, _, _, _, _, h => h
  | .fn _, _, _, _, _, h => h
  | .tup ds, v, P, P', t, ⟨a, vs, e, s, r⟩ => ⟨a, vs, e, s, repL_st P' t r⟩
  | .fls ds, v, P, P', _, h => h
  | .fdc ks ds, v, P, P', _, h => h
  | .fin c ds, v, P, P', _, h => h
  | .exo n c ds, v, P, P', _, h => h
  | .lst ds, v, P, P', t, h => by cases t
  | .dct ks ds, v, P, P', t, h => by cases t
  | .ins c ds, v, P, P', t, h => by cases t
  | .mvd, _, _, _, _, _ => trivial
theorem repL_st : ∀ {ds : List D} {os : List (Option V)} {P : As} (P' : As), stL ds = true → RepL C H Z ds os P → RepL C H Z ds os P'
  | [], _, _, _, _, h => h
  | d :: ds, os, P, P', t, ⟨o, os', P1, P2, e, h, r, s⟩ => by
    have t' : (d.st && stL ds) = true := t
    rw [Bool.and_eq_true] at t'
    refine ⟨o, os', emp, emp, e, ?_, repL_st emp t'.2 r, ⟨fun _ z => z.elim, fun _ z => z.elim, fun _ z => z.elim⟩⟩
    rcases h with h | ⟨v, e, h⟩
    · exact .inl h
    · exact .inr ⟨v, e, rep_st emp t'.1 h⟩
end
mutual
/-- the frame: what stands apart from the change stays -/
theorem rep_keep : ∀ {d : D} {v : V} {P : As}, Rep C H Z d v P → Keep Q H H' → OkP Q Z H → Dis Q P → Sub Z Z' → Rep C H' Z' d v P
  | .non, _, _, h, _, _, _, _ => h
  | .bl _, _, _, h, _, _, _, _ => h
  | .int _, _, _, h, _, _, _, _ => h
  | .str _, _, _, h, _, _, _, _ => h
  | .fn _, _, _, h, _, _, _, _ => h
  | .tup ds, v, P, ⟨a, vs, e, s, r⟩, k, ok, dj, z => ⟨a, vs, e, sqt_keep s k ok, repL_keep r k ok dj z⟩
  | .lst ds, v, P, ⟨a, vs, e, p, s, r⟩, k, ok, dj, z => ⟨a, vs, e, p, k a _ s fun q => dj a q p, repL_keep r k ok (fun b q x => dj b q x.1) z⟩
  | .fls ds, v, P, ⟨a, vs, e, s, r⟩, k, ok, dj, z => ⟨a, vs, e, frl_keep s k ok z, repL_keep r k ok (fun b q x => x.elim) z⟩
  | .dct ks ds, v, P, ⟨a, vs, e, p, l, s, r⟩, k, ok, dj, z => ⟨a, vs, e, p, l, k a _ s fun q => dj a q p, repL_keep r k ok (fun b q x => dj b q x.1) z⟩
  | .fdc ks ds, v, P, ⟨a, vs, e, p, l, s, r⟩, k, ok, dj, z => ⟨a, vs, e, z a p, l, k a _ s fun q => (ok a q).1 p, repL_keep r k ok (fun b q x => x.elim) z⟩
  | .ins c ds, v, P, ⟨a, os, e, p, s, r⟩, k, ok, dj, z => ⟨a, os, e, p, insAt_keep s k ok fun q => dj a q p, repL_keep r k ok (fun b q x => dj b q x.1) z⟩
  | .fin c ds, v, P, ⟨a, os, e, p, s, r⟩, k, ok, dj, z => ⟨a, os, e, z a p, insAt_keep s k ok fun q => (ok a q).1 p, repL_keep r k ok (fun b q x => x.elim) z⟩
  | .exo n c ds, v, P, ⟨a, dx, q, fs, e, h1, h2, hq, h3, s, r⟩, k, ok, dj, z => ⟨a, dx, q, fs, e, h1, h2, hq, h3, k dx _ s fun w => by
      obtain ⟨_, o, e', w'⟩ := ok dx w
      rw [s] at e'; cases e'; exact w', repL_keep r k ok (fun b q x => x.elim) z⟩
  | .mvd, _, _, _, _, _, _, _ => trivial
theorem repL_keep : ∀ {ds : List D} {os : List (Option V)} {P : As}, RepL C H Z ds os P → Keep Q H H' → OkP Q Z H → Dis Q P → Sub Z Z' → RepL C H' Z' ds os P
  | [], _, _, h, _, _, _, _ => h
  | d :: ds, os, P, ⟨o, os', P1, P2, e, h, r, s⟩, k, ok, dj, z => by
    refine ⟨o, os', P1, P2, e, ?_, repL_keep r k ok (fun b q x => dj b q (s.r b x)) z, s⟩
    rcases h with h | ⟨v, e, h⟩
    · exact .inl h
    · exact .inr ⟨v, e, rep_keep h k ok (fun b q x => dj b q (s.l b x)) z⟩
end
end
end OL

/-! The O layer, 2: places, results, states. -/
namespace OL
open PySem PySem.Spec PyProof.Rows L2

/-! ### changes -/
/-- what is ours stands apart from what is frozen; what is frozen stands -/
structure OkS (P Z : As) (H : Hp) : Prop where
  at_ : OkP P Z H
  zt : ∀ a, Z a → H a ≠ none
theorem OkS.sub {P P' Z : As} {H : Hp} (h : OkS P Z H) (s : Sub P' P) : OkS P' Z H := ⟨h.at_.sub s, h.zt⟩
structure Ch (P Z : As) (H : Hp) (P' Z' : As) (H' : Hp) : Prop where
  keep : Keep P H H'
  new : ∀ a, P' a → P a ∨ H a = none
  zle : Sub Z Z'
  znew : ∀ a, Z' a → Z a ∨ P a ∨ H a = none
  ok : OkS P' Z' H'
section
variable {C : Ct} {H H' H1 H2 : Hp} {Z Z' Z1 Z2 P P' P1 P2 Q T : As}
theorem Ch.refl (ok : OkS P Z H) : Ch P Z H P Z H := ⟨fun _ _ e _ => e, fun _ h => .inl h, fun _ h => h, fun _ h => .inl h, ok⟩
theorem Ch.sub (c : Ch P Z H P' Z' H') (s : Sub Q P') : Ch P Z H Q Z' H' := ⟨c.keep, fun a h => c.new a (s a h), c.zle, c.znew, c.ok.sub s⟩
theorem Ch.wid (c : Ch P Z H P' Z' H') (s : Sub P Q) : Ch Q Z H P' Z' H' :=
  ⟨fun a o e n => c.keep a o e fun p => n (s a p), fun a h => (c.new a h).imp (s a) id, c.zle, fun a h => (c.znew a h).imp id (Or.imp (s a) id), c.ok⟩
/-- one change behind another, what was made on the way (T) stands apart -/
theorem Ch.trans (c : Ch P Z H (uni P1 T) Z1 H1) (dj : Dis P1 T) (c2 : Ch P1 Z1 H1 P2 Z2 H2) : Ch P Z H (uni P2 T) Z2 H2 where
  keep := fun a o e n => c2.keep a o (c.keep a o e n) fun p => by
    rcases c.new a (.inl p) with q | q
    · exact n q
    · rw [e] at q; cases q
  new := fun a h => by
    rcases h with h | h
    · rcases c2.new a h with q | q
      · exact c.new a (.inl q)
      · cases e : H a with
        | none => exact .inr rfl
        | some o =>
          by_cases n : P a
          · exact .inl n
          · rw [c.keep a o e n] at q; cases q
    · exact c.new a (.inr h)
  zle := fun a h => c2.zle a (c.zle a h)
  znew := fun a h => by
    rcases c2.znew a h with q | q | q
    · exact c.znew a q
    · rcases c.new a (.inl q) with r | r
      · exact .inr (.inl r)
      · exact .inr (.inr r)
    · cases e : H a with
      | none => exact .inr (.inr rfl)
      | some o =>
        by_cases n : P a
        · exact .inr (.inl n)
        · rw [c.keep a o e n] at q; cases q
  ok := ⟨fun a h => by
    rcases h with h | h
    · exact c2.ok.at_ a h
    · obtain ⟨nz, o, e, w⟩ := c.ok.at_ a (.inr h)
      refine ⟨fun z => ?_, o, c2.keep a o e fun p => dj a p h, w⟩
      rcases c2.znew a z with q | q | q
      · exact nz q
      · exact dj a q h
      · rw [e] at q; exact absurd q (by simp), c2.ok.zt⟩
theorem Ch.apart (c : Ch P Z H (uni P1 T) Z1 H1) (dj : Dis P1 T) (c2 : Ch P1 Z1 H1 P2 Z2 H2) : Dis P2 T := fun a h t => by
  rcases c2.new a h with q | q
  · exact dj a q t
  · obtain ⟨_, o, e, _⟩ := c.ok.at_ a (.inr t)
    rw [e] at q; cases q
theorem uni_emp {P : As} : uni P emp = P := funext fun a => propext ⟨fun h => h.elim id fun z => z.elim, .inl⟩
theorem Ch.trans0 (c : Ch P Z H P1 Z1 H1) (c2 : Ch P1 Z1 H1 P2 Z2 H2) : Ch P Z H P2 Z2 H2 := by
  have q := Ch.trans (T := emp) (by rw [uni_emp]; exact c) (fun _ _ z => z.elim) c2
  rwa [uni_emp] at q
theorem Ch.okP (c : Ch P Z H (uni P1 T) Z1 H1) : OkS P1 Z1 H1 := c.ok.sub fun _ h => .inl h
theorem Ch.okT (c : Ch P Z H (uni P1 T) Z1 H1) : OkS T Z1 H1 := c.ok.sub fun _ h => .inr h
/-- a change that only adds -/
theorem Ch.grow (k : Keep emp H H') (ok : OkS P Z H) (n : ∀ a, T a → H a = none) (okT : OkP T Z H') : Ch P Z H (uni P T) Z H' where
  keep := fun a o e _ => k a o e fun z => z.elim
  new := fun a h => h.imp id (n a)
  zle := fun _ h => h
  znew := fun _ h => .inl h
  ok := ⟨fun a h => by
    rcases h with h | h
    · obtain ⟨nz, o, e, w⟩ := ok.at_ a h
      exact ⟨nz, o, k a o e fun z => z.elim, w⟩
    · exact okT a h, fun a z e => by
      cases e1 : H a with
      | none => exact ok.zt a z e1
      | some o =>
        rw [k a o e1 fun z => z.elim] at e
        exact absurd e (by simp)⟩
theorem Keep.mono (k : Keep P H H') (s : Sub P Q) : Keep Q H H' := fun a o e n => k a o e fun p => n (s a p)
theorem keep_refl : Keep Q H H := fun _ _ e _ => e
theorem dis_new (ok : OkP P Z H) (n : ∀ a, T a → H a = none) : Dis P T := fun a p t => by
  obtain ⟨_, o, e, _⟩ := ok a p
  rw [n a t] at e; cases e
theorem Ch.keepAll (c : Ch P Z H P' Z' H') {d : D} {v : V} {R : As} (r : Rep C H Z d v R) (ok : OkP P Z H) (dj : Dis P R) : Rep C H' Z' d v R := rep_keep r c.keep ok dj c.zle
end

/-! ### an item of a list of data, changed in place -/
section
variable {C : Ct} {H : Hp} {Z : As}
theorem repL_len : ∀ {ds : List D} {os : List (Option V)} {P : As}, RepL C H Z ds os P → os.length = ds.length
  | [], _, _, h => by rw [show _ = [] from h]; rfl
  | d :: ds, os, P, ⟨o, os', P1, P2, e, h, r, s⟩ => by rw [e, List.length_cons, List.length_cons, repL_len r]
theorem repL_at : ∀ {ds : List D} {os : List (Option V)} {P : As} {i : Nat} {d : D}, RepL C H Z ds os P → ds[i]? = some d → d ≠ .mvd →
    ∃ v P1, os[i]? = some (some v) ∧ Sub P1 P ∧ Rep C H Z d v P1 ∧ ∀ (H' : Hp) (Z' Q : As) (d' : D) (o' : Option V) (P1' : As), Keep Q H H' → OkP Q Z H → Sub Z Z' → (∀ a, Q a → P a → P1 a) →
      (d' = .mvd ∨ ∃ v', o' = some v' ∧ Rep C H' Z' d' v' P1') → Dis P1' (mns P P1) → RepL C H' Z' (ds.set i d') (os.set i o') (uni (mns P P1) P1')
  | [], _, _, _, _, _, e, _ => by cases e
  | d0 :: ds, os, P, 0, d, ⟨o, os', P1, P2, e, h, r, s⟩, ed, nm => by
    have ed' : d0 = d := Option.some.inj ed
    subst ed'
    rcases h with h | ⟨v, eo, h⟩
    · exact absurd h nm
    · subst e eo
      refine ⟨v, P1, rfl, s.l, h, fun H' Z' Q d' o' P1' k ok z q rep dj => ?_⟩
      exact ⟨o', os', P1', P2, rfl, rep, repL_keep r k ok (fun a qa pa => s.d a (q a qa (s.r a pa)) pa) z, ⟨fun a x => .inr x, fun a x => .inl ⟨s.r a x, fun y => s.d a y x⟩, fun a x y => dj a x ⟨s.r a y, fun w => s.d a w y⟩⟩⟩
  | d0 :: ds, os, P, i + 1, d, ⟨o, os', P1a, P2, e, h, r, s⟩, ed, nm => by
    obtain ⟨v, P1, ev, sb, rp, up⟩ := repL_at (i := i) r (by simpa using ed) nm
    subst e
    refine ⟨v, P1, by simpa using ev, fun a x => s.r a (sb a x), rp, fun H' Z' Q d' o' P1' k ok z q rep dj => ?_⟩
    have r' := up H' Z' Q d' o' P1' k ok z (fun a qa pa => q a qa (s.r a pa)) rep fun a x y => dj a x ⟨s.r a y.1, y.2⟩
    refine ⟨o, os'.set i o', P1a, uni (mns P2 P1) P1', rfl, ?_, r', ⟨fun a x => .inl ⟨s.l a x, fun y => s.d a x (sb a y)⟩, fun a x => x.imp (fun y => ⟨s.r a y.1, y.2⟩) id, fun a x y => ?_⟩⟩
    · rcases h with h | ⟨v0, e0, h⟩
      · exact .inl h
      · exact .inr ⟨v0, e0, rep_keep h k ok (fun a qa pa => s.d a pa (sb a (q a qa (s.l a pa)))) z⟩
    · rcases y with y | y
      · exact s.d a x y.1
      · exact dj a y ⟨s.l a x, fun w => s.d a x (sb a w)⟩
/-- a new value at a place, wherever it came from (the place's old value is dropped) -/
theorem repL_put : ∀ {ds : List D} {os : List (Option V)} {P : As} {i : Nat} {d : D} {v : V} {P1 : As}, RepL C H Z ds os P → i < ds.length → Rep C H Z d v P1 → Dis P1 P → RepL C H Z (ds.set i d) (os.set i (some v)) (uni P P1)
  | [], _, _, _, _, _, _, _, l, _, _ => absurd l (Nat.not_lt_zero _)
  | d0 :: ds, os, P, 0, d, v, P1, ⟨o, os', Pa, Pb, e, h, r, s⟩, _, rp, dj => by
    subst e
    exact ⟨some v, os', P1, Pb, rfl, .inr ⟨v, rfl, rp⟩, r, ⟨fun a x => .inr x, fun a x => .inl (s.r a x), fun a x y => dj a x (s.r a y)⟩⟩
  | d0 :: ds, os, P, i + 1, d, v, P1, ⟨o, os', Pa, Pb, e, h, r, s⟩, l, rp, dj => by
    subst e
    have r' := repL_put (i := i) r (by simpa using l) rp fun a x y => dj a x (s.r a y)
    refine ⟨o, os'.set i (some v), Pa, uni Pb P1, rfl, h, r', ⟨fun a x => .inl (s.l a x), fun a x => x.imp (s.r a) id, fun a x y => ?_⟩⟩
    rcases y with y | y
    · exact s.d a x y
    · exact dj a y (s.l a x)
/-- a place forgotten -/
theorem repL_del : ∀ {ds : List D} {os : List (Option V)} {P : As} {i : Nat} {o : Option V}, RepL C H Z ds os P → RepL C H Z (ds.set i .mvd) (os.set i o) P
  | [], _, _, i, o, h => by
    rw [show _ = [] from h]
    simp only [List.set_nil]
    exact rfl
  | d0 :: ds, os, P, 0, o', ⟨o, os', Pa, Pb, e, h, r, s⟩ => by
    subst e
    exact ⟨o', os', emp, Pb, rfl, .inl rfl, r, ⟨fun _ z => z.elim, s.r, fun _ z => z.elim⟩⟩
  | d0 :: ds, os, P, i + 1, o', ⟨o, os', Pa, Pb, e, h, r, s⟩ => by
    subst e
    exact ⟨o, os'.set i o', Pa, Pb, rfl, h, repL_del r, s⟩
/-- a place's value taken out -/
theorem repL_take : ∀ {ds : List D} {os : List (Option V)} {P : As} {i : Nat} {d : D}, RepL C H Z ds os P → ds[i]? = some d → d ≠ .mvd →
    ∃ v P1 P2, os[i]? = some (some v) ∧ Sp P1 P2 P ∧ Rep C H Z d v P1 ∧ RepL C H Z (ds.set i .mvd) os P2
  | [], _, _, _, _, _, e, _ => by cases e
  | d0 :: ds, os, P, 0, d, ⟨o, os', P1, P2, e, h, r, s⟩, ed, nm => by
    have ed' : d0 = d := Option.some.inj ed
    subst ed'
    rcases h with h | ⟨v, eo, h⟩
    · exact absurd h nm
    · subst e eo
      exact ⟨v, P1, P2, rfl, s, h, ⟨some v, os', emp, P2, rfl, .inl rfl, r, ⟨fun _ z => z.elim, fun _ z => z, fun _ z => z.elim⟩⟩⟩
  | d0 :: ds, os, P, i + 1, d, ⟨o, os', Pa, Pb, e, h, r, s⟩, ed, nm => by
    obtain ⟨v, P1, P2, ev, sp, rp, r'⟩ := repL_take (i := i) r (by simpa using ed) nm
    subst e
    refine ⟨v, P1, uni Pa P2, by simpa using ev, ⟨fun a x => s.r a (sp.l a x), fun a x => x.elim (s.l a) fun y => s.r a (sp.r a y), fun a x y => ?_⟩, rp, ⟨o, os', Pa, P2, rfl, h, r', ⟨fun _ x => .inl x, fun _ x => .inr x, fun a x y => s.d a x (sp.r a y)⟩⟩⟩
    rcases y with y | y
    · exact s.d a y (sp.l a x)
    · exact sp.d a x y
end

/-! ### paths -/
inductive Pj where
  | fld (c j : Nat) | idx (i : Nat) | key (k : Key)
def D.get : List Pj → D → Option D
  | [], d => some d
  | .fld c j :: p, .ins c' ds => if c = c' then (ds[j]?).bind (D.get p) else none
  | .idx i :: p, .lst ds => (ds[i]?).bind (D.get p)
  | .key k :: p, .dct ks ds => (ks.idxOf? k).bind fun i => (ds[i]?).bind (D.get p)
  | _, _ => none
def D.put (d' : D) : List Pj → D → D
  | [], _ => d'
  | .fld _ j :: p, .ins c ds => .ins c (ds.set j (D.put d' p (ds.getD j .mvd)))
  | .idx i :: p, .lst ds => .lst (ds.set i (D.put d' p (ds.getD i .mvd)))
  | .key k :: p, .dct ks ds => match ks.idxOf? k with
    | some i => .dct ks (ds.set i (D.put d' p (ds.getD i .mvd)))
    | none => .dct ks ds
  | _, d => d
def D.mv : D → Bool
  | .mvd => true
  | _ => false
theorem mv_ne {d : D} (h : d.mv = false) : d ≠ .mvd := fun e => by subst e; cases h
theorem get_mv {p : List Pj} {d : D} (h : d = .mvd) {d' : D} (g : d.get p = some d') : d' = .mvd := by
  subst h
  cases p with
  | nil => exact (Option.some.inj g).symm
  | cons q p => cases q <;> cases g

section
variable {C : Ct} {H : Hp} {Z : As}
theorem set_same_opt {α : Type} {l : List α} {i : Nat} {x : α} (h : l[i]? = some x) : l.set i x = l := by
  apply List.ext_getElem?
  intro j
  by_cases e : i = j
  · subst e
    rw [List.getElem?_set_self (List.getElem?_eq_some_iff.mp h).1, h]
  · rw [List.getElem?_set_ne e]
theorem getD_of {l : List D} {i : Nat} {d : D} (h : l[i]? = some d) : l.getD i .mvd = d := by
  rw [List.getD_eq_getElem?_getD, h]; rfl
/-- the step of a path: an item of ds, the rest of the path behind it -/
theorem path_step {p : List Pj} {ds : List D} {os : List (Option V)} {P : As} {a : Addr} {j : Nat} {d1 d : D} (pa : P a) (r : RepL C H Z ds os (but P a)) (ed1 : ds[j]? = some d1) (nm1 : d1 ≠ .mvd)
    (ih : ∀ {v1 : V} {Pj : As}, Rep C H Z d1 v1 Pj → ∃ v P1, Sub P1 Pj ∧ Rep C H Z d v P1 ∧ ∀ (H' : Hp) (Z' Q : As) (d' : D) (P1' : As), Keep Q H H' → OkP Q Z H → Sub Z Z' → (∀ a, Q a → Pj a → P1 a) →
      Rep C H' Z' d' v P1' → Dis P1' (mns Pj P1) → Rep C H' Z' (D.put d' p d1) v1 (uni (mns Pj P1) P1')) :
    ∃ v P1, Sub P1 P ∧ ¬ P1 a ∧ Rep C H Z d v P1 ∧ ∀ (H' : Hp) (Z' Q : As) (d' : D) (P1' : As), Keep Q H H' → OkP Q Z H → Sub Z Z' → (∀ a, Q a → P a → P1 a) →
      Rep C H' Z' d' v P1' → Dis P1' (mns P P1) → RepL C H' Z' (ds.set j (D.put d' p (ds.getD j .mvd))) os (but (uni (mns P P1) P1') a) ∧ uni (mns P P1) P1' a ∧ ¬ Q a := by
  obtain ⟨v1, Pj, ev1, sj, r1, up⟩ := repL_at r ed1 nm1
  obtain ⟨v, P1, sb, rd, up2⟩ := ih r1
  have na : ¬ P1 a := fun x => (sj a (sb a x)).2 rfl
  refine ⟨v, P1, fun b x => (sj b (sb b x)).1, na, rd, fun H' Z' Q d' P1' k ok z q r' dj => ?_⟩
  have hQ : ∀ b, Q b → but P a b → Pj b := fun b qb pb => sb b (q b qb pb.1)
  have r2 := up2 H' Z' Q d' P1' k ok z (fun b qb pb => q b qb (sj b pb).1) r' fun b x y => dj b x ⟨(sj b y.1).1, y.2⟩
  have r3 := up H' Z' Q _ (some v1) _ k ok z hQ (.inr ⟨v1, rfl, r2⟩) fun b x y => by
    rcases x with x | x
    · exact y.2 x.1
    · exact dj b x ⟨y.1.1, fun w => y.2 (sb b w)⟩
  rw [set_same_opt ev1] at r3
  rw [getD_of ed1]
  refine ⟨repL_mono r3 fun b x => ?_, .inl ⟨pa, na⟩, fun x => na (q a x pa)⟩
  rcases x with ⟨⟨x1, x2⟩, x3⟩ | ⟨x1, x2⟩ | x
  · exact ⟨.inl ⟨x1, fun w => x3 (sb b w)⟩, x2⟩
  · exact ⟨.inl ⟨(sj b x1).1, x2⟩, (sj b x1).2⟩
  · exact ⟨.inr x, fun w => by subst w; exact dj b x ⟨pa, na⟩⟩
/-- what a path leads to, changed in place -/
theorem rep_path : ∀ (p : List Pj) {d0 d : D} {v0 : V} {P : As}, Rep C H Z d0 v0 P → d0.get p = some d → d ≠ .mvd →
    ∃ v P1, Sub P1 P ∧ Rep C H Z d v P1 ∧ (p = [] → v = v0) ∧ ∀ (H' : Hp) (Z' Q : As) (d' : D) (P1' : As), Keep Q H H' → OkP Q Z H → Sub Z Z' → (∀ a, Q a → P a → P1 a) →
      Rep C H' Z' d' v P1' → Dis P1' (mns P P1) → Rep C H' Z' (D.put d' p d0) v0 (uni (mns P P1) P1') := by
  intro p
  induction p with
  | nil =>
    intro d0 d v0 P h e nm
    have e' : d0 = d := Option.some.inj e
    subst e'
    exact ⟨v0, P, fun _ x => x, h, fun _ => rfl, fun H' Z' Q d' P1' _ _ _ _ r _ => rep_mono r fun _ x => .inr x⟩
  | cons pj p ih =>
    intro d0 d v0 P h e nm
    cases pj with
    | fld c j =>
      cases d0 with
      | ins c' ds =>
        obtain ⟨a, os, ev, pa, ia, r⟩ := h
        have e1 : (if c = c' then (ds[j]?).bind (D.get p) else none) = some d := e
        by_cases ec : c = c'
        · rw [if_pos ec] at e1
          obtain ⟨d1, ed1, e2⟩ := Option.bind_eq_some_iff.mp e1
          obtain ⟨v, P1, sb, na, rd, up⟩ := path_step (p := p) (d := d) pa r ed1 (fun z => nm (get_mv z e2)) fun {v1 Pj} r1 =>
            let ⟨v, P1, a1, a2, _, a4⟩ := ih r1 e2 nm
            ⟨v, P1, a1, a2, a4⟩
          refine ⟨v, P1, sb, rd, (fun z => by cases z), fun H' Z' Q d' P1' k ok z q r' dj => ?_⟩
          obtain ⟨u1, u2, u3⟩ := up H' Z' Q d' P1' k ok z q r' dj
          exact ⟨a, os, ev, u2, insAt_keep ia k ok u3, u1⟩
        · rw [if_neg ec] at e1; cases e1
      | _ => cases e
    | idx j =>
      cases d0 with
      | lst ds =>
        obtain ⟨a, os, ev, pa, ia, r⟩ := h
        have e1 : (ds[j]?).bind (D.get p) = some d := e
        obtain ⟨d1, ed1, e2⟩ := Option.bind_eq_some_iff.mp e1
        obtain ⟨v, P1, sb, na, rd, up⟩ := path_step (p := p) (d := d) pa r ed1 (fun z => nm (get_mv z e2)) fun {v1 Pj} r1 =>
          let ⟨v, P1, a1, a2, _, a4⟩ := ih r1 e2 nm
          ⟨v, P1, a1, a2, a4⟩
        refine ⟨v, P1, sb, rd, (fun z => by cases z), fun H' Z' Q d' P1' k ok z q r' dj => ?_⟩
        obtain ⟨u1, u2, u3⟩ := up H' Z' Q d' P1' k ok z q r' dj
        exact ⟨a, os, ev, u2, k a _ ia u3, u1⟩
      | _ => cases e
    | key ky =>
      cases d0 with
      | dct ks ds =>
        obtain ⟨a, os, ev, pa, el, ia, r⟩ := h
        have e1 : ((ks.idxOf? ky).bind fun i => (ds[i]?).bind (D.get p)) = some d := e
        obtain ⟨j, ej, e1⟩ := Option.bind_eq_some_iff.mp e1
        obtain ⟨d1, ed1, e2⟩ := Option.bind_eq_some_iff.mp e1
        obtain ⟨v, P1, sb, na, rd, up⟩ := path_step (p := p) (d := d) pa r ed1 (fun z => nm (get_mv z e2)) fun {v1 Pj} r1 =>
          let ⟨v, P1, a1, a2, _, a4⟩ := ih r1 e2 nm
          ⟨v, P1, a1, a2, a4⟩
        refine ⟨v, P1, sb, rd, (fun z => by cases z), fun H' Z' Q d' P1' k ok z q r' dj => ?_⟩
        obtain ⟨u1, u2, u3⟩ := up H' Z' Q d' P1' k ok z q r' dj
        have ep : D.put d' (.key ky :: p) (.dct ks ds) = .dct ks (ds.set j (D.put d' p (ds.getD j .mvd))) := by
          show (match ks.idxOf? ky with | some i => D.dct ks (ds.set i (D.put d' p (ds.getD i .mvd))) | none => .dct ks ds) = _
          rw [ej]
        rw [ep]
        exact ⟨a, os, ev, u2, by rw [List.length_set]; exact el, k a _ ia u3, u1⟩
      | _ => cases e
end

/-! ### environments -/
abbrev Env := List D
def eget (env : Env) (i : Nat) (p : List Pj) : Option D := (env[i]?).bind (D.get p)
def eput (env : Env) (i : Nat) (p : List Pj) (d : D) : Env := env.set i (D.put d p (env.getD i .mvd))
/-- a value, or a place -/
inductive R where
  | val (d : D)
  | plc (i : Nat) (p : List Pj)
/-- the place i, p holds d, at v, within P1 -/
def Lens (C : Ct) (H : Hp) (Z : As) (env : Env) (σ : L2.St) (P : As) (i : Nat) (p : List Pj) (d : D) (v : V) (P1 : As) : Prop :=
  Sub P1 P ∧ Rep C H Z d v P1 ∧ ∀ (H' : Hp) (Z' Q : As) (d' : D) (P1' : As), Keep Q H H' → OkP Q Z H → Sub Z Z' → (∀ a, Q a → P a → P1 a) → Rep C H' Z' d' v P1' → Dis P1' (mns P P1) → RepL C H' Z' (eput env i p d') σ (uni (mns P P1) P1')
theorem lens_of {C : Ct} {H : Hp} {Z : As} {env : Env} {σ : L2.St} {P : As} {i : Nat} {p : List Pj} {d : D} (r : RepL C H Z env σ P) (g : eget env i p = some d) (nm : d.mv = false) :
    ∃ v P1, (p = [] → σ[i]? = some (some v)) ∧ Lens C H Z env σ P i p d v P1 := by
  obtain ⟨d0, e0, g⟩ := Option.bind_eq_some_iff.mp g
  obtain ⟨v0, P0, ev0, s0, r0, up⟩ := repL_at r e0 fun z => mv_ne nm (get_mv z g)
  obtain ⟨v, P1, sb, rd, hv, up2⟩ := rep_path p r0 g (mv_ne nm)
  refine ⟨v, P1, fun z => by rw [hv z]; exact ev0, fun a x => s0 a (sb a x), rd, fun H' Z' Q d' P1' k ok z q r' dj => ?_⟩
  have r2 := up2 H' Z' Q d' P1' k ok z (fun b qb pb => q b qb (s0 b pb)) r' fun b x y => dj b x ⟨s0 b y.1, y.2⟩
  have r3 := up H' Z' Q _ (some v0) _ k ok z (fun b qb pb => sb b (q b qb pb)) (.inr ⟨v0, rfl, r2⟩) fun b x y => by
    rcases x with x | x
    · exact y.2 x.1
    · exact dj b x ⟨y.1, fun w => y.2 (sb b w)⟩
  rw [set_same_opt ev0] at r3
  have ep : eput env i p d' = env.set i (D.put d' p d0) := by
    unfold eput
    rw [getD_of e0]
  rw [ep]
  refine repL_mono r3 fun b x => ?_
  rcases x with ⟨x1, x2⟩ | ⟨x1, x2⟩ | x
  · exact .inl ⟨x1, fun w => x2 (sb b w)⟩
  · exact .inl ⟨s0 b x1, x2⟩
  · exact .inr x
theorem Lens.grow {C : Ct} {H H' : Hp} {Z Z' : As} {env : Env} {σ : L2.St} {P : As} {i : Nat} {p : List Pj} {d : D} {v : V} {P1 : As} (l : Lens C H Z env σ P i p d v P1) (k : Keep emp H H') (zz : Sub Z Z') : Lens C H' Z' env σ P i p d v P1 := by
  obtain ⟨sb, rd, up⟩ := l
  refine ⟨sb, rep_keep rd k OkP.emp (fun _ z => z.elim) zz, fun H2 Z2 Q d' P1' k2 ok2 z q r' dj => ?_⟩
  refine up H2 Z2 (fun a => Q a ∧ H a ≠ none) d' P1' (fun a o e n => ?_) (fun a x => ?_) (fun a x => z a (zz a x)) (fun a x y => q a x.1 y) r' dj
  · exact k2 a o (k a o e fun w => w.elim) fun w => n ⟨w, fun z => by rw [e] at z; cases z⟩
  · obtain ⟨nz, o, e, w⟩ := ok2 a x.1
    cases e1 : H a with
    | none => exact absurd e1 x.2
    | some o1 =>
      have e2 := k a o1 e1 fun w => w.elim
      rw [e] at e2; cases e2
      exact ⟨fun y => nz (zz a y), o, rfl, w⟩
end OL

/-! The O layer, 3: what Python's expressions do on data. -/
namespace OL
open PySem PySem.Spec PyProof.Rows L2

/-- an answer: a result, the data behind it, whether anything of them may have been touched; an error (its class, its fields); nothing is known -/
inductive O (α : Type) where
  | ok (a : α) (e : Env) (t : Bool)
  | exc (x : Nat) (ds : List D) (e : Env)
  | bad
abbrev SE := Env → O R
abbrev SB := Env → O Bool
abbrev SA := Env → O (List R)

section
variable (C : Ct) (σ : L2.St)
def RepR (H : Hp) (Z : As) (env : Env) (P : As) : R → V → As → Prop
  | .val d, v, Q => Rep C H Z d v Q
  | .plc i [], v, _ => σ[i]? = some (some v)
  | .plc i (q :: p), v, _ => ∃ d P1, d.mv = false ∧ eget env i (q :: p) = some d ∧ Lens C H Z env σ P i (q :: p) d v P1
def RepRs (H : Hp) (Z : As) (env : Env) (P : As) : List R → List V → As → Prop
  | [], vs, _ => vs = []
  | r :: rs, vs, Q => ∃ v ws P1 P2, vs = v :: ws ∧ RepR C σ H Z env P r v P1 ∧ RepRs H Z env P rs ws P2 ∧ Sp P1 P2 Q
/-- an error's object: its class, its own dict -/
def XAt (H : Hp) (Z : As) (x : Nat) (ds : List D) (cls : Value) (dd : Option Addr) (P : As) : Prop :=
  ∃ q dx fs, C.cl x = some q ∧ cls = .ref q.ad ∧ dd = some dx ∧ H dx = some (.xd fs) ∧ RepL C H Z ds (q.ns.map fun n => fs.lookup n) P
/-- behind an expression: the data env' stand (in P'), the result stands apart (in Pv) -/
structure PE' (P Z : As) (H : Hp) (env : Env) (r : R) (env' : Env) (t : Bool) (v : V) (P' Pv Z' : As) (H' : Hp) : Prop where
  rl : RepL C H' Z' env' σ P'
  res : RepR C σ H' Z' env' P' r v Pv
  dj : Dis P' Pv
  ch : Ch P Z H (uni P' Pv) Z' H'
  pu : t = false → env' = env ∧ P' = P ∧ Keep emp H H'
structure PL' (P Z : As) (H : Hp) (env : Env) (rs : List R) (env' : Env) (t : Bool) (vs : List V) (P' Pv Z' : As) (H' : Hp) : Prop where
  rl : RepL C H' Z' env' σ P'
  res : RepRs C σ H' Z' env' P' rs vs Pv
  dj : Dis P' Pv
  ch : Ch P Z H (uni P' Pv) Z' H'
  pu : t = false → env' = env ∧ P' = P ∧ Keep emp H H'
structure PB' (P Z : As) (H : Hp) (env : Env) (env' : Env) (t : Bool) (P' Z' : As) (H' : Hp) : Prop where
  rl : RepL C H' Z' env' σ P'
  ch : Ch P Z H P' Z' H'
  pu : t = false → env' = env ∧ P' = P ∧ Keep emp H H'
structure PX' (P Z : As) (H : Hp) (x : Nat) (ds : List D) (env' : Env) (cls : Value) (dd : Option Addr) (P' Px Z' : As) (H' : Hp) : Prop where
  rl : RepL C H' Z' env' σ P'
  res : XAt C H' Z' x ds cls dd Px
  dj : Dis P' Px
  ch : Ch P Z H (uni P' Px) Z' H'
end

def tf (C : Ct) (W : WX) (f : SE) : TE := fun σ H Q => ∃ env P Z, RepL C H Z env σ P ∧ OkS P Z H ∧ match f env with
  | .ok r env' t => ∀ v P' Pv Z' H', PE' C σ P Z H env r env' t v P' Pv Z' H' → Q v H'
  | .exc x ds env' => ∀ cls dd P' Px Z' H', PX' C σ P Z H x ds env' cls dd P' Px Z' H' → W cls dd σ H'
  | .bad => False
def tb (C : Ct) (W : WX) (f : SB) : TT := fun σ H Q => ∃ env P Z, RepL C H Z env σ P ∧ OkS P Z H ∧ match f env with
  | .ok b env' t => ∀ P' Z' H', PB' C σ P Z H env env' t P' Z' H' → Q b H'
  | .exc x ds env' => ∀ cls dd P' Px Z' H', PX' C σ P Z H x ds env' cls dd P' Px Z' H' → W cls dd σ H'
  | .bad => False
def tl (C : Ct) (W : WX) (f : SA) : TA := fun σ H Q => ∃ env P Z, RepL C H Z env σ P ∧ OkS P Z H ∧ match f env with
  | .ok rs env' t => ∀ vs P' Pv Z' H', PL' C σ P Z H env rs env' t vs P' Pv Z' H' → Q vs H'
  | .exc x ds env' => ∀ cls dd P' Px Z' H', PX' C σ P Z H x ds env' cls dd P' Px Z' H' → W cls dd σ H'
  | .bad => False

theorem pe_imp {X : Cx} {e : Expr} {t t' : TE} (h : PE X e t) (i : ∀ σ H Q, t' σ H Q → t σ H Q) : PE X e t' := ⟨fun pins s σ H Q I w => h.run pins s σ H Q I (i σ H Q w)⟩
theorem pt_imp {X : Cx} {e : Expr} {t t' : TT} (h : PT X e t) (i : ∀ σ H Q, t' σ H Q → t σ H Q) : PT X e t' := ⟨fun pins s σ H Q I w => h.run pins s σ H Q I (i σ H Q w)⟩
theorem pw_imp {X : Cx} {e : Expr} {t t' : TT} (h : PW X e t) (i : ∀ σ H Q, t' σ H Q → t σ H Q) : PW X e t' := ⟨fun wh pins s σ H Q I w => h.run wh pins s σ H Q I (i σ H Q w)⟩
theorem pa_imp {X : Cx} {es : List Expr} {t t' : TA} (h : L2.PA X es t) (i : ∀ σ H Q, t' σ H Q → t σ H Q) : L2.PA X es t' := ⟨fun pos pins s σ H Q I w => h.run pos pins s σ H Q I (i σ H Q w)⟩

/-! ### one behind another -/
/-- a result may wait for the next part -/
def okR : R → Bool → Bool
  | .val _, _ => true
  | .plc _ [], _ => true
  | .plc _ (_ :: _), t => !t
def O.bind {α β : Type} (o : O α) (f : α → Env → Bool → O β) : O β := match o with
  | .ok a e t => f a e t
  | .exc x ds e => .exc x ds e
  | .bad => .bad
def O.map {α β : Type} (o : O α) (f : α → β) : O β := o.bind fun a e t => .ok (f a) e t

section
variable {C : Ct} {σ : L2.St} {H H1 H2 : Hp} {Z Z1 Z2 P P1 P2 Pv1 Pv2 : As} {env e1 e2 : Env} {r1 r2 : R} {t1 t2 : Bool} {v1 v2 : V}
theorem pu_seq {env e1 e2 : Env} {t1 t2 : Bool} (a : t1 = false → e1 = env ∧ P1 = P ∧ Keep emp H H1) (b : t2 = false → e2 = e1 ∧ P2 = P1 ∧ Keep emp H1 H2) : (t1 || t2) = false → e2 = env ∧ P2 = P ∧ Keep emp H H2 := fun h => by
  rw [Bool.or_eq_false_iff] at h
  obtain ⟨a1, a2, a4⟩ := a h.1
  obtain ⟨b1, b2, b4⟩ := b h.2
  exact ⟨b1.trans a1, b2.trans a2, fun x o e n => b4 x o (a4 x o e n) n⟩
/-- a waiting result behind the next part -/
theorem wait (r : RepR C σ H1 Z1 e1 P1 r1 v1 Pv1) (dj : Dis P1 Pv1) (ok : OkS P1 Z1 H1) {T : As} (c2 : Ch P1 Z1 H1 T Z2 H2) (pu : t2 = false → e2 = e1 ∧ P2 = P1 ∧ Keep emp H1 H2) (w : okR r1 t2 = true) :
    RepR C σ H2 Z2 e2 P2 r1 v1 Pv1 := by
  cases r1 with
  | val d => exact c2.keepAll r ok.at_ dj
  | plc i p =>
    cases p with
    | nil => exact r
    | cons q p =>
      cases t2 with
      | true => cases w
      | false =>
        obtain ⟨b1, b2, b4⟩ := pu rfl
        obtain ⟨d, Pd, nm, g, l⟩ := r
        subst b1 b2
        exact ⟨d, Pd, nm, g, l.grow b4 c2.zle⟩
theorem PX'.up {x : Nat} {ds : List D} {cls : Value} {dd : Option Addr} {P' Px Z' : As} {H' : Hp} {e' : Env} (c : Ch P Z H (uni P1 Pv1) Z1 H1) (dj : Dis P1 Pv1) (h : PX' C σ P1 Z1 H1 x ds e' cls dd P' Px Z' H') : PX' C σ P Z H x ds e' cls dd P' Px Z' H' :=
  ⟨h.rl, h.res, h.dj, (c.trans dj h.ch).sub fun _ q => .inl q⟩
/-- what a result holds -/
def rdR (env : Env) : R → Option D
  | .val d => some d
  | .plc i p => match eget env i p with
    | some d => if d.mv then none else some d
    | none => none
theorem rdR_plc {i : Nat} {p : List Pj} {d : D} (h : rdR env (.plc i p) = some d) : eget env i p = some d ∧ d.mv = false := by
  simp only [rdR] at h
  cases e : eget env i p with
  | none => simp only [e] at h; cases h
  | some d0 =>
    simp only [e] at h
    cases m : d0.mv with
    | true => simp [m] at h
    | false =>
      have h' : some d0 = some d := by simpa [m] using h
      cases h'
      exact ⟨rfl, m⟩
/-- a result is a place, or data -/
theorem place (r : RepR C σ H Z env P r1 v1 Pv1) (rl : RepL C H Z env σ P) {i : Nat} {p : List Pj} (e : r1 = .plc i p) {d : D} (h : rdR env r1 = some d) : ∃ P1, Lens C H Z env σ P i p d v1 P1 := by
  subst e
  obtain ⟨g, m⟩ := rdR_plc h
  cases p with
  | nil =>
    obtain ⟨v, P1, hv, l⟩ := lens_of rl g m
    have e : v = v1 := Option.some.inj (Option.some.inj ((hv rfl).symm.trans r))
    subst e
    exact ⟨P1, l⟩
  | cons q p =>
    obtain ⟨d', P1, nm, g', l⟩ := r
    rw [g] at g'; cases g'
    exact ⟨P1, l⟩
theorem read (r : RepR C σ H Z env P r1 v1 Pv1) (rl : RepL C H Z env σ P) {d : D} (h : rdR env r1 = some d) : ∃ Pd, Sub Pd (uni P Pv1) ∧ Rep C H Z d v1 Pd := by
  cases r1 with
  | val d' =>
    cases (show some d' = some d from h)
    exact ⟨Pv1, fun _ x => .inr x, r⟩
  | plc i p =>
    obtain ⟨P1, sb, rp, _⟩ := place r rl rfl h
    exact ⟨P1, fun a x => .inl (sb a x), rp⟩
end

/-! ### operations that read their operands and make something new, or nothing mutable -/
/-- one value read -/
def Rd1 (C : Ct) (H : Hp) (Z : As) (d : D) (v : V) : Prop := ∃ P, OkP P Z H ∧ Rep C H Z d v P
def RdL (C : Ct) (H : Hp) (Z : As) : List D → List V → Prop
  | [], vs => vs = []
  | d :: ds, vs => ∃ v ws, vs = v :: ws ∧ Rd1 C H Z d v ∧ RdL C H Z ds ws
/-- a new value z of the data d -/
structure New (C : Ct) (H : Hp) (Z : As) (d : D) (z : V) (Pz : As) (H' : Hp) : Prop where
  keep : Keep emp H H'
  new : ∀ a, Pz a → H a = none
  ok : OkP Pz Z H'
  rep : Rep C H' Z d z Pz
def Op2 (C : Ct) (r : R2) (g : D → D → Option D) : Prop := ∀ H Z da db x y d Q, (∀ a, Z a → H a ≠ none) → Rd1 C H Z da x → Rd1 C H Z db y → g da db = some d → (∀ z Pz H', New C H Z d z Pz H' → Q z H') → r x y H Q
def Op1 (C : Ct) (r : V → Hp → VK → Prop) (g : D → Option D) : Prop := ∀ H Z da x d Q, (∀ a, Z a → H a ≠ none) → Rd1 C H Z da x → g da = some d → (∀ z Pz H', New C H Z d z Pz H' → Q z H') → r x H Q
def OpN (C : Ct) (r : List V → Hp → VK → Prop) (g : List D → Option D) : Prop := ∀ H Z ds xs d Q, (∀ a, Z a → H a ≠ none) → RdL C H Z ds xs → g ds = some d → (∀ z Pz H', New C H Z d z Pz H' → Q z H') → r xs H Q
def OpM (C : Ct) (r : V → List V → Hp → VK → Prop) (g : D → List D → Option D) : Prop := ∀ H Z da ds x xs d Q, (∀ a, Z a → H a ≠ none) → Rd1 C H Z da x → RdL C H Z ds xs → g da ds = some d → (∀ z Pz H', New C H Z d z Pz H' → Q z H') → r x xs H Q

/-- results read, in a row -/
def rdRs (env : Env) : List R → Option (List D)
  | [] => some []
  | r :: rs => (rdR env r).bind fun d => (rdRs env rs).map (d :: ·)
section
variable {C : Ct} {σ : L2.St} {H H1 H2 : Hp} {Z Z1 Z2 P P1 P2 Pv1 Pv2 : As} {env e1 e2 : Env} {r1 r2 : R} {t1 t2 : Bool} {v1 v2 : V}
theorem rd1_of (r : RepR C σ H Z env P r1 v1 Pv1) (rl : RepL C H Z env σ P) (ok : OkS (uni P Pv1) Z H) {d : D} (h : rdR env r1 = some d) : Rd1 C H Z d v1 := by
  obtain ⟨Pd, sb, rp⟩ := read r rl h
  exact ⟨Pd, ok.at_.sub sb, rp⟩
theorem rdL_of : ∀ {rs : List R} {vs : List V} {Pv : As}, RepRs C σ H Z env P rs vs Pv → RepL C H Z env σ P → OkS (uni P Pv) Z H → ∀ {ds : List D}, rdRs env rs = some ds → RdL C H Z ds vs
  | [], vs, Pv, r, _, _, ds, h => by
    cases (show some [] = some ds from h)
    exact r
  | r :: rs, vs, Pv, ⟨v, ws, P1, P2, e, r1, r2, s⟩, rl, ok, ds, h => by
    have h' : ((rdR env r).bind fun d => (rdRs env rs).map (d :: ·)) = some ds := h
    obtain ⟨d, e1, h2⟩ := Option.bind_eq_some_iff.mp h'
    obtain ⟨ds', e2, e3⟩ := Option.map_eq_some_iff.mp h2
    subst e3
    exact ⟨v, ws, e, rd1_of r1 rl (ok.sub fun a x => x.imp id (s.l a)) e1, rdL_of r2 rl (ok.sub fun a x => x.imp id (s.r a)) e2⟩
/-- the new value behind operands that are dropped -/
theorem newE {T : As} {t : Bool} {d : D} {z : V} {Pz : As} {H' : Hp} {e : Env} (ev : RepL C H1 Z1 e1 σ P1) (c : Ch P Z H (uni P1 T) Z1 H1) (n : New C H1 Z1 d z Pz H') (pu : t = false → e1 = env ∧ P1 = P ∧ Keep emp H H1) :
    PE' C σ P Z H env (.val d) e1 t z P1 Pz Z1 H' := by
  have okP : OkS P1 Z1 H1 := c.okP
  refine ⟨repL_keep ev n.keep OkP.emp (fun _ z => z.elim) fun _ x => x, n.rep, dis_new okP.at_ n.new, ?_, fun h => ?_⟩
  · exact (c.sub (Q := P1) fun _ x => .inl x).trans0 (Ch.grow n.keep okP n.new n.ok)
  · obtain ⟨a1, a2, a4⟩ := pu h
    exact ⟨a1, a2, fun a o q m => n.keep a o (a4 a o q m) m⟩
end

def fTwo (fa fb : SE) (k : D → D → Option D) : SE := fun env => (fa env).bind fun ra e1 t1 => (fb e1).bind fun rb e2 t2 =>
  if okR ra t2 then match (rdR e2 ra).bind fun da => (rdR e2 rb).bind fun db => k da db with
    | some d => .ok (.val d) e2 (t1 || t2)
    | none => .bad
  else .bad
def fOne (fa : SE) (k : D → Option D) : SE := fun env => (fa env).bind fun ra e1 t1 => match (rdR e1 ra).bind k with
    | some d => .ok (.val d) e1 t1
    | none => .bad
def fN (fs : SA) (k : List D → Option D) : SE := fun env => (fs env).bind fun rs e1 t1 => match (rdRs e1 rs).bind k with
    | some d => .ok (.val d) e1 t1
    | none => .bad
def lNil : SA := fun env => .ok [] env false
def lCons (fa : SE) (fs : SA) : SA := fun env => (fa env).bind fun ra e1 t1 => (fs e1).bind fun rs e2 t2 => if okR ra t2 then .ok (ra :: rs) e2 (t1 || t2) else .bad

section
variable {C : Ct} {W : WX} {σ : L2.St} {H : Hp} {Q : VK} {fa fb : SE} {fs : SA}
theorem tf_two {r : R2} {g : D → D → Option D} (op : Op2 C r g) (h : tf C W (fTwo fa fb g) σ H Q) : tOp r (tf C W fa) (tf C W fb) σ H Q := by
  obtain ⟨env, P, Z, rl, ok, h⟩ := h
  refine ⟨env, P, Z, rl, ok, ?_⟩
  unfold fTwo at h
  cases ea : fa env with
  | bad => rw [ea] at h; exact h
  | exc x ds e => rw [ea] at h; exact h
  | ok ra e1 t1 =>
    rw [ea] at h
    intro v1 P1 Pv1 Z1 H1 p1
    refine ⟨e1, P1, Z1, p1.rl, p1.ch.okP, ?_⟩
    cases eb : fb e1 with
    | bad => simp only [O.bind, eb] at h
    | exc x ds e =>
      simp only [O.bind, eb] at h
      exact fun cls dd P' Px Z' H' q => h cls dd P' Px Z' H' (q.up p1.ch p1.dj)
    | ok rb e2 t2 =>
      simp only [O.bind, eb] at h
      intro v2 P2 Pv2 Z2 H2 p2
      cases w : okR ra t2 with
      | false => simp [w] at h
      | true =>
        simp only [w, if_true] at h
        cases ed : (rdR e2 ra).bind fun da => (rdR e2 rb).bind fun db => g da db with
        | none => simp only [ed] at h
        | some d =>
          simp only [ed] at h
          obtain ⟨da, e3, ed2⟩ := Option.bind_eq_some_iff.mp ed
          obtain ⟨db, e4, ed3⟩ := Option.bind_eq_some_iff.mp ed2
          have ra2 := wait (t2 := t2) p1.res p1.dj p1.ch.okP p2.ch p2.pu w
          have c2 := p1.ch.trans p1.dj p2.ch
          refine op H2 Z2 da db v1 v2 d Q c2.ok.zt (rd1_of ra2 p2.rl (c2.ok.sub fun a x => x.imp .inl id) e3) (rd1_of p2.res p2.rl (c2.ok.sub fun a x => .inl x) e4) ed3 fun z Pz H' n => ?_
          exact h z P2 Pz Z2 H' (newE (T := Pv2) (e := env) p2.rl (c2.sub fun a x => .inl x) n (pu_seq p1.pu p2.pu))
theorem tf_one {r : V → Hp → VK → Prop} {g : D → Option D} (op : Op1 C r g) (h : tf C W (fOne fa g) σ H Q) : tUn r (tf C W fa) σ H Q := by
  obtain ⟨env, P, Z, rl, ok, h⟩ := h
  refine ⟨env, P, Z, rl, ok, ?_⟩
  unfold fOne at h
  cases ea : fa env with
  | bad => rw [ea] at h; exact h
  | exc x ds e => rw [ea] at h; exact h
  | ok ra e1 t1 =>
    rw [ea] at h
    simp only [O.bind] at h
    intro v1 P1 Pv1 Z1 H1 p1
    cases ed : (rdR e1 ra).bind g with
    | none => simp only [ed] at h
    | some d =>
      simp only [ed] at h
      obtain ⟨da, e3, ed2⟩ := Option.bind_eq_some_iff.mp ed
      refine op H1 Z1 da v1 d Q p1.ch.ok.zt (rd1_of p1.res p1.rl p1.ch.ok e3) ed2 fun z Pz H' n => ?_
      exact h z P1 Pz Z1 H' (newE (T := Pv1) (e := env) p1.rl p1.ch n p1.pu)
/-- arguments -/
theorem tl_nil {Ql : List V → Hp → Prop} (h : tl C W lNil σ H Ql) : tNil σ H Ql := by
  obtain ⟨env, P, Z, rl, ok, h⟩ := h
  refine h [] P emp Z H ⟨rl, rfl, fun _ _ z => z.elim, ?_, fun _ => ⟨rfl, rfl, keep_refl⟩⟩
  rw [uni_emp]
  exact Ch.refl ok
theorem tl_cons {Ql : List V → Hp → Prop} (h : tl C W (lCons fa fs) σ H Ql) : tCons (tf C W fa) (tl C W fs) σ H Ql := by
  obtain ⟨env, P, Z, rl, ok, h⟩ := h
  refine ⟨env, P, Z, rl, ok, ?_⟩
  unfold lCons at h
  cases ea : fa env with
  | bad => rw [ea] at h; exact h
  | exc x ds e => rw [ea] at h; exact h
  | ok ra e1 t1 =>
    rw [ea] at h
    intro v1 P1 Pv1 Z1 H1 p1
    refine ⟨e1, P1, Z1, p1.rl, p1.ch.okP, ?_⟩
    cases eb : fs e1 with
    | bad => simp only [O.bind, eb] at h
    | exc x ds e =>
      simp only [O.bind, eb] at h
      exact fun cls dd P' Px Z' H' q => h cls dd P' Px Z' H' (q.up p1.ch p1.dj)
    | ok rs e2 t2 =>
      simp only [O.bind, eb] at h
      intro vs P2 Pv2 Z2 H2 p2
      cases w : okR ra t2 with
      | false => simp [w] at h
      | true =>
        simp only [w, if_true] at h
        have ra2 := wait (t2 := t2) p1.res p1.dj p1.ch.okP p2.ch p2.pu w
        have c2 := p1.ch.trans p1.dj p2.ch
        have ap := p1.ch.apart p1.dj p2.ch
        refine h (v1 :: vs) P2 (uni Pv1 Pv2) Z2 H2 ⟨p2.rl, ⟨v1, vs, Pv1, Pv2, rfl, ra2, p2.res, ⟨fun _ x => .inl x, fun _ x => .inr x, fun a x y => ap a (.inr y) x⟩⟩, fun a x y => ?_, c2.sub fun a x => ?_, pu_seq p1.pu p2.pu⟩
        · rcases y with y | y
          · exact ap a (.inl x) y
          · exact p2.dj a x y
        · rcases x with x | x | x
          · exact .inl (.inl x)
          · exact .inr x
          · exact .inl (.inr x)
theorem tf_N {r : List V → Hp → VK → Prop} {g : List D → Option D} (op : OpN C r g) (h : tf C W (fN fs g) σ H Q) : tCB r (tl C W fs) σ H Q := by
  obtain ⟨env, P, Z, rl, ok, h⟩ := h
  refine ⟨env, P, Z, rl, ok, ?_⟩
  unfold fN at h
  cases ea : fs env with
  | bad => rw [ea] at h; exact h
  | exc x ds e => rw [ea] at h; exact h
  | ok rs e1 t1 =>
    rw [ea] at h
    simp only [O.bind] at h
    intro vs P1 Pv1 Z1 H1 p1
    cases ed : (rdRs e1 rs).bind g with
    | none => simp only [ed] at h
    | some d =>
      simp only [ed] at h
      obtain ⟨ds, e3, ed2⟩ := Option.bind_eq_some_iff.mp ed
      refine op H1 Z1 ds vs d Q p1.ch.ok.zt (rdL_of p1.res p1.rl p1.ch.ok e3) ed2 fun z Pz H' n => ?_
      exact h z P1 Pz Z1 H' (newE (T := Pv1) (e := env) p1.rl p1.ch n p1.pu)
end

/-! ### names, constants -/
def fVar (i : Nat) : SE := fun env => match env[i]? with
  | some d => if d.mv then .bad else if d.st then .ok (.val d) env false else .ok (.plc i []) env false
  | none => .bad
def fC (d : D) : SE := fun env => .ok (.val d) env false
section
variable {X : Cx} {C : Ct} {W : WX}
theorem pureV {σ : L2.St} {H : Hp} {env : Env} {P Z : As} {d : D} {v : V} (rl : RepL C H Z env σ P) (ok : OkS P Z H) (r : Rep C H Z d v emp) : PE' C σ P Z H env (.val d) env false v P emp Z H :=
  ⟨rl, r, fun _ _ z => z.elim, by rw [uni_emp]; exact Ch.refl ok, fun _ => ⟨rfl, rfl, keep_refl⟩⟩
theorem e_var {i : Nat} {x : Str} {pos : Pos} (hN : X.N[i]? = some x) (hv : Vis X.env.scope x) (hd : (x == ("__debug__" : Str)) = false := by decide) (hcd : (x == ("__classdict__" : Str)) = false := by decide) : PE X (.Name x pos) (tf C W (fVar i)) :=
  pe_imp (pe_var hN hv hd hcd) fun σ H Q h => by
    obtain ⟨env, P, Z, rl, ok, h⟩ := h
    unfold fVar at h
    cases e : env[i]? with
    | none => rw [e] at h; exact h.elim
    | some d =>
      rw [e] at h
      cases m : d.mv with
      | true => simp only [m, if_true] at h
      | false =>
        simp only [m] at h
        obtain ⟨v, P1, ev, sb, rp, _⟩ := repL_at rl e (mv_ne m)
        refine ⟨v, ev, ?_⟩
        cases s : d.st with
        | true =>
          simp only [s, if_true] at h
          exact h v P emp Z H (pureV rl ok (rep_st emp s rp))
        | false =>
          simp only [s] at h
          exact h v P emp Z H ⟨rl, ev, fun _ _ z => z.elim, by rw [uni_emp]; exact Ch.refl ok, fun _ => ⟨rfl, rfl, keep_refl⟩⟩
theorem e_const {e : Expr} {v : V} {d : D} (h : PE X e (tC v)) (r : ∀ H Z, Rep C H Z d v emp) : PE X e (tf C W (fC d)) :=
  pe_imp h fun σ H Q ⟨env, P, Z, rl, ok, q⟩ => q v P emp Z H (pureV rl ok (r H Z))
theorem e_int {i : Int} {j pos} : PE X (.Constant (.int i) j pos) (tf C W (fC (.int i))) := e_const pe_int fun _ _ => rfl
theorem e_bl {b : Bool} {j pos} : PE X (.Constant (.bool b) j pos) (tf C W (fC (.bl b))) := e_const pe_bl fun _ _ => rfl
theorem e_non {j pos} : PE X (.Constant .none j pos) (tf C W (fC .non)) := e_const pe_non fun _ _ => rfl
theorem e_str {x : Str} {j pos} : PE X (.Constant (.str x) j pos) (tf C W (fC (.str x))) := e_const pe_str fun _ _ => rfl
theorem e_op {op : Operator} {r : R2} {g : D → D → Option D} {a b : Expr} {fa fb : SE} {pos : Pos} (ho : OpR X (binaryOp op) r) (o : Op2 C r g) (ha : PE X a (tf C W fa)) (hb : PE X b (tf C W fb)) : PE X (.BinOp a op b pos) (tf C W (fTwo fa fb g)) :=
  pe_imp (pe_op ho ha hb) fun _ _ _ h => tf_two o h
theorem e_un {op : UnaryOp} {r : V → Hp → VK → Prop} {g : D → Option D} {a : Expr} {fa : SE} {pos : Pos} (ho : UnR X (unaryOp op) r) (o : Op1 C r g) (ha : PE X a (tf C W fa)) : PE X (.UnaryOp op a pos) (tf C W (fOne fa g)) :=
  pe_imp (pe_un ho ha) fun _ _ _ h => tf_one o h
theorem e_cmp {op : CmpOp} {r : R2} {g : D → D → Option D} {a b : Expr} {fa fb : SE} {pos : Pos} (ho : OpR X (compareOp op) r) (o : Op2 C r g) (ha : PE X a (tf C W fa)) (hb : PE X b (tf C W fb)) (hm : behindInMarks op b = false) : PE X (.Compare a [op] [b] pos) (tf C W (fTwo fa fb g)) :=
  pe_imp (pe_cmpR ho ha hb hm) fun _ _ _ h => tf_two o h
theorem e_ix {r : R2} {g : D → D → Option D} {a b : Expr} {fa fb : SE} {pos : Pos} (hr : IxR X r) (o : Op2 C r g) (ha : PE X a (tf C W fa)) (hb : PE X b (tf C W fb)) (hs : PlainIx b) : PE X (.Subscript a b pos) (tf C W (fTwo fa fb g)) :=
  pe_imp (pe_ix hr ha hb hs) fun _ _ _ h => tf_two o h
theorem a_nil : L2.PA X [] (tl C W lNil) := pa_imp pa_nil fun _ _ _ h => tl_nil h
theorem a_cons {e : Expr} {es : List Expr} {fa : SE} {fs : SA} (ha : PE X e (tf C W fa)) (hr : L2.PA X es (tl C W fs)) (hs : starEach (e :: es) X.env = (false, eval e X.env) :: starEach es X.env := by rfl) : L2.PA X (e :: es) (tl C W (lCons fa fs)) :=
  pa_imp (pa_cons ha hr hs) fun _ _ _ h => tl_cons h
theorem e_callB {x : Str} {id : String} {r : List V → Hp → VK → Prop} {g : List D → Option D} {e : Expr} {es : List Expr} {fs : SA} {p pos : Pos} (hc : CallR X (.builtin id) r) (o : OpN C r g) (hg : Gl X x) (hm : X.mg x = none) (hv : bootBuiltins x = some (.builtin id)) (ha : L2.PA X (e :: es) (tl C W fs))
    (hn : x ≠ "__name__" := by decide) (hdb : (x == ("__debug__" : Str)) = false := by decide) (he : starEach (e :: es) X.env = (false, eval e X.env) :: starEach es X.env := by rfl) (hpl : (backTo pos (starEach es X.env)).any (·.1) = false := by rfl) : PE X (.Call (.Name x p) (e :: es) [] pos) (tf C W (fN fs g)) :=
  pe_imp (pe_callB hc hg hm hv ha hn hdb he hpl) fun _ _ _ h => tf_N o h
theorem e_callTy {x : Str} {T : String} {r : List V → Hp → VK → Prop} {g : List D → Option D} {e : Expr} {es : List Expr} {fs : SA} {p pos : Pos} (hc : CallR X (.type T) r) (o : OpN C r g) (hg : Gl X x) (hm : X.mg x = none) (hv : bootBuiltins x = some (.type T)) (ha : L2.PA X (e :: es) (tl C W fs))
    (hn : x ≠ "__name__" := by decide) (hdb : (x == ("__debug__" : Str)) = false := by decide) (he : starEach (e :: es) X.env = (false, eval e X.env) :: starEach es X.env := by rfl) (hpl : (backTo pos (starEach es X.env)).any (·.1) = false := by rfl) : PE X (.Call (.Name x p) (e :: es) [] pos) (tf C W (fN fs g)) :=
  pe_imp (pe_callTy hc hg hm hv ha hn hdb he hpl) fun _ _ _ h => tf_N o h
end
end OL

/-! The O layer, 4: tests and statements. -/
namespace OL
open PySem PySem.Spec PyProof.Rows L2

/-! ### tests -/
def bVal (fa : SE) : SB := fun env => (fa env).bind fun r e1 t1 => match rdR e1 r with
  | some (.bl b) => .ok b e1 t1
  | _ => .bad
def bAnd (a b : SB) : SB := fun env => (a env).bind fun x e1 t1 => if x then (b e1).bind fun y e2 t2 => .ok y e2 (t1 || t2) else .ok false e1 t1
def bOr (a b : SB) : SB := fun env => (a env).bind fun x e1 t1 => if x then .ok true e1 t1 else (b e1).bind fun y e2 t2 => .ok y e2 (t1 || t2)
def bNot (a : SB) : SB := fun env => (a env).bind fun x e1 t1 => .ok (!x) e1 t1
/-- a test as a value -/
def fB (a : SB) : SE := fun env => (a env).bind fun x e1 t1 => .ok (.val (.bl x)) e1 t1
def fIte (c : SB) (fa fb : SE) : SE := fun env => (c env).bind fun x e1 t1 => if x then (fa e1).bind fun r e2 t2 => .ok r e2 (t1 || t2) else (fb e1).bind fun r e2 t2 => .ok r e2 (t1 || t2)

section
variable {C : Ct} {σ : L2.St} {H H1 H2 : Hp} {Z Z1 Z2 P P1 P2 Pv1 Pv2 : As} {env e1 e2 : Env} {t1 t2 : Bool}
theorem PB'.seq (a : PB' C σ P Z H env e1 t1 P1 Z1 H1) (b : PB' C σ P1 Z1 H1 e1 e2 t2 P2 Z2 H2) : PB' C σ P Z H env e2 (t1 || t2) P2 Z2 H2 := ⟨b.rl, a.ch.trans0 b.ch, pu_seq a.pu b.pu⟩
theorem PB'.seqE {r : R} {v : V} {Pv : As} (a : PB' C σ P Z H env e1 t1 P1 Z1 H1) (b : PE' C σ P1 Z1 H1 e1 r e2 t2 v P2 Pv Z2 H2) : PE' C σ P Z H env r e2 (t1 || t2) v P2 Pv Z2 H2 := ⟨b.rl, b.res, b.dj, a.ch.trans0 b.ch, pu_seq a.pu b.pu⟩
theorem PX'.up0 {x : Nat} {ds : List D} {cls : Value} {dd : Option Addr} {P' Px Z' : As} {H' : Hp} {e' : Env} (c : Ch P Z H P1 Z1 H1) (h : PX' C σ P1 Z1 H1 x ds e' cls dd P' Px Z' H') : PX' C σ P Z H x ds e' cls dd P' Px Z' H' :=
  ⟨h.rl, h.res, h.dj, c.trans0 h.ch⟩
theorem rep_bl {b : Bool} {v : V} {P : As} (h : Rep C H Z (.bl b) v P) : v = .bl b := h
end
section
variable {C : Ct} {W : WX} {σ : L2.St} {H : Hp} {fa fb : SE} {a b : SB} {Q : Bool → Hp → Prop} {Qv : VK}
theorem tb_val (h : tb C W (bVal fa) σ H Q) : tf C W fa σ H fun x H1 => ∃ c, x = .bl c ∧ Q c H1 := by
  obtain ⟨env, P, Z, rl, ok, h⟩ := h
  refine ⟨env, P, Z, rl, ok, ?_⟩
  unfold bVal at h
  cases ea : fa env with
  | bad => rw [ea] at h; exact h
  | exc x ds e => rw [ea] at h; exact h
  | ok r e1 t1 =>
    simp only [ea, O.bind] at h
    intro v P1 Pv1 Z1 H1 p1
    cases ed : rdR e1 r with
    | none => simp only [ed] at h
    | some d =>
      cases d <;> simp only [ed] at h
      obtain ⟨Pd, _, rp⟩ := read p1.res p1.rl ed
      exact ⟨_, rp, h P1 Z1 H1 ⟨p1.rl, p1.ch.sub fun _ x => .inl x, p1.pu⟩⟩
theorem tb_and (h : tb C W (bAnd a b) σ H Q) : tAnd (tb C W a) (tb C W b) σ H Q := by
  obtain ⟨env, P, Z, rl, ok, h⟩ := h
  refine ⟨env, P, Z, rl, ok, ?_⟩
  unfold bAnd at h
  cases ea : a env with
  | bad => rw [ea] at h; exact h
  | exc x ds e => rw [ea] at h; exact h
  | ok x e1 t1 =>
    simp only [ea, O.bind] at h
    intro P1 Z1 H1 p1
    cases x with
    | false =>
      simp only [Bool.false_eq_true, if_false] at h ⊢
      exact h P1 Z1 H1 p1
    | true =>
      simp only [if_true] at h ⊢
      refine ⟨e1, P1, Z1, p1.rl, p1.ch.ok, ?_⟩
      cases eb : b e1 with
      | bad => simp only [eb] at h
      | exc x ds e => simp only [eb] at h; exact fun cls dd P' Px Z' H' q => h cls dd P' Px Z' H' (q.up0 p1.ch)
      | ok y e2 t2 => simp only [eb] at h; exact fun P2 Z2 H2 p2 => h P2 Z2 H2 (p1.seq p2)
theorem tb_or (h : tb C W (bOr a b) σ H Q) : tOr (tb C W a) (tb C W b) σ H Q := by
  obtain ⟨env, P, Z, rl, ok, h⟩ := h
  refine ⟨env, P, Z, rl, ok, ?_⟩
  unfold bOr at h
  cases ea : a env with
  | bad => rw [ea] at h; exact h
  | exc x ds e => rw [ea] at h; exact h
  | ok x e1 t1 =>
    simp only [ea, O.bind] at h
    intro P1 Z1 H1 p1
    cases x with
    | true =>
      simp only [if_true] at h ⊢
      exact h P1 Z1 H1 p1
    | false =>
      simp only [Bool.false_eq_true, if_false] at h ⊢
      refine ⟨e1, P1, Z1, p1.rl, p1.ch.ok, ?_⟩
      cases eb : b e1 with
      | bad => simp only [eb] at h
      | exc x ds e => simp only [eb] at h; exact fun cls dd P' Px Z' H' q => h cls dd P' Px Z' H' (q.up0 p1.ch)
      | ok y e2 t2 => simp only [eb] at h; exact fun P2 Z2 H2 p2 => h P2 Z2 H2 (p1.seq p2)
theorem tb_not (h : tb C W (bNot a) σ H Q) : tNot (tb C W a) σ H Q := by
  obtain ⟨env, P, Z, rl, ok, h⟩ := h
  refine ⟨env, P, Z, rl, ok, ?_⟩
  unfold bNot at h
  cases ea : a env with
  | bad => rw [ea] at h; exact h
  | exc x ds e => rw [ea] at h; exact h
  | ok x e1 t1 =>
    simp only [ea, O.bind] at h
    exact fun P1 Z1 H1 p1 => h P1 Z1 H1 p1
theorem tf_ite (h : tf C W (fIte a fa fb) σ H Qv) : tIf (tb C W a) (tf C W fa) (tf C W fb) σ H Qv := by
  obtain ⟨env, P, Z, rl, ok, h⟩ := h
  refine ⟨env, P, Z, rl, ok, ?_⟩
  unfold fIte at h
  cases ea : a env with
  | bad => rw [ea] at h; exact h
  | exc x ds e => rw [ea] at h; exact h
  | ok x e1 t1 =>
    simp only [ea, O.bind] at h
    intro P1 Z1 H1 p1
    cases x with
    | true =>
      simp only [if_true] at h ⊢
      refine ⟨e1, P1, Z1, p1.rl, p1.ch.ok, ?_⟩
      cases eb : fa e1 with
      | bad => simp only [eb] at h
      | exc x ds e => simp only [eb] at h; exact fun cls dd P' Px Z' H' q => h cls dd P' Px Z' H' (q.up0 p1.ch)
      | ok y e2 t2 => simp only [eb] at h; exact fun v P2 Pv2 Z2 H2 p2 => h v P2 Pv2 Z2 H2 (p1.seqE p2)
    | false =>
      simp only [Bool.false_eq_true, if_false] at h ⊢
      refine ⟨e1, P1, Z1, p1.rl, p1.ch.ok, ?_⟩
      cases eb : fb e1 with
      | bad => simp only [eb] at h
      | exc x ds e => simp only [eb] at h; exact fun cls dd P' Px Z' H' q => h cls dd P' Px Z' H' (q.up0 p1.ch)
      | ok y e2 t2 => simp only [eb] at h; exact fun v P2 Pv2 Z2 H2 p2 => h v P2 Pv2 Z2 H2 (p1.seqE p2)
/-- a truth value put together by and, or, not, as a value -/
theorem resB {P Z : As} {env e1 : Env} {t1 : Bool} {P1 Z1 : As} {H1 : Hp} {x : Bool} (p1 : PB' C σ P Z H env e1 t1 P1 Z1 H1) : PE' C σ P Z H env (.val (.bl x)) e1 t1 (.bl x) P1 emp Z1 H1 :=
  ⟨p1.rl, rfl, fun _ _ z => z.elim, by rw [uni_emp]; exact p1.ch, p1.pu⟩
theorem tf_not (h : tf C W (fB (bNot (bVal fa))) σ H Qv) : tNotV (tf C W fa) σ H Qv := by
  obtain ⟨env, P, Z, rl, ok, h⟩ := h
  refine ⟨env, P, Z, rl, ok, ?_⟩
  unfold fB bNot bVal at h
  cases ea : fa env with
  | bad => rw [ea] at h; exact h
  | exc x ds e => rw [ea] at h; exact h
  | ok r e1 t1 =>
    simp only [ea, O.bind] at h
    intro v P1 Pv1 Z1 H1 p1
    cases ed : rdR e1 r with
    | none => simp only [ed] at h
    | some d =>
      cases d <;> simp only [ed] at h
      obtain ⟨Pd, _, rp⟩ := read p1.res p1.rl ed
      exact ⟨_, rp, h _ P1 emp Z1 H1 (resB ⟨p1.rl, p1.ch.sub fun _ x => .inl x, p1.pu⟩)⟩
theorem tf_and (h : tf C W (fB (bAnd (bVal fa) (bVal fb))) σ H Qv) : tAndV (tf C W fa) (tf C W fb) σ H Qv := by
  obtain ⟨env, P, Z, rl, ok, h⟩ := h
  refine ⟨env, P, Z, rl, ok, ?_⟩
  unfold fB bAnd bVal at h
  cases ea : fa env with
  | bad => rw [ea] at h; exact h
  | exc x ds e => rw [ea] at h; exact h
  | ok r e1 t1 =>
    simp only [ea, O.bind] at h
    intro v P1 Pv1 Z1 H1 p1
    cases ed : rdR e1 r with
    | none => simp only [ed] at h
    | some d =>
      cases d <;> simp only [ed] at h
      rename_i x
      obtain ⟨Pd, _, rp⟩ := read p1.res p1.rl ed
      refine ⟨x, rp, ?_⟩
      have pb : PB' C σ P Z H env e1 t1 P1 Z1 H1 := ⟨p1.rl, p1.ch.sub fun _ x => .inl x, p1.pu⟩
      cases x with
      | false =>
        simp only [Bool.false_eq_true, if_false] at h ⊢
        exact h _ P1 emp Z1 H1 (resB pb)
      | true =>
        simp only [if_true] at h ⊢
        refine ⟨e1, P1, Z1, p1.rl, p1.ch.okP, ?_⟩
        cases eb : fb e1 with
        | bad => simp only [eb] at h
        | exc x ds e => simp only [eb] at h; exact fun cls dd P' Px Z' H' q => h cls dd P' Px Z' H' (q.up0 pb.ch)
        | ok rb e2 t2 =>
          simp only [eb] at h
          intro v2 P2 Pv2 Z2 H2 p2
          cases ed2 : rdR e2 rb with
          | none => simp only [ed2] at h
          | some d =>
            cases d <;> simp only [ed2] at h
            obtain ⟨Pd, _, rp⟩ := read p2.res p2.rl ed2
            rw [show v2 = _ from rp]
            exact h _ P2 emp Z2 H2 (resB (pb.seq ⟨p2.rl, p2.ch.sub fun _ x => .inl x, p2.pu⟩))
theorem tf_or (h : tf C W (fB (bOr (bVal fa) (bVal fb))) σ H Qv) : tOrV (tf C W fa) (tf C W fb) σ H Qv := by
  obtain ⟨env, P, Z, rl, ok, h⟩ := h
  refine ⟨env, P, Z, rl, ok, ?_⟩
  unfold fB bOr bVal at h
  cases ea : fa env with
  | bad => rw [ea] at h; exact h
  | exc x ds e => rw [ea] at h; exact h
  | ok r e1 t1 =>
    simp only [ea, O.bind] at h
    intro v P1 Pv1 Z1 H1 p1
    cases ed : rdR e1 r with
    | none => simp only [ed] at h
    | some d =>
      cases d <;> simp only [ed] at h
      rename_i x
      obtain ⟨Pd, _, rp⟩ := read p1.res p1.rl ed
      refine ⟨x, rp, ?_⟩
      have pb : PB' C σ P Z H env e1 t1 P1 Z1 H1 := ⟨p1.rl, p1.ch.sub fun _ x => .inl x, p1.pu⟩
      cases x with
      | true =>
        simp only [if_true] at h ⊢
        exact h _ P1 emp Z1 H1 (resB pb)
      | false =>
        simp only [Bool.false_eq_true, if_false] at h ⊢
        refine ⟨e1, P1, Z1, p1.rl, p1.ch.okP, ?_⟩
        cases eb : fb e1 with
        | bad => simp only [eb] at h
        | exc x ds e => simp only [eb] at h; exact fun cls dd P' Px Z' H' q => h cls dd P' Px Z' H' (q.up0 pb.ch)
        | ok rb e2 t2 =>
          simp only [eb] at h
          intro v2 P2 Pv2 Z2 H2 p2
          cases ed2 : rdR e2 rb with
          | none => simp only [ed2] at h
          | some d =>
            cases d <;> simp only [ed2] at h
            obtain ⟨Pd, _, rp⟩ := read p2.res p2.rl ed2
            rw [show v2 = _ from rp]
            exact h _ P2 emp Z2 H2 (resB (pb.seq ⟨p2.rl, p2.ch.sub fun _ x => .inl x, p2.pu⟩))
end
section
variable {X : Cx} {C : Ct} {W : WX} {fa fb : SE} {a b : Expr} {rest : List Expr} {pos : Pos} {ba bb : SB}
theorem t_val (h : PE X a (tf C W fa)) (he : ∀ whole, isTrue a X.env whole = (do let v ← whole; standAt a.pos; holding [v] (truthy v)) := by intro _; rfl) : PT X a (tb C W (bVal fa)) :=
  pt_imp (pt_val h he) fun _ _ _ h => tb_val h
theorem t_cmp {op : CmpOp} {r : R2} {g : D → D → Option D} (ho : OpR X (compareOp op) r) (o : Op2 C r g) (ha : PE X a (tf C W fa)) (hb : PE X b (tf C W fb)) (hm : behindInMarks op b = false) : PT X (.Compare a [op] [b] pos) (tb C W (bVal (fTwo fa fb g))) :=
  pt_imp (pt_cmpR ho ha hb hm) fun σ H Q h => tf_two (Q := fun x H' => ∃ k, x = .bl k ∧ Q k H') o (tb_val h)
theorem w_and1 (ha : PT X a (tb C W ba)) : PW X (.BoolOp .And [a] pos) (tb C W ba) := pw_and1 ha
theorem w_or1 (ha : PT X a (tb C W ba)) : PW X (.BoolOp .Or [a] pos) (tb C W ba) := pw_or1 ha
theorem w_and (ha : PT X a (tb C W ba)) (hb : PW X (.BoolOp .And (b :: rest) pos) (tb C W bb)) : PW X (.BoolOp .And (a :: b :: rest) pos) (tb C W (bAnd ba bb)) := pw_imp (pw_and ha hb) fun _ _ _ h => tb_and h
theorem w_or (ha : PT X a (tb C W ba)) (hb : PW X (.BoolOp .Or (b :: rest) pos) (tb C W bb)) : PW X (.BoolOp .Or (a :: b :: rest) pos) (tb C W (bOr ba bb)) := pw_imp (pw_or ha hb) fun _ _ _ h => tb_or h
theorem t_not (ha : PT X a (tb C W ba)) : PT X (.UnaryOp .Not a pos) (tb C W (bNot ba)) := pt_imp (pt_not ha) fun _ _ _ h => tb_not h
theorem e_one {op} (h : PE X a (tf C W fa)) : PE X (.BoolOp op [a] pos) (tf C W fa) := pe_one h
theorem e_and (ha : PE X a (tf C W fa)) (hb : PE X (.BoolOp .And (b :: rest) pos) (tf C W fb)) : PE X (.BoolOp .And (a :: b :: rest) pos) (tf C W (fB (bAnd (bVal fa) (bVal fb)))) := pe_imp (pe_and ha hb) fun _ _ _ h => tf_and h
theorem e_or (ha : PE X a (tf C W fa)) (hb : PE X (.BoolOp .Or (b :: rest) pos) (tf C W fb)) : PE X (.BoolOp .Or (a :: b :: rest) pos) (tf C W (fB (bOr (bVal fa) (bVal fb)))) := pe_imp (pe_or ha hb) fun _ _ _ h => tf_or h
theorem e_not (ha : PE X a (tf C W fa)) : PE X (.UnaryOp .Not a pos) (tf C W (fB (bNot (bVal fa)))) := pe_imp (pe_not ha) fun _ _ _ h => tf_not h
theorem e_ite {c : Expr} (hc : PT X c (tb C W ba)) (ha : PE X a (tf C W fa)) (hb : PE X b (tf C W fb)) : PE X (.IfExp c a b pos) (tf C W (fIte ba fa fb)) := pe_imp (pe_ifExp hc ha hb) fun _ _ _ h => tf_ite h
end

/-! ### statements -/
inductive Fl where
  | nx | rt (d : D) | bk | ct
abbrev SS := Env → O Fl
section
variable (C : Ct) (fx : Nat → Bool) (σ : L2.St) (P Z : As) (H : Hp)
structure Fix (σ' : L2.St) : Prop where
  len : σ'.length = σ.length
  at_ : ∀ i, fx i = true → σ'[i]? = σ[i]?
structure PS' (env' : Env) (σ' : L2.St) (P' Z' : As) (H' : Hp) : Prop where
  rl : RepL C H' Z' env' σ' P'
  ch : Ch P Z H P' Z' H'
  fix : Fix fx σ σ'
structure PR' (d : D) (env' : Env) (v : V) (σ' : L2.St) (P' Pv Z' : As) (H' : Hp) : Prop where
  rl : RepL C H' Z' env' σ' P'
  res : Rep C H' Z' d v Pv
  dj : Dis P' Pv
  ch : Ch P Z H (uni P' Pv) Z' H'
  fix : Fix fx σ σ'
structure PXS' (x : Nat) (ds : List D) (env' : Env) (cls : Value) (dd : Option Addr) (σ' : L2.St) (P' Px Z' : As) (H' : Hp) : Prop where
  rl : RepL C H' Z' env' σ' P'
  res : XAt C H' Z' x ds cls dd Px
  dj : Dis P' Px
  ch : Ch P Z H (uni P' Px) Z' H'
  fix : Fix fx σ σ'
end
/-- what is to be shown behind an answer -/
def aft (C : Ct) (fx : Nat → Bool) (W : WX) (D : Ends) (σ : L2.St) (P Z : As) (H : Hp) : O Fl → Prop
  | .ok .nx e _ => ∀ σ' P' Z' H', PS' C fx σ P Z H e σ' P' Z' H' → D.nx σ' H'
  | .ok (.rt d) e _ => ∀ v σ' P' Pv Z' H', PR' C fx σ P Z H d e v σ' P' Pv Z' H' → D.rt v H'
  | .ok .bk e _ => ∀ σ' P' Z' H', PS' C fx σ P Z H e σ' P' Z' H' → D.bk σ' H'
  | .ok .ct e _ => ∀ σ' P' Z' H', PS' C fx σ P Z H e σ' P' Z' H' → D.ct σ' H'
  | .exc x ds e => ∀ cls dd σ' P' Px Z' H', PXS' C fx σ P Z H x ds e cls dd σ' P' Px Z' H' → W cls dd σ' H'
  | .bad => False
def ts (C : Ct) (fx : Nat → Bool) (W : WX) (f : SS) : TS := fun D σ H => ∃ env P Z, RepL C H Z env σ P ∧ OkS P Z H ∧ aft C fx W D σ P Z H (f env)
theorem ps_imp {X : Cx} {s : Stmt} {t t' : TS} (h : PS X s t) (i : ∀ D σ H, t' D σ H → t D σ H) : PS X s t' := ⟨fun pins s σ H D I w => h.run pins s σ H D I (i D σ H w)⟩
theorem pss_imp {X : Cx} {s : List Stmt} {t t' : TS} (h : PSs X s t) (i : ∀ D σ H, t' D σ H → t D σ H) : PSs X s t' := ⟨fun pins s σ H D I w => h.run pins s σ H D I (i D σ H w)⟩
section
variable {C : Ct} {fx : Nat → Bool} {W : WX} {D : Ends} {σ σ1 : L2.St} {H H1 : Hp} {P Z P1 Z1 : As} {env e1 : Env}
theorem Fix.refl : Fix fx σ σ := ⟨rfl, fun _ _ => rfl⟩
theorem Fix.tr {σ2 : L2.St} (a : Fix fx σ σ1) (b : Fix fx σ1 σ2) : Fix fx σ σ2 := ⟨b.len.trans a.len, fun i hi => (b.at_ i hi).trans (a.at_ i hi)⟩
theorem Fix.mn {fx' : Nat → Bool} (a : Fix fx' σ σ1) (h : ∀ i, fx i = true → fx' i = true) : Fix fx σ σ1 := ⟨a.len, fun i hi => a.at_ i (h i hi)⟩
/-- behind a first part that changed what is ours -/
theorem aft.up (f1 : Fix fx σ σ1) (c : Ch P Z H P1 Z1 H1) {o : O Fl} (h : aft C fx W D σ P Z H o) : aft C fx W D σ1 P1 Z1 H1 o := by
  have fx2 : ∀ {σ'}, Fix fx σ1 σ' → Fix fx σ σ' := fun z => f1.tr z
  cases o with
  | bad => exact h
  | exc x ds e => exact fun cls dd σ' P' Px Z' H' q => h cls dd σ' P' Px Z' H' ⟨q.rl, q.res, q.dj, c.trans0 q.ch, fx2 q.fix⟩
  | ok a e t =>
    cases a with
    | nx => exact fun σ' P' Z' H' q => h σ' P' Z' H' ⟨q.rl, c.trans0 q.ch, fx2 q.fix⟩
    | bk => exact fun σ' P' Z' H' q => h σ' P' Z' H' ⟨q.rl, c.trans0 q.ch, fx2 q.fix⟩
    | ct => exact fun σ' P' Z' H' q => h σ' P' Z' H' ⟨q.rl, c.trans0 q.ch, fx2 q.fix⟩
    | rt d => exact fun v σ' P' Pv Z' H' q => h v σ' P' Pv Z' H' ⟨q.rl, q.res, q.dj, c.trans0 q.ch, fx2 q.fix⟩
theorem PX'.xs {x : Nat} {ds : List OL.D} {e : Env} {cls : Value} {dd : Option Addr} {P' Px Z' : As} {H' : Hp} (q : PX' C σ P Z H x ds e cls dd P' Px Z' H') : PXS' C fx σ P Z H x ds e cls dd σ P' Px Z' H' := ⟨q.rl, q.res, q.dj, q.ch, Fix.refl⟩
/-- a result taken over: what a place held is gone from there -/
def tkR (env : Env) : R → Option (OL.D × Env)
  | .val d => some (d, env)
  | .plc i p => match eget env i p with
    | some d => if d.mv then none else some (d, eput env i p .mvd)
    | none => none
theorem take {r : R} {v : V} {Pv : As} {d : OL.D} {e' : Env} (res : RepR C σ H Z env P r v Pv) (rl : RepL C H Z env σ P) (dj : Dis P Pv) (h : tkR env r = some (d, e')) :
    ∃ P' Pd, RepL C H Z e' σ P' ∧ Rep C H Z d v Pd ∧ Dis P' Pd ∧ Sub (uni P' Pd) (uni P Pv) := by
  cases r with
  | val d0 =>
    have h' : some (d0, env) = some (d, e') := h
    cases h'
    exact ⟨P, Pv, rl, res, dj, fun _ x => x⟩
  | plc i p =>
    simp only [tkR] at h
    cases e : eget env i p with
    | none => simp [e] at h
    | some d0 =>
      cases m : d0.mv with
      | true => simp [e, m] at h
      | false =>
        simp only [e, m] at h
        have h' : some (d0, eput env i p .mvd) = some (d, e') := by simpa using h
        cases h'
        obtain ⟨P1, sb, rp, up⟩ := place res rl rfl (show rdR env (.plc i p) = some d by simp [rdR, e, m])
        refine ⟨mns P P1, P1, ?_, rp, fun a x y => x.2 y, fun a x => .inl (x.elim (fun z => z.1) (sb a))⟩
        have q := up H Z emp .mvd emp keep_refl OkP.emp (fun _ x => x) (fun _ z => z.elim) trivial fun _ z => z.elim
        rw [uni_emp] at q
        exact q
end

def sNil : SS := fun env => .ok .nx env false
def sThen (a b : SS) : SS := fun env => (a env).bind fun f e t => match f with
  | .nx => b e
  | f => .ok f e t
def sExpr (fa : SE) : SS := fun env => (fa env).bind fun _ e t => .ok .nx e t
def sRet (fa : SE) : SS := fun env => (fa env).bind fun r e t => match tkR e r with
  | some (d, e') => .ok (.rt d) e' t
  | none => .bad
def sIf (c : SB) (a b : SS) : SS := fun env => (c env).bind fun x e _ => if x then a e else b e
def sFl (f : Fl) : SS := fun env => .ok f env false
section
variable {X : Cx} {C : Ct} {fx : Nat → Bool} {W : WX} {fa : SE} {a b : SS} {ba : SB} {e : Expr} {st : Stmt} {rest xs ys : List Stmt} {pos : Pos}
theorem ss_nil : PSs X [] (ts C fx W sNil) := pss_imp pss_nil fun D σ H ⟨env, P, Z, rl, ok, h⟩ => h σ P Z H ⟨rl, Ch.refl ok, Fix.refl⟩
theorem ts_seq {D : Ends} {σ : L2.St} {H : Hp} (h : ts C fx W (sThen a b) D σ H) : tSeq (ts C fx W a) (ts C fx W b) D σ H := by
  obtain ⟨env, P, Z, rl, ok, h⟩ := h
  refine ⟨env, P, Z, rl, ok, ?_⟩
  unfold sThen at h
  cases ea : a env with
  | bad => rw [ea] at h; exact h
  | exc x ds e => rw [ea] at h; exact h
  | ok f e t =>
    simp only [ea, O.bind] at h
    cases f with
    | nx => exact fun σ' P' Z' H' q => ⟨e, P', Z', q.rl, q.ch.ok, aft.up q.fix q.ch h⟩
    | bk => exact h
    | ct => exact h
    | rt d => exact h
theorem ss_cons (h1 : PS X st (ts C fx W a)) (h2 : PSs X rest (ts C fx W b)) : PSs X (st :: rest) (ts C fx W (sThen a b)) := pss_imp (pss_cons h1 h2) fun _ _ _ h => ts_seq h
theorem ss_one (h1 : PS X st (ts C fx W a)) : PSs X [st] (ts C fx W a) := pss_one h1
theorem s_expr (he : PE X e (tf C W fa)) (hs : swapsWith e none pos.line X.env = pure false := by rfl) : PS X (.Expr e pos) (ts C fx W (sExpr fa)) :=
  ps_imp (ps_expr he hs) fun D σ H h => by
    obtain ⟨env, P, Z, rl, ok, h⟩ := h
    refine ⟨env, P, Z, rl, ok, ?_⟩
    unfold sExpr at h
    cases ea : fa env with
    | bad => rw [ea] at h; exact h
    | exc x ds e => rw [ea] at h; exact fun cls dd P' Px Z' H' q => h cls dd σ P' Px Z' H' q.xs
    | ok f e t =>
      simp only [ea, O.bind] at h
      exact fun v P' Pv Z' H' q => h σ P' Z' H' ⟨q.rl, q.ch.sub fun _ x => .inl x, Fix.refl⟩
theorem s_ret (he : PE X e (tf C W fa)) : PS X (.Return (some e) pos) (ts C fx W (sRet fa)) :=
  ps_imp (ps_ret he) fun D σ H h => by
    obtain ⟨env, P, Z, rl, ok, h⟩ := h
    refine ⟨env, P, Z, rl, ok, ?_⟩
    unfold sRet at h
    cases ea : fa env with
    | bad => rw [ea] at h; exact h
    | exc x ds e => rw [ea] at h; exact fun cls dd P' Px Z' H' q => h cls dd σ P' Px Z' H' q.xs
    | ok r e t =>
      simp only [ea, O.bind] at h
      intro v P' Pv Z' H' q
      cases et : tkR e r with
      | none => simp only [et] at h; exact h.elim
      | some de =>
        obtain ⟨d, e'⟩ := de
        simp only [et] at h
        obtain ⟨P2, Pd, rl2, rp, dj, sb⟩ := take q.res q.rl q.dj et
        exact h v σ P2 Pd Z' H' ⟨rl2, rp, dj, q.ch.sub sb, Fix.refl⟩
theorem s_retN : PS X (.Return none pos) (ts C fx W (sFl (.rt .non))) := ps_imp ps_retN fun D σ H ⟨env, P, Z, rl, ok, h⟩ => h .non σ P emp Z H ⟨rl, rfl, fun _ _ z => z.elim, by rw [uni_emp]; exact Ch.refl ok, Fix.refl⟩
theorem s_pass : PS X (.Pass pos) (ts C fx W sNil) := ps_imp ps_pass fun D σ H ⟨env, P, Z, rl, ok, h⟩ => h σ P Z H ⟨rl, Ch.refl ok, Fix.refl⟩
theorem s_break : PS X (.Break pos) (ts C fx W (sFl .bk)) := ps_imp ps_break fun D σ H ⟨env, P, Z, rl, ok, h⟩ => h σ P Z H ⟨rl, Ch.refl ok, Fix.refl⟩
theorem s_cont : PS X (.Continue pos) (ts C fx W (sFl .ct)) := ps_imp ps_continue fun D σ H ⟨env, P, Z, rl, ok, h⟩ => h σ P Z H ⟨rl, Ch.refl ok, Fix.refl⟩
theorem s_if {c : Expr} (hc : PT X c (tb C W ba)) (ha : PSs X xs (ts C fx W a)) (hb : PSs X ys (ts C fx W b)) : PS X (.If c xs ys pos) (ts C fx W (sIf ba a b)) :=
  ps_imp (ps_if hc ha hb) fun D σ H h => by
    obtain ⟨env, P, Z, rl, ok, h⟩ := h
    refine ⟨env, P, Z, rl, ok, ?_⟩
    unfold sIf at h
    cases ea : ba env with
    | bad => rw [ea] at h; exact h
    | exc x ds e => rw [ea] at h; exact fun cls dd P' Px Z' H' q => h cls dd σ P' Px Z' H' q.xs
    | ok x e t =>
      simp only [ea, O.bind] at h
      intro P' Z' H' q
      cases x with
      | true =>
        simp only [if_true] at h ⊢
        exact ⟨e, P', Z', q.rl, q.ch.ok, aft.up Fix.refl q.ch h⟩
      | false =>
        simp only [Bool.false_eq_true, if_false] at h ⊢
        exact ⟨e, P', Z', q.rl, q.ch.ok, aft.up Fix.refl q.ch h⟩
end

/-! ### targets: names, tuples of targets -/
abbrev GT := D → Env → Option Env
def gtName (i : Nat) : GT := fun d env => if i < env.length then some (env.set i d) else none
def gtAll : List GT → List D → Env → Option Env
  | [], [], env => some env
  | g :: gs, d :: ds, env => (g d env).bind (gtAll gs ds)
  | _, _, _ => none
def gtTup (gs : List GT) : GT := fun d env => match d with
  | .tup ds => gtAll gs ds env
  | _ => none
section
variable (C : Ct) (fx : Nat → Bool)
def tg (g : GT) : TG := fun v σ H Q => ∃ d env P Pv Z env', RepL C H Z env σ P ∧ Rep C H Z d v Pv ∧ Dis P Pv ∧ g d env = some env' ∧ ∀ σ' P', RepL C H Z env' σ' P' → Sub P' (uni P Pv) → Fix fx σ σ' → Q σ' H
def tgs (gs : List GT) : TGs := fun vs σ H Q => ∃ ds env P Pv Z env', RepL C H Z env σ P ∧ RepL C H Z ds (vs.map some) Pv ∧ Dis P Pv ∧ gtAll gs ds env = some env' ∧ ∀ σ' P', RepL C H Z env' σ' P' → Sub P' (uni P Pv) → Fix fx σ σ' → Q σ' H
end
theorem pg_imp {X : Cx} {e : Expr} {t t' : TG} (h : PG X e t) (i : ∀ v σ H Q, t' v σ H Q → t v σ H Q) : PG X e t' := ⟨fun pins s σ H v u Q I r w => h.run pins s σ H v u Q I r (i v σ H Q w)⟩
theorem pgs_imp {X : Cx} {e : List Expr} {t t' : TGs} (h : PGs X e t) (i : ∀ v σ H Q, t' v σ H Q → t v σ H Q) : PGs X e t' := ⟨fun pins s σ H v u Q I r w => h.run pins s σ H v u Q I r (i v σ H Q w)⟩
section
variable {X : Cx} {C : Ct} {fx : Nat → Bool} {pos : Pos}
theorem g_name {i : Nat} {x : Str} (hN : X.N.Nodup) (hi : X.N[i]? = some x) (hx : Loc X.env.scope x) (hfx : fx i = false := by rfl) (hf : X.fn x = true ∨ X.env.scope.names.lookup x = some .local := by first | exact .inl rfl | exact .inr rfl | assumption) : PG X (.Name x pos) (tg C fx (gtName i)) :=
  pg_imp (pg_name hN hi hx hf) fun v σ H Q ⟨d, env, P, Pv, Z, env', rl, rp, dj, g, k⟩ => by
    unfold gtName at g
    by_cases hl : i < env.length
    · rw [if_pos hl] at g
      cases g
      refine k _ _ (repL_put rl hl rp fun a x y => dj a y x) (fun a x => x) ⟨by rw [List.length_set], fun j hj => ?_⟩
      rw [List.getElem?_set_ne]
      intro e
      subst e
      rw [hfx] at hj; cases hj
    · rw [if_neg hl] at g; cases g
theorem gs_nil : PGs X [] (tgs C fx []) := pgs_imp pgs_nil fun vs σ H Q ⟨ds, env, P, Pv, Z, env', rl, rp, dj, g, k⟩ => by
  cases ds with
  | cons d ds => cases g
  | nil =>
    cases g
    exact ⟨by simpa using (show vs.map some = [] from rp), k σ P rl (fun a x => .inl x) Fix.refl⟩
theorem gs_cons {e : Expr} {es : List Expr} {g : GT} {gs : List GT} (h1 : PG X e (tg C fx g)) (h2 : PGs X es (tgs C fx gs)) (hs : (assignEach (e :: es) X.env).map (·.2) = assign e X.env :: (assignEach es X.env).map (·.2) := by rfl) : PGs X (e :: es) (tgs C fx (g :: gs)) :=
  pgs_imp (pgs_cons h1 h2 hs) fun vs σ H Q ⟨ds, env, P, Pv, Z, env', rl, rp, dj, hg, k⟩ => by
    cases ds with
    | nil => cases hg
    | cons d ds =>
      obtain ⟨o, os', P1, P2, ev, hd, rr, s⟩ := rp
      cases vs with
      | nil => cases ev
      | cons v ws =>
        have ev' : some v = o ∧ ws.map some = os' := by
          have := List.cons.inj ev
          exact this
        obtain ⟨e1, e2⟩ := ev'
        subst e1 e2
        obtain ⟨env1, g1, g2⟩ := Option.bind_eq_some_iff.mp (show (g d env).bind (gtAll gs ds) = some env' from hg)
        have rd : Rep C H Z d v P1 := by
          rcases hd with hd | ⟨w, ew, hd⟩
          · subst hd; trivial
          · cases ew; exact hd
        refine ⟨v, ws, rfl, d, env, P, P1, Z, env1, rl, rd, fun a x y => dj a x (s.l a y), g1, fun σ1 Pn rl1 sb1 f1 => ?_⟩
        refine ⟨ds, env1, Pn, P2, Z, env', rl1, rr, fun a x y => ?_, g2, fun σ2 Pm rl2 sb2 f2 => k σ2 Pm rl2 (fun a x => ?_) (f1.tr f2)⟩
        · rcases sb1 a x with z | z
          · exact dj a z (s.r a y)
          · exact s.d a z y
        · rcases sb2 a x with z | z
          · exact (sb1 a z).imp id (s.l a)
          · exact .inr (s.r a z)
theorem g_tup {es : List Expr} {k : Nat} {gs : List GT} {n : Nat} (hc : X.calm = true) (hK : X.K = C.K) (h : PGs X es (tgs C fx gs)) (hn : gs.length = n := by rfl) (hn2 : (assignEach es X.env).length = n := by rfl) (hst : (assignEach es X.env).findIdx? (·.1) = none := by rfl) : PG X (.Tuple es k pos) (tg C fx (gtTup gs)) :=
  pg_imp (pg_tup hc h hn2 hst) fun v σ H Q ⟨d, env, P, Pv, Z, env', rl, rp, dj, hg, q⟩ => by
    cases d with
    | tup ds =>
      obtain ⟨a, vs, ev, sq, rr⟩ := rp
      rw [hK]
      have l1 : (vs.map some).length = ds.length := repL_len rr
      have l2 : ∀ (gs : List GT) (ds : List D) (env env' : Env), gtAll gs ds env = some env' → gs.length = ds.length := by
        intro gs
        induction gs with
        | nil => intro ds env env' h; cases ds with
          | nil => rfl
          | cons _ _ => cases h
        | cons g gs ih => intro ds env env' h; cases ds with
          | nil => cases h
          | cons d ds =>
            obtain ⟨e1, _, g2⟩ := Option.bind_eq_some_iff.mp (show (g d env).bind (gtAll gs ds) = some env' from h)
            rw [List.length_cons, List.length_cons, ih ds e1 env' g2]
      have l3 := l2 gs ds env env' hg
      refine ⟨a, vs, ev, sq, ?_, ds, env, P, Pv, Z, env', rl, rr, dj, hg, q⟩
      rw [← hn, l3, ← l1, List.length_map]
    | _ => cases hg
end

/-! ### storing -/
def sAsg (fa : SE) (g : GT) : SS := fun env => (fa env).bind fun r e t => match (tkR e r).bind fun de => g de.1 de.2 with
  | some e' => .ok .nx e' t
  | none => .bad
section
variable {X : Cx} {C : Ct} {fx : Nat → Bool} {W : WX} {fa : SE} {g : GT} {e : Expr} {pos : Pos}
theorem ts_asg {D : Ends} {σ : L2.St} {H : Hp} (h : ts C fx W (sAsg fa g) D σ H) : tAsg (tf C W fa) (tg C fx g) D σ H := by
  obtain ⟨env, P, Z, rl, ok, h⟩ := h
  refine ⟨env, P, Z, rl, ok, ?_⟩
  unfold sAsg at h
  cases ea : fa env with
  | bad => rw [ea] at h; exact h
  | exc x ds e => rw [ea] at h; exact fun cls dd P' Px Z' H' q => h cls dd σ P' Px Z' H' q.xs
  | ok r e t =>
    simp only [ea, O.bind] at h
    intro v P' Pv Z' H' q
    cases et : (tkR e r).bind fun de => g de.1 de.2 with
    | none => simp only [et] at h; exact h.elim
    | some e' =>
      simp only [et] at h
      obtain ⟨⟨d, e1⟩, et1, eg⟩ := Option.bind_eq_some_iff.mp et
      obtain ⟨P2, Pd, rl2, rp, dj, sb⟩ := take q.res q.rl q.dj et1
      refine ⟨d, e1, P2, Pd, Z', e', rl2, rp, dj, eg, fun σ' P3 rl3 sb3 f3 => h σ' P3 Z' H' ⟨rl3, q.ch.sub fun a x => sb a (sb3 a x), f3⟩⟩
theorem s_set {i : Nat} {x : Str} {pos' : Pos} (hN : X.N.Nodup) (hi : X.N[i]? = some x) (hx : Loc X.env.scope x) (he : PE X e (tf C W fa)) (hfx : fx i = false := by rfl) (hs : swapsWith e (some (.Name x pos')) pos.line X.env = pure false := by rfl)
    (hf : X.fn x = true ∨ X.env.scope.names.lookup x = some .local := by first | exact .inl rfl | exact .inr rfl | assumption) : PS X (.Assign [.Name x pos'] e pos) (ts C fx W (sAsg fa (gtName i))) :=
  ps_imp (ps_set hN hi hx he hs hf) fun D σ H h => by
    obtain ⟨env, P, Z, rl, ok, h2⟩ := ts_asg h
    refine ⟨env, P, Z, rl, ok, ?_⟩
    cases ea : fa env with
    | bad => rw [ea] at h2; exact h2
    | exc x ds e => rw [ea] at h2; exact h2
    | ok r e t =>
      rw [ea] at h2
      intro v P' Pv Z' H' q
      obtain ⟨d, env, P, Pv, Z, env', rl, rp, dj, g, k⟩ := h2 v P' Pv Z' H' q
      unfold gtName at g
      by_cases hl : i < env.length
      · rw [if_pos hl] at g
        cases g
        refine k _ _ (repL_put rl hl rp fun a x y => dj a y x) (fun a x => x) ⟨by rw [List.length_set], fun j hj => ?_⟩
        rw [List.getElem?_set_ne]
        intro e
        subst e
        rw [hfx] at hj; cases hj
      · rw [if_neg hl] at g; cases g
theorem s_asg {tgx : Expr} (he : PE X e (tf C W fa)) (hg : PG X tgx (tg C fx g)) (hs : swapsWithSole [tgx] e pos.line X.env = pure false := by rfl) (hw : swappedStores [tgx] e X.env = pure none := by rfl) (h1 : (assignEach [tgx] X.env).map (·.2) = [assign tgx X.env] := by rfl) : PS X (.Assign [tgx] e pos) (ts C fx W (sAsg fa g)) :=
  ps_imp (ps_asg he hg hs hw h1) fun _ _ _ h => ts_asg h
end
end OL

/-! The O layer, 5: loops, list comprehensions. -/
namespace OL
open PySem PySem.Spec PyProof.Rows L2

/-- what is walked gives the items its, one by one; hold: what it holds of the heap before turn i -/
structure IterD (C : Ct) (J : It) (its : List D) (hold : Nat → Hp → As → As → Prop) : Prop where
  keep : ∀ {i H Z P Q H' Z'}, hold i H Z P → Keep Q H H' → OkP Q Z H → Dis Q P → Sub Z Z' → hold i H' Z' P
  stop : ∀ {H Z P}, hold its.length H Z P → J.stop its.length H
  go : ∀ {i H Z P}, i < its.length → hold i H Z P → J.go i H
  yld : ∀ {i H Z P x H' d}, its[i]? = some d → hold i H Z P → OkP P Z H → J.yld i H x H' → ∃ Px P', Keep emp H H' ∧ Rep C H' Z d x Px ∧ hold (i + 1) H' Z P' ∧ Dis Px P' ∧ (∀ a, uni Px P' a → P a ∨ H a = none) ∧ OkP (uni Px P') Z H'
/-- its items; the slot that is lent to the loop, and what stands there -/
abbrev SI := Env → O (List D × Option (Nat × D))
def ti (C : Ct) (W : WX) (f : SI) : TI := fun σ H R => ∃ env P Z, RepL C H Z env σ P ∧ OkS P Z H ∧ match f env with
  | .ok (its, lk) env' t => ∀ J hold P' Pi Z' H', IterD C J its hold → hold 0 H' Z' Pi → RepL C H' Z' env' σ P' → Dis P' Pi → Ch P Z H (uni P' Pi) Z' H' → (t = false → env' = env ∧ lk = none ∧ P' = P ∧ Keep emp H H') →
      (∀ i d, lk = some (i, d) → ∃ v, σ[i]? = some (some v) ∧ ∀ k H Z P, hold k H Z P → Rep C H Z d v P) → R J H'
  | .exc x ds env' => ∀ cls dd P' Px Z' H', PX' C σ P Z H x ds env' cls dd P' Px Z' H' → W cls dd σ H'
  | .bad => False
theorem pi_imp {X : Cx} {tg it : Expr} {t t' : TI} (h : PI X tg it t) (i : ∀ σ H R, t' σ H R → t σ H R) : PI X tg it t' := ⟨fun pins s σ H R I w => h.run pins s σ H R I (i σ H R w)⟩

/-! ### for -/
def bak : Option (Nat × D) → Env → Env
  | none, e => e
  | some (i, d), e => e.set i d
def O.bk (lk : Option (Nat × D)) : O Fl → O Fl
  | .ok f e t => .ok f (bak lk e) t
  | .exc x ds e => .exc x ds (bak lk e)
  | .bad => .bad
def loopF (g : GT) (b : SS) : List D → Env → O Fl
  | [], e => .ok .nx e true
  | d :: r, e => match g d e with
    | none => .bad
    | some e1 => match b e1 with
      | .ok .nx e2 _ => loopF g b r e2
      | .ok .ct e2 _ => loopF g b r e2
      | .ok .bk e2 _ => .ok .nx e2 true
      | .ok (.rt d) e2 _ => .ok (.rt d) e2 true
      | .exc x ds e2 => .exc x ds e2
      | .bad => .bad
def lkOk (fx : Nat → Bool) : Option (Nat × D) → Bool
  | none => true
  | some (i, _) => fx i
def sFor (fx' : Nat → Bool) (si : SI) (g : GT) (b : SS) : SS := fun env => (si env).bind fun its e _ => if lkOk fx' its.2 then (loopF g b its.1 e).bk its.2 else .bad
/-- the names of the one, and one more -/
def fxL (fx : Nat → Bool) (l : List Nat) : Nat → Bool := fun i => fx i || l.contains i

section
variable {C : Ct} {fx fx' : Nat → Bool} {W : WX} {D : Ends} {σ σ1 : L2.St} {H H1 : Hp} {P Z P1 Z1 : As} {env e1 : Env}
theorem ts_for {si : SI} {g : GT} {b : SS} (hfx : ∀ i, fx i = true → fx' i = true) (h : ts C fx W (sFor fx' si g b) D σ H) : tFor (ti C W si) (tg C fx' g) (ts C fx' W b) D σ H := by
  obtain ⟨env, P, Z, rl, ok, h⟩ := h
  refine ⟨env, P, Z, rl, ok, ?_⟩
  unfold sFor at h
  cases ea : si env with
  | bad => rw [ea] at h; exact h
  | exc x ds e => rw [ea] at h; exact fun cls dd P' Px Z' H' q => h cls dd σ P' Px Z' H' q.xs
  | ok il e t =>
    obtain ⟨its, lk⟩ := il
    simp only [ea, O.bind] at h
    intro J hold P' Pi Z' H' I0 h0 rl0 dj0 c0 _ lkh
    cases lo : lkOk fx' lk with
    | false => simp [lo] at h; exact h.elim
    | true =>
    simp only [lo, if_true] at h
    have h0' : aft C fx W D σ (uni P' Pi) Z' H' ((loopF g b its e).bk lk) := aft.up Fix.refl c0 h
    -- giving back
    have len : ∀ {H Z e σ P}, RepL C H Z e σ P → e.length = σ.length := fun r => (repL_len r).symm
    have back : ∀ {k H2 Z2 Pi2 e2 σ2 P2}, hold k H2 Z2 Pi2 → RepL C H2 Z2 e2 σ2 P2 → Dis P2 Pi2 → Fix fx' σ σ2 → RepL C H2 Z2 (bak lk e2) σ2 (uni P2 Pi2) := by
      intro k H2 Z2 Pi2 e2 σ2 P2 hh rr dd ff
      cases lk with
      | none => exact repL_mono rr fun a x => .inl x
      | some id =>
        obtain ⟨i, d⟩ := id
        obtain ⟨v, ev, hv⟩ := lkh i d rfl
        have ev2 : σ2[i]? = some (some v) := (ff.at_ i lo).trans ev
        have q := repL_put rr (by rw [len rr]; exact (List.getElem?_eq_some_iff.mp ev2).1) (hv k H2 Z2 Pi2 hh) fun a x y => dd a y x
        rw [set_same_opt ev2] at q
        exact q
    refine ⟨fun i m σ2 H2 => m = its.length - i ∧ i ≤ its.length ∧ ∃ e2 P2 Z2 Pi2, RepL C H2 Z2 e2 σ2 P2 ∧ hold i H2 Z2 Pi2 ∧ Dis P2 Pi2 ∧ OkS (uni P2 Pi2) Z2 H2 ∧ Fix fx' σ σ2 ∧ aft C fx W D σ2 (uni P2 Pi2) Z2 H2 ((loopF g b (its.drop i) e2).bk lk),
      ⟨its.length, by simp, Nat.zero_le _, e, P', Z', Pi, rl0, h0, dj0, c0.ok, Fix.refl, by simpa using h0'⟩, ?_⟩
    rintro i m σ2 H2 ⟨rfl, hi, e2, P2, Z2, Pi2, rl2, hh, dj, okk, ff, af⟩
    by_cases hlt : i < its.length
    · refine .inr ⟨I0.go hlt hh, fun σ' H' => ∃ m', m' < its.length - i ∧ (m' = its.length - (i + 1) ∧ i + 1 ≤ its.length ∧ ∃ e2 P2 Z2 Pi2, RepL C H' Z2 e2 σ' P2 ∧ hold (i + 1) H' Z2 Pi2 ∧ Dis P2 Pi2 ∧ OkS (uni P2 Pi2) Z2 H' ∧ Fix fx' σ σ' ∧ aft C fx W D σ' (uni P2 Pi2) Z2 H' ((loopF g b (its.drop (i + 1)) e2).bk lk)), fun σ' H' x => x, fun x H3 y => ?_⟩
      obtain ⟨Px, Pn, kp, rx, hn, dn, sb, okn⟩ := I0.yld (d := its[i]) (by simp [hlt]) hh (okk.at_.sub fun a x => .inr x) y
      have ed : its.drop i = its[i] :: its.drop (i + 1) := List.drop_eq_getElem_cons hlt
      rw [ed] at af
      have okP2 : OkP P2 Z2 H2 := okk.at_.sub fun a x => .inl x
      have rl3 : RepL C H3 Z2 e2 σ2 P2 := repL_keep rl2 kp OkP.emp (fun _ z => z.elim) fun _ x => x
      have dPx : Dis P2 (uni Px Pn) := fun a x y => by
        rcases sb a y with z | z
        · exact dj a x z
        · obtain ⟨_, o, e, _⟩ := okP2 a x
          rw [z] at e; cases e
      have okU : OkS (uni P2 (uni Px Pn)) Z2 H3 := ⟨fun a x => by
        rcases x with x | x
        · obtain ⟨nz, o, e, w⟩ := okP2 a x
          exact ⟨nz, o, kp a o e fun z => z.elim, w⟩
        · exact okn a x, fun a z e => by
        cases e1 : H2 a with
        | none => exact okk.zt a z e1
        | some o =>
          rw [kp a o e1 fun z => z.elim] at e
          exact absurd e (by simp)⟩
      have cU : Ch (uni P2 Pi2) Z2 H2 (uni P2 (uni Px Pn)) Z2 H3 := ⟨fun a o e _ => kp a o e fun z => z.elim, fun a x => by
        rcases x with x | x
        · exact .inl (.inl x)
        · exact (sb a x).imp .inr id, fun _ x => x, fun _ x => .inl x, okU⟩
      cases eg : g its[i] e2 with
      | none => simp only [loopF, eg] at af; exact af.elim
      | some e3 =>
        refine ⟨its[i], e2, P2, Px, Z2, e3, rl3, rx, fun a x y => dPx a x (.inl y), eg, fun σ3 P3 rl4 sb3 f3 => ?_⟩
        have ok3 : OkS P3 Z2 H3 := okU.sub fun a x => (sb3 a x).imp id .inl
        have d3 : Dis P3 Pn := fun a x y => by
          rcases sb3 a x with z | z
          · exact dPx a z (.inr y)
          · exact dn a z y
        have c3 : Ch (uni P2 Pi2) Z2 H2 (uni P3 Pn) Z2 H3 := cU.sub fun a x => by
          rcases x with x | x
          · exact (sb3 a x).imp id .inl
          · exact .inr (.inr x)
        have f3' : Fix fx' σ σ3 := ff.tr f3
        refine ⟨e3, P3, Z2, rl4, ok3, ?_⟩
        -- the loop's next state from the body's end
        have again : ∀ {e4 : Env} {σ4 : L2.St} {P4 Z4 : As} {H4 : Hp}, PS' C fx' σ3 P3 Z2 H3 e4 σ4 P4 Z4 H4 → aft C fx W D σ2 (uni P2 Pi2) Z2 H2 ((loopF g b (its.drop (i + 1)) e4).bk lk) →
            ∃ m', m' < its.length - i ∧ (m' = its.length - (i + 1) ∧ i + 1 ≤ its.length ∧ ∃ e2 P2 Z2 Pi2, RepL C H4 Z2 e2 σ4 P2 ∧ hold (i + 1) H4 Z2 Pi2 ∧ Dis P2 Pi2 ∧ OkS (uni P2 Pi2) Z2 H4 ∧ Fix fx' σ σ4 ∧ aft C fx W D σ4 (uni P2 Pi2) Z2 H4 ((loopF g b (its.drop (i + 1)) e2).bk lk)) := by
          intro e4 σ4 P4 Z4 H4 q af2
          have c4 := c3.trans d3 q.ch
          have ap := c3.apart d3 q.ch
          refine ⟨_, by omega, rfl, hlt, e4, P4, Z4, Pn, q.rl, I0.keep hn q.ch.keep ok3.at_ d3 q.ch.zle, ap, c4.ok, f3'.tr q.fix, ?_⟩
          exact aft.up ((f3.tr q.fix).mn hfx) c4 af2
        -- what leaves the loop
        have fixb : ∀ {σ4 : L2.St}, Fix fx' σ3 σ4 → Fix fx' σ σ4 ∧ Fix fx σ2 σ4 := fun ff4 => ⟨f3'.tr ff4, (f3.tr ff4).mn hfx⟩
        simp only [loopF, eg] at af
        cases eb : b e3 with
        | bad => simp only [eb] at af; exact af.elim
        | exc x ds e4 =>
          simp only [eb] at af
          intro cls dd σ4 P4 Px4 Z4 H4 q
          have c4 := c3.trans d3 q.ch
          have ap := c3.apart d3 q.ch
          obtain ⟨fa, fb⟩ := fixb q.fix
          have rb := back (I0.keep hn q.ch.keep ok3.at_ d3 q.ch.zle) q.rl (fun a x y => ap a (.inl x) y) fa
          refine af cls dd σ4 _ Px4 Z4 H4 ⟨rb, q.res, fun a x y => ?_, c4.sub fun a x => ?_, fb⟩
          · rcases x with x | x
            · exact q.dj a x y
            · exact ap a (.inr y) x
          · rcases x with (x | x) | x
            · exact .inl (.inl x)
            · exact .inr x
            · exact .inl (.inr x)
        | ok fl e4 t4 =>
          cases fl with
          | nx => simp only [eb] at af; exact fun σ4 P4 Z4 H4 q => again q af
          | ct => simp only [eb] at af; exact fun σ4 P4 Z4 H4 q => again q af
          | bk =>
            simp only [eb] at af
            intro σ4 P4 Z4 H4 q
            have c4 := c3.trans d3 q.ch
            have ap := c3.apart d3 q.ch
            obtain ⟨fa, fb⟩ := fixb q.fix
            exact af σ4 _ Z4 H4 ⟨back (I0.keep hn q.ch.keep ok3.at_ d3 q.ch.zle) q.rl ap fa, c4, fb⟩
          | rt d =>
            simp only [eb] at af
            intro v σ4 P4 Pv4 Z4 H4 q
            have c4 := c3.trans d3 q.ch
            have ap := c3.apart d3 q.ch
            obtain ⟨fa, fb⟩ := fixb q.fix
            have rb := back (I0.keep hn q.ch.keep ok3.at_ d3 q.ch.zle) q.rl (fun a x y => ap a (.inl x) y) fa
            refine af v σ4 _ Pv4 Z4 H4 ⟨rb, q.res, fun a x y => ?_, c4.sub fun a x => ?_, fb⟩
            · rcases x with x | x
              · exact q.dj a x y
              · exact ap a (.inr y) x
            · rcases x with (x | x) | x
              · exact .inl (.inl x)
              · exact .inr x
              · exact .inl (.inr x)
    · have ei : i = its.length := by omega
      subst ei
      refine .inl ⟨I0.stop hh, ?_⟩
      rw [List.drop_length] at af
      have rb := back hh rl2 dj ff
      exact af σ2 (uni P2 Pi2) Z2 H2 ⟨rb, Ch.refl okk, Fix.refl⟩
/-! ### while -/
/-- k turns at most -/
def loopW (c : SB) (b : SS) : Nat → Env → O Fl
  | 0, _ => .bad
  | k + 1, e => match c e with
    | .ok false e1 _ => .ok .nx e1 true
    | .ok true e1 _ => match b e1 with
      | .ok .nx e2 _ => loopW c b k e2
      | .ok .ct e2 _ => loopW c b k e2
      | .ok .bk e2 _ => .ok .nx e2 true
      | .ok (.rt d) e2 _ => .ok (.rt d) e2 true
      | .exc x ds e2 => .exc x ds e2
      | .bad => .bad
    | .exc x ds e1 => .exc x ds e1
    | .bad => .bad
theorem ts_while {c : SB} {b : SS} {k : Nat} (h : ts C fx W (loopW c b k) D σ H) : tWhile (tb C W c) (ts C fx W b) D σ H := by
  obtain ⟨env, P, Z, rl, ok, h⟩ := h
  refine ⟨fun m σ2 H2 => ∃ e2 P2 Z2, RepL C H2 Z2 e2 σ2 P2 ∧ OkS P2 Z2 H2 ∧ aft C fx W D σ2 P2 Z2 H2 (loopW c b m e2), ⟨k, env, P, Z, rl, ok, h⟩, ?_⟩
  rintro m σ2 H2 ⟨e2, P2, Z2, rl2, ok2, af⟩
  refine ⟨e2, P2, Z2, rl2, ok2, ?_⟩
  cases m with
  | zero => exact af.elim
  | succ m =>
    simp only [loopW] at af
    cases ec : c e2 with
    | bad => simp only [ec] at af; exact af
    | exc x ds e => simp only [ec] at af; exact fun cls dd P' Px Z' H' q => af cls dd σ2 P' Px Z' H' q.xs
    | ok x e3 t =>
      intro P3 Z3 H3 q
      cases x with
      | false =>
        simp only [ec] at af
        simp only [Bool.false_eq_true, if_false]
        exact af σ2 P3 Z3 H3 ⟨q.rl, q.ch, Fix.refl⟩
      | true =>
        simp only [ec] at af
        simp only [if_true]
        refine ⟨fun σ' H' => ∃ m', m' < m + 1 ∧ ∃ e2 P2 Z2, RepL C H' Z2 e2 σ' P2 ∧ OkS P2 Z2 H' ∧ aft C fx W D σ' P2 Z2 H' (loopW c b m' e2), fun _ _ x => x, e3, P3, Z3, q.rl, q.ch.ok, ?_⟩
        have af2 := aft.up (σ1 := σ2) Fix.refl q.ch af
        cases eb : b e3 with
        | bad => simp only [eb] at af2; exact af2
        | exc x ds e4 => simp only [eb] at af2; exact af2
        | ok fl e4 t4 =>
          cases fl with
          | nx => simp only [eb] at af2; exact fun σ4 P4 Z4 H4 q4 => ⟨m, Nat.lt_succ_self m, e4, P4, Z4, q4.rl, q4.ch.ok, aft.up q4.fix q4.ch af2⟩
          | ct => simp only [eb] at af2; exact fun σ4 P4 Z4 H4 q4 => ⟨m, Nat.lt_succ_self m, e4, P4, Z4, q4.rl, q4.ch.ok, aft.up q4.fix q4.ch af2⟩
          | bk => simp only [eb] at af2; exact af2
          | rt d => simp only [eb] at af2; exact af2
end
section
variable {X : Cx} {C : Ct} {fx fx' : Nat → Bool} {W : WX} {pos : Pos} {body : List Stmt} {b : SS}
theorem s_for {tgx iter : Expr} {si : SI} {g : GT} (hp : PassesOwn (model X.prog X.w) X.A X.env X.xe) (hc : X.calm = true) (hi : PI X tgx iter (ti C W si)) (hg : PG X tgx (tg C fx' g)) (hb : PSs X body (ts C fx' W b)) (hfx : ∀ i, fx i = true → fx' i = true)
    (hs : ∀ x, foldedSetIterable iter X.env x = pure x := by intro _; rfl) : PS X (.For tgx iter body [] pos) (ts C fx W (sFor fx' si g b)) := ps_imp (ps_for hp hc hi hg hb hs) fun _ _ _ h => ts_for hfx h
theorem s_while {c : Expr} {bc : SB} (k : Nat) (hp : PassesOwn (model X.prog X.w) X.A X.env X.xe) (hc : PT X c (tb C W bc)) (hb : PSs X body (ts C fx W b)) : PS X (.While c body [] pos) (ts C fx W (loopW bc b k)) := ps_imp (ps_while hp hc hb) fun _ _ _ h => ts_while h
end
end OL

/-! The O layer, 6: defs and their calls. -/
namespace OL
open PySem PySem.Spec PyProof.Rows L2

/-! ### arguments lent and given back -/
def tkA : List R → Env → Option (List D × Env)
  | [], e => some ([], e)
  | .val d :: rs, e => (tkA rs e).map fun x => (d :: x.1, x.2)
  | .plc i [] :: rs, e => match e[i]? with
    | some d => if d.mv then none else (tkA rs (e.set i .mvd)).map fun x => (d :: x.1, x.2)
    | none => none
  | .plc _ (_ :: _) :: _, _ => none
def gvA : List R → List D → Env → Env
  | .val _ :: rs, _ :: ds, e => gvA rs ds e
  | .plc i _ :: rs, d :: ds, e => (gvA rs ds e).set i d
  | _, _, e => e
def anyP : List R → Bool
  | [] => false
  | .val _ :: rs => anyP rs
  | .plc _ _ :: _ => true
section
variable {C : Ct} {σ : L2.St} {H : Hp} {Z P : As} {env : Env}
theorem repL_append : ∀ {ds1 ds2 : List D} {os1 os2 : List (Option V)} {P1 P2 P : As}, RepL C H Z ds1 os1 P1 → RepL C H Z ds2 os2 P2 → Sp P1 P2 P → RepL C H Z (ds1 ++ ds2) (os1 ++ os2) P
  | [], ds2, os1, os2, P1, P2, P, h, r, s => by
    rw [show os1 = [] from h]
    exact repL_mono r s.r
  | d :: ds1, ds2, os1, os2, P1, P2, P, ⟨o, os', Pa, Pb, e, h, r1, s1⟩, r, s => by
    subst e
    refine ⟨o, os' ++ os2, Pa, uni Pb P2, rfl, h, repL_append r1 r ⟨fun a x => .inl x, fun a x => .inr x, fun a x y => s.d a (s1.r a x) y⟩, ⟨fun a x => s.l a (s1.l a x), fun a x => x.elim (fun z => s.l a (s1.r a z)) (s.r a), fun a x y => ?_⟩⟩
    rcases y with y | y
    · exact s1.d a x y
    · exact s.d a (s1.l a x) y
def RepA (C : Ct) (σ : L2.St) (H : Hp) (Z : As) : List R → List V → As → Prop
  | [], vs, _ => vs = []
  | .val d :: rs, vs, Q => ∃ v ws P1 P2, vs = v :: ws ∧ Rep C H Z d v P1 ∧ RepA C σ H Z rs ws P2 ∧ Sp P1 P2 Q
  | .plc i [] :: rs, vs, Q => ∃ v ws, vs = v :: ws ∧ σ[i]? = some (some v) ∧ RepA C σ H Z rs ws Q
  | .plc _ (_ :: _) :: _, _, _ => False
theorem repA_mono : ∀ {rs : List R} {vs : List V} {Q Q' : As}, RepA C σ H Z rs vs Q → Sub Q Q' → RepA C σ H Z rs vs Q'
  | [], _, _, _, h, _ => h
  | .val d :: rs, vs, Q, Q', ⟨v, ws, P1, P2, e, r, ra, s⟩, z => ⟨v, ws, P1, P2, e, r, ra, ⟨fun a x => z a (s.l a x), fun a x => z a (s.r a x), s.d⟩⟩
  | .plc i [] :: rs, vs, Q, Q', ⟨v, ws, e, r, ra⟩, z => ⟨v, ws, e, r, repA_mono ra z⟩
theorem tkA_cons {i : Nat} {rs : List R} {e : Env} {x : List D × Env} (h : tkA (.plc i [] :: rs) e = some x) : ∃ d y, e[i]? = some d ∧ d.mv = false ∧ tkA rs (e.set i .mvd) = some y ∧ x = (d :: y.1, y.2) := by
  have h' : (match e[i]? with | some d => if d.mv then none else (tkA rs (e.set i .mvd)).map fun x => (d :: x.1, x.2) | none => none) = some x := h
  cases ee : e[i]? with
  | none => rw [ee] at h'; cases h'
  | some d =>
    rw [ee] at h'
    cases m : d.mv with
    | true => simp [m] at h'
    | false =>
      simp only [m] at h'
      have h2 : (tkA rs (e.set i .mvd)).map (fun x => (d :: x.1, x.2)) = some x := by simpa using h'
      obtain ⟨y, hy, hz⟩ := Option.map_eq_some_iff.mp h2
      exact ⟨d, y, rfl, m, hy, hz.symm⟩
theorem repA_of {P0 : As} {env0 : Env} : ∀ {rs : List R} {vs : List V} {Q : As} {e : Env} {x : List D × Env}, RepRs C σ H Z env0 P0 rs vs Q → tkA rs e = some x → RepA C σ H Z rs vs Q
  | [], _, _, _, _, h, _ => h
  | .val d :: rs, vs, Q, e, x, ⟨v, ws, P1, P2, ev, r, ra, s⟩, h => by
    obtain ⟨y, hy, _⟩ := Option.map_eq_some_iff.mp (show (tkA rs e).map _ = some x from h)
    exact ⟨v, ws, P1, P2, ev, r, repA_of ra hy, s⟩
  | .plc i [] :: rs, vs, Q, e, x, ⟨v, ws, P1, P2, ev, r, ra, s⟩, h => by
    obtain ⟨d, y, _, _, hy, _⟩ := tkA_cons h
    exact ⟨v, ws, ev, r, repA_mono (repA_of ra hy) s.r⟩
  | .plc _ (_ :: _) :: _, _, _, _, _, _, h => by cases h
theorem tkA_ok : ∀ {rs : List R} {vs : List V} {Pv P : As} {env e' : Env} {ds : List D}, RepA C σ H Z rs vs Pv → RepL C H Z env σ P → Dis P Pv → tkA rs env = some (ds, e') →
    ∃ P' Pa, RepL C H Z e' σ P' ∧ RepL C H Z ds (vs.map some) Pa ∧ Dis P' Pa ∧ Sub (uni P' Pa) (uni P Pv)
  | [], vs, Pv, P, env, e', ds, r, rl, dj, h => by
    have h' : some (([] : List D), env) = some (ds, e') := h
    cases h'
    rw [show vs = [] from r]
    exact ⟨P, emp, rl, rfl, fun _ _ z => z.elim, fun a x => x.elim .inl fun z => z.elim⟩
  | .val d :: rs, vs, Pv, P, env, e', ds, ⟨v, ws, P1, P2, ev, r, ra, s⟩, rl, dj, h => by
    subst ev
    obtain ⟨y, hy, hz⟩ := Option.map_eq_some_iff.mp (show (tkA rs env).map _ = some (ds, e') from h)
    cases hz
    obtain ⟨P', Pa, a1, a2, a3, a4⟩ := tkA_ok (ds := y.1) (e' := y.2) ra rl (fun a x z => dj a x (s.r a z)) hy
    have ap1 : Dis P1 (uni P' Pa) := fun a x z => by
      rcases a4 a z with w | w
      · exact dj a w (s.l a x)
      · exact s.d a x w
    refine ⟨P', uni P1 Pa, a1, ⟨some v, ws.map some, P1, Pa, rfl, .inr ⟨v, rfl, r⟩, a2, ⟨fun a x => .inl x, fun a x => .inr x, fun a x z => ap1 a x (.inr z)⟩⟩, fun a x z => ?_, fun a x => ?_⟩
    · rcases z with z | z
      · exact ap1 a z (.inl x)
      · exact a3 a x z
    · rcases x with x | x | x
      · exact (a4 a (.inl x)).imp id (s.r a)
      · exact .inr (s.l a x)
      · exact (a4 a (.inr x)).imp id (s.r a)
  | .plc i [] :: rs, vs, Pv, P, env, e', ds, ⟨v, ws, ev, r, ra⟩, rl, dj, h => by
    subst ev
    obtain ⟨d, y, hd, m, hy, hz⟩ := tkA_cons h
    cases hz
    obtain ⟨v', P1, P2, ev', sp, rd, rl2⟩ := repL_take rl hd (mv_ne m)
    have e : v' = v := Option.some.inj (Option.some.inj (ev'.symm.trans r))
    subst e
    obtain ⟨P', Pa, a1, a2, a3, a4⟩ := tkA_ok (ds := y.1) (e' := y.2) ra rl2 (fun a x z => dj a (sp.r a x) z) hy
    have ap1 : Dis P1 (uni P' Pa) := fun a x z => by
      rcases a4 a z with w | w
      · exact sp.d a x w
      · exact dj a (sp.l a x) w
    refine ⟨P', uni P1 Pa, a1, ⟨some v', ws.map some, P1, Pa, rfl, .inr ⟨v', rfl, rd⟩, a2, ⟨fun a x => .inl x, fun a x => .inr x, fun a x z => ap1 a x (.inr z)⟩⟩, fun a x z => ?_, fun a x => ?_⟩
    · rcases z with z | z
      · exact ap1 a z (.inl x)
      · exact a3 a x z
    · rcases x with x | x | x
      · exact (a4 a (.inl x)).imp (sp.r a) id
      · exact .inl (sp.l a x)
      · exact (a4 a (.inr x)).imp (sp.r a) id
  | .plc _ (_ :: _) :: _, _, _, _, _, _, _, h, _, _, _ => h.elim
/-- the values' places of what is lent -/
def AtA (σ : L2.St) : List R → List V → Prop
  | [], vs => vs = []
  | .val _ :: rs, vs => ∃ v ws, vs = v :: ws ∧ AtA σ rs ws
  | .plc i _ :: rs, vs => ∃ v ws, vs = v :: ws ∧ σ[i]? = some (some v) ∧ AtA σ rs ws
theorem atA_of : ∀ {rs : List R} {vs : List V} {Q : As}, RepA C σ H Z rs vs Q → AtA σ rs vs
  | [], _, _, h => h
  | .val d :: rs, vs, Q, ⟨v, ws, _, _, e, _, ra, _⟩ => ⟨v, ws, e, atA_of ra⟩
  | .plc i [] :: rs, vs, Q, ⟨v, ws, e, r, ra⟩ => ⟨v, ws, e, r, atA_of ra⟩
theorem gvA_ok : ∀ {rs : List R} {vs : List V} {P Pa : As} {e : Env} {ds : List D}, AtA σ rs vs → RepL C H Z e σ P → RepL C H Z ds (vs.map some) Pa → Dis P Pa → RepL C H Z (gvA rs ds e) σ (uni P Pa)
  | [], vs, P, Pa, e, ds, _, rl, _, _ => repL_mono rl fun a x => .inl x
  | r0 :: rs, vs, P, Pa, e, [], h, rl, _, _ => by
    cases r0 <;> exact repL_mono rl fun a x => .inl x
  | .val d0 :: rs, vs, P, Pa, e, d :: ds, ⟨v, ws, ev, ra⟩, rl, ⟨o, os', P1, P2, eo, hd, r2, s⟩, dj => by
    subst ev
    have e2 : ws.map some = os' := (List.cons.inj eo).2
    subst e2
    exact repL_mono (gvA_ok (rs := rs) ra rl r2 fun a x z => dj a x (s.r a z)) fun a x => x.imp id (s.r a)
  | .plc i p :: rs, vs, P, Pa, e, d :: ds, ⟨v, ws, ev, hv, ra⟩, rl, ⟨o, os', P1, P2, eo, hd, r2, s⟩, dj => by
    subst ev
    obtain ⟨e1, e2⟩ := List.cons.inj eo
    subst e1 e2
    have q := gvA_ok (rs := rs) ra rl r2 fun a x z => dj a x (s.r a z)
    have li : i < (gvA rs ds e).length := by
      rw [← repL_len q]
      exact (List.getElem?_eq_some_iff.mp hv).1
    have ss : σ.set i (some v) = σ := set_same_opt hv
    rcases hd with hd | ⟨w, ew, hd⟩
    · subst hd
      have q2 := repL_del (i := i) (o := some v) q
      rw [ss] at q2
      exact repL_mono q2 fun a x => x.imp id (s.r a)
    · cases ew
      have q2 := repL_put q li hd fun a x y => by
        rcases y with y | y
        · exact dj a y (s.l a x)
        · exact s.d a x y
      rw [ss] at q2
      refine repL_mono q2 fun a x => ?_
      rcases x with (x | x) | x
      · exact .inl x
      · exact .inr (s.r a x)
      · exact .inr (s.l a x)
theorem gvA_none : ∀ {rs : List R} {ds : List D} {e : Env}, anyP rs = false → gvA rs ds e = e
  | [], _, _, _ => rfl
  | .val _ :: rs, [], _, _ => rfl
  | .val _ :: rs, d :: ds, e, h => gvA_none (rs := rs) (ds := ds) (e := e) h
theorem tkA_none : ∀ {rs : List R} {e : Env} {x : List D × Env}, anyP rs = false → tkA rs e = some x → x.2 = e
  | [], e, x, _, h => by
    have h' : some (([] : List D), e) = some x := h
    cases h'; rfl
  | .val d :: rs, e, x, h, hx => by
    obtain ⟨y, hy, hz⟩ := Option.map_eq_some_iff.mp (show (tkA rs e).map _ = some x from hx)
    subst hz
    show y.2 = e
    exact tkA_none (rs := rs) h hy
theorem repA_val : ∀ {rs : List R} {vs : List V} {Q : As} {e : Env} {x : List D × Env}, anyP rs = false → RepA C σ H Z rs vs Q → tkA rs e = some x → RepL C H Z x.1 (vs.map some) Q
  | [], vs, Q, e, x, _, r, h => by
    have h' : some (([] : List D), e) = some x := h
    cases h'
    rw [show vs = [] from r]
    exact rfl
  | .val d :: rs, vs, Q, e, x, h, ⟨v, ws, P1, P2, ev, r, ra, s⟩, hx => by
    obtain ⟨y, hy, hz⟩ := Option.map_eq_some_iff.mp (show (tkA rs e).map _ = some x from hx)
    subst hz ev
    exact ⟨some v, ws.map some, P1, P2, rfl, .inr ⟨v, rfl, r⟩, repA_val (rs := rs) h ra hy, s⟩
theorem repL_split : ∀ {ds1 : List D} {ds2 : List D} {os1 os2 : List (Option V)} {P : As}, ds1.length = os1.length → RepL C H Z (ds1 ++ ds2) (os1 ++ os2) P → ∃ P1 P2, RepL C H Z ds1 os1 P1 ∧ RepL C H Z ds2 os2 P2 ∧ Sp P1 P2 P
  | [], ds2, os1, os2, P, h, r => by
    cases os1 with
    | nil => exact ⟨emp, P, rfl, r, ⟨fun _ z => z.elim, fun _ z => z, fun _ z => z.elim⟩⟩
    | cons _ _ => cases h
  | d :: ds1, ds2, os1, os2, P, h, ⟨o, os', Pa, Pb, e, hd, r, s⟩ => by
    cases os1 with
    | nil => cases h
    | cons o1 os1 =>
      obtain ⟨e1, e2⟩ := List.cons.inj e
      subst e1 e2
      obtain ⟨P1, P2, r1, r2, s2⟩ := repL_split (by simpa using h) r
      exact ⟨uni Pa P1, P2, ⟨o1, os1, Pa, P1, rfl, hd, r1, ⟨fun _ x => .inl x, fun _ x => .inr x, fun a x y => s.d a x (s2.l a y)⟩⟩, r2, ⟨fun a x => x.elim (s.l a) fun z => s.r a (s2.l a z), fun a x => s.r a (s2.r a x), fun a x y => by
        rcases x with x | x
        · exact s.d a x (s2.r a y)
        · exact s2.d a x y⟩⟩
theorem giv {rs : List R} {vs : List V} {os2 : List (Option V)} {P2 P' : As} {e2 : Env} {ds' : List D} (at1 : AtA σ rs vs) (rl3 : RepL C H Z e2 σ P2) (rl' : RepL C H Z ds' (vs.map some ++ os2) P') (dj : Dis P2 P') : RepL C H Z (gvA rs ds' e2) σ (uni P2 P') := by
  have hl : (ds'.take vs.length).length = (vs.map some).length := by
    have := repL_len rl'
    rw [List.length_append, List.length_map] at this
    rw [List.length_take, List.length_map]; omega
  rw [show ds' = ds'.take vs.length ++ ds'.drop vs.length from (List.take_append_drop _ _).symm] at rl'
  obtain ⟨Pa1, Pa2, ra1, _, sa⟩ := repL_split hl rl'
  have g1 := gvA_ok at1 rl3 ra1 fun a x y => dj a x (sa.l a y)
  have eg : gvA rs (ds'.take vs.length) e2 = gvA rs ds' e2 := by
    have key : ∀ (rs : List R) (ws : List V) (xs : List D), AtA σ rs ws → gvA rs (xs.take ws.length) e2 = gvA rs xs e2 := by
      intro rs
      induction rs with
      | nil => intro ws xs h; rfl
      | cons r0 rs ih =>
        intro ws xs h
        cases xs with
        | nil => simp
        | cons y ys =>
          cases r0 with
          | val d =>
            obtain ⟨w, ws', ew, hw⟩ := h
            subst ew
            exact ih ws' ys hw
          | plc i p =>
            obtain ⟨w, ws', ew, _, hw⟩ := h
            subst ew
            show (gvA rs (ys.take ws'.length) e2).set i y = (gvA rs ys e2).set i y
            rw [ih ws' ys hw]
    exact key rs vs ds' at1
  rw [eg] at g1
  exact repL_mono g1 fun a x => x.imp id (sa.l a)
end

/-! ### a def's meaning -/
/-- what a def gives: its answer and its arguments behind it; an error; nothing is known -/
inductive FO where
  | ok (d : D) (ds : List D)
  | exc (x : Nat) (xs : List D) (ds : List D)
  | bad
abbrev FS := List D → FO
def spOf (C : Ct) (np : Nat) (F : FS) : L2.Sp := fun vs H Q E => vs.length = np ∧ ∃ ds P Z, RepL C H Z ds (vs.map some) P ∧ OkS P Z H ∧ match F ds with
  | .ok d ds' => ∀ v P' Pv Z' H', RepL C H' Z' ds' (vs.map some) P' → Rep C H' Z' d v Pv → Dis P' Pv → Ch P Z H (uni P' Pv) Z' H' → Q v H'
  | .exc x xs ds' => ∀ cls dd P' Px Z' H', RepL C H' Z' ds' (vs.map some) P' → XAt C H' Z' x xs cls dd Px → Dis P' Px → Ch P Z H (uni P' Px) Z' H' → E cls dd H'
  | .bad => False
/-- the constants that fill up, as data -/
structure Dfl (C : Ct) (dvs : List V) (dd : List D) : Prop where
  rep : ∀ H Z, RepL C H Z dd (dvs.map some) emp
def fCall (F : FS) (fs : SA) (dd : List D) : SE := fun env => (fs env).bind fun rs e1 t1 => match tkA rs e1 with
  | none => .bad
  | some (ds, e2) => match F (ds ++ dd) with
    | .ok d ds' => .ok (.val d) (gvA rs ds' e2) (t1 || anyP rs)
    | .exc x xs ds' => .exc x xs (gvA rs ds' e2)
    | .bad => .bad
theorem tkA_len : ∀ {rs : List R} {e : Env} {x : List D × Env}, tkA rs e = some x → x.1.length = rs.length
  | [], e, x, h => by
    have h' : some (([] : List D), e) = some x := h
    cases h'; rfl
  | .val d :: rs, e, x, h => by
    obtain ⟨y, hy, hz⟩ := Option.map_eq_some_iff.mp (show (tkA rs e).map _ = some x from h)
    subst hz
    show y.1.length + 1 = rs.length + 1
    rw [tkA_len hy]
  | .plc i [] :: rs, e, x, h => by
    obtain ⟨d, y, _, _, hy, hz⟩ := tkA_cons h
    subst hz
    show y.1.length + 1 = rs.length + 1
    rw [tkA_len hy]
  | .plc _ (_ :: _) :: _, _, _, h => by cases h
section
variable {C : Ct} {W : WX} {σ : L2.St} {H : Hp} {Q : VK} {fs : SA}
/-- behind the arguments: the call -/
theorem call_of {env e1 : Env} {P Z P1 Pv1 Z1 : As} {H1 : Hp} {rs : List R} {t1 : Bool} {vs dvs : List V} {dd : List D} {np : Nat} {F : FS} (p1 : PL' C σ P Z H env rs e1 t1 vs P1 Pv1 Z1 H1) (hd : Dfl C dvs dd) (hn : (vs ++ dvs).length = np)
    (h : match (match tkA rs e1 with
      | none => (O.bad : O R)
      | some (ds, e2) => match F (ds ++ dd) with
        | .ok d ds' => .ok (.val d) (gvA rs ds' e2) (t1 || anyP rs)
        | .exc x xs ds' => .exc x xs (gvA rs ds' e2)
        | .bad => .bad) with
      | .ok r env' t => ∀ v P' Pv Z' H', PE' C σ P Z H env r env' t v P' Pv Z' H' → Q v H'
      | .exc x ds env' => ∀ cls dd P' Px Z' H', PX' C σ P Z H x ds env' cls dd P' Px Z' H' → W cls dd σ H'
      | .bad => False) : spOf C np F (vs ++ dvs) H1 Q fun cls d H' => W cls d σ H' := by
  cases et : tkA rs e1 with
  | none => simp only [et] at h
  | some x =>
    obtain ⟨ds, e2⟩ := x
    simp only [et] at h
    have ra := repA_of p1.res et
    have at1 := atA_of ra
    obtain ⟨P2, Pa, rl2, rd, dj2, sb2, hpu⟩ : ∃ P2 Pa, RepL C H1 Z1 e2 σ P2 ∧ RepL C H1 Z1 ds (vs.map some) Pa ∧ Dis P2 Pa ∧ Sub (uni P2 Pa) (uni P1 Pv1) ∧ (anyP rs = false → e2 = e1 ∧ P2 = P1 ∧ Sub Pa Pv1) := by
      cases ha : anyP rs with
      | true =>
        obtain ⟨P2, Pa, b1, b2, b3, b4⟩ := tkA_ok ra p1.rl p1.dj et
        exact ⟨P2, Pa, b1, b2, b3, b4, fun z => by cases z⟩
      | false =>
        have e : e2 = e1 := tkA_none ha et
        subst e
        exact ⟨P1, Pv1, p1.rl, repA_val ha ra et, p1.dj, fun a x => x, fun _ => ⟨rfl, rfl, fun a x => x⟩⟩
    have rdd : RepL C H1 Z1 (ds ++ dd) ((vs ++ dvs).map some) Pa := by
      rw [List.map_append]
      exact repL_append rd (hd.rep H1 Z1) ⟨fun _ x => x, fun _ z => z.elim, fun _ _ z => z.elim⟩
    have c1 : Ch P Z H (uni P2 Pa) Z1 H1 := p1.ch.sub sb2
    have okA : OkS Pa Z1 H1 := c1.okT
    have okP2 : OkS P2 Z1 H1 := c1.okP
    refine ⟨hn, ds ++ dd, Pa, Z1, rdd, okA, ?_⟩
    have cA : Ch P Z H (uni Pa P2) Z1 H1 := c1.sub fun a x => x.elim .inr .inl
    cases eF : F (ds ++ dd) with
    | bad => simp only [eF] at h
    | ok d ds' =>
      simp only [eF] at h
      intro v P' Pv Z' H' rl' rv dj' c'
      have c2 := cA.trans (fun a x y => dj2 a y x) c'
      have ap := cA.apart (fun a x y => dj2 a y x) c'
      have rl3 : RepL C H' Z' e2 σ P2 := repL_keep rl2 c'.keep okA.at_ (fun a x y => dj2 a y x) c'.zle
      rw [List.map_append] at rl'
      have rg := giv at1 rl3 rl' fun a x y => ap a (.inl y) x
      cases ha : anyP rs with
      | false =>
        obtain ⟨h1, h2, h3⟩ := hpu ha
        subst h1 h2
        rw [gvA_none ha] at h
        refine h v P2 Pv Z' H' ⟨rl3, rv, fun a x y => ap a (.inr y) x, c2.sub fun a x => ?_, fun ht => ?_⟩
        · rcases x with x | x
          · exact .inr x
          · exact .inl (.inr x)
        · simp only [ha, Bool.or_false] at ht
          obtain ⟨q1, q2, q3⟩ := p1.pu ht
          subst q1 q2
          refine ⟨rfl, rfl, fun a o e _ => c'.keep a o (q3 a o e fun z => z.elim) fun x => ?_⟩
          rcases p1.ch.new a (.inr (h3 a x)) with z | z
          · exact p1.dj a z (h3 a x)
          · rw [e] at z; cases z
      | true =>
        refine h v (uni P2 P') Pv Z' H' ⟨rg, rv, fun a x y => ?_, c2.sub fun a x => ?_, fun ht => by simp [ha] at ht⟩
        · rcases x with x | x
          · exact ap a (.inr y) x
          · exact dj' a x y
        · rcases x with (x | x) | x
          · exact .inr x
          · exact .inl (.inl x)
          · exact .inl (.inr x)
    | exc x xs ds' =>
      simp only [eF] at h
      intro cls dx P' Px Z' H' rl' rv dj' c'
      have c2 := cA.trans (fun a x y => dj2 a y x) c'
      have ap := cA.apart (fun a x y => dj2 a y x) c'
      have rl3 : RepL C H' Z' e2 σ P2 := repL_keep rl2 c'.keep okA.at_ (fun a x y => dj2 a y x) c'.zle
      rw [List.map_append] at rl'
      have rg := giv at1 rl3 rl' fun a x y => ap a (.inl y) x
      refine h cls dx (uni P2 P') Px Z' H' ⟨rg, rv, fun a x y => ?_, c2.sub fun a x => ?_⟩
      · rcases x with x | x
        · exact ap a (.inr y) x
        · exact dj' a x y
      · rcases x with (x | x) | x
        · exact .inr x
        · exact .inl (.inl x)
        · exact .inl (.inr x)
end
end OL

/-! The O layer, 7: rules of calls, methods, instances; a def's meaning from its body. -/
namespace OL
open PySem PySem.Spec PyProof.Rows L2

section
variable {C : Ct} {σ : L2.St} {H H1 H2 : Hp} {Z Z1 Z2 P P1 P2 Pv1 Pv2 : As} {env e1 e2 : Env} {r1 : R} {rs : List R} {t1 t2 : Bool} {v1 : V} {vs : List V}
theorem PL'.cons (p1 : PE' C σ P Z H env r1 e1 t1 v1 P1 Pv1 Z1 H1) (p2 : PL' C σ P1 Z1 H1 e1 rs e2 t2 vs P2 Pv2 Z2 H2) (w : okR r1 t2 = true) : PL' C σ P Z H env (r1 :: rs) e2 (t1 || t2) (v1 :: vs) P2 (uni Pv1 Pv2) Z2 H2 := by
  have ra2 := wait (t2 := t2) p1.res p1.dj p1.ch.okP p2.ch p2.pu w
  have c2 := p1.ch.trans p1.dj p2.ch
  have ap := p1.ch.apart p1.dj p2.ch
  refine ⟨p2.rl, ⟨v1, vs, Pv1, Pv2, rfl, ra2, p2.res, ⟨fun _ x => .inl x, fun _ x => .inr x, fun a x y => ap a (.inr y) x⟩⟩, fun a x y => ?_, c2.sub fun a x => ?_, pu_seq p1.pu p2.pu⟩
  · rcases y with y | y
    · exact ap a (.inl x) y
    · exact p2.dj a x y
  · rcases x with x | x | x
    · exact .inl (.inl x)
    · exact .inr x
    · exact .inl (.inr x)
theorem repRs_len : ∀ {rs : List R} {vs : List V} {Q : As}, RepRs C σ H Z env P rs vs Q → vs.length = rs.length
  | [], vs, Q, h => by rw [show vs = [] from h]; rfl
  | r :: rs, vs, Q, ⟨v, ws, _, _, e, _, ra, _⟩ => by rw [e, List.length_cons, List.length_cons, repRs_len ra]
end

/-! ### f(..) -/
def fApp (np : Nat) (F : FS) (fs : SA) (dd : List D) : SE := fun env => (fs env).bind fun rs e1 t1 => if rs.length + dd.length = np then (match tkA rs e1 with
  | none => .bad
  | some (ds, e2) => match F (ds ++ dd) with
    | .ok d ds' => .ok (.val d) (gvA rs ds' e2) (t1 || anyP rs)
    | .exc x xs ds' => .exc x xs (gvA rs ds' e2)
    | .bad => .bad) else .bad
section
variable {X : Cx} {C : Ct} {W : WX} {k np : Nat} {f Ca : Addr} {fd : FuncData} {ps : List Str} {F : FS} {dvs : List V} {dd : List D} {ds : List Value} {x m : Str} {p pos apos : Pos} {e o : Expr} {es : List Expr} {fs : SA} {fo : SE}
theorem dfl_nil : Dfl C [] [] := ⟨fun _ _ => rfl⟩
theorem dfl_len (h : Dfl C dvs dd) : dvs.length = dd.length := by
  have := repL_len (h.rep (fun _ => none) emp)
  simpa using this
theorem tf_app {σ : L2.St} {H : Hp} {Q : VK} (hd : Dfl C dvs dd) (h : tf C W (fApp np F fs dd) σ H Q) : tCallSD (spOf C np F) dvs (WE W) (tl C W fs) σ H Q := by
  obtain ⟨env, P, Z, rl, ok, h⟩ := h
  refine ⟨env, P, Z, rl, ok, ?_⟩
  unfold fApp at h
  cases ea : fs env with
  | bad => rw [ea] at h; exact h
  | exc x ds e => rw [ea] at h; exact h
  | ok rs e1 t1 =>
    simp only [ea, O.bind] at h
    intro vs P1 Pv1 Z1 H1 p1
    by_cases hn : rs.length + dd.length = np
    · simp only [hn, if_true] at h
      exact call_of p1 hd (by rw [List.length_append, repRs_len p1.res, dfl_len hd, hn]) h
    · simp only [hn, if_false] at h
theorem e_call (F' : FnOk X.prog X.w X.K X.mg X.base (L2.CX X.prog X.w) k f fd ps (spOf C np F)) (tk : Takes X W) (hr : Room k X.A) (hg : Gl X x) (hm : X.mg x = some (.ref f)) (hk : PySem.W.keepIn X.K (.ref f) = true) (hb : Binds X.K fd ps ds) (hd : Vals dvs ds) (hdd : Dfl C dvs dd)
    (ha : L2.PA X (e :: es) (tl C W fs)) (hdb : (x == ("__debug__" : Str)) = false := by decide) (he : starEach (e :: es) X.env = (false, eval e X.env) :: starEach es X.env := by rfl) (hpl : (backTo pos (starEach es X.env)).any (·.1) = false := by rfl) :
    PE X (.Call (.Name x p) (e :: es) [] pos) (tf C W (fApp np F fs dd)) :=
  pe_imp (pe_callSD F' hr hg hm hk hb hd (passAt tk) ha hdb he hpl) fun _ _ _ h => tf_app hdd h
/-! ### o.m(..) -/
/-- the class of what a result holds -/
def cOf (env : Env) (r : R) : Option Nat := match rdR env r with
  | some (.ins c _) => some c
  | some (.fin c _) => some c
  | _ => none
def lSelf (c : Nat) (fo : SE) (fs : SA) : SA := fun env => (fo env).bind fun ro e1 t1 => if cOf e1 ro = some c then (fs e1).bind fun rs e2 t2 => if okR ro t2 then .ok (ro :: rs) e2 (t1 || t2) else .bad else .bad
/-- an instance of a class without slots, as the rules of the layer below want it -/
theorem ins_at {H : Hp} {Z P Pv : As} {env : Env} {σ : L2.St} {r : R} {v : V} {c : Nat} {q : Cli} (hc : cOf env r = some c) (hq : C.cl c = some q) (hs : q.sl = false) (hr : RepR C σ H Z env P r v Pv) (rl : RepL C H Z env σ P) :
    ∃ a dx fs, v = .ref a ∧ H a = some (.ins q.ad dx fs) ∧ ∀ n, n ∉ q.ns → fs.lookup n = none := by
  unfold cOf at hc
  cases ed : rdR env r with
  | none => rw [ed] at hc; cases hc
  | some d =>
    rw [ed] at hc
    obtain ⟨Pd, _, rp⟩ := read hr rl ed
    have key : ∀ {a : Addr} {os : List (Option V)}, InsAt C H a c os → ∃ dx fs, H a = some (.ins q.ad dx fs) ∧ ∀ n, n ∉ q.ns → fs.lookup n = none := by
      intro a os ia
      obtain ⟨q', hq', ⟨_, dx, fs, e, eo, nd, sub⟩ | ⟨s, _⟩⟩ := ia
      · rw [hq] at hq'; cases hq'
        refine ⟨dx, fs, e, fun n hn => ?_⟩
        cases el : fs.lookup n with
        | none => rfl
        | some w =>
          refine absurd (sub n ?_) hn
          clear e sub nd eo
          induction fs with
          | nil => cases el
          | cons y ys ih =>
            rw [List.lookup_cons] at el
            by_cases hy : n = y.1
            · subst hy; exact List.mem_cons_self
            · rw [show (n == y.1) = false from beq_eq_false_iff_ne.mpr hy] at el
              exact List.mem_cons_of_mem _ (ih el)
      · rw [hq] at hq'; cases hq'
        rw [hs] at s; cases s
    cases d with
    | ins c' ds =>
      cases (show some c' = some c from hc)
      obtain ⟨a, os, ev, _, ia, _⟩ := rp
      obtain ⟨dx, fs, h1, h2⟩ := key ia
      exact ⟨a, dx, fs, ev, h1, h2⟩
    | fin c' ds =>
      cases (show some c' = some c from hc)
      obtain ⟨a, os, ev, _, ia, _⟩ := rp
      obtain ⟨dx, fs, h1, h2⟩ := key ia
      exact ⟨a, dx, fs, ev, h1, h2⟩
    | _ => cases hc
def tMethSD (C : Addr) (m : Str) (sp : L2.Sp) (dvs : List V) (E : L2.St → XK) (ta : TE) (t : TA) : TE := fun σ H Q => ta σ H fun x H1 => ∃ a dx fs, x = .ref a ∧ H1 a = some (.ins C dx fs) ∧ fs.lookup m = none ∧
  t σ H1 fun vs H2 => sp (x :: (vs ++ dvs)) H2 Q (E σ)
/-- how the text of a method call runs -/
def MethForm (X : Cx) (o : Expr) (m : Str) (apos pos : Pos) (es : List Expr) (pl : Sem Bool) : Prop :=
  eval (.Call (.Attribute o m apos) es [] pos) X.env = (do let ov ← eval o X.env; standAt apos.atName; let (g, fst) ← holding [ov] (getMethod ov m pl); callWith pos g fst (backTo pos (starEach es X.env)) (backToKw pos (keywordEach [] X.env)))
theorem pe_methSD {sp : L2.Sp} {E : L2.St → XK} {CX : CXT} {ta : TE} {t : TA} {pl : Sem Bool} (he : PE X o ta) (c : Cls X.K Ca) (hm : Meth X.K Ca m f) (F : FnOk X.prog X.w X.K X.mg X.base CX k f fd ps sp) (hr : Room k X.A) (hb : Binds X.K fd ps ds) (hd : Vals dvs ds) (hx : ∀ σ, PassesAt CX X σ (E σ))
    (ha : L2.PA X (e :: es) t) (hst : starEach (e :: es) X.env = (false, eval e X.env) :: starEach es X.env) (hpl : (backTo pos (starEach es X.env)).any (·.1) = false) (ht : MethForm X o m apos pos (e :: es) pl) :
    PE X (.Call (.Attribute o m apos) (e :: es) [] pos) (tMethSD Ca m sp dvs E ta t) where
  run := fun pins s σ H Q I h => by
    refine PySem.W.methodCall_KW (pl := pl) (thn (he.run pins s σ H _ I h) ?_) ht
    rintro u s1 ⟨x, H1, I1, rx, a, dx, fs, rfl, ea, l, q⟩
    have eu : u = Value.ref a := rx
    subst eu
    refine getmeth_ok I1 ea c hm l (PySem.W.callWith_K (first := [.ref a]) (h₀ := X.base) I.ok.mod.kin hm.kp (thn (ha.run pos pins s1 σ H1 _ I1 q) ?_) hst hpl)
    rintro us s2 ⟨vs, H2, I2, r, q2⟩
    exact ⟨I2.kIn, run_fnSD (us := .ref a :: us) (vs := .ref a :: vs) F hr hb hd (hx σ) I2 (.cons rfl r) q2⟩
theorem pe_methSD0 {sp : L2.Sp} {E : L2.St → XK} {CX : CXT} {ta : TE} {pl : Sem Bool} (he : PE X o ta) (c : Cls X.K Ca) (hm : Meth X.K Ca m f) (F : FnOk X.prog X.w X.K X.mg X.base CX k f fd ps sp) (hr : Room k X.A) (hb : Binds X.K fd ps ds) (hd : Vals dvs ds) (hx : ∀ σ, PassesAt CX X σ (E σ))
    (ht : MethForm X o m apos pos [] pl) : PE X (.Call (.Attribute o m apos) [] [] pos) (tMethSD Ca m sp dvs E ta tNil) where
  run := fun pins s σ H Q I h => by
    refine PySem.W.methodCall_KW (pl := pl) (thn (he.run pins s σ H _ I h) ?_) ht
    rintro u s1 ⟨x, H1, I1, rx, a, dx, fs, rfl, ea, l, q⟩
    have eu : u = Value.ref a := rx
    subst eu
    exact getmeth_ok I1 ea c hm l (PySem.W.callWith_K0 (first := [.ref a]) I1.kIn hm.kp (run_fnSD (us := [.ref a]) (vs := [.ref a]) F hr hb hd (hx σ) I1 (.cons rfl .nil) q))
theorem tf_meth {c : Nat} {q : Cli} {σ : L2.St} {H : Hp} {Q : VK} (hq : C.cl c = some q) (hs : q.sl = false) (hm : m ∉ q.ns) (hd : Dfl C dvs dd) (h : tf C W (fApp np F (lSelf c fo fs) dd) σ H Q) : tMethSD q.ad m (spOf C np F) dvs (WE W) (tf C W fo) (tl C W fs) σ H Q := by
  obtain ⟨env, P, Z, rl, ok, h⟩ := h
  refine ⟨env, P, Z, rl, ok, ?_⟩
  unfold fApp lSelf at h
  cases ea : fo env with
  | bad => rw [ea] at h; exact h
  | exc x ds e => rw [ea] at h; exact h
  | ok ro e1 t1 =>
    simp only [ea, O.bind] at h
    intro v1 P1 Pv1 Z1 H1 p1
    by_cases hc : cOf e1 ro = some c
    · simp only [hc, if_true] at h
      obtain ⟨a, dx, fs', ev, ha, hn⟩ := ins_at hc hq hs p1.res p1.rl
      refine ⟨a, dx, fs', ev, ha, hn m hm, e1, P1, Z1, p1.rl, p1.ch.okP, ?_⟩
      cases eb : fs e1 with
      | bad => simp only [eb] at h
      | exc x ds e =>
        simp only [eb] at h
        exact fun cls dd P' Px Z' H' q => h cls dd P' Px Z' H' (q.up p1.ch p1.dj)
      | ok rs e2 t2 =>
        simp only [eb] at h
        intro vs P2 Pv2 Z2 H2 p2
        cases w : okR ro t2 with
        | false => simp [w] at h
        | true =>
          simp only [w, if_true] at h
          have p3 := PL'.cons p1 p2 w
          by_cases hn : (ro :: rs).length + dd.length = np
          · simp only [hn, if_true] at h
            have := call_of (F := F) p3 hd (np := np) (by rw [List.length_append, repRs_len p3.res, dfl_len hd, hn]) h
            rw [List.cons_append] at this
            exact this
          · simp only [hn, if_false] at h
    · simp only [hc, if_false] at h
theorem e_meth {pl : Sem Bool} {c : Nat} {q : Cli} (ho : PE X o (tf C W fo)) (hq : C.cl c = some q) (cl : Cls X.K q.ad) (hm : Meth X.K q.ad m f) (F' : FnOk X.prog X.w X.K X.mg X.base (L2.CX X.prog X.w) k f fd ps (spOf C np F)) (tk : Takes X W) (hr : Room k X.A) (hb : Binds X.K fd ps ds) (hd : Vals dvs ds) (hdd : Dfl C dvs dd) (ha : L2.PA X (e :: es) (tl C W fs)) (hs : q.sl = false := by rfl) (hn : m ∉ q.ns := by exact of_decide_eq_true rfl)
    (hst : starEach (e :: es) X.env = (false, eval e X.env) :: starEach es X.env := by rfl) (hpl : (backTo pos (starEach es X.env)).any (·.1) = false := by rfl)
    (ht : MethForm X o m apos pos (e :: es) pl := by rfl) :
    PE X (.Call (.Attribute o m apos) (e :: es) [] pos) (tf C W (fApp np F (lSelf c fo fs) dd)) :=
  pe_imp (pe_methSD ho cl hm F' hr hb hd (passAt tk) ha hst hpl ht) fun _ _ _ h => tf_meth hq hs hn hdd h
theorem e_meth0 {pl : Sem Bool} {c : Nat} {q : Cli} (ho : PE X o (tf C W fo)) (hq : C.cl c = some q) (cl : Cls X.K q.ad) (hm : Meth X.K q.ad m f) (F' : FnOk X.prog X.w X.K X.mg X.base (L2.CX X.prog X.w) k f fd ps (spOf C np F)) (tk : Takes X W) (hr : Room k X.A) (hb : Binds X.K fd ps ds) (hd : Vals dvs ds) (hdd : Dfl C dvs dd) (hs : q.sl = false := by rfl) (hn : m ∉ q.ns := by exact of_decide_eq_true rfl)
    (ht : MethForm X o m apos pos [] pl := by rfl) :
    PE X (.Call (.Attribute o m apos) [] [] pos) (tf C W (fApp np F (lSelf c fo lNil) dd)) :=
  pe_imp (pe_methSD0 ho cl hm F' hr hb hd (passAt tk) ht) fun σ H Q h => by
    have h2 := tf_meth hq hs hn hdd h
    obtain ⟨env, P, Z, rl, ok, h2⟩ := h2
    refine ⟨env, P, Z, rl, ok, ?_⟩
    cases ea : fo env with
    | bad => rw [ea] at h2; exact h2
    | exc x ds e => rw [ea] at h2; exact h2
    | ok ro e1 t1 =>
      rw [ea] at h2
      intro v P' Pv Z' H' q
      obtain ⟨a, dx, fs, z1, z2, z3, z4⟩ := h2 v P' Pv Z' H' q
      exact ⟨a, dx, fs, z1, z2, z3, tl_nil z4⟩
end

/-! ### a def's meaning from its body -/
def msk (fx : Nat → Bool) : Nat → Nat → Env → List D
  | i, n + 1, d :: e => (if fx i then d else .mvd) :: msk fx (i + 1) n e
  | i, n + 1, [] => .mvd :: msk fx (i + 1) n []
  | _, 0, _ => []
def semOf (fx : Nat → Bool) (np nl : Nat) (b : SS) : FS := fun ds => if ds.length = np then (match b (ds ++ List.replicate (nl - np) .mvd) with
  | .ok .nx e _ => .ok .non (msk fx 0 np e)
  | .ok (.rt d) e _ => .ok d (msk fx 0 np e)
  | .exc x xs e => .exc x xs (msk fx 0 np e)
  | _ => .bad) else .bad
section
variable {C : Ct} {H : Hp} {Z : As}
theorem repL_mvds : ∀ n : Nat, RepL C H Z (List.replicate n .mvd) (List.replicate n none) emp
  | 0 => rfl
  | n + 1 => ⟨none, List.replicate n none, emp, emp, rfl, .inl rfl, repL_mvds n, ⟨fun _ z => z, fun _ z => z, fun _ z => z.elim⟩⟩
theorem repL_msk {fx : Nat → Bool} {vs : List V} : ∀ {e : Env} {os : List (Option V)} {P : As} (i : Nat), RepL C H Z e os P → (∀ j (hj : j < vs.length), fx (i + j) = true → os[j]? = some (some vs[j])) → RepL C H Z (msk fx i vs.length e) (vs.map some) P := by
  induction vs with
  | nil =>
    intro e os P i r _
    cases e <;> exact rfl
  | cons v vs ih =>
    intro e os P i r hj
    cases e with
    | nil =>
      have q := ih (i + 1) r fun j hj2 hf => by
        have := hj (j + 1) (by simpa using hj2) (by rw [show i + (j + 1) = i + 1 + j by omega]; exact hf)
        rw [show os = [] from r] at this
        cases this
      exact ⟨some v, vs.map some, emp, P, rfl, .inl rfl, q, ⟨fun _ z => z.elim, fun _ x => x, fun _ z => z.elim⟩⟩
    | cons d e =>
      obtain ⟨o, os', P1, P2, eo, hd, r2, s⟩ := r
      subst eo
      have q := ih (i + 1) r2 fun j hj2 hf => by
        have := hj (j + 1) (by simpa using hj2) (by rw [show i + (j + 1) = i + 1 + j by omega]; exact hf)
        simpa using this
      cases hf : fx i with
      | false =>
        show RepL C H Z ((if fx i then d else .mvd) :: msk fx (i + 1) vs.length e) (some v :: vs.map some) P
        rw [hf]
        exact ⟨some v, vs.map some, emp, P2, rfl, .inl rfl, q, ⟨fun _ z => z.elim, s.r, fun _ z => z.elim⟩⟩
      | true =>
        have h0 : o = some v := by
          have := hj 0 (by simp) (by simpa using hf)
          simpa using this
        show RepL C H Z ((if fx i then d else .mvd) :: msk fx (i + 1) vs.length e) (some v :: vs.map some) P
        rw [hf]
        subst h0
        exact ⟨some v, vs.map some, P1, P2, rfl, hd, q, s⟩
end
section
variable {P : Program} {w : World} {K : PySem.W.Frag} {mg : Str → Option Value} {base : Heap}
/-- the body's rule makes the def's, however the def's rule is had -/
theorem fn_defG {C : Ct} {qual : Str} {st : Stmt} {f : Addr} {fd : FuncData} {N ps : List Str} {k : Nat} {fx : Nat → Bool} {b : SS}
    (mk : ∀ sp : L2.Sp, (∀ vs H Q E, sp vs H Q E → vs.length = ps.length) → (∀ (cdv : Value) (A : Around) (outer : List PySem.Env) (s : Shared) (H : Hp) (vs : List V) (Q : VK) (E : XK), Room k (A.deeper (envOfC qual (defScope st) s.heap.objs.size f cdv)) → sp vs H Q E →
      ∃ t, PSs (cxOf (L2.CX P w) P w K mg base N qual (defScope st) f cdv A outer s H E) (defBody st) t ∧ t { nx := fun _ H' => Q .non H', rt := Q } (L2.start N vs) H) → FnOk P w K mg base (L2.CX P w) (k + 1) f fd ps sp) (hN : ps.length ≤ N.length)
    (hb : ∀ (cdv : Value) (A : Around) (outer : List PySem.Env) (s : Shared) (H : Hp) (E : XK), Room k (A.deeper (envOfC qual (defScope st) s.heap.objs.size f cdv)) →
      PSs (cxOf (L2.CX P w) P w K mg base N qual (defScope st) f cdv A outer s H E) (defBody st) (ts C fx (fun cls d _ H' => E cls d H') b)) :
    FnOk P w K mg base (L2.CX P w) (k + 1) f fd ps (spOf C ps.length (semOf fx ps.length N.length b)) := by
  refine mk _ (fun vs H Q E h => h.1) fun cdv A outer s H vs Q E hr h => ⟨_, hb cdv A outer s H E hr, ?_⟩
  obtain ⟨hl, ds, Pa, Z, rl, ok, h⟩ := h
  have dl : ds.length = ps.length := by
    have := repL_len rl
    rw [List.length_map] at this
    omega
  have rl0 : RepL C H Z (ds ++ List.replicate (N.length - ps.length) .mvd) (L2.start N vs) Pa := by
    unfold L2.start
    rw [hl]
    exact repL_append rl (repL_mvds _) ⟨fun _ x => x, fun _ z => z.elim, fun _ _ z => z.elim⟩
  refine ⟨_, Pa, Z, rl0, ok, ?_⟩
  unfold semOf at h
  rw [if_pos dl] at h
  have mk : ∀ {e : Env} {σ' : L2.St} {P' Z' : As} {H' : Hp}, RepL C H' Z' e σ' P' → Fix fx (L2.start N vs) σ' → RepL C H' Z' (msk fx 0 ps.length e) (vs.map some) P' := by
    intro e σ' P' Z' H' r ff
    rw [← hl]
    have key : ∀ j (hj : j < vs.length), fx j = true → σ'[j]? = some (some vs[j]) := fun j hj hf => by
      rw [ff.at_ j hf]
      unfold L2.start
      rw [List.getElem?_append_left (by simpa using hj)]
      simp [hj]
    exact repL_msk 0 r fun j hj hf => key j hj (by simpa using hf)
  cases eb : b (ds ++ List.replicate (N.length - ps.length) .mvd) with
  | bad => rw [eb] at h; exact h
  | exc x xs e => rw [eb] at h; exact fun cls dd σ' P' Px Z' H' q => h cls dd P' Px Z' H' (mk q.rl q.fix) q.res q.dj q.ch
  | ok fl e t =>
    rw [eb] at h
    cases fl with
    | nx => exact fun σ' P' Z' H' q => h .non P' emp Z' H' (mk q.rl q.fix) rfl (fun _ _ z => z.elim) (by rw [uni_emp]; exact q.ch)
    | rt d => exact fun v σ' P' Pv Z' H' q => h v P' Pv Z' H' (mk q.rl q.fix) q.res q.dj q.ch
    | bk => exact h.elim
    | ct => exact h.elim
theorem fn_def {C : Ct} {x qual : Str} {st : Stmt} {f : Addr} {fd : FuncData} {N ps : List Str} {k : Nat} {fx : Nat → Bool} {b : SS} (F : Fun K x qual st f fd) (S : FnScope N ps (defScope st)) (hN : ps.length ≤ N.length)
    (hb : ∀ (cdv : Value) (A : Around) (outer : List PySem.Env) (s : Shared) (H : Hp) (E : XK), Room k (A.deeper (envOfC qual (defScope st) s.heap.objs.size f cdv)) →
      PSs (cxOf (L2.CX P w) P w K mg base N qual (defScope st) f cdv A outer s H E) (defBody st) (ts C fx (fun cls d _ H' => E cls d H') b)) :
    FnOk P w K mg base (L2.CX P w) (k + 1) f fd ps (spOf C ps.length (semOf fx ps.length N.length b)) := fn_defG (fun _ l h => F.okX S l h) hN hb
/-- a def whose last parameters have defaults -/
structure FunD (K : PySem.W.Frag) (x qual : Str) (st : Stmt) (f : Addr) (fd : FuncData) : Prop where
  ex : ∃ (oc : Value) (od : Option Addr) (dV kV doc pm : Value) (an : Option Addr) (cdv ct : Value) (osl : Array (Option Value)),
    fd = PySem.W.fnOf x qual (defArgs st) (defBody st) (defScope st) dV kV doc pm an cdv ct ∧ K.lookup f = some ⟨oc, od, .func fd, osl⟩ ∧ PySem.W.codeIn K cdv qual = true
  kp : PySem.W.keepIn K (.ref f) = true
theorem fn_defD {C : Ct} {x qual : Str} {st : Stmt} {f : Addr} {fd : FuncData} {N ps : List Str} {k : Nat} {fx : Nat → Bool} {b : SS} (F : FunD K x qual st f fd) (S : FnScope N ps (defScope st)) (hN : ps.length ≤ N.length)
    (hb : ∀ (cdv : Value) (A : Around) (outer : List PySem.Env) (s : Shared) (H : Hp) (E : XK), Room k (A.deeper (envOfC qual (defScope st) s.heap.objs.size f cdv)) →
      PSs (cxOf (L2.CX P w) P w K mg base N qual (defScope st) f cdv A outer s H E) (defBody st) (ts C fx (fun cls d _ H' => E cls d H') b)) :
    FnOk P w K mg base (L2.CX P w) (k + 1) f fd ps (spOf C ps.length (semOf fx ps.length N.length b)) := fn_defG (fun sp l h => by
  obtain ⟨oc, od, dV, kV, doc, pm, an, cdv, ct, osl, rfl, lk, hcd⟩ := F.ex
  exact fn_of lk hcd S l fun A outer s H vs Q E hr hsp => h cdv A outer s H vs Q E hr hsp) hN hb
end
end OL

/-! The O layer, 8: displays, instances made, their fields. -/
namespace OL
open PySem PySem.Spec PyProof.Rows L2

/-! ### displays -/
def fDsp (k : List D → D) (fs : SA) : SE := fun env => (fs env).bind fun rs e1 t1 => if rs.length ≤ 1000 then (match tkA rs e1 with
  | none => .bad
  | some (ds, e2) => .ok (.val (k ds)) e2 (t1 || anyP rs)) else .bad
def one (p : Addr) : As := fun a => a = p
section
variable {C : Ct} {W : WX} {σ : L2.St} {H H1 : Hp} {Z P : As} {env : Env} {Q : VK} {fs : SA}
theorem keep_new {p : Addr} {o : HO} (n : H p = none) : Keep emp H (upd H p o) := fun a u e _ => by rw [upd_ne (ne_of_none e n)]; exact e
theorem small_sz {n : Nat} (h : n ≤ 1000) : n ≤ sizeLine := Nat.le_trans h (by rw [sizeLine_eq]; decide)
/-- what is taken for a new object -/
theorem taken {rs : List R} {e1 e2 : Env} {ds : List D} {t1 : Bool} {vs : List V} {P1 Pv1 Z1 : As} (p1 : PL' C σ P Z H env rs e1 t1 vs P1 Pv1 Z1 H1) (et : tkA rs e1 = some (ds, e2)) :
    ∃ P2 Pa, RepL C H1 Z1 e2 σ P2 ∧ RepL C H1 Z1 ds (vs.map some) Pa ∧ Dis P2 Pa ∧ Ch P Z H (uni P2 Pa) Z1 H1 ∧ ((t1 || anyP rs) = false → e2 = env ∧ P2 = P ∧ Keep emp H H1) := by
  have ra := repA_of p1.res et
  cases ha : anyP rs with
  | true =>
    obtain ⟨P2, Pa, b1, b2, b3, b4⟩ := tkA_ok ra p1.rl p1.dj et
    exact ⟨P2, Pa, b1, b2, b3, p1.ch.sub b4, fun z => by simp at z⟩
  | false =>
    have e : e2 = e1 := tkA_none ha et
    subst e
    exact ⟨P1, Pv1, p1.rl, repA_val ha ra et, p1.dj, p1.ch, fun z => p1.pu (by simpa using z)⟩
/-- a new object over what was taken -/
theorem fresh {P2 Pa Z1 : As} {e2 : Env} {t : Bool} {d : D} {p : Addr} {o : HO} {Pn : As} (rl : RepL C H1 Z1 e2 σ P2) (dj : Dis P2 Pa) (c : Ch P Z H (uni P2 Pa) Z1 H1) (pu : t = false → e2 = env ∧ P2 = P ∧ Keep emp H H1) (n : H1 p = none)
    (sb : ∀ a, Pn a → Pa a ∨ (a = p ∧ Own o)) (rep : Rep C (upd H1 p o) Z1 d (.ref p) Pn) : PE' C σ P Z H env (.val d) e2 t (.ref p) P2 Pn Z1 (upd H1 p o) := by
  have kp := keep_new (o := o) n
  have okA : OkS (uni P2 Pa) Z1 H1 := c.ok
  refine ⟨repL_keep rl kp OkP.emp (fun _ z => z.elim) fun _ x => x, rep, fun a x y => ?_, ?_, fun h => ?_⟩
  · rcases sb a y with z | ⟨z, _⟩
    · exact dj a x z
    · subst z
      obtain ⟨_, u, e, _⟩ := okA.at_ a (.inl x)
      rw [n] at e; cases e
  · have g : Ch (uni P2 Pa) Z1 H1 (uni (uni P2 Pa) (fun a => Pn a ∧ a = p)) Z1 (upd H1 p o) := Ch.grow kp okA (fun a x => by rw [x.2]; exact n) fun a x => by
      obtain ⟨x1, rfl⟩ := x
      rcases sb a x1 with z | ⟨_, w⟩
      · obtain ⟨_, u, e, _⟩ := okA.at_ a (.inr z)
        rw [n] at e; cases e
      · exact ⟨fun z => okA.zt a z n, o, upd_same, w⟩
    refine (c.trans0 g).sub fun a x => ?_
    rcases x with x | x
    · exact .inl (.inl x)
    · rcases sb a x with z | ⟨z, _⟩
      · exact .inl (.inr z)
      · exact .inr ⟨x, z⟩
  · obtain ⟨a1, a2, a3⟩ := pu h
    exact ⟨a1, a2, fun a u e m => kp a u (a3 a u e m) m⟩
theorem repL_new {p : Addr} {o : HO} {ds : List D} {os : List (Option V)} {Pa : As} (r : RepL C H Z ds os Pa) (n : H p = none) : RepL C (upd H p o) Z ds os Pa := repL_keep r (keep_new n) OkP.emp (fun _ z => z.elim) fun _ x => x
theorem not_own {p : Addr} {Pa : As} (ok : OkP Pa Z H) (n : H p = none) : ¬ Pa p := fun x => by
  obtain ⟨_, o, e, _⟩ := ok p x
  rw [n] at e; cases e
theorem tf_tup (h : tf C W (fDsp .tup fs) σ H Q) : tTup (tl C W fs) σ H Q := by
  obtain ⟨env, P, Z, rl, ok, h⟩ := h
  refine ⟨env, P, Z, rl, ok, ?_⟩
  unfold fDsp at h
  cases ea : fs env with
  | bad => rw [ea] at h; exact h
  | exc x ds e => rw [ea] at h; exact h
  | ok rs e1 t1 =>
    simp only [ea, O.bind] at h
    intro vs P1 Pv1 Z1 H1 p1
    by_cases hn : rs.length ≤ 1000
    · simp only [hn, if_true] at h
      cases et : tkA rs e1 with
      | none => simp only [et] at h
      | some x =>
        obtain ⟨ds, e2⟩ := x
        simp only [et] at h
        obtain ⟨P2, Pa, rl2, rd, dj, c, pu⟩ := taken p1 et
        refine ⟨small_sz (by rw [repRs_len p1.res]; exact hn), fun p n => ?_⟩
        exact h (.ref p) P2 Pa Z1 _ (fresh rl2 dj c pu n (fun a x => .inl x) ⟨p, vs, rfl, .inl (.inl upd_same), repL_new rd n⟩)
    · simp only [hn, if_false] at h
theorem tf_lst (h : tf C W (fDsp .lst fs) σ H Q) : tLst (tl C W fs) σ H Q := by
  obtain ⟨env, P, Z, rl, ok, h⟩ := h
  refine ⟨env, P, Z, rl, ok, ?_⟩
  unfold fDsp at h
  cases ea : fs env with
  | bad => rw [ea] at h; exact h
  | exc x ds e => rw [ea] at h; exact h
  | ok rs e1 t1 =>
    simp only [ea, O.bind] at h
    intro vs P1 Pv1 Z1 H1 p1
    by_cases hn : rs.length ≤ 1000
    · simp only [hn, if_true] at h
      cases et : tkA rs e1 with
      | none => simp only [et] at h
      | some x =>
        obtain ⟨ds, e2⟩ := x
        simp only [et] at h
        obtain ⟨P2, Pa, rl2, rd, dj, c, pu⟩ := taken p1 et
        refine ⟨small_sz (by rw [repRs_len p1.res]; exact hn), fun p n => ?_⟩
        have np := not_own (c.okT.at_) n
        exact h (.ref p) P2 (uni Pa (one p)) Z1 _ (fresh rl2 dj c pu n (fun a x => x.imp id fun z => ⟨z, trivial⟩) ⟨p, vs, rfl, .inr rfl, upd_same, repL_mono (repL_new rd n) fun b x => ⟨.inl x, fun e => np (e ▸ x)⟩⟩)
    · simp only [hn, if_false] at h
/-- {} -/
theorem tf_dct0 (h : tf C W (fC (.dct [] [])) σ H Q) : tDNewK σ H Q := by
  obtain ⟨env, P, Z, rl, ok, h⟩ := h
  intro p n
  have c : Ch P Z H (uni P emp) Z H := by rw [uni_emp]; exact Ch.refl ok
  exact h (.ref p) P (one p) Z _ (fresh (t := false) rl (fun _ _ z => z.elim) c (fun _ => ⟨rfl, rfl, keep_refl⟩) n (fun a x => .inr ⟨x, trivial⟩) ⟨p, [], rfl, rfl, rfl, upd_same, rfl⟩)
end
section
variable {X : Cx} {C : Ct} {W : WX} {es : List Expr} {fs : SA} {pos : Pos}
theorem e_tup {x1} (h : L2.PA X es (tl C W fs)) : PE X (.Tuple es x1 pos) (tf C W (fDsp .tup fs)) := pe_imp (pe_tup h) fun _ _ _ q => tf_tup q
theorem e_lst (h : L2.PA X es (tl C W fs)) : PE X (.List es pos) (tf C W (fDsp .lst fs)) := pe_imp (pe_lst h) fun _ _ _ q => tf_lst q
theorem e_dct0 : PE X (.Dict [] [] pos) (tf C W (fC (.dct [] []))) := pe_imp pe_dnewK fun _ _ _ q => tf_dct0 q
end

/-! ### C(..) -/
section
variable {X : Cx} {C : Ct} {W : WX} {k np c : Nat} {q : Cli} {f : Addr} {fd : FuncData} {ps : List Str} {F : FS} {dvs : List V} {dd : List D} {ds : List Value} {x : Str} {p pos : Pos} {e : Expr} {es : List Expr} {fs : SA}
/-- z: the new instance is frozen -/
def fMake (c nf np : Nat) (z : Bool) (F : FS) (fs : SA) (dd : List D) : SE := fun env => (fs env).bind fun rs e1 t1 => if rs.length + dd.length + 1 = np then (match tkA rs e1 with
  | none => .bad
  | some (ds, e2) => match F (.ins c (List.replicate nf .mvd) :: (ds ++ dd)) with
    | .ok .non (o :: ds') => if o.mv then .bad else .ok (.val (if z then o.fz else o)) (gvA rs ds' e2) (t1 || anyP rs)
    | .exc x xs (_ :: ds') => .exc x xs (gvA rs ds' e2)
    | _ => .bad) else .bad
def tMakeSD (Ca : Addr) (sp : L2.Sp) (dvs : List V) (E : L2.St → XK) (t : TA) : TE := fun σ H Q => t σ H fun vs H1 => ∀ x dx, H1 x = none → H1 dx = none → dx ≠ x →
  sp (.ref x :: (vs ++ dvs)) (upd (upd H1 dx (.own x)) x (.ins Ca dx [])) (fun v H2 => v = .non ∧ Q (.ref x) H2) (E σ)
/-- where what leaves is wished for at the slots -/
theorem run_makeSD {CX : CXT} {sp : L2.Sp} {E : XK} {Ca : Addr} {pins : List (Addr × Obj)} {σ : L2.St} {H : Hp} {s : Shared} {Q : VK} {us : List Value} {vs : List V} (M : Mk X.K Ca f) (F : FnOk X.prog X.w X.K X.mg X.base CX k f fd ps sp) (hr : Room (k + 1) X.A) (hb : Binds X.K fd ps ds) (hd : Vals dvs ds)
    (hx : ∀ s H, Inv X pins σ H s → ∀ e s', CX X.stack H s E e s' → X.xe e s') (I : Inv X pins σ H s) (r : Vals vs us)
    (h : ∀ x dx, H x = none → H dx = none → dx ≠ x → sp (.ref x :: (vs ++ dvs)) (upd (upd H dx (.own x)) x (.ins Ca dx [])) (fun v H2 => v = .non ∧ Q (.ref x) H2) E) : wpAny (model X.prog X.w) X.A (call (.ref Ca) us) (EP X pins σ Q) X.xe s := by
  generalize hn : s.heap.objs.size = n
  have n0 : H n = none := I.hok.fresh (by omega)
  have n1 : H (n + 1) = none := I.hok.fresh (by omega)
  have q0 := h (n + 1) n n1 n0 (Nat.ne_of_lt (Nat.lt_succ_self _))
  have I2 := Inv.made (C := Ca) I
  rw [hn] at I2
  have rv : Vals (V.ref (n + 1) :: (vs ++ dvs)) (Value.ref (n + 1) :: (us ++ ds)) := .cons rfl (r.append hd)
  have hl : (Value.ref (n + 1) :: us ++ ds).length = ps.length := by rw [← F.len _ _ _ _ q0]; exact rv.length.symm
  have body := F.run _ X.stack _ _ ⟨Value.ref (n + 1) :: us, []⟩ (Value.ref (n + 1) :: (us ++ ds)) _ _ E (hr.make Ca us []) (I2.env0.make Ca us []) (hb _ (Value.ref (n + 1) :: us) I2.kIn hl) rv q0
  refine wpAny_call (make_map (f := f) I.kIn M.makes M.init (beq_iff_eq.mp M.fn) ?_)
  rw [hn]
  refine codeAny_mono body ?_
  intro res s' hq
  cases res with
  | error er => exact hx _ _ I2 er s' hq
  | ok fl =>
    cases fl with
    | ret u =>
      obtain ⟨v, H', I3, ru, ev, q3⟩ := I2.after hq
      subst ev
      exact ⟨ru, V.ref (n + 1), H', I3, rfl, q3⟩
    | _ => exact False.elim hq
theorem pe_makeSD {CX : CXT} {sp : L2.Sp} {E : L2.St → XK} {Ca : Addr} {t : TA} (M : Mk X.K Ca f) (F : FnOk X.prog X.w X.K X.mg X.base CX k f fd ps sp) (hr : Room (k + 1) X.A) (hg : Gl X x) (hm : X.mg x = some (.ref Ca)) (hb : Binds X.K fd ps ds) (hd : Vals dvs ds) (hx : ∀ σ, PassesAt CX X σ (E σ))
    (ha : L2.PA X (e :: es) t) (hdb : (x == ("__debug__" : Str)) = false) (he : starEach (e :: es) X.env = (false, eval e X.env) :: starEach es X.env) (hpl : (backTo pos (starEach es X.env)).any (·.1) = false) : PE X (.Call (.Name x p) (e :: es) [] pos) (tMakeSD Ca sp dvs E t) where
  run := fun pins s σ H Q I h => wpAny_Call_Name_kw (ld_glob I hg hm (PySem.W.callWith_K (h₀ := X.base) I.ok.mod.kin M.kp (thn (ha.run pos pins s σ H _ I h) fun us s1 ⟨vs, H1, I1, r, q⟩ => ⟨I1.kIn, run_makeSD M F hr hb hd (fun s H I e s' c => hx σ pins H s e s' I c) I1 r q⟩) he hpl) hdb)
mutual
/-- frozen, for ever -/
theorem rep_fz {C : Ct} {H : Hp} {Z Z' : As} : ∀ {d : D} {v : V} {P : As}, Rep C H Z d v P → Sub Z Z' → Sub P Z' → Rep C H Z' d.fz v emp
  | .non, _, _, h, _, _ => h
  | .bl _, _, _, h, _, _ => h
  | .int _, _, _, h, _, _ => h
  | .str _, _, _, h, _, _ => h
  | .fn _, _, _, h, _, _ => h
  | .tup ds, v, P, ⟨a, vs, e, s, r⟩, z, y => ⟨a, vs, e, s, repL_fz r z y⟩
  | .lst ds, v, P, ⟨a, vs, e, p, s, r⟩, z, y => ⟨a, vs, e, .inl ⟨s, y a p⟩, repL_fz r z fun b x => y b x.1⟩
  | .fls ds, v, P, h, z, y => rep_keep (d := .fls ds) h keep_refl OkP.emp (fun _ w => w.elim) z
  | .dct ks ds, v, P, ⟨a, vs, e, p, l, s, r⟩, z, y => ⟨a, vs, e, y a p, by rw [l, fzL_len], s, repL_fz r z fun b x => y b x.1⟩
  | .fdc ks ds, v, P, h, z, y => rep_keep (d := .fdc ks ds) h keep_refl OkP.emp (fun _ w => w.elim) z
  | .ins c ds, v, P, ⟨a, os, e, p, s, r⟩, z, y => ⟨a, os, e, y a p, s, repL_fz r z fun b x => y b x.1⟩
  | .fin c ds, v, P, h, z, y => rep_keep (d := .fin c ds) h keep_refl OkP.emp (fun _ w => w.elim) z
  | .exo n c ds, v, P, h, z, y => rep_keep (d := .exo n c ds) h keep_refl OkP.emp (fun _ w => w.elim) z
  | .mvd, _, _, _, _, _ => trivial
theorem repL_fz {C : Ct} {H : Hp} {Z Z' : As} : ∀ {ds : List D} {os : List (Option V)} {P : As}, RepL C H Z ds os P → Sub Z Z' → Sub P Z' → RepL C H Z' (fzL ds) os emp
  | [], _, _, h, _, _ => h
  | d :: ds, os, P, ⟨o, os', P1, P2, e, h, r, s⟩, z, y => by
    refine ⟨o, os', emp, emp, e, ?_, repL_fz r z fun b x => y b (s.r b x), ⟨fun _ w => w, fun _ w => w, fun _ w => w.elim⟩⟩
    rcases h with h | ⟨v, e, h⟩
    · subst h; exact .inl rfl
    · exact .inr ⟨v, e, rep_fz h z fun b x => y b (s.l b x)⟩
theorem fzL_len : ∀ {ds : List D}, (fzL ds).length = ds.length
  | [] => rfl
  | d :: ds => by show (fzL ds).length + 1 = ds.length + 1; rw [fzL_len]
end
theorem ins_new {C : Ct} {c : Nat} {q : Cli} {H : Hp} {x dx : Addr} (hq : C.cl c = some q) (hne : dx ≠ x) : ∃ os, InsAt C (upd (upd H dx (.own x)) x (.ins q.ad dx [])) x c os ∧ os.length = q.ns.length := by
  cases hs : q.sl with
  | false => exact ⟨_, ⟨q, hq, .inl ⟨hs, dx, [], upd_same, rfl, .nil, fun n h => by cases h⟩⟩, by rw [List.length_map]⟩
  | true => exact ⟨_, ⟨q, hq, .inr ⟨hs, dx, [], ⟨by rw [upd_ne hne]; exact upd_same, hne, .inr ⟨rfl, upd_same⟩⟩, rfl⟩⟩, by simp⟩
theorem repL_mvds' {C : Ct} {H : Hp} {Z : As} : ∀ {os : List (Option V)}, RepL C H Z (List.replicate os.length .mvd) os emp
  | [] => rfl
  | o :: os => ⟨o, os, emp, emp, rfl, .inl rfl, repL_mvds', ⟨fun _ z => z, fun _ z => z, fun _ z => z.elim⟩⟩
theorem tf_make {σ : L2.St} {H : Hp} {Q : VK} {z : Bool} (hq : C.cl c = some q) (hd : Dfl C dvs dd) (h : tf C W (fMake c q.ns.length np z F fs dd) σ H Q) : tMakeSD q.ad (spOf C np F) dvs (WE W) (tl C W fs) σ H Q := by
  obtain ⟨env, P, Z, rl, ok, h⟩ := h
  refine ⟨env, P, Z, rl, ok, ?_⟩
  unfold fMake at h
  cases ea : fs env with
  | bad => rw [ea] at h; exact h
  | exc x ds e => rw [ea] at h; exact h
  | ok rs e1 t1 =>
    simp only [ea, O.bind] at h
    intro vs P1 Pv1 Z1 H1 p1 xa dx nx ndx hne
    by_cases hn : rs.length + dd.length + 1 = np
    · simp only [hn, if_true] at h
      cases et : tkA rs e1 with
      | none => simp only [et] at h
      | some y =>
        obtain ⟨ds, e2⟩ := y
        simp only [et] at h
        have at1 := atA_of (repA_of p1.res et)
        obtain ⟨P2, Pa, rl2, rd, dj2, c1, hpu⟩ := taken p1 et
        generalize hH2 : upd (upd H1 dx (.own xa)) xa (.ins q.ad dx []) = H2
        have k2 : Keep emp H1 H2 := by
          rw [← hH2]
          intro b o e _
          rw [upd_ne (ne_of_none e nx), upd_ne (ne_of_none e ndx)]
          exact e
        have rdd : RepL C H2 Z1 (ds ++ dd) ((vs ++ dvs).map some) Pa := by
          rw [List.map_append]
          exact repL_keep (repL_append rd (hd.rep H1 Z1) ⟨fun _ x => x, fun _ z => z.elim, fun _ _ z => z.elim⟩) k2 OkP.emp (fun _ z => z.elim) fun _ x => x
        obtain ⟨os, ia, hos⟩ := ins_new (H := H1) hq hne
        rw [hH2] at ia
        have nPx : ¬ Pa xa := not_own c1.okT.at_ nx
        have c2 : Ch P Z H (uni (uni P2 Pa) (one xa)) Z1 H2 := c1.trans0 (Ch.grow k2 c1.ok (fun a x => by rw [show a = xa from x]; exact nx) fun a x => by
          rw [show a = xa from x]
          exact ⟨fun z => c1.ok.zt _ z nx, HO.ins q.ad dx [], by rw [← hH2]; exact upd_same, trivial⟩)
        have cA : Ch P Z H (uni (uni (one xa) Pa) P2) Z1 H2 := c2.sub fun a x => by
          rcases x with (x | x) | x
          · exact .inr x
          · exact .inl (.inr x)
          · exact .inl (.inl x)
        have dA : Dis (uni (one xa) Pa) P2 := fun a x y => by
          rcases x with x | x
          · rw [show a = xa from x] at y
            exact not_own c1.okP.at_ nx y
          · exact dj2 a y x
        have robj : Rep C H2 Z1 (.ins c (List.replicate q.ns.length .mvd)) (.ref xa) (one xa) := ⟨xa, os, rfl, rfl, ia, by rw [← hos]; exact repL_mono repL_mvds' fun _ z => z.elim⟩
        have rall : RepL C H2 Z1 (.ins c (List.replicate q.ns.length .mvd) :: (ds ++ dd)) ((V.ref xa :: (vs ++ dvs)).map some) (uni (one xa) Pa) :=
          ⟨_, _, one xa, Pa, rfl, .inr ⟨_, rfl, robj⟩, rdd, ⟨fun _ x => .inl x, fun _ x => .inr x, fun a x y => nPx (by rw [← show a = xa from x]; exact y)⟩⟩
        refine ⟨by rw [List.length_cons, List.length_append, repRs_len p1.res, dfl_len hd]; exact hn, _, uni (one xa) Pa, Z1, rall, cA.okP, ?_⟩
        have rl3 : ∀ {P' Z' H'}, Ch (uni (one xa) Pa) Z1 H2 P' Z' H' → RepL C H' Z' e2 σ P2 := fun c' => repL_keep (repL_keep rl2 k2 OkP.emp (fun _ z => z.elim) fun _ x => x) c'.keep cA.okP.at_ dA c'.zle
        cases eF : F (.ins c (List.replicate q.ns.length .mvd) :: (ds ++ dd)) with
        | bad => simp only [eF] at h
        | exc x xs dsx =>
          cases dsx with
          | nil => simp only [eF] at h
          | cons o ds' =>
            simp only [eF] at h
            intro cls ddx P' Px Z' H' rl' rv dj' c'
            have c3 := cA.trans dA c'
            have ap := cA.apart dA c'
            obtain ⟨o', os', Pa1, Pa2, eo, _, rr, sp⟩ := rl'
            have eo2 : (vs ++ dvs).map some = os' := (List.cons.inj eo).2
            subst eo2
            rw [List.map_append] at rr
            have rg := giv at1 (rl3 c') rr fun a x y => ap a (.inl (sp.r a y)) x
            refine h cls ddx (uni P2 Pa2) Px Z' H' ⟨rg, rv, fun a x y => ?_, c3.sub fun a x => ?_⟩
            · rcases x with x | x
              · exact ap a (.inr y) x
              · exact dj' a (sp.r a x) y
            · rcases x with (x | x) | x
              · exact .inr x
              · exact .inl (.inl (sp.r a x))
              · exact .inl (.inr x)
        | ok d dsx =>
          cases dsx with
          | nil => cases d <;> simp only [eF] at h
          | cons o ds' =>
            cases d <;> simp only [eF] at h
            cases om : o.mv with
            | true => simp [om] at h
            | false =>
            simp only [om] at h
            intro v P' Pv Z' H' rl' rv dj' c'
            refine ⟨rv, ?_⟩
            have c3 := cA.trans dA c'
            have ap := cA.apart dA c'
            obtain ⟨o', os', Pa1, Pa2, eo, ho, rr, sp⟩ := rl'
            obtain ⟨eo1, eo2⟩ := List.cons.inj eo
            subst eo1 eo2
            have ro : Rep C H' Z' o (.ref xa) Pa1 := by
              rcases ho with ho | ⟨w, ew, ho⟩
              · exact absurd ho (mv_ne om)
              · cases ew; exact ho
            rw [List.map_append] at rr
            have rg := giv at1 (rl3 c') rr fun a x y => ap a (.inl (sp.r a y)) x
            have base : PE' C σ P Z H env (.val o) (gvA rs ds' e2) (t1 || anyP rs) (.ref xa) (if anyP rs then uni P2 Pa2 else P2) Pa1 Z' H' := by
              cases ha : anyP rs with
              | true =>
                refine ⟨rg, ro, fun a x y => ?_, c3.sub fun a x => ?_, fun z => by simp at z⟩
                · rcases x with x | x
                  · exact ap a (.inl (sp.l a y)) x
                  · exact sp.d a y x
                · rcases x with (x | x) | x
                  · exact .inr x
                  · exact .inl (.inl (sp.r a x))
                  · exact .inl (.inl (sp.l a x))
              | false =>
                rw [gvA_none ha]
                refine ⟨rl3 c', ro, fun a x y => ap a (.inl (sp.l a y)) x, c3.sub fun a x => ?_, fun z => ?_⟩
                · rcases x with x | x
                  · exact .inr x
                  · exact .inl (.inl (sp.l a x))
                · obtain ⟨q1, q2, q3⟩ := hpu (by rw [ha]; exact z)
                  refine ⟨q1, q2, fun a u e _ => c'.keep a u (k2 a u (q3 a u e fun z => z.elim) fun z => z.elim) fun x => ?_⟩
                  have e1 := q3 a u e fun z => z.elim
                  rcases x with x | x
                  · rw [show a = xa from x, nx] at e1; cases e1
                  · rcases c1.new a (.inr x) with w | w
                    · rw [← q2] at w; exact dj2 a w x
                    · rw [e] at w; cases w
            cases z with
            | false =>
              simp only [Bool.false_eq_true, if_false] at h
              exact h _ _ _ _ _ base
            | true =>
              simp only [Bool.false_eq_true, if_false, if_true] at h
              -- frozen
              refine h (.ref xa) (if anyP rs then uni P2 Pa2 else P2) emp (uni Z' Pa1) H' ⟨?_, ?_, fun _ _ z => z.elim, ?_, base.pu⟩
              · exact repL_keep base.rl keep_refl OkP.emp (fun _ z => z.elim) fun _ x => .inl x
              · exact rep_fz ro (fun _ x => .inl x) fun _ x => .inr x
              · rw [uni_emp]
                refine ⟨base.ch.keep, fun a x => base.ch.new a (.inl x), fun a x => .inl (base.ch.zle a x), fun a x => ?_, ⟨fun a x => ?_, fun a x => ?_⟩⟩
                · rcases x with x | x
                  · exact base.ch.znew a x
                  · exact .inr (base.ch.new a (.inr x))
                · obtain ⟨nz, w⟩ := base.ch.ok.at_ a (.inl x)
                  exact ⟨fun y => y.elim nz fun y => base.dj a x y, w⟩
                · rcases x with x | x
                  · exact base.ch.ok.zt a x
                  · obtain ⟨_, u, e, _⟩ := base.ch.ok.at_ a (.inr x)
                    rw [e]; simp
    · simp only [hn, if_false] at h
theorem e_make {z : Bool} (M : Mk X.K q.ad f) (hq : C.cl c = some q) (F' : FnOk X.prog X.w X.K X.mg X.base (L2.CX X.prog X.w) k f fd ps (spOf C np F)) (tk : Takes X W) (hr : Room (k + 1) X.A) (hg : Gl X x) (hm : X.mg x = some (.ref q.ad)) (hb : Binds X.K fd ps ds) (hd : Vals dvs ds) (hdd : Dfl C dvs dd)
    (ha : L2.PA X (e :: es) (tl C W fs)) (hdb : (x == ("__debug__" : Str)) = false := by decide) (he : starEach (e :: es) X.env = (false, eval e X.env) :: starEach es X.env := by rfl) (hpl : (backTo pos (starEach es X.env)).any (·.1) = false := by rfl) :
    PE X (.Call (.Name x p) (e :: es) [] pos) (tf C W (fMake c q.ns.length np z F fs dd)) := pe_imp (pe_makeSD M F' hr hg hm hb hd (passAt tk) ha hdb he hpl) fun _ _ _ h => tf_make hq hdd h
end
end OL

/-! The O layer, 9: fields. -/
namespace OL
open PySem PySem.Spec PyProof.Rows L2

/-! ### attributes -/
theorem putF_keys (f : Str) (v : V) : ∀ fs : List (Str × V), (fs.map (·.1)).Nodup → ((putF f v fs).map (·.1)).Nodup ∧ ∀ g ∈ (putF f v fs).map (·.1), g = f ∨ g ∈ fs.map (·.1)
  | [], _ => ⟨by simp [putF], fun g h => .inl (by simpa [putF] using h)⟩
  | (k, x) :: r, nd => by
    have nd' : k ∉ r.map (·.1) ∧ (r.map (·.1)).Nodup := List.nodup_cons.mp (by simpa using nd)
    obtain ⟨i1, i2⟩ := putF_keys f v r nd'.2
    unfold putF
    by_cases hk : k = f
    · rw [if_pos hk]
      exact ⟨by simpa using nd, fun g h => .inr (by simpa using h)⟩
    · rw [if_neg hk]
      refine ⟨List.nodup_cons.mpr ⟨fun h => ?_, i1⟩, fun g h => ?_⟩
      · rcases i2 k h with z | z
        · exact hk z
        · exact nd'.1 z
      · rcases List.mem_cons.mp h with z | z
        · exact .inr (by rw [z]; exact List.mem_cons_self)
        · exact (i2 g z).imp id fun y => List.mem_cons_of_mem _ y
theorem nodup_sub {α : Type} [DecidableEq α] : ∀ {l m : List α}, l.Nodup → (∀ x ∈ l, x ∈ m) → l.length ≤ m.length
  | [], _, _, _ => Nat.zero_le _
  | x :: r, m, nd, h => by
    obtain ⟨n1, n2⟩ := List.nodup_cons.mp nd
    have hx := h x List.mem_cons_self
    have q := nodup_sub (l := r) (m := m.erase x) n2 fun y hy => (List.mem_erase_of_ne (fun e => n1 (by rw [← e]; exact hy))).mpr (h y (List.mem_cons_of_mem _ hy))
    rw [List.length_erase_of_mem hx] at q
    have := List.length_pos_of_mem hx
    simp only [List.length_cons]
    omega

section
variable {C : Ct} {H : Hp} {Z P : As} {env : Env} {σ : L2.St}
theorem get_snoc (q : Pj) : ∀ (p : List Pj) (d0 : D), D.get (p ++ [q]) d0 = (D.get p d0).bind (D.get [q])
  | [], d0 => by simp [D.get]
  | pj :: p, d0 => by
    cases pj with
    | fld c j =>
      cases d0 with
      | ins c' ds =>
        show (if c = c' then (ds[j]?).bind (D.get (p ++ [q])) else none) = (if c = c' then (ds[j]?).bind (D.get p) else none).bind (D.get [q])
        by_cases h : c = c'
        · rw [if_pos h, if_pos h]
          cases ds[j]? with
          | none => rfl
          | some d => exact get_snoc q p d
        · rw [if_neg h, if_neg h]; rfl
      | _ => rfl
    | idx j =>
      cases d0 with
      | lst ds =>
        show (ds[j]?).bind (D.get (p ++ [q])) = ((ds[j]?).bind (D.get p)).bind (D.get [q])
        cases ds[j]? with
        | none => rfl
        | some d => exact get_snoc q p d
      | _ => rfl
    | key k =>
      cases d0 with
      | dct ks ds =>
        show ((ks.idxOf? k).bind fun i => (ds[i]?).bind (D.get (p ++ [q]))) = ((ks.idxOf? k).bind fun i => (ds[i]?).bind (D.get p)).bind (D.get [q])
        cases ks.idxOf? k with
        | none => rfl
        | some i =>
          show (ds[i]?).bind (D.get (p ++ [q])) = ((ds[i]?).bind (D.get p)).bind (D.get [q])
          cases ds[i]? with
          | none => rfl
          | some d => exact get_snoc q p d
      | _ => rfl
theorem put_snoc (q : Pj) (d' : D) : ∀ (p : List Pj) (d0 d1 : D), D.get p d0 = some d1 → D.put d' (p ++ [q]) d0 = D.put (D.put d' [q] d1) p d0
  | [], d0, d1, h => by
    cases (show some d0 = some d1 from h)
    rfl
  | pj :: p, d0, d1, h => by
    cases pj with
    | fld c j =>
      cases d0 with
      | ins c' ds =>
        have h' : (if c = c' then (ds[j]?).bind (D.get p) else none) = some d1 := h
        by_cases hc : c = c'
        · rw [if_pos hc] at h'
          obtain ⟨x, e1, e2⟩ := Option.bind_eq_some_iff.mp h'
          show D.ins c' (ds.set j (D.put d' (p ++ [q]) (ds.getD j .mvd))) = D.ins c' (ds.set j (D.put (D.put d' [q] d1) p (ds.getD j .mvd)))
          rw [getD_of e1, put_snoc q d' p x d1 e2]
        · rw [if_neg hc] at h'; cases h'
      | _ => cases h
    | idx j =>
      cases d0 with
      | lst ds =>
        obtain ⟨x, e1, e2⟩ := Option.bind_eq_some_iff.mp (show (ds[j]?).bind (D.get p) = some d1 from h)
        show D.lst (ds.set j (D.put d' (p ++ [q]) (ds.getD j .mvd))) = D.lst (ds.set j (D.put (D.put d' [q] d1) p (ds.getD j .mvd)))
        rw [getD_of e1, put_snoc q d' p x d1 e2]
      | _ => cases h
    | key k =>
      cases d0 with
      | dct ks ds =>
        obtain ⟨i, ei, h2⟩ := Option.bind_eq_some_iff.mp (show ((ks.idxOf? k).bind fun i => (ds[i]?).bind (D.get p)) = some d1 from h)
        obtain ⟨x, e1, e2⟩ := Option.bind_eq_some_iff.mp h2
        show (match ks.idxOf? k with | some i => D.dct ks (ds.set i (D.put d' (p ++ [q]) (ds.getD i .mvd))) | none => .dct ks ds) = (match ks.idxOf? k with | some i => D.dct ks (ds.set i (D.put (D.put d' [q] d1) p (ds.getD i .mvd))) | none => .dct ks ds)
        rw [ei]
        show D.dct ks (ds.set i (D.put d' (p ++ [q]) (ds.getD i .mvd))) = D.dct ks (ds.set i (D.put (D.put d' [q] d1) p (ds.getD i .mvd)))
        rw [getD_of e1, put_snoc q d' p x d1 e2]
      | _ => cases h
theorem eget_snoc {i : Nat} {p : List Pj} {q : Pj} {d : D} (h : eget env i p = some d) : eget env i (p ++ [q]) = D.get [q] d := by
  obtain ⟨d0, e0, g⟩ := Option.bind_eq_some_iff.mp h
  unfold eget
  rw [e0]
  show D.get (p ++ [q]) d0 = _
  rw [get_snoc, g]
  rfl
theorem eput_snoc {i : Nat} {p : List Pj} {q : Pj} {d d' : D} (h : eget env i p = some d) : eput env i (p ++ [q]) d' = eput env i p (D.put d' [q] d) := by
  obtain ⟨d0, e0, g⟩ := Option.bind_eq_some_iff.mp h
  unfold eput
  rw [getD_of e0, put_snoc q d' p d0 d g]
/-- a field of what a place holds, as a place -/
theorem lens_fld {i : Nat} {p : List Pj} {c : Nat} {ds : List D} {v0 : V} {P0 : As} (l : Lens C H Z env σ P i p (.ins c ds) v0 P0) (g : eget env i p = some (.ins c ds)) :
    ∃ a os, v0 = .ref a ∧ InsAt C H a c os ∧ ∀ j d, ds[j]? = some d → d.mv = false → ∃ v P1, os[j]? = some (some v) ∧ eget env i (p ++ [.fld c j]) = some d ∧ Lens C H Z env σ P i (p ++ [.fld c j]) d v P1 := by
  obtain ⟨sb, ⟨a, os, ev, pa, ia, r⟩, up⟩ := l
  refine ⟨a, os, ev, ia, fun j d ed nm => ?_⟩
  obtain ⟨v, P1, eo, s1, rd, up1⟩ := repL_at r ed (mv_ne nm)
  refine ⟨v, P1, eo, ?_, fun b x => sb b (s1 b x).1, rd, fun H' Z' Q d' P1' k ok z q r' dj => ?_⟩
  · rw [eget_snoc g]
    show (if c = c then (ds[j]?).bind (D.get []) else none) = some d
    rw [if_pos rfl, ed]
    rfl
  · have na : ¬ P1 a := fun x => (s1 a x).2 rfl
    have nQ : ¬ Q a := fun x => na (q a x (sb a pa))
    have r2 := up1 H' Z' Q d' (some v) P1' k ok z (fun b x y => q b x (sb b y.1)) (.inr ⟨v, rfl, r'⟩) fun b x y => dj b x ⟨sb b y.1.1, y.2⟩
    rw [set_same_opt eo] at r2
    rw [eput_snoc g]
    have e1 : D.put d' [.fld c j] (.ins c ds) = .ins c (ds.set j d') := rfl
    rw [e1]
    have r3 := up H' Z' Q (.ins c (ds.set j d')) (uni (mns P0 P1) P1') k ok z (fun b x y => (s1 b (q b x y)).1) ⟨a, os, ev, .inl ⟨pa, na⟩, insAt_keep ia k ok nQ, repL_mono r2 fun b x => by
      rcases x with x | x
      · exact ⟨.inl ⟨x.1.1, x.2⟩, x.1.2⟩
      · exact ⟨.inr x, fun e => by subst e; exact dj b x ⟨sb b pa, na⟩⟩⟩ fun b x y => by
      rcases x with x | x
      · exact y.2 x.1
      · exact dj b x ⟨y.1, fun w => y.2 (s1 b w).1⟩
    refine repL_mono r3 fun b x => ?_
    rcases x with ⟨x1, x2⟩ | ⟨x1, x2⟩ | x
    · exact .inl ⟨x1, fun w => x2 (s1 b w).1⟩
    · exact .inl ⟨sb b x1, x2⟩
    · exact .inr x
end

def fFld (c j : Nat) (fo : SE) : SE := fun env => (fo env).bind fun r e t => match r with
  | .val (.fin c' ds) => if c' = c then (match ds[j]? with
    | some d => if d.mv then .bad else .ok (.val d) e t
    | none => .bad) else .bad
  | .val (.ins c' ds) => if c' = c then (match ds[j]? with
    | some d => if d.mv then .bad else .ok (.val d) e t
    | none => .bad) else .bad
  | .plc i p => match eget e i p with
    | some (.ins c' ds) => if c' = c then (match ds[j]? with
      | some d => if d.mv then .bad else if d.st then .ok (.val d) e t else .ok (.plc i (p ++ [.fld c j])) e t
      | none => .bad) else .bad
    | _ => .bad
  | _ => .bad
section
variable {C : Ct} {W : WX} {σ : L2.St} {H : Hp} {Q : VK} {fo : SE} {K : PySem.W.Frag} {q : Cli} {c j : Nat} {f : Str}
theorem insAt_dict {a : Addr} {os : List (Option V)} (ia : InsAt C H a c os) (hq : C.cl c = some q) (hs : q.sl = false) : ∃ dx fs, H a = some (.ins q.ad dx fs) ∧ os = (q.ns.map fun n => fs.lookup n) ∧ (fs.map (·.1)).Nodup ∧ ∀ n ∈ fs.map (·.1), n ∈ q.ns := by
  obtain ⟨q', hq', ⟨_, dx, fs, h1, h2, h3, h4⟩ | ⟨s, _⟩⟩ := ia
  · rw [hq] at hq'; cases hq'
    exact ⟨dx, fs, h1, h2, h3, h4⟩
  · rw [hq] at hq'; cases hq'
    rw [hs] at s; cases s
/-- a field as it is read -/
theorem fld_read {a : Addr} {os : List (Option V)} {v : V} (ia : InsAt C H a c os) (hq : C.cl c = some q) (hs : q.sl = false) (hj : q.ns[j]? = some f) (eo : os[j]? = some (some v)) : ∃ dx fs, H a = some (.ins q.ad dx fs) ∧ fs.lookup f = some v := by
  obtain ⟨dx, fs, h1, h2, _, _⟩ := insAt_dict ia hq hs
  refine ⟨dx, fs, h1, ?_⟩
  rw [h2, List.getElem?_map, hj] at eo
  exact Option.some.inj eo
theorem tf_fld (hq : C.cl c = some q) (hs : q.sl = false) (hj : q.ns[j]? = some f) (cl : Cls K q.ad) (na : NoAttr K q.ad f) (h : tf C W (fFld c j fo) σ H Q) : tFld K (tf C W fo) f σ H Q := by
  obtain ⟨env, P, Z, rl, ok, h⟩ := h
  refine ⟨env, P, Z, rl, ok, ?_⟩
  unfold fFld at h
  cases ea : fo env with
  | bad => rw [ea] at h; exact h
  | exc x ds e => rw [ea] at h; exact h
  | ok r e t =>
    simp only [ea, O.bind] at h
    intro v0 P1 Pv1 Z1 H1 p1
    cases r with
    | val d0 =>
      have rp : Rep C H1 Z1 d0 v0 Pv1 := p1.res
      cases d0 with
      | fin c' ds =>
        by_cases hc : c' = c
        · subst hc
          simp only [if_true] at h
          cases ed : ds[j]? with
          | none => simp only [ed] at h
          | some d =>
            simp only [ed] at h
            cases m : d.mv with
            | true => simp [m] at h
            | false =>
              simp only [m] at h
              obtain ⟨a, os, ev, pa, ia, r⟩ := rp
              obtain ⟨v, P2, eo, s1, rd, _⟩ := repL_at r ed (mv_ne m)
              obtain ⟨dx, fs, h1, h2⟩ := fld_read ia hq hs hj eo
              exact ⟨a, q.ad, dx, fs, v, ev, h1, cl, na, h2, h v P1 emp Z1 H1 ⟨p1.rl, rep_mono rd s1, fun _ _ z => z.elim, p1.ch.sub fun a x => x.elim .inl fun z => z.elim, p1.pu⟩⟩
        · simp only [hc, if_false] at h
      | ins c' ds =>
        by_cases hc : c' = c
        · subst hc
          simp only [if_true] at h
          cases ed : ds[j]? with
          | none => simp only [ed] at h
          | some d =>
            simp only [ed] at h
            cases m : d.mv with
            | true => simp [m] at h
            | false =>
              simp only [m] at h
              obtain ⟨a, os, ev, pa, ia, r⟩ := rp
              obtain ⟨v, P2, eo, s1, rd, _⟩ := repL_at r ed (mv_ne m)
              obtain ⟨dx, fs, h1, h2⟩ := fld_read ia hq hs hj eo
              exact ⟨a, q.ad, dx, fs, v, ev, h1, cl, na, h2, h v P1 P2 Z1 H1 ⟨p1.rl, rd, fun a x y => p1.dj a x (s1 a y).1, p1.ch.sub fun a x => x.imp id fun y => (s1 a y).1, p1.pu⟩⟩
        · simp only [hc, if_false] at h
      | _ => exact h.elim
    | plc i p =>
      simp only at h
      cases eg : eget e i p with
      | none => simp only [eg] at h
      | some d0 =>
        cases d0 with
        | ins c' ds =>
          simp only [eg] at h
          by_cases hc : c' = c
          · subst hc
            simp only [if_true] at h
            cases ed : ds[j]? with
            | none => simp only [ed] at h
            | some d =>
              simp only [ed] at h
              cases m : d.mv with
              | true => simp [m] at h
              | false =>
                simp only [m] at h
                obtain ⟨P0, l⟩ := place p1.res p1.rl rfl (show rdR e (.plc i p) = some (.ins c' ds) by simp [rdR, eg, D.mv])
                obtain ⟨a, os, ev, ia, lf⟩ := lens_fld l eg
                obtain ⟨v, P2, eo, g2, l2⟩ := lf j d ed m
                obtain ⟨dx, fs, h1, h2⟩ := fld_read ia hq hs hj eo
                refine ⟨a, q.ad, dx, fs, v, ev, h1, cl, na, h2, ?_⟩
                have c1 : Ch P Z H (uni P1 emp) Z1 H1 := p1.ch.sub fun a x => x.elim .inl fun z => z.elim
                cases s : d.st with
                | true =>
                  simp only [s, Bool.false_eq_true, if_false, if_true] at h
                  exact h v P1 emp Z1 H1 ⟨p1.rl, rep_st emp s l2.2.1, fun _ _ z => z.elim, c1, p1.pu⟩
                | false =>
                  simp only [s, Bool.false_eq_true, if_false] at h
                  refine h v P1 emp Z1 H1 ⟨p1.rl, ?_, fun _ _ z => z.elim, c1, p1.pu⟩
                  cases p with
                  | nil => exact ⟨d, P2, m, g2, l2⟩
                  | cons pj p => exact ⟨d, P2, m, g2, l2⟩
          · simp only [hc, if_false] at h
        | _ => simp only [eg] at h
end
section
variable {X : Cx} {C : Ct} {W : WX} {e : Expr} {fo : SE} {q : Cli} {c j : Nat} {f : Str} {pos : Pos}
theorem e_fld (he : PE X e (tf C W fo)) (hq : C.cl c = some q) (hs : q.sl = false) (hj : q.ns[j]? = some f) (cl : Cls X.K q.ad) (na : NoAttr X.K q.ad f) (hb : attributeBase e f X.env (eval e X.env) = eval e X.env := by rfl) : PE X (.Attribute e f pos) (tf C W (fFld c j fo)) :=
  pe_imp (pe_fld he hb) fun _ _ _ h => tf_fld hq hs hj cl na h
end
end OL

/-! The O layer, 10: fields stored; a place's object changed; properties. -/
namespace OL
open PySem PySem.Spec PyProof.Rows L2

/-! ### what stands at a place is changed -/
section
variable {C : Ct} {H H' : Hp} {Z : As} {env : Env} {σ : L2.St} {P : As}
theorem one_ok {a : Addr} (ok : OkP P Z H) (pa : P a) : OkP (one a) Z H := fun b x => by rw [show b = a from x]; exact ok a pa
theorem keep_upd {a : Addr} {o : HO} : Keep (one a) H (upd H a o) := fun b u e n => by rw [upd_ne (show b ≠ a from n)]; exact e
/-- the object at a, ours, written -/
theorem ch_upd {a : Addr} {o : HO} (ok : OkS P Z H) (pa : P a) (w : Own o) : Ch P Z H P Z (upd H a o) where
  keep := keep_upd.mono fun b x => by rw [show b = a from x]; exact pa
  new := fun _ x => .inl x
  zle := fun _ x => x
  znew := fun _ x => .inl x
  ok := ⟨fun b x => by
    by_cases hb : b = a
    · subst hb; exact ⟨(ok.at_ b x).1, o, upd_same, w⟩
    · obtain ⟨nz, u, e, w'⟩ := ok.at_ b x
      exact ⟨nz, u, by rw [upd_ne hb]; exact e, w'⟩, fun b z e => by
    by_cases hb : b = a
    · subst hb; rw [upd_same] at e; exact absurd e (by simp)
    · rw [upd_ne hb] at e; exact ok.zt b z e⟩
/-- what is taken over with it -/
theorem Ch.add {P1 T Z1 : As} {H1 : Hp} {Pq Zq : As} {Hq : Hp} (c : Ch P Z H (uni P1 T) Z1 H1) (c2 : Ch (uni P1 T) Z1 H1 Pq Zq Hq) : Ch P Z H Pq Zq Hq := c.trans0 c2
/-- frozen from now on -/
theorem ch_fz {P1 T : As} (ok : OkS (uni P1 T) Z H) (dj : Dis P1 T) : Ch (uni P1 T) Z H P1 (uni Z T) H where
  keep := keep_refl
  new := fun _ x => .inl (.inl x)
  zle := fun _ x => .inl x
  znew := fun _ x => x.imp id fun y => .inl (.inr y)
  ok := ⟨fun a x => ⟨fun y => y.elim (ok.at_ a (.inl x)).1 (dj a x), (ok.at_ a (.inl x)).2⟩, fun a x => by
    rcases x with x | x
    · exact ok.zt a x
    · obtain ⟨_, u, e, _⟩ := ok.at_ a (.inr x)
      rw [e]; simp⟩
end

/-! ### self.f = e -/
/-- z: the value is frozen -/
def sSetF (c j i : Nat) (z : Bool) (fv : SE) : SS := fun env => (fv env).bind fun rv e1 t1 => match tkR e1 rv with
  | none => .bad
  | some (d, e2) => match e2[i]? with
    | some (.ins c' ds) => if c' = c ∧ j < ds.length then .ok .nx (e2.set i (.ins c (ds.set j (if z then d.fz else d)))) true else .bad
    | _ => .bad
section
variable {C : Ct} {fx : Nat → Bool} {W : WX} {D : Ends} {σ : L2.St} {H : Hp} {fv : SE} {K : PySem.W.Frag} {q : Cli} {c j i : Nat} {f : Str}
theorem insAt_put {a dx : Addr} {fs : List (Str × V)} {os : List (Option V)} {y : V} (hq : C.cl c = some q) (hs : q.sl = false) (hj : q.ns[j]? = some f) (hnd : q.ns.Nodup) (h1 : H a = some (.ins q.ad dx fs)) (h2 : os = q.ns.map fun n => fs.lookup n) (h3 : (fs.map (·.1)).Nodup) (h4 : ∀ n ∈ fs.map (·.1), n ∈ q.ns) :
    InsAt C (upd H a (.ins q.ad dx (putF f y fs))) a c (os.set j (some y)) := by
  obtain ⟨k1, k2⟩ := putF_keys f y fs h3
  refine ⟨q, hq, .inl ⟨hs, dx, putF f y fs, upd_same, ?_, k1, fun n hn => ?_⟩⟩
  · subst h2
    apply List.ext_getElem?
    intro i
    rw [List.getElem?_map]
    by_cases e : j = i
    · subst e
      rw [List.getElem?_set_self (by rw [List.length_map]; exact (List.getElem?_eq_some_iff.mp hj).1), hj]
      show _ = some ((putF f y fs).lookup f)
      rw [lookup_putF, if_pos rfl]
    · rw [List.getElem?_set_ne e, List.getElem?_map]
      cases en : q.ns[i]? with
      | none => rfl
      | some n =>
        show some (fs.lookup n) = some ((putF f y fs).lookup n)
        rw [lookup_putF, if_neg fun z => e ?_]
        subst z
        obtain ⟨l1, e1⟩ := List.getElem?_eq_some_iff.mp hj
        obtain ⟨l2, e2⟩ := List.getElem?_eq_some_iff.mp en
        exact (List.getElem_inj hnd).mp (e1.trans e2.symm)
  · rcases k2 n hn with z | z
    · rw [z]; exact List.mem_of_getElem? hj
    · exact h4 n z
theorem fs_len {fs : List (Str × V)} {ns : List Str} (h3 : (fs.map (·.1)).Nodup) (h4 : ∀ n ∈ fs.map (·.1), n ∈ ns) (hl : ns.length < 900) : fs.length < 1000 := by
  have := nodup_sub h3 h4
  rw [List.length_map] at this
  omega
theorem ts_setF {x : Nat} (hq : C.cl c = some q) (hs : q.sl = false) (hj : q.ns[j]? = some f) (hnd : q.ns.Nodup) (hl : q.ns.length < 900) (cl : Cls K q.ad) (na : NoAttr K q.ad f) {z : Bool} (h : ts C fx W (sSetF c j i z fv) D σ H) : sFld K (tVar i) (tf C W fv) f D σ H := by
  obtain ⟨env, P, Z, rl, ok, h⟩ := h
  refine ⟨env, P, Z, rl, ok, ?_⟩
  unfold sSetF at h
  cases ea : fv env with
  | bad => rw [ea] at h; exact h
  | exc x ds e => rw [ea] at h; exact fun cls dd P' Px Z' H' q => h cls dd σ P' Px Z' H' q.xs
  | ok rv e1 t1 =>
    simp only [ea, O.bind] at h
    intro y P1 Pv1 Z1 H1 p1
    cases et : tkR e1 rv with
    | none => simp only [et] at h; exact h.elim
    | some x =>
      obtain ⟨d, e2⟩ := x
      simp only [et] at h
      obtain ⟨P2, Pd, rl2, rd, dj, sb⟩ := take p1.res p1.rl p1.dj et
      have c1 : Ch P Z H (uni P2 Pd) Z1 H1 := p1.ch.sub sb
      cases e3 : e2[i]? with
      | none => simp only [e3] at h; exact h.elim
      | some d0 =>
        cases d0 with
        | ins c' ds =>
          simp only [e3] at h
          by_cases hc : c' = c ∧ j < ds.length
          · rw [if_pos hc] at h
            obtain ⟨rfl, hjl⟩ := hc
            obtain ⟨v0, P0, ev0, s0, ⟨a, os, ea0, pa, ia, r⟩, up⟩ := repL_at rl2 e3 (by simp)
            obtain ⟨dx, fs, h1, h2, h3, h4⟩ := insAt_dict ia hq hs
            refine ⟨v0, ev0, a, q.ad, dx, fs, ea0, h1, cl, na, fs_len h3 h4 hl, ?_⟩
            have okA : OkS (uni P2 Pd) Z1 H1 := c1.ok
            have ia' := insAt_put (H := H1) (y := y) hq hs hj hnd h1 h2 h3 h4
            have q1 : OkP (one a) Z1 H1 := one_ok okA.at_ (.inl (s0 a pa))
            have r' : RepL C (upd H1 a (.ins q.ad dx (putF f y fs))) Z1 ds os (but P0 a) := repL_keep r keep_upd q1 (fun b x y => y.2 x) fun _ x => x
            have dPa : Dis (one a) Pd := fun b x w => by rw [show b = a from x] at w; exact dj a (s0 a pa) w
            have rd' : Rep C (upd H1 a (.ins q.ad dx (putF f y fs))) Z1 d y Pd := rep_keep rd keep_upd q1 dPa fun _ x => x
            have cu : Ch P Z H (uni P2 Pd) Z1 (upd H1 a (.ins q.ad dx (putF f y fs))) := c1.trans0 (ch_upd okA (.inl (s0 a pa)) trivial)
            have dP0 : ∀ b, Pd b → ¬ P0 b := fun b x w => dj b (s0 b w) x
            cases z with
            | false =>
              simp only [Bool.false_eq_true, if_false] at h
              have r2 := repL_put r' hjl rd' fun b x w => dP0 b x w.1
              have r3 := up (upd H1 a (.ins q.ad dx (putF f y fs))) Z1 (one a) (.ins c' (ds.set j d)) (some v0) (uni P0 Pd) keep_upd q1 (fun _ x => x) (fun b x w => by rw [show b = a from x]; exact pa)
                (.inr ⟨v0, rfl, ⟨a, _, ea0, .inl pa, ia', repL_mono r2 fun b x => by
                  rcases x with x | x
                  · exact ⟨.inl x.1, x.2⟩
                  · exact ⟨.inr x, fun e => by subst e; exact dP0 b x pa⟩⟩⟩) fun b x w => by
                  rcases x with x | x
                  · exact w.2 x
                  · exact dj b w.1 x
              rw [set_same_opt ev0] at r3
              refine h σ _ Z1 _ ⟨r3, cu.sub fun b x => ?_, Fix.refl⟩
              rcases x with x | x | x
              · exact .inl x.1
              · exact .inl (s0 b x)
              · exact .inr x
            | true =>
              simp only [if_true] at h
              have cz := cu.trans0 (ch_fz cu.ok dj)
              have rz := rep_fz (Z' := uni Z1 Pd) rd' (fun _ x => .inl x) fun _ x => .inr x
              have r2 := repL_put (repL_keep r' keep_refl OkP.emp (fun _ z => z.elim) fun _ x => .inl x) hjl rz fun b x w => x.elim
              have r3 := up (upd H1 a (.ins q.ad dx (putF f y fs))) (uni Z1 Pd) (one a) (.ins c' (ds.set j d.fz)) (some v0) P0 keep_upd q1 (fun _ x => .inl x) (fun b x w => by rw [show b = a from x]; exact pa)
                (.inr ⟨v0, rfl, ⟨a, _, ea0, pa, ia', repL_mono r2 fun b x => x.elim id fun w => w.elim⟩⟩) fun b x w => w.2 x
              rw [set_same_opt ev0] at r3
              refine h σ _ _ _ ⟨r3, cz.sub fun b x => ?_, Fix.refl⟩
              rcases x with x | x
              · exact x.1
              · exact s0 b x
          · rw [if_neg hc] at h; exact h.elim
        | _ => simp only [e3] at h; exact h.elim
end
section
variable {X : Cx} {C : Ct} {fx : Nat → Bool} {W : WX} {value : Expr} {fv : SE} {q : Cli} {c j i : Nat} {f x : Str} {pos pos' po : Pos}
theorem s_fld {z : Bool} (hN : X.N[i]? = some x) (hv : Vis X.env.scope x) (he : PE X value (tf C W fv)) (hq : C.cl c = some q) (hs : q.sl = false) (hj : q.ns[j]? = some f) (cl : Cls X.K q.ad) (na : NoAttr X.K q.ad f) (hnd : q.ns.Nodup := by exact of_decide_eq_true rfl) (hl : q.ns.length < 900 := by exact of_decide_eq_true rfl)
    (hd : (x == ("__debug__" : Str)) = false := by decide) (hcd : (x == ("__classdict__" : Str)) = false := by decide) (hsw : swapsWith value (some (.Attribute (.Name x po) f pos')) pos.line X.env = pure false := by rfl) : PS X (.Assign [.Attribute (.Name x po) f pos'] value pos) (ts C fx W (sSetF c j i z fv)) :=
  ps_imp (ps_fld (pe_var hN hv hd hcd) he hsw) fun _ _ _ h => ts_setF (x := 0) hq hs hj hnd hl cl na h
end
end OL

/-! The O layer, 11: what is walked. -/
namespace OL
open PySem PySem.Spec PyProof.Rows L2

section
variable {C : Ct} {H H' : Hp} {Z Z' : As}
theorem frl_sq {a : Addr} {vs : List V} (h : FrL C H Z a vs) : SqL C.K H a vs := by
  rcases h with ⟨h, _⟩ | ⟨o, h⟩ | h
  · exact .inl (.inl h)
  · exact .inl (.inr ⟨o, h⟩)
  · exact .inr h
/-- a list that stays as it is while it is walked; a tuple -/
inductive Seq where
  | l (ds : List D) | fl (ds : List D) | t (ds : List D)
def Seq.d : Seq → D
  | .l ds => .lst ds
  | .fl ds => .fls ds
  | .t ds => .tup ds
def Seq.its : Seq → List D
  | .l ds => ds
  | .fl ds => ds
  | .t ds => ds
def Seq.ok : Seq → Bool
  | .l ds => stL ds
  | .fl _ => true
  | .t ds => stL ds
/-- the sequence at a -/
def SqAt (C : Ct) (H : Hp) (a : Addr) (vs : List V) : Seq → Prop
  | .l _ => SqL C.K H a vs
  | .fl _ => SqL C.K H a vs
  | .t _ => SqT C.K H a vs
theorem stL_at : ∀ {ds : List D} {i : Nat} {d : D}, stL ds = true → ds[i]? = some d → d.st = true
  | [], _, _, _, h => by cases h
  | d0 :: ds, 0, d, s, h => by
    have s' : (d0.st && stL ds) = true := s
    rw [Bool.and_eq_true] at s'
    cases (show some d0 = some d from h)
    exact s'.1
  | d0 :: ds, i + 1, d, s, h => by
    have s' : (d0.st && stL ds) = true := s
    rw [Bool.and_eq_true] at s'
    exact stL_at s'.2 (by simpa using h)
theorem repL_stAt {ds : List D} {os : List (Option V)} {P : As} {i : Nat} {d : D} (r : RepL C H Z ds os P) (s : stL ds = true) (h : ds[i]? = some d) : ∃ v, os[i]? = some (some v) ∧ Rep C H Z d v emp := by
  have hs := stL_at s h
  obtain ⟨v, P1, e, _, rd, _⟩ := repL_at r h fun z => by subst z; cases hs
  exact ⟨v, e, rep_st emp hs rd⟩
/-- its items' values -/
theorem seq_at {s : Seq} {v : V} {P : As} (hs : s.ok = true) (r : Rep C H Z s.d v P) : ∃ (a : Addr) (vs : List V), v = .ref a ∧ SqAt C H a vs s ∧ vs.length = s.its.length ∧ ∀ (i : Nat) (d : D), s.its[i]? = some d → ∃ x : V, vs[i]? = some x ∧ Rep C H Z d x emp := by
  cases s with
  | l ds =>
    obtain ⟨a, vs, e, _, h, r⟩ := r
    refine ⟨a, vs, e, .inl (.inl h), (show vs.length = ds.length by simpa using repL_len r), fun i d hd => ?_⟩
    obtain ⟨x, ex, rx⟩ := repL_stAt r hs hd
    exact ⟨x, by simpa using ex, rx⟩
  | t ds =>
    obtain ⟨a, vs, e, h, r⟩ := r
    refine ⟨a, vs, e, h, (show vs.length = ds.length by simpa using repL_len r), fun i d hd => ?_⟩
    obtain ⟨x, ex, rx⟩ := repL_stAt r hs hd
    exact ⟨x, by simpa using ex, rx⟩
  | fl ds =>
    obtain ⟨a, vs, e, h, r⟩ := r
    have hl : vs.length = ds.length := by simpa using repL_len r
    refine ⟨a, vs, e, frl_sq h, hl, fun i d hd => ?_⟩
    have hi : i < ds.length := (List.getElem?_eq_some_iff.mp hd).1
    cases m : d.mv with
    | true =>
      have e : d = .mvd := by cases d <;> first | rfl | cases m
      subst e
      exact ⟨vs[i]'(by omega), by simp [hl, hi], trivial⟩
    | false =>
      obtain ⟨x, P1, ex, s1, rd, _⟩ := repL_at r hd (mv_ne m)
      exact ⟨x, by simpa using ex, rep_mono rd s1⟩
theorem rep_keepE {d : D} {v : V} {P : As} (r : Rep C H Z d v P) (k : Keep emp H H') : Rep C H' Z d v P := rep_keep r k OkP.emp (fun _ z => z.elim) fun _ x => x
/-- a walk over what stays, item by item -/
theorem iter_stay {s : Seq} {a : Addr} {J : It} (hs : s.ok = true) (hgo : ∀ i H vs x, SqAt C H a vs s → vs[i]? = some x → J.go i H) (hst : ∀ n H vs, SqAt C H a vs s → vs.length ≤ n → J.stop n H) (hy : ∀ i H x H' vs, J.yld i H x H' → SqAt C H a vs s → H' = H ∧ vs[i]? = some x) :
    IterD C J s.its fun _ H Z P => Rep C H Z s.d (.ref a) P where
  keep := fun r k ok dj z => rep_keep r k ok dj z
  stop := fun r => by
    obtain ⟨b, vs, e, sq, l, _⟩ := seq_at hs r
    cases e
    exact hst _ _ vs sq (by omega)
  go := fun {i _ _ _} hi r => by
    obtain ⟨b, vs, e, sq, l, _⟩ := seq_at hs r
    cases e
    exact hgo i _ vs (vs[i]'(by omega)) sq (by simp [l, hi])
  yld := fun {i H Z P x H' d} hd r ok y => by
    obtain ⟨b, vs, e, sq, l, it⟩ := seq_at hs r
    cases e
    obtain ⟨rfl, ex⟩ := hy i H x H' vs y sq
    obtain ⟨x', ex', rx⟩ := it i d hd
    rw [ex] at ex'; cases ex'
    exact ⟨emp, P, keep_refl, rx, r, fun _ z => z.elim, fun a z => z.elim (fun w => w.elim) .inl, ok.sub fun a z => z.elim (fun w => w.elim) id⟩
theorem iter_list {s : Seq} {a : Addr} (hs : s.ok = true) (hl : ∀ H vs, SqAt C H a vs s → SqL C.K H a vs) (hl2 : ∀ H vs, SqL C.K H a vs → SqAt C H a vs s) : IterD C (Itl C.K a) s.its fun _ H Z P => Rep C H Z s.d (.ref a) P :=
  iter_stay hs (fun i H vs x q e => ⟨vs, x, hl H vs q, e⟩) (fun n H vs q e => ⟨vs, hl H vs q, e⟩) fun i H x H' vs y q => ⟨y.1, y.2 vs (hl H vs q)⟩
theorem iter_tup {ds : List D} {a : Addr} (hs : stL ds = true) : IterD C (Itt C.K a) ds fun _ H Z P => Rep C H Z (.tup ds) (.ref a) P :=
  iter_stay (s := .t ds) hs (fun i H vs x q e => ⟨vs, x, q, e⟩) (fun n H vs q e => ⟨vs, q, e⟩) fun i H x H' vs y q => ⟨y.1, y.2 vs q⟩
/-- a list whose items are handed out for good -/
theorem iter_move {ds : List D} {a : Addr} {vs : List V} : IterD C (Itl C.K a) ds fun i H Z P => P a ∧ H a = some (.lst vs) ∧ RepL C H Z (ds.drop i) ((vs.drop i).map some) (but P a) where
  keep := fun ⟨p, h, r⟩ k ok dj z => ⟨p, k a _ h fun q => dj a q p, repL_keep r k ok (fun b x y => dj b x y.1) z⟩
  stop := fun ⟨p, h, r⟩ => by
    refine ⟨vs, .inl (.inl h), ?_⟩
    have := repL_len r
    simp at this
    omega
  go := fun {i _ _ _} hi ⟨p, h, r⟩ => by
    have := repL_len r
    simp only [List.length_map, List.length_drop] at this
    have hv : i < vs.length := by omega
    exact ⟨vs, vs[i], .inl (.inl h), by simp [hv]⟩
  yld := fun {i H Z P x H' d} hd ⟨p, h, r⟩ ok y => by
    obtain ⟨rfl, y2⟩ := y
    have ex := y2 vs (.inl (.inl h))
    obtain ⟨hi, e1⟩ := List.getElem?_eq_some_iff.mp hd
    obtain ⟨hv, e2⟩ := List.getElem?_eq_some_iff.mp ex
    rw [List.drop_eq_getElem_cons hi, e1, List.drop_eq_getElem_cons hv, e2] at r
    obtain ⟨o, os', P1, P2, eo, hd2, r2, s⟩ := r
    obtain ⟨eo1, eo2⟩ := List.cons.inj eo
    subst eo1 eo2
    have rd : Rep C H' Z d x P1 := by
      rcases hd2 with z | ⟨w, ew, z⟩
      · subst z; trivial
      · cases ew; exact z
    refine ⟨P1, fun b => P2 b ∨ b = a, keep_refl, rd, ⟨.inr rfl, h, repL_mono r2 fun b z => ⟨.inl z, (s.r b z).2⟩⟩, fun b z w => ?_, fun b z => .inl ?_, ok.sub fun b z => ?_⟩
    · rcases w with w | w
      · exact s.d b z w
      · exact (s.l b z).2 w
    · rcases z with z | z | z
      · exact (s.l b z).1
      · exact (s.r b z).1
      · rw [z]; exact p
    · rcases z with z | z | z
      · exact (s.l b z).1
      · exact (s.r b z).1
      · rw [z]; exact p
def rngD (lo : Int) (n : Nat) : List D := (List.range n).map fun i : Nat => .int (lo + (i : Int))
theorem iter_range {lo : Int} {n : Nat} : IterD C (Itr lo n) (rngD lo n) fun _ _ _ _ => True where
  keep := fun _ _ _ _ _ => trivial
  stop := fun _ => by simp [rngD, Itr]
  go := fun hi _ => by simpa [rngD, Itr] using hi
  yld := fun {i H Z P x H' d} hd _ ok y => by
    obtain ⟨rfl, rfl⟩ := y
    have e : d = .int (lo + i) := by
      unfold rngD at hd
      rw [List.getElem?_map] at hd
      obtain ⟨j, hj, e⟩ := Option.map_eq_some_iff.mp hd
      have : j = i := by
        obtain ⟨h1, h2⟩ := List.getElem?_eq_some_iff.mp hj
        rw [List.getElem_range] at h2
        exact h2.symm
      subst this
      exact e.symm
    subst e
    exact ⟨emp, emp, keep_refl, rfl, trivial, fun _ z => z.elim, fun a z => z.elim (fun w => w.elim) fun w => w.elim, ok.sub fun a z => z.elim (fun w => w.elim) fun w => w.elim⟩
end

/-! ### sources -/
def siList (fo : SE) : SI := fun env => (fo env).bind fun r e t => match r with
  | .val (.lst ds) => .ok (ds, none) e t
  | .val (.fls ds) => .ok (ds, none) e t
  | .plc i [] => match e[i]? with
    | some (.lst ds) => if stL ds then .ok (ds, some (i, .lst ds)) (e.set i .mvd) true else .bad
    | _ => .bad
  | _ => .bad
def siTup (fo : SE) : SI := fun env => (fo env).bind fun r e t => match r with
  | .val (.tup ds) => if stL ds then .ok (ds, none) e t else .bad
  | _ => .bad
section
variable {C : Ct} {W : WX} {σ : L2.St} {H : Hp} {fo : SE} {R' : It → Hp → Prop}
theorem ti_list (h : ti C W (siList fo) σ H R') : iList C.K (tf C W fo) σ H R' := by
  obtain ⟨env, P, Z, rl, ok, h⟩ := h
  refine ⟨env, P, Z, rl, ok, ?_⟩
  unfold siList at h
  cases ea : fo env with
  | bad => rw [ea] at h; exact h
  | exc x ds e => rw [ea] at h; exact h
  | ok r e t =>
    simp only [ea, O.bind] at h
    intro v P1 Pv Z1 H1 p1
    cases r with
    | val d =>
      have rp : Rep C H1 Z1 d v Pv := p1.res
      cases d with
      | lst ds =>
        obtain ⟨a, vs, ev, pa, ha, r⟩ := rp
        refine ⟨a, ev, ⟨vs, .inl (.inl ha)⟩, ?_⟩
        exact h _ _ P1 Pv Z1 H1 (iter_move (vs := vs)) ⟨pa, ha, r⟩ p1.rl p1.dj p1.ch (fun ht => ⟨(p1.pu ht).1, by simp, (p1.pu ht).2⟩) fun i d z => by cases z
      | fls ds =>
        obtain ⟨a, vs, ev, fr, r⟩ := id rp
        refine ⟨a, ev, ⟨vs, frl_sq fr⟩, ?_⟩
        subst ev
        exact h _ _ P1 Pv Z1 H1 (iter_list (s := .fl ds) rfl (fun _ _ q => q) fun _ _ q => q) rp p1.rl p1.dj p1.ch (fun ht => ⟨(p1.pu ht).1, by simp, (p1.pu ht).2⟩) fun i d z => by cases z
      | _ => exact h.elim
    | plc i p =>
      cases p with
      | cons _ _ => exact h.elim
      | nil =>
        have hv : σ[i]? = some (some v) := p1.res
        simp only at h
        cases e1 : e[i]? with
        | none => simp only [e1] at h
        | some d =>
          cases d with
          | lst ds =>
            simp only [e1] at h
            cases s : stL ds with
            | false => simp [s] at h
            | true =>
              simp only [s, if_true] at h
              obtain ⟨v', P2, P3, ev', sp, rd, rl2⟩ := repL_take p1.rl e1 (by simp)
              have e2 : v' = v := Option.some.inj (Option.some.inj (ev'.symm.trans hv))
              subst e2
              obtain ⟨a, vs, ev, pa, ha, r⟩ := id rd
              refine ⟨a, ev, ⟨vs, .inl (.inl ha)⟩, ?_⟩
              subst ev
              refine h _ _ P3 P2 Z1 H1 (iter_list (s := .l ds) s (fun _ _ q => q) fun _ _ q => q) rd rl2 (fun a x y => sp.d a y x) (p1.ch.sub fun a x => .inl (x.elim (sp.r a) (sp.l a))) (fun ht => by cases ht) fun j d z => ?_
              cases z
              exact ⟨_, hv, fun k H Z P r => r⟩
          | _ => simp only [e1] at h
theorem ti_tup (h : ti C W (siTup fo) σ H R') : iTup C.K (tf C W fo) σ H R' := by
  obtain ⟨env, P, Z, rl, ok, h⟩ := h
  refine ⟨env, P, Z, rl, ok, ?_⟩
  unfold siTup at h
  cases ea : fo env with
  | bad => rw [ea] at h; exact h
  | exc x ds e => rw [ea] at h; exact h
  | ok r e t =>
    simp only [ea, O.bind] at h
    intro v P1 Pv Z1 H1 p1
    cases r with
    | plc i p => exact h.elim
    | val d =>
      have rp : Rep C H1 Z1 d v Pv := p1.res
      cases d with
      | tup ds =>
        cases s : stL ds with
        | false => simp [s] at h
        | true =>
          simp only [s, if_true] at h
          obtain ⟨a, vs, ev, sq, r⟩ := id rp
          refine ⟨a, ev, ⟨vs, sq⟩, ?_⟩
          subst ev
          exact h _ _ P1 Pv Z1 H1 (iter_tup s) rp p1.rl p1.dj p1.ch (fun ht => ⟨(p1.pu ht).1, by simp, (p1.pu ht).2⟩) fun i d z => by cases z
      | _ => exact h.elim
end
/-- an int of bounded size, told so that nothing large is counted down -/
def nb (n : Nat) (i : Int) : Bool := Nat.ble i.natAbs n
theorem nb_le {n : Nat} {i : Int} (h : nb n i = true) : i.natAbs ≤ n := Nat.le_of_ble_eq_true h
theorem nb_ok {n : Nat} {i : Int} (h : i.natAbs ≤ n) : nb n i = true := Nat.ble_eq_true_of_le h
theorem nb_62 {j : Int} (h : nb 4611686018427387903 j = true) : -(2 ^ 62) ≤ j ∧ j < 2 ^ 62 := by
  have := nb_le h
  have e : ((2 : Int) ^ 62) = 4611686018427387904 := by decide
  rw [e]
  omega
def siRng1 (fs : SA) : SI := fun env => (fs env).bind fun rs e t => match rdRs e rs with
  | some [.int j] => if nb 4611686018427387903 j then .ok (rngD 0 j.toNat, none) e t else .bad
  | _ => .bad
def siRng2 (fs : SA) : SI := fun env => (fs env).bind fun rs e t => match rdRs e rs with
  | some [.int i, .int j] => if nb 4611686018427387903 i && nb 4611686018427387903 j then .ok (rngD i (j - i).toNat, none) e t else .bad
  | _ => .bad
section
variable {C : Ct} {W : WX} {σ : L2.St} {H : Hp} {fs : SA} {R' : It → Hp → Prop}
theorem rd_int {H : Hp} {Z : As} {i : Int} {v : V} (h : Rd1 C H Z (.int i) v) : v = .int i := by
  obtain ⟨_, _, r⟩ := h
  exact r
theorem ti_rng1 (h : ti C W (siRng1 fs) σ H R') : iRng1 (tl C W fs) σ H R' := by
  obtain ⟨env, P, Z, rl, ok, h⟩ := h
  refine ⟨env, P, Z, rl, ok, ?_⟩
  unfold siRng1 at h
  cases ea : fs env with
  | bad => rw [ea] at h; exact h
  | exc x ds e => rw [ea] at h; exact h
  | ok rs e t =>
    simp only [ea, O.bind] at h
    intro vs P1 Pv Z1 H1 p1
    cases ed : rdRs e rs with
    | none => simp only [ed] at h
    | some ds =>
      have rd := rdL_of p1.res p1.rl p1.ch.ok ed
      match ds, ed, rd, h with
      | [.int j], ed, rd, h =>
        simp only [ed] at h
        obtain ⟨v, ws, ev, r1, r2⟩ := rd
        rw [show ws = [] from r2, rd_int r1] at ev
        by_cases hb : nb 4611686018427387903 j = true
        · rw [if_pos hb] at h
          have hj := nb_62 hb
          refine ⟨j, ev, hj.1, hj.2, ?_⟩
          exact h _ _ P1 emp Z1 H1 iter_range trivial p1.rl (fun _ _ z => z.elim) (p1.ch.sub fun a x => x.elim .inl fun z => z.elim) (fun ht => ⟨(p1.pu ht).1, by simp, (p1.pu ht).2⟩) fun i d z => by cases z
        · rw [if_neg hb] at h; exact h.elim
      | [], ed, _, h => simp only [ed] at h
      | .int j :: d :: r, ed, _, h => simp only [ed] at h
      | .non :: r, ed, _, h => simp only [ed] at h
      | .bl _ :: r, ed, _, h => simp only [ed] at h
      | .str _ :: r, ed, _, h => simp only [ed] at h
      | .fn _ :: r, ed, _, h => simp only [ed] at h
      | .tup _ :: r, ed, _, h => simp only [ed] at h
      | .lst _ :: r, ed, _, h => simp only [ed] at h
      | .fls _ :: r, ed, _, h => simp only [ed] at h
      | .dct _ _ :: r, ed, _, h => simp only [ed] at h
      | .fdc _ _ :: r, ed, _, h => simp only [ed] at h
      | .ins _ _ :: r, ed, _, h => simp only [ed] at h
      | .fin _ _ :: r, ed, _, h => simp only [ed] at h
      | .exo _ _ _ :: r, ed, _, h => simp only [ed] at h
      | .mvd :: r, ed, _, h => simp only [ed] at h
end
section
variable {X : Cx} {C : Ct} {W : WX} {tgx l a b : Expr} {fo : SE} {fs : SA} {p pos : Pos}
theorem i_list (hK : X.K = C.K) (h : PE X l (tf C W fo)) : PI X tgx l (ti C W (siList fo)) := pi_imp (pi_list h) fun _ _ _ q => by rw [hK]; exact ti_list q
theorem i_tup (hK : X.K = C.K) (h : PE X l (tf C W fo)) : PI X tgx l (ti C W (siTup fo)) := pi_imp (pi_tup h) fun _ _ _ q => by rw [hK]; exact ti_tup q
theorem i_rng1 (hg : Gl X "range") (hm : X.mg "range" = none) (ha : L2.PA X [a] (tl C W fs)) (hs : starEach [a] X.env = [(false, eval a X.env)] := by rfl) : PI X tgx (.Call (.Name "range" p) [a] [] pos) (ti C W (siRng1 fs)) := pi_imp (pi_range1 hg hm ha hs) fun _ _ _ q => ti_rng1 q
end
end OL

/-! The O layer, 12: list comprehensions. -/
namespace OL
open PySem PySem.Spec PyProof.Rows L2

def W0 : WX := fun _ _ _ _ => False
/-- the own names of a comprehension forgotten -/
def wpE (e : Env) : List Nat → Env
  | [] => e
  | v :: vs => (wpE e vs).set v .mvd
/-- .. and as they were -/
def rsE (e0 e : Env) : List Nat → Env
  | [] => e
  | v :: vs => (rsE e0 e vs).set v (e0.getD v .mvd)
def okE (e : Env) : List Nat → Bool
  | [] => true
  | v :: vs => ((e.getD v .mvd).st || (e.getD v .mvd).mv) && okE e vs
def bakE : Option (Nat × D) → Env → Env := bak
/-- turn by turn: what is left to walk, what is made, the data -/
def loopC (own : List Nat) (g : GT) (b : SB) (fe : SE) : List D → List D → Env → O (List D)
  | [], acc, e => .ok acc e true
  | d :: r, acc, e => match g d e with
    | none => .bad
    | some e1 => match b e1 with
      | .ok false e2 _ => loopC own g b fe r acc (wpE e2 own)
      | .ok true e2 _ => match fe e2 with
        | .ok ro e3 _ => match tkA [ro] e3 with
          | some ([x], e4) => loopC own g b fe r (acc ++ [x]) (wpE e4 own)
          | _ => .bad
        | _ => .bad
      | _ => .bad
def fComp (si : SI) (own : List Nat) (g : GT) (b : SB) (fe : SE) : SE := fun env => (si env).bind fun il e _ => if okE e own ∧ il.1.length ≤ 100000 ∧ lkOk (fun i => !own.contains i) il.2 then (match loopC own g b fe il.1 [] (wpE e own) with
  | .ok acc e2 _ => .ok (.val (.lst acc)) (bak il.2 (rsE e e2 own)) true
  | _ => .bad) else .bad
section
variable {C : Ct} {H : Hp} {Z : As}
theorem repL_wp {e : Env} {σ : L2.St} {P : As} : ∀ vs : List Nat, RepL C H Z e σ P → RepL C H Z (wpE e vs) (wipe σ vs) P
  | [], r => r
  | v :: vs, r => repL_del (repL_wp vs r)
theorem wp_get {e : Env} {i : Nat} : ∀ {vs : List Nat}, i ∉ vs → (wpE e vs)[i]? = e[i]?
  | [], _ => rfl
  | v :: vs, h => by
    have h' : ¬ i = v ∧ i ∉ vs := by simpa using h
    show ((wpE e vs).set v .mvd)[i]? = _
    rw [List.getElem?_set_ne (fun z => h'.1 z.symm), wp_get h'.2]
theorem wipe_get {σ : L2.St} {i : Nat} : ∀ {vs : List Nat}, i ∉ vs → (wipe σ vs)[i]? = σ[i]?
  | [], _ => rfl
  | v :: vs, h => by
    have h' : ¬ i = v ∧ i ∉ vs := by simpa using h
    show ((wipe σ vs).set v none)[i]? = _
    rw [List.getElem?_set_ne (fun z => h'.1 z.symm), wipe_get h'.2]
theorem wipe_own {σ : L2.St} {i : Nat} : ∀ {vs : List Nat}, i ∈ vs → i < σ.length → (wipe σ vs)[i]? = some none
  | v :: vs, h, hl => by
    show ((wipe σ vs).set v none)[i]? = _
    by_cases e : v = i
    · subst e
      rw [List.getElem?_set_self (by rw [wipe_length]; exact hl)]
    · rw [List.getElem?_set_ne e]
      exact wipe_own ((List.mem_cons.mp h).resolve_left fun z => e z.symm) hl
theorem wipe_eq {σ σ2 : L2.St} {vs : List Nat} (hl : σ2.length = σ.length) (h : ∀ i, i ∉ vs → σ2[i]? = σ[i]?) : wipe σ2 vs = wipe σ vs := by
  apply List.ext_getElem?
  intro i
  by_cases hi : i ∈ vs
  · by_cases hb : i < σ.length
    · rw [wipe_own hi hb, wipe_own hi (by omega)]
    · rw [List.getElem?_eq_none (by rw [wipe_length]; omega), List.getElem?_eq_none (by rw [wipe_length]; omega)]
  · rw [wipe_get hi, wipe_get hi, h i hi]
theorem wipe_wipe {σ : L2.St} {vs : List Nat} : wipe (wipe σ vs) vs = wipe σ vs := wipe_eq (wipe_length σ vs) fun i hi => wipe_get hi
/-- the own names given back -/
def OwnR (C : Ct) (H : Hp) (Z : As) (e0 : Env) (σ : L2.St) (vs : List Nat) : Prop := e0.length = σ.length ∧ ∀ v ∈ vs, (e0.getD v .mvd).st = true → v < σ.length → ∃ x, σ[v]? = some (some x) ∧ Rep C H Z (e0.getD v .mvd) x emp
theorem OwnR.of {e0 : Env} {σ : L2.St} {P0 : As} {vs : List Nat} (r0 : RepL C H Z e0 σ P0) : OwnR C H Z e0 σ vs := by
  have el : e0.length = σ.length := (repL_len r0).symm
  refine ⟨el, fun v _ hs hv => ?_⟩
  have ed : e0[v]? = some (e0.getD v .mvd) := by
    rw [List.getD_eq_getElem?_getD, List.getElem?_eq_getElem (by omega)]; rfl
  obtain ⟨x, P1, ex, _, rd, _⟩ := repL_at r0 ed fun z => by rw [z] at hs; cases hs
  exact ⟨x, ex, rep_st emp hs rd⟩
theorem OwnR.keep {H' : Hp} {Z' Q : As} {e0 : Env} {σ : L2.St} {vs : List Nat} (r : OwnR C H Z e0 σ vs) (k : Keep Q H H') (ok : OkP Q Z H) (z : Sub Z Z') : OwnR C H' Z' e0 σ vs :=
  ⟨r.1, fun v hv hs hl => let ⟨x, ex, rx⟩ := r.2 v hv hs hl; ⟨x, ex, rep_keep rx k ok (fun _ _ w => w.elim) z⟩⟩
theorem repL_rs {e0 : Env} {σ : L2.St} : ∀ {vs all : List Nat} {e : Env} {P : As}, OwnR C H Z e0 σ vs → okE e0 vs = true → (∀ v ∈ vs, v ∈ all) → RepL C H Z e (wipe σ all) P → ∃ τ, RepL C H Z (rsE e0 e vs) τ P ∧ τ.length = σ.length ∧ ∀ i, τ[i]? = if i ∈ vs then σ[i]? else (wipe σ all)[i]? := by
  intro vs
  induction vs with
  | nil =>
    intro all e P _ _ _ r
    exact ⟨wipe σ all, r, wipe_length σ all, fun i => by simp⟩
  | cons v vs ih =>
    intro all e P r0 ho ha r
    have ho' : (((e0.getD v .mvd).st || (e0.getD v .mvd).mv) && okE e0 vs) = true := ho
    rw [Bool.and_eq_true] at ho'
    obtain ⟨τ, rt, lt, ht⟩ := ih ⟨r0.1, fun w hw => r0.2 w (List.mem_cons_of_mem _ hw)⟩ ho'.2 (fun w hw => ha w (List.mem_cons_of_mem _ hw)) r
    have el : e0.length = σ.length := r0.1
    have el2 : (rsE e0 e vs).length = τ.length := (repL_len rt).symm
    by_cases hv : v < σ.length
    · have hτ : ∀ o, (∀ i, (τ.set v o)[i]? = if i = v then some o else τ[i]?) := fun o i => by
        by_cases e : i = v
        · subst e; rw [if_pos rfl, List.getElem?_set_self (by omega)]
        · rw [if_neg e, List.getElem?_set_ne (fun z => e z.symm)]
      have fin : ∀ o, σ[v]? = some o → ∀ i, (τ.set v o)[i]? = if i ∈ v :: vs then σ[i]? else (wipe σ all)[i]? := fun o ho i => by
        rw [hτ, ht]
        by_cases e : i = v
        · subst e; rw [if_pos rfl, if_pos List.mem_cons_self, ho]
        · rw [if_neg e]
          by_cases m : i ∈ vs
          · rw [if_pos m, if_pos (List.mem_cons_of_mem _ m)]
          · rw [if_neg m, if_neg (by simp [e, m])]
      have ed : e0[v]? = some (e0.getD v .mvd) := by
        rw [List.getD_eq_getElem?_getD, List.getElem?_eq_getElem (by omega)]; rfl
      cases m : (e0.getD v .mvd).mv with
      | true =>
        have em : e0.getD v .mvd = .mvd := by
          cases h : e0.getD v .mvd <;> rw [h] at m <;> first | rfl | cases m
        refine ⟨τ.set v σ[v], ?_, by rw [List.length_set]; exact lt, fin _ (by simp [hv])⟩
        show RepL C H Z ((rsE e0 e vs).set v (e0.getD v .mvd)) _ P
        rw [em]
        exact repL_del rt
      | false =>
        have hs : (e0.getD v .mvd).st = true := by
          have := ho'.1
          rw [m, Bool.or_false] at this
          exact this
        obtain ⟨x, ex, rd⟩ := r0.2 v List.mem_cons_self hs hv
        have := repL_put (i := v) rt (by omega) rd fun _ z => z.elim
        rw [uni_emp] at this
        exact ⟨τ.set v (some x), this, by rw [List.length_set]; exact lt, fin _ ex⟩
    · refine ⟨τ, ?_, lt, fun i => ?_⟩
      · show RepL C H Z ((rsE e0 e vs).set v (e0.getD v .mvd)) τ P
        rw [List.set_eq_of_length_le (by omega)]
        exact rt
      · rw [ht]
        by_cases e : i = v
        · subst e
          rw [if_pos List.mem_cons_self, List.getElem?_eq_none (by omega)]
          split
          · rfl
          · exact List.getElem?_eq_none (by rw [wipe_length]; omega)
        · by_cases m : i ∈ vs
          · rw [if_pos m, if_pos (List.mem_cons_of_mem _ m)]
          · rw [if_neg m, if_neg (by simp [e, m])]
theorem repL_back {e0 e : Env} {σ : L2.St} {P : As} {vs : List Nat} (r0 : OwnR C H Z e0 σ vs) (ho : okE e0 vs = true) (r : RepL C H Z e (wipe σ vs) P) : RepL C H Z (rsE e0 e vs) σ P := by
  obtain ⟨τ, rt, lt, ht⟩ := repL_rs (all := vs) r0 ho (fun _ h => h) r
  have e : τ = σ := by
    apply List.ext_getElem?
    intro i
    rw [ht]
    split
    · rfl
    · rename_i h
      exact wipe_get h
  rw [e] at rt
  exact rt
theorem rs_wp {e : Env} : ∀ {vs all : List Nat}, (∀ v ∈ vs, v ∈ all) → ∀ i, (rsE e (wpE e all) vs)[i]? = if i ∈ vs then e[i]? else (wpE e all)[i]?
  | [], _, _, i => by simp [rsE]
  | v :: vs, all, h, i => by
    have ih := rs_wp (e := e) (vs := vs) (all := all) (fun w hw => h w (List.mem_cons_of_mem _ hw))
    have wl : ∀ l : List Nat, (wpE e l).length = e.length := by
      intro l
      induction l with
      | nil => rfl
      | cons x l ih2 => show ((wpE e l).set x .mvd).length = _; rw [List.length_set, ih2]
    have rl : ∀ l : List Nat, (rsE e (wpE e all) l).length = e.length := by
      intro l
      induction l with
      | nil => exact wl all
      | cons x l ih2 => show ((rsE e (wpE e all) l).set x _).length = _; rw [List.length_set, ih2]
    show ((rsE e (wpE e all) vs).set v (e.getD v .mvd))[i]? = _
    by_cases hv : v < e.length
    · by_cases ei : i = v
      · subst ei
        rw [List.getElem?_set_self (by rw [rl]; exact hv), if_pos List.mem_cons_self, List.getD_eq_getElem?_getD, List.getElem?_eq_getElem hv]
        rfl
      · rw [List.getElem?_set_ne (fun z => ei z.symm), ih]
        by_cases m : i ∈ vs
        · rw [if_pos m, if_pos (List.mem_cons_of_mem _ m)]
        · rw [if_neg m, if_neg (by simp [ei, m])]
    · rw [List.set_eq_of_length_le (by rw [rl]; omega), ih]
      by_cases ei : i = v
      · subst ei
        rw [if_pos List.mem_cons_self, List.getElem?_eq_none (by omega)]
        split
        · rfl
        · exact List.getElem?_eq_none (by rw [wl]; omega)
      · by_cases m : i ∈ vs
        · rw [if_pos m, if_pos (List.mem_cons_of_mem _ m)]
        · rw [if_neg m, if_neg (by simp [ei, m])]
theorem rs_wp_eq {e : Env} {vs : List Nat} : rsE e (wpE e vs) vs = e := by
  apply List.ext_getElem?
  intro i
  rw [rs_wp (fun _ h => h)]
  split
  · rfl
  · rename_i h
    exact wp_get h
end

section
variable {C : Ct} {W : WX} {σ : L2.St} {H : Hp} {Q : VK} {si : SI} {own : List Nat} {g : GT} {b : SB} {fe : SE} {fxo : Nat → Bool}
theorem big_sz {n : Nat} (h : n ≤ 100000) : n < sizeLine := Nat.lt_of_le_of_lt h (by rw [sizeLine_eq]; decide)
theorem tf_comp (hfo : ∀ i, i ∉ own → fxo i = true) (h : tf C W (fComp si own g b fe) σ H Q) : tLc (ti C W si) (tg C fxo g) (tb C W0 b) (tf C W0 fe) own σ H Q := by
  obtain ⟨env, P, Z, rl, ok, h⟩ := h
  refine ⟨env, P, Z, rl, ok, ?_⟩
  unfold fComp at h
  cases ea : si env with
  | bad => rw [ea] at h; exact h
  | exc x ds e => rw [ea] at h; exact h
  | ok il e t =>
    obtain ⟨its, lk⟩ := il
    simp only [ea, O.bind] at h
    intro J hold P' Pi Z' H1 I0 h0 rl0 dj0 c0 pu0 lkh D nD
    by_cases hcond : okE e own = true ∧ its.length ≤ 100000 ∧ lkOk (fun i => !own.contains i) lk = true
    · simp only [hcond, and_self, if_true] at h
      obtain ⟨ho, hlen, hlk⟩ := hcond
      cases el : loopC own g b fe its [] (wpE e own) with
      | bad => simp only [el] at h
      | exc x ds e => simp only [el] at h
      | ok accF eF tF =>
        simp only [el] at h
        have own0 : OwnR C H1 Z' e σ own := .of rl0
        have nDP : ¬ (uni P' Pi) D := not_own c0.ok.at_ nD
        -- the start
        have k1 : Keep emp H1 (upd H1 D (.lst [])) := keep_new nD
        have c1 : Ch P Z H (uni (uni P' Pi) (one D)) Z' (upd H1 D (.lst [])) := c0.trans0 (Ch.grow k1 c0.ok (fun a x => by rw [show a = D from x]; exact nD) fun a x => by
          rw [show a = D from x]
          exact ⟨fun z => c0.ok.zt _ z nD, HO.lst [], upd_same, trivial⟩)
        refine ⟨fun i m H2 => m = its.length - i ∧ i ≤ its.length ∧ ∃ acc avs e2 P2 Z2 Pi2 Pa2, RepL C H2 Z2 e2 (wipe σ own) P2 ∧ hold i H2 Z2 Pi2 ∧ H2 D = some (.lst avs) ∧ Pa2 D ∧ RepL C H2 Z2 acc (avs.map some) (but Pa2 D) ∧
            Dis P2 Pi2 ∧ Dis P2 Pa2 ∧ Dis Pi2 Pa2 ∧ Ch P Z H (uni P2 (uni Pi2 Pa2)) Z2 H2 ∧ acc.length ≤ i ∧ OwnR C H2 Z2 e σ own ∧ loopC own g b fe (its.drop i) acc e2 = .ok accF eF tF,
          ⟨its.length, by simp, Nat.zero_le _, [], [], wpE e own, P', Z', Pi, one D, repL_wp own (repL_keep rl0 k1 OkP.emp (fun _ z => z.elim) fun _ x => x), I0.keep h0 k1 OkP.emp (fun _ z => z.elim) (fun _ x => x), upd_same, rfl, rfl,
            dj0, fun a x y => nDP (by rw [← show a = D from y]; exact .inl x), fun a x y => nDP (by rw [← show a = D from y]; exact .inr x), c1.sub fun a x => by
              rcases x with x | x | x
              · exact .inl (.inl x)
              · exact .inl (.inr x)
              · exact .inr x, Nat.le_refl _, own0.keep k1 OkP.emp (fun _ x => x), by simpa using el⟩, ?_⟩
        rintro i m H2 ⟨rfl, hi, acc, avs, e2, P2, Z2, Pi2, Pa2, rl2, hh, hD, pD, ra, d1, d2, d3, cc, la, ow, lp⟩
        have okk : OkS (uni P2 (uni Pi2 Pa2)) Z2 H2 := cc.ok
        by_cases hlt : i < its.length
        · refine .inr ⟨I0.go hlt hh, fun H' => ∃ m', m' < its.length - i ∧ (m' = its.length - (i + 1) ∧ i + 1 ≤ its.length ∧ ∃ acc avs e2 P2 Z2 Pi2 Pa2, RepL C H' Z2 e2 (wipe σ own) P2 ∧ hold (i + 1) H' Z2 Pi2 ∧ H' D = some (.lst avs) ∧ Pa2 D ∧ RepL C H' Z2 acc (avs.map some) (but Pa2 D) ∧
            Dis P2 Pi2 ∧ Dis P2 Pa2 ∧ Dis Pi2 Pa2 ∧ Ch P Z H (uni P2 (uni Pi2 Pa2)) Z2 H' ∧ acc.length ≤ i + 1 ∧ OwnR C H' Z2 e σ own ∧ loopC own g b fe (its.drop (i + 1)) acc e2 = .ok accF eF tF), fun H' x => x, fun x H3 y => ?_⟩
          obtain ⟨Px, Pn, kp, rx, hn, dn, sb, okn⟩ := I0.yld (d := its[i]) (by simp [hlt]) hh (okk.at_.sub fun a x => .inr (.inl x)) y
          rw [List.drop_eq_getElem_cons hlt] at lp
          -- behind the item
          have rl3 : RepL C H3 Z2 e2 (wipe σ own) P2 := repL_keep rl2 kp OkP.emp (fun _ z => z.elim) fun _ x => x
          have hD3 : H3 D = some (.lst avs) := kp D _ hD fun z => z.elim
          have ra3 : RepL C H3 Z2 acc (avs.map some) (but Pa2 D) := repL_keep ra kp OkP.emp (fun _ z => z.elim) fun _ x => x
          have ap : ∀ {T : As}, Sub T (uni P2 (uni Pi2 Pa2)) → Dis T Pi2 → Dis T (uni Px Pn) := fun ht hd a x w => by
            rcases sb a w with z | z
            · exact hd a x z
            · obtain ⟨_, o, eo, _⟩ := okk.at_ a (ht a x)
              rw [z] at eo; cases eo
          have dPx := ap (T := P2) (fun a x => .inl x) d1
          have dAx := ap (T := Pa2) (fun a x => .inr (.inr x)) fun a x w => d3 a w x
          have c3 : Ch P Z H (uni (uni P2 Px) (uni Pn Pa2)) Z2 H3 := cc.trans0 ⟨fun a o e _ => kp a o e fun z => z.elim, fun a w => by
              rcases w with (w | w) | w | w
              · exact .inl (.inl w)
              · exact (sb a (.inl w)).imp (fun z => .inr (.inl z)) id
              · exact (sb a (.inr w)).imp (fun z => .inr (.inl z)) id
              · exact .inl (.inr (.inr w)), fun _ x => x, fun _ x => .inl x, ⟨fun a w => by
              have old : ∀ {a}, uni P2 (uni Pi2 Pa2) a → ¬ Z2 a ∧ ∃ o, H3 a = some o ∧ Own o := fun {a} w => by
                obtain ⟨nz, o, eo, wo⟩ := okk.at_ a w
                exact ⟨nz, o, kp a o eo fun z => z.elim, wo⟩
              rcases w with (w | w) | w | w
              · exact old (.inl w)
              · exact okn a (.inl w)
              · exact okn a (.inr w)
              · exact old (.inr (.inr w)), fun a z e => by
              cases e1 : H2 a with
              | none => exact okk.zt a z e1
              | some o =>
                rw [kp a o e1 fun z => z.elim] at e
                exact absurd e (by simp)⟩⟩
          cases eg : g its[i] e2 with
          | none => simp only [loopC, eg] at lp; cases lp
          | some e3 =>
          refine ⟨its[i], e2, P2, Px, Z2, e3, rl3, rx, fun a x w => dPx a x (.inl w), eg, fun σ3 P3 rl4 sb3 f3 => ?_⟩
          have wq : wipe σ3 own = wipe σ own := by
            refine (wipe_eq (σ := wipe σ own) f3.len fun j hj => f3.at_ j (hfo j hj)).trans wipe_wipe
          refine ⟨wq, e3, P3, Z2, rl4, (c3.ok.sub fun a x => .inl (sb3 a x)), ?_⟩
          have c3' : Ch P Z H (uni P3 (uni Pn Pa2)) Z2 H3 := c3.sub fun a x => x.imp (sb3 a) id
          have dj3 : Dis P3 (uni Pn Pa2) := fun a x w => by
            rcases sb3 a x with z | z
            · rcases w with w | w
              · exact dPx a z (.inr w)
              · exact d2 a z w
            · rcases w with w | w
              · exact dn a z w
              · exact dAx a w (.inl z)
          have dnA : Dis Pn Pa2 := fun a x w => dAx a w (.inr x)
          simp only [loopC, eg] at lp
          -- the next turn's state
          have nxt : ∀ {H5 : Hp} {e5 : Env} {P5 Z5 Pb : As} {acc5 : List OL.D} {avs5 : List V}, RepL C H5 Z5 e5 σ3 P5 → hold (i + 1) H5 Z5 Pn → H5 D = some (.lst avs5) → Pb D → RepL C H5 Z5 acc5 (avs5.map some) (but Pb D) → Dis P5 Pn → Dis P5 Pb → Dis Pn Pb → Ch P Z H (uni P5 (uni Pn Pb)) Z5 H5 →
              acc5.length ≤ i + 1 → OwnR C H5 Z5 e σ own → loopC own g b fe (its.drop (i + 1)) acc5 (wpE e5 own) = .ok accF eF tF →
              ∃ m', m' < its.length - i ∧ (m' = its.length - (i + 1) ∧ i + 1 ≤ its.length ∧ ∃ acc avs e2 P2 Z2 Pi2 Pa2, RepL C H5 Z2 e2 (wipe σ own) P2 ∧ hold (i + 1) H5 Z2 Pi2 ∧ H5 D = some (.lst avs) ∧ Pa2 D ∧ RepL C H5 Z2 acc (avs.map some) (but Pa2 D) ∧
                Dis P2 Pi2 ∧ Dis P2 Pa2 ∧ Dis Pi2 Pa2 ∧ Ch P Z H (uni P2 (uni Pi2 Pa2)) Z2 H5 ∧ acc.length ≤ i + 1 ∧ OwnR C H5 Z2 e σ own ∧ loopC own g b fe (its.drop (i + 1)) acc e2 = .ok accF eF tF) := by
            intro H5 e5 P5 Z5 Pb acc5 avs5 q1 q2 q3 q4 q5 q6 q7 q8 q9 q10 q11 q13
            have q1' := repL_wp own q1
            rw [wq] at q1'
            exact ⟨_, by omega, rfl, hlt, acc5, avs5, _, P5, Z5, Pn, Pb, q1', q2, q3, q4, q5, q6, q7, q8, q9, q10, q11, q13⟩
          have ow3 : OwnR C H3 Z2 e σ own := ow.keep kp OkP.emp fun _ x => x
          cases eb : b e3 with
          | bad => simp only [eb] at lp; cases lp
          | exc x ds e => simp only [eb] at lp; cases lp
          | ok bv e4 t4 =>
            intro P4 Z4 H4 p4
            have c4 := c3'.trans dj3 p4.ch
            have ap4 := c3'.apart dj3 p4.ch
            have hn4 := I0.keep hn p4.ch.keep (c3'.okP.at_) (fun a x w => dj3 a x (.inl w)) p4.ch.zle
            have hD4 : H4 D = some (.lst avs) := p4.ch.keep D _ hD3 fun z => dj3 D z (.inr pD)
            have ra4 : RepL C H4 Z4 acc (avs.map some) (but Pa2 D) := repL_keep ra3 p4.ch.keep c3'.okP.at_ (fun a x w => dj3 a x (.inr w.1)) p4.ch.zle
            have ow4 := ow3.keep p4.ch.keep c3'.okP.at_ p4.ch.zle
            have dnA4 : Dis P4 Pa2 := fun a x w => ap4 a x (.inr w)
            cases bv with
            | false =>
              simp only [eb] at lp
              simp only [Bool.false_eq_true, if_false]
              exact nxt p4.rl hn4 hD4 pD ra4 (fun a x w => ap4 a x (.inl w)) dnA4 dnA c4 (by omega) ow4 lp
            | true =>
              simp only [eb] at lp
              simp only [if_true]
              refine ⟨e4, P4, Z4, p4.rl, c4.okP, ?_⟩
              cases ef : fe e4 with
              | bad => simp only [ef] at lp; cases lp
              | exc x ds e => simp only [ef] at lp; cases lp
              | ok ro e5 t5 =>
                intro v5 P5 Pv5 Z5 H5 p5
                simp only [ef] at lp
                cases et : tkA [ro] e5 with
                | none => simp only [et] at lp; cases lp
                | some xe =>
                  obtain ⟨ds, e6⟩ := xe
                  have l1 : ds.length = 1 := tkA_len et
                  match ds, l1, et, lp with
                  | [dx], _, et, lp =>
                  simp only [et] at lp
                  have rs1 : RepRs C σ3 H5 Z5 e5 P5 [ro] [v5] Pv5 := ⟨v5, [], Pv5, emp, rfl, p5.res, rfl, ⟨fun _ x => x, fun _ z => z.elim, fun _ _ z => z.elim⟩⟩
                  obtain ⟨P6, Pa6, b1, b2, b3, b4⟩ := tkA_ok (repA_of rs1 et) p5.rl p5.dj et
                  have c5 : Ch P4 Z4 H4 (uni P6 Pa6) Z5 H5 := p5.ch.sub b4
                  have c5' := c4.trans ap4 c5
                  have ap5 := c4.apart ap4 c5
                  have hD5 : H5 D = some (.lst avs) := c5.keep D _ hD4 fun z => ap4 D z (.inr pD)
                  have ra5 : RepL C H5 Z5 acc (avs.map some) (but Pa2 D) := repL_keep ra4 c5.keep c4.okP.at_ (fun a x w => ap4 a x (.inr w.1)) c5.zle
                  have hn5 := I0.keep hn4 c5.keep c4.okP.at_ (fun a x w => ap4 a x (.inl w)) c5.zle
                  have ow5 := ow4.keep c5.keep c4.okP.at_ c5.zle
                  have lav : avs.length = acc.length := by simpa using repL_len ra5
                  refine ⟨avs, hD5, big_sz (by omega), ?_⟩
                  -- the list grown
                  have ok5 : OkS (uni (uni P6 Pa6) (uni Pn Pa2)) Z5 H5 := c5'.ok
                  have q1 : OkP (one D) Z5 H5 := one_ok ok5.at_ (.inr (.inr pD))
                  have kD : Keep (one D) H5 (upd H5 D (.lst (avs ++ [v5]))) := keep_upd
                  have dD : ∀ {T : As}, (∀ a, T a → uni P6 Pa6 a ∨ Pn a) → Dis (one D) T := fun ht a x w => by
                    rw [show a = D from x] at w
                    rcases ht D w with z | z
                    · exact ap5 D z (.inr pD)
                    · exact dnA D z pD
                  have g1 := repL_keep b1 kD q1 (dD fun a x => .inl (.inl x)) fun _ x => x
                  have g2 := repL_keep b2 kD q1 (dD fun a x => .inl (.inr x)) fun _ x => x
                  have g3 := repL_keep ra5 kD q1 (fun a x w => w.2 x) fun _ x => x
                  have g4 := I0.keep hn5 kD q1 (dD fun a x => .inr x) fun _ x => x
                  have g5 : RepL C (upd H5 D (.lst (avs ++ [v5]))) Z5 (acc ++ [dx]) ((avs ++ [v5]).map some) (but (uni Pa2 Pa6) D) := by
                    rw [List.map_append]
                    refine repL_append g3 g2 ⟨fun a x => ⟨.inl x.1, x.2⟩, fun a x => ⟨.inr x, fun e => ?_⟩, fun a x w => ?_⟩
                    · subst e; exact ap5 a (.inr x) (.inr pD)
                    · exact ap5 a (.inr w) (.inr x.1)
                  have c6 : Ch P Z H (uni P6 (uni Pn (uni Pa2 Pa6))) Z5 (upd H5 D (.lst (avs ++ [v5]))) := (c5'.trans0 (ch_upd (o := .lst (avs ++ [v5])) ok5 (.inr (.inr pD)) trivial)).sub fun a x => by
                    rcases x with x | x | x | x
                    · exact .inl (.inl x)
                    · exact .inr (.inl x)
                    · exact .inr (.inr x)
                    · exact .inl (.inr x)
                  refine nxt g1 g4 upd_same (.inl pD) g5 (fun a x w => ap5 a (.inl x) (.inl w)) (fun a x w => ?_) (fun a x w => ?_) c6 (by rw [List.length_append]; simp; omega) (ow5.keep kD q1 fun _ x => x) lp
                  · rcases w with w | w
                    · exact ap5 a (.inl x) (.inr w)
                    · exact b3 a x w
                  · rcases w with w | w
                    · exact dnA a x w
                    · exact ap5 a (.inr w) (.inl x)
        · have ei : i = its.length := by omega
          subst ei
          refine .inl ⟨I0.stop hh, ?_⟩
          rw [List.drop_length] at lp
          have lp' : (O.ok acc e2 true : O (List OL.D)) = .ok accF eF tF := lp
          cases lp'
          have rb := repL_back ow ho rl2
          have res : Rep C H2 Z2 (.lst accF) (.ref D) Pa2 := ⟨D, avs, rfl, pD, hD, ra⟩
          cases lk with
          | none => exact h (.ref D) P2 Pa2 Z2 H2 ⟨rb, res, d2, cc.sub fun a x => x.imp id .inr, fun z => by cases z⟩
          | some id =>
            obtain ⟨j, d⟩ := id
            obtain ⟨v, ev, hv⟩ := lkh j d rfl
            have q := repL_put rb (by rw [← repL_len rb]; exact (List.getElem?_eq_some_iff.mp ev).1) (hv _ H2 Z2 Pi2 hh) fun a x w => d1 a w x
            rw [set_same_opt ev] at q
            refine h (.ref D) (uni P2 Pi2) Pa2 Z2 H2 ⟨q, res, fun a x w => x.elim (fun z => d2 a z w) fun z => d3 a z w, cc.sub fun a x => ?_, fun z => by cases z⟩
            rcases x with (x | x) | x
            · exact .inl x
            · exact .inr (.inl x)
            · exact .inr (.inr x)
    · simp only [hcond, if_false] at h
end
end OL

/-! The O layer, 13: comprehensions' rules; lists and dicts changed in place. -/
namespace OL
open PySem PySem.Spec PyProof.Rows L2

/-! ### comprehensions -/
def bYes : SB := fun env => .ok true env false
def fxO (own : List Nat) : Nat → Bool := fun i => !own.contains i
section
variable {X : Cx} {C : Ct} {W : WX} {elt tgx iter : Expr} {ifs : List Expr} {scope : Scope} {own : List (Str × Nat)} {pos : Pos} {si : SI} {g : GT} {b : SB} {fe : SE}
theorem pts_imp {X : Cx} {t t' : TT} (h : PTs X ifs t) (i : ∀ σ H Q, t' σ H Q → t σ H Q) : PTs X ifs t' := ⟨fun pins s σ H Q I w => h.run pins s σ H Q I (i σ H Q w)⟩
theorem k_none : PTs X [] (tb C W0 bYes) := pts_imp pts_nil fun σ H Q ⟨env, P, Z, rl, ok, h⟩ => h P Z H ⟨rl, Ch.refl ok, fun _ => ⟨rfl, rfl, keep_refl⟩⟩
theorem k_one {c : Expr} (h : PT X c (tb C W0 b)) : PTs X [c] (tb C W0 b) := pts_one h
theorem fxO_ok {own : List Nat} : ∀ i, i ∉ own → fxO own i = true := fun i h => by simp [fxO, h]
theorem e_lc (hc : X.calm = true) (hN : X.N.Nodup) (hi : PI X tgx iter (ti C W si)) (ok : BlkOk X.N X.env.scope scope own)
    (hg : ∀ s H (Ca : Addr) cl fp, PG (X.blk s H scope (compEnvC scope cl Ca X.env) fp) tgx (tg C (fxO (own.map (·.2))) g)) (ht : ∀ s H (Ca : Addr) cl fp, PTs (X.blk s H scope (compEnvC scope cl Ca X.env) fp) ifs (tb C W0 b))
    (he : ∀ s H (Ca : Addr) cl fp, PE (X.blk s H scope (compEnvC scope cl Ca X.env) fp) elt (tf C W0 fe)) (hs : ∀ x, foldedSetIterable iter X.env x = pure x := by intro _; rfl) :
    PE X (.ListComp elt [⟨tgx, iter, ifs, 0⟩] scope pos) (tf C W (fComp si (own.map (·.2)) g b fe)) := pe_imp (pe_lc hc hN hi ok hg ht he hs) fun _ _ _ h => tf_comp fxO_ok h
/-- y = [..] on one line -/
theorem s_setLc {fx : Nat → Bool} {i : Nat} {y : Str} {py spos : Pos} (hc : X.calm = true) (hN : X.N.Nodup) (hy : X.N[i]? = some y) (hyl : X.env.scope.names.lookup y = some .local) (hsw : swapsWith (.ListComp elt [⟨tgx, iter, ifs, 0⟩] scope pos) (some (.Name y py)) spos.line X.env = pure true)
    (hi : PI X tgx iter (ti C W si)) (ok : BlkOk X.N X.env.scope scope own)
    (hg : ∀ s H (Ca : Addr) cl fp, PG (X.blk s H scope (compEnvC scope cl Ca X.env) fp) tgx (tg C (fxO (own.map (·.2))) g)) (ht : ∀ s H (Ca : Addr) cl fp, PTs (X.blk s H scope (compEnvC scope cl Ca X.env) fp) ifs (tb C W0 b))
    (he : ∀ s H (Ca : Addr) cl fp, PE (X.blk s H scope (compEnvC scope cl Ca X.env) fp) elt (tf C W0 fe)) (hfx : fx i = false := by rfl) (hs : ∀ x, foldedSetIterable iter X.env x = pure x := by intro _; rfl) :
    PS X (.Assign [.Name y py] (.ListComp elt [⟨tgx, iter, ifs, 0⟩] scope pos) spos) (ts C fx W (sAsg (fComp si (own.map (·.2)) g b fe) (gtName i))) :=
  ps_imp (ps_setLc hc hN hy hyl hsw hi ok hg ht he hs) fun D σ H h => by
    have h1 := ts_asg h
    have h2 : tAsg (tf C W (fComp si (own.map (·.2)) g b fe)) (gName i) D σ H := by
      obtain ⟨env, P, Z, rl, okk, q⟩ := h1
      refine ⟨env, P, Z, rl, okk, ?_⟩
      cases ea : fComp si (own.map (·.2)) g b fe env with
      | bad => rw [ea] at q; exact q
      | exc x ds e => rw [ea] at q; exact q
      | ok r e t =>
        rw [ea] at q
        intro v P' Pv Z' H' w
        obtain ⟨d, env, P, Pv, Z, env', rl, rp, dj, gg, k⟩ := q v P' Pv Z' H' w
        unfold gtName at gg
        by_cases hl : i < env.length
        · rw [if_pos hl] at gg
          cases gg
          refine k _ _ (repL_put rl hl rp fun a x y => dj a y x) (fun a x => x) ⟨by rw [List.length_set], fun j hj => ?_⟩
          rw [List.getElem?_set_ne]
          intro e
          subst e
          rw [hfx] at hj; cases hj
        · rw [if_neg hl] at gg; cases gg
    obtain ⟨env, P, Z, rl, okk, q⟩ := h2
    -- the comprehension, then the name
    have h3 : tf C W (fComp si (own.map (·.2)) g b fe) σ H fun x H1 => gName i x σ H1 D.nx := ⟨env, P, Z, rl, okk, q⟩
    exact tf_comp fxO_ok h3
end

/-! ### methods that change their object -/
def fMut (ty : D → Bool) (k : D → List D → Option (D × D)) (fo : SE) (fs : SA) : SE := fun env => (fo env).bind fun ro e1 t1 => match ro with
  | .val _ => .bad
  | .plc i p => match eget e1 i p with
    | none => .bad
    | some d0 => if ty d0 && !d0.mv then (fs e1).bind fun rs e2 t2 => if okR (.plc i p) (t2 || anyP rs) then (match tkA rs e2 with
      | none => .bad
      | some (ds, e3) => match eget e3 i p with
        | none => .bad
        | some d => if d.mv then .bad else match k d ds with
          | some (res, d') => .ok (.val res) (eput e3 i p d') true
          | none => .bad) else .bad else .bad
def MutR (C : Ct) (r : V → List V → Hp → VK → Prop) (k : D → List D → Option (D × D)) : Prop := ∀ H Z d ds v vs Pl Pa d' res Q, OkS (uni Pl Pa) Z H → Dis Pl Pa → Rep C H Z d v Pl → RepL C H Z ds (vs.map some) Pa → k d ds = some (res, d') →
  (∀ z H' Pn Pz, Keep Pl H H' → Rep C H' Z d' v Pn → Rep C H' Z res z Pz → Dis Pn Pz → (∀ a, uni Pn Pz a → Pl a ∨ Pa a ∨ H a = none) → OkS (uni Pn Pz) Z H' → Q z H') → r v vs H Q
def TyR (K : PySem.W.Frag) (C : Ct) (T : String) (ty : D → Bool) : Prop := ∀ H Z d v P, Rep C H Z d v P → ty d = true → tyV K T v H
section
variable {C : Ct} {W : WX} {σ : L2.St} {H : Hp} {Q : VK} {fo : SE} {fs : SA} {ty : D → Bool} {k : D → List D → Option (D × D)} {r : V → List V → Hp → VK → Prop} {K : PySem.W.Frag} {T : String}
/-- behind the receiver and the arguments -/
theorem mut_end {env e1 e2 e3 : Env} {P Z P1 Pv1 Z1 Pv2 Z2 P2 : As} {H1 H2 : Hp} {i : Nat} {p : List Pj} {rs : List R} {ds : List D} {d d' res : D} {t2 : Bool} {v0 : V} {vs : List V} (mr : MutR C r k) (c1 : Ch P Z H P1 Z1 H1) (rl1 : RepL C H1 Z1 e1 σ P1) (res0 : RepR C σ H1 Z1 e1 P1 (.plc i p) v0 Pv1)
    (p2 : PL' C σ P1 Z1 H1 e1 rs e2 t2 vs P2 Pv2 Z2 H2) (w : okR (.plc i p) (t2 || anyP rs) = true) (et : tkA rs e2 = some (ds, e3)) (eg : eget e3 i p = some d) (m : d.mv = false) (ek : k d ds = some (res, d'))
    (h : ∀ v P' Pv Z' H', PE' C σ P Z H env (.val res) (eput e3 i p d') true v P' Pv Z' H' → Q v H') : r v0 vs H2 Q := by
  obtain ⟨P3, Pa, rl3, rd, dj, c2, pu⟩ := taken p2 et
  obtain ⟨Pl, l⟩ : ∃ Pl, Lens C H2 Z2 e3 σ P3 i p d v0 Pl := by
    cases p with
    | nil =>
      obtain ⟨v, Pl, hv, l⟩ := lens_of rl3 eg m
      have e : v = v0 := Option.some.inj (Option.some.inj ((hv rfl).symm.trans res0))
      subst e
      exact ⟨Pl, l⟩
    | cons q p =>
      have hf : (t2 || anyP rs) = false := by
        cases hh : (t2 || anyP rs) with
        | false => rfl
        | true => rw [hh] at w; cases w
      obtain ⟨a1, a2, a3⟩ := pu hf
      obtain ⟨d1, Pl, nm, g, l⟩ := res0
      subst a1 a2
      rw [eg] at g; cases g
      exact ⟨Pl, l.grow a3 c2.zle⟩
  obtain ⟨sb, rp, up⟩ := l
  have okA : OkS (uni P3 Pa) Z2 H2 := c2.ok
  refine mr H2 Z2 d ds v0 vs Pl Pa d' res Q (okA.sub fun a x => x.imp (sb a) id) (fun a x y => dj a (sb a x) y) rp rd ek fun z H' Pn Pz kp rn rz dn nw okn => ?_
  have okl : OkP Pl Z2 H2 := okA.at_.sub fun a x => .inl (sb a x)
  have apart : ∀ {T : As}, (∀ a, T a → Pl a ∨ Pa a ∨ H2 a = none) → Dis T (mns P3 Pl) := fun hT a x y => by
    rcases hT a x with q | q | q
    · exact y.2 q
    · exact dj a y.1 q
    · obtain ⟨_, o, e, _⟩ := okA.at_ a (.inl y.1)
      rw [q] at e; cases e
  have rl4 := up H' Z2 Pl d' Pn kp okl (fun _ x => x) (fun a x _ => x) rn (apart fun a x => nw a (.inl x))
  refine h z (uni (mns P3 Pl) Pn) Pz Z2 H' ⟨rl4, rz, fun a x y => ?_, c1.trans0 (c2.trans0 ⟨fun a o e n => kp a o e fun x => n (.inl (sb a x)), fun a x => ?_, fun _ x => x, fun _ x => .inl x, ⟨fun a x => ?_, okn.zt⟩⟩), fun z => by cases z⟩
  · rcases x with x | x
    · exact apart (fun a x => nw a (.inr x)) a y x
    · exact dn a x y
  · rcases x with (x | x) | x
    · exact .inl (.inl x.1)
    · exact (nw a (.inl x)).elim (fun q => .inl (.inl (sb a q))) fun q => q.imp .inr id
    · exact (nw a (.inr x)).elim (fun q => .inl (.inl (sb a q))) fun q => q.imp .inr id
  · rcases x with (x | x) | x
    · obtain ⟨nz, o, e, wo⟩ := okA.at_ a (.inl x.1)
      exact ⟨nz, o, kp a o e x.2, wo⟩
    · exact okn.at_ a (.inl x)
    · exact okn.at_ a (.inr x)
theorem tf_mut (tyr : TyR K C T ty) (mr : MutR C r k) (h : tf C W (fMut ty k fo fs) σ H Q) : tBM K T r (tf C W fo) (tl C W fs) σ H Q := by
  obtain ⟨env, P, Z, rl, ok, h⟩ := h
  refine ⟨env, P, Z, rl, ok, ?_⟩
  unfold fMut at h
  cases ea : fo env with
  | bad => rw [ea] at h; exact h
  | exc x ds e => rw [ea] at h; exact h
  | ok ro e1 t1 =>
    simp only [ea, O.bind] at h
    intro v0 P1 Pv1 Z1 H1 p1
    cases ro with
    | val d => exact h.elim
    | plc i p =>
      simp only at h
      cases eg0 : eget e1 i p with
      | none => simp only [eg0] at h
      | some d0 =>
        simp only [eg0] at h
        cases ht : (ty d0 && !d0.mv) with
        | false => simp only [ht, Bool.false_eq_true, if_false] at h
        | true =>
          simp only [ht, if_true] at h
          rw [Bool.and_eq_true] at ht
          have nm0 : d0.mv = false := by simpa using ht.2
          obtain ⟨Pd, _, rp0⟩ := read p1.res p1.rl (show rdR e1 (.plc i p) = some d0 by simp [rdR, eg0, nm0])
          refine ⟨tyr _ _ _ _ _ rp0 ht.1, e1, P1, Z1, p1.rl, p1.ch.okP, ?_⟩
          cases eb : fs e1 with
          | bad => simp only [eb] at h
          | exc x ds e =>
            simp only [eb] at h
            exact fun cls dd P' Px Z' H' q => h cls dd P' Px Z' H' (q.up p1.ch p1.dj)
          | ok rs e2 t2 =>
            simp only [eb] at h
            intro vs P2 Pv2 Z2 H2 p2
            cases w : okR (.plc i p) (t2 || anyP rs) with
            | false => simp [w] at h
            | true =>
              simp only [w, if_true] at h
              cases et : tkA rs e2 with
              | none => simp only [et] at h
              | some x =>
                obtain ⟨ds, e3⟩ := x
                simp only [et] at h
                cases eg : eget e3 i p with
                | none => simp only [eg] at h
                | some d =>
                  simp only [eg] at h
                  cases m : d.mv with
                  | true => simp [m] at h
                  | false =>
                    simp only [m, Bool.false_eq_true, if_false] at h
                    cases ek : k d ds with
                    | none => simp only [ek] at h
                    | some x =>
                      obtain ⟨res, d'⟩ := x
                      simp only [ek] at h
                      exact mut_end (env := env) mr (p1.ch.sub fun _ x => .inl x) p1.rl p1.res p2 w et eg m ek h
end
end OL

/-! The O layer, 14: operators and built-in calls on data. -/
namespace OL
open PySem PySem.Spec PyProof.Rows L2

def szo (n : Nat) : Bool := decide (n ≤ 1000000)
theorem szo_le {n : Nat} (h : szo n = true) : n ≤ sizeLine := Nat.le_trans (of_decide_eq_true h) (by rw [sizeLine_eq]; decide)
theorem szo_lt {n : Nat} (h : szo n = true) : n < sizeLine := Nat.lt_of_le_of_lt (of_decide_eq_true h) (by rw [sizeLine_eq]; decide)
section
variable {C : Ct} {H : Hp} {Z : As} {d : D} {z : V}
theorem New.sc (r : Rep C H Z d z emp) : New C H Z d z emp H := ⟨keep_refl, fun _ h => h.elim, OkP.emp, r⟩
theorem Rd1.st (h : Rd1 C H Z d z) (s : d.st = true) : Rep C H Z d z emp := by
  obtain ⟨_, _, r⟩ := h
  exact rep_st emp s r
theorem rd_sc_int {i : Int} (h : Rd1 C H Z (.int i) z) : z = .int i := let ⟨_, _, r⟩ := h; r
theorem rd_sc_bl {b : Bool} (h : Rd1 C H Z (.bl b) z) : z = .bl b := let ⟨_, _, r⟩ := h; r
theorem rd_sc_str {x : Str} (h : Rd1 C H Z (.str x) z) : z = .str x := let ⟨_, _, r⟩ := h; r
theorem rd_sc_non (h : Rd1 C H Z .non z) : z = .non := let ⟨_, _, r⟩ := h; r
theorem rd_tup {ds : List D} (h : Rd1 C H Z (.tup ds) z) : ∃ a vs, z = .ref a ∧ SqT C.K H a vs ∧ vs.length = ds.length ∧ ∃ P, OkP P Z H ∧ RepL C H Z ds (vs.map some) P := by
  obtain ⟨P, ok, a, vs, e, s, r⟩ := h
  exact ⟨a, vs, e, s, by simpa using repL_len r, P, ok, r⟩
/-- any list, read -/
def lsD : D → Option (List D)
  | .lst ds => some ds
  | .fls ds => some ds
  | _ => none
theorem rd_lst {ds : List D} (hd : lsD d = some ds) (h : Rd1 C H Z d z) : ∃ a vs, z = .ref a ∧ SqL C.K H a vs ∧ vs.length = ds.length ∧ ∃ P, OkP P Z H ∧ RepL C H Z ds (vs.map some) P := by
  obtain ⟨P, ok, r⟩ := h
  cases d with
  | lst ds' =>
    cases (show some ds' = some ds from hd)
    obtain ⟨a, vs, e, pa, s, r⟩ := r
    exact ⟨a, vs, e, .inl (.inl s), by simpa using repL_len r, _, ok.sub (fun b x => x.1), r⟩
  | fls ds' =>
    cases (show some ds' = some ds from hd)
    obtain ⟨a, vs, e, s, r⟩ := r
    exact ⟨a, vs, e, frl_sq s, by simpa using repL_len r, emp, OkP.emp, r⟩
  | _ => cases hd
/-- a new list of stable things -/
theorem New.lst {ds : List D} {vs : List V} {P : As} {p : Addr} (r : RepL C H Z ds (vs.map some) P) (s : stL ds = true) (n : H p = none) (hz : ∀ a, Z a → H a ≠ none) : New C H Z (.lst ds) (.ref p) (one p) (upd H p (.lst vs)) where
  keep := keep_new n
  new := fun a x => by rw [show a = p from x]; exact n
  ok := fun a x => by rw [show a = p from x]; exact ⟨fun z => hz p z n, _, upd_same, trivial⟩
  rep := ⟨p, vs, rfl, rfl, upd_same, repL_mono (repL_st emp s (repL_new r n)) fun _ z => z.elim⟩
theorem New.tup {ds : List D} {vs : List V} {P : As} {p : Addr} (r : RepL C H Z ds (vs.map some) P) (s : stL ds = true) (n : H p = none) : New C H Z (.tup ds) (.ref p) emp (upd H p (.tup vs)) where
  keep := keep_new n
  new := fun a x => x.elim
  ok := OkP.emp
  rep := ⟨p, vs, rfl, .inl (.inl upd_same), repL_st emp s (repL_new r n)⟩
theorem stL_append : ∀ {a b : List D}, stL (a ++ b) = (stL a && stL b)
  | [], b => rfl
  | d :: a, b => by show (d.st && stL (a ++ b)) = ((d.st && stL a) && stL b); rw [stL_append, Bool.and_assoc]
end
/-! ### numbers, texts, tuples -/
def gI (f : Int → Int → D) : D → D → Option D
  | .int i, .int j => some (f i j)
  | _, _ => none
def gIc (c : Int → Int → Bool) (f : Int → Int → D) : D → D → Option D
  | .int i, .int j => if c i j then some (f i j) else none
  | _, _ => none
section
variable {C : Ct}
theorem o2_int {f : Int → Int → D} {v : Int → Int → V} (h : ∀ H Z i j, Rep C H Z (f i j) (v i j) emp) : Op2 C (rI0 v) (gI f) := fun H Z da db x y d Q hz ra rb hg k => by
  cases da <;> cases db <;> simp only [gI] at hg <;> first | cases hg | skip
  exact ⟨_, _, rd_sc_int ra, rd_sc_int rb, k _ emp H (.sc (h H Z _ _))⟩
theorem o2_intc {c : Int → Int → Bool} {c' : Int → Int → Prop} {f : Int → Int → D} {v : Int → Int → V} (hc : ∀ i j, c i j = true → c' i j) (h : ∀ H Z i j, Rep C H Z (f i j) (v i j) emp) : Op2 C (rI c' v) (gIc c f) := fun H Z da db x y d Q hz ra rb hg k => by
  cases da <;> cases db <;> simp only [gIc] at hg <;> first | cases hg | skip
  rename_i i j
  cases e : c i j with
  | false => simp [e] at hg
  | true =>
    have hg' : some (f i j) = some d := by simpa [e] using hg
    cases hg'
    exact ⟨_, _, rd_sc_int ra, rd_sc_int rb, hc _ _ e, k _ emp H (.sc (h H Z _ _))⟩
theorem Op2.or {r r' : R2} {g g' : D → D → Option D} (a : Op2 C r g) (b : Op2 C r' g') : Op2 C (fun x y H Q => r x y H Q ∨ r' x y H Q) fun da db => (g da db).or (g' da db) := fun H Z da db x y d Q hz ra rb hg k => by
  have hg : (g da db).or (g' da db) = some d := hg
  cases e : g da db with
  | some d' =>
    rw [e] at hg
    have hg' : some d' = some d := hg
    cases hg'
    exact .inl (a H Z da db x y _ Q hz ra rb e k)
  | none =>
    rw [e] at hg
    exact .inr (b H Z da db x y _ Q hz ra rb hg k)
end
theorem nb_64 {j : Int} (h : nb 18446744073709551615 j = true) : -(2 ^ 64) < j ∧ j < 2 ^ 64 := by
  have := nb_le h
  have e : ((2 : Int) ^ 64) = 18446744073709551616 := by decide
  rw [e]
  omega
theorem nb_mul {i j : Int} (h : (nb 18446744073709551615 i || nb 18446744073709551615 j) = true) : (-(2 ^ 64) < i ∧ i < 2 ^ 64) ∨ (-(2 ^ 64) < j ∧ j < 2 ^ 64) := by
  rw [Bool.or_eq_true] at h
  exact h.imp nb_64 nb_64
theorem nb_div {j : Int} (h : (decide (0 < j) && nb 1073741823 j) = true) : 0 < j ∧ j < 1073741824 := by
  rw [Bool.and_eq_true] at h
  have h1 := of_decide_eq_true h.1
  have := nb_le h.2
  omega
theorem nb_pow {i j : Int} (h : (decide (0 ≤ j) && (nb 1000000 j && nb 18446744073709551615 i)) = true) : 0 ≤ j ∧ j ≤ 1000000 ∧ i.natAbs < 2 ^ 64 := by
  rw [Bool.and_eq_true, Bool.and_eq_true] at h
  have h1 := of_decide_eq_true h.1
  have h2 := nb_le h.2.1
  have h3 := nb_le h.2.2
  have e : ((2 : Nat) ^ 64) = 18446744073709551616 := by decide
  rw [e]
  omega
abbrev gMinus := gI fun i j => .int (i - j)
abbrev gMul := gIc (fun i j => nb 18446744073709551615 i || nb 18446744073709551615 j) fun i j => .int (i * j)
abbrev gFdiv := gIc (fun _ j => decide (0 < j) && nb 1073741823 j) fun i j => .int (i / j)
abbrev gMod := gIc (fun _ j => decide (0 < j)) fun i j => .int (i % j)
abbrev gPow := gIc (fun i j => decide (0 ≤ j) && (nb 1000000 j && nb 18446744073709551615 i)) fun i j => .int (i ^ j.toNat)
abbrev gLt := gI fun i j => .bl (decide (i < j))
abbrev gLe := gI fun i j => .bl (decide (i ≤ j))
abbrev gGt := gI fun i j => .bl (decide (j < i))
abbrev gGe := gI fun i j => .bl (decide (j ≤ i))
def gAddS : D → D → Option D
  | .str i, .str j => if szo (i.length + j.length) then some (.str (i ++ j)) else none
  | _, _ => none
def gAddT : D → D → Option D
  | .tup xs, .tup ys => if stL xs && stL ys && szo (xs.length + ys.length) then some (.tup (xs ++ ys)) else none
  | _, _ => none
def gAddL : D → D → Option D
  | .lst xs, .lst ys => if stL xs && stL ys && szo (xs.length + ys.length) then some (.lst (xs ++ ys)) else none
  | _, _ => none
/-- + of ints, texts, tuples, lists -/
def gAdd : D → D → Option D := fun a b => (gI (fun i j => .int (i + j)) a b).or ((gAddS a b).or ((gAddT a b).or (gAddL a b)))
section
variable {X : Cx} {C : Ct} {W : WX} {a b : Expr} {fa fb : SE} {pos : Pos}
theorem o2_addS : Op2 C (fun x y H Q => ∃ i j, x = .str i ∧ y = .str j ∧ i.length + j.length ≤ sizeLine ∧ Q (.str (i ++ j)) H) gAddS := fun H Z da db x y d Q hz ra rb hg k => by
  cases da <;> cases db <;> simp only [gAddS] at hg <;> first | cases hg | skip
  rename_i i j
  cases e : szo (i.length + j.length) with
  | false => simp [e] at hg
  | true =>
    have hg' : some (D.str (i ++ j)) = some d := by simpa [e] using hg
    cases hg'
    exact ⟨i, j, rd_sc_str ra, rd_sc_str rb, szo_le e, k _ emp H (.sc rfl)⟩
theorem o2_addT {K : PySem.W.Frag} (hK : K = C.K) : Op2 C (rCatA K) gAddT := fun H Z da db x y d Q hz ra rb hg k => by
  subst hK
  cases da <;> cases db <;> simp only [gAddT] at hg <;> first | cases hg | skip
  rename_i xs ys
  cases e : (stL xs && stL ys && szo (xs.length + ys.length)) with
  | false => simp [e] at hg
  | true =>
    have hg' : some (D.tup (xs ++ ys)) = some d := by simpa [e] using hg
    cases hg'
    rw [Bool.and_eq_true, Bool.and_eq_true] at e
    obtain ⟨⟨e1, e2⟩, e3⟩ := e
    obtain ⟨p, vs, ex, sx, lx, P1, _, r1⟩ := rd_tup ra
    obtain ⟨q, ws, ey, sy, ly, P2, _, r2⟩ := rd_tup rb
    have r1' := repL_st emp e1 r1
    have r2' := repL_st emp e2 r2
    refine ⟨p, q, vs, ws, ex, ey, sx, sy, by rw [lx, ly]; exact szo_le e3, fun h => ?_, fun _ h => ?_, fun _ _ l n => ?_⟩
    · subst h
      have : xs = [] := by
        cases xs with
        | nil => rfl
        | cons _ _ => simp at lx
      subst this
      exact k _ emp H (.sc ⟨q, ws, rfl, sy, r2'⟩)
    · subst h
      have : ys = [] := by
        cases ys with
        | nil => rfl
        | cons _ _ => simp at ly
      subst this
      have q : RepL C H Z (xs ++ []) (vs.map some) emp := by rw [List.append_nil]; exact r1'
      exact k _ emp H (.sc ⟨p, vs, rfl, sx, q⟩)
    · refine k _ emp _ (.tup (P := emp) ?_ (by rw [stL_append, e1, e2]; rfl) n)
      rw [List.map_append]
      exact repL_append r1' r2' ⟨fun _ z => z, fun _ z => z, fun _ z => z.elim⟩
theorem o2_addL : Op2 C rCat gAddL := fun H Z da db x y d Q hz ra rb hg k => by
  cases da <;> cases db <;> simp only [gAddL] at hg <;> first | cases hg | skip
  rename_i xs ys
  cases e : (stL xs && stL ys && szo (xs.length + ys.length)) with
  | false => simp [e] at hg
  | true =>
    have hg' : some (D.lst (xs ++ ys)) = some d := by simpa [e] using hg
    cases hg'
    rw [Bool.and_eq_true, Bool.and_eq_true] at e
    obtain ⟨⟨e1, e2⟩, e3⟩ := e
    obtain ⟨P1, _, p, vs, ex, _, sx, r1⟩ := ra
    obtain ⟨P2, _, q, ws, ey, _, sy, r2⟩ := rb
    have lx : vs.length = xs.length := by simpa using repL_len r1
    have ly : ws.length = ys.length := by simpa using repL_len r2
    refine ⟨p, q, vs, ws, ex, ey, sx, sy, by rw [lx, ly]; exact szo_le e3, fun l n => k _ _ _ (.lst (P := emp) ?_ (by rw [stL_append, e1, e2]; rfl) n hz)⟩
    rw [List.map_append]
    exact repL_append (repL_st emp e1 r1) (repL_st emp e2 r2) ⟨fun _ z => z, fun _ z => z, fun _ z => z.elim⟩
/-- a + b -/
def rAddA (K : PySem.W.Frag) : R2 := fun x y H Q => rI0 (fun i j => .int (i + j)) x y H Q ∨ (∃ i j, x = .str i ∧ y = .str j ∧ i.length + j.length ≤ sizeLine ∧ Q (.str (i ++ j)) H) ∨ rCatA K x y H Q ∨ rCat x y H Q
theorem op_addA : OpR X (binaryOp .Add) (rAddA X.K) := OpR.or op_add (OpR.or op_add_str (OpR.or op_catA op_cat))
theorem o2_add {K : PySem.W.Frag} (hK : K = C.K) : Op2 C (rAddA K) gAdd := Op2.or (o2_int fun _ _ _ _ => rfl) (Op2.or o2_addS (Op2.or (o2_addT hK) o2_addL))
theorem e_add (hK : X.K = C.K) (ha : PE X a (tf C W fa)) (hb : PE X b (tf C W fb)) : PE X (.BinOp a .Add b pos) (tf C W (fTwo fa fb gAdd)) := e_op op_addA (o2_add hK) ha hb
theorem e_sub (ha : PE X a (tf C W fa)) (hb : PE X b (tf C W fb)) : PE X (.BinOp a .Sub b pos) (tf C W (fTwo fa fb gMinus)) := e_op op_sub (o2_int fun _ _ _ _ => rfl) ha hb
theorem e_mul (ha : PE X a (tf C W fa)) (hb : PE X b (tf C W fb)) : PE X (.BinOp a .Mult b pos) (tf C W (fTwo fa fb gMul)) := e_op op_mul (o2_intc (c' := CMul) (fun i j h => nb_mul h) fun _ _ _ _ => rfl) ha hb
theorem e_fdiv (ha : PE X a (tf C W fa)) (hb : PE X b (tf C W fb)) : PE X (.BinOp a .FloorDiv b pos) (tf C W (fTwo fa fb gFdiv)) := e_op op_fdiv (o2_intc (c' := CDiv) (fun i j h => nb_div h) fun _ _ _ _ => rfl) ha hb
theorem e_mod (ha : PE X a (tf C W fa)) (hb : PE X b (tf C W fb)) : PE X (.BinOp a .Mod b pos) (tf C W (fTwo fa fb gMod)) := e_op op_mod (o2_intc (fun i j h => of_decide_eq_true h) fun _ _ _ _ => rfl) ha hb
theorem e_pow (ha : PE X a (tf C W fa)) (hb : PE X b (tf C W fb)) : PE X (.BinOp a .Pow b pos) (tf C W (fTwo fa fb gPow)) := e_op op_pow (o2_intc (c' := CPow) (fun i j h => nb_pow h) fun _ _ _ _ => rfl) ha hb
end
end OL

/-! The O layer, 15: items by index and key. -/
namespace OL
open PySem PySem.Spec PyProof.Rows L2

def keyD : D → Option Key
  | .int i => some (Sum.inl i)
  | .str x => some (Sum.inr x)
  | _ => none
/-- the item, and where it is -/
def itD : D → D → Option (D × Option Pj)
  | .tup ds, .int i => (atI ds i).map fun d => (d, none)
  | .fls ds, .int i => (atI ds i).map fun d => (d, none)
  | .lst ds, .int i => (ixN ds.length i).bind fun j => (ds[j]?).map fun d => (d, some (.idx j))
  | .str z, .int i => if szo z.length then (atI z.cps.toList i).map fun c => (.str ⟨#[c]⟩, none) else none
  | .dct ks ds, k => (keyD k).bind fun k => (ks.idxOf? k).bind fun j => (ds[j]?).map fun d => (d, some (.key k))
  | .fdc ks ds, k => (keyD k).bind fun k => (ks.idxOf? k).bind fun j => (ds[j]?).map fun d => (d, none)
  | _, _ => none
def fIx (fa fb : SE) : SE := fun env => (fa env).bind fun ra e1 t1 => (fb e1).bind fun rb e2 t2 =>
  if okR ra t2 then match rdR e2 rb with
    | some kd => match ra with
      | .val d => match itD d kd with
        | some (x, _) => if x.mv then .bad else .ok (.val x) e2 (t1 || t2)
        | none => .bad
      | .plc i p => match eget e2 i p with
        | some d => match itD d kd with
          | some (x, q) => if x.mv then .bad else if x.st then .ok (.val x) e2 (t1 || t2) else match q with
            | some q => .ok (.plc i (p ++ [q])) e2 (t1 || t2)
            | none => .bad
          | none => .bad
        | none => .bad
    | none => .bad
  else .bad

section
variable {C : Ct} {H : Hp} {Z P : As} {env : Env} {σ : L2.St}
/-- one step further -/
theorem lens_step {i : Nat} {p : List Pj} {d0 d : D} {v0 v : V} {P0 P1 : As} {q : Pj} (l : Lens C H Z env σ P i p d0 v0 P0) (g : eget env i p = some d0) (sb1 : Sub P1 P0) (rd : Rep C H Z d v P1)
    (up1 : ∀ (H' : Hp) (Z' Q : As) (d' : D) (P1' : As), Keep Q H H' → OkP Q Z H → Sub Z Z' → (∀ a, Q a → P0 a → P1 a) → Rep C H' Z' d' v P1' → Dis P1' (mns P0 P1) → Rep C H' Z' (D.put d' [q] d0) v0 (uni (mns P0 P1) P1')) :
    Lens C H Z env σ P i (p ++ [q]) d v P1 := by
  obtain ⟨sb, r0, up⟩ := l
  refine ⟨fun b x => sb b (sb1 b x), rd, fun H' Z' Q d' P1' k ok z qq r' dj => ?_⟩
  have r2 := up1 H' Z' Q d' P1' k ok z (fun b x y => qq b x (sb b y)) r' fun b x y => dj b x ⟨sb b y.1, y.2⟩
  rw [eput_snoc g]
  have r3 := up H' Z' Q _ _ k ok z (fun b x y => sb1 b (qq b x y)) r2 fun b x y => by
    rcases x with x | x
    · exact y.2 x.1
    · exact dj b x ⟨y.1, fun w => y.2 (sb1 b w)⟩
  refine repL_mono r3 fun b x => ?_
  rcases x with ⟨x1, x2⟩ | ⟨x1, x2⟩ | x
  · exact .inl ⟨x1, fun w => x2 (sb1 b w)⟩
  · exact .inl ⟨sb b x1, x2⟩
  · exact .inr x
/-- an item of owned data -/
theorem lst_item {ds : List D} {v0 : V} {P0 : As} {j : Nat} {d : D} (r0 : Rep C H Z (.lst ds) v0 P0) (ed : ds[j]? = some d) (nm : d.mv = false) :
    ∃ a vs v P1, v0 = .ref a ∧ H a = some (.lst vs) ∧ vs.length = ds.length ∧ vs[j]? = some v ∧ Sub P1 P0 ∧ Rep C H Z d v P1 ∧
      ∀ (H' : Hp) (Z' Q : As) (d' : D) (P1' : As), Keep Q H H' → OkP Q Z H → Sub Z Z' → (∀ a, Q a → P0 a → P1 a) → Rep C H' Z' d' v P1' → Dis P1' (mns P0 P1) → Rep C H' Z' (D.put d' [.idx j] (.lst ds)) v0 (uni (mns P0 P1) P1') := by
  obtain ⟨a, vs, e, pa, h, r⟩ := r0
  obtain ⟨v, P1, ev, sb, rd, up⟩ := repL_at r ed (mv_ne nm)
  have ev' : vs[j]? = some v := by
    rw [List.getElem?_map] at ev
    obtain ⟨x, h1, h2⟩ := Option.map_eq_some_iff.mp ev
    rw [h1, Option.some.inj h2]
  refine ⟨a, vs, v, P1, e, h, by simpa using repL_len r, ev', fun b x => (sb b x).1, rd, fun H' Z' Q d' P1' k ok z q r' dj => ?_⟩
  have na : ¬ P1 a := fun x => (sb a x).2 rfl
  have nQ : ¬ Q a := fun x => na (q a x pa)
  have r2 := up H' Z' Q d' (some v) P1' k ok z (fun b x y => q b x y.1) (.inr ⟨v, rfl, r'⟩) fun b x y => dj b x ⟨y.1.1, y.2⟩
  rw [set_same_opt ev] at r2
  have e1 : D.put d' [.idx j] (.lst ds) = .lst (ds.set j d') := rfl
  rw [e1]
  exact ⟨a, vs, e, .inl ⟨pa, na⟩, k a _ h nQ, repL_mono r2 fun b x => by
    rcases x with x | x
    · exact ⟨.inl ⟨x.1.1, x.2⟩, x.1.2⟩
    · exact ⟨.inr x, fun e => by subst e; exact dj b x ⟨pa, na⟩⟩⟩
theorem dct_item {ks : List Key} {ds : List D} {v0 : V} {P0 : As} {j : Nat} {k0 : Key} {d : D} (r0 : Rep C H Z (.dct ks ds) v0 P0) (ek : ks.idxOf? k0 = some j) (ed : ds[j]? = some d) (nm : d.mv = false) :
    ∃ a vs v P1, v0 = .ref a ∧ ks.length = ds.length ∧ H a = some (.dK (ks.zip vs)) ∧ vs.length = ds.length ∧ vs[j]? = some v ∧ Sub P1 P0 ∧ Rep C H Z d v P1 ∧
      ∀ (H' : Hp) (Z' Q : As) (d' : D) (P1' : As), Keep Q H H' → OkP Q Z H → Sub Z Z' → (∀ a, Q a → P0 a → P1 a) → Rep C H' Z' d' v P1' → Dis P1' (mns P0 P1) → Rep C H' Z' (D.put d' [.key k0] (.dct ks ds)) v0 (uni (mns P0 P1) P1') := by
  obtain ⟨a, vs, e, pa, el, h, r⟩ := r0
  obtain ⟨v, P1, ev, sb, rd, up⟩ := repL_at r ed (mv_ne nm)
  have ev' : vs[j]? = some v := by
    rw [List.getElem?_map] at ev
    obtain ⟨x, h1, h2⟩ := Option.map_eq_some_iff.mp ev
    rw [h1, Option.some.inj h2]
  refine ⟨a, vs, v, P1, e, el, h, by simpa using repL_len r, ev', fun b x => (sb b x).1, rd, fun H' Z' Q d' P1' k ok z q r' dj => ?_⟩
  have na : ¬ P1 a := fun x => (sb a x).2 rfl
  have nQ : ¬ Q a := fun x => na (q a x pa)
  have r2 := up H' Z' Q d' (some v) P1' k ok z (fun b x y => q b x y.1) (.inr ⟨v, rfl, r'⟩) fun b x y => dj b x ⟨y.1.1, y.2⟩
  rw [set_same_opt ev] at r2
  have e1 : D.put d' [.key k0] (.dct ks ds) = .dct ks (ds.set j d') := by
    show (match ks.idxOf? k0 with | some i => D.dct ks (ds.set i (D.put d' [] (ds.getD i .mvd))) | none => .dct ks ds) = _
    rw [ek]
    rfl
  rw [e1]
  exact ⟨a, vs, e, .inl ⟨pa, na⟩, by rw [List.length_set]; exact el, k a _ h nQ, repL_mono r2 fun b x => by
    rcases x with x | x
    · exact ⟨.inl ⟨x.1.1, x.2⟩, x.1.2⟩
    · exact ⟨.inr x, fun e => by subst e; exact dj b x ⟨pa, na⟩⟩⟩
theorem key_beq (a b : Key) : (a == b) = decide (a = b) := by
  cases a <;> cases b <;> rename_i x y
  · show (x == y) = _
    by_cases e : x = y <;> simp [e]
  · show false = _
    simp
  · show false = _
    simp
  · show (x == y) = _
    by_cases e : x = y <;> simp [e]
theorem valV_zip : ∀ {ks : List Key} {vs : List V} {k : Key} {j : Nat} {v : V}, ks.idxOf? k = some j → vs[j]? = some v → valV (ks.zip vs) k = some v
  | [], _, _, _, _, h, _ => by simp at h
  | k0 :: ks, [], _, j, _, _, h => by simp at h
  | k0 :: ks, w :: vs, k, j, v, h, hv => by
    rw [List.idxOf?_cons] at h
    by_cases e : k0 = k
    · have : (k0 == k) = true := by rw [key_beq]; exact decide_eq_true e
      rw [this] at h
      have hj : j = 0 := (Option.some.inj h).symm
      subst hj
      rw [List.zip_cons_cons, valV_pos (p := (k0, w)) e]
      exact hv
    · have : (k0 == k) = false := by rw [key_beq]; exact decide_eq_false e
      rw [this] at h
      obtain ⟨j', h1, h2⟩ := Option.map_eq_some_iff.mp (show (ks.idxOf? k).map (· + 1) = some j from h)
      subst h2
      rw [List.zip_cons_cons, valV_neg (p := (k0, w)) e]
      exact valV_zip h1 (by simpa using hv)
theorem valV_zip0 : ∀ {ks : List Key} {vs : List V} {k : Key}, ks.idxOf? k = none → valV (ks.zip vs) k = none
  | [], _, _, _ => rfl
  | k0 :: ks, [], _, _ => by simp [valV]
  | k0 :: ks, w :: vs, k, h => by
    rw [List.idxOf?_cons] at h
    by_cases e : k0 = k
    · have : (k0 == k) = true := by rw [key_beq]; exact decide_eq_true e
      rw [this] at h
      cases h
    · have : (k0 == k) = false := by rw [key_beq]; exact decide_eq_false e
      rw [this] at h
      rw [List.zip_cons_cons, valV_neg (p := (k0, w)) e]
      exact valV_zip0 (Option.map_eq_none_iff.mp (show (ks.idxOf? k).map (· + 1) = none from h))
theorem vs_len {ds : List D} {vs : List V} {P : As} (r : RepL C H Z ds (vs.map some) P) : vs.length = ds.length := by simpa using repL_len r
/-- an item of data that is at hand -/
theorem items_at {ds : List D} {vs : List V} {P1 : As} {j : Nat} {d : D} (r : RepL C H Z ds (vs.map some) P1) (ed : ds[j]? = some d) (nm : d.mv = false) : ∃ v P2, vs[j]? = some v ∧ Sub P2 P1 ∧ Rep C H Z d v P2 := by
  obtain ⟨v, P2, ev, sb, rd, _⟩ := repL_at r ed (mv_ne nm)
  rw [List.getElem?_map] at ev
  obtain ⟨x, h1, h2⟩ := Option.map_eq_some_iff.mp ev
  exact ⟨v, P2, by rw [h1, Option.some.inj h2], sb, rd⟩
theorem atI_at {ds : List D} {i : Int} {d : D} (h : atI ds i = some d) : ∃ j, ixN ds.length i = some j ∧ ds[j]? = some d := Option.bind_eq_some_iff.mp h
theorem atI_of {vs : List V} {n : Nat} {i : Int} {j : Nat} {v : V} (hl : vs.length = n) (e : ixN n i = some j) (ev : vs[j]? = some v) : atI vs i = some v := by
  unfold atI
  rw [hl, e]
  exact ev
theorem keyD_V {kd : D} {k : Key} {y : V} (h : keyD kd = some k) (r : Rd1 C H Z kd y) : y = kV k := by
  cases kd with
  | int i => cases (show some (Sum.inl i) = some k from h); exact rd_sc_int r
  | str x => cases (show some (Sum.inr x) = some k from h); exact rd_sc_str r
  | _ => cases h
end
/-- what an index answers -/
def rIt (K : PySem.W.Frag) : R2 := fun x y H Q => rIx K x y H Q ∨ ∃ a v, x = .ref a ∧ DGet H a y (some v) ∧ Q v H
section
variable {C : Ct} {H : Hp} {Z P : As} {env : Env} {σ : L2.St} {Q : VK}
/-- of a value -/
theorem it_val {d kd x : D} {o : Option Pj} {v y : V} {Pv : As} (hi : itD d kd = some (x, o)) (nm : x.mv = false) (r : Rep C H Z d v Pv) (ry : Rd1 C H Z kd y) (h : ∀ z Pz, Sub Pz Pv → Rep C H Z x z Pz → Q z H) : rIx C.K v y H Q ∨ ∃ a w, v = .ref a ∧ DGet H a y (some w) ∧ Q w H := by
  cases d with
  | tup ds =>
    cases kd <;> simp only [itD] at hi <;> first | cases hi | skip
    rename_i i
    obtain ⟨d', e1, e2⟩ := Option.map_eq_some_iff.mp hi
    cases e2
    obtain ⟨j, e3, e4⟩ := atI_at e1
    obtain ⟨a, vs, ev, s, rr⟩ := r
    obtain ⟨w, P2, e5, sb, rd⟩ := items_at rr e4 nm
    exact .inl (.inr (.inl ⟨a, vs, i, w, ev, rd_sc_int ry, s, atI_of (vs_len rr) e3 e5, h w P2 sb rd⟩))
  | fls ds =>
    cases kd <;> simp only [itD] at hi <;> first | cases hi | skip
    rename_i i
    obtain ⟨d', e1, e2⟩ := Option.map_eq_some_iff.mp hi
    cases e2
    obtain ⟨j, e3, e4⟩ := atI_at e1
    obtain ⟨a, vs, ev, s, rr⟩ := r
    obtain ⟨w, P2, e5, sb, rd⟩ := items_at rr e4 nm
    exact .inl (.inl ⟨a, vs, i, w, ev, rd_sc_int ry, frl_sq s, atI_of (vs_len rr) e3 e5, h w P2 (fun a x => (sb a x).elim) rd⟩)
  | lst ds =>
    cases kd <;> simp only [itD] at hi <;> first | cases hi | skip
    rename_i i
    obtain ⟨j, e3, hi2⟩ := Option.bind_eq_some_iff.mp hi
    obtain ⟨d', e4, e2⟩ := Option.map_eq_some_iff.mp hi2
    cases e2
    obtain ⟨a, vs, w, P1, ev, hh, hl, e5, sb, rd, _⟩ := lst_item r e4 nm
    exact .inl (.inl ⟨a, vs, i, w, ev, rd_sc_int ry, .inl (.inl hh), atI_of hl e3 e5, h w P1 sb rd⟩)
  | str z =>
    cases kd <;> simp only [itD] at hi <;> first | cases hi | skip
    rename_i i
    cases e : szo z.length with
    | false => simp [e] at hi
    | true =>
      rw [e] at hi
      obtain ⟨c, e1, e2⟩ := Option.map_eq_some_iff.mp (show (atI z.cps.toList i).map (fun c => (D.str ⟨#[c]⟩, (none : Option Pj))) = some (x, o) from hi)
      cases e2
      exact .inl (.inr (.inr ⟨z, i, c, r, rd_sc_int ry, szo_le e, e1, h _ emp (fun _ z => z.elim) rfl⟩))
  | dct ks ds =>
    simp only [itD] at hi
    obtain ⟨k, e1, hi2⟩ := Option.bind_eq_some_iff.mp hi
    obtain ⟨j, e3, hi3⟩ := Option.bind_eq_some_iff.mp hi2
    obtain ⟨d', e4, e2⟩ := Option.map_eq_some_iff.mp hi3
    cases e2
    obtain ⟨a, vs, w, P1, ev, el, hh, hl, e5, sb, rd, _⟩ := dct_item r e3 e4 nm
    refine .inr ⟨a, w, ev, ?_, h w P1 sb rd⟩
    rw [keyD_V e1 ry, ← valV_zip e3 e5]
    exact DGet.k hh
  | fdc ks ds =>
    simp only [itD] at hi
    obtain ⟨k, e1, hi2⟩ := Option.bind_eq_some_iff.mp hi
    obtain ⟨j, e3, hi3⟩ := Option.bind_eq_some_iff.mp hi2
    obtain ⟨d', e4, e2⟩ := Option.map_eq_some_iff.mp hi3
    cases e2
    obtain ⟨a, vs, ev, za, el, hh, rr⟩ := r
    obtain ⟨w, P2, e5, sb, rd⟩ := items_at rr e4 nm
    refine .inr ⟨a, w, ev, ?_, h w P2 (fun a x => (sb a x).elim) rd⟩
    rw [keyD_V e1 ry, ← valV_zip e3 e5]
    exact DGet.k hh
  | _ => cases hi
/-- of a place, as a place -/
theorem it_plc {i : Nat} {p : List Pj} {d kd x : D} {q : Pj} {v y : V} {P0 : As} (hi : itD d kd = some (x, some q)) (nm : x.mv = false) (l : Lens C H Z env σ P i p d v P0) (g : eget env i p = some d) (ry : Rd1 C H Z kd y)
    (h : ∀ z P1, eget env i (p ++ [q]) = some x → Lens C H Z env σ P i (p ++ [q]) x z P1 → Q z H) : rIx C.K v y H Q ∨ ∃ a w, v = .ref a ∧ DGet H a y (some w) ∧ Q w H := by
  cases d with
  | lst ds =>
    cases kd <;> simp only [itD] at hi <;> first | cases hi | skip
    rename_i i'
    obtain ⟨j, e3, hi2⟩ := Option.bind_eq_some_iff.mp hi
    obtain ⟨d', e4, e2⟩ := Option.map_eq_some_iff.mp hi2
    cases e2
    obtain ⟨a, vs, w, P1, ev, hh, hl, e5, sb, rd, up⟩ := lst_item l.2.1 e4 nm
    refine .inl (.inl ⟨a, vs, i', w, ev, rd_sc_int ry, .inl (.inl hh), atI_of hl e3 e5, h w P1 ?_ (lens_step l g sb rd up)⟩)
    rw [eget_snoc g]
    show (ds[j]?).bind (D.get []) = _
    rw [e4]; rfl
  | dct ks ds =>
    simp only [itD] at hi
    obtain ⟨k, e1, hi2⟩ := Option.bind_eq_some_iff.mp hi
    obtain ⟨j, e3, hi3⟩ := Option.bind_eq_some_iff.mp hi2
    obtain ⟨d', e4, e2⟩ := Option.map_eq_some_iff.mp hi3
    cases e2
    obtain ⟨a, vs, w, P1, ev, el, hh, hl, e5, sb, rd, up⟩ := dct_item l.2.1 e3 e4 nm
    refine .inr ⟨a, w, ev, ?_, h w P1 ?_ (lens_step l g sb rd up)⟩
    · rw [keyD_V e1 ry, ← valV_zip e3 e5]
      exact DGet.k hh
    · rw [eget_snoc g]
      show ((ks.idxOf? k).bind fun i => (ds[i]?).bind (D.get [])) = _
      rw [e3]
      show (ds[j]?).bind (D.get []) = _
      rw [e4]; rfl
  | tup ds => cases kd <;> simp only [itD] at hi <;> first | cases hi | (obtain ⟨_, _, e⟩ := Option.map_eq_some_iff.mp hi; cases e)
  | fls ds => cases kd <;> simp only [itD] at hi <;> first | cases hi | (obtain ⟨_, _, e⟩ := Option.map_eq_some_iff.mp hi; cases e)
  | str z =>
    cases kd <;> simp only [itD] at hi <;> first | cases hi | skip
    cases e : szo z.length with
    | false => simp [e] at hi
    | true =>
      rw [e] at hi
      obtain ⟨_, _, e2⟩ := Option.map_eq_some_iff.mp (show (atI z.cps.toList _).map (fun c => (D.str ⟨#[c]⟩, (none : Option Pj))) = some (x, some q) from hi)
      cases e2
  | fdc ks ds =>
    simp only [itD] at hi
    obtain ⟨k, e1, hi2⟩ := Option.bind_eq_some_iff.mp hi
    obtain ⟨j, e3, hi3⟩ := Option.bind_eq_some_iff.mp hi2
    obtain ⟨d', e4, e2⟩ := Option.map_eq_some_iff.mp hi3
    cases e2
  | _ => cases hi
end
section
variable {C : Ct} {W : WX} {σ : L2.St} {H : Hp} {Q : VK} {fa fb : SE}
theorem tf_ix (h : tf C W (fIx fa fb) σ H Q) : tOp (rIt C.K) (tf C W fa) (tf C W fb) σ H Q := by
  obtain ⟨env, P, Z, rl, ok, h⟩ := h
  refine ⟨env, P, Z, rl, ok, ?_⟩
  unfold fIx at h
  cases ea : fa env with
  | bad => rw [ea] at h; exact h
  | exc x ds e => rw [ea] at h; exact h
  | ok ra e1 t1 =>
    rw [ea] at h
    intro v1 P1 Pv1 Z1 H1 p1
    refine ⟨e1, P1, Z1, p1.rl, p1.ch.okP, ?_⟩
    cases eb : fb e1 with
    | bad => simp only [O.bind, eb] at h
    | exc x ds e =>
      simp only [O.bind, eb] at h
      exact fun cls dd P' Px Z' H' q => h cls dd P' Px Z' H' (q.up p1.ch p1.dj)
    | ok rb e2 t2 =>
      simp only [O.bind, eb] at h
      intro v2 P2 Pv2 Z2 H2 p2
      cases w : okR ra t2 with
      | false => simp [w] at h
      | true =>
        simp only [w, if_true] at h
        cases ek : rdR e2 rb with
        | none => simp only [ek] at h
        | some kd =>
          simp only [ek] at h
          have ra2 := wait (t2 := t2) p1.res p1.dj p1.ch.okP p2.ch p2.pu w
          have c2 := p1.ch.trans p1.dj p2.ch
          have ry := rd1_of p2.res p2.rl (c2.ok.sub fun a x => .inl x) ek
          have c3 : Ch P Z H (uni P2 Pv1) Z2 H2 := c2.sub fun a x => x.imp .inl id
          have dj : Dis P2 Pv1 := fun a x y => p1.ch.apart p1.dj p2.ch a (.inl x) y
          cases ra with
          | val d =>
            simp only at h
            cases ei : itD d kd with
            | none => simp only [ei] at h
            | some xo =>
              obtain ⟨x, o⟩ := xo
              simp only [ei] at h
              cases m : x.mv with
              | true => simp [m] at h
              | false =>
                simp only [m, Bool.false_eq_true, if_false] at h
                exact it_val ei m ra2 ry fun z Pz sb rz => h z P2 Pz Z2 H2 ⟨p2.rl, rz, fun a x y => dj a x (sb a y), c3.sub fun a x => x.imp id (sb a), pu_seq p1.pu p2.pu⟩
          | plc i p =>
            simp only at h
            cases eg : eget e2 i p with
            | none => simp only [eg] at h
            | some d =>
              simp only [eg] at h
              cases ei : itD d kd with
              | none => simp only [ei] at h
              | some xo =>
                obtain ⟨x, o⟩ := xo
                simp only [ei] at h
                cases m : x.mv with
                | true => simp [m] at h
                | false =>
                  simp only [m, Bool.false_eq_true, if_false] at h
                  have dm : d.mv = false := by
                    cases d <;> first | rfl | (cases ei)
                  obtain ⟨P0, l⟩ := place ra2 p2.rl rfl (show rdR e2 (.plc i p) = some d by simp [rdR, eg, dm])
                  have c1 : Ch P Z H (uni P2 emp) Z2 H2 := c3.sub fun a x => x.elim .inl fun z => z.elim
                  cases s : x.st with
                  | true =>
                    simp only [s, if_true] at h
                    exact it_val ei m l.2.1 ry fun z Pz sb rz => h z P2 emp Z2 H2 ⟨p2.rl, rep_st emp s rz, fun _ _ z => z.elim, c1, pu_seq p1.pu p2.pu⟩
                  | false =>
                    simp only [s, Bool.false_eq_true, if_false] at h
                    cases o with
                    | none => simp only at h
                    | some q =>
                      simp only at h
                      refine it_plc ei m l eg ry fun z P3 g3 l3 => h z P2 emp Z2 H2 ⟨p2.rl, ?_, fun _ _ z => z.elim, c1, pu_seq p1.pu p2.pu⟩
                      cases p with
                      | nil => exact ⟨x, P3, m, g3, l3⟩
                      | cons pj p => exact ⟨x, P3, m, g3, l3⟩
end
section
variable {X : Cx} {C : Ct} {W : WX} {a b : Expr} {fa fb : SE} {pos : Pos}
theorem ix_dict (hu : X.A.units + 1 < cLine) : IxR X fun x y H Q => ∃ a v, x = .ref a ∧ DGet H a y (some v) ∧ Q v H := by
  intro value slice pins s σ H x y v u Q I rx ry ⟨a, w, ex, g, q⟩ hs
  subst ex
  cases rx
  exact tail_any (dict_typeIs I g) PySem.F.slot_dict_getitem.lookup (d_getItem hu I g ry fun w' s' I' r' => ⟨w, H, I', r', q⟩) hs
/-- a[b] -/
theorem e_item (hK : X.K = C.K) (hu : X.A.units + 1 < cLine) (ha : PE X a (tf C W fa)) (hb : PE X b (tf C W fb)) (hs : PlainIx b) : PE X (.Subscript a b pos) (tf C W (fIx fa fb)) :=
  pe_imp (pe_ix (IxR.or ix_seq (ix_dict hu)) ha hb hs) fun _ _ _ h => by rw [hK]; exact tf_ix h
end
end OL

/-! The O layer, 16: comparisons, slices, calls of built-ins. -/
namespace OL
open PySem PySem.Spec PyProof.Rows L2
mutual
def D.py : D → Option PyData
  | .non => some .none
  | .bl b => some (.bool b)
  | .int i => some (.int i)
  | .str x => some (.str x)
  | .tup ds => (pyL ds).map .tuple
  | .lst ds => (pyL ds).map .list
  | .fls ds => (pyL ds).map .list
  | _ => none
def pyL : List D → Option (List PyData)
  | [] => some []
  | d :: ds => d.py.bind fun p => (pyL ds).map (p :: ·)
end
section
variable {C : Ct} {H : Hp} {Z : As}
mutual
theorem dp_of : ∀ {d : D} {v : V} {P : As} {p : PyData}, Rep C H Z d v P → d.py = some p → Dp C.K H v p
  | .non, v, P, p, r, h => by cases (show some PyData.none = some p from h); rw [show v = .non from r]; exact .non
  | .bl b, v, P, p, r, h => by cases (show some (PyData.bool b) = some p from h); rw [show v = .bl b from r]; exact .bl b
  | .int i, v, P, p, r, h => by cases (show some (PyData.int i) = some p from h); rw [show v = .int i from r]; exact .int i
  | .str x, v, P, p, r, h => by cases (show some (PyData.str x) = some p from h); rw [show v = .str x from r]; exact .str x
  | .tup ds, v, P, p, ⟨a, vs, e, s, r⟩, h => by
    obtain ⟨ps, e1, e2⟩ := Option.map_eq_some_iff.mp (show (pyL ds).map PyData.tuple = some p from h)
    subst e e2
    exact .tup s (dpL_of r e1)
  | .lst ds, v, P, p, ⟨a, vs, e, pa, s, r⟩, h => by
    obtain ⟨ps, e1, e2⟩ := Option.map_eq_some_iff.mp (show (pyL ds).map PyData.list = some p from h)
    subst e e2
    exact .lst (.inl (.inl s)) (dpL_of r e1)
  | .fls ds, v, P, p, ⟨a, vs, e, s, r⟩, h => by
    obtain ⟨ps, e1, e2⟩ := Option.map_eq_some_iff.mp (show (pyL ds).map PyData.list = some p from h)
    subst e e2
    exact .lst (frl_sq s) (dpL_of r e1)
  | .fn n, _, _, _, _, h => by cases h
  | .dct ks ds, _, _, _, _, h => by cases h
  | .fdc ks ds, _, _, _, _, h => by cases h
  | .ins c ds, _, _, _, _, h => by cases h
  | .fin c ds, _, _, _, _, h => by cases h
  | .exo n c ds, _, _, _, _, h => by cases h
  | .mvd, _, _, _, _, h => by cases h
theorem dpL_of : ∀ {ds : List D} {vs : List V} {P : As} {ps : List PyData}, RepL C H Z ds (vs.map some) P → pyL ds = some ps → DpAll C.K H vs ps
  | [], vs, P, ps, r, h => by
    cases (show some [] = some ps from h)
    have : vs = [] := by simpa using (show vs.map some = [] from r)
    subst this
    exact .nil
  | d :: ds, vs, P, ps, ⟨o, os', P1, P2, e, hd, r, s⟩, h => by
    obtain ⟨p, e1, h2⟩ := Option.bind_eq_some_iff.mp (show (d.py.bind fun p => (pyL ds).map (p :: ·)) = some ps from h)
    obtain ⟨qs, e2, e3⟩ := Option.map_eq_some_iff.mp h2
    subst e3
    cases vs with
    | nil => simp at e
    | cons v vs =>
      rw [List.map_cons] at e
      injection e with e4 e5
      subst e4 e5
      rcases hd with hd | ⟨w, e6, hd⟩
      · subst hd; cases e1
      · cases e6
        exact .cons (dp_of hd e1) (dpL_of r e2)
end
theorem dp1 {d : D} {v : V} {p : PyData} (r : Rd1 C H Z d v) (h : d.py = some p) : Dp C.K H v p := let ⟨_, _, r⟩ := r; dp_of r h
end
def gEqB (f : Bool → Bool) (a b : D) : Option D := a.py.bind fun d => b.py.bind fun e => if SeqAt.shaped d && SeqAt.shaped e then some (.bl (f (PyData.eqv d e))) else none
/-- == and != -/
abbrev gEq := gEqB id
abbrev gNe := gEqB Bool.not
section
variable {C : Ct}
theorem o2_eqB {f : Bool → Bool} {r : R2} (hr : ∀ x y H Q, (∃ d e, Dp C.K H x d ∧ Dp C.K H y e ∧ SeqAt.shaped d = true ∧ SeqAt.shaped e = true ∧ Q (.bl (f (PyData.eqv d e))) H) → r x y H Q) : Op2 C r (gEqB f) := fun H Z da db x y d Q hz ra rb hg k => by
  obtain ⟨p, e1, h2⟩ := Option.bind_eq_some_iff.mp hg
  obtain ⟨q, e2, h3⟩ := Option.bind_eq_some_iff.mp h2
  cases e : (SeqAt.shaped p && SeqAt.shaped q) with
  | false => simp [e] at h3
  | true =>
    have h3 : some (D.bl (f (PyData.eqv p q))) = some d := by simpa [e] using h3
    cases h3
    rw [Bool.and_eq_true] at e
    exact hr _ _ _ _ ⟨p, q, dp1 ra e1, dp1 rb e2, e.1, e.2, k _ emp H (.sc rfl)⟩
theorem o2_eq {K : PySem.W.Frag} (hK : K = C.K) : Op2 C (rEqD K) gEq := by subst hK; exact o2_eqB fun _ _ _ _ h => h
theorem o2_ne {K : PySem.W.Frag} (hK : K = C.K) : Op2 C (rNeD K) gNe := by subst hK; exact o2_eqB fun _ _ _ _ h => h
end
/-- is None -/
def D.isN : D → Bool
  | .non => true
  | _ => false
def gIsN : D → D → Option D
  | d, .non => if d.mv then none else some (.bl d.isN)
  | _, _ => none
def gNotN (a b : D) : Option D := (gIsN a b).map fun | .bl b => .bl (!b) | d => d
section
variable {C : Ct} {H : Hp} {Z : As}
theorem rd_non {d : D} {v : V} (r : Rd1 C H Z d v) (m : d.mv = false) : decide (v = V.non) = d.isN := by
  obtain ⟨P, _, r⟩ := r
  cases d with
  | non => rw [show v = .non from r]; rfl
  | bl b => rw [show v = .bl b from r]; rfl
  | int b => rw [show v = .int b from r]; rfl
  | str b => rw [show v = .str b from r]; rfl
  | fn n => obtain ⟨a, _, e⟩ := r; subst e; rfl
  | tup ds => obtain ⟨a, _, e, _⟩ := r; subst e; rfl
  | lst ds => obtain ⟨a, _, e, _⟩ := r; subst e; rfl
  | fls ds => obtain ⟨a, _, e, _⟩ := r; subst e; rfl
  | dct ks ds => obtain ⟨a, _, e, _⟩ := r; subst e; rfl
  | fdc ks ds => obtain ⟨a, _, e, _⟩ := r; subst e; rfl
  | ins c ds => obtain ⟨a, _, e, _⟩ := r; subst e; rfl
  | fin c ds => obtain ⟨a, _, e, _⟩ := r; subst e; rfl
  | exo n c ds => obtain ⟨a, _, _, _, e, _⟩ := r; subst e; rfl
  | mvd => cases m
theorem o2_isN : Op2 C (fun x y H Q => y = .non ∧ Q (.bl (decide (x = .non))) H) gIsN := fun H Z da db x y d Q hz ra rb hg k => by
  cases db <;> simp only [gIsN] at hg <;> first | cases hg | skip
  cases m : da.mv with
  | true => simp [m] at hg
  | false =>
    have hg := hg
    simp only [m, Bool.false_eq_true, if_false] at hg
    cases hg
    refine ⟨rd_sc_non rb, ?_⟩
    rw [rd_non ra m]
    exact k _ emp H (.sc rfl)
theorem o2_notN : Op2 C (fun x y H Q => y = .non ∧ Q (.bl (!decide (x = .non))) H) gNotN := fun H Z da db x y d Q hz ra rb hg k => by
  obtain ⟨d0, h1, h2⟩ := Option.map_eq_some_iff.mp hg
  cases db <;> simp only [gIsN] at h1 <;> first | cases h1 | skip
  cases m : da.mv with
  | true => simp [m] at h1
  | false =>
    simp only [m, Bool.false_eq_true, if_false] at h1
    cases h1
    subst h2
    refine ⟨rd_sc_non rb, ?_⟩
    rw [rd_non ra m]
    exact k _ emp H (.sc rfl)
end
/-- flat data, in a list or tuple -/
def D.fl : D → Option V
  | .non => some .non
  | .bl b => some (.bl b)
  | .int i => some (.int i)
  | .str x => some (.str x)
  | _ => none
def flL : List D → Option (List V)
  | [] => some []
  | d :: ds => d.fl.bind fun v => (flL ds).map (v :: ·)
def sqD : D → Option (List D)
  | .tup ds => some ds
  | .lst ds => some ds
  | .fls ds => some ds
  | _ => none
/-- x in y: y a list, a tuple, a text, a dict -/
def gInB (f : Bool → Bool) (a b : D) : Option D := match b with
  | .str z => match a with
    | .str x => some (.bl (f (!(Builtin.Str.occurrences z x 0 z.length 1).isEmpty)))
    | _ => none
  | .dct ks _ => (keyD a).map fun k => .bl (f (ks.idxOf? k).isSome)
  | .fdc ks _ => (keyD a).map fun k => .bl (f (ks.idxOf? k).isSome)
  | b => (sqD b).bind fun ds => a.fl.bind fun v => (flL ds).map fun vs => .bl (f (inV v vs))
abbrev gIn := gInB id
abbrev gNotIn := gInB Bool.not
section
variable {C : Ct} {H : Hp} {Z : As}
theorem fl_of {d : D} {v w : V} {P : As} (r : Rep C H Z d v P) (h : d.fl = some w) : v = w ∧ flatV w = true := by
  cases d with
  | non => cases h; exact ⟨r, rfl⟩
  | bl b => cases h; exact ⟨r, rfl⟩
  | int b => cases h; exact ⟨r, rfl⟩
  | str b => cases h; exact ⟨r, rfl⟩
  | _ => cases h
theorem flL_of : ∀ {ds : List D} {vs ws : List V} {P : As}, RepL C H Z ds (vs.map some) P → flL ds = some ws → vs = ws ∧ ws.all flatV = true
  | [], vs, ws, P, r, h => by
    cases (show some [] = some ws from h)
    exact ⟨by simpa using (show vs.map some = [] from r), rfl⟩
  | d :: ds, vs, ws, P, ⟨o, os', P1, P2, e, hd, r, s⟩, h => by
    obtain ⟨p, e1, h2⟩ := Option.bind_eq_some_iff.mp (show (d.fl.bind fun p => (flL ds).map (p :: ·)) = some ws from h)
    obtain ⟨qs, e2, e3⟩ := Option.map_eq_some_iff.mp h2
    subst e3
    cases vs with
    | nil => simp at e
    | cons v vs =>
      rw [List.map_cons] at e
      injection e with e4 e5
      subst e4 e5
      rcases hd with hd | ⟨w, e6, hd⟩
      · subst hd; cases e1
      · cases e6
        obtain ⟨h3, h4⟩ := fl_of hd e1
        obtain ⟨h5, h6⟩ := flL_of r e2
        subst h3 h5
        exact ⟨rfl, by rw [List.all_cons, h4, h6]; rfl⟩
theorem sq_of {d : D} {v : V} {P : As} {ds : List D} (r : Rep C H Z d v P) (h : sqD d = some ds) : ∃ a vs P1, v = .ref a ∧ (SqL C.K H a vs ∨ SqT C.K H a vs) ∧ Sub P1 P ∧ RepL C H Z ds (vs.map some) P1 := by
  cases d with
  | tup ds' => cases h; obtain ⟨a, vs, e, s, r⟩ := r; exact ⟨a, vs, _, e, .inr s, fun _ x => x, r⟩
  | lst ds' => cases h; obtain ⟨a, vs, e, pa, s, r⟩ := r; exact ⟨a, vs, _, e, .inl (.inl (.inl s)), fun _ x => x.1, r⟩
  | fls ds' => cases h; obtain ⟨a, vs, e, s, r⟩ := r; exact ⟨a, vs, _, e, .inl (frl_sq s), fun _ x => x.elim, r⟩
  | _ => cases h
theorem dk_rd1 {a : D} {k : Key} {ks : List Key} {ds : List D} {x y : V} (h : keyD a = some k) (ra : Rd1 C H Z a x) (rb : Rd1 C H Z (.dct ks ds) y ∨ Rd1 C H Z (.fdc ks ds) y) : ∃ p o, y = .ref p ∧ DGet H p x o ∧ o.isSome = (ks.idxOf? k).isSome := by
  have hx := keyD_V h ra
  have : ∃ p vs, y = .ref p ∧ ks.length = vs.length ∧ H p = some (.dK (ks.zip vs)) := by
    rcases rb with ⟨P, _, r⟩ | ⟨P, _, r⟩
    · obtain ⟨p, vs, e, _, l, hh, r⟩ := r; exact ⟨p, vs, e, l.trans (vs_len r).symm, hh⟩
    · obtain ⟨p, vs, e, _, l, hh, r⟩ := r; exact ⟨p, vs, e, l.trans (vs_len r).symm, hh⟩
  obtain ⟨p, vs, e, l, hh⟩ := this
  subst hx
  refine ⟨p, _, e, DGet.k hh, ?_⟩
  cases ei : ks.idxOf? k with
  | none => rw [valV_zip0 ei]; rfl
  | some j =>
    have hj : j < vs.length := by
      rw [← l]
      have := List.findIdx?_eq_some_iff_getElem.mp ei
      exact this.1
    rw [valV_zip ei (List.getElem?_eq_getElem hj)]
    rfl
/-- `in` as it is answered -/
def rInA (K : PySem.W.Frag) (f : Bool → Bool) : R2 := fun x y H Q => (∃ p xs, y = .ref p ∧ (SqL K H p xs ∨ SqT K H p xs) ∧ flatV x = true ∧ xs.all flatV = true ∧ Q (.bl (f (inV x xs))) H) ∨
  (∃ i j, x = .str i ∧ y = .str j ∧ Q (.bl (f (!(Builtin.Str.occurrences j i 0 j.length 1).isEmpty))) H) ∨ ∃ a o, y = .ref a ∧ DGet H a x o ∧ Q (.bl (f o.isSome)) H
theorem o2_inB {f : Bool → Bool} : Op2 C (rInA C.K f) (gInB f) := fun H Z da db x y d Q hz ra rb hg k => by
  have seq : ((sqD db).bind fun ds => da.fl.bind fun v => (flL ds).map fun vs => D.bl (f (inV v vs))) = some d → rInA C.K f x y H Q := fun hg => by
    obtain ⟨ds, e1, h2⟩ := Option.bind_eq_some_iff.mp hg
    obtain ⟨v, e2, h3⟩ := Option.bind_eq_some_iff.mp h2
    obtain ⟨vs, e3, h4⟩ := Option.map_eq_some_iff.mp h3
    subst h4
    obtain ⟨Pa, _, ra⟩ := ra
    obtain ⟨Pb, _, rb⟩ := rb
    obtain ⟨h5, h6⟩ := fl_of ra e2
    obtain ⟨p, ws, P1, ey, s, _, r⟩ := sq_of rb e1
    obtain ⟨h7, h8⟩ := flL_of r e3
    subst h5 h7
    exact .inl ⟨p, ws, ey, s, h6, h8, k _ emp H (.sc rfl)⟩
  cases db with
  | str z =>
    cases da <;> simp only [gInB] at hg <;> first | cases hg | skip
    exact .inr (.inl ⟨_, _, rd_sc_str ra, rd_sc_str rb, k _ emp H (.sc rfl)⟩)
  | dct ks ds =>
    obtain ⟨key, e1, e2⟩ := Option.map_eq_some_iff.mp (show ((keyD da).map fun k => D.bl (f (ks.idxOf? k).isSome)) = some d from hg)
    subst e2
    obtain ⟨p, o, ey, g, eo⟩ := dk_rd1 e1 ra (.inl rb)
    exact .inr (.inr ⟨p, o, ey, g, by rw [eo]; exact k _ emp H (.sc rfl)⟩)
  | fdc ks ds =>
    obtain ⟨key, e1, e2⟩ := Option.map_eq_some_iff.mp (show ((keyD da).map fun k => D.bl (f (ks.idxOf? k).isSome)) = some d from hg)
    subst e2
    obtain ⟨p, o, ey, g, eo⟩ := dk_rd1 e1 ra (.inr rb)
    exact .inr (.inr ⟨p, o, ey, g, by rw [eo]; exact k _ emp H (.sc rfl)⟩)
  | _ => exact seq hg
end
section
variable {X : Cx}
theorem op_inA (hu : X.A.units + 1 < cLine) : OpR X (compareOp .In) (rInA X.K id) := OpR.or op_in_seq (OpR.or op_in_str fun pins s σ H x y v u Q I rx ry ⟨a, o, ey, g, q⟩ => by
  subst ey
  cases ry
  exact d_in hu I g rx fun s' I' => ⟨.bl o.isSome, H, I', rfl, q⟩)
theorem op_notInA (hu : X.A.units + 1 < cLine) : OpR X (compareOp .NotIn) (rInA X.K Bool.not) := OpR.or op_notIn_seq (OpR.or op_notin_str fun pins s σ H x y v u Q I rx ry ⟨a, o, ey, g, q⟩ => by
  subst ey
  cases ry
  exact d_notIn hu I g rx fun s' I' => ⟨.bl (!o.isSome), H, I', rfl, q⟩)
end
end OL

/-! The O layer, 17: slices, calls of built-ins. -/
namespace OL
open PySem PySem.Spec PyProof.Rows L2
section
variable {C : Ct} {H : Hp} {Z : As}
theorem repL_drop : ∀ {n : Nat} {ds : List D} {os : List (Option V)} {P : As}, RepL C H Z ds os P → RepL C H Z (ds.drop n) (os.drop n) P
  | 0, _, _, _, r => r
  | n + 1, [], os, P, r => by rw [show os = [] from r]; exact rfl
  | n + 1, d :: ds, os, P, ⟨o, os', P1, P2, e, h, r, s⟩ => by subst e; exact repL_mono (repL_drop (n := n) r) s.r
theorem repL_tk : ∀ {n : Nat} {ds : List D} {os : List (Option V)} {P : As}, RepL C H Z ds os P → RepL C H Z (ds.take n) (os.take n) P
  | 0, _, _, _, r => by rw [List.take_zero, List.take_zero]; exact rfl
  | n + 1, [], os, P, r => by rw [show os = [] from r]; exact rfl
  | n + 1, d :: ds, os, P, ⟨o, os', P1, P2, e, h, r, s⟩ => by subst e; exact ⟨o, os'.take n, P1, P2, rfl, h, repL_tk r, s⟩
def cutD (ds : List D) (lo hi : Option Int) : List D := (ds.drop (HT.sIx ds.length 0 lo)).take (HT.sIx ds.length ds.length hi - HT.sIx ds.length 0 lo)
theorem repL_cut {ds : List D} {vs : List V} {P : As} {lo hi : Option Int} (r : RepL C H Z ds (vs.map some) P) : RepL C H Z (cutD ds lo hi) ((cutV vs lo hi).map some) P := by
  unfold cutD cutV
  rw [vs_len r, List.map_take, List.map_drop]
  exact repL_tk (repL_drop r)
theorem stL_mem : ∀ {ds : List D}, stL ds = true ↔ ∀ d ∈ ds, d.st = true
  | [] => by simp [stL]
  | d :: ds => by simp [stL, stL_mem (ds := ds)]
theorem stL_cut {ds : List D} {lo hi : Option Int} (h : stL ds = true) : stL (cutD ds lo hi) = true := stL_mem.mpr fun d m => stL_mem.mp h d (List.mem_of_mem_drop (List.mem_of_mem_take m))
end
/-- d[lo:hi] -/
def gSl (lo hi : Option Int) : D → Option D
  | .tup ds => if stL ds then some (.tup (cutD ds lo hi)) else none
  | .lst ds => if stL ds then some (.lst (cutD ds lo hi)) else none
  | .fls ds => if stL ds then some (.lst (cutD ds lo hi)) else none
  | .str z => if szo z.length then some (.str (cutS z lo hi)) else none
  | _ => none
def rSlAll (K : PySem.W.Frag) : V → Option Int → Option Int → Hp → VK → Prop := fun x lo hi H Q => rSlA K x lo hi H Q ∨ rSlL K x lo hi H Q ∨ rSlS x lo hi H Q
theorem cut_whole {α : Type} {l : List α} {a b : Nat} (ha : a = 0) (hb : b = l.length) : (l.drop a).take (b - a) = l := by subst ha hb; simp
section
variable {C : Ct} {H : Hp} {Z : As} {Q : VK}
theorem o_sl {lo hi : Option Int} {da d : D} {x : V} (ra : Rd1 C H Z da x) (hg : gSl lo hi da = some d) (hz : ∀ a, Z a → H a ≠ none) (k : ∀ z Pz H', New C H Z d z Pz H' → Q z H') : rSlAll C.K x lo hi H Q := by
  cases da with
  | tup ds =>
    cases s : stL ds with
    | false => simp [gSl, s] at hg
    | true =>
      have hg : some (D.tup (cutD ds lo hi)) = some d := by simpa [gSl, s] using hg
      cases hg
      obtain ⟨p, vs, ex, sx, lx, P1, _, r1⟩ := rd_tup ra
      have r1' := repL_st emp s r1
      refine .inl ⟨p, vs, ex, sx, fun hw => ?_, fun hw q n => ?_⟩
      · have e : cutD ds lo hi = ds := by
          unfold cutD
          rw [← lx]
          exact cut_whole hw.1 (by rw [hw.2]; exact lx)
        rw [e] at k
        exact k _ emp H (.sc ⟨p, vs, rfl, sx, r1'⟩)
      · exact k _ emp _ (.tup (P := emp) (repL_cut r1') (stL_cut s) n)
  | lst ds =>
    cases s : stL ds with
    | false => simp [gSl, s] at hg
    | true =>
      have hg : some (D.lst (cutD ds lo hi)) = some d := by simpa [gSl, s] using hg
      cases hg
      obtain ⟨p, vs, ex, sx, lx, P1, _, r1⟩ := rd_lst (ds := ds) rfl ra
      exact .inr (.inl ⟨p, vs, ex, sx, fun q n => k _ _ _ (.lst (repL_cut (repL_st emp s r1)) (stL_cut s) n hz)⟩)
  | fls ds =>
    cases s : stL ds with
    | false => simp [gSl, s] at hg
    | true =>
      have hg : some (D.lst (cutD ds lo hi)) = some d := by simpa [gSl, s] using hg
      cases hg
      obtain ⟨p, vs, ex, sx, lx, P1, _, r1⟩ := rd_lst (ds := ds) rfl ra
      exact .inr (.inl ⟨p, vs, ex, sx, fun q n => k _ _ _ (.lst (repL_cut (repL_st emp s r1)) (stL_cut s) n hz)⟩)
  | str z =>
    cases s : szo z.length with
    | false => simp [gSl, s] at hg
    | true =>
      have hg : some (D.str (cutS z lo hi)) = some d := by simpa [gSl, s] using hg
      cases hg
      exact .inr (.inr ⟨z, rd_sc_str ra, szo_le s, k _ emp H (.sc rfl)⟩)
  | _ => cases hg
end
/-! ### parts of a slice -/
abbrev SO := Env → O (Option Int)
def tp (C : Ct) (W : WX) (f : SO) : TO := fun σ H Q => ∃ env P Z, RepL C H Z env σ P ∧ OkS P Z H ∧ match f env with
  | .ok b env' t => ∀ P' Z' H', PB' C σ P Z H env env' t P' Z' H' → Q b H'
  | .exc x ds env' => ∀ cls dd P' Px Z' H', PX' C σ P Z H x ds env' cls dd P' Px Z' H' → W cls dd σ H'
  | .bad => False
def pNo : SO := fun env => .ok none env false
def pOf (f : SE) : SO := fun env => (f env).bind fun r e t => match rdR e r with
  | some (.int i) => .ok (some i) e t
  | _ => .bad
def fSl (fa : SE) (fl fh : SO) : SE := fun env => (fa env).bind fun ra e1 t1 => (fl e1).bind fun l e2 t2 => (fh e2).bind fun u e3 t3 =>
  if okR ra (t2 || t3) then match (rdR e3 ra).bind (gSl l u) with
    | some d => .ok (.val d) e3 (t1 || (t2 || t3))
    | none => .bad
  else .bad
theorem po_imp {X : Cx} {e : Option Expr} {t t' : TO} (h : PO X e t) (i : ∀ σ H Q, t' σ H Q → t σ H Q) : PO X e t' := ⟨fun pins s σ H Q I w => h.run pins s σ H Q I (i σ H Q w)⟩
section
variable {C : Ct} {W : WX} {σ : L2.St} {H : Hp} {fa : SE} {fl fh : SO}
theorem PB'.up {P Z P1 Z1 Pv1 P' Z' : As} {H1 H' : Hp} {env e1 e2 : Env} {t1 t2 : Bool} (c : Ch P Z H (uni P1 Pv1) Z1 H1) (dj : Dis P1 Pv1) (pu : t1 = false → e1 = env ∧ P1 = P ∧ Keep emp H H1) (h : PB' C σ P1 Z1 H1 e1 e2 t2 P' Z' H') : PB' C σ P Z H env e2 (t1 || t2) P' Z' H' :=
  ⟨h.rl, (c.trans dj h.ch).sub fun _ x => .inl x, pu_seq pu h.pu⟩
theorem tp_no {Q : Option Int → Hp → Prop} (h : tp C W pNo σ H Q) : tNoPart σ H Q := by
  obtain ⟨env, P, Z, rl, ok, h⟩ := h
  exact h P Z H ⟨rl, Ch.refl ok, fun _ => ⟨rfl, rfl, keep_refl⟩⟩
theorem tp_of {Q : Option Int → Hp → Prop} (h : tp C W (pOf fa) σ H Q) : tPart (tf C W fa) σ H Q := by
  obtain ⟨env, P, Z, rl, ok, h⟩ := h
  refine ⟨env, P, Z, rl, ok, ?_⟩
  unfold pOf at h
  cases ea : fa env with
  | bad => rw [ea] at h; exact h
  | exc x ds e => rw [ea] at h; exact h
  | ok ra e1 t1 =>
    rw [ea] at h
    simp only [O.bind] at h
    intro v1 P1 Pv1 Z1 H1 p1
    cases er : rdR e1 ra with
    | none => simp only [er] at h
    | some d =>
      cases d with
      | int i =>
        simp only [er] at h
        exact ⟨i, rd_sc_int (rd1_of p1.res p1.rl p1.ch.ok er), h P1 Z1 H1 ⟨p1.rl, p1.ch.sub fun _ x => .inl x, p1.pu⟩⟩
      | _ => simp only [er] at h
theorem tf_sl {Q : VK} (h : tf C W (fSl fa fl fh) σ H Q) : tSl (rSlAll C.K) (tf C W fa) (tp C W fl) (tp C W fh) σ H Q := by
  obtain ⟨env, P, Z, rl, ok, h⟩ := h
  refine ⟨env, P, Z, rl, ok, ?_⟩
  unfold fSl at h
  cases ea : fa env with
  | bad => rw [ea] at h; exact h
  | exc x ds e => rw [ea] at h; exact h
  | ok ra e1 t1 =>
    rw [ea] at h
    intro v1 P1 Pv1 Z1 H1 p1
    refine ⟨e1, P1, Z1, p1.rl, p1.ch.okP, ?_⟩
    cases eb : fl e1 with
    | bad => simp only [O.bind, eb] at h
    | exc x ds e =>
      simp only [O.bind, eb] at h
      exact fun cls dd P' Px Z' H' q => h cls dd P' Px Z' H' (q.up p1.ch p1.dj)
    | ok l e2 t2 =>
      simp only [O.bind, eb] at h
      intro P2 Z2 H2 p2
      refine ⟨e2, P2, Z2, p2.rl, p2.ch.ok, ?_⟩
      cases ec : fh e2 with
      | bad => simp only [O.bind, ec] at h
      | exc x ds e =>
        simp only [O.bind, ec] at h
        exact fun cls dd P' Px Z' H' q => h cls dd P' Px Z' H' (PX'.up p1.ch p1.dj (PX'.up (Pv1 := emp) (p2.ch.sub fun _ x => x.elim id fun z => z.elim) (fun _ _ z => z.elim) q))
      | ok u e3 t3 =>
        simp only [O.bind, ec] at h
        intro P3 Z3 H3 p3
        have p23 : PB' C σ P1 Z1 H1 e1 e3 (t2 || t3) P3 Z3 H3 := PB'.up (Pv1 := emp) (p2.ch.sub fun _ x => x.elim id fun z => z.elim) (fun _ _ z => z.elim) p2.pu p3
        cases w : okR ra (t2 || t3) with
        | false => simp [w] at h
        | true =>
          simp only [w, if_true] at h
          cases ed : (rdR e3 ra).bind (gSl l u) with
          | none => simp only [ed] at h
          | some d =>
            simp only [ed] at h
            obtain ⟨da, e4, ed2⟩ := Option.bind_eq_some_iff.mp ed
            have c2 := p1.ch.trans p1.dj p23.ch
            have ra2 := wait (t2 := t2 || t3) p1.res p1.dj p1.ch.okP p23.ch p23.pu w
            exact o_sl (rd1_of ra2 p3.rl c2.ok e4) ed2 c2.ok.zt fun z Pz H' n => h z P3 Pz Z3 H' (newE (T := Pv1) (e := env) p3.rl c2 n (pu_seq p1.pu p23.pu))
end
section
variable {X : Cx} {C : Ct} {W : WX} {a e : Expr} {fa : SE} {lo hi : Option Expr} {fl fh : SO} {pos p2 : Pos}
theorem p_no : PO X none (tp C W pNo) := po_imp po_none fun _ _ _ h => tp_no h
theorem p_of (h : PE X e (tf C W fa)) : PO X (some e) (tp C W (pOf fa)) := po_imp (po_some h) fun _ _ _ h => tp_of h
theorem e_slice (hK : X.K = C.K) (ha : PE X a (tf C W fa)) (hl : PO X lo (tp C W fl)) (hu : PO X hi (tp C W fh)) : PE X (.Subscript a (.Slice lo hi none p2) pos) (tf C W (fSl fa fl fh)) :=
  pe_imp (pe_slice (SlR.or sl_tupA (SlR.or sl_list sl_str)) ha hl hu) fun _ _ _ h => by rw [hK]; exact tf_sl h
end
end OL

/-! The O layer, 18: calls of built-ins. -/
namespace OL
open PySem PySem.Spec PyProof.Rows L2
section
variable {C : Ct} {H : Hp} {Z : As}
theorem rdL1 {da : D} {xs : List V} (h : RdL C H Z [da] xs) : ∃ x, xs = [x] ∧ Rd1 C H Z da x := by
  obtain ⟨v, ws, e, r, h⟩ := h
  rw [show ws = [] from h] at e
  exact ⟨v, e, r⟩
theorem rdL2 {da db : D} {xs : List V} (h : RdL C H Z [da, db] xs) : ∃ x y, xs = [x, y] ∧ Rd1 C H Z da x ∧ Rd1 C H Z db y := by
  obtain ⟨v, ws, e, r, w, us, e2, r2, h⟩ := h
  rw [show us = [] from h] at e2
  exact ⟨v, w, by rw [e, e2], r, r2⟩
theorem OpN.or {r r' : List V → Hp → VK → Prop} {g g' : List D → Option D} (a : OpN C r g) (b : OpN C r' g') : OpN C (fun x H Q => r x H Q ∨ r' x H Q) fun ds => (g ds).or (g' ds) := fun H Z ds x d Q hz ra hg k => by
  have hg : (g ds).or (g' ds) = some d := hg
  cases e : g ds with
  | some d' =>
    rw [e] at hg
    have hg' : some d' = some d := hg
    cases hg'
    exact .inl (a H Z ds x _ Q hz ra e k)
  | none =>
    rw [e] at hg
    exact .inr (b H Z ds x _ Q hz ra hg k)
end
def g1 (g : D → Option D) : List D → Option D
  | [d] => g d
  | _ => none
def g2 (g : D → D → Option D) : List D → Option D
  | [d, e] => g d e
  | _ => none
section
variable {C : Ct}
theorem on1 {r : List V → Hp → VK → Prop} {g : D → Option D} (o : Op1 C (fun x H Q => r [x] H Q) g) : OpN C r (g1 g) := fun H Z ds xs d Q hz ra hg k => by
  match ds, ra, hg with
  | [da], ra, hg =>
    obtain ⟨x, e, r1⟩ := rdL1 ra
    subst e
    exact o H Z da x d Q hz r1 hg k
theorem on2 {r : List V → Hp → VK → Prop} {g : D → D → Option D} (o : Op2 C (fun x y H Q => r [x, y] H Q) g) : OpN C r (g2 g) := fun H Z ds xs d Q hz ra hg k => by
  match ds, ra, hg with
  | [da, db], ra, hg =>
    obtain ⟨x, y, e, r1, r2⟩ := rdL2 ra
    subst e
    exact o H Z da db x y d Q hz r1 r2 hg k
end
/-! ### len -/
def gLen : D → Option D
  | .tup ds => some (.int ds.length)
  | .lst ds => some (.int ds.length)
  | .fls ds => some (.int ds.length)
  | .str z => if szo z.length then some (.int z.length) else none
  | .dct ks ds => some (.int ks.length)
  | .fdc ks ds => some (.int ks.length)
  | _ => none
def rLenA (K : PySem.W.Frag) : List V → Hp → VK → Prop := fun xs H Q => (∃ x n, xs = [x] ∧ LenV K x H n ∧ Q (.int n) H) ∨ ∃ a kvs, xs = [V.ref a] ∧ H a = some (.dK kvs) ∧ Q (.int kvs.length) H
section
variable {C : Ct} {H : Hp} {Z : As}
theorem dk_at {d : D} {ks : List Key} {ds : List D} {x : V} (r : Rd1 C H Z d x) (e : d = .dct ks ds ∨ d = .fdc ks ds) : ∃ a vs P, x = .ref a ∧ H a = some (.dK (ks.zip vs)) ∧ ks.length = vs.length ∧ RepL C H Z ds (vs.map some) P := by
  obtain ⟨P, _, r⟩ := r
  rcases e with e | e
  · subst e
    obtain ⟨p, vs, e, _, l, hh, r⟩ := r; exact ⟨p, vs, _, e, hh, l.trans (vs_len r).symm, r⟩
  · subst e
    obtain ⟨p, vs, e, _, l, hh, r⟩ := r; exact ⟨p, vs, _, e, hh, l.trans (vs_len r).symm, r⟩
theorem zip_len {ks : List Key} {vs : List V} (h : ks.length = vs.length) : (ks.zip vs).length = ks.length := by rw [List.length_zip, ← h, Nat.min_self]
theorem o1_len : Op1 C (fun x H Q => rLenA C.K [x] H Q) gLen := fun H Z da x d Q hz ra hg k => by
  have sq : ∀ ds : List D, (∃ a vs, x = .ref a ∧ (SqL C.K H a vs ∨ SqT C.K H a vs) ∧ vs.length = ds.length) → some (D.int (ds.length : Nat)) = some d → rLenA C.K [x] H Q := fun ds ⟨a, vs, e, s, l⟩ hd => by
    cases hd
    refine .inl ⟨x, ds.length, rfl, ?_, k _ emp H (.sc rfl)⟩
    subst e
    rcases s with s | s
    · exact .inl ⟨vs, s, l.symm⟩
    · exact .inr ⟨vs, s, l.symm⟩
  have dk : ∀ (ks : List Key) (ds : List D), da = .dct ks ds ∨ da = .fdc ks ds → some (D.int (ks.length : Nat)) = some d → rLenA C.K [x] H Q := fun ks ds e hd => by
    cases hd
    obtain ⟨a, vs, P, ex, hh, l, _⟩ := dk_at ra e
    refine .inr ⟨a, _, by rw [ex], hh, ?_⟩
    rw [zip_len l]
    exact k _ emp H (.sc rfl)
  cases da with
  | tup ds => obtain ⟨a, vs, e, s, l, _⟩ := rd_tup ra; exact sq ds ⟨a, vs, e, .inr s, l⟩ hg
  | lst ds => obtain ⟨a, vs, e, s, l, _⟩ := rd_lst (ds := ds) rfl ra; exact sq ds ⟨a, vs, e, .inl s, l⟩ hg
  | fls ds => obtain ⟨a, vs, e, s, l, _⟩ := rd_lst (ds := ds) rfl ra; exact sq ds ⟨a, vs, e, .inl s, l⟩ hg
  | str z =>
    cases e : szo z.length with
    | false => simp [gLen, e] at hg
    | true =>
      have hg : some (D.int (z.length : Nat)) = some d := by simpa [gLen, e] using hg
      cases hg
      refine .inl ⟨x, z.length, rfl, ?_, k _ emp H (.sc rfl)⟩
      rw [rd_sc_str ra]
      exact ⟨szo_le e, rfl⟩
  | dct ks ds => exact dk ks ds (.inl rfl) hg
  | fdc ks ds => exact dk ks ds (.inr rfl) hg
  | _ => cases hg
end
theorem cr_lenA {X : Cx} : CallR X (.builtin "len") (rLenA X.K) := CallR.or call_len call_lenD
/-! ### int, max, min, sum, all, any -/
def gInt : D → Option D
  | .int i => some (.int i)
  | .bl b => some (.int (if b then 1 else 0))
  | _ => none
def intsD : List D → Option (List Int)
  | [] => some []
  | .int i :: r => (intsD r).map (i :: ·)
  | _ => none
def blsD : List D → Option (List Bool)
  | [] => some []
  | .bl i :: r => (blsD r).map (i :: ·)
  | _ => none
def strsD : List D → Option (List Str)
  | [] => some []
  | .str i :: r => (strsD r).map (i :: ·)
  | _ => none
def lsD' : D → Option (List D) := lsD
def gSum (d : D) : Option D := (lsD d).bind fun ds => (intsD ds).map fun is => .int is.sum
def gAll (d : D) : Option D := (lsD d).bind fun ds => (blsD ds).map fun is => .bl (is.all id)
def gAny (d : D) : Option D := (lsD d).bind fun ds => (blsD ds).map fun is => .bl (is.any id)
abbrev gMax2 := gI fun i j => .int (if j > i then j else i)
abbrev gMin2 := gI fun i j => .int (if j < i then j else i)
section
variable {C : Ct} {H : Hp} {Z : As}
theorem ints_of : ∀ {ds : List D} {vs : List V} {P : As} {is : List Int}, RepL C H Z ds (vs.map some) P → intsD ds = some is → vs = is.map V.int
  | [], vs, P, is, r, h => by
    cases (show some [] = some is from h)
    simpa using (show vs.map some = [] from r)
  | d :: ds, vs, P, is, ⟨o, os', P1, P2, e, hd, r, s⟩, h => by
    cases d <;> simp only [intsD] at h <;> first | cases h | skip
    obtain ⟨js, e1, e2⟩ := Option.map_eq_some_iff.mp h
    subst e2
    cases vs with
    | nil => simp at e
    | cons v vs =>
      rw [List.map_cons] at e
      injection e with e4 e5
      subst e4 e5
      rcases hd with hd | ⟨w, e6, hd⟩
      · cases hd
      · cases e6
        rw [List.map_cons, ints_of r e1, show v = .int _ from hd]
theorem bls_of : ∀ {ds : List D} {vs : List V} {P : As} {is : List Bool}, RepL C H Z ds (vs.map some) P → blsD ds = some is → vs = is.map V.bl
  | [], vs, P, is, r, h => by
    cases (show some [] = some is from h)
    simpa using (show vs.map some = [] from r)
  | d :: ds, vs, P, is, ⟨o, os', P1, P2, e, hd, r, s⟩, h => by
    cases d <;> simp only [blsD] at h <;> first | cases h | skip
    obtain ⟨js, e1, e2⟩ := Option.map_eq_some_iff.mp h
    subst e2
    cases vs with
    | nil => simp at e
    | cons v vs =>
      rw [List.map_cons] at e
      injection e with e4 e5
      subst e4 e5
      rcases hd with hd | ⟨w, e6, hd⟩
      · cases hd
      · cases e6
        rw [List.map_cons, bls_of r e1, show v = .bl _ from hd]
theorem strs_of : ∀ {ds : List D} {vs : List V} {P : As} {is : List Str}, RepL C H Z ds (vs.map some) P → strsD ds = some is → vs = is.map V.str
  | [], vs, P, is, r, h => by
    cases (show some [] = some is from h)
    simpa using (show vs.map some = [] from r)
  | d :: ds, vs, P, is, ⟨o, os', P1, P2, e, hd, r, s⟩, h => by
    cases d <;> simp only [strsD] at h <;> first | cases h | skip
    obtain ⟨js, e1, e2⟩ := Option.map_eq_some_iff.mp h
    subst e2
    cases vs with
    | nil => simp at e
    | cons v vs =>
      rw [List.map_cons] at e
      injection e with e4 e5
      subst e4 e5
      rcases hd with hd | ⟨w, e6, hd⟩
      · cases hd
      · cases e6
        rw [List.map_cons, strs_of r e1, show v = .str _ from hd]
theorem o1_int : Op1 C (fun x H Q => (∃ i, [x] = [V.int i] ∧ Q (.int i) H) ∨ ∃ k, [x] = [V.bl k] ∧ Q (.int (if k then 1 else 0)) H) gInt := fun H Z da x d Q hz ra hg k => by
  cases da <;> simp only [gInt] at hg <;> cases hg
  · exact .inr ⟨_, by rw [rd_sc_bl ra], k _ emp H (.sc rfl)⟩
  · exact .inl ⟨_, by rw [rd_sc_int ra], k _ emp H (.sc rfl)⟩
theorem o2_max : Op2 C (fun x y H Q => ∃ i j, [x, y] = [V.int i, V.int j] ∧ Q (.int (if j > i then j else i)) H) gMax2 := fun H Z da db x y d Q hz ra rb hg k => by
  cases da <;> cases db <;> simp only [gMax2, gI] at hg <;> cases hg
  exact ⟨_, _, by rw [rd_sc_int ra, rd_sc_int rb], k _ emp H (.sc rfl)⟩
theorem o2_min : Op2 C (fun x y H Q => ∃ i j, [x, y] = [V.int i, V.int j] ∧ Q (.int (if j < i then j else i)) H) gMin2 := fun H Z da db x y d Q hz ra rb hg k => by
  cases da <;> cases db <;> simp only [gMin2, gI] at hg <;> cases hg
  exact ⟨_, _, by rw [rd_sc_int ra, rd_sc_int rb], k _ emp H (.sc rfl)⟩
theorem o1_sum : Op1 C (fun x H Q => rSum C.K [x] H Q) gSum := fun H Z da x d Q hz ra hg k => by
  obtain ⟨ds, e1, h2⟩ := Option.bind_eq_some_iff.mp hg
  obtain ⟨is, e2, e3⟩ := Option.map_eq_some_iff.mp h2
  subst e3
  obtain ⟨a, vs, e, s, l, P, _, r⟩ := rd_lst e1 ra
  exact ⟨a, is, by rw [e], by rw [← ints_of r e2]; exact s, k _ emp H (.sc rfl)⟩
theorem o1_all : Op1 C (fun x H Q => rAll C.K [x] H Q) gAll := fun H Z da x d Q hz ra hg k => by
  obtain ⟨ds, e1, h2⟩ := Option.bind_eq_some_iff.mp hg
  obtain ⟨is, e2, e3⟩ := Option.map_eq_some_iff.mp h2
  subst e3
  obtain ⟨a, vs, e, s, l, P, _, r⟩ := rd_lst e1 ra
  exact ⟨a, is, by rw [e], by rw [← bls_of r e2]; exact s, k _ emp H (.sc rfl)⟩
theorem o1_any : Op1 C (fun x H Q => rAny C.K [x] H Q) gAny := fun H Z da x d Q hz ra hg k => by
  obtain ⟨ds, e1, h2⟩ := Option.bind_eq_some_iff.mp hg
  obtain ⟨is, e2, e3⟩ := Option.map_eq_some_iff.mp h2
  subst e3
  obtain ⟨a, vs, e, s, l, P, _, r⟩ := rd_lst e1 ra
  exact ⟨a, is, by rw [e], by rw [← bls_of r e2]; exact s, k _ emp H (.sc rfl)⟩
end
/-! ### list, tuple, dict -/
def kD : Key → D
  | .inl i => .int i
  | .inr x => .str x
def gList : D → Option D
  | .tup ds => if stL ds then some (.lst ds) else none
  | .lst ds => if stL ds then some (.lst ds) else none
  | .fls ds => if stL ds then some (.lst ds) else none
  | .dct ks _ => some (.lst (ks.map kD))
  | .fdc ks _ => some (.lst (ks.map kD))
  | _ => none
def gTuple : D → Option D
  | .tup ds => if stL ds then some (.tup ds) else none
  | .lst ds => if stL ds then some (.tup ds) else none
  | .fls ds => if stL ds then some (.tup ds) else none
  | _ => none
def gDict : D → Option D
  | .dct ks ds => if stL ds then some (.dct ks ds) else none
  | .fdc ks ds => if stL ds then some (.dct ks ds) else none
  | _ => none
def rListA (K : PySem.W.Frag) : List V → Hp → VK → Prop := fun xs H Q => (∃ p ys, xs = [.ref p] ∧ (SqL K H p ys ∨ SqT K H p ys) ∧ ∀ l, H l = none → Q (.ref l) (upd H l (.lst ys))) ∨ rListD xs H Q
def rTupA (K : PySem.W.Frag) : List V → Hp → VK → Prop := fun xs H Q => ∃ p ys, xs = [.ref p] ∧ ((SqL K H p ys ∧ ∀ l, H l = none → Q (.ref l) (upd H l (.tup ys))) ∨ (SqT K H p ys ∧ Q (.ref p) H))
def rDictA : List V → Hp → VK → Prop := fun xs H Q => ∃ a kvs, xs = [.ref a] ∧ H a = some (.dK kvs) ∧ ∀ p, H p = none → Q (.ref p) (upd H p (.dK kvs))
section
variable {C : Ct} {H : Hp} {Z : As}
theorem rep_keys : ∀ (ks : List Key), RepL C H Z (ks.map kD) ((ks.map kV).map some) emp
  | [] => rfl
  | k :: ks => ⟨some (kV k), _, emp, emp, rfl, .inr ⟨kV k, rfl, by cases k <;> rfl⟩, rep_keys ks, ⟨fun _ z => z, fun _ z => z, fun _ z => z.elim⟩⟩
theorem st_keys : ∀ (ks : List Key), stL (ks.map kD) = true
  | [] => rfl
  | k :: ks => by cases k <;> exact st_keys ks
theorem keys_zip {ks : List Key} {vs : List V} (l : ks.length = vs.length) : (ks.zip vs).map (fun kv => kV kv.1) = ks.map kV := by
  rw [show (fun kv : Key × V => kV kv.1) = kV ∘ Prod.fst from rfl, ← List.map_map, List.map_fst_zip (Nat.le_of_eq l)]
theorem o1_list : Op1 C (fun x H Q => rListA C.K [x] H Q) gList := fun H Z da x d Q hz ra hg k => by
  have sq : ∀ ds P, (∃ a vs, x = .ref a ∧ (SqL C.K H a vs ∨ SqT C.K H a vs) ∧ RepL C H Z ds (vs.map some) P) → (if stL ds then some (D.lst ds) else none) = some d → rListA C.K [x] H Q := fun ds P ⟨a, vs, e, s, r⟩ hd => by
    cases es : stL ds with
    | false => simp [es] at hd
    | true =>
      have hd : some (D.lst ds) = some d := by simpa [es] using hd
      cases hd
      exact .inl ⟨a, vs, by rw [e], s, fun l n => k _ _ _ (.lst r es n hz)⟩
  have dk : ∀ ks ds, da = .dct ks ds ∨ da = .fdc ks ds → some (D.lst (ks.map kD)) = some d → rListA C.K [x] H Q := fun ks ds e hd => by
    cases hd
    obtain ⟨a, vs, P, ex, hh, l, _⟩ := dk_at ra e
    refine .inr ⟨a, _, by rw [ex], hh, fun q n => ?_⟩
    rw [keys_zip l]
    exact k _ _ _ (.lst (rep_keys ks) (st_keys ks) n hz)
  cases da with
  | tup ds => obtain ⟨a, vs, e, s, l, P, _, r⟩ := rd_tup ra; exact sq ds P ⟨a, vs, e, .inr s, r⟩ hg
  | lst ds => obtain ⟨a, vs, e, s, l, P, _, r⟩ := rd_lst (ds := ds) rfl ra; exact sq ds P ⟨a, vs, e, .inl s, r⟩ hg
  | fls ds => obtain ⟨a, vs, e, s, l, P, _, r⟩ := rd_lst (ds := ds) rfl ra; exact sq ds P ⟨a, vs, e, .inl s, r⟩ hg
  | dct ks ds => exact dk ks ds (.inl rfl) hg
  | fdc ks ds => exact dk ks ds (.inr rfl) hg
  | _ => cases hg
theorem o1_tuple : Op1 C (fun x H Q => rTupA C.K [x] H Q) gTuple := fun H Z da x d Q hz ra hg k => by
  have sq : ∀ ds P, (∃ a vs, x = .ref a ∧ SqL C.K H a vs ∧ RepL C H Z ds (vs.map some) P) → (if stL ds then some (D.tup ds) else none) = some d → rTupA C.K [x] H Q := fun ds P ⟨a, vs, e, s, r⟩ hd => by
    cases es : stL ds with
    | false => simp [es] at hd
    | true =>
      have hd : some (D.tup ds) = some d := by simpa [es] using hd
      cases hd
      exact ⟨a, vs, by rw [e], .inl ⟨s, fun l n => k _ _ _ (.tup r es n)⟩⟩
  cases da with
  | tup ds =>
    cases es : stL ds with
    | false => simp [gTuple, es] at hg
    | true =>
      have hd : some (D.tup ds) = some d := by simpa [gTuple, es] using hg
      cases hd
      obtain ⟨a, vs, e, s, l, P, _, r⟩ := rd_tup ra
      exact ⟨a, vs, by rw [e], .inr ⟨s, k _ emp H (.sc ⟨a, vs, rfl, s, repL_st emp es r⟩)⟩⟩
  | lst ds => obtain ⟨a, vs, e, s, l, P, _, r⟩ := rd_lst (ds := ds) rfl ra; exact sq ds P ⟨a, vs, e, s, r⟩ hg
  | fls ds => obtain ⟨a, vs, e, s, l, P, _, r⟩ := rd_lst (ds := ds) rfl ra; exact sq ds P ⟨a, vs, e, s, r⟩ hg
  | _ => cases hg
theorem New.dct {ks : List Key} {ds : List D} {vs : List V} {P : As} {p : Addr} (r : RepL C H Z ds (vs.map some) P) (l : ks.length = ds.length) (s : stL ds = true) (n : H p = none) (hz : ∀ a, Z a → H a ≠ none) : New C H Z (.dct ks ds) (.ref p) (one p) (upd H p (.dK (ks.zip vs))) where
  keep := keep_new n
  new := fun a x => by rw [show a = p from x]; exact n
  ok := fun a x => by rw [show a = p from x]; exact ⟨fun z => hz p z n, _, upd_same, trivial⟩
  rep := ⟨p, vs, rfl, rfl, l, upd_same, repL_mono (repL_st emp s (repL_new r n)) fun _ z => z.elim⟩
theorem o1_dict : Op1 C (fun x H Q => rDictA [x] H Q) gDict := fun H Z da x d Q hz ra hg k => by
  have dk : ∀ ks ds, da = .dct ks ds ∨ da = .fdc ks ds → (if stL ds then some (D.dct ks ds) else none) = some d → rDictA [x] H Q := fun ks ds e hd => by
    cases es : stL ds with
    | false => simp [es] at hd
    | true =>
      have hd : some (D.dct ks ds) = some d := by simpa [es] using hd
      cases hd
      obtain ⟨a, vs, P, ex, hh, l, r⟩ := dk_at ra e
      exact ⟨a, _, by rw [ex], hh, fun q n => k _ _ _ (.dct r (l.trans (vs_len r)) es n hz)⟩
  cases da with
  | dct ks ds => exact dk ks ds (.inl rfl) hg
  | fdc ks ds => exact dk ks ds (.inr rfl) hg
  | _ => cases hg
end
section
variable {X : Cx}
theorem cr_listA (hc : X.calm = true) : CallR X (.type "list") (rListA X.K) := CallR.or call_list_of (call_list_dK hc)
theorem cr_tupA : CallR X (.type "tuple") (rTupA X.K) := call_tuple_of
theorem cr_dictA : CallR X (.type "dict") rDictA := fun pins s σ H xs us Q I r ⟨a, kvs, e, hh, q⟩ => by
  subst e
  rw [Vals.ref1 r]
  exact d_copyOf I (.inl hh) fun p s' n I' => ⟨.ref p, _, I', rfl, q p n⟩
end
/-! ### join -/
def gJoin : D → List D → Option D
  | .str a, [d] => (sqD d).bind fun ds => (strsD ds).bind fun ys => if decide ((ys.map (·.length)).sum + ys.length * a.length ≤ 16777216) then some (.str (Txt.join a ys)) else none
  | _, _ => none
def rJoinA (K : PySem.W.Frag) : V → List V → Hp → VK → Prop := fun x xs H Q => ∃ a p, ∃ ys : List Str, x = .str a ∧ xs = [.ref p] ∧ (SqL K H p (ys.map V.str) ∨ SqT K H p (ys.map V.str)) ∧
    (ys.map (·.length)).sum + ys.length * a.length ≤ 16777216 ∧ Q (.str (Txt.join a ys)) H
section
variable {C : Ct}
theorem om_join : OpM C (rJoinA C.K) gJoin := fun H Z da dl x xs d Q hz ra rl hg k => by
  cases da with
  | str a =>
    match dl, rl, hg with
    | [d0], rl, hg =>
      obtain ⟨y, e, r1⟩ := rdL1 rl
      subst e
      obtain ⟨ds, e1, h2⟩ := Option.bind_eq_some_iff.mp hg
      obtain ⟨ys, e2, h3⟩ := Option.bind_eq_some_iff.mp h2
      cases es : decide ((ys.map (·.length)).sum + ys.length * a.length ≤ 16777216) with
      | false => rw [es] at h3; cases h3
      | true =>
        rw [es] at h3
        cases h3
        obtain ⟨P, _, r1⟩ := r1
        obtain ⟨p, vs, P1, ey, s, _, r⟩ := sq_of r1 e1
        have e4 := strs_of r e2
        subst e4
        exact ⟨a, p, ys, rd_sc_str ra, by rw [ey], s, of_decide_eq_true es, k _ emp H (.sc rfl)⟩
  | _ => cases hg
end
end OL

/-! The O layer, 19: methods of built-in types. -/
namespace OL
open PySem PySem.Spec PyProof.Rows L2

/-! ### methods that change nothing -/
def fM (ty : D → Bool) (k : D → List D → Option D) (fo : SE) (fs : SA) : SE := fun env => (fo env).bind fun ro e1 t1 => match rdR e1 ro with
  | none => .bad
  | some d0 => if ty d0 then (fs e1).bind fun rs e2 t2 => if okR ro t2 then match (rdR e2 ro).bind fun da => (rdRs e2 rs).bind fun ds => k da ds with
    | some d => .ok (.val d) e2 (t1 || t2)
    | none => .bad
    else .bad else .bad
section
variable {C : Ct} {W : WX} {σ : L2.St} {H : Hp} {Q : VK} {fo : SE} {fs : SA} {ty : D → Bool} {k : D → List D → Option D} {r : V → List V → Hp → VK → Prop} {K : PySem.W.Frag} {T : String}
theorem tf_M (tyr : TyR K C T ty) (op : OpM C r k) (h : tf C W (fM ty k fo fs) σ H Q) : tBM K T r (tf C W fo) (tl C W fs) σ H Q := by
  obtain ⟨env, P, Z, rl, ok, h⟩ := h
  refine ⟨env, P, Z, rl, ok, ?_⟩
  unfold fM at h
  cases ea : fo env with
  | bad => rw [ea] at h; exact h
  | exc x ds e => rw [ea] at h; exact h
  | ok ro e1 t1 =>
    simp only [ea, O.bind] at h
    intro v0 P1 Pv1 Z1 H1 p1
    cases e0 : rdR e1 ro with
    | none => simp only [e0] at h
    | some d0 =>
      simp only [e0] at h
      cases ht : ty d0 with
      | false => simp only [ht, Bool.false_eq_true, if_false] at h
      | true =>
        simp only [ht, if_true] at h
        obtain ⟨Pd, _, rp0⟩ := read p1.res p1.rl e0
        refine ⟨tyr _ _ _ _ _ rp0 ht, e1, P1, Z1, p1.rl, p1.ch.okP, ?_⟩
        cases eb : fs e1 with
        | bad => simp only [eb] at h
        | exc x ds e =>
          simp only [eb] at h
          exact fun cls dd P' Px Z' H' q => h cls dd P' Px Z' H' (q.up p1.ch p1.dj)
        | ok rs e2 t2 =>
          simp only [eb] at h
          intro vs P2 Pv2 Z2 H2 p2
          cases w : okR ro t2 with
          | false => simp [w] at h
          | true =>
            simp only [w, if_true] at h
            cases ed : (rdR e2 ro).bind fun da => (rdRs e2 rs).bind fun ds => k da ds with
            | none => simp only [ed] at h
            | some d =>
              simp only [ed] at h
              obtain ⟨da, e3, ed2⟩ := Option.bind_eq_some_iff.mp ed
              obtain ⟨ds, e4, ed3⟩ := Option.bind_eq_some_iff.mp ed2
              have ra2 := wait (t2 := t2) p1.res p1.dj p1.ch.okP p2.ch p2.pu w
              have c2 := p1.ch.trans p1.dj p2.ch
              refine op H2 Z2 da ds v0 vs d Q c2.ok.zt (rd1_of ra2 p2.rl (c2.ok.sub fun a x => x.imp .inl id) e3) (rdL_of p2.res p2.rl (c2.ok.sub fun a x => .inl x) e4) ed3 fun z Pz H' n => ?_
              exact h z P2 Pz Z2 H' (newE (T := Pv2) (e := env) p2.rl (c2.sub fun a x => .inl x) n (pu_seq p1.pu p2.pu))
end
def isStr : D → Bool
  | .str _ => true
  | _ => false
def isLst : D → Bool
  | .lst _ => true
  | _ => false
def isDct : D → Bool
  | .dct _ _ => true
  | .fdc _ _ => true
  | _ => false
section
variable {X : Cx} {C : Ct} {W : WX} {o e : Expr} {es : List Expr} {fo : SE} {fs : SA} {ty : D → Bool} {name : Str} {T id : String} {apos cpos : Pos} {r : V → List V → Hp → VK → Prop}
theorem ty_str {K : PySem.W.Frag} : TyR K C "str" isStr := fun H Z d v P r h => by
  cases d <;> first | (cases h; done) | skip
  rw [show v = .str _ from r]
  exact rfl
theorem ty_lst {K : PySem.W.Frag} : TyR K C "list" isLst := fun H Z d v P r h => by
  cases d <;> first | (cases h; done) | skip
  obtain ⟨a, vs, e, _, hh, _⟩ := r
  rw [e]
  exact .inl ⟨rfl, vs, .inl (.inl hh)⟩
theorem ty_dct {K : PySem.W.Frag} : TyR K C "dict" isDct := fun H Z d v P r h => by
  cases d <;> first | (cases h; done) | skip
  · obtain ⟨a, vs, e, _, _, hh, _⟩ := r
    rw [e]
    exact .inr (.inr (.inl ⟨rfl, .inl ⟨_, hh⟩⟩))
  · obtain ⟨a, vs, e, _, _, hh, _⟩ := r
    rw [e]
    exact .inr (.inr (.inl ⟨rfl, .inl ⟨_, hh⟩⟩))
theorem e_bm {k : D → List D → Option D} (pa : PlainAttrs T) (slot : Slot T name id) (hty : typeOf (.builtin id) = pure (.type "method_descriptor")) (hm : MtR X id r) (tyr : TyR X.K C T ty) (op : OpM C r k) (ho : PE X o (tf C W fo)) (ha : L2.PA X (e :: es) (tl C W fs))
    (hbase : attributeBase o name X.env (eval o X.env) = eval o X.env := by rfl)
    (hfew : ((backTo cpos (starEach (e :: es) X.env)).all (fun x => !x.1) && (backToKw cpos (keywordEach [] X.env)).all (fun x => x.1.isSome)
      && decide ((e :: es).length + ([] : List Keyword).length + (if ([] : List Keyword).isEmpty then 0 else 1) < 30)) = true := by rfl)
    (hline : (apos.endLine == cpos.line) = true := by rfl) (hs : starEach (e :: es) X.env = (false, eval e X.env) :: starEach es X.env := by rfl) (hplain : (backTo cpos (starEach es X.env)).any (·.1) = false := by rfl) :
    PE X (.Call (.Attribute o name apos) (e :: es) [] cpos) (tf C W (fM ty k fo fs)) :=
  pe_imp (pe_bm pa slot hty hm ho ha hbase hfew hline hs hplain) fun _ _ _ h => tf_M tyr op h
theorem e_mut {k : D → List D → Option (D × D)} (pa : PlainAttrs T) (slot : Slot T name id) (hty : typeOf (.builtin id) = pure (.type "method_descriptor")) (hm : MtR X id r) (tyr : TyR X.K C T ty) (op : MutR C r k) (ho : PE X o (tf C W fo)) (ha : L2.PA X (e :: es) (tl C W fs))
    (hbase : attributeBase o name X.env (eval o X.env) = eval o X.env := by rfl)
    (hfew : ((backTo cpos (starEach (e :: es) X.env)).all (fun x => !x.1) && (backToKw cpos (keywordEach [] X.env)).all (fun x => x.1.isSome)
      && decide ((e :: es).length + ([] : List Keyword).length + (if ([] : List Keyword).isEmpty then 0 else 1) < 30)) = true := by rfl)
    (hline : (apos.endLine == cpos.line) = true := by rfl) (hs : starEach (e :: es) X.env = (false, eval e X.env) :: starEach es X.env := by rfl) (hplain : (backTo cpos (starEach es X.env)).any (·.1) = false := by rfl) :
    PE X (.Call (.Attribute o name apos) (e :: es) [] cpos) (tf C W (fMut ty k fo fs)) :=
  pe_imp (pe_bm pa slot hty hm ho ha hbase hfew hline hs hplain) fun _ _ _ h => tf_mut tyr op h
/-- sep.join(..) -/
theorem e_join (hK : X.K = C.K) (ho : PE X o (tf C W fo)) (ha : L2.PA X [e] (tl C W fs))
    (hbase : attributeBase o "join" X.env (eval o X.env) = eval o X.env := by rfl)
    (hfew : ((backTo cpos (starEach [e] X.env)).all (fun x => !x.1) && (backToKw cpos (keywordEach [] X.env)).all (fun x => x.1.isSome)
      && decide ([e].length + ([] : List Keyword).length + (if ([] : List Keyword).isEmpty then 0 else 1) < 30)) = true := by rfl)
    (hline : (apos.endLine == cpos.line) = true := by rfl) (hs : starEach [e] X.env = (false, eval e X.env) :: starEach [] X.env := by rfl) (hplain : (backTo cpos (starEach [] X.env)).any (·.1) = false := by rfl) :
    PE X (.Call (.Attribute o "join" apos) [e] [] cpos) (tf C W (fM isStr gJoin fo fs)) :=
  e_bm PySem.F.plainAttrs_str PySem.F.slot_str_join PySem.F.type_str_join (by have h := @mt_join X; rw [hK] at h; exact h) ty_str om_join ho ha hbase hfew hline hs hplain
end
/-! ### append, extend -/
def kAppend : D → List D → Option (D × D)
  | .lst xs, [d] => if szo xs.length then some (.non, .lst (xs ++ [d])) else none
  | _, _ => none
def kExtend : D → List D → Option (D × D)
  | .lst xs, [.lst ys] => if szo (xs.length + ys.length) then some (.non, .lst (xs ++ ys)) else none
  | _, _ => none
section
variable {C : Ct} {H : Hp} {Z : As}
theorem mr_append : MutR C rAppend kAppend := fun H Z d ds v vs Pl Pa d' res Q ok dj rp ra hk q => by
  match d, ds, hk, rp, ra with
  | .lst xs, [d], hk, rp, ra =>
    cases e : szo xs.length with
    | false => simp [kAppend, e] at hk
    | true =>
      have hk' : some (D.non, D.lst (xs ++ [d])) = some (res, d') := by simpa [kAppend, e] using hk
      cases hk'
      obtain ⟨a, ws, ev, pa, hh, r⟩ := rp
      obtain ⟨o, os', P1, P2, eo, hd, r2, s⟩ := ra
      cases vs with
      | nil => cases eo
      | cons y vs =>
        rw [List.map_cons] at eo
        injection eo with e4 e5
        have e6 : vs = [] := by
          have : vs.map some = [] := e5.trans (show os' = [] from r2)
          simpa using this
        subst e6
        subst e4
        have na : ¬ Pa a := dj a pa
        have okl : OkP Pl Z H := ok.at_.sub fun a x => .inl x
        have lw : ws.length = xs.length := by simpa using repL_len r
        refine ⟨a, ws, y, ev, rfl, hh, by rw [lw]; exact szo_lt e, ?_⟩
        have k1 : Keep (one a) H (upd H a (.lst (ws ++ [y]))) := keep_upd
        have c := ch_upd (o := .lst (ws ++ [y])) ok (.inl pa) trivial
        refine q .non _ (uni Pl Pa) emp (k1.mono fun b x => by rw [show b = a from x]; exact pa) ?_ rfl (fun _ _ z => z) (fun b x => ?_) (c.ok.sub fun b x => x.elim id fun z => z.elim)
        · refine ⟨a, ws ++ [y], ev, .inl pa, upd_same, ?_⟩
          rw [List.map_append]
          refine repL_append (P1 := but Pl a) (P2 := Pa) (repL_keep r k1 (one_ok okl pa) (fun b x z => z.2 x) fun _ x => x) ⟨some y, [], P1, emp, rfl, ?_, rfl, ⟨s.l, fun _ z => z.elim, fun _ _ z => z.elim⟩⟩ ⟨fun b x => ⟨.inl x.1, x.2⟩, fun b x => ⟨.inr x, fun w => na (by rw [← w]; exact x)⟩, fun b x w => dj b x.1 w⟩
          rcases hd with hd | ⟨w, ew, hd⟩
          · exact .inl hd
          · exact .inr ⟨w, ew, rep_keep hd k1 (one_ok okl pa) (fun b x z => na (by rw [← show b = a from x]; exact s.l b z)) fun _ x => x⟩
        · rcases x with (x | x) | x
          · exact .inl x
          · exact .inr (.inl x)
          · exact x.elim
theorem mr_extend : MutR C rExtend kExtend := fun H Z d ds v vs Pl Pa d' res Q ok dj rp ra hk q => by
  match d, ds, hk, rp, ra with
  | .lst xs, [.lst ys], hk, rp, ra =>
    cases e : szo (xs.length + ys.length) with
    | false => simp [kExtend, e] at hk
    | true =>
      have hk' : some (D.non, D.lst (xs ++ ys)) = some (res, d') := by simpa [kExtend, e] using hk
      cases hk'
      obtain ⟨a, ws, ev, pa, hh, r⟩ := rp
      obtain ⟨o, os', P1, P2, eo, hd, r2, s⟩ := ra
      cases vs with
      | nil => cases eo
      | cons y vs =>
        rw [List.map_cons] at eo
        injection eo with e4 e5
        have e6 : vs = [] := by
          have : vs.map some = [] := e5.trans (show os' = [] from r2)
          simpa using this
        subst e6
        subst e4
        rcases hd with hd | ⟨w, ew, b, zs, ey, pb, hb, rb⟩
        · cases hd
        · cases ew
          have na : ¬ Pa a := dj a pa
          have okl : OkP Pl Z H := ok.at_.sub fun a x => .inl x
          have lw : ws.length = xs.length := by simpa using repL_len r
          have lz : zs.length = ys.length := by simpa using repL_len rb
          refine ⟨a, b, ws, zs, ev, by rw [ey], hh, hb, by rw [lw, lz]; exact szo_le e, ?_⟩
          have k1 : Keep (one a) H (upd H a (.lst (ws ++ zs))) := keep_upd
          have c := ch_upd (o := .lst (ws ++ zs)) ok (.inl pa) trivial
          refine q .non _ (uni Pl Pa) emp (k1.mono fun b x => by rw [show b = a from x]; exact pa) ?_ rfl (fun _ _ z => z) (fun b x => ?_) (c.ok.sub fun b x => x.elim id fun z => z.elim)
          · refine ⟨a, ws ++ zs, ev, .inl pa, upd_same, ?_⟩
            rw [List.map_append]
            refine repL_append (P1 := but Pl a) (P2 := but P1 b) (repL_keep r k1 (one_ok okl pa) (fun b x z => z.2 x) fun _ x => x) (repL_keep rb k1 (one_ok okl pa) (fun c x z => na (by rw [← show c = a from x]; exact s.l c z.1)) fun _ x => x) ⟨fun b x => ⟨.inl x.1, x.2⟩, fun b x => ⟨.inr (s.l b x.1), fun w => na (by rw [← w]; exact s.l b x.1)⟩, fun b x w => dj b x.1 (s.l b w.1)⟩
          · rcases x with (x | x) | x
            · exact .inl x
            · exact .inr (.inl x)
            · exact x.elim
end
end OL

/-! The O layer, 20: o[i] = e. -/
namespace OL
open PySem PySem.Spec PyProof.Rows L2

def setD : D → D → D → Option D
  | .lst ds, .int i, d => (ixN ds.length i).map fun j => .lst (ds.set j d)
  | .dct ks ds, k, d => (keyD k).bind fun k => if decide ks.Nodup && szo ks.length then (match ks.idxOf? k with
    | some j => some (.dct ks (ds.set j d))
    | none => some (.dct (ks ++ [k]) (ds ++ [d]))) else none
  | _, _, _ => none
def rSetA : TSet := fun o i v H Q => rSetL o i v H Q ∨ rSetD o i v H Q
def sSetIx (fv fo fi : SE) : SS := fun env => (fv env).bind fun r e t1 => match tkR e r with
  | none => .bad
  | some (d, e1) => (fo e1).bind fun ro e2 t2 => (fi e2).bind fun rk e3 t3 => if t2 || t3 then .bad else match ro with
    | .val _ => .bad
    | .plc i p => match eget e1 i p with
      | none => .bad
      | some c => match (rdR e1 rk).bind fun k => setD c k d with
        | some c' => .ok .nx (eput e1 i p c') true
        | none => .bad
section
variable {C : Ct} {H : Hp} {Z : As}
theorem putK_at : ∀ {ks : List Key} {vs : List V} {k : Key} {j : Nat} {v : V}, ks.Nodup → ks.length = vs.length → ks.idxOf? k = some j → putK (ks.zip vs) k v = ks.zip (vs.set j v) := by
  intro ks vs k j v nd l h
  have hany : ((ks.zip vs).any fun kv => decide (kv.1 = k)) = true := by
    rw [valV_any]
    have hj : j < vs.length := by rw [← l]; exact (List.findIdx?_eq_some_iff_getElem.mp h).1
    rw [valV_zip h (List.getElem?_eq_getElem hj)]
    rfl
  unfold putK
  rw [if_pos hany]
  clear hany
  induction ks generalizing vs j with
  | nil => simp at h
  | cons k0 ks ih =>
    cases vs with
    | nil => cases l
    | cons w vs =>
      obtain ⟨n1, n2⟩ := List.nodup_cons.mp nd
      rw [List.idxOf?_cons, key_beq] at h
      rw [List.zip_cons_cons, List.map_cons]
      by_cases e : k0 = k
      · rw [decide_eq_true e] at h
        have hj : j = 0 := (Option.some.inj h).symm
        subst hj
        show (if k0 = k then (k0, v) else (k0, w)) :: _ = _
        rw [if_pos e]
        congr 1
        subst e
        have : ∀ (ls : List Key) (us : List V), k0 ∉ ls → (ls.zip us).map (fun kv => if kv.1 = k0 then (kv.1, v) else kv) = ls.zip us := by
          intro ls
          induction ls with
          | nil => intro us _; rfl
          | cons a ls ih2 =>
            intro us hn
            cases us with
            | nil => rfl
            | cons u us =>
              rw [List.zip_cons_cons, List.map_cons, ih2 us (fun z => hn (List.mem_cons_of_mem _ z))]
              rw [if_neg (fun z : a = k0 => hn (by rw [z]; exact List.mem_cons_self))]
        exact this ks vs n1
      · rw [decide_eq_false e] at h
        obtain ⟨j', h1, h2⟩ := Option.map_eq_some_iff.mp (show (ks.idxOf? k).map (· + 1) = some j from h)
        subst h2
        show (if k0 = k then (k0, v) else (k0, w)) :: _ = _
        rw [if_neg e]
        show (k0, w) :: _ = (k0, w) :: ks.zip (vs.set j' v)
        congr 1
        exact ih n2 (by simpa using l) h1
theorem putK_out {ks : List Key} {vs : List V} {k : Key} {v : V} (l : ks.length = vs.length) (h : ks.idxOf? k = none) : putK (ks.zip vs) k v = (ks ++ [k]).zip (vs ++ [v]) := by
  rw [putK_new v (valV_zip0 h), List.zip_append l]
  rfl
/-- stored -/
theorem set_item {c k d c' : D} {v0 y v : V} {P0 Pd : As} (hg : setD c k d = some c') (r0 : Rep C H Z c v0 P0) (ok : OkS (uni P0 Pd) Z H) (dj : Dis P0 Pd) (ry : Rd1 C H Z k y) (rd : Rep C H Z d v Pd) {Q : Hp → Prop}
    (h : ∀ a o, P0 a → Own o → Rep C (upd H a o) Z c' v0 (uni P0 Pd) → Q (upd H a o)) : rSetA v0 y v H Q := by
  have okl : OkP P0 Z H := ok.at_.sub fun a x => .inl x
  cases c with
  | lst ds =>
    cases k <;> simp only [setD] at hg <;> first | cases hg | skip
    rename_i i
    obtain ⟨j, ej, e2⟩ := Option.map_eq_some_iff.mp hg
    subst e2
    obtain ⟨a, ws, ev, pa, hh, r⟩ := r0
    have lw : ws.length = ds.length := by simpa using repL_len r
    have hj : j < ds.length := (ixN_seq ej).2.1
    have k1 : Keep (one a) H (upd H a (.lst (ws.set j v))) := keep_upd
    refine .inl ⟨a, ws, i, j, ev, rd_sc_int ry, hh, by rw [lw]; exact ej, h a _ pa trivial ?_⟩
    have r1 := repL_put (repL_keep r k1 (one_ok okl pa) (fun b x z => z.2 x) fun _ x => x) hj (rep_keep rd k1 (one_ok okl pa) (fun b x z => dj b (by rw [show b = a from x]; exact pa) z) fun _ x => x) fun b x z => dj b z.1 x
    refine ⟨a, ws.set j v, ev, .inl pa, upd_same, ?_⟩
    rw [List.map_set]
    exact repL_mono r1 fun b x => by
      rcases x with x | x
      · exact ⟨.inl x.1, x.2⟩
      · exact ⟨.inr x, fun e => dj b (by rw [e]; exact pa) x⟩
  | dct ks ds =>
    obtain ⟨key, ek, h2⟩ := Option.bind_eq_some_iff.mp (show ((keyD k).bind fun k => if decide ks.Nodup && szo ks.length then (match ks.idxOf? k with
      | some j => some (D.dct ks (ds.set j d))
      | none => some (D.dct (ks ++ [k]) (ds ++ [d]))) else none) = some c' from hg)
    cases en : (decide ks.Nodup && szo ks.length) with
    | false => rw [en] at h2; cases h2
    | true =>
      rw [en] at h2
      simp only [if_true] at h2
      rw [Bool.and_eq_true] at en
      have nd : ks.Nodup := of_decide_eq_true en.1
      obtain ⟨a, ws, ev, pa, el, hh, r⟩ := r0
      have lw : ws.length = ds.length := by simpa using repL_len r
      have lk : ks.length = ws.length := el.trans lw.symm
      have hx := keyD_V ek ry
      subst hx
      have hput : DPut H a (kV key) v (upd H a (.dK (putK (ks.zip ws) key v))) := DPut.k hh (by rw [zip_len lk]; exact szo_lt en.2)
      refine .inr ⟨a, _, ev, hput, h a _ pa trivial ?_⟩
      have k1 : Keep (one a) H (upd H a (.dK (putK (ks.zip ws) key v))) := keep_upd
      have r1 := repL_keep r k1 (one_ok okl pa) (fun b x z => z.2 x) fun _ x => x
      have rd1 := rep_keep rd k1 (one_ok okl pa) (fun b x z => dj b (by rw [show b = a from x]; exact pa) z) fun _ x => x
      have sub : ∀ b, uni (but P0 a) Pd b → but (uni P0 Pd) a b := fun b x => by
        rcases x with x | x
        · exact ⟨.inl x.1, x.2⟩
        · exact ⟨.inr x, fun e => dj b (by rw [e]; exact pa) x⟩
      cases ei : ks.idxOf? key with
      | some j =>
        rw [ei] at h2
        cases h2
        have hj : j < ds.length := by rw [← el]; exact (List.findIdx?_eq_some_iff_getElem.mp ei).1
        refine ⟨a, ws.set j v, ev, .inl pa, by rw [List.length_set]; exact el, by rw [upd_same, putK_at nd lk ei], ?_⟩
        rw [List.map_set]
        exact repL_mono (repL_put r1 hj rd1 fun b x z => dj b z.1 x) sub
      | none =>
        rw [ei] at h2
        cases h2
        refine ⟨a, ws ++ [v], ev, .inl pa, by rw [List.length_append, List.length_append, el]; rfl, by rw [upd_same, putK_out lk ei], ?_⟩
        rw [List.map_append]
        exact repL_mono (repL_append (P1 := but P0 a) (P2 := Pd) r1 ⟨some v, [], Pd, emp, rfl, .inr ⟨v, rfl, rd1⟩, rfl, ⟨fun _ x => x, fun _ z => z.elim, fun _ _ z => z.elim⟩⟩ ⟨fun _ x => .inl x, fun _ x => .inr x, fun b x z => dj b x.1 z⟩) sub
  | _ => cases hg
end
section
variable {C : Ct} {fx : Nat → Bool} {W : WX} {D : Ends} {σ : L2.St} {H : Hp} {fv fo fi : SE}
theorem ts_setIx (h : ts C fx W (sSetIx fv fo fi) D σ H) : tAsg (tf C W fv) (gSub (tf C W fo) (tf C W fi) rSetA) D σ H := by
  obtain ⟨env, P, Z, rl, ok, h⟩ := h
  refine ⟨env, P, Z, rl, ok, ?_⟩
  unfold sSetIx at h
  cases ea : fv env with
  | bad => rw [ea] at h; exact h
  | exc x ds e => rw [ea] at h; exact fun cls dd P' Px Z' H' q => h cls dd σ P' Px Z' H' q.xs
  | ok rv e t1 =>
    simp only [ea, O.bind] at h
    intro v P1 Pv1 Z1 H1 p1
    cases et : tkR e rv with
    | none => simp only [et] at h <;> exact h.elim
    | some x =>
      obtain ⟨d, e1⟩ := x
      simp only [et] at h
      obtain ⟨P2, Pd, rl2, rd, dj, sb⟩ := take p1.res p1.rl p1.dj et
      have c1 : Ch P Z H (uni P2 Pd) Z1 H1 := p1.ch.sub sb
      refine ⟨e1, P2, Z1, rl2, c1.okP, ?_⟩
      cases eo : fo e1 with
      | bad => simp only [eo] at h <;> exact h.elim
      | exc x ds e => simp only [eo] at h; exact fun cls dd P' Px Z' H' q => h cls dd σ P' Px Z' H' (q.up c1 dj).xs
      | ok ro e2 t2 =>
        simp only [eo] at h
        intro v0 P3 Pv3 Z3 H3 p3
        refine ⟨e2, P3, Z3, p3.rl, p3.ch.okP, ?_⟩
        cases ei : fi e2 with
        | bad => simp only [ei] at h <;> exact h.elim
        | exc x ds e => simp only [ei] at h; exact fun cls dd P' Px Z' H' q => h cls dd σ P' Px Z' H' (PX'.up c1 dj (q.up p3.ch p3.dj)).xs
        | ok rk e3 t3 =>
          simp only [ei] at h
          intro y P4 Pv4 Z4 H4 p4
          cases tt : (t2 || t3) with
          | true => rw [tt] at h <;> exact h.elim
          | false =>
            rw [tt] at h
            simp only [Bool.false_eq_true, if_false] at h
            rw [Bool.or_eq_false_iff] at tt
            obtain ⟨a1, a2, a3⟩ := p3.pu tt.1
            obtain ⟨b1, b2, b3⟩ := p4.pu tt.2
            subst a1 a2
            subst b1 b2
            cases ro with
            | val d0 => exact h.elim
            | plc i p =>
              simp only at h
              cases eg : eget e3 i p with
              | none => simp only [eg] at h <;> exact h.elim
              | some c =>
                simp only [eg] at h
                cases es : (rdR e3 rk).bind fun k => setD c k d with
                | none => simp only [es] at h <;> exact h.elim
                | some c' =>
                  simp only [es] at h
                  obtain ⟨k, ek, es2⟩ := Option.bind_eq_some_iff.mp es
                  have cm : c.mv = false := by cases c <;> first | rfl | (cases es2)
                  have c34 := p3.ch.trans p3.dj p4.ch
                  have ro4 := wait (t2 := t3) p3.res p3.dj p3.ch.okP p4.ch p4.pu (by rw [tt.2]; cases p <;> rfl)
                  obtain ⟨P0, l⟩ := place ro4 p4.rl rfl (show rdR e3 (.plc i p) = some c by simp [rdR, eg, cm])
                  have ry := rd1_of p4.res p4.rl (c34.ok.sub fun a x => .inl x) ek
                  have rd4 : Rep C H4 Z4 d v Pd := c34.keepAll rd c1.okP.at_ dj
                  have cD := c1.trans dj c34
                  have ap := c1.apart dj c34
                  have ok4 : OkS (uni P4 Pd) Z4 H4 := cD.ok.sub fun a x => x.imp (fun y => .inl (.inl y)) id
                  have dj4 : Dis P4 Pd := fun a x y => ap a (.inl (.inl x)) y
                  obtain ⟨sb0, r0, up⟩ := l
                  refine set_item es2 r0 (ok4.sub fun a x => x.imp (sb0 a) id) (fun a x z => dj4 a (sb0 a x) z) ry rd4 fun a o pa wo rn => ?_
                  have okP4 : OkP P4 Z4 H4 := ok4.at_.sub fun a x => .inl x
                  have r3 := up (upd H4 a o) Z4 (one a) c' (uni P0 Pd) keep_upd (one_ok okP4 (sb0 a pa)) (fun _ x => x) (fun b x w => by rw [show b = a from x]; exact pa) rn fun b x w => by
                    rcases x with x | x
                    · exact w.2 x
                    · exact dj4 b w.1 x
                  refine h σ _ Z4 _ ⟨r3, ((cD.sub fun b x => x.imp (fun y => .inl (.inl y)) id).trans0 (ch_upd ok4 (.inl (sb0 a pa)) wo)).sub fun b x => ?_, Fix.refl⟩
                  rcases x with x | x | x
                  · exact .inl x.1
                  · exact .inl (sb0 b x)
                  · exact .inr x
end
section
variable {X : Cx} {C : Ct} {fx : Nat → Bool} {W : WX} {o i e : Expr} {fv fo fi : SE} {pos tpos : Pos}
theorem set_A (hu : X.A.units + 1 < cLine) : PSet X rSetA := by
  intro pins s σ H o i v ov iv u Q I ro ri rv h
  rcases h with h | h
  · exact set_list pins s σ H o i v ov iv u Q I ro ri rv h
  · exact set_dict hu pins s σ H o i v ov iv u Q I ro ri rv h
theorem s_setIx (hu : X.A.units + 1 < cLine) (he : PE X e (tf C W fv)) (ho : PE X o (tf C W fo)) (hi : PE X i (tf C W fi))
    (ha : ∀ v, assign (.Subscript o i tpos) X.env v = (do
      let ov ← holding [v] (eval o X.env)
      let iv ← holding [v, ov] (eval i X.env)
      standAt tpos
      holding [v, ov, iv] (setItem ov iv v)
      release [v, ov, iv] []) := by intro _; rfl)
    (hs : swapsWithSole [.Subscript o i tpos] e pos.line X.env = pure false := by rfl) (hw : swappedStores [.Subscript o i tpos] e X.env = pure none := by rfl) (h1 : (assignEach [.Subscript o i tpos] X.env).map (·.2) = [assign (.Subscript o i tpos) X.env] := by rfl) :
    PS X (.Assign [.Subscript o i tpos] e pos) (ts C fx W (sSetIx fv fo fi)) :=
  ps_imp (ps_asg he (pg_sub ho hi (set_A hu) ha) hs hw h1) fun _ _ _ h => ts_setIx h
end
end OL

/-! The O layer, 21: match, chains of comparisons, self.f += e, d.get(k, e), isinstance. -/
namespace OL
open PySem PySem.Spec PyProof.Rows L2

/-! ### match on a text -/
structure PMs (X : Cx) (cs : List MatchCase) (t : Str → TS) : Prop where
  run : ∀ (pins : List (Addr × Obj)) (s : Shared) (σ : L2.St) (H : Hp) (D : Ends) (z : Str) (v : Value) (first : Bool), Inv X pins σ H s → RelV (.str z) v → t z D σ H → wpAny (model X.prog X.w) X.A (matchCases cs X.env v first) (SP X pins D) X.xe s
def sMatch (fa : SE) (f : Str → SS) : SS := fun env => (fa env).bind fun r e1 _ => match rdR e1 r with
  | some (.str z) => f z e1
  | _ => .bad
section
variable {X : Cx} {C : Ct} {fx : Nat → Bool} {W : WX} {e : Expr} {fa : SE} {f : Str → SS} {b : SS} {cs : List MatchCase} {body : List Stmt} {pos p1 p2 p3 : Pos} {j1 j2 : Option Str}
/-- is the text this one? -/
theorem eq_lit {pins : List (Addr × Obj)} {s : Shared} {σ : L2.St} {H : Hp} {z k : Str} {v : Value} {j} {Q : Option (List (Str × Value)) → Shared → Prop} (I : Inv X pins σ H s) (r : RelV (.str z) v)
    (h1 : z = k → ∀ s', Inv X pins σ H s' → Q (some []) s') (h2 : z ≠ k → ∀ s', Inv X pins σ H s' → Q none s') : wpAny (model X.prog X.w) X.A (matchPattern (.MatchValue (.Constant (.str k) j p1) p2) X.env v) Q X.xe s := by
  refine wpAny_matchPattern_Value (thn ((pe_str (X := X)).run pins s σ H (fun y H' => y = .str k ∧ H' = H) I ⟨rfl, rfl⟩) fun u s1 ⟨y, H1, I1, ry, ey, eh⟩ => ?_)
  subst ey eh
  refine thn (op_eq pins s1 σ H1 (.str z) (.str k) v u (fun w H' => w = .bl (decide (z = k)) ∧ H' = H1) I1 r ry ⟨rfl, by simp, rfl⟩) fun c s2 ⟨w, H2, I2, rw', ew, eh⟩ => ?_
  subst ew eh
  have ec : c = .bool (decide (z = k)) := rw'
  subst ec
  refine wpAny_truthy_bool ?_
  by_cases e : z = k
  · rw [decide_eq_true e]
    exact h1 e s2 I2
  · rw [decide_eq_false e]
    exact h2 e s2 I2
theorem m_nil : PMs X [] (fun z => ts C fx W sNil) := ⟨fun pins s σ H D z v first I r h => by
  obtain ⟨env, P, Z, rl, ok, h⟩ := h
  exact wpAny_matchCases_nil ⟨σ, H, I, h σ P Z H ⟨rl, Ch.refl ok, Fix.refl⟩⟩⟩
theorem m_lit {k : Str} {j} (hb : PSs X body (ts C fx W b)) (hr : PMs X cs (fun z => ts C fx W (f z))) : PMs X (⟨.MatchValue (.Constant (.str k) j p1) p2, none, body⟩ :: cs) (fun z => ts C fx W (if z = k then b else f z)) :=
  ⟨fun pins s σ H D z v first I r h => wpAny_matchCases_cons (eq_lit I r (fun e s' I' => wpAny_assignInOrder_none (hb.run pins s' σ H D I' (by rw [if_pos e] at h; exact h))) fun e s' I' => hr.run pins s' σ H D z v false I' r (by rw [if_neg e] at h; exact h))⟩
theorem m_two {k k2 : Str} {j jj} {p4 : Pos} (hb : PSs X body (ts C fx W b)) (hr : PMs X cs (fun z => ts C fx W (f z))) : PMs X (⟨.MatchOr [.MatchValue (.Constant (.str k) j p1) p2, .MatchValue (.Constant (.str k2) jj p3) p4] pos, none, body⟩ :: cs) (fun z => ts C fx W (if z = k ∨ z = k2 then b else f z)) :=
  ⟨fun pins s σ H D z v first I r h => by
    refine wpAny_matchCases_cons (wpAny_matchPattern_Or (wpAny_matchFirst_cons (eq_lit I r (fun e s' I' => ?_) fun e s' I' => wpAny_matchFirst_cons (eq_lit I' r (fun e2 s2 I2 => ?_) fun e2 s2 I2 => wpAny_matchFirst_nil ?_))))
    · exact wpAny_assignInOrder_none (hb.run pins s' σ H D I' (by rw [if_pos (.inl e)] at h; exact h))
    · exact wpAny_assignInOrder_none (hb.run pins s2 σ H D I2 (by rw [if_pos (.inr e2)] at h; exact h))
    · exact hr.run pins s2 σ H D z v false I2 r (by rw [if_neg (fun o => o.elim e e2)] at h; exact h)⟩
theorem m_any (hb : PSs X body (ts C fx W b)) : PMs X (⟨.MatchAs none none pos, none, body⟩ :: cs) (fun z => ts C fx W b) :=
  ⟨fun pins s σ H D z v first I r h => wpAny_matchCases_cons (wpAny_matchPattern_Capture (wpAny_assignInOrder_none (hb.run pins s σ H D I h)))⟩
theorem s_match (ha : PE X e (tf C W fa)) (hm : PMs X cs (fun z => ts C fx W (f z))) : PS X (.Match e cs pos) (ts C fx W (sMatch fa f)) := ⟨fun pins s σ H D I h => by
  have key : tf C W fa σ H fun x H1 => ∃ z, x = .str z ∧ ts C fx W (f z) D σ H1 := by
    obtain ⟨env, P, Z, rl, ok, h⟩ := h
    refine ⟨env, P, Z, rl, ok, ?_⟩
    unfold sMatch at h
    cases ea : fa env with
    | bad => rw [ea] at h; exact h
    | exc x ds e => rw [ea] at h; exact fun cls dd P' Px Z' H' q => h cls dd σ P' Px Z' H' q.xs
    | ok ra e1 t1 =>
      simp only [ea, O.bind] at h
      intro v1 P1 Pv1 Z1 H1 p1
      cases er : rdR e1 ra with
      | none => simp only [er] at h <;> exact h.elim
      | some d =>
        cases d with
        | str z =>
          simp only [er] at h
          exact ⟨z, rd_sc_str (rd1_of p1.res p1.rl p1.ch.ok er), e1, P1, Z1, p1.rl, p1.ch.okP, aft.up Fix.refl (p1.ch.sub fun _ x => .inl x) h⟩
        | _ => simp only [er] at h <;> exact h.elim
  exact wpAny_Match (thn (ha.run pins s σ H _ I key) fun v s1 ⟨x, H1, I1, r, z, ex, q⟩ => by
    subst ex
    exact hm.run pins s1 σ H1 D z v true I1 r q)⟩
end

/-! ### a < b < c -/
def fChain (g g' : D → D → Option D) (fa fb fc : SE) : SE := fun env => (fa env).bind fun ra e1 t1 => (fb e1).bind fun rb e2 t2 => if t1 || t2 then .bad else match rdR e2 ra, rdR e2 rb with
  | some da, some db => if db.st then match g da db with
    | some (.bl true) => (fc e2).bind fun rc e3 t3 => if t3 then .bad else match (rdR e3 rc).bind fun dc => g' db dc with
      | some d => .ok (.val d) e3 false
      | none => .bad
    | some (.bl false) => .ok (.val (.bl false)) e2 false
    | _ => .bad
    else .bad
  | _, _ => .bad
section
variable {C : Ct} {W : WX} {σ : L2.St} {H : Hp} {Q : VK} {fa fb fc : SE} {g g' : D → D → Option D} {r r' : R2}
theorem tf_chain (op : Op2 C r g) (op' : Op2 C r' g') (h : tf C W (fChain g g' fa fb fc) σ H Q) : tChain r r' (tf C W fa) (tf C W fb) (tf C W fc) σ H Q := by
  obtain ⟨env, P, Z, rl, ok, h⟩ := h
  refine ⟨env, P, Z, rl, ok, ?_⟩
  unfold fChain at h
  cases ea : fa env with
  | bad => rw [ea] at h; exact h
  | exc x ds e => rw [ea] at h; exact h
  | ok ra e1 t1 =>
    rw [ea] at h
    intro v1 P1 Pv1 Z1 H1 p1
    refine ⟨e1, P1, Z1, p1.rl, p1.ch.okP, ?_⟩
    cases eb : fb e1 with
    | bad => simp only [O.bind, eb] at h
    | exc x ds e =>
      simp only [O.bind, eb] at h
      exact fun cls dd P' Px Z' H' q => h cls dd P' Px Z' H' (q.up p1.ch p1.dj)
    | ok rb e2 t2 =>
      simp only [O.bind, eb] at h
      intro v2 P2 Pv2 Z2 H2 p2
      cases tt : (t1 || t2) with
      | true => rw [tt] at h; exact h.elim
      | false =>
        rw [tt] at h
        simp only [Bool.false_eq_true, if_false] at h
        rw [Bool.or_eq_false_iff] at tt
        have w : okR ra t2 = true := by rw [tt.2]; cases ra with | val _ => rfl | plc i p => cases p <;> rfl
        have ra2 := wait (t2 := t2) p1.res p1.dj p1.ch.okP p2.ch p2.pu w
        have c2 := p1.ch.trans p1.dj p2.ch
        cases e3 : rdR e2 ra with
        | none => simp only [e3] at h
        | some da =>
          cases e4 : rdR e2 rb with
          | none => simp only [e3, e4] at h
          | some db =>
            simp only [e3, e4] at h
            cases sb : db.st with
            | false => rw [sb] at h; exact h.elim
            | true =>
            rw [sb] at h
            simp only [if_true] at h
            have r1 := rd1_of ra2 p2.rl (c2.ok.sub fun a x => x.imp .inl id) e3
            have r2 := rd1_of p2.res p2.rl (c2.ok.sub fun a x => .inl x) e4
            cases eg : g da db with
            | none => simp only [eg] at h
            | some d =>
              cases d with
              | bl k =>
                refine op H2 Z2 da db v1 v2 (.bl k) _ c2.ok.zt r1 r2 eg fun z Pz H' n => ⟨k, n.rep, ?_⟩
                have c2' : Ch P Z H (uni P2 Pv2) Z2 H2 := c2.sub fun a x => .inl x
                have pe := newE (T := Pv2) (e := env) p2.rl c2' n (pu_seq p1.pu p2.pu)
                have pu12 := pe.pu (by rw [tt.1, tt.2]; rfl)
                cases k with
                | false =>
                  simp only [eg] at h
                  simp only [Bool.false_eq_true, if_false]
                  exact h (.bl false) P2 Pz Z2 H' ⟨pe.rl, rfl, pe.dj, pe.ch, fun _ => pu12⟩
                | true =>
                  simp only [eg] at h
                  simp only [if_true]
                  refine ⟨e2, P2, Z2, pe.rl, pe.ch.okP, ?_⟩
                  cases ec : fc e2 with
                  | bad => simp only [ec] at h
                  | exc x ds e =>
                    simp only [ec] at h
                    exact fun cls dd P' Px Z' H' q => h cls dd P' Px Z' H' (q.up pe.ch pe.dj)
                  | ok rc e3' t3 =>
                    simp only [ec] at h
                    intro v3 P3 Pv3 Z3 H3 p3
                    cases t3 with
                    | true => exact h.elim
                    | false =>
                      simp only [Bool.false_eq_true, if_false] at h
                      cases ed : (rdR e3' rc).bind fun dc => g' db dc with
                      | none => simp only [ed] at h
                      | some d =>
                        simp only [ed] at h
                        obtain ⟨dc, e5, e6⟩ := Option.bind_eq_some_iff.mp ed
                        have c3 := pe.ch.trans pe.dj p3.ch
                        -- the middle value, still read
                        obtain ⟨b1, b2, b3⟩ := p3.pu rfl
                        have k23 : Keep emp H2 H3 := fun a o e m => b3 a o (n.keep a o e m) m
                        have r2' : Rd1 C H3 Z3 db v2 := ⟨emp, OkP.emp, rep_keep (r2.st sb) k23 OkP.emp (fun _ z => z.elim) p3.ch.zle⟩
                        refine op' H3 Z3 db dc v2 v3 d _ c3.ok.zt r2' (rd1_of p3.res p3.rl (c3.ok.sub fun a x => .inl x) e5) e6 fun z Pz4 H4 n2 => ?_
                        have pe3 := newE (T := uni Pv3 Pz) (e := env) p3.rl (c3.sub fun a x => x.elim (fun y => .inl (.inl y)) fun y => y.elim (fun w => .inl (.inr w)) .inr) n2 (t := false) fun _ => ⟨b1.trans pu12.1, b2.trans pu12.2.1, fun a o e m => b3 a o (pu12.2.2 a o e m) m⟩
                        exact h z P3 _ Z3 H4 pe3
              | _ => simp only [eg] at h
end
end OL

/-! The O layer, 22: properties, d.get(k, e), self.f += e, isinstance, names of a module. -/
namespace OL
open PySem PySem.Spec PyProof.Rows L2

/-! ### properties -/
def fProp (c : Nat) (F : FS) (fo : SE) : SE := fun env => (fo env).bind fun ro e1 t1 => if cOf e1 ro = some c then (match tkA [ro] e1 with
  | none => .bad
  | some (ds, e2) => match F ds with
    | .ok d ds' => .ok (.val d) (gvA [ro] ds' e2) (t1 || anyP [ro])
    | _ => .bad) else .bad
section
variable {X : Cx} {C : Ct} {W : WX} {k c : Nat} {q : Cli} {g pa : Addr} {fd : FuncData} {ps : List Str} {F : FS} {f : Str} {e : Expr} {fo : SE} {pos : Pos}
theorem tf_prop {σ : L2.St} {H : Hp} {Q : VK} (hq : C.cl c = some q) (hs : q.sl = false) (h : tf C W (fProp c F fo) σ H Q) : tProp q.ad (spOf C 1 F) [] (fun _ _ _ => False) (tf C W fo) σ H Q := by
  obtain ⟨env, P, Z, rl, ok, h⟩ := h
  refine ⟨env, P, Z, rl, ok, ?_⟩
  unfold fProp at h
  cases ea : fo env with
  | bad => rw [ea] at h; exact h
  | exc x ds e => rw [ea] at h; exact h
  | ok ro e1 t1 =>
    simp only [ea, O.bind] at h
    intro v1 P1 Pv1 Z1 H1 p1
    by_cases hc : cOf e1 ro = some c
    · simp only [hc, if_true] at h
      obtain ⟨a, dx, fs', ev, ha, hn⟩ := ins_at hc hq hs p1.res p1.rl
      refine ⟨a, dx, fs', ev, ha, ?_⟩
      have pl : PL' C σ P Z H env [ro] e1 t1 [v1] P1 Pv1 Z1 H1 := ⟨p1.rl, ⟨v1, [], Pv1, emp, rfl, p1.res, rfl, ⟨fun _ x => x, fun _ z => z.elim, fun _ _ z => z.elim⟩⟩, p1.dj, p1.ch, p1.pu⟩
      have := call_of (W := fun _ _ _ _ => False) (Q := Q) (F := F) (np := 1) pl dfl_nil rfl (by
        cases et : tkA [ro] e1 with
        | none => simp only [et] at h
        | some x =>
          obtain ⟨ds, e2⟩ := x
          simp only [et] at h ⊢
          rw [List.append_nil]
          cases eF : F ds with
          | bad => simp only [eF] at h
          | exc x xs ds' => simp only [eF] at h
          | ok d ds' => simp only [eF] at h ⊢; exact h)
      rw [ev] at this
      exact this
    · simp only [hc, if_false] at h
theorem e_prop (he : PE X e (tf C W fo)) (hq : C.cl c = some q) (cl : Cls X.K q.ad) (hp : PropOf X.K q.ad f pa g) (F' : FnOk X.prog X.w X.K X.mg X.base (L2.CX X.prog X.w) k g fd ps (spOf C 1 F)) (hr : Room (k + 1) X.A) (hb : Binds X.K fd ps []) (hs : q.sl = false := by rfl)
    (hab : attributeBase e f X.env (eval e X.env) = eval e X.env := by rfl) : PE X (.Attribute e f pos) (tf C W (fProp c F fo)) :=
  pe_imp (pe_prop he cl hp F' hr hb .nil (fun _ _ _ _ _ _ _ h => by
    obtain ⟨_, _, _, _, _, _, _, _, _, _, _, _, z⟩ := h
    exact z.elim) hab) fun _ _ _ h => tf_prop hq hs h
end
/-! ### d.get(k, e) -/
def getD2 (c k z : D) : Option D := match c with
  | .dct ks ds => (keyD k).bind fun key => match ks.idxOf? key with
    | some j => (ds[j]?).bind fun d => if d.st then some d else none
    | none => if z.st then some z else none
  | .fdc ks ds => (keyD k).bind fun key => match ks.idxOf? key with
    | some j => (ds[j]?).bind fun d => if d.st then some d else none
    | none => if z.st then some z else none
  | _ => none
def fGet2 (fo fk fz : SE) : SE := fun env => (fo env).bind fun ro e1 t1 => match rdR e1 ro with
  | none => .bad
  | some d0 => if isDct d0 then (fk e1).bind fun rk e2 t2 => (fz e2).bind fun rz e3 t3 => if t2 || t3 then .bad else match (rdR e3 ro).bind fun c => (rdR e3 rk).bind fun k => (rdR e3 rz).bind fun z => getD2 c k z with
    | some d => .ok (.val d) e3 t1
    | none => .bad
    else .bad
section
variable {C : Ct} {W : WX} {σ : L2.St} {H : Hp} {Q : VK} {fo fk fz : SE}
theorem get2_of {Z : As} {c k z d : D} {x y w : V} {P1 P2 P3 : As} (h : getD2 c k z = some d) (rc : Rep C H Z c x P1) (rk : Rep C H Z k y P2) (rz : Rep C H Z z w P3) : ∃ a o, x = .ref a ∧ DGet H a y o ∧ Rep C H Z d (o.getD w) emp := by
  have key : ∀ (ks : List Key) (ds : List D), (∃ a vs P, x = .ref a ∧ H a = some (.dK (ks.zip vs)) ∧ ks.length = vs.length ∧ RepL C H Z ds (vs.map some) P) → ((keyD k).bind fun key => match ks.idxOf? key with
    | some j => (ds[j]?).bind fun d => if d.st then some d else none
    | none => if z.st then some z else none) = some d → ∃ a o, x = .ref a ∧ DGet H a y o ∧ Rep C H Z d (o.getD w) emp := by
    rintro ks ds ⟨a, vs, P, ex, hh, l, r⟩ h
    obtain ⟨ky, e1, h2⟩ := Option.bind_eq_some_iff.mp h
    have hy : y = kV ky := by
      cases k with
      | int i => cases (show some (Sum.inl i) = some ky from e1); exact rk
      | str i => cases (show some (Sum.inr i) = some ky from e1); exact rk
      | _ => cases e1
    refine ⟨a, _, ex, by rw [hy]; exact DGet.k hh, ?_⟩
    cases ei : ks.idxOf? ky with
    | none =>
      rw [ei] at h2
      cases s : z.st with
      | false => simp [s] at h2
      | true =>
        have h2 : some z = some d := by simpa [s] using h2
        cases h2
        rw [valV_zip0 ei]
        exact rep_st emp s rz
    | some j =>
      rw [ei] at h2
      obtain ⟨d1, e2, h3⟩ := Option.bind_eq_some_iff.mp (show ((ds[j]?).bind fun d => if d.st then some d else none) = some d from h2)
      cases s : d1.st with
      | false => simp [s] at h3
      | true =>
        have h3 : some d1 = some d := by simpa [s] using h3
        cases h3
        obtain ⟨v, P2, e5, sb, rd⟩ := items_at r e2 (by cases d <;> first | rfl | cases s)
        rw [valV_zip ei e5]
        exact rep_st emp s rd
  cases c with
  | dct ks ds => obtain ⟨a, vs, e, pa, l, hh, r⟩ := rc; exact key ks ds ⟨a, vs, _, e, hh, l.trans (vs_len r).symm, r⟩ h
  | fdc ks ds => obtain ⟨a, vs, e, pa, l, hh, r⟩ := rc; exact key ks ds ⟨a, vs, _, e, hh, l.trans (vs_len r).symm, r⟩ h
  | _ => cases h
theorem tf_get2 (h : tf C W (fGet2 fo fk fz) σ H Q) : tDGet2 (tf C W fo) (tf C W fk) (tf C W fz) σ H Q := by
  obtain ⟨env, P, Z, rl, ok, h⟩ := h
  refine ⟨env, P, Z, rl, ok, ?_⟩
  unfold fGet2 at h
  cases ea : fo env with
  | bad => rw [ea] at h; exact h
  | exc x ds e => rw [ea] at h; exact h
  | ok ro e1 t1 =>
    simp only [ea, O.bind] at h
    intro v0 P1 Pv1 Z1 H1 p1
    cases e0 : rdR e1 ro with
    | none => simp only [e0] at h
    | some d0 =>
      simp only [e0] at h
      cases ht : isDct d0 with
      | false => simp only [ht, Bool.false_eq_true, if_false] at h
      | true =>
        simp only [ht, if_true] at h
        obtain ⟨Pd, sbd, rp0⟩ := read p1.res p1.rl e0
        have : ∃ a, v0 = .ref a ∧ IsD H1 a := by
          cases d0 with
          | dct ks ds => obtain ⟨a, vs, e, pa, l, hh, r⟩ := rp0; exact ⟨a, e, .inl ⟨_, .inl hh⟩⟩
          | fdc ks ds => obtain ⟨a, vs, e, pa, l, hh, r⟩ := rp0; exact ⟨a, e, .inl ⟨_, .inl hh⟩⟩
          | _ => cases ht
        obtain ⟨a0, ev0, isd⟩ := this
        refine ⟨a0, ev0, isd, e1, P1, Z1, p1.rl, p1.ch.okP, ?_⟩
        cases eb : fk e1 with
        | bad => simp only [eb] at h
        | exc x ds e =>
          simp only [eb] at h
          exact fun cls dd P' Px Z' H' q => h cls dd P' Px Z' H' (q.up p1.ch p1.dj)
        | ok rk e2 t2 =>
          simp only [eb] at h
          intro v2 P2 Pv2 Z2 H2 p2
          refine ⟨e2, P2, Z2, p2.rl, p2.ch.okP, ?_⟩
          cases ez : fz e2 with
          | bad => simp only [ez] at h
          | exc x ds e =>
            simp only [ez] at h
            exact fun cls dd P' Px Z' H' q => h cls dd P' Px Z' H' (PX'.up p1.ch p1.dj (q.up p2.ch p2.dj))
          | ok rz e3 t3 =>
            simp only [ez] at h
            intro v3 P3 Pv3 Z3 H3 p3
            cases tt : (t2 || t3) with
            | true => rw [tt] at h; exact h.elim
            | false =>
              rw [tt] at h
              simp only [Bool.false_eq_true, if_false] at h
              rw [Bool.or_eq_false_iff] at tt
              cases ed : (rdR e3 ro).bind fun c => (rdR e3 rk).bind fun k => (rdR e3 rz).bind fun z => getD2 c k z with
              | none => simp only [ed] at h
              | some d =>
                simp only [ed] at h
                obtain ⟨c, g1, ed2⟩ := Option.bind_eq_some_iff.mp ed
                obtain ⟨k, g2, ed3⟩ := Option.bind_eq_some_iff.mp ed2
                obtain ⟨z, g3, ed4⟩ := Option.bind_eq_some_iff.mp ed3
                obtain ⟨a1, a2, a3⟩ := p2.pu tt.1
                obtain ⟨b1, b2, b3⟩ := p3.pu tt.2
                have w2 : okR ro t2 = true := by rw [tt.1]; cases ro with | val _ => rfl | plc i p => cases p <;> rfl
                have w3 : okR rk t3 = true := by rw [tt.2]; cases rk with | val _ => rfl | plc i p => cases p <;> rfl
                have w4 : okR ro t3 = true := by rw [tt.2]; cases ro with | val _ => rfl | plc i p => cases p <;> rfl
                have c12 := p1.ch.trans p1.dj p2.ch
                have ap12 := p1.ch.apart p1.dj p2.ch
                have ro2 := wait p1.res p1.dj p1.ch.okP p2.ch p2.pu w2
                have ro3 := wait ro2 (fun a x y => ap12 a (.inl x) y) p2.ch.okP p3.ch p3.pu w4
                have rk3 := wait p2.res p2.dj p2.ch.okP p3.ch p3.pu w3
                obtain ⟨_, _, q1⟩ := read ro3 p3.rl g1
                obtain ⟨_, _, q2⟩ := read rk3 p3.rl g2
                obtain ⟨_, _, q3⟩ := read p3.res p3.rl g3
                obtain ⟨a, o, ev, dg, rp⟩ := get2_of ed4 q1 q2 q3
                have ea0 : a = a0 := by rw [ev0] at ev; cases ev; rfl
                subst ea0
                have c13 := (c12.sub (Q := uni P2 Pv1) fun a x => x.imp .inl id).trans (fun a x y => ap12 a (.inl x) y) p3.ch
                refine ⟨o, dg, h _ P3 emp Z3 H3 ⟨p3.rl, rp, fun _ _ z => z.elim, c13.sub fun a x => x.elim (fun y => .inl (.inl y)) fun z => z.elim, fun ht => ?_⟩⟩
                obtain ⟨d1, d2, d3⟩ := p1.pu ht
                exact ⟨b1.trans (a1.trans d1), b2.trans (a2.trans d2), fun x o e m => b3 x o (a3 x o (d3 x o e m) m) m⟩
end
section
variable {X : Cx} {C : Ct} {W : WX} {o e f : Expr} {fo fk fz : SE} {apos cpos : Pos}
theorem e_get2 (hu : X.A.units + 1 < cLine) (ho : PE X o (tf C W fo)) (he : PE X e (tf C W fk)) (hf : PE X f (tf C W fz)) (m : M2 X o "get" apos e f cpos := by exact ⟨rfl, rfl, rfl, rfl⟩) : PE X (.Call (.Attribute o "get" apos) [e, f] [] cpos) (tf C W (fGet2 fo fk fz)) :=
  pe_imp (pe_dget2 hu ho he hf m) fun _ _ _ h => tf_get2 h
end
/-! ### self.f += e, ints -/
def sAugF (c j i : Nat) (op : Int → Int → Int) (fv : SE) : SS := fun env => match env[i]? with
  | some (.ins c' ds) => if c' = c then (match ds[j]? with
    | some (.int a) => (fv env).bind fun r e1 t1 => if t1 then .bad else match rdR e1 r with
      | some (.int b) => .ok .nx (e1.set i (.ins c (ds.set j (.int (op a b))))) true
      | _ => .bad
    | _ => .bad) else .bad
  | _ => .bad
def rOpI (op : Int → Int → Int) : V → V → Hp → VK → Prop := fun x y H Q => ∃ i j, x = .int i ∧ y = .int j ∧ Q (.int (op i j)) H
section
variable {C : Ct} {fx : Nat → Bool} {W : WX} {D : Ends} {σ : L2.St} {H : Hp} {fv : SE} {K : PySem.W.Frag} {q : Cli} {c j i : Nat} {f : Str} {op : Int → Int → Int}
theorem ts_augF (hq : C.cl c = some q) (hs : q.sl = false) (hj : q.ns[j]? = some f) (hnd : q.ns.Nodup) (hl : q.ns.length < 900) (cl : Cls K q.ad) (na : NoAttr K q.ad f) (h : ts C fx W (sAugF c j i op fv) D σ H) : sFldAug K (tVar i) (tf C W fv) (rOpI op) f D σ H := by
  obtain ⟨env, P, Z, rl, ok, h⟩ := h
  unfold sAugF at h
  cases e3 : env[i]? with
  | none => simp only [e3] at h <;> exact h.elim
  | some d0 =>
    cases d0 with
    | ins c' ds =>
      simp only [e3] at h
      by_cases hc : c' = c
      · rw [if_pos hc] at h
        subst hc
        cases e4 : ds[j]? with
        | none => simp only [e4] at h <;> exact h.elim
        | some d1 =>
          cases d1 with
          | int a0 =>
            simp only [e4] at h
            obtain ⟨v0, P0, ev0, s0, ⟨a, os, ea0, pa, ia, r⟩, up⟩ := repL_at rl e3 (by simp)
            obtain ⟨dx, fs, h1, h2, h3, h4⟩ := insAt_dict ia hq hs
            obtain ⟨v1, P1', eo1, _, rp1, _⟩ := repL_at r e4 (by simp)
            obtain ⟨dx', fs', h1', h2'⟩ := fld_read ia hq hs hj eo1
            have hv1 : v1 = .int a0 := rp1
            subst hv1
            refine ⟨v0, ev0, a, q.ad, dx', fs', .int a0, ea0, h1', cl, na, h2', env, P, Z, rl, ok, ?_⟩
            cases ea : fv env with
            | bad => rw [ea] at h; exact h.elim
            | exc x ds e => rw [ea] at h; exact fun cls dd P' Px Z' H' q => h cls dd σ P' Px Z' H' q.xs
            | ok rv e1 t1 =>
              simp only [ea, O.bind] at h
              intro y P1 Pv1 Z1 H1 p1
              cases t1 with
              | true => exact h.elim
              | false =>
                simp only [Bool.false_eq_true, if_false] at h
                obtain ⟨b1, b2, b3⟩ := p1.pu rfl
                subst b1 b2
                cases er : rdR e1 rv with
                | none => simp only [er] at h <;> exact h.elim
                | some d2 =>
                  cases d2 with
                  | int b =>
                    simp only [er] at h
                    have hy := rd_sc_int (rd1_of p1.res p1.rl p1.ch.ok er)
                    have ha1 : H1 a = some (.ins q.ad dx fs) := b3 a _ h1 fun z => z
                    refine ⟨a0, b, rfl, hy, dx, fs, ha1, fs_len h3 h4 hl, ?_⟩
                    have ia1 : InsAt C H1 a c' os := insAt_keep ia b3 (OkP.emp (Z := Z)) fun z => z
                    have okA : OkS P1 Z1 H1 := p1.ch.okP
                    have ia' := insAt_put (H := H1) (y := .int (op a0 b)) hq hs hj hnd ha1 h2 h3 h4
                    have q1 : OkP (one a) Z1 H1 := one_ok okA.at_ (s0 a pa)
                    have jl : j < ds.length := (List.getElem?_eq_some_iff.mp e4).1
                    have q0 : OkP (one a) Z H := one_ok ok.at_ (s0 a pa)
                    have kk : Keep (one a) H (upd H1 a (.ins q.ad dx (putF f (.int (op a0 b)) fs))) := fun x o e n => by
                      rw [upd_ne (show x ≠ a from n)]
                      exact b3 x o e fun z => z
                    have r' : RepL C (upd H1 a (.ins q.ad dx (putF f (.int (op a0 b)) fs))) Z1 ds os (but P0 a) := repL_keep r kk q0 (fun b x y => y.2 x) p1.ch.zle
                    have r2 := repL_put (d := .int (op a0 b)) (v := .int (op a0 b)) (P1 := emp) r' jl rfl fun b x w => x
                    have cu : Ch P1 Z H P1 Z1 (upd H1 a (.ins q.ad dx (putF f (.int (op a0 b)) fs))) := (p1.ch.sub fun _ x => .inl x).trans0 (ch_upd okA (s0 a pa) trivial)
                    have r3 := up (upd H1 a (.ins q.ad dx (putF f (.int (op a0 b)) fs))) Z1 (one a) (.ins c' (ds.set j (.int (op a0 b)))) (some v0) P0 kk q0 p1.ch.zle (fun b x w => by rw [show b = a from x]; exact pa)
                      (.inr ⟨v0, rfl, ⟨a, _, ea0, pa, ia', repL_mono r2 fun b x => x.elim id fun z => z.elim⟩⟩) fun b x w => w.2 x
                    rw [set_same_opt ev0] at r3
                    refine h σ _ Z1 _ ⟨r3, cu.sub fun b x => ?_, Fix.refl⟩
                    rcases x with x | x
                    · exact x.1
                    · exact s0 b x
                  | _ => simp only [er] at h <;> exact h.elim
          | _ => simp only [e4] at h <;> exact h.elim
      · rw [if_neg hc] at h; exact h.elim
    | _ => simp only [e3] at h <;> exact h.elim
end
section
variable {X : Cx} {C : Ct} {fx : Nat → Bool} {W : WX} {value : Expr} {fv : SE} {q : Cli} {c j i : Nat} {f x : Str} {pos pos' po : Pos}
theorem s_augF (hN : X.N[i]? = some x) (hv : Vis X.env.scope x) (he : PE X value (tf C W fv)) (hq : C.cl c = some q) (hs : q.sl = false) (hj : q.ns[j]? = some f) (cl : Cls X.K q.ad) (na : NoAttr X.K q.ad f) (hnd : q.ns.Nodup := by exact of_decide_eq_true rfl) (hl : q.ns.length < 900 := by exact of_decide_eq_true rfl)
    (hd : (x == ("__debug__" : Str)) = false := by decide) (hcd : (x == ("__classdict__" : Str)) = false := by decide) : PS X (.AugAssign (.Attribute (.Name x po) f pos') .Add value pos) (ts C fx W (sAugF c j i (fun a b => a + b) fv)) :=
  ps_imp (ps_fldaug (pe_var hN hv hd hcd) he in_add) fun _ _ _ h => ts_augF hq hs hj hnd hl cl na h
end
/-! ### names of a module -/
section
variable {X : Cx} {C : Ct} {W : WX} {x : Str} {pos : Pos}
theorem e_gInt {i : Int} {t} (hg : Gl X x) (hm : X.mg x = some (.int i t)) (hd : (x == ("__debug__" : Str)) = false := by decide) : PE X (.Name x pos) (tf C W (fC (.int i))) := e_const (pe_glob (v := .int i) hg hm ⟨_, rfl⟩ hd) fun _ _ => rfl
theorem e_gStr {i : Str} {t} (hg : Gl X x) (hm : X.mg x = some (.str i t)) (hd : (x == ("__debug__" : Str)) = false := by decide) : PE X (.Name x pos) (tf C W (fC (.str i))) := e_const (pe_glob (v := .str i) hg hm ⟨_, rfl⟩ hd) fun _ _ => rfl
/-- a written tuple -/
theorem e_gTup {a : Addr} {ds : List D} {vs : List V} (hg : Gl X x) (hm : X.mg x = some (.ref a)) (hs : ∀ H, SqT C.K H a vs) (hr : ∀ H Z, RepL C H Z ds (vs.map some) emp) (hd : (x == ("__debug__" : Str)) = false := by decide) : PE X (.Name x pos) (tf C W (fC (.tup ds))) := e_const (pe_glob (v := .ref a) hg hm rfl hd) fun H Z => ⟨a, vs, rfl, hs H, hr H Z⟩
end
end OL

/-! The O layer, 23: short words. -/
namespace OL
open PySem PySem.Spec PyProof.Rows L2
section
variable {X : Cx} {C : Ct} {W : WX} {fx : Nat → Bool} {a b e : Expr} {es : List Expr} {fa fb fo : SE} {fs : SA} {pos p : Pos}
theorem v (i : Nat) {x : Str} (hN : X.N[i]? = some x := by rfl) (hv : Vis X.env.scope x := by first | exact Or.inl rfl | exact Or.inr (Or.inl rfl) | exact Or.inr (Or.inr rfl)) (hd : (x == ("__debug__" : Str)) = false := by decide) (hcd : (x == ("__classdict__" : Str)) = false := by decide) : PE X (.Name x pos) (tf C W (fVar i)) := e_var hN hv hd hcd
theorem n (i : Nat) {x : Str} (hN : X.N.Nodup) (hi : X.N[i]? = some x := by rfl) (hx : Loc X.env.scope x := by first | exact Or.inl rfl | exact Or.inr rfl) (hfx : fx i = false := by rfl) (hf : X.fn x = true ∨ X.env.scope.names.lookup x = some .local := by first | exact .inl rfl | exact .inr rfl) : PG X (.Name x pos) (tg C fx (gtName i)) := g_name hN hi hx hfx hf
/-! comparisons -/
theorem c_lt (ha : PE X a (tf C W fa)) (hb : PE X b (tf C W fb)) : PE X (.Compare a [.Lt] [b] pos) (tf C W (fTwo fa fb gLt)) := e_cmp op_lt (o2_int fun _ _ _ _ => rfl) ha hb (nomark _)
theorem c_le (ha : PE X a (tf C W fa)) (hb : PE X b (tf C W fb)) : PE X (.Compare a [.LtE] [b] pos) (tf C W (fTwo fa fb gLe)) := e_cmp op_le (o2_int fun _ _ _ _ => rfl) ha hb (nomark _)
theorem c_gt (ha : PE X a (tf C W fa)) (hb : PE X b (tf C W fb)) : PE X (.Compare a [.Gt] [b] pos) (tf C W (fTwo fa fb gGt)) := e_cmp op_gt (o2_int fun _ _ _ _ => rfl) ha hb (nomark _)
theorem c_ge (ha : PE X a (tf C W fa)) (hb : PE X b (tf C W fb)) : PE X (.Compare a [.GtE] [b] pos) (tf C W (fTwo fa fb gGe)) := e_cmp op_ge (o2_int fun _ _ _ _ => rfl) ha hb (nomark _)
theorem c_eq (hK : X.K = C.K) (hu : X.A.units + 64 < cLine) (ha : PE X a (tf C W fa)) (hb : PE X b (tf C W fb)) : PE X (.Compare a [.Eq] [b] pos) (tf C W (fTwo fa fb gEq)) := e_cmp (op_eqD hu) (o2_eq hK) ha hb (nomark _)
theorem c_ne (hK : X.K = C.K) (hu : X.A.units + 64 < cLine) (ha : PE X a (tf C W fa)) (hb : PE X b (tf C W fb)) : PE X (.Compare a [.NotEq] [b] pos) (tf C W (fTwo fa fb gNe)) := e_cmp (op_neD hu) (o2_ne hK) ha hb (nomark _)
theorem c_is (ha : PE X a (tf C W fa)) (hb : PE X b (tf C W fb)) : PE X (.Compare a [.Is] [b] pos) (tf C W (fTwo fa fb gIsN)) := e_cmp op_isN o2_isN ha hb (nomark _)
theorem c_isnot (ha : PE X a (tf C W fa)) (hb : PE X b (tf C W fb)) : PE X (.Compare a [.IsNot] [b] pos) (tf C W (fTwo fa fb gNotN)) := e_cmp op_notN o2_notN ha hb (nomark _)
theorem c_in (hK : X.K = C.K) (hu : X.A.units + 1 < cLine) (ha : PE X a (tf C W fa)) (hb : PE X b (tf C W fb)) (hm : behindInMarks .In b = false := by rfl) : PE X (.Compare a [.In] [b] pos) (tf C W (fTwo fa fb gIn)) := e_cmp (op_inA hu) (by rw [hK]; exact o2_inB) ha hb hm
theorem c_notin (hK : X.K = C.K) (hu : X.A.units + 1 < cLine) (ha : PE X a (tf C W fa)) (hb : PE X b (tf C W fb)) (hm : behindInMarks .NotIn b = false := by rfl) : PE X (.Compare a [.NotIn] [b] pos) (tf C W (fTwo fa fb gNotIn)) := e_cmp (op_notInA hu) (by rw [hK]; exact o2_inB) ha hb hm
/-! the same as tests -/
theorem t_lt (ha : PE X a (tf C W fa)) (hb : PE X b (tf C W fb)) : PT X (.Compare a [.Lt] [b] pos) (tb C W (bVal (fTwo fa fb gLt))) := t_cmp op_lt (o2_int fun _ _ _ _ => rfl) ha hb (nomark _)
theorem t_le (ha : PE X a (tf C W fa)) (hb : PE X b (tf C W fb)) : PT X (.Compare a [.LtE] [b] pos) (tb C W (bVal (fTwo fa fb gLe))) := t_cmp op_le (o2_int fun _ _ _ _ => rfl) ha hb (nomark _)
theorem t_gt (ha : PE X a (tf C W fa)) (hb : PE X b (tf C W fb)) : PT X (.Compare a [.Gt] [b] pos) (tb C W (bVal (fTwo fa fb gGt))) := t_cmp op_gt (o2_int fun _ _ _ _ => rfl) ha hb (nomark _)
theorem t_ge (ha : PE X a (tf C W fa)) (hb : PE X b (tf C W fb)) : PT X (.Compare a [.GtE] [b] pos) (tb C W (bVal (fTwo fa fb gGe))) := t_cmp op_ge (o2_int fun _ _ _ _ => rfl) ha hb (nomark _)
theorem t_eq (hK : X.K = C.K) (hu : X.A.units + 64 < cLine) (ha : PE X a (tf C W fa)) (hb : PE X b (tf C W fb)) : PT X (.Compare a [.Eq] [b] pos) (tb C W (bVal (fTwo fa fb gEq))) := t_cmp (op_eqD hu) (o2_eq hK) ha hb (nomark _)
theorem t_ne (hK : X.K = C.K) (hu : X.A.units + 64 < cLine) (ha : PE X a (tf C W fa)) (hb : PE X b (tf C W fb)) : PT X (.Compare a [.NotEq] [b] pos) (tb C W (bVal (fTwo fa fb gNe))) := t_cmp (op_neD hu) (o2_ne hK) ha hb (nomark _)
theorem t_is (ha : PE X a (tf C W fa)) (hb : PE X b (tf C W fb)) : PT X (.Compare a [.Is] [b] pos) (tb C W (bVal (fTwo fa fb gIsN))) := t_cmp op_isN o2_isN ha hb (nomark _)
theorem t_isnot (ha : PE X a (tf C W fa)) (hb : PE X b (tf C W fb)) : PT X (.Compare a [.IsNot] [b] pos) (tb C W (bVal (fTwo fa fb gNotN))) := t_cmp op_notN o2_notN ha hb (nomark _)
theorem t_in (hK : X.K = C.K) (hu : X.A.units + 1 < cLine) (ha : PE X a (tf C W fa)) (hb : PE X b (tf C W fb)) (hm : behindInMarks .In b = false := by rfl) : PT X (.Compare a [.In] [b] pos) (tb C W (bVal (fTwo fa fb gIn))) := t_cmp (op_inA hu) (by rw [hK]; exact o2_inB) ha hb hm
theorem t_notin (hK : X.K = C.K) (hu : X.A.units + 1 < cLine) (ha : PE X a (tf C W fa)) (hb : PE X b (tf C W fb)) (hm : behindInMarks .NotIn b = false := by rfl) : PT X (.Compare a [.NotIn] [b] pos) (tb C W (bVal (fTwo fa fb gNotIn))) := t_cmp (op_notInA hu) (by rw [hK]; exact o2_inB) ha hb hm
/-! built-ins -/
theorem b_len (hK : X.K = C.K) (hm : X.mg "len" = none) (ha : PE X e (tf C W fa)) (hg : Gl X "len" := by rfl) (hs : starEach [e] X.env = (false, eval e X.env) :: starEach [] X.env := by rfl) : PE X (.Call (.Name "len" p) [e] [] pos) (tf C W (fN (lCons fa lNil) (g1 gLen))) := e_callB cr_lenA (by rw [hK]; exact on1 o1_len) hg hm PySem.boot_len (a_cons ha a_nil hs) (by decide) (by decide) hs rfl
theorem b_sum (hK : X.K = C.K) (hc : X.calm = true) (hm : X.mg "sum" = none) (ha : PE X e (tf C W fa)) (hg : Gl X "sum" := by rfl) (hs : starEach [e] X.env = (false, eval e X.env) :: starEach [] X.env := by rfl) : PE X (.Call (.Name "sum" p) [e] [] pos) (tf C W (fN (lCons fa lNil) (g1 gSum))) := e_callB (cr_sum hc) (by rw [hK]; exact on1 o1_sum) hg hm PyProof.Rows.boot_sum (a_cons ha a_nil hs) (by decide) (by decide) hs rfl
theorem boot_all' : bootBuiltins "all" = some (.builtin "all") := by decide +kernel
theorem boot_any' : bootBuiltins "any" = some (.builtin "any") := by decide +kernel
theorem b_all (hK : X.K = C.K) (hc : X.calm = true) (hm : X.mg "all" = none) (ha : PE X e (tf C W fa)) (hg : Gl X "all" := by rfl) (hs : starEach [e] X.env = (false, eval e X.env) :: starEach [] X.env := by rfl) : PE X (.Call (.Name "all" p) [e] [] pos) (tf C W (fN (lCons fa lNil) (g1 gAll))) := e_callB (cr_all hc) (by rw [hK]; exact on1 o1_all) hg hm boot_all' (a_cons ha a_nil hs) (by decide) (by decide) hs rfl
theorem b_any (hK : X.K = C.K) (hc : X.calm = true) (hm : X.mg "any" = none) (ha : PE X e (tf C W fa)) (hg : Gl X "any" := by rfl) (hs : starEach [e] X.env = (false, eval e X.env) :: starEach [] X.env := by rfl) : PE X (.Call (.Name "any" p) [e] [] pos) (tf C W (fN (lCons fa lNil) (g1 gAny))) := e_callB (cr_any hc) (by rw [hK]; exact on1 o1_any) hg hm boot_any' (a_cons ha a_nil hs) (by decide) (by decide) hs rfl
theorem b_max (hc : X.calm = true) (hm : X.mg "max" = none) (ha : PE X a (tf C W fa)) (hb : PE X b (tf C W fb)) (hg : Gl X "max" := by rfl) (hs : starEach [a, b] X.env = (false, eval a X.env) :: starEach [b] X.env := by rfl) (hs2 : starEach [b] X.env = (false, eval b X.env) :: starEach [] X.env := by rfl) (hpl : (backTo pos (starEach [b] X.env)).any (·.1) = false := by rfl) : PE X (.Call (.Name "max" p) [a, b] [] pos) (tf C W (fN (lCons fa (lCons fb lNil)) (g2 gMax2))) := e_callB (call_max2 hc) (on2 o2_max) hg hm PyProof.Rows.boot_max (a_cons ha (a_cons hb a_nil hs2) hs) (by decide) (by decide) hs hpl
theorem b_min (hc : X.calm = true) (hm : X.mg "min" = none) (ha : PE X a (tf C W fa)) (hb : PE X b (tf C W fb)) (hg : Gl X "min" := by rfl) (hs : starEach [a, b] X.env = (false, eval a X.env) :: starEach [b] X.env := by rfl) (hs2 : starEach [b] X.env = (false, eval b X.env) :: starEach [] X.env := by rfl) (hpl : (backTo pos (starEach [b] X.env)).any (·.1) = false := by rfl) : PE X (.Call (.Name "min" p) [a, b] [] pos) (tf C W (fN (lCons fa (lCons fb lNil)) (g2 gMin2))) := e_callB (call_min2 hc) (on2 o2_min) hg hm PyProof.Rows.boot_min (a_cons ha (a_cons hb a_nil hs2) hs) (by decide) (by decide) hs hpl
theorem b_int (hm : X.mg "int" = none) (ha : PE X e (tf C W fa)) (hg : Gl X "int" := by rfl) (hs : starEach [e] X.env = (false, eval e X.env) :: starEach [] X.env := by rfl) : PE X (.Call (.Name "int" p) [e] [] pos) (tf C W (fN (lCons fa lNil) (g1 gInt))) := e_callTy call_int1 (on1 o1_int) hg hm PyProof.Rows.boot_int (a_cons ha a_nil hs) (by decide) (by decide) hs rfl
theorem b_list (hK : X.K = C.K) (hc : X.calm = true) (hm : X.mg "list" = none) (ha : PE X e (tf C W fa)) (hg : Gl X "list" := by rfl) (hs : starEach [e] X.env = (false, eval e X.env) :: starEach [] X.env := by rfl) : PE X (.Call (.Name "list" p) [e] [] pos) (tf C W (fN (lCons fa lNil) (g1 gList))) := e_callTy (cr_listA hc) (by rw [hK]; exact on1 o1_list) hg hm PyProof.Rows.boot_list (a_cons ha a_nil hs) (by decide) (by decide) hs rfl
theorem b_tuple (hK : X.K = C.K) (hm : X.mg "tuple" = none) (ha : PE X e (tf C W fa)) (hg : Gl X "tuple" := by rfl) (hs : starEach [e] X.env = (false, eval e X.env) :: starEach [] X.env := by rfl) : PE X (.Call (.Name "tuple" p) [e] [] pos) (tf C W (fN (lCons fa lNil) (g1 gTuple))) := e_callTy cr_tupA (by rw [hK]; exact on1 o1_tuple) hg hm PyProof.Rows.boot_tuple (a_cons ha a_nil hs) (by decide) (by decide) hs rfl
theorem b_dict (hm : X.mg "dict" = none) (ha : PE X e (tf C W fa)) (hg : Gl X "dict" := by rfl) (hs : starEach [e] X.env = (false, eval e X.env) :: starEach [] X.env := by rfl) : PE X (.Call (.Name "dict" p) [e] [] pos) (tf C W (fN (lCons fa lNil) (g1 gDict))) := e_callTy cr_dictA (on1 o1_dict) hg hm PyProof.Rows.boot_dict (a_cons ha a_nil hs) (by decide) (by decide) hs rfl
/-! items -/
theorem x_item (hK : X.K = C.K) (hu : X.A.units + 1 < cLine) (ha : PE X a (tf C W fa)) (hb : PE X b (tf C W fb)) (hs : PlainIx b := by intro _ _; rfl) : PE X (.Subscript a b pos) (tf C W (fIx fa fb)) := e_item hK hu ha hb hs
end
end OL

/-! The O layer, 24: defs, called by their names. -/
namespace OL
open PySem PySem.Spec PyProof.Rows L2

/-- a def's promise, whatever its tokens stand for -/
def spX (K : PySem.W.Frag) (cl : Nat → Option Cli) (np : Nat) (F : FS) : L2.Sp := fun vs H Q E => ∃ fv, spOf ⟨K, cl, fv⟩ np F vs H Q E
section
variable {P : Program} {w : World} {K : PySem.W.Frag} {mg : Str → Option Value} {base : Heap} {cl : Nat → Option Cli}
theorem fn_x {x qual : Str} {st : Stmt} {f : Addr} {fd : FuncData} {N ps : List Str} {k : Nat} {fx : Nat → Bool} {b : SS} (F : Fun K x qual st f fd) (S : FnScope N ps (defScope st)) (hN : ps.length ≤ N.length)
    (hb : ∀ (fv : Nat → Option Addr) (cdv : Value) (A : Around) (outer : List PySem.Env) (s : Shared) (H : Hp) (E : XK), Room k (A.deeper (envOfC qual (defScope st) s.heap.objs.size f cdv)) →
      PSs (cxOf (L2.CX P w) P w K mg base N qual (defScope st) f cdv A outer s H E) (defBody st) (ts ⟨K, cl, fv⟩ fx (fun cls d _ H' => E cls d H') b)) :
    FnOk P w K mg base (L2.CX P w) (k + 1) f fd ps (spX K cl ps.length (semOf fx ps.length N.length b)) :=
  ⟨fun vs H Q E ⟨fv, h⟩ => h.1, fun A outer s H args us vs Q E hr he hbs hv ⟨fv, h⟩ => (fn_def F S hN (C := ⟨K, cl, fv⟩) (hb fv)).run A outer s H args us vs Q E hr he hbs hv h⟩
theorem fn_xD {x qual : Str} {st : Stmt} {f : Addr} {fd : FuncData} {N ps : List Str} {k : Nat} {fx : Nat → Bool} {b : SS} (F : FunD K x qual st f fd) (S : FnScope N ps (defScope st)) (hN : ps.length ≤ N.length)
    (hb : ∀ (fv : Nat → Option Addr) (cdv : Value) (A : Around) (outer : List PySem.Env) (s : Shared) (H : Hp) (E : XK), Room k (A.deeper (envOfC qual (defScope st) s.heap.objs.size f cdv)) →
      PSs (cxOf (L2.CX P w) P w K mg base N qual (defScope st) f cdv A outer s H E) (defBody st) (ts ⟨K, cl, fv⟩ fx (fun cls d _ H' => E cls d H') b)) :
    FnOk P w K mg base (L2.CX P w) (k + 1) f fd ps (spX K cl ps.length (semOf fx ps.length N.length b)) :=
  ⟨fun vs H Q E ⟨fv, h⟩ => h.1, fun A outer s H args us vs Q E hr he hbs hv ⟨fv, h⟩ => (fn_defD F S hN (C := ⟨K, cl, fv⟩) (hb fv)).run A outer s H args us vs Q E hr he hbs hv h⟩
theorem pss_bad {X : Cx} {sts : List Stmt} {C : Ct} {fx : Nat → Bool} {W : WX} : PSs X sts (ts C fx W fun _ => .bad) := ⟨fun pins s σ H D I ⟨_, _, _, _, _, h⟩ => h.elim⟩
/-- nothing is known of it -/
theorem fn_none {k np : Nat} {f : Addr} {fd : FuncData} {ps : List Str} : FnOk P w K mg base (L2.CX P w) k f fd ps (spX K cl np fun _ => .bad) :=
  ⟨fun vs H Q E ⟨fv, _, ds, P, Z, _, _, h⟩ => h.elim, fun A outer s H args us vs Q E hr he hbs hv ⟨fv, _, ds, P, Z, _, _, h⟩ => h.elim⟩
end
section
variable (P : Program) (w : World) (K : PySem.W.Frag) (mg : Str → Option Value) (base : Heap) (cl : Nat → Option Cli)
/-- a def of the module -/
def Cal (k : Nat) (x : Str) (ps : List Str) (F : FS) : Prop := ∃ f fd, mg x = some (.ref f) ∧ PySem.W.keepIn K (.ref f) = true ∧ FnOk P w K mg base (L2.CX P w) k f fd ps (spX K cl ps.length F) ∧ Binds K fd ps []
/-- .. whose last parameters are constants -/
def CalD (k : Nat) (x : Str) (ps : List Str) (F : FS) (dvs : List V) (dd : List D) : Prop := ∃ f fd dv, mg x = some (.ref f) ∧ PySem.W.keepIn K (.ref f) = true ∧ FnOk P w K mg base (L2.CX P w) k f fd ps (spX K cl ps.length F) ∧ Binds K fd ps dv ∧ Vals dvs dv
/-- a method -/
def CalM (k : Nat) (ad : Addr) (m : Str) (ps : List Str) (F : FS) : Prop := ∃ f fd, Meth K ad m f ∧ FnOk P w K mg base (L2.CX P w) k f fd ps (spX K cl ps.length F) ∧ Binds K fd ps []
/-- a property -/
def CalP (k : Nat) (ad : Addr) (m : Str) (F : FS) : Prop := ∃ pa f fd, PropOf K ad m pa f ∧ FnOk P w K mg base (L2.CX P w) k f fd ["self"] (spX K cl 1 F) ∧ Binds K fd ["self"] []
/-- a class with its own __init__ -/
def CalI (k : Nat) (x : Str) (ad : Addr) (ps : List Str) (F : FS) : Prop := ∃ f fd, mg x = some (.ref ad) ∧ Mk K ad f ∧ FnOk P w K mg base (L2.CX P w) k f fd ps (spX K cl ps.length F) ∧ Binds K fd ps []
end
section
variable {X : Cx} {cl : Nat → Option Cli} {fv : Nat → Option Addr} {W : WX} {k c : Nat} {q : Cli} {x m : Str} {ps : List Str} {F : FS} {e o : Expr} {es : List Expr} {fs : SA} {fo : SE} {p pos apos : Pos} {dvs : List V} {dd : List D} {np nf : Nat} {ad : Addr} {ns : List Str}
theorem x_call (c : Cal X.prog X.w X.K X.mg X.base cl k x ps F) (tk : Takes X W) (hr : Room k X.A) (ha : L2.PA X (e :: es) (tl ⟨X.K, cl, fv⟩ W fs)) (hg : Gl X x := by rfl) (hdb : (x == ("__debug__" : Str)) = false := by decide)
    (he : starEach (e :: es) X.env = (false, eval e X.env) :: starEach es X.env := by rfl) (hpl : (backTo pos (starEach es X.env)).any (·.1) = false := by rfl) (hl : ps.length = np := by rfl) : PE X (.Call (.Name x p) (e :: es) [] pos) (tf ⟨X.K, cl, fv⟩ W (fApp np F fs [])) := by
  subst hl
  obtain ⟨f, fd, hm, hk, ok, hb⟩ := c
  exact e_call (ok.imp fun _ _ _ _ h => ⟨fv, h⟩) tk hr hg hm hk hb .nil dfl_nil ha hdb he hpl
theorem x_callD (c : CalD X.prog X.w X.K X.mg X.base cl k x ps F dvs dd) (hdd : Dfl ⟨X.K, cl, fv⟩ dvs dd) (tk : Takes X W) (hr : Room k X.A) (ha : L2.PA X (e :: es) (tl ⟨X.K, cl, fv⟩ W fs)) (hg : Gl X x := by rfl) (hdb : (x == ("__debug__" : Str)) = false := by decide)
    (he : starEach (e :: es) X.env = (false, eval e X.env) :: starEach es X.env := by rfl) (hpl : (backTo pos (starEach es X.env)).any (·.1) = false := by rfl) (hl : ps.length = np := by rfl) : PE X (.Call (.Name x p) (e :: es) [] pos) (tf ⟨X.K, cl, fv⟩ W (fApp np F fs dd)) := by
  subst hl
  obtain ⟨f, fd, dv, hm, hk, ok, hb, hv⟩ := c
  exact e_call (ok.imp fun _ _ _ _ h => ⟨fv, h⟩) tk hr hg hm hk hb hv hdd ha hdb he hpl
theorem x_meth {pl : Sem Bool} (cm : CalM X.prog X.w X.K X.mg X.base cl k ad m ps F) (hq : cl c = some ⟨ad, ns, false⟩) (cc : Cls X.K ad) (tk : Takes X W) (hr : Room k X.A) (ho : PE X o (tf ⟨X.K, cl, fv⟩ W fo)) (ha : L2.PA X (e :: es) (tl ⟨X.K, cl, fv⟩ W fs)) (hn : m ∉ ns := by exact of_decide_eq_true rfl)
    (hst : starEach (e :: es) X.env = (false, eval e X.env) :: starEach es X.env := by rfl) (hpl : (backTo pos (starEach es X.env)).any (·.1) = false := by rfl) (ht : MethForm X o m apos pos (e :: es) pl := by rfl) (hl : ps.length = np := by rfl) :
    PE X (.Call (.Attribute o m apos) (e :: es) [] pos) (tf ⟨X.K, cl, fv⟩ W (fApp np F (lSelf c fo fs) [])) := by
  subst hl
  obtain ⟨f, fd, hm, ok, hb⟩ := cm
  exact e_meth ho hq cc hm (ok.imp fun _ _ _ _ h => ⟨fv, h⟩) tk hr hb .nil dfl_nil ha rfl hn hst hpl ht
theorem x_meth0 {pl : Sem Bool} (cm : CalM X.prog X.w X.K X.mg X.base cl k ad m ps F) (hq : cl c = some ⟨ad, ns, false⟩) (cc : Cls X.K ad) (tk : Takes X W) (hr : Room k X.A) (ho : PE X o (tf ⟨X.K, cl, fv⟩ W fo)) (hn : m ∉ ns := by exact of_decide_eq_true rfl)
    (ht : MethForm X o m apos pos [] pl := by rfl) (hl : ps.length = np := by rfl) : PE X (.Call (.Attribute o m apos) [] [] pos) (tf ⟨X.K, cl, fv⟩ W (fApp np F (lSelf c fo lNil) [])) := by
  subst hl
  obtain ⟨f, fd, hm, ok, hb⟩ := cm
  exact e_meth0 ho hq cc hm (ok.imp fun _ _ _ _ h => ⟨fv, h⟩) tk hr hb .nil dfl_nil rfl hn ht
theorem x_prop (cp : CalP X.prog X.w X.K X.mg X.base cl k ad m F) (hq : cl c = some ⟨ad, ns, false⟩) (cc : Cls X.K ad) (hr : Room (k + 1) X.A) (ho : PE X o (tf ⟨X.K, cl, fv⟩ W fo)) (hab : attributeBase o m X.env (eval o X.env) = eval o X.env := by rfl) :
    PE X (.Attribute o m pos) (tf ⟨X.K, cl, fv⟩ W (fProp c F fo)) := by
  obtain ⟨pa, f, fd, hp, ok, hb⟩ := cp
  exact e_prop ho hq cc hp (ok.imp fun _ _ _ _ h => ⟨fv, h⟩) hr hb rfl hab
theorem x_make {z : Bool} (ci : CalI X.prog X.w X.K X.mg X.base cl k x ad ps F) (hq : cl c = some ⟨ad, ns, false⟩) (tk : Takes X W) (hr : Room (k + 1) X.A) (ha : L2.PA X (e :: es) (tl ⟨X.K, cl, fv⟩ W fs)) (hg : Gl X x := by rfl) (hdb : (x == ("__debug__" : Str)) = false := by decide)
    (he : starEach (e :: es) X.env = (false, eval e X.env) :: starEach es X.env := by rfl) (hpl : (backTo pos (starEach es X.env)).any (·.1) = false := by rfl) (hl : ps.length = np := by rfl) (hnf : ns.length = nf := by rfl) : PE X (.Call (.Name x p) (e :: es) [] pos) (tf ⟨X.K, cl, fv⟩ W (fMake c nf np z F fs [])) := by
  subst hl hnf
  obtain ⟨f, fd, hm, M, ok, hb⟩ := ci
  exact e_make M hq (ok.imp fun _ _ _ _ h => ⟨fv, h⟩) tk hr hg hm hb .nil dfl_nil ha hdb he hpl
end
/-- the parameters that stay -/
def fxP (l : List Nat) : Nat → Bool := fun i => l.contains i
theorem fxL_le {fx : Nat → Bool} {l : List Nat} : ∀ i, fx i = true → fxL fx l i = true := fun i h => by simp [fxL, h]
end OL

/-! The O layer, 25: words for printed derivations. -/
namespace OL
open PySem PySem.Spec PyProof.Rows L2
/-- the built-ins that the text names stand -/
structure Tx (mg : Str → Option Value) : Prop where
  len : mg "len" = none
  sum : mg "sum" = none
  all : mg "all" = none
  any : mg "any" = none
  int : mg "int" = none
  list : mg "list" = none
  tuple : mg "tuple" = none
  dict : mg "dict" = none
  max : mg "max" = none
  min : mg "min" = none
  range : mg "range" = none
  sorted : mg "sorted" = none
  enumerate : mg "enumerate" = none
  isinstance : mg "isinstance" = none
  str : mg "str" = none
  bool : mg "bool" = none
section
variable {X : Cx} {C : Ct} {W : WX} {fx : Nat → Bool} {e : Expr} {fa : SE} {pos pos' : Pos} {t : TT}
theorem s_asgN (i : Nat) {x : Str} (hN : X.N.Nodup) (he : PE X e (tf C W fa)) (hi : X.N[i]? = some x := by rfl) (hx : Loc X.env.scope x := by first | exact Or.inl rfl | exact Or.inr rfl) (hfx : fx i = false := by rfl) (hs : swapsWith e (some (.Name x pos')) pos.line X.env = pure false := by rfl)
    (hf : X.fn x = true ∨ X.env.scope.names.lookup x = some .local := by first | exact .inl rfl | exact .inr rfl) : PS X (.Assign [.Name x pos'] e pos) (ts C fx W (sAsg fa (gtName i))) := s_set hN hi hx he hfx hs hf
theorem pt_of_pw (h : PW X e t) : PT X e t := h.pt
end
end OL

/-! The O layer, 26: enumerate(a tuple), and what is walked by it; texts sign by sign. -/
namespace OL
open PySem PySem.Spec PyProof.Rows L2

theorem new_enumT (tp : Addr) (its : Array Value) : Meets (Builtin.«enumerate.__new__» ⟨[.type "enumerate", .ref tp], []⟩) (fun _ R s => s.heap.IsTuple tp its ∧
      R (.ok (.ret (.ref (s.heap.push { cls := .type "tuple_iterator", data := .fields #[.ref tp, .int 0 0] }).objs.size)))
        { s with heap := (s.heap.push { cls := .type "tuple_iterator", data := .fields #[.ref tp, .int 0 0] }).push { cls := .type "enumerate", data := .fields #[.none, .bool false, .ref s.heap.objs.size, rawInt 0, .none, .none] } }) :=
  .of_wp fun prog w A R s h => by
    obtain ⟨hp, g, d, tk, os⟩ := s
    obtain ⟨h1, h⟩ := h
    have hS := sub_enumerate
    have go : ∀ {A' : Around} {E : Value → Shared → Prop} {Q : Value → Shared → Prop}, Q (.ref hp.objs.size) ⟨hp.push { cls := .type "tuple_iterator", data := .fields #[.ref tp, .int 0 0] }, g, d, tk, os⟩ → wpAny (model prog w) A' (pyIter (.ref tp)) Q E ⟨hp, g, d, tk, os⟩ :=
      fun q => (begins_tuple tp its).iter prog w _ _ ⟨hp, g, d, tk, os⟩ _ h1 q
    wp_walk using go
    refine wpAny_stack_any fun st => wpAny_pure ?_
    split
    · rename_i c _ _ _ _ _
      cases (c == Value.type "enumerate") <;> (wp_walk using go; exact ⟨_, rfl, h⟩)
    · wp_walk using go
      exact ⟨_, rfl, h⟩
theorem call_enumT {prog : Program} {w : World} {A : Around} {E : Value → Shared → Prop} {s : Shared} {tp : Addr} {its : Array Value} {Q : Value → Shared → Prop} (hT : s.heap.IsTuple tp its)
    (h : ∀ h', IsEnum h' (s.heap.objs.size + 1) s.heap.objs.size 0 .none → h'.IsTupleIter s.heap.objs.size tp 0 → (∀ b o, s.heap.get? b = some o → h'.get? b = some o) → Q (.ref (s.heap.objs.size + 1)) { s with heap := h' }) :
    wpAny (model prog w) A (call (.type "enumerate") [.ref tp]) Q E s := by
  refine callType_new PySem.F.called_enumerate (by decide) (PySem.F.typeCall_enumerate_1 _) (PySem.F.newCall_enumerate_1 _) (fun obj => PySem.F.args_object_init_2 obj _) PySem.F.entry_enumerate_new (new_enumT tp its) ⟨hT, ?_⟩
  have hz : (s.heap.push { cls := .type "tuple_iterator", data := .fields #[.ref tp, .int 0 0] }).objs.size = s.heap.objs.size + 1 := Heap.size_push ..
  show _ ∧ _
  rw [hz]
  have he := Heap.get?_push_size (s.heap.push { cls := .type "tuple_iterator", data := .fields #[.ref tp, .int 0 0] }) (o := { cls := .type "enumerate", data := .fields #[.none, .bool false, .ref s.heap.objs.size, rawInt 0, .none, .none] }) rfl
  rw [hz] at he
  exact ⟨⟨_, he, rfl⟩, h _ he ⟨_, Heap.get?_push_of_some _ (Heap.get?_push_size _ rfl), rfl, rfl⟩ fun b o y => Heap.get?_push_of_some _ (Heap.get?_push_of_some _ y)⟩
/-- the tuple at a, each item in a new pair with its number -/
def IteT (K : PySem.W.Frag) (a : Addr) : It :=
  ⟨fun i H => ∃ (ys : List V) (y : V), SqT K H a ys ∧ ys[i]? = some y, fun i H v H' => ∃ np y, v = .ref np ∧ H np = none ∧ H' = upd H np (.tup [.int (i : Nat), y]) ∧ ∀ ys, SqT K H a ys → ys[i]? = some y, fun i H => ∃ ys : List V, SqT K H a ys ∧ ys.length = i⟩
theorem turn_enumT {P : Program} {w : World} {K : PySem.W.Frag} {elts : List Expr} {kk : Nat} {tpos : Pos} (a en ti : Addr) :
    Turn P w K (.Tuple elts kk tpos) (IteT K a) [en, ti] en (fun i h => (∃ old, IsEnum h en ti ((i : Nat) : Int) old) ∧ h.IsTupleIter ti a i ∧ en ≠ ti) where
  mem := List.mem_cons_self
  obj := fun i h st b hb => by
    obtain ⟨⟨old, he⟩, ⟨ob, ho, hc, hd⟩, _⟩ := st
    rcases List.mem_cons.mp hb with z | z
    · rw [z]; exact ⟨_, he, fun v q => nomatch q⟩
    · rw [List.mem_singleton.mp z]; exact ⟨ob, ho, fun v q => by rw [hd] at q; cases q⟩
  keep := fun i h h' st k => by
    obtain ⟨⟨old, he⟩, hi, hne⟩ := st
    exact ⟨⟨old, k en List.mem_cons_self _ he⟩, hi.at fun o q => k ti (List.mem_cons_of_mem _ List.mem_cons_self) o q, hne⟩
  item := by
    intro X hP hw hK hc i pins s σ H E I hf st hg
    subst hP hw hK
    obtain ⟨⟨old, he⟩, hit, hne⟩ := st
    obtain ⟨ys, y, hq, hy⟩ := hg
    obtain ⟨us, rv, p, hz⟩ := I.tuple hq
    obtain ⟨u, hu, ru⟩ := rv.get hy
    have enl : en < s.heap.objs.size := Heap.lt_size he
    have til : ti < s.heap.objs.size := by obtain ⟨_, q, _⟩ := hit; exact Heap.lt_size q
    have ati : a ≠ ti := fun z => by
      obtain ⟨o1, q1, c1, _⟩ := hit
      obtain ⟨o2, q2, c2, _⟩ := p
      rw [z, q1] at q2
      cases q2
      rw [c1] at c2
      exact absurd (Value.type.inj c2) (by decide)
    have enA : en ≠ a := fun z => by
      obtain ⟨o2, q2, c2, _⟩ := p
      rw [← z, he] at q2
      cases q2
      exact absurd (Value.type.inj c2) (by decide)
    have il : i < us.toArray.size := by rw [List.size_toArray, ← rv.length]; exact (List.getElem?_eq_some_iff.mp hy).1
    refine wpAny_pyNext_enum_itemC (Draws.tuple (A := X.A.in1) (I.ok.hd hc) ti a ati us.toArray) he ⟨hit, p⟩ il hne (fun z => ?_) fun x h' tk hx ho hst hT hsz hk => ?_
    · rcases List.mem_cons.mp z with z | z
      · exact hne z
      · exact enA (List.mem_singleton.mp z)
    have ex : x = u := by
      have hx' : us.toArray[i]? = some x := hx
      rw [show us.toArray[i]? = us[i]? by simp, hu] at hx'
      exact (Option.some.inj hx').symm
    subst ex
    refine ⟨_, rfl, wpAny_letOwnedTupleGo_enum (s := { s with heap := h', toks := tk + 1 }) ho fun h2 he2 sb => ?_⟩
    have hT2 : h2.get? s.heap.objs.size = some { cls := .type "tuple", data := .seq #[.int i tk, x] } := (sb.2 _ (Nat.ne_of_gt enl)).trans hT
    have mk : ObjOk X.prog X.w (upd H s.heap.objs.size (.tup [.int (i : Nat), y])) h2 s.heap.objs.size (.tup [.int (i : Nat), y]) :=
      ⟨by show 2 ≤ sizeLine; decide, [.int i tk, x], .cons ⟨_, rfl⟩ (.cons ru .nil), ⟨_, hT2, rfl, _, rfl⟩⟩
    have I2 : Inv X pins σ (upd H s.heap.objs.size (.tup [.int (i : Nat), y])) { s with heap := h2, toks := tk + 1 } :=
      I.turnedNew (ch := [en, ti]) (fun b ob hb q => (sb.2 b (fun z => hb (by rw [z]; exact List.mem_cons_self))).trans (hk b ob (fun z => hb (by rw [z]; exact List.mem_cons_self)) (fun z => hb (by rw [z]; exact List.mem_cons_of_mem _ List.mem_cons_self)) q)) hf (Nat.le_refl _) mk
    refine ⟨.ref s.heap.objs.size, _, I2, rfl, ⟨_, y, rfl, I.hok.fresh (Nat.le_refl _), rfl, fun zs hs => by rw [I.tuple_inj hs hq]; exact hy⟩, ⟨⟨x, ?_⟩, hst.1.at fun o q => (sb.2 ti (Ne.symm hne)).trans q, hne⟩, fun b hb => ?_⟩
    · rw [show ((i + 1 : Nat) : Int) = (i : Int) + 1 by omega]; exact he2
    · have bl : b < s.heap.objs.size := by
        rcases List.mem_cons.mp hb with z | z
        · rw [z]; exact enl
        · rw [List.mem_singleton.mp z]; exact til
      rw [upd_ne (Nat.ne_of_lt bl)]
      exact (hf b hb).1
  done := by
    intro X hP hw hK hc i pins s σ H E I hf st hg
    subst hP hw hK
    obtain ⟨⟨old, he⟩, hit, hne⟩ := st
    obtain ⟨ys, hq, hy⟩ := hg
    obtain ⟨us, rv, p, hz⟩ := I.tuple hq
    obtain ⟨f0, f1, f2, f3, f4, f5⟩ := hf ti (List.mem_cons_of_mem _ List.mem_cons_self)
    have ati : a ≠ ti := fun z => by
      obtain ⟨o1, q1, c1, _⟩ := hit
      obtain ⟨o2, q2, c2, _⟩ := p
      rw [z, q1] at q2
      cases q2
      rw [c1] at c2
      exact absurd (Value.type.inj c2) (by decide)
    have el : us.toArray.size = i := by rw [List.size_toArray, ← rv.length]; exact hy
    exact wpAny_pyNext_enum_endD (Draws.tuple (A := X.A.in1) (I.ok.hd hc) ti a ati us.toArray) he ⟨by rw [el]; exact hit, p⟩ fun h' eb => ⟨rfl, I.turned (t' := s.toks) (fun b o hb q => eb b o hb q) f0 f1 f3 f4 f5⟩
  self := fun A i s Q E st h => let ⟨⟨_, he⟩, _⟩ := st; wpAny_pyIter_enum he h
def iEnumT (K : PySem.W.Frag) (ta : TA) : TI := fun σ H R => ta σ H fun vs H1 => ∃ a ys, vs = [.ref a] ∧ SqT K H1 a ys ∧ R (IteT K a) H1
theorem pi_enumT {X : Cx} {e : Expr} {ta : TA} {p pos tpos : Pos} {elts : List Expr} {kk : Nat} (hg : Gl X "enumerate") (hm : X.mg "enumerate" = none) (ha : L2.PA X [e] ta) (hs : starEach [e] X.env = [(false, eval e X.env)] := by rfl) :
    PI X (.Tuple elts kk tpos) (.Call (.Name "enumerate" p) [e] [] pos) (iEnumT X.K ta) := ⟨fun pins s σ H R I h => by
  refine Call_ (ld_blt I hg hm boot_enumerate (PyProof.Rows.callWith_type1 (thn (ha.run pos pins s σ H _ I h) fun us s1 ⟨vs, H1, I1, r1, a, ys, ev, hq, q⟩ => ?_) hs rfl))
  subst ev
  rw [Vals.ref1 r1]
  obtain ⟨its, rv, pt, hz⟩ := I1.tuple hq
  refine call_enumT pt fun h' he hit hk => wpAny_pyIter_enum he ?_
  refine ⟨s1.heap.objs.size + 1, [s1.heap.objs.size + 1, s1.heap.objs.size], _, _, H1, rfl, I1.kept (t' := s1.toks) hk, turn_enumT a (s1.heap.objs.size + 1) s1.heap.objs.size, ⟨⟨.none, he⟩, hit, Nat.succ_ne_self _⟩, fun b hb => ?_, q⟩
  have le : s1.heap.objs.size ≤ b := by
    rcases List.mem_cons.mp hb with z | z
    · rw [z]; exact Nat.le_add_right _ _
    · rw [List.mem_singleton.mp z]; exact Nat.le_refl _
  exact I1.fpOk le (I1.hok.fresh le)⟩
/-! ### numbered items -/
def numD : Nat → List D → List D
  | _, [] => []
  | i, d :: ds => .tup [.int (i : Nat), d] :: numD (i + 1) ds
theorem numD_len : ∀ {i : Nat} {ds : List D}, (numD i ds).length = ds.length
  | _, [] => rfl
  | i, d :: ds => by show (numD (i + 1) ds).length + 1 = ds.length + 1; rw [numD_len]
theorem numD_at : ∀ {i j : Nat} {ds : List D} {x : D}, (numD i ds)[j]? = some x → ∃ d, ds[j]? = some d ∧ x = .tup [.int ((i + j : Nat)), d]
  | i, j, [], x, h => by cases j <;> cases h
  | i, 0, d :: ds, x, h => by
    cases (show some (D.tup [.int (i : Nat), d]) = some x from h)
    exact ⟨d, rfl, rfl⟩
  | i, j + 1, d :: ds, x, h => by
    obtain ⟨d', h1, h2⟩ := numD_at (i := i + 1) (j := j) (ds := ds) (by simpa [numD] using h)
    exact ⟨d', by simpa using h1, by rw [h2, show i + 1 + j = i + (j + 1) by omega]⟩
section
variable {C : Ct} {H H' : Hp} {Z Z' : As}
/-- walked with numbers, item by item -/
theorem iter_num {s : Seq} {a : Addr} {J : It} (hs : s.ok = true) (hgo : ∀ i H vs x, SqAt C H a vs s → vs[i]? = some x → J.go i H) (hst : ∀ n H vs, SqAt C H a vs s → vs.length = n → J.stop n H)
    (hy : ∀ i H x H' vs, J.yld i H x H' → SqAt C H a vs s → ∃ np y, x = .ref np ∧ H np = none ∧ H' = upd H np (.tup [.int (i : Nat), y]) ∧ vs[i]? = some y) :
    IterD C J (numD 0 s.its) fun _ H Z P => Rep C H Z s.d (.ref a) P where
  keep := fun r k ok dj z => rep_keep r k ok dj z
  stop := fun r => by
    obtain ⟨b, vs, e, sq, l, _⟩ := seq_at hs r
    cases e
    exact hst _ _ vs sq (by rw [numD_len]; exact l)
  go := fun {i _ _ _} hi r => by
    obtain ⟨b, vs, e, sq, l, _⟩ := seq_at hs r
    cases e
    rw [numD_len] at hi
    exact hgo i _ vs (vs[i]'(by omega)) sq (by simp [l, hi])
  yld := fun {i H Z P x H' d} hd r ok y => by
    obtain ⟨b, vs, e, sq, l, it⟩ := seq_at hs r
    cases e
    obtain ⟨np, yv, ex, nn, rfl, ev⟩ := hy i H x H' vs y sq
    obtain ⟨d0, hd0, rfl⟩ := numD_at hd
    obtain ⟨x', ex', rx⟩ := it i d0 hd0
    rw [ev] at ex'; cases ex'
    refine ⟨emp, P, keep_new nn, ⟨np, [.int (i : Nat), yv], ex, .inl (.inl upd_same), ?_⟩, rep_keepE r (keep_new nn), fun _ z => z.elim, fun a z => z.elim (fun w => w.elim) .inl, ?_⟩
    · rw [Nat.zero_add]
      exact ⟨_, _, emp, emp, rfl, .inr ⟨_, rfl, rfl⟩, ⟨_, _, emp, emp, rfl, .inr ⟨_, rfl, rep_keepE rx (keep_new nn)⟩, rfl, ⟨fun _ z => z, fun _ z => z, fun _ z => z.elim⟩⟩, ⟨fun _ z => z, fun _ z => z, fun _ z => z.elim⟩⟩
    · intro b z
      have pb : P b := z.elim (fun w => w.elim) id
      obtain ⟨nz, o, e, w⟩ := ok b pb
      exact ⟨nz, o, keep_new nn b o e fun z => z, w⟩
end
def siEnum (fs : SA) : SI := fun env => (fs env).bind fun rs e t => match rs with
  | [.val (.tup ds)] => if stL ds then .ok (numD 0 ds, none) e t else .bad
  | _ => .bad
def siEnumL (fs : SA) : SI := fun env => (fs env).bind fun rs e t => match rs with
  | [.val (.lst ds)] => if stL ds then .ok (numD 0 ds, none) e t else .bad
  | [.val (.fls ds)] => .ok (numD 0 ds, none) e t
  | [.plc i []] => match e[i]? with
    | some (.lst ds) => if stL ds then .ok (numD 0 ds, some (i, .lst ds)) (e.set i .mvd) true else .bad
    | _ => .bad
  | _ => .bad
section
variable {C : Ct} {W : WX} {σ : L2.St} {H : Hp} {fs : SA} {R' : It → Hp → Prop}
theorem ti_enum (h : ti C W (siEnum fs) σ H R') : iEnumT C.K (tl C W fs) σ H R' := by
  obtain ⟨env, P, Z, rl, ok, h⟩ := h
  refine ⟨env, P, Z, rl, ok, ?_⟩
  unfold siEnum at h
  cases ea : fs env with
  | bad => rw [ea] at h; exact h
  | exc x ds e => rw [ea] at h; exact h
  | ok rs e t =>
    simp only [ea, O.bind] at h
    intro vs P1 Pv Z1 H1 p1
    match rs, h, p1 with
    | [.val (.tup ds)], h, p1 =>
      simp only at h
      cases s : stL ds with
      | false => simp [s] at h
      | true =>
        simp only [s, if_true] at h
        obtain ⟨v, ws, Q1, Q2, ev, rp, rn, sp⟩ := p1.res
        rw [show ws = [] from rn] at ev
        have rp : Rep C H1 Z1 (.tup ds) v Q1 := rp
        obtain ⟨a, us, e2, sq, _⟩ := id rp
        refine ⟨a, us, by rw [ev, e2], sq, ?_⟩
        subst e2
        exact h _ _ P1 Q1 Z1 H1 (iter_num (s := .t ds) s (fun i H vs x q e => ⟨vs, x, q, e⟩) (fun n H vs q e => ⟨vs, q, e⟩) fun i H x H' vs y q => by
          obtain ⟨np, yv, e1, e2, e3, e4⟩ := y
          exact ⟨np, yv, e1, e2, e3, e4 vs q⟩) rp p1.rl (fun a x y => p1.dj a x (sp.l a y)) (p1.ch.sub fun a x => x.imp id (sp.l a)) (fun ht => ⟨(p1.pu ht).1, by simp, (p1.pu ht).2⟩) fun i d z => by cases z
theorem ti_enumL (h : ti C W (siEnumL fs) σ H R') : iEnum C.K (tl C W fs) σ H R' := by
  obtain ⟨env, P, Z, rl, ok, h⟩ := h
  refine ⟨env, P, Z, rl, ok, ?_⟩
  unfold siEnumL at h
  have ite : ∀ {sq : Seq} {a : Addr} (hs : sq.ok = true) (h1 : ∀ H vs, SqAt C H a vs sq → SqL C.K H a vs), IterD C (Ite C.K a) (numD 0 sq.its) fun _ H Z P => Rep C H Z sq.d (.ref a) P := fun hs h1 =>
    iter_num hs (fun i H vs x q e => ⟨vs, x, h1 H vs q, e⟩) (fun n H vs q e => ⟨vs, h1 H vs q, Nat.le_of_eq e⟩) fun i H x H' vs y q => by
      obtain ⟨np, yv, e1, e2, e3, e4⟩ := y
      exact ⟨np, yv, e1, e2, e3, e4 vs (h1 H vs q)⟩
  cases ea : fs env with
  | bad => rw [ea] at h; exact h
  | exc x ds e => rw [ea] at h; exact h
  | ok rs e t =>
    simp only [ea, O.bind] at h
    intro vs P1 Pv Z1 H1 p1
    match rs, h, p1 with
    | [.val (.lst ds)], h, p1 =>
      simp only at h
      cases s : stL ds with
      | false => simp [s] at h
      | true =>
        simp only [s, if_true] at h
        obtain ⟨v, ws, Q1, Q2, ev, rp, rn, sp⟩ := p1.res
        rw [show ws = [] from rn] at ev
        have rp : Rep C H1 Z1 (.lst ds) v Q1 := rp
        obtain ⟨a, us, e2, pa, ha, _⟩ := id rp
        refine ⟨a, us, by rw [ev, e2], .inl (.inl ha), ?_⟩
        subst e2
        exact h _ _ P1 Q1 Z1 H1 (ite (sq := .l ds) s fun _ _ q => q) rp p1.rl (fun a x y => p1.dj a x (sp.l a y)) (p1.ch.sub fun a x => x.imp id (sp.l a)) (fun ht => ⟨(p1.pu ht).1, by simp, (p1.pu ht).2⟩) fun i d z => by cases z
    | [.val (.fls ds)], h, p1 =>
      simp only at h
      obtain ⟨v, ws, Q1, Q2, ev, rp, rn, sp⟩ := p1.res
      rw [show ws = [] from rn] at ev
      have rp : Rep C H1 Z1 (.fls ds) v Q1 := rp
      obtain ⟨a, us, e2, fr, _⟩ := id rp
      refine ⟨a, us, by rw [ev, e2], frl_sq fr, ?_⟩
      subst e2
      exact h _ _ P1 Q1 Z1 H1 (ite (sq := .fl ds) rfl fun _ _ q => q) rp p1.rl (fun a x y => p1.dj a x (sp.l a y)) (p1.ch.sub fun a x => x.imp id (sp.l a)) (fun ht => ⟨(p1.pu ht).1, by simp, (p1.pu ht).2⟩) fun i d z => by cases z
    | [.plc i []], h, p1 =>
      simp only at h
      obtain ⟨v, ws, Q1, Q2, ev, hv, rn, sp⟩ := p1.res
      rw [show ws = [] from rn] at ev
      have hv : σ[i]? = some (some v) := hv
      cases e1 : e[i]? with
      | none => simp only [e1] at h
      | some d =>
        cases d with
        | lst ds =>
          simp only [e1] at h
          cases s : stL ds with
          | false => simp [s] at h
          | true =>
            simp only [s, if_true] at h
            obtain ⟨v', P2, P3, ev', sp2, rd, rl2⟩ := repL_take p1.rl e1 (by simp)
            have e2 : v' = v := Option.some.inj (Option.some.inj (ev'.symm.trans hv))
            subst e2
            obtain ⟨a, us, e3, pa, ha, _⟩ := id rd
            refine ⟨a, us, by rw [ev, e3], .inl (.inl ha), ?_⟩
            subst e3
            refine h _ _ P3 P2 Z1 H1 (ite (sq := .l ds) s fun _ _ q => q) rd rl2 (fun a x y => sp2.d a y x) (p1.ch.sub fun a x => .inl (x.elim (sp2.r a) (sp2.l a))) (fun ht => by cases ht) fun j d z => ?_
            cases z
            exact ⟨_, hv, fun k H Z P r => r⟩
        | _ => simp only [e1] at h
end
/-! ### the signs of a text -/
def sgnD (z : Str) : List D := z.cps.toList.map fun c => .str ⟨#[c]⟩
def siStr (fo : SE) : SI := fun env => (fo env).bind fun r e t => match rdR e r with
  | some (.str z) => .ok (sgnD z, none) e t
  | _ => .bad
section
variable {C : Ct} {W : WX} {σ : L2.St} {H : Hp} {fo : SE} {R' : It → Hp → Prop}
theorem iter_str {z : Str} : IterD C (Its z) (sgnD z) fun _ _ _ _ => True where
  keep := fun _ _ _ _ _ => trivial
  stop := fun {H _ _} _ => by
    show z.cps.size ≤ (sgnD z).length
    simp [sgnD]
  go := fun {i _ _ _} hi _ => by
    show i < z.cps.size
    simpa [sgnD] using hi
  yld := fun {i H Z P x H' d} hd _ ok y => by
    obtain ⟨rfl, c, hc, rfl⟩ := y
    have e : d = .str ⟨#[c]⟩ := by
      unfold sgnD at hd
      rw [List.getElem?_map] at hd
      obtain ⟨c', h1, h2⟩ := Option.map_eq_some_iff.mp hd
      have h3 : z.cps.toList[i]? = some c := by simpa using hc
      rw [h1] at h3
      cases h3
      exact h2.symm
    subst e
    exact ⟨emp, emp, keep_refl, rfl, trivial, fun _ z => z.elim, fun a z => z.elim (fun w => w.elim) fun w => w.elim, ok.sub fun a z => z.elim (fun w => w.elim) fun w => w.elim⟩
theorem ti_str (h : ti C W (siStr fo) σ H R') : iStr (tf C W fo) σ H R' := by
  obtain ⟨env, P, Z, rl, ok, h⟩ := h
  refine ⟨env, P, Z, rl, ok, ?_⟩
  unfold siStr at h
  cases ea : fo env with
  | bad => rw [ea] at h; exact h
  | exc x ds e => rw [ea] at h; exact h
  | ok r e t =>
    simp only [ea, O.bind] at h
    intro v P1 Pv Z1 H1 p1
    cases er : rdR e r with
    | none => simp only [er] at h
    | some d =>
      cases d with
      | str z =>
        simp only [er] at h
        exact ⟨z, rd_sc_str (rd1_of p1.res p1.rl p1.ch.ok er), h _ _ P1 emp Z1 H1 iter_str trivial p1.rl (fun _ _ z => z.elim) (p1.ch.sub fun a x => x.elim .inl fun z => z.elim) (fun ht => ⟨(p1.pu ht).1, by simp, (p1.pu ht).2⟩) fun i d z => by cases z⟩
      | _ => simp only [er] at h
end
section
variable {X : Cx} {C : Ct} {W : WX} {e tgx : Expr} {fo : SE} {fs : SA} {p pos tpos : Pos} {elts : List Expr} {kk : Nat}
theorem i_enum (hK : X.K = C.K) (hm : X.mg "enumerate" = none) (ha : L2.PA X [e] (tl C W fs)) (hg : Gl X "enumerate" := by rfl) (hs : starEach [e] X.env = [(false, eval e X.env)] := by rfl) : PI X (.Tuple elts kk tpos) (.Call (.Name "enumerate" p) [e] [] pos) (ti C W (siEnum fs)) := pi_imp (pi_enumT hg hm ha hs) fun _ _ _ q => by rw [hK]; exact ti_enum q
theorem i_enumL (hK : X.K = C.K) (hm : X.mg "enumerate" = none) (ha : L2.PA X [e] (tl C W fs)) (hg : Gl X "enumerate" := by rfl) (hs : starEach [e] X.env = [(false, eval e X.env)] := by rfl) : PI X (.Tuple elts kk tpos) (.Call (.Name "enumerate" p) [e] [] pos) (ti C W (siEnumL fs)) := pi_imp (pi_enum hg hm ha hs) fun _ _ _ q => by rw [hK]; exact ti_enumL q
theorem i_str (he : PE X e (tf C W fo)) : PI X tgx e (ti C W (siStr fo)) := pi_imp (pi_str he) fun _ _ _ q => ti_str q
end
end OL

/-! The O layer, 27: isinstance, two names at once, displays of dicts. -/
namespace OL
open PySem PySem.Spec PyProof.Rows L2

def tyD : D → Option String
  | .non => some "NoneType"
  | .bl _ => some "bool"
  | .int _ => some "int"
  | .str _ => some "str"
  | .tup _ => some "tuple"
  | .lst _ => some "list"
  | .fls _ => some "list"
  | .dct _ _ => some "dict"
  | .fdc _ _ => some "dict"
  | _ => none
def tysD : List String := ["NoneType", "bool", "int", "str", "tuple", "list", "dict"]
def bIsi (t T : String) : Bool := t == T || (t == "bool" && T == "int")
theorem kit_all : ∀ T ∈ tysD, ∀ t ∈ tysD, kitB t T = some (bIsi t T) := by decide +kernel
theorem tyD_in {d : D} {t : String} (h : tyD d = some t) : t ∈ tysD := by
  cases d <;> first | (cases h; done) | (cases h; decide)
def gIsi (T : String) (d : D) : Option D := if tysD.contains T then (tyD d).map fun t => .bl (bIsi t T) else none
def gIsi2 (T U : String) (d : D) : Option D := if tysD.contains T && tysD.contains U then (tyD d).map fun t => .bl (bIsi t T || bIsi t U) else none
section
variable {C : Ct} {H : Hp} {Z : As}
theorem tyX_of {d : D} {v : V} {P : As} {t : String} (r : Rep C H Z d v P) (h : tyD d = some t) : TyX C.K H v (.type t) := by
  cases d with
  | non => cases h; rw [show v = .non from r]; exact .base .non
  | bl b => cases h; rw [show v = .bl b from r]; exact .base (.bl b)
  | int b => cases h; rw [show v = .int b from r]; exact .base (.int b)
  | str b => cases h; rw [show v = .str b from r]; exact .base (.str b)
  | tup ds =>
    cases h
    obtain ⟨a, vs, e, s, _⟩ := r
    subst e
    rcases s with (s | ⟨o, s⟩) | ⟨o, its, n, k, c, _⟩
    · exact .base (.tup s)
    · exact .fTuple s
    · exact .kTuple k c
  | lst ds => cases h; obtain ⟨a, vs, e, _, s, _⟩ := r; subst e; exact .base (.lst s)
  | fls ds =>
    cases h
    obtain ⟨a, vs, e, s, _⟩ := r
    subst e
    rcases s with ⟨s, _⟩ | ⟨o, s⟩ | ⟨o, its, n, k, c, _⟩
    · exact .base (.lst s)
    · exact .base (.frz s)
    · exact .kList k c
  | dct ks ds => cases h; obtain ⟨a, vs, e, _, _, s, _⟩ := r; subst e; exact .base (.dK s)
  | fdc ks ds => cases h; obtain ⟨a, vs, e, _, _, s, _⟩ := r; subst e; exact .base (.dK s)
  | _ => cases h
theorem o1_isi {T : String} : Op1 C (fun x H Q => rIsi C.K [x, .ty T] H Q) (gIsi T) := fun H Z da x d Q hz ra hg k => by
  unfold gIsi at hg
  cases hT : tysD.contains T with
  | false => rw [hT] at hg; cases hg
  | true =>
    rw [hT] at hg
    obtain ⟨t, e1, e2⟩ := Option.map_eq_some_iff.mp (show (tyD da).map (fun t => D.bl (bIsi t T)) = some d from hg)
    subst e2
    obtain ⟨P, _, r⟩ := ra
    exact ⟨x, .ty T, .type t, .type T, bIsi t T, rfl, .ty T, tyX_of r e1, kit_ty (kit_all T (by simpa using hT) t (tyD_in e1)), k _ emp H (.sc rfl)⟩
theorem o1_isi2 {T U : String} : Op1 C (fun x H Q => 2 ≤ sizeLine ∧ ∀ p, H p = none → rIsiT C.K [x, .ref p] (upd H p (.tup [.ty T, .ty U])) Q) (gIsi2 T U) := fun H Z da x d Q hz ra hg k => by
  unfold gIsi2 at hg
  cases hT : (tysD.contains T && tysD.contains U) with
  | false => rw [hT] at hg; cases hg
  | true =>
    rw [hT] at hg
    rw [Bool.and_eq_true] at hT
    obtain ⟨t, e1, e2⟩ := Option.map_eq_some_iff.mp (show (tyD da).map (fun t => D.bl (bIsi t T || bIsi t U)) = some d from hg)
    subst e2
    obtain ⟨P, _, r⟩ := ra
    refine ⟨by decide, fun p n => ?_⟩
    have r2 := rep_keepE r (keep_new (o := .tup [.ty T, .ty U]) n)
    have k1 : PySem.W.kitOne C.K (.type t) (.type T) = some (bIsi t T) := kit_ty (kit_all T (by simpa using hT.1) t (tyD_in e1))
    have k2 : PySem.W.kitOne C.K (.type t) (.type U) = some (bIsi t U) := kit_ty (kit_all U (by simpa using hT.2) t (tyD_in e1))
    refine ⟨x, p, [.ty T, .ty U], .type t, [.type T, .type U], _, rfl, upd_same, .cons (.ty T) (.cons (.ty U) .nil), tyX_of r2 e1, ?_, k (.bl (bIsi t T || bIsi t U)) emp _ ⟨keep_new n, fun _ z => z.elim, OkP.emp, rfl⟩⟩
    refine kitAny_cons (r := bIsi t T || bIsi t U) k1 (fun h => ?_) fun h => by rw [h]; rfl
    rw [h]
    refine kitAny_cons (r := false || bIsi t U) k2 (fun h => ?_) fun h => by rw [h]; rfl
    rw [h]
    exact kitAny_nil
end
section
variable {X : Cx} {C : Ct} {W : WX} {e : Expr} {fa : SE} {p p2 p3 pos pt : Pos} {x y : Str} {T U : String}
theorem b_isi (hK : X.K = C.K) (hm : X.mg "isinstance" = none) (hmT : X.mg x = none) (hbT : bootBuiltins x = some (.type T)) (ha : PE X e (tf C W fa)) (hg : Gl X "isinstance" := by rfl) (hgT : Gl X x := by rfl) (hnT : x ≠ "__name__" := by decide) (hdT : (x == ("__debug__" : Str)) = false := by decide)
    (hs : starEach [e, .Name x p2] X.env = (false, eval e X.env) :: starEach [.Name x p2] X.env := by rfl) (hs2 : starEach [.Name x p2] X.env = (false, eval (.Name x p2) X.env) :: starEach [] X.env := by rfl) (hpl : (backTo pos (starEach [.Name x p2] X.env)).any (·.1) = false := by rfl) :
    PE X (.Call (.Name "isinstance" p) [e, .Name x p2] [] pos) (tf C W (fOne fa (gIsi T))) :=
  pe_imp (pe_callB call_isi hg hm PyProof.Rows.boot_isinstance (pa_cons ha (pa_cons (pe_bltn (v := .ty T) hgT hmT hbT rfl hnT hdT) pa_nil hs2) hs) (by decide) (by decide) hs hpl) fun _ _ _ h => by
    have q := tf_one (r := fun x H Q => rIsi X.K [x, .ty T] H Q) (by rw [hK]; exact o1_isi) h
    exact q
theorem b_isi2 {kk : Nat} (hK : X.K = C.K) (hm : X.mg "isinstance" = none) (hmT : X.mg x = none) (hbT : bootBuiltins x = some (.type T)) (hmU : X.mg y = none) (hbU : bootBuiltins y = some (.type U)) (ha : PE X e (tf C W fa)) (hg : Gl X "isinstance" := by rfl) (hgT : Gl X x := by rfl) (hnT : x ≠ "__name__" := by decide) (hdT : (x == ("__debug__" : Str)) = false := by decide)
    (hgU : Gl X y := by rfl) (hnU : y ≠ "__name__" := by decide) (hdU : (y == ("__debug__" : Str)) = false := by decide)
    (hs : starEach [e, .Tuple [.Name x p2, .Name y p3] kk pt] X.env = (false, eval e X.env) :: starEach [.Tuple [.Name x p2, .Name y p3] kk pt] X.env := by rfl) (hs2 : starEach [.Tuple [.Name x p2, .Name y p3] kk pt] X.env = (false, eval (.Tuple [.Name x p2, .Name y p3] kk pt) X.env) :: starEach [] X.env := by rfl)
    (hs3 : starEach [.Name x p2, .Name y p3] X.env = (false, eval (.Name x p2) X.env) :: starEach [.Name y p3] X.env := by rfl) (hs4 : starEach [.Name y p3] X.env = (false, eval (.Name y p3) X.env) :: starEach [] X.env := by rfl) (hpl : (backTo pos (starEach [.Tuple [.Name x p2, .Name y p3] kk pt] X.env)).any (·.1) = false := by rfl) :
    PE X (.Call (.Name "isinstance" p) [e, .Tuple [.Name x p2, .Name y p3] kk pt] [] pos) (tf C W (fOne fa (gIsi2 T U))) :=
  pe_imp (pe_callB call_isiT hg hm PyProof.Rows.boot_isinstance (pa_cons ha (pa_cons (pe_tup (pa_cons (pe_bltn (v := .ty T) hgT hmT hbT rfl hnT hdT) (pa_cons (pe_bltn (v := .ty U) hgU hmU hbU rfl hnU hdU) pa_nil hs4) hs3)) pa_nil hs2) hs) (by decide) (by decide) hs hpl) fun _ _ _ h => by
    have q := tf_one (r := fun x H Q => 2 ≤ sizeLine ∧ ∀ p, H p = none → rIsiT X.K [x, .ref p] (upd H p (.tup [.ty T, .ty U])) Q) (by rw [hK]; exact o1_isi2) h
    exact q
end
end OL

/-! The O layer, 28: sorted. -/
namespace OL
open PySem PySem.Spec PyProof.Rows L2

/-! ### sorted lists are told by their items -/
section
variable {α : Type} {lt : α → α → Bool}
theorem srt_one (tot : ∀ a b, lt a b = false → lt b a = false → a = b) : ∀ {l m : List α}, l.Perm m → l.Pairwise (fun x y => lt y x = false) → m.Pairwise (fun x y => lt y x = false) → l = m
  | [], m, p, _, _ => by rw [List.nil_perm.mp p]
  | a :: l, [], p, _, _ => absurd p.length_eq (by simp)
  | a :: l, b :: m, p, h1, h2 => by
    obtain ⟨a1, a2⟩ := List.pairwise_cons.mp h1
    obtain ⟨b1, b2⟩ := List.pairwise_cons.mp h2
    have e : a = b := by
      have ha : a ∈ b :: m := p.mem_iff.mp List.mem_cons_self
      have hb : b ∈ a :: l := p.mem_iff.mpr List.mem_cons_self
      rcases List.mem_cons.mp ha with e | ha
      · exact e
      · rcases List.mem_cons.mp hb with e | hb
        · exact e.symm
        · exact tot a b (b1 a ha) (a1 b hb)
    subst e
    rw [srt_one tot (List.Perm.cons_inv p) a2 b2]
def insl (lt : α → α → Bool) (x : α) : List α → List α
  | [] => [x]
  | y :: ys => if lt y x then y :: insl lt x ys else x :: y :: ys
def srt (lt : α → α → Bool) : List α → List α
  | [] => []
  | x :: xs => insl lt x (srt lt xs)
theorem insl_perm (x : α) : ∀ l : List α, (insl lt x l).Perm (x :: l)
  | [] => List.Perm.refl _
  | y :: ys => by
    show (if lt y x then y :: insl lt x ys else x :: y :: ys).Perm _
    cases lt y x with
    | true => exact ((insl_perm x ys).cons y).trans (List.Perm.swap x y ys)
    | false => exact List.Perm.refl _
theorem srt_perm : ∀ l : List α, (srt lt l).Perm l
  | [] => List.Perm.refl _
  | x :: xs => (insl_perm x _).trans ((srt_perm xs).cons x)
theorem insl_srt (tr : ∀ a b c, lt b a = false → lt c b = false → lt c a = false) (as : ∀ a b, lt a b = true → lt b a = false) (x : α) : ∀ {l : List α}, l.Pairwise (fun x y => lt y x = false) → (insl lt x l).Pairwise (fun x y => lt y x = false)
  | [], _ => List.pairwise_singleton _ _
  | y :: ys, h => by
    obtain ⟨h1, h2⟩ := List.pairwise_cons.mp h
    show List.Pairwise _ (if lt y x then y :: insl lt x ys else x :: y :: ys)
    cases e : lt y x with
    | true =>
      refine List.pairwise_cons.mpr ⟨fun z hz => ?_, insl_srt tr as x h2⟩
      rcases List.mem_cons.mp ((insl_perm x ys).mem_iff.mp hz) with q | q
      · subst q; exact as _ _ e
      · exact h1 z q
    | false =>
      refine List.pairwise_cons.mpr ⟨fun z hz => ?_, h⟩
      rcases List.mem_cons.mp hz with q | q
      · subst q; exact e
      · exact tr _ _ _ e (h1 z q)
theorem srt_srt (tr : ∀ a b c, lt b a = false → lt c b = false → lt c a = false) (as : ∀ a b, lt a b = true → lt b a = false) : ∀ l : List α, (srt lt l).Pairwise (fun x y => lt y x = false)
  | [] => List.Pairwise.nil
  | x :: xs => insl_srt tr as x (srt_srt tr as xs)
theorem srt_eq (tot : ∀ a b, lt a b = false → lt b a = false → a = b) (tr : ∀ a b c, lt b a = false → lt c b = false → lt c a = false) (as : ∀ a b, lt a b = true → lt b a = false) {l m : List α} (p : m.Perm l) (h : m.Pairwise fun x y => lt y x = false) : m = srt lt l :=
  srt_one tot (p.trans (srt_perm l).symm) h (srt_srt tr as l)
end
abbrev Ky := Int ⊕ List Nat
def kyV : Ky → V
  | .inl i => .int i
  | .inr x => .str ⟨x.toArray⟩
def kyD : Ky → D
  | .inl i => .int i
  | .inr x => .str ⟨x.toArray⟩
abbrev ordT := listOrd itemOrd
theorem ord_tr (O : KeyOrd) (a b c : O.α) (h1 : O.blt b a = false) (h2 : O.blt c b = false) : O.blt c a = false := by
  cases e : O.blt c a with
  | false => rfl
  | true =>
    rcases O.negTrans c b a e with h | h
    · rw [h2] at h; cases h
    · rw [h1] at h; cases h
theorem ord_as (O : KeyOrd) (a b : O.α) (h : O.blt a b = true) : O.blt b a = false := by
  cases e : O.blt b a with
  | false => rfl
  | true =>
    have := O.trans a b a h e
    rw [O.irrefl] at this
    cases this
/-- a tuple of ints and texts, as its key says -/
def TupK (K : PySem.W.Frag) (H : Hp) (sh : Nat → Bool) (v : V) (k : List Ky) : Prop := ∃ t, v = .ref t ∧ SqT K H t (k.map kyV) ∧ k ≠ [] ∧ ∀ i x, k[i]? = some x → x.isRight = sh i
def rSortedTup (K : PySem.W.Frag) (sh : Nat → Bool) : List V → Hp → VK → Prop := fun xs H Q => ∃ a vs ks, xs = [V.ref a] ∧ SqL K H a vs ∧ Paired (TupK K H sh) vs ks ∧
  ∀ ys ls p, Paired (TupK K H sh) ys ls → ls.Perm ks → ls.Pairwise (fun x y => ordT.blt y x = false) → H p = none → Q (.ref p) (upd H p (.lst ys))
/-- as it stands in the model's heap -/
def TupH (h : Heap) (sh : Nat → Bool) (v : Value) (k : List Ky) : Prop := ∃ t o its n, v = .ref t ∧ h.get? t = some o ∧ o.cls = .type "tuple" ∧ o.data = .seq its n ∧ tupItems sh 0 its.toList = some k ∧ k ≠ []
theorem tup_items {sh : Nat → Bool} : ∀ {k : List Ky} {us : List Value} {i : Nat}, Vals (k.map kyV) us → (∀ j x, k[j]? = some x → x.isRight = sh (i + j)) → tupItems sh i us = some k
  | [], us, i, r, _ => by cases r; rfl
  | x :: k, us, i, r, hs => by
    cases r with
    | cons r1 r2 =>
      have ih := tup_items (i := i + 1) r2 fun j y hj => by
        have := hs (j + 1) y (by simpa using hj)
        rw [show i + 1 + j = i + (j + 1) by omega]
        exact this
      have h0 : x.isRight = sh i := hs 0 x rfl
      cases x with
      | inl z =>
        obtain ⟨t, e⟩ := (show ∃ t, _ = Value.int z t from r1)
        subst e
        have h0 : sh i = false := h0.symm
        simp only [tupItems, h0, Bool.false_eq_true, if_false, ih, Option.map_some]
      | inr z =>
        obtain ⟨t, e⟩ := (show ∃ t, _ = Value.str ⟨z.toArray⟩ t from r1)
        subst e
        have h0 : sh i = true := h0.symm
        simp only [tupItems, h0, if_true, ih, Option.map_some]
theorem TupH.key {h : Heap} {sh : Nat → Bool} {v : Value} {k : List Ky} (x : TupH h sh v k) : tupKey h sh v = some k := by
  obtain ⟨t, o, its, n, rfl, h1, h2, h3, h4, _⟩ := x
  simp only [tupKey, h1, h3, h4]
theorem TupH.keeps {h h' : Heap} {sh : Nat → Bool} {v : Value} {k : List Ky} (x : TupH h sh v k) (kp : ∀ b o, h.get? b = some o → o.cls = .type "tuple" → h'.get? b = some o) : TupH h' sh v k := by
  obtain ⟨t, o, its, n, e, h1, h2, h3, h4, h5⟩ := x
  exact ⟨t, o, its, n, e, kp t o h1 h2, h2, h3, h4, h5⟩
theorem tups_of {h : Heap} {sh : Nat → Bool} : ∀ {vs : List Value}, (∀ v ∈ vs, ∃ k, TupH h sh v k) → ∃ fs, TupsOf h sh vs fs ∧ fs.length = vs.length
  | [], _ => ⟨[], .nil, rfl⟩
  | v :: vs, hv => by
    obtain ⟨fs, h1, h2⟩ := tups_of fun u hu => hv u (List.mem_cons_of_mem _ hu)
    obtain ⟨k, t, o, its, n, e, a1, a2, a3, a4, a5⟩ := hv v List.mem_cons_self
    have : ∃ f, its[0]? = some f ∧ (sh 0 = false → ∃ k t, f = Value.int k t) ∧ (sh 0 = true → ∃ x t, f = Value.str x t) := by
      cases el : its.toList with
      | nil => rw [el] at a4; exact absurd (Option.some.inj a4).symm a5
      | cons f r =>
        rw [el] at a4
        refine ⟨f, by rw [← Array.getElem?_toList, el]; rfl, fun hs => ?_, fun hs => ?_⟩
        · obtain ⟨n, t, _, e, _⟩ := tupItems_int hs a4; exact ⟨n, t, e⟩
        · obtain ⟨n, t, _, e, _⟩ := tupItems_str hs a4; exact ⟨n, t, e⟩
    obtain ⟨f, b1, b2, b3⟩ := this
    exact ⟨f :: fs, .cons ⟨t, o, its, n, e, a1, a2, a3, b1, b2, b3⟩ h1, by rw [List.length_cons, List.length_cons, h2]⟩
section
variable {X : Cx} {sh : Nat → Bool}
def ltK (h : Heap) (sh : Nat → Bool) (v u : Value) : Bool := ordT.blt ((tupKey h sh v).getD []) ((tupKey h sh u).getD [])
theorem swo_K {h : Heap} : SrtO.Swo (ltK h sh) := ⟨fun x y => ord_as ordT _ _, fun x y z h1 h2 => ord_tr ordT _ _ _ h1 h2⟩
theorem tup_sortable {prog : Program} {w : World} {A : Around} {s : Shared} {h0 : Heap} {a : Addr} {vs : List Value} (hv : ∀ v ∈ vs, ∃ k, TupH h0 sh v k) (hs : ∀ v k, TupH h0 sh v k → TupH s.heap sh v k) (ha : ∀ o, s.heap.get? a = some o → o.cls ≠ .type "tuple") (hl : 0 < vs.length) : SrtO.SortableO prog w A s a vs (ltK h0 sh) := by
  intro h' kp
  have hv' : ∀ v k, TupH h0 sh v k → TupH h' sh v k := fun v k x => (hs v k x).keeps fun b o e c => kp b o (fun z => by subst z; exact ha o e c) e
  obtain ⟨fs, f1, f2⟩ := tups_of (h := h') fun v m => let ⟨k, x⟩ := hv v m; ⟨k, hv' v k x⟩
  refine ⟨tuples' true, fun Q E q => tup_kind (s := { s with heap := h' }) (by rw [f2]; exact hl) f1 q, fun p q hp hq => ?_⟩
  obtain ⟨k1, x1⟩ := hv _ hp
  obtain ⟨k2, x2⟩ := hv _ hq
  refine tup_ltAt (s := { s with heap := h' }) (shape := sh) true A _ p.1 q.1 k1 k2 (hv' _ _ x1).key (hv' _ _ x2).key ⟨rfl, ?_⟩
  show ordT.blt k1 k2 = ordT.blt _ _
  rw [x1.key, x2.key]
  rfl
theorem cr_sortedTup : CallR X (.builtin "sorted") (rSortedTup X.K sh) := by
  intro pins s σ H xs us Q I r h
  obtain ⟨a, vs, ks, rfl, hq, hp, q⟩ := h
  obtain ⟨its, rv, hl, hz⟩ := I.list hq
  rw [Vals.ref1 r]
  have refs : ∀ v ∈ vs, ∃ t, v = V.ref t := fun v hv => by
    have : ∀ {vs ks}, Paired (TupK X.K H sh) vs ks → ∀ v ∈ vs, ∃ t, v = V.ref t := by
      intro vs ks hp
      induction hp with
      | nil => intro v hv; cases hv
      | cons h _ ih => intro v hv; rcases List.mem_cons.mp hv with e | hv
                       · obtain ⟨t, e2, _⟩ := h; exact ⟨t, by rw [e, e2]⟩
                       · exact ih v hv
    exact this hp v hv
  obtain ⟨ev, er⟩ := refs_back rv refs
  -- each value's key
  have kys : ∀ {vs ks us}, Paired (TupK X.K H sh) vs ks → Vals vs us → us.map (fun u => (tupKey s.heap sh u).getD []) = ks ∧ ∀ u ∈ us, ∃ k, TupH s.heap sh u k ∧ TupK X.K H sh (backV u) k := by
    intro vs ks us hp
    induction hp generalizing us with
    | nil => intro r; cases r; exact ⟨rfl, fun u hu => by cases hu⟩
    | cons h _ ih =>
      intro r
      cases r with
      | cons r1 r2 =>
        obtain ⟨i1, i2⟩ := ih r2
        obtain ⟨t, e, sq, ne, hs⟩ := id h
        subst e
        cases r1
        obtain ⟨us', rv', ⟨o, h1, h2, n, h3⟩, _⟩ := I.tuple sq
        have x : TupH s.heap sh (.ref t) _ := ⟨t, o, us'.toArray, n, rfl, h1, h2, h3, tup_items (k := _) (by simpa using rv') (fun j x hj => by rw [Nat.zero_add]; exact hs j x hj), ne⟩
        refine ⟨by rw [List.map_cons, i1, x.key]; rfl, fun u hu => ?_⟩
        rcases List.mem_cons.mp hu with e | hu
        · subst e; exact ⟨_, x, h⟩
        · exact i2 u hu
  obtain ⟨ek, hk⟩ := kys hp rv
  refine SrtO.sorted_ord (ltv := ltK s.heap sh) swo_K hl.isList (by rw [← rv.length]; exact hz) (fun h2 h₁ b hb kk => tup_sortable (h0 := s.heap) (fun v hv => let ⟨k, x, _⟩ := hk v hv; ⟨k, x⟩) (fun v k x => x.keeps fun c o e _ => (kk c o e).2) (fun o e => ?_) (by omega)) fun out h1 h2 => ?_
  · have e' : some o = some (seqObj "list" its.toArray 0) := e.symm.trans hb
    cases e'
    intro c
    exact absurd (Value.type.inj c) (by decide)
  · obtain ⟨ep, he'⟩ := PyProof.Rows.sortedAll_at s.heap its out.toArray
    have ho : ∀ u ∈ out, u ∈ its := fun u hu => h2.perm.mem_iff.mp hu
    have hlen : (out.map backV).length ≤ sizeLine := by rw [List.length_map, h2.perm.length_eq, ← rv.length]; exact hz
    have pr : ∀ {out : List Value}, (∀ u ∈ out, u ∈ its) → Paired (TupK X.K H sh) (out.map backV) (out.map fun u => (tupKey s.heap sh u).getD []) := by
      intro out
      induction out with
      | nil => intro _; exact .nil
      | cons u out ih =>
        intro ho
        obtain ⟨k, x, y⟩ := hk u (ho u List.mem_cons_self)
        refine .cons ?_ (ih fun z hz => ho z (List.mem_cons_of_mem _ hz))
        show TupK X.K H sh (backV u) ((tupKey s.heap sh u).getD [])
        rw [x.key]
        exact y
    refine ⟨.ref _, upd H (s.heap.objs.size + 1) (.lst (out.map backV)), I.laid (t' := s.toks) (fun _ _ => PyProof.Rows.sortedAll_old) (Nat.le_succ _) ⟨hlen, out, ep, vals_back fun u hu => er u (ho u hu), he'⟩, rfl, q _ _ _ (pr ho) ?_ ?_ (I.hok.fresh (Nat.le_succ _))⟩
    · rw [← ek]; exact h2.perm.map _
    · exact List.pairwise_map.mpr (h1.imp fun h => h)
end
/-! ### on data -/
def keyT : List D → Option (List Ky)
  | [] => some []
  | .int i :: r => (keyT r).map (.inl i :: ·)
  | .str x :: r => (keyT r).map (.inr x.cps.toList :: ·)
  | _ => none
def keysT : List D → Option (List (List Ky))
  | [] => some []
  | .tup ds :: r => (keyT ds).bind fun k => (keysT r).map (k :: ·)
  | _ => none
/-- at each place ints everywhere, or texts everywhere -/
def shOf (ks : List (List Ky)) (i : Nat) : Bool := ks.any fun k => (k[i]?).any (·.isRight)
def shOk (ks : List (List Ky)) : Bool := ks.all fun k => !k.isEmpty && (List.range k.length).all fun i => (k[i]?).all fun x => x.isRight == shOf ks i
def ltS (x y : Str) : Bool := decide (x.cps.toList < y.cps.toList)
def gSorted (d : D) : Option D := (lsD d).bind fun ds =>
  ((intsD ds).map fun is => .lst ((srt (fun a b => decide (a < b)) is).map .int)).or
  (((strsD ds).bind fun ss => if decide (ss.length < 64) then some (.lst ((srt ltS ss).map .str)) else none).or
  ((keysT ds).bind fun ks => if shOk ks then some (.lst ((srt ordT.blt ks).map fun k => .tup (k.map kyD))) else none))
def rSortedA (K : PySem.W.Frag) : List V → Hp → VK → Prop := fun xs H Q => rSortedI K xs H Q ∨ rSortedS K xs H Q ∨ ∃ sh, rSortedTup K sh xs H Q
section
variable {C : Ct} {H : Hp} {Z : As}
theorem rep_ints : ∀ is : List Int, RepL C H Z (is.map D.int) ((is.map V.int).map some) emp
  | [] => rfl
  | i :: is => ⟨_, _, emp, emp, rfl, .inr ⟨_, rfl, rfl⟩, rep_ints is, ⟨fun _ z => z, fun _ z => z, fun _ z => z.elim⟩⟩
theorem rep_strs : ∀ is : List Str, RepL C H Z (is.map D.str) ((is.map V.str).map some) emp
  | [] => rfl
  | i :: is => ⟨_, _, emp, emp, rfl, .inr ⟨_, rfl, rfl⟩, rep_strs is, ⟨fun _ z => z, fun _ z => z, fun _ z => z.elim⟩⟩
theorem rep_kys : ∀ is : List Ky, RepL C H Z (is.map kyD) ((is.map kyV).map some) emp
  | [] => rfl
  | i :: is => ⟨_, _, emp, emp, rfl, .inr ⟨_, rfl, by cases i <;> rfl⟩, rep_kys is, ⟨fun _ z => z, fun _ z => z, fun _ z => z.elim⟩⟩
theorem st_ints : ∀ is : List Int, stL (is.map D.int) = true
  | [] => rfl
  | _ :: is => st_ints is
theorem st_strs : ∀ is : List Str, stL (is.map D.str) = true
  | [] => rfl
  | _ :: is => st_strs is
theorem st_kys : ∀ is : List Ky, stL (is.map kyD) = true
  | [] => rfl
  | i :: is => by cases i <;> exact st_kys is
theorem st_tups : ∀ ks : List (List Ky), stL (ks.map fun k => D.tup (k.map kyD)) = true
  | [] => rfl
  | k :: ks => by
    show ((D.tup (k.map kyD)).st && stL (ks.map fun k => D.tup (k.map kyD))) = true
    rw [st_tups ks, show (D.tup (k.map kyD)).st = stL (k.map kyD) from rfl, st_kys]
    rfl
theorem keyT_of : ∀ {ds : List D} {vs : List V} {P : As} {k : List Ky}, RepL C H Z ds (vs.map some) P → keyT ds = some k → vs = k.map kyV
  | [], vs, P, k, r, h => by
    cases (show some [] = some k from h)
    simpa using (show vs.map some = [] from r)
  | d :: ds, vs, P, k, ⟨o, os', P1, P2, e, hd, r, s⟩, h => by
    cases vs with
    | nil => simp at e
    | cons v vs =>
      rw [List.map_cons] at e
      injection e with e4 e5
      subst e4 e5
      cases d <;> simp only [keyT] at h <;> first | cases h | skip
      · obtain ⟨js, e1, e2⟩ := Option.map_eq_some_iff.mp h
        subst e2
        rcases hd with hd | ⟨w, e6, hd⟩
        · cases hd
        · cases e6
          rw [List.map_cons, keyT_of r e1, show v = .int _ from hd]
          rfl
      · obtain ⟨js, e1, e2⟩ := Option.map_eq_some_iff.mp h
        subst e2
        rcases hd with hd | ⟨w, e6, hd⟩
        · cases hd
        · cases e6
          rw [List.map_cons, keyT_of r e1, show v = .str _ from hd]
          rfl
theorem keysT_of {sh : Nat → Bool} : ∀ {ds : List D} {vs : List V} {P : As} {ks : List (List Ky)}, RepL C H Z ds (vs.map some) P → keysT ds = some ks → (∀ k ∈ ks, k ≠ [] ∧ ∀ i x, k[i]? = some x → x.isRight = sh i) → Paired (TupK C.K H sh) vs ks
  | [], vs, P, ks, r, h, _ => by
    cases (show some [] = some ks from h)
    have : vs = [] := by simpa using (show vs.map some = [] from r)
    subst this
    exact .nil
  | d :: ds, vs, P, ks, ⟨o, os', P1, P2, e, hd, r, s⟩, h, hs => by
    cases vs with
    | nil => simp at e
    | cons v vs =>
      rw [List.map_cons] at e
      injection e with e4 e5
      subst e4 e5
      cases d <;> simp only [keysT] at h <;> first | cases h | skip
      obtain ⟨k, e1, h2⟩ := Option.bind_eq_some_iff.mp h
      obtain ⟨js, e2, e3⟩ := Option.map_eq_some_iff.mp h2
      subst e3
      rcases hd with hd | ⟨w, e6, t, us, ev, sq, rt⟩
      · cases hd
      · cases e6
        rw [keyT_of rt e1] at sq
        exact .cons ⟨t, ev, sq, hs k List.mem_cons_self⟩ (keysT_of r e2 fun k hk => hs k (List.mem_cons_of_mem _ hk))
theorem rep_tups {sh : Nat → Bool} : ∀ {ys : List V} {ls : List (List Ky)}, Paired (TupK C.K H sh) ys ls → RepL C H Z (ls.map fun k => D.tup (k.map kyD)) (ys.map some) emp
  | _, _, .nil => rfl
  | _, _, .cons ⟨t, e, sq, _⟩ r => ⟨_, _, emp, emp, rfl, .inr ⟨_, rfl, t, _, e, sq, rep_kys _⟩, rep_tups r, ⟨fun _ z => z, fun _ z => z, fun _ z => z.elim⟩⟩
theorem shOk_at {ks : List (List Ky)} (h : shOk ks = true) : ∀ k ∈ ks, k ≠ [] ∧ ∀ i x, k[i]? = some x → x.isRight = shOf ks i := fun k hk => by
  have := List.all_eq_true.mp h k hk
  rw [Bool.and_eq_true] at this
  refine ⟨fun e => by rw [e] at this; exact absurd this.1 (by simp), fun i x hx => ?_⟩
  have h2 := List.all_eq_true.mp this.2 i (List.mem_range.mpr (List.getElem?_eq_some_iff.mp hx).1)
  rw [hx] at h2
  simpa using h2
theorem rising_pw : ∀ {l : List Str} {p : Str}, risingS p l = true → (p :: l).Pairwise fun x y => ltS y x = false
  | [], p, _ => List.pairwise_singleton _ _
  | x :: r, p, h => by
    have h : (!ltCps x.cps.toList p.cps.toList && risingS x r) = true := h
    rw [Bool.and_eq_true] at h
    have ih := rising_pw h.2
    have h0 : ltS x p = false := by
      have := h.1
      rw [ltCps_eq] at this
      unfold ltS
      simpa using this
    refine List.pairwise_cons.mpr ⟨fun y hy => ?_, ih⟩
    rcases List.mem_cons.mp hy with e | hy
    · subst e; exact h0
    · exact ord_tr strKind.toKeyOrd p.cps.toList x.cps.toList y.cps.toList h0 ((List.pairwise_cons.mp ih).1 y hy)
theorem o1_sorted : Op1 C (fun x H Q => rSortedA C.K [x] H Q) gSorted := fun H Z da x d Q hz ra hg k => by
  obtain ⟨ds, e1, h2⟩ := Option.bind_eq_some_iff.mp hg
  obtain ⟨a, vs, e, s, l, P, _, r⟩ := rd_lst e1 ra
  cases ei : intsD ds with
  | some is =>
    rw [ei] at h2
    have h2 : some (D.lst ((srt (fun a b => decide (a < b)) is).map .int)) = some d := h2
    cases h2
    refine .inl ⟨a, is, by rw [e], by rw [← ints_of r ei]; exact s, fun ns p hp hs n => ?_⟩
    have : ns = srt (fun a b => decide (a < b)) is := srt_eq (fun a b h1 h2 => by
      have := of_decide_eq_false h1; have := of_decide_eq_false h2; omega) (fun a b c h1 h2 => by
      have := of_decide_eq_false h1; have := of_decide_eq_false h2; exact decide_eq_false (by omega)) (fun a b h => by
      have := of_decide_eq_true h; exact decide_eq_false (by omega)) hp (hs.imp fun h => decide_eq_false (by omega))
    subst this
    exact k _ _ _ (.lst (rep_ints _) (st_ints _) n hz)
  | none =>
    rw [ei] at h2
    cases es : ((strsD ds).bind fun ss => if decide (ss.length < 64) then some (D.lst ((srt ltS ss).map .str)) else none) with
    | some d' =>
      rw [es] at h2
      have h2 : some d' = some d := h2
      cases h2
      obtain ⟨ss, e2, h3⟩ := Option.bind_eq_some_iff.mp es
      cases en : decide (ss.length < 64) with
      | false => rw [en] at h3; cases h3
      | true =>
        rw [en] at h3
        cases h3
        refine .inr (.inl ⟨a, ss, by rw [e], by rw [← strs_of r e2]; exact s, of_decide_eq_true en, fun ys p hp hs n => ?_⟩)
        have pw : ys.Pairwise fun x y => ltS y x = false := by
          cases ys with
          | nil => exact List.Pairwise.nil
          | cons y r => exact rising_pw hs
        have : ys = srt ltS ss := srt_eq (lt := ltS) (fun a b h1 h2 => by
          have := strKind.total a.cps.toList b.cps.toList h1 h2
          cases a; cases b
          simp only [Str.mk.injEq]
          exact Array.toList_inj.mp this) (fun a b c => ord_tr strKind.toKeyOrd a.cps.toList b.cps.toList c.cps.toList) (fun a b => ord_as strKind.toKeyOrd a.cps.toList b.cps.toList) hp pw
        subst this
        exact k _ _ _ (.lst (rep_strs _) (st_strs _) n hz)
    | none =>
      rw [es] at h2
      obtain ⟨ks, e2, h3⟩ := Option.bind_eq_some_iff.mp (show ((keysT ds).bind fun ks => if shOk ks then some (D.lst ((srt ordT.blt ks).map fun k => .tup (k.map kyD))) else none) = some d from h2)
      cases en : shOk ks with
      | false => rw [en] at h3; cases h3
      | true =>
        rw [en] at h3
        cases h3
        refine .inr (.inr ⟨shOf ks, a, vs, ks, by rw [e], s, keysT_of r e2 (shOk_at en), fun ys ls p hp pm hs n => ?_⟩)
        have : ls = srt ordT.blt ks := srt_eq ordT.total (fun a b c => ord_tr ordT _ _ _) (fun a b => ord_as ordT _ _) pm hs
        subst this
        exact k _ _ _ (.lst (rep_tups hp) (st_tups _) n hz)
end
section
variable {X : Cx} {C : Ct} {W : WX} {e : Expr} {fa : SE} {p pos : Pos}
theorem cr_sortedA : CallR X (.builtin "sorted") (rSortedA X.K) := CallR.or cr_sortedI (CallR.or cr_sortedS fun pins s σ H xs us Q I r ⟨sh, h⟩ => cr_sortedTup pins s σ H xs us Q I r h)
theorem boot_sorted' : bootBuiltins "sorted" = some (.builtin "sorted") := by decide +kernel
theorem b_sorted (hK : X.K = C.K) (hm : X.mg "sorted" = none) (ha : PE X e (tf C W fa)) (hg : Gl X "sorted" := by rfl) (hs : starEach [e] X.env = (false, eval e X.env) :: starEach [] X.env := by rfl) : PE X (.Call (.Name "sorted" p) [e] [] pos) (tf C W (fN (lCons fa lNil) (g1 gSorted))) := e_callB cr_sortedA (by rw [hK]; exact on1 o1_sorted) hg hm boot_sorted' (a_cons ha a_nil hs) (by decide) (by decide) hs rfl
end
end OL

/-! The O layer, 29: a receiver held over arguments that change things; two names at once. -/
namespace OL
open PySem PySem.Spec PyProof.Rows L2

mutual
def D.nt (m : Nat) : D → Bool
  | .fn n => n != m
  | .tup ds => ntL m ds
  | .lst ds => ntL m ds
  | .fls ds => ntL m ds
  | .dct _ ds => ntL m ds
  | .fdc _ ds => ntL m ds
  | .ins _ ds => ntL m ds
  | .fin _ ds => ntL m ds
  | .exo n _ ds => (n != m && (n + 1 != m && n + 2 != m)) && ntL m ds
  | _ => true
def ntL (m : Nat) : List D → Bool
  | [] => true
  | d :: ds => d.nt m && ntL m ds
end
/-- the token m stands for a -/
def Ct.tok (C : Ct) (m : Nat) (a : Addr) : Ct := { C with fv := fun n => if n = m then some a else C.fv n }
section
variable {C : Ct} {m : Nat} {a0 : Addr} {H : Hp} {Z : As}
mutual
theorem tok_in : ∀ {d : D} {v : V} {P : As}, Rep C H Z d v P → d.nt m = true → Rep (C.tok m a0) H Z d v P
  | .non, _, _, h, _ => h
  | .bl _, _, _, h, _ => h
  | .int _, _, _, h, _ => h
  | .str _, _, _, h, _ => h
  | .fn n, _, _, ⟨a, h, e⟩, w => ⟨a, by show (if n = m then some a0 else C.fv n) = some a; rw [if_neg (by simpa [D.nt] using w)]; exact h, e⟩
  | .tup ds, v, P, ⟨a, vs, e, s, r⟩, w => ⟨a, vs, e, s, tokL_in r w⟩
  | .lst ds, v, P, ⟨a, vs, e, p, s, r⟩, w => ⟨a, vs, e, p, s, tokL_in r w⟩
  | .fls ds, v, P, ⟨a, vs, e, s, r⟩, w => ⟨a, vs, e, s, tokL_in r w⟩
  | .dct ks ds, v, P, ⟨a, vs, e, p, l, s, r⟩, w => ⟨a, vs, e, p, l, s, tokL_in r w⟩
  | .fdc ks ds, v, P, ⟨a, vs, e, p, l, s, r⟩, w => ⟨a, vs, e, p, l, s, tokL_in r w⟩
  | .ins c ds, v, P, ⟨a, os, e, p, s, r⟩, w => ⟨a, os, e, p, s, tokL_in r w⟩
  | .fin c ds, v, P, ⟨a, os, e, p, s, r⟩, w => ⟨a, os, e, p, s, tokL_in r w⟩
  | .exo n c ds, v, P, ⟨a, dx, q, fs, e, h1, h2, hq, h3, s, r⟩, w => by
    have w : ((n != m && (n + 1 != m && n + 2 != m)) && ntL m ds) = true := w
    rw [Bool.and_eq_true, Bool.and_eq_true, Bool.and_eq_true] at w
    refine ⟨a, dx, q, fs, e, ?_, ?_, hq, ?_, s, tokL_in r w.2⟩
    · show (if n = m then some a0 else C.fv n) = some a
      rw [if_neg (by simpa using w.1.1)]; exact h1
    · show (if n + 1 = m then some a0 else C.fv (n + 1)) = some dx
      rw [if_neg (by simpa using w.1.2.1)]; exact h2
    · show (if n + 2 = m then some a0 else C.fv (n + 2)) = some q.ad
      rw [if_neg (by simpa using w.1.2.2)]; exact h3
  | .mvd, _, _, _, _ => trivial
theorem tokL_in : ∀ {ds : List D} {os : List (Option V)} {P : As}, RepL C H Z ds os P → ntL m ds = true → RepL (C.tok m a0) H Z ds os P
  | [], _, _, h, _ => h
  | d :: ds, os, P, ⟨o, os', P1, P2, e, h, r, s⟩, w => by
    have w : (d.nt m && ntL m ds) = true := w
    rw [Bool.and_eq_true] at w
    refine ⟨o, os', P1, P2, e, ?_, tokL_in r w.2, s⟩
    rcases h with h | ⟨v, ev, h⟩
    · exact .inl h
    · exact .inr ⟨v, ev, tok_in h w.1⟩
end
mutual
theorem tok_out : ∀ {d : D} {v : V} {P : As}, Rep (C.tok m a0) H Z d v P → d.nt m = true → Rep C H Z d v P
  | .non, _, _, h, _ => h
  | .bl _, _, _, h, _ => h
  | .int _, _, _, h, _ => h
  | .str _, _, _, h, _ => h
  | .fn n, _, _, ⟨a, h, e⟩, w => ⟨a, by
      have h : (if n = m then some a0 else C.fv n) = some a := h
      rw [if_neg (by simpa [D.nt] using w)] at h; exact h, e⟩
  | .tup ds, v, P, ⟨a, vs, e, s, r⟩, w => ⟨a, vs, e, s, tokL_out r w⟩
  | .lst ds, v, P, ⟨a, vs, e, p, s, r⟩, w => ⟨a, vs, e, p, s, tokL_out r w⟩
  | .fls ds, v, P, ⟨a, vs, e, s, r⟩, w => ⟨a, vs, e, s, tokL_out r w⟩
  | .dct ks ds, v, P, ⟨a, vs, e, p, l, s, r⟩, w => ⟨a, vs, e, p, l, s, tokL_out r w⟩
  | .fdc ks ds, v, P, ⟨a, vs, e, p, l, s, r⟩, w => ⟨a, vs, e, p, l, s, tokL_out r w⟩
  | .ins c ds, v, P, ⟨a, os, e, p, s, r⟩, w => ⟨a, os, e, p, s, tokL_out r w⟩
  | .fin c ds, v, P, ⟨a, os, e, p, s, r⟩, w => ⟨a, os, e, p, s, tokL_out r w⟩
  | .exo n c ds, v, P, ⟨a, dx, q, fs, e, h1, h2, hq, h3, s, r⟩, w => by
    have w : ((n != m && (n + 1 != m && n + 2 != m)) && ntL m ds) = true := w
    rw [Bool.and_eq_true, Bool.and_eq_true, Bool.and_eq_true] at w
    have h1 : (if n = m then some a0 else C.fv n) = some a := h1
    have h2 : (if n + 1 = m then some a0 else C.fv (n + 1)) = some dx := h2
    have h3 : (if n + 2 = m then some a0 else C.fv (n + 2)) = some q.ad := h3
    rw [if_neg (by simpa using w.1.1)] at h1
    rw [if_neg (by simpa using w.1.2.1)] at h2
    rw [if_neg (by simpa using w.1.2.2)] at h3
    exact ⟨a, dx, q, fs, e, h1, h2, hq, h3, s, tokL_out r w.2⟩
  | .mvd, _, _, _, _ => trivial
theorem tokL_out : ∀ {ds : List D} {os : List (Option V)} {P : As}, RepL (C.tok m a0) H Z ds os P → ntL m ds = true → RepL C H Z ds os P
  | [], _, _, h, _ => h
  | d :: ds, os, P, ⟨o, os', P1, P2, e, h, r, s⟩, w => by
    have w : (d.nt m && ntL m ds) = true := w
    rw [Bool.and_eq_true] at w
    refine ⟨o, os', P1, P2, e, ?_, tokL_out r w.2, s⟩
    rcases h with h | ⟨v, ev, h⟩
    · exact .inl h
    · exact .inr ⟨v, ev, tok_out h w.1⟩
end
end
/-- self.f.meth(args): the field is a token while the arguments are made -/
def fMutH (m c j i : Nat) (ty : D → Bool) (k : D → List D → Option (D × D)) (fs : SA) : SE := fun env => match env[i]? with
  | some (.ins c' ds) => if c' = c then (match ds[j]? with
    | some d0 => if ty d0 && !d0.mv && ntL m env then (match fs (env.set i (.ins c (ds.set j (.fn m)))) with
      | .ok rs e2 _ => (match tkA rs e2 with
        | some (as, e3) => (match e3[i]? with
          | some (.ins c3 ds3) => if c3 = c then (match ds3[j]? with
            | some (.fn n) => if n = m then (match k d0 as with
              | some (res, d') => if ntL m (e3.set i (.ins c (ds3.set j d'))) && res.nt m then .ok (.val res) (e3.set i (.ins c (ds3.set j d'))) true else .bad
              | none => .bad) else .bad
            | _ => .bad) else .bad
          | _ => .bad)
        | none => .bad)
      | _ => .bad) else .bad
    | none => .bad) else .bad
  | _ => .bad
/-- the arguments' reading, whatever the tokens -/
def tlA (K : PySem.W.Frag) (cl : Nat → Option Cli) (W : WX) (fs : SA) : TA := fun σ H Q => ∃ fv, tl ⟨K, cl, fv⟩ W fs σ H Q
theorem pa_any {X : Cx} {K : PySem.W.Frag} {cl : Nat → Option Cli} {W : WX} {fs : SA} {es : List Expr} (h : ∀ fv, L2.PA X es (tl ⟨K, cl, fv⟩ W fs)) : L2.PA X es (tlA K cl W fs) := ⟨fun pos pins s σ H Q I ⟨fv, w⟩ => (h fv).run pos pins s σ H Q I w⟩
section
variable {K : PySem.W.Frag} {cl : Nat → Option Cli} {fv : Nat → Option Addr} {W : WX} {σ : L2.St} {H : Hp} {Q : VK} {fs : SA} {ty : D → Bool} {k : D → List D → Option (D × D)} {r : V → List V → Hp → VK → Prop} {T : String} {m c j i : Nat} {q : Cli} {f : Str}
theorem tf_mutH (hq : cl c = some q) (hs : q.sl = false) (hj : q.ns[j]? = some f) (cc : Cls K q.ad) (na : NoAttr K q.ad f) (tyr : TyR K ⟨K, cl, fv⟩ T ty) (hv : ∀ d v P H Z, Rep ⟨K, cl, fv⟩ H Z d v P → ty d = true → ∃ a, v = .ref a) (mr : ∀ fv, MutR ⟨K, cl, fv⟩ r k) (h : tf ⟨K, cl, fv⟩ W (fMutH m c j i ty k fs) σ H Q) :
    tBM K T r (tFld K (tVar i) f) (tlA K cl W fs) σ H Q := by
  obtain ⟨env, P, Z, rl, ok, h⟩ := h
  unfold fMutH at h
  cases e0 : env[i]? with
  | none => simp only [e0] at h
  | some di =>
    cases di with
    | ins c' ds =>
      simp only [e0] at h
      by_cases hc : c' = c
      · rw [if_pos hc] at h
        subst hc
        cases e1 : ds[j]? with
        | none => simp only [e1] at h
        | some d0 =>
          simp only [e1] at h
          cases ht : (ty d0 && !d0.mv && ntL m env) with
          | false => simp only [ht, Bool.false_eq_true, if_false] at h
          | true =>
            simp only [ht, if_true] at h
            simp only [Bool.and_eq_true] at ht
            obtain ⟨⟨ht1, ht2⟩, ht3⟩ := ht
            have nm0 : d0.mv = false := by simpa using ht2
            obtain ⟨v0, P00, ev0, _, ⟨a, os0, ea0, _, ia0, r0⟩, _⟩ := repL_at rl e0 (by simp)
            obtain ⟨v1, _, eo0, _, rd0, _⟩ := repL_at r0 e1 (mv_ne nm0)
            obtain ⟨dx, fs0, h1, h2⟩ := fld_read ia0 hq hs hj eo0
            refine ⟨v0, ev0, a, q.ad, dx, fs0, v1, ea0, h1, cc, na, h2, tyr _ _ _ _ _ rd0 ht1, ?_⟩
            obtain ⟨al, eal⟩ := hv _ _ _ _ _ rd0 ht1
            subst eal
            clear rd0 eo0 r0 ia0
            -- with the token
            have rlT : RepL (Ct.tok ⟨K, cl, fv⟩ m al) H Z env σ P := tokL_in rl ht3
            obtain ⟨v0T, P0, ev0T, s0, ⟨aT, os, eaT, pa, ia, rT⟩, up⟩ := repL_at rlT e0 (by simp)
            have e2 : v0T = v0 := Option.some.inj (Option.some.inj (ev0T.symm.trans ev0))
            subst e2
            have e3 : aT = a := by rw [ea0] at eaT; cases eaT; rfl
            subst e3
            obtain ⟨w, P1, eo, s1, rd, up1⟩ := repL_at rT e1 (mv_ne nm0)
            obtain ⟨dx2, fs2, g1, g2⟩ := fld_read (C := Ct.tok ⟨K, cl, fv⟩ m al) ia hq hs hj eo
            have e4 : w = .ref al := by
              rw [h1] at g1; cases g1
              rw [h2] at g2
              exact (Option.some.inj g2).symm
            subst e4
            have na1 : ¬ P1 aT := fun x => (s1 aT x).2 rfl
            have tkr : Rep (Ct.tok ⟨K, cl, fv⟩ m al) H Z (.fn m) (.ref al) emp := ⟨al, by show (if m = m then some al else fv m) = some al; rw [if_pos rfl], rfl⟩
            have rf := up1 H Z emp (.fn m) (some (.ref al)) emp keep_refl OkP.emp (fun _ x => x) (fun _ z => z.elim) (.inr ⟨_, rfl, tkr⟩) fun _ z => z.elim
            rw [set_same_opt eo] at rf
            have rl' := up H Z emp (.ins c' (ds.set j (.fn m))) (some v0T) (mns P0 P1) keep_refl OkP.emp (fun _ x => x) (fun _ z => z.elim) (.inr ⟨v0T, rfl, aT, os, eaT, ⟨pa, na1⟩, ia, repL_mono rf fun b x => by
              rcases x with x | x
              · exact ⟨⟨x.1.1, x.2⟩, x.1.2⟩
              · exact x.elim⟩) fun b x w => w.2 x.1
            rw [set_same_opt ev0] at rl'
            have sb1 : Sub P1 P := fun b x => s0 b (s1 b x).1
            have rlp : RepL (Ct.tok ⟨K, cl, fv⟩ m al) H Z (env.set i (.ins c' (ds.set j (.fn m)))) σ (mns P P1) := repL_mono rl' fun b x => by
              rcases x with x | x
              · exact ⟨x.1, fun w => x.2 (s1 b w).1⟩
              · exact ⟨s0 b x.1, x.2⟩
            have okp : OkS (mns P P1) Z H := ok.sub fun b x => x.1
            refine ⟨_, env.set i (.ins c' (ds.set j (.fn m))), mns P P1, Z, rlp, okp, ?_⟩
            cases ef : fs (env.set i (.ins c' (ds.set j (.fn m)))) with
            | bad => simp only [ef] at h
            | exc x xs e => simp only [ef] at h
            | ok rs e2 t2 =>
              simp only [ef] at h
              intro vs P2 Pv2 Z2 H2 p2
              cases et : tkA rs e2 with
              | none => simp only [et] at h
              | some x =>
                obtain ⟨as, e3⟩ := x
                simp only [et] at h
                obtain ⟨P3, Pa, rl3, rda, dj3, c2, _⟩ := taken p2 et
                cases e5 : e3[i]? with
                | none => simp only [e5] at h
                | some di3 =>
                  cases di3 with
                  | ins c3 ds3 =>
                    simp only [e5] at h
                    by_cases hc3 : c3 = c'
                    · rw [if_pos hc3] at h
                      subst hc3
                      cases e6 : ds3[j]? with
                      | none => simp only [e6] at h
                      | some d3 =>
                        cases d3 with
                        | fn n =>
                          simp only [e6] at h
                          by_cases hn : n = m
                          · rw [if_pos hn] at h
                            subst hn
                            cases ek : k d0 as with
                            | none => simp only [ek] at h
                            | some x =>
                              obtain ⟨res, d'⟩ := x
                              simp only [ek] at h
                              cases hw : (ntL n (e3.set i (.ins c3 (ds3.set j d'))) && res.nt n) with
                              | false => simp only [hw, Bool.false_eq_true, if_false] at h
                              | true =>
                                simp only [hw, if_true] at h
                                rw [Bool.and_eq_true] at hw
                                have djp : Dis (mns P P1) P1 := fun b x y => x.2 y
                                have rd2 := c2.keepAll rd okp.at_ djp
                                have ok1 : OkP P1 Z H := ok.at_.sub sb1
                                have ap : ∀ b, P1 b → ¬ uni P3 Pa b := fun b x y => by
                                  rcases c2.new b y with z | z
                                  · exact z.2 x
                                  · obtain ⟨_, o, e, _⟩ := ok1 b x
                                    rw [z] at e; cases e
                                have ok12 : OkP P1 Z2 H2 := fun b x => by
                                  obtain ⟨nz, o, e, wo⟩ := ok1 b x
                                  refine ⟨fun z => ?_, o, c2.keep b o e fun y => y.2 x, wo⟩
                                  rcases c2.znew b z with z | z | z
                                  · exact nz z
                                  · exact z.2 x
                                  · rw [e] at z; cases z
                                -- the object behind the arguments
                                obtain ⟨v3, P4, ev3, s4, ⟨a3, os3, ea3, pa3, ia3, r3⟩, up3⟩ := repL_at rl3 e5 (by simp)
                                obtain ⟨w3, Pf, eo3, sf, ⟨b3, hb3, ew3⟩, upf⟩ := repL_at r3 e6 (by simp)
                                have e7 : b3 = al := by
                                  have hb3 : (if n = n then some al else fv n) = some b3 := hb3
                                  rw [if_pos rfl] at hb3
                                  exact (Option.some.inj hb3).symm
                                subst e7 ew3
                                have okA : OkS (uni P1 Pa) Z2 H2 := ⟨fun b x => x.elim (ok12 b) fun y => c2.ok.at_ b (.inr y), c2.ok.zt⟩
                                refine mr _ H2 Z2 d0 as _ vs P1 Pa d' res Q okA (fun b x y => ap b x (.inr y)) rd2 rda ek fun z H' Pn Pz kp rn rz dn nw okn => ?_
                                have apn : ∀ {T : As}, (∀ b, T b → P1 b ∨ Pa b ∨ H2 b = none) → Dis T P3 := fun hT b x y => by
                                  rcases hT b x with q | q | q
                                  · exact ap b q (.inl y)
                                  · exact dj3 b y q
                                  · obtain ⟨_, o, e, _⟩ := c2.ok.at_ b (.inl y)
                                    rw [q] at e; cases e
                                have dn3 : Dis Pn P3 := apn fun b x => nw b (.inl x)
                                have dz3 : Dis Pz P3 := apn fun b x => nw b (.inr x)
                                have rf3 := upf H' Z2 P1 d' (some (.ref b3)) Pn kp ok12 (fun _ x => x) (fun b x y => (ap b x (.inl (s4 b y.1))).elim) (.inr ⟨_, rfl, rn⟩) fun b x y => dn3 b x (s4 b y.1.1)
                                rw [set_same_opt eo3] at rf3
                                have pa3' : P3 a3 := s4 a3 pa3
                                have n1a : ¬ P1 a3 := fun x => ap a3 x (.inl pa3')
                                have rl4 := up3 H' Z2 P1 (.ins c3 (ds3.set j d')) (some v3) (uni P4 Pn) kp ok12 (fun _ x => x) (fun b x y => (ap b x (.inl y)).elim) (.inr ⟨v3, rfl, a3, os3, ea3, .inl pa3, insAt_keep ia3 kp ok12 n1a, repL_mono rf3 fun b x => by
                                  rcases x with x | x
                                  · exact ⟨.inl x.1.1, x.1.2⟩
                                  · exact ⟨.inr x, fun e => dn3 b x (by rw [e]; exact pa3')⟩⟩) fun b x y => by
                                  rcases x with x | x
                                  · exact y.2 x
                                  · exact dn3 b x y.1
                                rw [set_same_opt ev3] at rl4
                                have rl5 : RepL (Ct.tok ⟨K, cl, fv⟩ n b3) H' Z2 (e3.set i (.ins c3 (ds3.set j d'))) σ (uni P3 Pn) := repL_mono rl4 fun b x => by
                                  rcases x with x | x | x
                                  · exact .inl x.1
                                  · exact .inl (s4 b x)
                                  · exact .inr x
                                refine h z (uni P3 Pn) Pz Z2 H' ⟨tokL_out rl5 hw.1, tok_out rz hw.2, fun b x y => ?_, ⟨fun b o e nb => ?_, fun b x => ?_, c2.zle, fun b x => (c2.znew b x).imp id (Or.imp (fun y => y.1) id), ⟨fun b x => ?_, okn.zt⟩⟩, fun z => by cases z⟩
                                · rcases x with x | x
                                  · exact dz3 b y x
                                  · exact dn b x y
                                · exact kp b o (c2.keep b o e fun y => nb y.1) fun y => nb (sb1 b y)
                                · have key : P1 b ∨ Pa b ∨ H2 b = none → P b ∨ H b = none := fun t => by
                                    rcases t with t | t | t
                                    · exact .inl (sb1 b t)
                                    · exact (c2.new b (.inr t)).imp (fun y => y.1) id
                                    · cases e : H b with
                                      | none => exact .inr rfl
                                      | some o =>
                                        by_cases pb : P b
                                        · exact .inl pb
                                        · rw [c2.keep b o e fun y => pb y.1] at t; cases t
                                  rcases x with (x | x) | x
                                  · exact (c2.new b (.inl x)).imp (fun y => y.1) id
                                  · exact key (nw b (.inl x))
                                  · exact key (nw b (.inr x))
                                · rcases x with (x | x) | x
                                  · obtain ⟨nz, o, e, wo⟩ := c2.ok.at_ b (.inl x)
                                    exact ⟨nz, o, kp b o e fun y => ap b y (.inl x), wo⟩
                                  · exact okn.at_ b (.inl x)
                                  · exact okn.at_ b (.inr x)
                          · rw [if_neg hn] at h; exact h.elim
                        | _ => simp only [e6] at h
                    · rw [if_neg hc3] at h; exact h.elim
                  | _ => simp only [e5] at h
      · rw [if_neg hc] at h; exact h.elim
    | _ => simp only [e0] at h
end
end OL

/-! The O layer, 30: append by short words, two names at once, displays of dicts, what is not reached. -/
namespace OL
open PySem PySem.Spec PyProof.Rows L2
section
variable {X : Cx} {cl : Nat → Option Cli} {fv : Nat → Option Addr} {C : Ct} {W : WX} {fx : Nat → Bool} {o e : Expr} {fo fa : SE} {apos cpos po p1 : Pos} {q : Cli} {c i j : Nat} {f x : Str}
theorem lst_ref {d : D} {v : V} {P : As} {H : Hp} {Z : As} (r : Rep C H Z d v P) (h : isLst d = true) : ∃ a, v = .ref a := by
  cases d <;> first | (cases h; done) | skip
  obtain ⟨a, vs, e, _⟩ := r
  exact ⟨a, e⟩
/-- xs.append(e) -/
theorem x_append (ho : PE X o (tf C W fo)) (ha : PE X e (tf C W fa))
    (hbase : attributeBase o "append" X.env (eval o X.env) = eval o X.env := by rfl)
    (hfew : ((backTo cpos (starEach [e] X.env)).all (fun x => !x.1) && (backToKw cpos (keywordEach [] X.env)).all (fun x => x.1.isSome)
      && decide ([e].length + ([] : List Keyword).length + (if ([] : List Keyword).isEmpty then 0 else 1) < 30)) = true := by rfl)
    (hline : (apos.endLine == cpos.line) = true := by rfl) (hs : starEach [e] X.env = (false, eval e X.env) :: starEach [] X.env := by rfl) (hplain : (backTo cpos (starEach [] X.env)).any (·.1) = false := by rfl) :
    PE X (.Call (.Attribute o "append" apos) [e] [] cpos) (tf C W (fMut isLst kAppend fo (lCons fa lNil))) :=
  e_mut PySem.F.plainAttrs_list PySem.F.slot_list_append PySem.F.type_list_append mt_append ty_lst mr_append ho (a_cons ha a_nil hs) hbase hfew hline hs hplain
theorem x_extend (ho : PE X o (tf C W fo)) (ha : PE X e (tf C W fa))
    (hbase : attributeBase o "extend" X.env (eval o X.env) = eval o X.env := by rfl)
    (hfew : ((backTo cpos (starEach [e] X.env)).all (fun x => !x.1) && (backToKw cpos (keywordEach [] X.env)).all (fun x => x.1.isSome)
      && decide ([e].length + ([] : List Keyword).length + (if ([] : List Keyword).isEmpty then 0 else 1) < 30)) = true := by rfl)
    (hline : (apos.endLine == cpos.line) = true := by rfl) (hs : starEach [e] X.env = (false, eval e X.env) :: starEach [] X.env := by rfl) (hplain : (backTo cpos (starEach [] X.env)).any (·.1) = false := by rfl) :
    PE X (.Call (.Attribute o "extend" apos) [e] [] cpos) (tf C W (fMut isLst kExtend fo (lCons fa lNil))) :=
  e_mut PySem.F.plainAttrs_list PySem.F.slot_list_extend PySem.F.type_list_extend mt_extend ty_lst mr_extend ho (a_cons ha a_nil hs) hbase hfew hline hs hplain
/-- self.f.append(e), e changes self -/
theorem x_appendH (m : Nat) (i : Nat) (hq : cl c = some q) (hs0 : q.sl = false) (hj : q.ns[j]? = some f) (cc : Cls X.K q.ad) (na : NoAttr X.K q.ad f) (ha : ∀ fv, PE X e (tf ⟨X.K, cl, fv⟩ W fa)) (hN : X.N[i]? = some x := by rfl) (hv : Vis X.env.scope x := by first | exact Or.inl rfl | exact Or.inr (Or.inl rfl) | exact Or.inr (Or.inr rfl))
    (hd : (x == ("__debug__" : Str)) = false := by decide) (hcd : (x == ("__classdict__" : Str)) = false := by decide) (hb : attributeBase (.Name x po) f X.env (eval (.Name x po) X.env) = eval (.Name x po) X.env := by rfl)
    (hbase : attributeBase (.Attribute (.Name x po) f p1) "append" X.env (eval (.Attribute (.Name x po) f p1) X.env) = eval (.Attribute (.Name x po) f p1) X.env := by rfl)
    (hfew : ((backTo cpos (starEach [e] X.env)).all (fun x => !x.1) && (backToKw cpos (keywordEach [] X.env)).all (fun x => x.1.isSome)
      && decide ([e].length + ([] : List Keyword).length + (if ([] : List Keyword).isEmpty then 0 else 1) < 30)) = true := by rfl)
    (hline : (apos.endLine == cpos.line) = true := by rfl) (hs : starEach [e] X.env = (false, eval e X.env) :: starEach [] X.env := by rfl) (hplain : (backTo cpos (starEach [] X.env)).any (·.1) = false := by rfl) :
    PE X (.Call (.Attribute (.Attribute (.Name x po) f p1) "append" apos) [e] [] cpos) (tf ⟨X.K, cl, fv⟩ W (fMutH m c j i isLst kAppend (lCons fa lNil))) :=
  pe_imp (pe_bm PySem.F.plainAttrs_list PySem.F.slot_list_append PySem.F.type_list_append mt_append (pe_fld (pe_var hN hv hd hcd) hb) (pa_any fun fv => a_cons (ha fv) a_nil hs) hbase hfew hline hs hplain) fun _ _ _ h =>
    tf_mutH hq hs0 hj cc na ty_lst (fun _ _ _ _ _ r h => lst_ref r h) (fun _ => mr_append) h
/-- not reached -/
theorem s_bad {st : Stmt} : PS X st (ts C fx W fun _ => .bad) := ⟨fun pins s σ H D I ⟨_, _, _, _, _, h⟩ => h.elim⟩
theorem e_bad {e : Expr} : PE X e (tf C W fun _ => .bad) := ⟨fun pins s σ H Q I ⟨_, _, _, _, _, h⟩ => h.elim⟩
end
/-! ### a, b = x, y -/
def sPar (i j : Nat) (fs : SA) : SS := fun env => (fs env).bind fun rs e1 t1 => match tkA rs e1 with
  | some ([d1, d2], e2) => if i < e2.length ∧ j < e2.length then .ok .nx ((e2.set i d1).set j d2) true else .bad
  | _ => .bad
section
variable {C : Ct} {fx : Nat → Bool} {W : WX} {D : Ends} {σ : L2.St} {H : Hp} {fs : SA} {i j : Nat}
theorem ts_par (hi : fx i = false) (hj : fx j = false) (h : ts C fx W (sPar i j fs) D σ H) : tPar i j (tl C W fs) D σ H := by
  obtain ⟨env, P, Z, rl, ok, h⟩ := h
  refine ⟨env, P, Z, rl, ok, ?_⟩
  unfold sPar at h
  cases ea : fs env with
  | bad => rw [ea] at h; exact h
  | exc x ds e => rw [ea] at h; exact fun cls dd P' Px Z' H' q => h cls dd σ P' Px Z' H' q.xs
  | ok rs e1 t1 =>
    simp only [ea, O.bind] at h
    intro vs P1 Pv1 Z1 H1 p1
    cases et : tkA rs e1 with
    | none => simp only [et] at h <;> exact h.elim
    | some x =>
      obtain ⟨ds, e2⟩ := x
      obtain ⟨P2, Pa, rl2, rd, dj, c2, _⟩ := taken p1 et
      match ds, et, rd, h with
      | [d1, d2], et, rd, h =>
        simp only [et] at h
        by_cases hl : i < e2.length ∧ j < e2.length
        · rw [if_pos hl] at h
          obtain ⟨o1, os1, Q1, Q2, eo, h1, r2, s1⟩ := rd
          obtain ⟨o2, os2, Q3, Q4, eo2, h2, r3, s2⟩ := r2
          match vs, eo with
          | [v, w], eo =>
            have q1 : some v = o1 ∧ [w].map some = os1 := List.cons.inj eo
            have q2 : some w = o2 ∧ ([] : List V).map some = os2 := by
              have := q1.2
              rw [eo2] at this
              exact List.cons.inj this
            refine ⟨v, w, rfl, ?_⟩
            have r1 : ∀ {i : Nat} {d : OL.D} {o : Option V} {v : V} {P Q : As} {e : Env} {σ : L2.St}, RepL C H1 Z1 e σ P → i < e.length → some v = o → (d = .mvd ∨ ∃ v, o = some v ∧ Rep C H1 Z1 d v Q) → Dis P Q → RepL C H1 Z1 (e.set i d) (σ.set i (some v)) (uni P Q) := fun rl hl eo hd dj => by
              rcases hd with hd | ⟨v', ev, hd⟩
              · subst hd; exact repL_mono (repL_del rl) fun _ x => .inl x
              · rw [← eo] at ev; cases ev
                exact repL_put rl hl hd fun a x y => dj a y x
            have a1 := r1 rl2 hl.1 q1.1 h1 fun a x y => dj a x (s1.l a y)
            have a2 := r1 a1 (by rw [List.length_set]; exact hl.2) q2.1 h2 fun a x y => by
              rcases x with x | x
              · exact dj a x (s1.r a (s2.l a y))
              · exact s1.d a x (s2.l a y)
            refine h _ _ Z1 H1 ⟨a2, c2.sub fun a x => ?_, ⟨by rw [List.length_set, List.length_set], fun n hn => ?_⟩⟩
            · rcases x with (x | x) | x
              · exact .inl x
              · exact .inr (s1.l a x)
              · exact .inr (s1.r a (s2.l a x))
            · have n1 : j ≠ n := fun e => by rw [e] at hj; rw [hj] at hn; cases hn
              have n2 : i ≠ n := fun e => by rw [e] at hi; rw [hi] at hn; cases hn
              rw [List.getElem?_set_ne n1, List.getElem?_set_ne n2]
          | [v], eo => cases q : eo2 ▸ (List.cons.inj eo).2
          | [], eo => cases eo
          | v :: w :: u :: r, eo =>
            have q1 := (List.cons.inj eo).2
            rw [eo2] at q1
            have q2 := (List.cons.inj q1).2
            rw [show os2 = [] from r3] at q2
            cases q2
        · rw [if_neg hl] at h; exact h.elim
      | [], et, rd, h => simp only [et] at h <;> exact h.elim
      | [_], et, rd, h => simp only [et] at h <;> exact h.elim
      | _ :: _ :: _ :: _, et, rd, h => simp only [et] at h <;> exact h.elim
end
section
variable {X : Cx} {C : Ct} {fx : Nat → Bool} {W : WX} {fa fb : SE} {a b : Expr} {px py pt pt2 pos : Pos} {kt k2 : Nat} {x y : Str}
theorem s_par (i j : Nat) (hN : X.N.Nodup) (ha : PE X a (tf C W fa)) (hb : PE X b (tf C W fb)) (hc : X.calm = true := by rfl) (hi : X.N[i]? = some x := by rfl) (hj : X.N[j]? = some y := by rfl) (hij : i ≠ j := by decide) (hx : X.env.scope.names.lookup x = some .local := by rfl) (hy : X.env.scope.names.lookup y = some .local := by rfl) (hfi : fx i = false := by rfl) (hfj : fx j = false := by rfl)
    (he : starEach [a, b] X.env = (false, eval a X.env) :: starEach [b] X.env := by rfl) (he2 : starEach [b] X.env = (false, eval b X.env) :: starEach [] X.env := by rfl)
    (hw : swappedStores [.Tuple [.Name x px, .Name y py] kt pt] (.Tuple [a, b] k2 pt2) X.env = pure (some [x, y]) := by rfl)
    (hs : swapsWithSole [.Tuple [.Name x px, .Name y py] kt pt] (.Tuple [a, b] k2 pt2) pos.line X.env = pure false := by rfl) :
    PS X (.Assign [.Tuple [.Name x px, .Name y py] kt pt] (.Tuple [a, b] k2 pt2) pos) (ts C fx W (sPar i j (lCons fa (lCons fb lNil)))) :=
  ps_imp (ps_par hc hN hi hj hij hx hy (a_cons ha (a_cons hb a_nil he2) he) hw hs) fun _ _ _ h => ts_par hfi hfj h
end
end OL

/-! The O layer, 31: comprehensions of dicts. -/
namespace OL
open PySem PySem.Spec PyProof.Rows L2
def putD (ks : List Key) (ds : List D) (k : Key) (d : D) : List Key × List D := match ks.idxOf? k with
  | some j => (ks, ds.set j d)
  | none => (ks ++ [k], ds ++ [d])
def loopK (own : List Nat) (g : GT) (b : SB) (fk fe : SE) : List D → List Key → List D → Env → O (List Key × List D)
  | [], ks, ds, e => .ok (ks, ds) e true
  | d :: r, ks, ds, e => match g d e with
    | none => .bad
    | some e1 => match b e1 with
      | .ok false e2 _ => loopK own g b fk fe r ks ds (wpE e2 own)
      | .ok true e2 _ => match fk e2 with
        | .ok rk e3 _ => match (rdR e3 rk).bind keyD with
          | none => .bad
          | some k => match fe e3 with
            | .ok ro e4 _ => match rdR e4 ro with
              | some x => if x.st then loopK own g b fk fe r (putD ks ds k x).1 (putD ks ds k x).2 (wpE e4 own) else .bad
              | none => .bad
            | _ => .bad
        | _ => .bad
      | _ => .bad
def fDComp (si : SI) (own : List Nat) (g : GT) (b : SB) (fk fe : SE) : SE := fun env => (si env).bind fun il e _ => if okE e own ∧ il.1.length ≤ 100000 ∧ lkOk (fun i => !own.contains i) il.2 then (match loopK own g b fk fe il.1 [] [] (wpE e own) with
  | .ok acc e2 _ => .ok (.val (.dct acc.1 acc.2)) (bak il.2 (rsE e e2 own)) true
  | _ => .bad) else .bad
theorem idx_none {ks : List Key} {k : Key} (h : ks.idxOf? k = none) : k ∉ ks := by
  induction ks with
  | nil => simp
  | cons a ks ih =>
    rw [List.idxOf?_cons, key_beq] at h
    by_cases e : a = k
    · rw [decide_eq_true e] at h; cases h
    · rw [decide_eq_false e] at h
      have := ih (Option.map_eq_none_iff.mp (show (ks.idxOf? k).map (· + 1) = none from h))
      simp only [List.mem_cons, not_or]
      exact ⟨fun z => e z.symm, this⟩
section
variable {C : Ct} {H : Hp} {Z : As}
theorem put_rep {ks : List Key} {ds : List D} {avs : List V} {k : Key} {d : D} {v : V} (nd : ks.Nodup) (l : ks.length = ds.length) (r : RepL C H Z ds (avs.map some) emp) (rd : Rep C H Z d v emp) :
    ∃ bvs, putK (ks.zip avs) k v = (putD ks ds k d).1.zip bvs ∧ (putD ks ds k d).1.Nodup ∧ (putD ks ds k d).1.length = (putD ks ds k d).2.length ∧ RepL C H Z (putD ks ds k d).2 (bvs.map some) emp ∧ (putD ks ds k d).2.length ≤ ds.length + 1 := by
  have la : ks.length = avs.length := l.trans (vs_len r).symm
  unfold putD
  cases e : ks.idxOf? k with
  | some j =>
    have hj : j < ds.length := by rw [← l]; exact (List.findIdx?_eq_some_iff_getElem.mp e).1
    refine ⟨avs.set j v, putK_at nd la e, nd, by rw [List.length_set]; exact l, ?_, by rw [List.length_set]; omega⟩
    rw [List.map_set]
    exact repL_mono (repL_put r hj rd fun _ z => z.elim) fun _ x => x.elim id id
  | none =>
    refine ⟨avs ++ [v], putK_out la e, ?_, by rw [List.length_append, List.length_append, l]; rfl, ?_, by rw [List.length_append]; exact Nat.le_refl _⟩
    · exact List.nodup_append.mpr ⟨nd, List.pairwise_singleton _ _, fun a ha b hb => by
        rw [List.mem_singleton.mp hb]
        exact fun z => idx_none e (by rw [← z]; exact ha)⟩
    · rw [List.map_append]
      exact repL_append r ⟨some v, [], emp, emp, rfl, .inr ⟨v, rfl, rd⟩, rfl, ⟨fun _ z => z, fun _ z => z, fun _ z => z.elim⟩⟩ ⟨fun _ z => z, fun _ z => z, fun _ z => z.elim⟩
end
section
variable {C : Ct} {W : WX} {σ : L2.St} {H : Hp} {Q : VK} {si : SI} {own : List Nat} {g : GT} {b : SB} {fk fe : SE} {fxo : Nat → Bool}
theorem tf_dcomp (hfo : ∀ i, i ∉ own → fxo i = true) (h : tf C W (fDComp si own g b fk fe) σ H Q) : tDc (ti C W si) (tg C fxo g) (tb C W0 b) (tf C W0 fk) (tf C W0 fe) own σ H Q := by
  obtain ⟨env, P, Z, rl, ok, h⟩ := h
  refine ⟨env, P, Z, rl, ok, ?_⟩
  unfold fDComp at h
  cases ea : si env with
  | bad => rw [ea] at h; exact h
  | exc x ds e => rw [ea] at h; exact h
  | ok il e t =>
    obtain ⟨its, lk⟩ := il
    simp only [ea, O.bind] at h
    intro J hold P' Pi Z' H1 I0 h0 rl0 dj0 c0 pu0 lkh D nD
    by_cases hcond : okE e own = true ∧ its.length ≤ 100000 ∧ lkOk (fun i => !own.contains i) lk = true
    · simp only [hcond, and_self, if_true] at h
      obtain ⟨ho, hlen, hlk⟩ := hcond
      cases el : loopK own g b fk fe its [] [] (wpE e own) with
      | bad => simp only [el] at h
      | exc x ds e => simp only [el] at h
      | ok accF eF tF =>
        simp only [el] at h
        have own0 : OwnR C H1 Z' e σ own := .of rl0
        have nDP : ¬ (uni P' Pi) D := not_own c0.ok.at_ nD
        have k1 : Keep emp H1 (upd H1 D (.dK [])) := keep_new nD
        have c1 : Ch P Z H (uni (uni P' Pi) (one D)) Z' (upd H1 D (.dK [])) := c0.trans0 (Ch.grow k1 c0.ok (fun a x => by rw [show a = D from x]; exact nD) fun a x => by
          rw [show a = D from x]
          exact ⟨fun z => c0.ok.zt _ z nD, HO.dK [], upd_same, trivial⟩)
        let St := fun (i : Nat) (H2 : Hp) => ∃ ks ds avs e2 P2 Z2 Pi2, RepL C H2 Z2 e2 (wipe σ own) P2 ∧ hold i H2 Z2 Pi2 ∧ H2 D = some (.dK (ks.zip avs)) ∧ ks.Nodup ∧ ks.length = ds.length ∧ RepL C H2 Z2 ds (avs.map some) emp ∧
            Dis P2 Pi2 ∧ ¬ P2 D ∧ ¬ Pi2 D ∧ Ch P Z H (uni P2 (uni Pi2 (one D))) Z2 H2 ∧ ds.length ≤ i ∧ OwnR C H2 Z2 e σ own ∧ loopK own g b fk fe (its.drop i) ks ds e2 = .ok accF eF tF
        refine ⟨fun i m H2 => m = its.length - i ∧ i ≤ its.length ∧ St i H2,
          ⟨its.length, by simp, Nat.zero_le _, [], [], [], wpE e own, P', Z', Pi, repL_wp own (repL_keep rl0 k1 OkP.emp (fun _ z => z.elim) fun _ x => x), I0.keep h0 k1 OkP.emp (fun _ z => z.elim) (fun _ x => x), upd_same, List.nodup_nil, rfl, rfl,
            dj0, fun y => nDP (.inl y), fun y => nDP (.inr y), c1.sub fun a x => by
              rcases x with x | x | x
              · exact .inl (.inl x)
              · exact .inl (.inr x)
              · exact .inr x, Nat.le_refl _, own0.keep k1 OkP.emp (fun _ x => x), by simpa using el⟩, ?_⟩
        rintro i m H2 ⟨rfl, hi, ks, ds, avs, e2, P2, Z2, Pi2, rl2, hh, hD, nd, lkd, ra, d1, d2, d3, cc, la, ow, lp⟩
        have okk : OkS (uni P2 (uni Pi2 (one D))) Z2 H2 := cc.ok
        by_cases hlt : i < its.length
        · refine .inr ⟨I0.go hlt hh, fun H' => ∃ m', m' < its.length - i ∧ (m' = its.length - (i + 1) ∧ i + 1 ≤ its.length ∧ St (i + 1) H'), fun H' x => x, fun x H3 y => ?_⟩
          obtain ⟨Px, Pn, kp, rx, hn, dn, sb, okn⟩ := I0.yld (d := its[i]) (by simp [hlt]) hh (okk.at_.sub fun a x => .inr (.inl x)) y
          rw [List.drop_eq_getElem_cons hlt] at lp
          have rl3 : RepL C H3 Z2 e2 (wipe σ own) P2 := repL_keep rl2 kp OkP.emp (fun _ z => z.elim) fun _ x => x
          have hD3 : H3 D = some (.dK (ks.zip avs)) := kp D _ hD fun z => z.elim
          have ra3 : RepL C H3 Z2 ds (avs.map some) emp := repL_keep ra kp OkP.emp (fun _ z => z.elim) fun _ x => x
          have ap : ∀ {T : As}, Sub T (uni P2 (uni Pi2 (one D))) → Dis T Pi2 → Dis T (uni Px Pn) := fun ht hd a x w => by
            rcases sb a w with z | z
            · exact hd a x z
            · obtain ⟨_, o, eo, _⟩ := okk.at_ a (ht a x)
              rw [z] at eo; cases eo
          have dPx := ap (T := P2) (fun a x => .inl x) d1
          have dAx := ap (T := one D) (fun a x => .inr (.inr x)) fun a x w => d3 (by rw [← show a = D from x]; exact w)
          have c3 : Ch P Z H (uni (uni P2 Px) (uni Pn (one D))) Z2 H3 := cc.trans0 ⟨fun a o e _ => kp a o e fun z => z.elim, fun a w => by
              rcases w with (w | w) | w | w
              · exact .inl (.inl w)
              · exact (sb a (.inl w)).imp (fun z => .inr (.inl z)) id
              · exact (sb a (.inr w)).imp (fun z => .inr (.inl z)) id
              · exact .inl (.inr (.inr w)), fun _ x => x, fun _ x => .inl x, ⟨fun a w => by
              have old : ∀ {a}, uni P2 (uni Pi2 (one D)) a → ¬ Z2 a ∧ ∃ o, H3 a = some o ∧ Own o := fun {a} w => by
                obtain ⟨nz, o, eo, wo⟩ := okk.at_ a w
                exact ⟨nz, o, kp a o eo fun z => z.elim, wo⟩
              rcases w with (w | w) | w | w
              · exact old (.inl w)
              · exact okn a (.inl w)
              · exact okn a (.inr w)
              · exact old (.inr (.inr w)), fun a z e => by
              cases e1 : H2 a with
              | none => exact okk.zt a z e1
              | some o =>
                rw [kp a o e1 fun z => z.elim] at e
                exact absurd e (by simp)⟩⟩
          cases eg : g its[i] e2 with
          | none => simp only [loopK, eg] at lp; cases lp
          | some e3 =>
          refine ⟨its[i], e2, P2, Px, Z2, e3, rl3, rx, fun a x w => dPx a x (.inl w), eg, fun σ3 P3 rl4 sb3 f3 => ?_⟩
          have wq : wipe σ3 own = wipe σ own := by
            refine (wipe_eq (σ := wipe σ own) f3.len fun j hj => f3.at_ j (hfo j hj)).trans wipe_wipe
          refine ⟨wq, e3, P3, Z2, rl4, (c3.ok.sub fun a x => .inl (sb3 a x)), ?_⟩
          have c3' : Ch P Z H (uni P3 (uni Pn (one D))) Z2 H3 := c3.sub fun a x => x.imp (sb3 a) id
          have dj3 : Dis P3 (uni Pn (one D)) := fun a x w => by
            rcases sb3 a x with z | z
            · rcases w with w | w
              · exact dPx a z (.inr w)
              · exact d2 (by rw [← show a = D from w]; exact z)
            · rcases w with w | w
              · exact dn a z w
              · exact dAx a w (.inl z)
          have dnA : ¬ Pn D := fun x => dAx D rfl (.inr x)
          simp only [loopK, eg] at lp
          have nxt : ∀ {H5 : Hp} {e5 : Env} {P5 Z5 : As} {ks5 : List Key} {ds5 : List OL.D} {avs5 : List V}, RepL C H5 Z5 e5 σ3 P5 → hold (i + 1) H5 Z5 Pn → H5 D = some (.dK (ks5.zip avs5)) → ks5.Nodup → ks5.length = ds5.length → RepL C H5 Z5 ds5 (avs5.map some) emp → Dis P5 Pn → ¬ P5 D → Ch P Z H (uni P5 (uni Pn (one D))) Z5 H5 →
              ds5.length ≤ i + 1 → OwnR C H5 Z5 e σ own → loopK own g b fk fe (its.drop (i + 1)) ks5 ds5 (wpE e5 own) = .ok accF eF tF →
              ∃ m', m' < its.length - i ∧ (m' = its.length - (i + 1) ∧ i + 1 ≤ its.length ∧ St (i + 1) H5) := by
            intro H5 e5 P5 Z5 ks5 ds5 avs5 q1 q2 q3 q4 q5 q6 q7 q8 q9 q10 q11 q13
            have q1' := repL_wp own q1
            rw [wq] at q1'
            exact ⟨_, by omega, rfl, hlt, ks5, ds5, avs5, _, P5, Z5, Pn, q1', q2, q3, q4, q5, q6, q7, q8, dnA, q9, q10, q11, q13⟩
          have ow3 : OwnR C H3 Z2 e σ own := ow.keep kp OkP.emp fun _ x => x
          cases eb : b e3 with
          | bad => simp only [eb] at lp; cases lp
          | exc x ds e => simp only [eb] at lp; cases lp
          | ok bv e4 t4 =>
            intro P4 Z4 H4 p4
            have c4 := c3'.trans dj3 p4.ch
            have ap4 := c3'.apart dj3 p4.ch
            have hn4 := I0.keep hn p4.ch.keep (c3'.okP.at_) (fun a x w => dj3 a x (.inl w)) p4.ch.zle
            have hD4 : H4 D = some (.dK (ks.zip avs)) := p4.ch.keep D _ hD3 fun z => dj3 D z (.inr rfl)
            have ra4 : RepL C H4 Z4 ds (avs.map some) emp := repL_keep ra3 p4.ch.keep c3'.okP.at_ (fun a x w => w.elim) p4.ch.zle
            have ow4 := ow3.keep p4.ch.keep c3'.okP.at_ p4.ch.zle
            have dnA4 : ¬ P4 D := fun x => ap4 D x (.inr rfl)
            cases bv with
            | false =>
              simp only [eb] at lp
              simp only [Bool.false_eq_true, if_false]
              exact nxt p4.rl hn4 hD4 nd lkd ra4 (fun a x w => ap4 a x (.inl w)) dnA4 c4 (by omega) ow4 lp
            | true =>
              simp only [eb] at lp
              simp only [if_true]
              refine ⟨e4, P4, Z4, p4.rl, c4.okP, ?_⟩
              cases ek : fk e4 with
              | bad => simp only [ek] at lp; cases lp
              | exc x ds e => simp only [ek] at lp; cases lp
              | ok rk e5 t5 =>
                intro v5 P5 Pv5 Z5 H5 p5
                simp only [ek] at lp
                cases eky : (rdR e5 rk).bind keyD with
                | none => simp only [eky] at lp; cases lp
                | some key =>
                  simp only [eky] at lp
                  obtain ⟨dk, edk, edk2⟩ := Option.bind_eq_some_iff.mp eky
                  have hv5 : v5 = kV key := keyD_V edk2 (rd1_of p5.res p5.rl p5.ch.ok edk)
                  have c5a : Ch P4 Z4 H4 P5 Z5 H5 := p5.ch.sub fun a x => .inl x
                  have c5 := c4.trans ap4 c5a
                  have ap5 := c4.apart ap4 c5a
                  have hD5 : H5 D = some (.dK (ks.zip avs)) := c5a.keep D _ hD4 dnA4
                  have ra5 : RepL C H5 Z5 ds (avs.map some) emp := repL_keep ra4 c5a.keep c4.okP.at_ (fun a x w => w.elim) c5a.zle
                  have hn5 := I0.keep hn4 c5a.keep c4.okP.at_ (fun a x w => ap4 a x (.inl w)) c5a.zle
                  have ow5 := ow4.keep c5a.keep c4.okP.at_ c5a.zle
                  refine ⟨e5, P5, Z5, p5.rl, c5.okP, ?_⟩
                  cases ef : fe e5 with
                  | bad => simp only [ef] at lp; cases lp
                  | exc x ds e => simp only [ef] at lp; cases lp
                  | ok ro e6 t6 =>
                    intro v6 P6 Pv6 Z6 H6 p6
                    simp only [ef] at lp
                    cases er : rdR e6 ro with
                    | none => simp only [er] at lp; cases lp
                    | some dx =>
                      simp only [er] at lp
                      cases es : dx.st with
                      | false => rw [es] at lp; cases lp
                      | true =>
                        rw [es] at lp
                        simp only [if_true] at lp
                        obtain ⟨_, _, rdx⟩ := read p6.res p6.rl er
                        have rdx := rep_st emp es rdx
                        have c6a : Ch P5 Z5 H5 P6 Z6 H6 := p6.ch.sub fun a x => .inl x
                        have c6 := c5.trans ap5 c6a
                        have ap6 := c5.apart ap5 c6a
                        have n5 : ¬ P5 D := fun x => ap5 D x (.inr rfl)
                        have n6 : ¬ P6 D := fun x => ap6 D x (.inr rfl)
                        have hD6 : H6 D = some (.dK (ks.zip avs)) := c6a.keep D _ hD5 n5
                        have ra6 : RepL C H6 Z6 ds (avs.map some) emp := repL_keep ra5 c6a.keep c5.okP.at_ (fun a x w => w.elim) c6a.zle
                        have hn6 := I0.keep hn5 c6a.keep c5.okP.at_ (fun a x w => ap5 a x (.inl w)) c6a.zle
                        have ow6 := ow5.keep c6a.keep c5.okP.at_ c6a.zle
                        have lav : ks.length = avs.length := lkd.trans (vs_len ra6).symm
                        refine ⟨ks.zip avs, key, hv5, hD6, by rw [zip_len lav]; exact big_sz (by omega), ?_⟩
                        obtain ⟨bvs, w1, w2, w3, w4, w5⟩ := put_rep (k := key) nd lkd ra6 rdx
                        have ok6 : OkS (uni P6 (uni Pn (one D))) Z6 H6 := c6.ok
                        have q1 : OkP (one D) Z6 H6 := one_ok ok6.at_ (.inr (.inr rfl))
                        have kD : Keep (one D) H6 (upd H6 D (.dK (putK (ks.zip avs) key v6))) := keep_upd
                        refine nxt (repL_keep p6.rl kD q1 (fun a x w => n6 (by rw [← show a = D from x]; exact w)) fun _ x => x) (I0.keep hn6 kD q1 (fun a x w => dnA (by rw [← show a = D from x]; exact w)) fun _ x => x) (by rw [upd_same, w1]) w2 w3 (repL_keep w4 kD q1 (fun _ _ z => z.elim) fun _ x => x) (fun a x w => ap6 a x (.inl w)) n6
                          (c6.trans0 (ch_upd ok6 (.inr (.inr rfl)) trivial)) (by omega) (ow6.keep kD q1 fun _ x => x) lp
        · have ei : i = its.length := by omega
          subst ei
          refine .inl ⟨I0.stop hh, ?_⟩
          rw [List.drop_length] at lp
          have lp' : (O.ok (ks, ds) e2 true : O (List Key × List OL.D)) = .ok accF eF tF := lp
          cases lp'
          have rb := repL_back ow ho rl2
          have res : Rep C H2 Z2 (.dct ks ds) (.ref D) (one D) := ⟨D, avs, rfl, rfl, lkd, hD, repL_mono ra fun _ z => z.elim⟩
          cases lk with
          | none => exact h (.ref D) P2 (one D) Z2 H2 ⟨rb, res, fun a x w => d2 (by rw [← show a = D from w]; exact x), cc.sub fun a x => x.imp id .inr, fun z => by cases z⟩
          | some id =>
            obtain ⟨j, d⟩ := id
            obtain ⟨v, ev, hv⟩ := lkh j d rfl
            have q := repL_put rb (by rw [← repL_len rb]; exact (List.getElem?_eq_some_iff.mp ev).1) (hv _ H2 Z2 Pi2 hh) fun a x w => d1 a w x
            rw [set_same_opt ev] at q
            refine h (.ref D) (uni P2 Pi2) (one D) Z2 H2 ⟨q, res, fun a x w => x.elim (fun z => d2 (by rw [← show a = D from w]; exact z)) fun z => d3 (by rw [← show a = D from w]; exact z), cc.sub fun a x => ?_, fun z => by cases z⟩
            rcases x with (x | x) | x
            · exact .inl x
            · exact .inr (.inl x)
            · exact .inr (.inr x)
    · simp only [hcond, if_false] at h
end
section
variable {X : Cx} {C : Ct} {W : WX} {kx vx tgx iter : Expr} {ifs : List Expr} {scope : Scope} {own : List (Str × Nat)} {pos : Pos} {si : SI} {g : GT} {b : SB} {fk fe : SE}
theorem e_dc (hc : X.calm = true) (hN : X.N.Nodup) (hi : PI X tgx iter (ti C W si)) (ok : BlkOk X.N X.env.scope scope own)
    (hg : ∀ s H (Ca : Addr) cl fp, PG (X.blk s H scope (compEnvC scope cl Ca X.env) fp) tgx (tg C (fxO (own.map (·.2))) g)) (ht : ∀ s H (Ca : Addr) cl fp, PTs (X.blk s H scope (compEnvC scope cl Ca X.env) fp) ifs (tb C W0 b))
    (hk : ∀ s H (Ca : Addr) cl fp, PE (X.blk s H scope (compEnvC scope cl Ca X.env) fp) kx (tf C W0 fk)) (he : ∀ s H (Ca : Addr) cl fp, PE (X.blk s H scope (compEnvC scope cl Ca X.env) fp) vx (tf C W0 fe)) (hs : ∀ x, foldedSetIterable iter X.env x = pure x := by intro _; rfl) :
    PE X (.DictComp kx vx [⟨tgx, iter, ifs, 0⟩] scope pos) (tf C W (fDComp si (own.map (·.2)) g b fk fe)) := pe_imp (pe_dc hc hN hi ok hg ht hk he hs) fun _ _ _ h => tf_dcomp fxO_ok h
end
end OL

/-! The O layer, 32: displays of dicts with written keys. -/
namespace OL
open PySem PySem.Spec PyProof.Rows L2
def lAll : List SE → SA
  | [] => lNil
  | f :: fs => lCons f (lAll fs)
def trsOf (C : Ct) (W : WX) : List (Key × SE) → List (TE × TE)
  | [] => []
  | (k, f) :: r => (tC (kV k), tf C W f) :: trsOf C W r
def fDisp (kfs : List (Key × SE)) : SE := fun env => (lAll (kfs.map (·.2)) env).bind fun rs e1 t1 => match tkA rs e1 with
  | none => .bad
  | some (ds, e2) => if (kfs.map (·.1)).Nodup ∧ kfs.length ≤ 15 then .ok (.val (.dct (kfs.map (·.1)) ds)) e2 (t1 || anyP rs) else .bad
section
variable {C : Ct} {W : WX} {σ : L2.St} {H : Hp}
theorem tf_mono {f : SE} {Q Q' : VK} (h : tf C W f σ H Q) (i : ∀ v H, Q v H → Q' v H) : tf C W f σ H Q' := by
  obtain ⟨env, P, Z, rl, ok, h⟩ := h
  refine ⟨env, P, Z, rl, ok, ?_⟩
  cases e : f env with
  | bad => rw [e] at h; exact h
  | exc x ds e1 => rw [e] at h; exact h
  | ok r e1 t => rw [e] at h; exact fun v P' Pv Z' H' q => i v H' (h v P' Pv Z' H' q)
theorem pairs_of : ∀ {kfs : List (Key × SE)} {H : Hp} {Q : List (V × V) → Hp → Prop}, tl C W (lAll (kfs.map (·.2))) σ H (fun vs H' => Q ((kfs.map fun kf => kV kf.1).zip vs) H') → tPairs (trsOf C W kfs) σ H Q
  | [], H, Q, h => tl_nil h
  | (k, f) :: r, H, Q, h => tf_mono (tl_cons h) fun v H1 q => pairs_of (Q := fun ps H3 => Q ((kV k, v) :: ps) H3) q
theorem merge_new : ∀ {more acc : List (Key × V)}, (more.map (·.1)).Nodup → (∀ k ∈ more.map (·.1), valV acc k = none) → mergeK acc more = acc ++ more
  | [], acc, _, _ => (List.append_nil acc).symm
  | (k, v) :: more, acc, nd, h => by
    have nd : k ∉ more.map (·.1) ∧ (more.map (·.1)).Nodup := List.nodup_cons.mp (by simpa using nd)
    show mergeK (putK acc k v) more = _
    rw [putK_new v (h k List.mem_cons_self), merge_new nd.2 fun j hj => ?_, List.append_assoc]
    · rfl
    · have e : j ≠ k := fun e => nd.1 (by rw [← e]; exact hj)
      rw [valV_snoc k j v acc (h k List.mem_cons_self), if_neg e]
      exact h j (List.mem_cons_of_mem _ hj)
theorem tf_disp {kfs : List (Key × SE)} {Q : VK} (h : tf C W (fDisp kfs) σ H Q) : tDisp (trsOf C W kfs) σ H Q := by
  obtain ⟨env, P, Z, rl, ok, h⟩ := h
  intro p np
  refine pairs_of ?_
  have k1 : Keep emp H (upd H p (.dK [])) := keep_new np
  have nP : ¬ P p := fun x => by
    obtain ⟨_, o, e, _⟩ := ok.at_ p x
    rw [np] at e; cases e
  have nZ : ¬ Z p := fun z => ok.zt p z np
  have c0 : Ch P Z H (uni P (one p)) Z (upd H p (.dK [])) := Ch.grow k1 ok (fun a x => by rw [show a = p from x]; exact np) fun a x => by
    rw [show a = p from x]
    exact ⟨nZ, HO.dK [], upd_same, trivial⟩
  have dj0 : Dis P (one p) := fun a x y => nP (by rw [← show a = p from y]; exact x)
  refine ⟨env, P, Z, repL_keep rl k1 OkP.emp (fun _ z => z.elim) fun _ x => x, c0.okP, ?_⟩
  unfold fDisp at h
  cases ea : lAll (kfs.map (·.2)) env with
  | bad => rw [ea] at h; exact h
  | exc x ds e =>
    rw [ea] at h
    exact fun cls dd P' Px Z' H' q => h cls dd P' Px Z' H' (q.up c0 dj0)
  | ok rs e1 t1 =>
    simp only [ea, O.bind] at h
    intro vs P1 Pv1 Z1 H1 p1
    cases et : tkA rs e1 with
    | none => simp only [et] at h
    | some x =>
      obtain ⟨ds, e2⟩ := x
      simp only [et] at h
      by_cases hc : (kfs.map (·.1)).Nodup ∧ kfs.length ≤ 15
      · rw [if_pos hc] at h
        obtain ⟨P3, Pa, rl3, rd, dj3, c2, pu⟩ := taken p1 et
        have h2 : H1 p = some (.dK []) := c2.keep p _ upd_same nP
        have hl : kfs.length = vs.length := by
          have a1 : vs.length = rs.length := repRs_len p1.res
          have a2 : ∀ {l : List SE} {env e1 : Env} {rs : List R} {t : Bool}, lAll l env = .ok rs e1 t → rs.length = l.length := by
            intro l
            induction l with
            | nil => intro env e1 rs t h; cases h; rfl
            | cons f l ih =>
              intro env e1 rs t h
              have h : ((f env).bind fun ra e1 t1 => (lAll l e1).bind fun rs e2 t2 => if okR ra t2 then .ok (ra :: rs) e2 (t1 || t2) else .bad) = .ok rs e1 t := h
              cases e3 : f env with
              | bad => rw [e3] at h; cases h
              | exc x ds e => rw [e3] at h; cases h
              | ok ra e4 t4 =>
                simp only [e3, O.bind] at h
                cases e5 : lAll l e4 with
                | bad => simp only [e5] at h; cases h
                | exc x ds e => simp only [e5] at h; cases h
                | ok rs2 e6 t6 =>
                  simp only [e5] at h
                  cases w : okR ra t6 with
                  | false => rw [w] at h; cases h
                  | true =>
                    rw [w] at h
                    cases h
                    rw [List.length_cons, List.length_cons, ih e5]
          rw [a1, a2 ea, List.length_map]
        refine ⟨h2, (kfs.map (·.1)).zip vs, ?_, by rw [List.length_zip, List.length_map]; omega, ?_⟩
        · clear h et rd hc h2 pu
          have : ∀ (kfs : List (Key × SE)) (vs : List V), (kfs.map fun kf => kV kf.1).zip vs = ((kfs.map (·.1)).zip vs).map fun kv => (kV kv.1, kv.2) := by
            intro kfs
            induction kfs with
            | nil => intro vs; rfl
            | cons a kfs ih =>
              intro vs
              cases vs with
              | nil => rfl
              | cons v vs => simp only [List.map_cons, List.zip_cons_cons, ih vs]
          exact this kfs vs
        · have em : mergeK [] ((kfs.map (·.1)).zip vs) = (kfs.map (·.1)).zip vs := by
            rw [merge_new (by rw [List.map_fst_zip (by rw [List.length_map]; omega)]; exact hc.1) fun _ _ => rfl]
            rfl
          rw [em]
          have cT := c0.trans dj0 c2
          have apT := c0.apart dj0 c2
          have pn3 : ¬ P3 p := fun x => apT p (.inl x) rfl
          have pna : ¬ Pa p := fun x => apT p (.inr x) rfl
          have okT := cT.ok
          have q1 : OkP (one p) Z1 H1 := one_ok okT.at_ (.inr rfl)
          have kD : Keep (one p) H1 (upd H1 p (.dK ((kfs.map (·.1)).zip vs))) := keep_upd
          have rl4 := repL_keep rl3 kD q1 (fun a x w => pn3 (by rw [← show a = p from x]; exact w)) fun _ x => x
          have rd4 := repL_keep rd kD q1 (fun a x w => pna (by rw [← show a = p from x]; exact w)) fun _ x => x
          refine h (.ref p) P3 (uni Pa (one p)) Z1 _ ⟨rl4, ⟨p, vs, rfl, .inr rfl, by rw [List.length_map, hl]; exact vs_len rd, upd_same, repL_mono rd4 fun a x => ⟨.inl x, fun e => pna (by rw [← e]; exact x)⟩⟩, fun a x y => ?_, (cT.trans0 (ch_upd (o := .dK ((kfs.map (·.1)).zip vs)) okT (.inr rfl) trivial)).sub fun a x => ?_, fun ht => ?_⟩
          · rcases y with y | y
            · exact dj3 a x y
            · exact pn3 (by rw [← show a = p from y]; exact x)
          · rcases x with x | x | x
            · exact .inl (.inl x)
            · exact .inl (.inr x)
            · exact .inr x
          · obtain ⟨b1, b2, b3⟩ := pu ht
            refine ⟨b1, b2, fun a o e m => ?_⟩
            have hne : a ≠ p := fun z => by rw [z, np] at e; cases e
            rw [upd_ne hne]
            exact b3 a o (k1 a o e m) m
      · rw [if_neg hc] at h; exact h.elim
end
section
variable {X : Cx} {C : Ct} {W : WX} {pos : Pos} {keys : List (Option Expr)} {values : List Expr} {kfs : List (Key × SE)} {e : Expr} {f : SE}
theorem dd_nil : PPs X pos [] [] (trsOf C W []) := pps_nil
theorem dd_str {x : Str} {j p} (he : PE X e (tf C W f)) (hr : PPs X pos keys values (trsOf C W kfs)) : PPs X pos (some (.Constant (.str x) j p) :: keys) (e :: values) (trsOf C W ((Sum.inr x, f) :: kfs)) := pps_cons pe_str he hr
theorem dd_int {x : Int} {j p} (he : PE X e (tf C W f)) (hr : PPs X pos keys values (trsOf C W kfs)) : PPs X pos (some (.Constant (.int x) j p) :: keys) (e :: values) (trsOf C W ((Sum.inl x, f) :: kfs)) := pps_cons pe_int he hr
theorem e_disp (h : PPs X pos keys values (trsOf C W kfs)) (hall : keys.all (·.isSome) = true := by rfl) (hl : keys.length = values.length := by rfl) (h0 : keys ≠ [] := by simp) (h15 : keys.length ≤ 15 := by decide) : PE X (.Dict keys values pos) (tf C W (fDisp kfs)) :=
  pe_imp (pe_disp h hall hl h0 h15) fun _ _ _ q => tf_disp q
end
end OL

/-! The O layer, 33: dicts compared. -/
namespace OL
open PySem PySem.Spec PyProof.Rows L2
inductive HitsV (K : PySem.W.Frag) (H : Hp) (ls : List (Key × V)) : List (Key × V) → Bool → Prop
  | nil : HitsV K H ls [] true
  | miss {k : Key} {v : V} {r : List (Key × V)} : valV ls k = none → HitsV K H ls ((k, v) :: r) false
  | hit {k : Key} {v u : V} {d e : PyData} {r : List (Key × V)} {b : Bool} : valV ls k = some u → Dp K H v d → Dp K H u e → SeqAt.shaped d = true → SeqAt.shaped e = true → HitsV K H ls r b → HitsV K H ls ((k, v) :: r) (PyData.eqv d e && b)
def rDq (K : PySem.W.Frag) (f : Bool → Bool) : R2 := fun x y H Q => ∃ a b ks ls r, x = .ref a ∧ y = .ref b ∧ H a = some (.dK ks) ∧ H b = some (.dK ls) ∧ HitsV K H ls ks r ∧ Q (.bl (f (ks.length == ls.length && r))) H
section
variable {X : Cx}
theorem hits_of {pins : List (Addr × Obj)} {σ : L2.St} {H : Hp} {s : Shared} {A : Around} (I : Inv X pins σ H s) (hu : A.units + 64 < cLine) {ls : List (Key × V)} {vb : List (Key × Value)} (rb : KV ls vb) {ks : List (Key × V)} {r : Bool} (h : HitsV X.K H ls ks r) : ∀ {va : List (Key × Value)}, KV ks va → PySem.W.KeqHits A s vb va r := by
  induction h with
  | nil => intro va ra; cases ra; exact .nil
  | @miss k v rr hn =>
    intro va ra
    cases ra with
    | @cons p q ps qs h1 h2 =>
      obtain ⟨kq, vq⟩ := q
      have e : k = kq := h1.1
      subst e
      have := rb.val k
      rw [hn] at this
      cases hb : valueAt vb k with
      | none => exact .miss hb
      | some w => rw [hb] at this; exact absurd this (by simp [RelO])
  | @hit k v u d e rr b hv dv du sd se hr ih =>
    intro va ra
    cases ra with
    | @cons p q ps qs h1 h2 =>
      obtain ⟨kq, vq⟩ := q
      have e1 : k = kq := h1.1
      subst e1
      have rv : RelV v vq := h1.2
      obtain ⟨w, hw, rw'⟩ := RelO.some_of (v := u) (o := valueAt vb k) (by rw [← hv]; exact rb.val k)
      obtain ⟨as, r1⟩ := Dp.reads I d v vq dv rv
      obtain ⟨bs, r2⟩ := Dp.reads I e u w du rw'
      exact .hit hw (SeqAt.eqAt_reads d e A s vq w as bs r1 r2 (SeqAt.canLay_of_shaped sd) (SeqAt.canLay_of_shaped se) (SeqAt.room_of_shaped sd hu)) (ih h2)
theorem op_eqDq (hu : X.A.units + 65 < cLine) : OpR X (compareOp .Eq) (rDq X.K id) := by
  rintro pins s σ H x y v u Q I rx ry ⟨a, b, ks, ls, r, rfl, rfl, ea, eb, hh, q⟩
  cases rx
  cases ry
  obtain ⟨_, ya, va, ra, da⟩ := (show ObjOk X.prog X.w H s.heap a (.dK ks) from I.hok a _ ea)
  obtain ⟨_, yb, vb, rb, db⟩ := (show ObjOk X.prog X.w H s.heap b (.dK ls) from I.hok b _ eb)
  refine PySem.W.keq_eq (knd := mixKind X.prog X.w) (r := r) ya yb da db (by omega) (fun _ => hits_of I (by show X.A.units + 1 + 64 < cLine; omega) rb hh ra) ?_
  rw [← ra.length, ← rb.length]
  exact ⟨.bl _, H, I, rfl, q⟩
theorem op_neDq (hu : X.A.units + 65 < cLine) : OpR X (compareOp .NotEq) (rDq X.K Bool.not) := by
  rintro pins s σ H x y v u Q I rx ry ⟨a, b, ks, ls, r, rfl, rfl, ea, eb, hh, q⟩
  cases rx
  cases ry
  obtain ⟨_, ya, va, ra, da⟩ := (show ObjOk X.prog X.w H s.heap a (.dK ks) from I.hok a _ ea)
  obtain ⟨_, yb, vb, rb, db⟩ := (show ObjOk X.prog X.w H s.heap b (.dK ls) from I.hok b _ eb)
  refine PySem.W.keq_ne (knd := mixKind X.prog X.w) (r := r) ya yb da db (by omega) (fun _ => hits_of I (by show X.A.units + 1 + 64 < cLine; omega) rb hh ra) ?_
  rw [← ra.length, ← rb.length]
  exact ⟨.bl _, H, I, rfl, q⟩
end
/-! ### on data -/
def hitsD (ls : List Key) (es : List D) : List Key → List D → Option Bool
  | [], [] => some true
  | k :: ks, d :: ds => match ls.idxOf? k with
    | none => some false
    | some j => (es[j]?).bind fun e => d.py.bind fun p => e.py.bind fun q => if SeqAt.shaped p && SeqAt.shaped q then (hitsD ls es ks ds).map (PyData.eqv p q && ·) else none
  | _, _ => none
def dctD : D → Option (List Key × List D)
  | .dct ks ds => some (ks, ds)
  | .fdc ks ds => some (ks, ds)
  | _ => none
def gDq (f : Bool → Bool) (a b : D) : Option D := (dctD a).bind fun x => (dctD b).bind fun y => (hitsD y.1 y.2 x.1 x.2).map fun r => .bl (f (x.1.length == y.1.length && r))
section
variable {C : Ct} {H : Hp} {Z : As}
theorem hitsV_of {ls : List Key} {es : List D} {ws : List V} {P2 : As} (ll : ls.length = ws.length) (r2 : RepL C H Z es (ws.map some) P2) : ∀ {ks : List Key} {ds : List D} {vs : List V} {P : As} {r : Bool}, ks.length = vs.length → RepL C H Z ds (vs.map some) P → hitsD ls es ks ds = some r → HitsV C.K H (ls.zip ws) (ks.zip vs) r
  | [], [], vs, P, r, hl, rr, h => by
    cases (show some true = some r from h)
    exact .nil
  | k :: ks, d :: ds, [], P, r, hl, rr, h => by cases hl
  | k :: ks, d :: ds, v :: vs, P, r, hl, ⟨o, os', P1, P3, e, hd, rr, s⟩, h => by
    have e1 : some v = o ∧ vs.map some = os' := List.cons.inj e
    obtain ⟨e1, e2⟩ := e1
    subst e1 e2
    rw [List.zip_cons_cons]
    cases ei : ls.idxOf? k with
    | none =>
      simp only [hitsD, ei] at h
      cases h
      exact .miss (valV_zip0 ei)
    | some j =>
      simp only [hitsD, ei] at h
      obtain ⟨ej, h1, h2⟩ := Option.bind_eq_some_iff.mp h
      obtain ⟨p, h3, h4⟩ := Option.bind_eq_some_iff.mp h2
      obtain ⟨q, h5, h6⟩ := Option.bind_eq_some_iff.mp h4
      cases es' : (SeqAt.shaped p && SeqAt.shaped q) with
      | false => rw [es'] at h6; cases h6
      | true =>
        rw [es'] at h6
        obtain ⟨b, h7, h8⟩ := Option.map_eq_some_iff.mp (show (hitsD ls es ks ds).map (PyData.eqv p q && ·) = some r from h6)
        subst h8
        rw [Bool.and_eq_true] at es'
        have ne : ej.mv = false := by cases ej <;> first | rfl | (cases h5)
        obtain ⟨w, P4, e5, _, rd⟩ := items_at r2 h1 ne
        have dv : Dp C.K H v p := by
          rcases hd with hd | ⟨v', ev, hd⟩
          · subst hd; cases h3
          · cases ev; exact dp_of hd h3
        exact .hit (valV_zip ei e5) dv (dp_of rd h5) es'.1 es'.2 (hitsV_of ll r2 (by simpa using hl) rr h7)
theorem o2_dq {f : Bool → Bool} : Op2 C (rDq C.K f) (gDq f) := fun H Z da db x y d Q hz ra rb hg k => by
  obtain ⟨x1, e1, h2⟩ := Option.bind_eq_some_iff.mp hg
  obtain ⟨y1, e2, h3⟩ := Option.bind_eq_some_iff.mp h2
  obtain ⟨r, e3, e4⟩ := Option.map_eq_some_iff.mp h3
  subst e4
  have at_ : ∀ {d : D} {v : V} {z : List Key × List D}, dctD d = some z → Rd1 C H Z d v → ∃ a vs P, v = .ref a ∧ H a = some (.dK (z.1.zip vs)) ∧ z.1.length = vs.length ∧ RepL C H Z z.2 (vs.map some) P := fun {d v z} hd r => by
    cases d <;> simp only [dctD] at hd <;> cases hd
    · exact dk_at r (.inl rfl)
    · exact dk_at r (.inr rfl)
  obtain ⟨a, vs, P, ex, ha, la, r1⟩ := at_ e1 ra
  obtain ⟨b, ws, P', ey, hb, lb, r2⟩ := at_ e2 rb
  refine ⟨a, b, _, _, r, ex, ey, ha, hb, hitsV_of lb r2 la r1 e3, ?_⟩
  rw [zip_len la, zip_len lb]
  exact k _ emp H (.sc rfl)
end
section
variable {X : Cx} {C : Ct} {W : WX} {a b : Expr} {fa fb : SE} {pos : Pos}
/-- == and != of dicts -/
theorem c_eqD (hK : X.K = C.K) (hu : X.A.units + 65 < cLine) (ha : PE X a (tf C W fa)) (hb : PE X b (tf C W fb)) : PE X (.Compare a [.Eq] [b] pos) (tf C W (fTwo fa fb (gDq id))) := e_cmp (op_eqDq hu) (by rw [hK]; exact o2_dq) ha hb (nomark _)
theorem c_neD (hK : X.K = C.K) (hu : X.A.units + 65 < cLine) (ha : PE X a (tf C W fa)) (hb : PE X b (tf C W fb)) : PE X (.Compare a [.NotEq] [b] pos) (tf C W (fTwo fa fb (gDq Bool.not))) := e_cmp (op_neDq hu) (by rw [hK]; exact o2_dq) ha hb (nomark _)
theorem t_eqD (hK : X.K = C.K) (hu : X.A.units + 65 < cLine) (ha : PE X a (tf C W fa)) (hb : PE X b (tf C W fb)) : PT X (.Compare a [.Eq] [b] pos) (tb C W (bVal (fTwo fa fb (gDq id)))) := t_cmp (op_eqDq hu) (by rw [hK]; exact o2_dq) ha hb (nomark _)
theorem t_neD (hK : X.K = C.K) (hu : X.A.units + 65 < cLine) (ha : PE X a (tf C W fa)) (hb : PE X b (tf C W fb)) : PT X (.Compare a [.NotEq] [b] pos) (tb C W (bVal (fTwo fa fb (gDq Bool.not)))) := t_cmp (op_neDq hu) (by rw [hK]; exact o2_dq) ha hb (nomark _)
end
end OL

/-! The O layer, 34: a dict that the module has written; defs whose last parameters have defaults; range(a, b). -/
namespace OL
open PySem PySem.Spec PyProof.Rows L2
/-- a written dict with texts as keys: its table -/
structure KTab (K : PySem.W.Frag) (w : World) (d : Addr) (tab : List (Str × D)) : Prop where
  dict : ∃ es n, KDict K w d es n
  ktab : ∀ z u, PySem.W.nsIn K d z = some (some u) → ∀ v, RelV v u → KDct K w d z v
  no : ∀ z, tab.lookup z = none → PySem.W.nsIn K d z = some none
  yes : ∀ z x, tab.lookup z = some x → ∃ u v, PySem.W.nsIn K d z = some (some u) ∧ RelV v u ∧ ∀ cl fv H Z, Rep ⟨K, cl, fv⟩ H Z x v emp
def gInK (tab : List (Str × D)) (f : Bool → Bool) : D → Option D
  | .str z => some (.bl (f (tab.lookup z).isSome))
  | _ => none
def gIxK (tab : List (Str × D)) : D → Option D
  | .str z => tab.lookup z
  | _ => none
section
variable {X : Cx} {cl : Nat → Option Cli} {fv : Nat → Option Addr} {W : WX} {a : Expr} {fa : SE} {d : Addr} {tab : List (Str × D)} {x : Str} {pos p : Pos}
theorem o1_inK {K : PySem.W.Frag} {w : World} (T : KTab K w d tab) {f : Bool → Bool} : Op1 ⟨K, cl, fv⟩ (fun x H Q => ∃ (z : Str) (r : Option Value), x = .str z ∧ V.ref d = .ref d ∧ PySem.W.nsIn K d z = some r ∧ Q (.bl (f r.isSome)) H) (gInK tab f) := fun H Z da x d0 Q hz ra hg k => by
  cases da <;> simp only [gInK] at hg <;> cases hg
  rename_i z
  cases e : tab.lookup z with
  | none => exact ⟨z, none, rd_sc_str ra, rfl, T.no z e, by rw [e] at k; exact k _ emp H (.sc rfl)⟩
  | some y =>
    obtain ⟨u, v, h1, _, _⟩ := T.yes z y e
    exact ⟨z, some u, rd_sc_str ra, rfl, h1, by rw [e] at k; exact k _ emp H (.sc rfl)⟩
theorem o1_ixK {K : PySem.W.Frag} {w : World} (T : KTab K w d tab) : Op1 ⟨K, cl, fv⟩ (fun x H Q => rIxD K w (.ref d) x H Q) (gIxK tab) := fun H Z da x d0 Q hz ra hg k => by
  cases da <;> simp only [gIxK] at hg <;> first | cases hg | skip
  rename_i z
  obtain ⟨u, v, h1, h2, h3⟩ := T.yes z _ hg
  exact ⟨d, z, v, rfl, rd_sc_str ra, T.ktab z u h1 v h2, k v emp H (.sc (h3 cl fv H Z))⟩
theorem c_inK (T : KTab X.K X.w d tab) (ha : PE X a (tf ⟨X.K, cl, fv⟩ W fa)) (hm : X.mg x = some (.ref d)) (hg : Gl X x := by rfl) (hd : (x == ("__debug__" : Str)) = false := by decide) (hmk : behindInMarks .In (.Name x p) = false := by rfl) : PE X (.Compare a [.In] [.Name x p] pos) (tf ⟨X.K, cl, fv⟩ W (fOne fa (gInK tab id))) := by
  obtain ⟨es, n, D⟩ := T.dict
  exact pe_imp (pe_cmpR (op_in_kd D) ha (pe_glob (v := .ref d) hg hm rfl hd) hmk) fun _ _ _ h => tf_one (o1_inK T) h
theorem t_notinK (T : KTab X.K X.w d tab) (ha : PE X a (tf ⟨X.K, cl, fv⟩ W fa)) (hm : X.mg x = some (.ref d)) (hg : Gl X x := by rfl) (hd : (x == ("__debug__" : Str)) = false := by decide) (hmk : behindInMarks .NotIn (.Name x p) = false := by rfl) : PT X (.Compare a [.NotIn] [.Name x p] pos) (tb ⟨X.K, cl, fv⟩ W (bVal (fOne fa (gInK tab Bool.not)))) := by
  obtain ⟨es, n, D⟩ := T.dict
  refine pt_imp (pt_cmpR (op_notIn_kd D) ha (pe_glob (v := .ref d) hg hm rfl hd) hmk) fun σ H Q h => ?_
  exact tf_one (Q := fun x H' => ∃ k, x = .bl k ∧ Q k H') (o1_inK T) (tb_val h)
theorem t_inK (T : KTab X.K X.w d tab) (ha : PE X a (tf ⟨X.K, cl, fv⟩ W fa)) (hm : X.mg x = some (.ref d)) (hg : Gl X x := by rfl) (hd : (x == ("__debug__" : Str)) = false := by decide) (hmk : behindInMarks .In (.Name x p) = false := by rfl) : PT X (.Compare a [.In] [.Name x p] pos) (tb ⟨X.K, cl, fv⟩ W (bVal (fOne fa (gInK tab id)))) := by
  obtain ⟨es, n, D⟩ := T.dict
  refine pt_imp (pt_cmpR (op_in_kd D) ha (pe_glob (v := .ref d) hg hm rfl hd) hmk) fun σ H Q h => ?_
  exact tf_one (Q := fun x H' => ∃ k, x = .bl k ∧ Q k H') (o1_inK T) (tb_val h)
theorem x_itemK (T : KTab X.K X.w d tab) (ha : PE X a (tf ⟨X.K, cl, fv⟩ W fa)) (hm : X.mg x = some (.ref d)) (hg : Gl X x := by rfl) (hd : (x == ("__debug__" : Str)) = false := by decide) (hs : PlainIx a := by intro _ _; rfl) : PE X (.Subscript (.Name x p) a pos) (tf ⟨X.K, cl, fv⟩ W (fOne fa (gIxK tab))) :=
  pe_imp (pe_ix ix_kdict (pe_glob (v := .ref d) hg hm rfl hd) ha hs) fun _ _ _ h => tf_one (r := fun x H Q => rIxD X.K X.w (.ref d) x H Q) (o1_ixK T) h
end
end OL

/-! The O layer, 35: chains' rules, range(a, b). -/
namespace OL
open PySem PySem.Spec PyProof.Rows L2
section
variable {X : Cx} {C : Ct} {W : WX} {a b c : Expr} {fa fb fc : SE} {pos : Pos} {op op' : CmpOp} {r r' : R2} {g g' : D → D → Option D}
theorem x_chain (ho : OpR X (compareOp op) r) (ho' : OpR X (compareOp op') r') (o : Op2 C r g) (o' : Op2 C r' g') (ha : PE X a (tf C W fa)) (hb : PE X b (tf C W fb)) (hc : PE X c (tf C W fc)) (hm : lastMarks [op, op'] [b, c] = false := by with_unfolding_all rfl) :
    PE X (.Compare a [op, op'] [b, c] pos) (tf C W (fChain g g' fa fb fc)) := pe_imp (pe_chain ho ho' ha hb hc hm) fun _ _ _ h => tf_chain o o' h
theorem xt_chain (ho : OpR X (compareOp op) r) (ho' : OpR X (compareOp op') r') (o : Op2 C r g) (o' : Op2 C r' g') (ha : PE X a (tf C W fa)) (hb : PE X b (tf C W fb)) (hc : PE X c (tf C W fc)) (hm : lastMarks [op, op'] [b, c] = false := by with_unfolding_all rfl) :
    PT X (.Compare a [op, op'] [b, c] pos) (tb C W (bVal (fChain g g' fa fb fc))) := pt_imp (pt_chain ho ho' ha hb hc hm) fun _ _ _ h => tf_chain o o' (tb_val h)
end
/-! -e -/
def gNeg : D → Option D
  | .int i => some (.int (-i))
  | _ => none
section
variable {X : Cx} {C : Ct} {W : WX} {a : Expr} {fa : SE} {pos : Pos}
theorem o1_neg : Op1 C (rU fun i => .int (-i)) gNeg := fun H Z da x d Q hz ra hg k => by
  cases da <;> simp only [gNeg] at hg <;> cases hg
  exact ⟨_, rd_sc_int ra, k _ emp H (.sc rfl)⟩
theorem e_neg (ha : PE X a (tf C W fa)) : PE X (.UnaryOp .USub a pos) (tf C W (fOne fa gNeg)) := e_un un_neg o1_neg ha
end
end OL
namespace OL
open PySem PySem.Spec PyProof.Rows L2
theorem hu65 {A : Around} {k : Nat} (hr : Room k A) : A.units + 65 < cLine := by have := hr.un; omega
end OL

/-! The O layer, 36: the script that is handed in. -/
namespace OL
open PySem PySem.Spec PyProof.Rows L2
theorem sp_start {K : PySem.W.Frag} {cl : Nat → Option Cli} {F : FS} {H : Hp} {a : Addr} {ns : List Int} {ds' : List D} (hO : Only H) (hS : SqL K H a (ns.map V.int)) (hF : F [.fls (ns.map .int)] = .ok (.bl true) ds') :
    spX K cl 1 F [.ref a] H (fun v _ => v = .bl true) fun _ _ _ => False := by
  have fr : FrL ⟨K, cl, fun _ => none⟩ H emp a (ns.map V.int) := by
    rcases hS with (h | ⟨o, h⟩) | h
    · rcases hO a with z | ⟨o, xs, z⟩
      · rw [z] at h; cases h
      · rw [z] at h; cases h
    · exact .inr (.inl ⟨o, h⟩)
    · exact .inr (.inr h)
  refine ⟨fun _ => none, rfl, [.fls (ns.map .int)], emp, emp, ⟨some (.ref a), [], emp, emp, rfl, .inr ⟨_, rfl, a, _, rfl, fr, rep_ints ns⟩, rfl, ⟨fun _ z => z, fun _ z => z, fun _ z => z.elim⟩⟩, ⟨OkP.emp, fun _ z => z.elim⟩, ?_⟩
  rw [hF]
  exact fun v P' Pv Z' H' _ rv _ _ => rv
end OL

/-! The O layer, 37: what the top has written, by one look of the kernel. -/
namespace OL
open PySem PySem.Spec PyProof.Rows L2
/-! ### where things stand -/
abbrev Pth := PySem.W.Frag → Addr
def pG (x : Str) : Pth := fun K => He.ga K x
def pM (c m : Str) : Pth := fun K => He.ma K (He.ga K c) m
/-- what a property calls -/
def pP (c m : Str) : Pth := fun K => match PySem.W.recIn K (He.ma K (He.ga K c) m) "property" with
  | some (.ref g :: _) => g
  | _ => 0
/-! ### facts -/
abbrev Fk := PySem.W.Frag → Bool
def kFree (x : Str) : Fk := fun K => (He.Fa.free x).ok K
def kGlo (x : Str) : Fk := fun K => (He.Fa.glo x).ok K
def kInt (x : Str) (i : Int) : Fk := fun K => (He.Fa.int x i).ok K
def kStr (x z : Str) : Fk := fun K => (He.Fa.str x z).ok K
def kTup (x : Str) (vs : List He.Dv) : Fk := fun K => He.tupB K x vs
def kCls (x : Str) : Fk := fun K => (He.Fa.cls x).ok K
def kNo (x f : Str) : Fk := fun K => (He.Fa.noat x f).ok K
def kMeth (x m : Str) : Fk := fun K => (He.Fa.meth x m).ok K
def kMk (x : Str) : Fk := fun K => (He.Fa.mkr x).ok K
def kProp (c m : Str) : Fk := fun K => He.eqO (PySem.W.findIn K (.ref (He.ga K c)) m) (some (some (.ref (He.ma K (He.ga K c) m)))) &&
  (He.eqO (PySem.W.specialIn K (.ref (He.ma K (He.ga K c) m)) "__get__") (some (some (.builtin "property.__get__"))) &&
    (decide (PySem.W.takesIn K (.ref (He.ma K (He.ga K c) m)) = some true) && (match PySem.W.recIn K (He.ma K (He.ga K c) m) "property" with
      | some (.ref _ :: _) => true
      | _ => false)))
theorem kProp_ok {K : PySem.W.Frag} {c m : Str} (h : kProp c m K = true) : PropOf K (pG c K) m (He.ma K (He.ga K c) m) (pP c m K) := by
  obtain ⟨h1, h⟩ := He.ba h
  obtain ⟨h2, h⟩ := He.ba h
  obtain ⟨h3, h4⟩ := He.ba h
  refine ⟨He.eqO_ok h1, He.eqO_ok h2, of_decide_eq_true h3, ?_⟩
  unfold pP
  cases e : PySem.W.recIn K (He.ma K (He.ga K c) m) "property" with
  | none => rw [e] at h4; cases h4
  | some l =>
    rw [e] at h4
    cases l with
    | nil => cases h4
    | cons u r =>
      cases u with
      | ref g => exact ⟨r, rfl⟩
      | _ => cases h4
/-! ### defs -/
structure DefP where
  at_ : Pth
  name : Str
  qual : Str
  params : Arguments
  body : List Stmt
  scope : Scope
  dfl : List He.Dv := []
def fnP (K : PySem.W.Frag) (d : DefP) : He.FnW := match K.lookup (d.at_ K) with
  | some ⟨_, _, .func fd, _⟩ => some (fd.name, fd.qualname, fd.params, fd.body, fd.scope, fd.globals, fd.closure, fd.builtins)
  | _ => none
def DefP.val (d : DefP) : He.FnW := some (d.name, d.qual, d.params, .stmts d.body, d.scope, mainGlobals, [], builtinsNs)
def DefP.ok (K : PySem.W.Frag) (d : DefP) : Bool := PySem.W.keepIn K (.ref (d.at_ K)) && (match K.lookup (d.at_ K) with
  | some ⟨_, _, .func fd, _⟩ => PySem.W.codeIn K fd.code d.qual && He.dflB K fd.defaults (d.dfl.map (He.Dv.v K))
  | _ => false)
/-- a def of the text -/
def dp (a : Pth) (x q : Str) (st : Stmt) (dfl : List He.Dv := []) : DefP := ⟨a, x, q, defArgs st, defBody st, defScope st, dfl⟩
theorem funD_of {K : PySem.W.Frag} {d : DefP} (e : fnP K d = d.val) (c : d.ok K = true) : ∃ oc od dV kV doc pm an cdv ct osl,
    K.lookup (d.at_ K) = some ⟨oc, od, .func (PySem.W.fnOf d.name d.qual d.params d.body d.scope dV kV doc pm an cdv ct), osl⟩ ∧ PySem.W.codeIn K cdv d.qual = true ∧ L2.DflV K dV (d.dfl.map (He.Dv.v K)) ∧ PySem.W.keepIn K (.ref (d.at_ K)) = true := by
  obtain ⟨kp, c2⟩ := He.ba c
  unfold fnP at e
  cases q : K.lookup (d.at_ K) with
  | none =>
    rw [q] at c2
    cases c2
  | some o =>
    obtain ⟨oc, od, dt, osl⟩ := o
    rw [q] at c2 e
    cases dt with
    | func fd =>
      obtain ⟨n1, n2, n3, n4, n5, n6, n7, n8, n9, n10, n11, n12, n13, n14, n15⟩ := fd
      have e2 : (some (n1, n2, n3, n4, n5, n6, n7, n15) : He.FnW) = some (d.name, d.qual, d.params, .stmts d.body, d.scope, mainGlobals, [], builtinsNs) := e
      simp only [Option.some.injEq, Prod.mk.injEq] at e2
      obtain ⟨h1, h2, h3, h4, h5, h6, h7, h8⟩ := e2
      subst h1 h2 h3 h4 h5 h6 h7 h8
      have c3 : (PySem.W.codeIn K n13 d.qual && He.dflB K n8 (d.dfl.map (He.Dv.v K))) = true := c2
      obtain ⟨k1, k2⟩ := He.ba c3
      exact ⟨_, _, _, _, _, _, _, _, _, _, rfl, k1, He.dflB_ok k2, kp⟩
    | _ => cases c2
/-! ### the look -/
abbrev AlO : Type := (Bool × List He.FnW) × List (Option (List (Option (Str × Int))))
def obsK (fa : List Fk) (fn : List DefP) (ts : List (Pth × List Str)) (K : PySem.W.Frag) : AlO := (((fa.all fun f => f K) && fn.all fun d => d.ok K, fn.map fun d => fnP K d), ts.map fun t => He.dicW K (t.1 K))
def valK (fn : List DefP) (ts : List (Pth × List Str)) (w : World) : AlO := ((true, fn.map DefP.val), ts.map fun t => some (He.keysIn w.params t.2))
structure Told (fa : List Fk) (fn : List DefP) (ts : List (Pth × List Str)) (w : World) (K : PySem.W.Frag) : Prop where
  eq : obsK fa fn ts K = valK fn ts w
def obsKG (n : Nat) (fa : List Fk) (fn : List DefP) (ts : List (Pth × List Str)) (g : Addr → Option Obj) : AlO := obsK fa fn ts (He.frG g (cStatics :: He.asD g n))
def hookK (n : Nat) (fa : List Fk) (fn : List DefP) (ts : List (Pth × List Str)) : PySem.W.Hook where
  α := AlO
  obs := fun s => obsKG n fa fn ts s.heap.get?
  val := fun w => valK fn ts w
  says := fun w h => ∃ K : PySem.W.Frag, K.In h ∧ Told fa fn ts w K
  of := fun _ _ e => ⟨_, He.frG_in, ⟨e⟩⟩
  keeps := fun _ _ _ ⟨K, hK, c⟩ k => ⟨K, PySem.W.Frag.In.keeps hK k, c⟩
theorem obsKG_eq {n : Nat} {fa : List Fk} {fn : List DefP} {ts : List (Pth × List Str)} {g : Addr → Option Obj} {s : Shared} (h : ∀ a, g a = s.heap.get? a) : obsKG n fa fn ts g = (hookK n fa fn ts).obs s := by
  have e : g = s.heap.get? := funext h
  rw [e] <;> rfl
section
variable {fa : List Fk} {fn : List DefP} {ts : List (Pth × List Str)} {w : World} {K : PySem.W.Frag}
theorem Told.fact (c : Told fa fn ts w K) (i : Nat) {f : Fk} (h : fa[i]? = some f := by rfl) : f K = true := by
  have c1 := (He.ba (show ((fa.all fun f => f K) && fn.all fun d => d.ok K) = true from congrArg (fun z : AlO => z.1.1) c.eq)).1
  exact List.all_eq_true.mp c1 f (List.mem_of_getElem? h)
theorem Told.def_ (c : Told fa fn ts w K) (i : Nat) {d : DefP} (h : fn[i]? = some d := by rfl) : ∃ oc od dV kV doc pm an cdv ct osl,
    K.lookup (d.at_ K) = some ⟨oc, od, .func (PySem.W.fnOf d.name d.qual d.params d.body d.scope dV kV doc pm an cdv ct), osl⟩ ∧ PySem.W.codeIn K cdv d.qual = true ∧ L2.DflV K dV (d.dfl.map (He.Dv.v K)) ∧ PySem.W.keepIn K (.ref (d.at_ K)) = true := by
  have c2 := (He.ba (show ((fa.all fun f => f K) && fn.all fun d => d.ok K) = true from congrArg (fun z : AlO => z.1.1) c.eq)).2
  have e : fn.map (fun d => fnP K d) = fn.map DefP.val := congrArg (fun z : AlO => z.1.2) c.eq
  have e2 : (fn.map fun d => fnP K d)[i]? = (fn.map DefP.val)[i]? := by rw [e]
  rw [List.getElem?_map, List.getElem?_map, h] at e2
  exact funD_of (Option.some.inj e2) (List.all_eq_true.mp c2 d (List.mem_of_getElem? h))
/-- a def without defaults -/
theorem Told.fun_ (c : Told fa fn ts w K) (i : Nat) {a : Pth} {x q : Str} {st : Stmt} (h : fn[i]? = some (dp a x q st) := by rfl) : ∃ fd, Fun K x q st (a K) fd := by
  obtain ⟨oc, od, dV, kV, doc, pm, an, cdv, ct, osl, l, cd, hd, kp⟩ := c.def_ i h
  rcases hd with ⟨_, rfl⟩ | ⟨e, _⟩
  · exact ⟨_, fun_mk l cd kp⟩
  · exact absurd rfl e
/-- .. with defaults -/
theorem Told.funD (c : Told fa fn ts w K) (i : Nat) {a : Pth} {x q : Str} {st : Stmt} {dfl : List He.Dv} (h : fn[i]? = some (dp a x q st dfl) := by rfl) : ∃ fd, FunD K x q st (a K) fd ∧ L2.FunD K x q (defArgs st) (defBody st) (defScope st) (dfl.map (He.Dv.v K)) [] (a K) fd := by
  obtain ⟨oc, od, dV, kV, doc, pm, an, cdv, ct, osl, l, cd, hd, kp⟩ := c.def_ i h
  exact ⟨_, ⟨⟨oc, od, dV, kV, doc, pm, an, cdv, ct, osl, rfl, l, cd⟩, kp⟩, ⟨⟨oc, od, dV, kV, doc, pm, an, cdv, ct, osl, rfl, l, cd, hd, .inl rfl⟩, kp⟩⟩
theorem Told.tab (c : Told fa fn ts w K) (i : Nat) {t : Pth × List Str} (h : ts[i]? = some t := by rfl) : ∃ es n, KDict K w (t.1 K) es n := by
  have e : ts.map (fun t => He.dicW K (t.1 K)) = ts.map fun t => some (He.keysIn w.params t.2) := congrArg (fun z : AlO => z.2) c.eq
  have e2 : (ts.map fun t => He.dicW K (t.1 K))[i]? = (ts.map fun t => some (He.keysIn w.params t.2))[i]? := by rw [e]
  rw [List.getElem?_map, List.getElem?_map, h] at e2
  exact He.dicW_ok (Option.some.inj e2)
end
/-! ### the end -/
theorem walk_ofW {l : PySem.W.OpenLaw} {n k : Nat} {q : Program} {loose : List Str} {XP : (Str → Option Value) → Heap → Prop} {YP : World → Heap → Prop} {d : DefRec} {x : Str} {F : FS}
    (hn : l.most = some n) (hn2 : n ≤ sizeLine) (hdf : d.params.defaults = []) (hr : Room k callerA)
    (G : ∀ (w : World) (mg : Str → Option Value) (fa : Addr) (h : Heap), YP w h → h.Ns mainGlobals mg → mg d.name = some (.ref fa) →
      ∃ (K : PySem.W.Frag) (fd : FuncData) (cl : Nat → Option Cli), K.In h ∧ (∀ (s : Shared) (u : Value), BindsTo s fd ⟨[u], []⟩ [(x, u)]) ∧
        ∀ base : Heap, K.In base → base.Ns mainGlobals mg → FnOk l.prog w K mg base (L2.CX l.prog w) k fa fd [x] (spX K cl 1 F))
    (hF : ∀ ns : List Int, ns.length ≤ n → ∃ ds', F [.fls (ns.map .int)] = .ok (.bl true) ds') :
    PySem.W.WalkO q loose XP YP l.row.toRowW d [] (fun f vs => PySem.call f vs) := by
  refine Att.attach_call hn hdf fun w s₀ s₁ mg mb fa o pm cd doc a vs ns Gs Y ho hd hcd hmg hobj hints hlen hg => ?_
  obtain ⟨K, fd, cl, KX, hb, hG⟩ := G w mg fa _ Y Gs.T.g hmg
  obtain ⟨ds', e⟩ := hF ns hlen
  exact law_call KX Gs.T.g Gs.T.b Gs.T.builtins Gs.T.nolimit hg hobj hints (Nat.le_trans hlen hn2) hr hG hb (fun H hO hS => sp_start hO hS e) fun H e s' z => by
    obtain ⟨_, _, _, _, _, _, _, _, _, _, _, _, z⟩ := z
    exact z
end OL
namespace OL
open PySem PySem.Spec PyProof.Rows L2
/-! ### a written dict's table -/
def tabB : List (Str × D) → List DictEntry → Bool
  | [], [] => true
  | (k, d) :: r, e :: es => (match e.key with
    | .str y _ => decide (y = k)
    | _ => false) && ((match d.fl with
    | some v => He.relB v e.val
    | none => false) && tabB r es)
  | _, _ => false
def kTab (x : Str) (tab : List (Str × D)) : Fk := fun K => match K.lookup (He.ga K x) with
  | some ⟨_, _, .dict es _, _⟩ => tabB tab es.toList
  | _ => false
theorem tabB_ok : ∀ {tab : List (Str × D)} {es : List DictEntry}, tabB tab es = true → ∀ z : Str,
    (tab.lookup z = none → es.find? (·.key.isStr z) = none ∧ es.any (·.refKey) = false) ∧ ∀ x, tab.lookup z = some x → ∃ e v, es.find? (·.key.isStr z) = some e ∧ x.fl = some v ∧ RelV v e.val
  | [], [], _, z => ⟨fun _ => ⟨rfl, rfl⟩, fun x h => by cases h⟩
  | [], _ :: _, h, _ => by cases h
  | _ :: _, [], h, _ => by cases h
  | (k, d) :: r, e :: es, h, z => by
    obtain ⟨h1, h⟩ := He.ba (show ((match e.key with
      | .str y _ => decide (y = k)
      | _ => false) && ((match d.fl with
      | some v => He.relB v e.val
      | none => false) && tabB r es)) = true from h)
    obtain ⟨h2, h3⟩ := He.ba h
    obtain ⟨a, b⟩ := tabB_ok h3 z
    obtain ⟨hs, ky, vl⟩ := e
    cases ky with
    | str y t =>
      have e1 : y = k := of_decide_eq_true h1
      subst e1
      have ei : (Value.str y t).isStr z = (y == z) := rfl
      by_cases q : z = y
      · subst q
        refine ⟨fun h => ?_, fun x h => ?_⟩
        · rw [List.lookup_cons, show (z == z) = true from beq_self_eq_true z] at h; cases h
        · rw [List.lookup_cons, show (z == z) = true from beq_self_eq_true z] at h
          cases h
          cases ev : d.fl with
          | none => rw [ev] at h2; cases h2
          | some v =>
            rw [ev] at h2
            exact ⟨_, v, List.find?_cons_of_pos (by show (z == z) = true; exact beq_self_eq_true z), rfl, He.relB_ok h2⟩
      · have n1 : (z == y) = false := beq_eq_false_iff_ne.mpr q
        have n2 : (y == z) = false := beq_eq_false_iff_ne.mpr fun w => q w.symm
        refine ⟨fun h => ?_, fun x h => ?_⟩
        · rw [List.lookup_cons, n1] at h
          obtain ⟨a1, a2⟩ := a h
          exact ⟨by rw [List.find?_cons_of_neg (by show ¬ (y == z) = true; rw [n2]; simp)]; exact a1, by rw [List.any_cons, a2]; rfl⟩
        · rw [List.lookup_cons, n1] at h
          obtain ⟨e', v, b1, b2, b3⟩ := b x h
          exact ⟨e', v, by rw [List.find?_cons_of_neg (by show ¬ (y == z) = true; rw [n2]; simp)]; exact b1, b2, b3⟩
    | _ => cases h1
theorem fl_rep {d : D} {v : V} {cl : Nat → Option Cli} {fv : Nat → Option Addr} {K : PySem.W.Frag} {H : Hp} {Z : As} (h : d.fl = some v) : Rep ⟨K, cl, fv⟩ H Z d v emp := by
  cases d <;> simp only [D.fl] at h <;> first | cases h | skip
  all_goals exact rfl
theorem kTab_ok {K : PySem.W.Frag} {w : World} {x : Str} {tab : List (Str × D)} {es : Array DictEntry} {n : Nat} (d : KDict K w (pG x K) es n) (h : kTab x tab K = true) : KTab K w (pG x K) tab := by
  unfold kTab at h
  have d1 : K.lookup (He.ga K x) = some ⟨.type "dict", none, .dict es n, #[]⟩ := d.at_
  rw [d1] at h
  have key := tabB_ok (show tabB tab es.toList = true from h)
  have hn : ∀ z, PySem.W.nsIn K (pG x K) z = (match es.toList.find? (·.key.isStr z) with
      | some e => some (some e.val)
      | none => if es.toList.any (·.refKey) then none else some none) := fun z => by
    unfold PySem.W.nsIn
    rw [show K.lookup (pG x K) = _ from d1]
    rfl
  refine ⟨⟨es, n, d⟩, fun z u hu v r => ⟨es, n, u, d1, d.lit, hu, r⟩, fun z hz => ?_, fun z y hz => ?_⟩
  · obtain ⟨a1, a2⟩ := (key z).1 hz
    rw [hn z, a1]
    simp [a2]
  · obtain ⟨e, v, a1, a2, a3⟩ := (key z).2 y hz
    exact ⟨e.val, v, by rw [hn z, a1], a3, fun cl fv H Z => fl_rep a2⟩
end OL

/-! The O layer, 38: raise of an own class whose __init__ calls its base's and keeps its argument. -/
namespace OL
open PySem PySem.Spec PyProof.Rows L2
section
variable {X : Cx} {e : Expr} {es : List Expr} {ta : TA} {p1 p2 pos : Pos} {x : Str} {B : Addr} {mc : Value}
/-- B.__init__(self, ..) where B, an own class, has ValueError's -/
theorem pe_cveinit {pl : Sem Bool} (hg : Gl X x) (hm : X.mg x = some (.ref B)) (sB : PySem.W.specialIn X.K (.ref B) "__getattribute__" = some (some (.builtin "type.__getattribute__"))) (rB : PySem.W.readsIn X.K B mc = true)
    (vB : PySem.W.findCls X.K (.ref B) mc "__init__" = some (.val (.builtin "ValueError.__init__"))) (ha : L2.PA X (e :: es) ta) (hdb : (x == ("__debug__" : Str)) = false := by decide)
    (hc : eval (.Call (.Attribute (.Name x p1) "__init__" p2) (e :: es) [] pos) X.env = (do
      let ov ← eval (.Name x p1) X.env
      standAt p2.atName
      let (f, first) ← holding [ov] (getMethod ov "__init__" pl)
      callWith pos f first (backTo pos (starEach (e :: es) X.env)) (backToKw pos (keywordEach [] X.env))) := by rfl)
    (he : starEach (e :: es) X.env = (false, eval e X.env) :: starEach es X.env := by rfl) (hpl : (backTo pos (starEach es X.env)).any (·.1) = false := by rfl) :
    PE X (.Call (.Attribute (.Name x p1) "__init__" p2) (e :: es) [] pos) (tVeI X.K ta) := by
  refine ⟨fun pins s σ H Q I h => ?_⟩
  refine PySem.W.methodCall_KW (ld_glob I hg hm ?_ hdb) hc
  refine PySem.W.method_cls I.kIn sB (PySem.W.cls_value I.kIn rB vB (by decide +kernel) ?_)
  show wpAny _ _ (callWith pos (Value.builtin "ValueError.__init__") [] (backTo pos (starEach (e :: es) X.env)) []) _ _ _
  refine PyProof.Rows.callWith_method1 (thn (ha.run pos pins _ σ H _ ((I.tok _).tok _) h) fun us s1 ⟨vs, H1, I1, r1, a, C, ws, ev, hl, T, ea, q⟩ => ?_) he hpl
  subst ev
  cases r1 with
  | @cons _ u0 _ ur ra rw' =>
    obtain rfl : u0 = Value.ref a := ra
    have hlen : ur.length ≤ sizeLine := by
      rw [← Paired.length rw', sizeLine_eq]
      omega
    exact oinit_ok T I1 ea hlen fun s' J => ⟨.non, H1, J, rfl, q⟩
end
/-- what __init__ promises: a dict with its argument -/
def spI1 (C : Addr) (f : Str) : L2.Sp := fun vs H Q _ => ∃ a y, vs = [.ref a, y] ∧ H a = some (exo a C none) ∧ ∀ dx, H dx = none → dx ≠ a → Q .non (upd (upd H dx (exd dx [(f, y)])) a (exo a C (some dx)))
def sRs (c : Nat) (fs : SA) : SS := fun env => (fs env).bind fun rs e1 _ => match tkA rs e1 with
  | some ([d], e2) => .exc c [d] e2
  | _ => .bad
section
variable {X : Cx} {C : Ct} {fx : Nat → Bool} {W : WX} {e : Expr} {es : List Expr} {p pos pos' : Pos} {x f : Str} {Cc fI : Addr} {k : Nat} {fd : FuncData} {ps : List Str} {c : Nat} {q : Cli} {fs : SA}
theorem s_raise1 (hcl : C.cl c = some q) (hqa : q.ad = Cc) (hqn : q.ns = [f]) (T : OexC X.K Cc) (iC : PySem.W.findIn X.K (.ref Cc) "__init__" = some (some (.ref fI))) (tI : PySem.W.typeIn X.K (.ref fI) = some (.type "function"))
    (F1 : FnOk X.prog X.w X.K X.mg X.base (L2.CX X.prog X.w) k fI fd ps (spI1 Cc f)) (hr : Room (k + 1) X.A) (hb : Binds X.K fd ps []) (hx : Passes (L2.CX X.prog X.w) X (fun _ _ _ => False)) (hg : Gl X x) (hm : X.mg x = some (.ref Cc))
    (calm : X.calm = true) (tk : Takes X W) (ha : L2.PA X (e :: es) (tl C W fs))
    (hdb : (x == ("__debug__" : Str)) = false := by decide) (he : starEach (e :: es) X.env = (false, eval e X.env) :: starEach es X.env := by rfl) (hpl : (backTo pos (starEach es X.env)).any (·.1) = false := by rfl) :
    PS X (.Raise (some (.Call (.Name x p) (e :: es) [] pos)) none pos') (ts C fx W (sRs c fs)) :=
  ps_imp (ps_raise calm tk (pmk_oex T iC tI F1 hr hb .nil hx hg hm ha hdb he hpl)) fun D σ H h => by
    obtain ⟨env, P, Z, rl, ok, h⟩ := h
    refine ⟨env, P, Z, rl, ok, ?_⟩
    unfold sRs at h
    cases ea : fs env with
    | bad => rw [ea] at h; exact h
    | exc x ds e => rw [ea] at h; exact fun cls dd P' Px Z' H' q => h cls dd σ P' Px Z' H' q.xs
    | ok rs e1 t1 =>
      simp only [ea, O.bind] at h
      intro vs P1 Pv1 Z1 H1 p1
      cases et : tkA rs e1 with
      | none => simp only [et] at h; exact h.elim
      | some y =>
        obtain ⟨ds, e2⟩ := y
        simp only [et] at h
        obtain ⟨P2, Pa, b1, b2, b3, b4, b5⟩ := taken p1 et
        match ds, b2, h with
        | [], _, h => exact h.elim
        | _ :: _ :: _, _, h => exact h.elim
        | [d], b2, h =>
          have hl : ([d] : List OL.D).length = (vs.map some).length := (repL_len b2).symm
          match vs, b2, hl with
          | [v], b2, _ =>
            refine ⟨by simp, fun a na => ⟨a, v, rfl, upd_same, fun dx n1 n2 => ⟨rfl, dx, [(f, v)], upd_same, by rw [upd_ne n2, upd_same], ?_, ?_⟩⟩⟩
            · rw [upd_ne n2] at n1; exact n1
            · have nd : H1 dx = none := by rw [upd_ne n2] at n1; exact n1
              have eH : upd (del (upd (upd (upd H1 a (exo a Cc none)) dx (exd dx [(f, v)])) a (exo a Cc (some dx))) a) dx (.xd [(f, v)]) = upd H1 dx (.xd [(f, v)]) := by
                funext b
                by_cases h1 : b = dx
                · rw [h1, upd_same, upd_same]
                · rw [upd_ne h1, upd_ne h1]
                  by_cases h2 : b = a
                  · rw [h2, del_same, na]
                  · rw [del_ne h2, upd_ne h2, upd_ne h1, upd_ne h2]
              rw [eH]
              have kp := keep_new (o := .xd [(f, v)]) nd
              refine h (.ref Cc) (some dx) σ P2 Pa Z1 _ ⟨repL_new b1 nd, ⟨q, dx, [(f, v)], hcl, by rw [hqa], rfl, upd_same, ?_⟩, b3, ?_, Fix.refl⟩
              · rw [hqn]
                have e2 : ([f].map fun n => List.lookup n [(f, v)]) = [v].map some := by simp [List.lookup]
                rw [e2]
                exact repL_new b2 nd
              · have g : Ch (uni P2 Pa) Z1 H1 (uni (uni P2 Pa) emp) Z1 (upd H1 dx (.xd [(f, v)])) := Ch.grow kp b4.ok (fun _ z => z.elim) OkP.emp
                rw [uni_emp] at g
                exact b4.trans0 g
          | [], _, hl => simp at hl
          | _ :: _ :: _, _, hl => simp at hl
end
end OL

/-! The O layer, 39: the __init__ of an own error with one field. -/
namespace OL
open PySem PySem.Spec PyProof.Rows L2
section
variable {P : Program} {w : World} {K : PySem.W.Frag} {mg : Str → Option Value} {base : Heap}
def tIni (K : PySem.W.Frag) (msg n : Str) : TS := tSeq (tDrop (tVeI K (tCons (tVar 0) (tCons (tC (.str msg)) tNil)))) (tOst K n (tVar 0) (tVar 1))
theorem fn_exc1 {qual y n msg : Str} {st : Stmt} {Cc fI : Addr} {fd : FuncData} {k : Nat} (F : Fun K "__init__" qual st fI fd) (S : FnScope ["self", y] ["self", y] (defScope st)) (T : OexC K Cc) (hno : PySem.W.findIn K (.ref Cc) n = some none)
    (hb : ∀ (cdv : Value) (A : Around) (outer : List PySem.Env) (s : Shared) (H : Hp) (E : XK), Room k (A.deeper (envOfC qual (defScope st) s.heap.objs.size fI cdv)) →
      PSs (cxOf (L2.CX P w) P w K mg base ["self", y] qual (defScope st) fI cdv A outer s H E) (defBody st) (tIni K msg n)) :
    FnOk P w K mg base (L2.CX P w) (k + 1) fI fd ["self", y] (spI1 Cc n) :=
  Fun.okX F S (fun vs H Q E h => by obtain ⟨a, y, rfl, _⟩ := h; rfl) fun cdv A outer s H vs Q E hr h => ⟨_, hb cdv A outer s H E hr, by
    obtain ⟨a, v, rfl, ea, q⟩ := h
    refine ⟨.ref a, rfl, a, Cc, [.str msg], rfl, by simp, T, ea, ?_⟩
    refine ⟨v, rfl, .ref a, rfl, a, Cc, rfl, T, hno, .inl ⟨ea, fun dx n1 n2 => q dx n1 n2⟩⟩⟩
end
end OL

/-! The O layer, 40: a walk over a list or a tuple. -/
namespace OL
open PySem PySem.Spec PyProof.Rows L2
def iAny (K : PySem.W.Frag) (tl : TE) : TI := fun σ H R => tl σ H fun x H1 => ∃ a, x = .ref a ∧ (((∃ xs, SqL K H1 a xs) ∧ R (Itl K a) H1) ∨ ((∃ xs, SqT K H1 a xs) ∧ R (Itt K a) H1))
theorem pi_any {X : Cx} {tg l : Expr} {tl : TE} (hl : PE X l tl) : PI X tg l (iAny X.K tl) := by
  refine ⟨fun pins s σ H R I h => ?_⟩
  refine thn (hl.run pins s σ H _ I h) fun v s1 ⟨x, H1, I1, r1, q1⟩ => ?_
  obtain ⟨a, e, q⟩ := q1
  subst e
  cases r1
  rcases q with ⟨⟨xs, hq⟩, q⟩ | ⟨⟨xs, hq⟩, q⟩
  · obtain ⟨its, rv, p, hz⟩ := I1.list hq
    refine wpAny_pyIter_list p.isList ?_
    refine ⟨s1.heap.objs.size, [s1.heap.objs.size], _, _, H1, rfl, I1.kept (t' := s1.toks) fun b o e => Heap.get?_push_of_some _ e, turn_list a _, ⟨_, Heap.get?_push_size _ rfl, rfl, rfl⟩, fun b hb => ?_, q⟩
    have e : b = s1.heap.objs.size := by simpa using hb
    subst e
    exact I1.fpOk (Nat.le_refl _) (I1.hok.fresh (Nat.le_refl _))
  · obtain ⟨its, rv, p, hz⟩ := I1.tuple hq
    refine wpAny_pyIter_tuple (show s1.heap.IsTuple a its.toArray from p) ?_
    refine ⟨s1.heap.objs.size, [s1.heap.objs.size], _, _, H1, rfl, I1.kept (t' := s1.toks) fun b o e => Heap.get?_push_of_some _ e, turn_tuple a _, ⟨_, Heap.get?_push_size _ rfl, rfl, rfl⟩, fun b hb => ?_, q⟩
    have e : b = s1.heap.objs.size := by simpa using hb
    subst e
    exact I1.fpOk (Nat.le_refl _) (I1.hok.fresh (Nat.le_refl _))
def siAny (fo : SE) : SI := fun env => (fo env).bind fun r e t => match r with
  | .val (.lst ds) => .ok (ds, none) e t
  | .val (.fls ds) => .ok (ds, none) e t
  | .val (.tup ds) => if stL ds then .ok (ds, none) e t else .bad
  | .plc i [] => match e[i]? with
    | some (.lst ds) => if stL ds then .ok (ds, some (i, .lst ds)) (e.set i .mvd) true else .bad
    | _ => .bad
  | _ => .bad
section
variable {C : Ct} {W : WX} {σ : L2.St} {H : Hp} {fo : SE} {R' : It → Hp → Prop}
theorem ti_any (h : ti C W (siAny fo) σ H R') : iAny C.K (tf C W fo) σ H R' := by
  obtain ⟨env, P, Z, rl, ok, h⟩ := h
  refine ⟨env, P, Z, rl, ok, ?_⟩
  unfold siAny at h
  cases ea : fo env with
  | bad => rw [ea] at h; exact h
  | exc x ds e => rw [ea] at h; exact h
  | ok r e t =>
    simp only [ea, O.bind] at h
    intro v P1 Pv Z1 H1 p1
    cases r with
    | val d =>
      have rp : Rep C H1 Z1 d v Pv := p1.res
      cases d with
      | lst ds =>
        obtain ⟨a, vs, ev, pa, ha, r⟩ := rp
        refine ⟨a, ev, .inl ⟨⟨vs, .inl (.inl ha)⟩, ?_⟩⟩
        exact h _ _ P1 Pv Z1 H1 (iter_move (vs := vs)) ⟨pa, ha, r⟩ p1.rl p1.dj p1.ch (fun ht => ⟨(p1.pu ht).1, by simp, (p1.pu ht).2⟩) fun i d z => by cases z
      | fls ds =>
        obtain ⟨a, vs, ev, fr, r⟩ := id rp
        refine ⟨a, ev, .inl ⟨⟨vs, frl_sq fr⟩, ?_⟩⟩
        subst ev
        exact h _ _ P1 Pv Z1 H1 (iter_list (s := .fl ds) rfl (fun _ _ q => q) fun _ _ q => q) rp p1.rl p1.dj p1.ch (fun ht => ⟨(p1.pu ht).1, by simp, (p1.pu ht).2⟩) fun i d z => by cases z
      | tup ds =>
        cases s : stL ds with
        | false => simp [s] at h
        | true =>
          simp only [s, if_true] at h
          obtain ⟨a, vs, ev, sq, r⟩ := id rp
          refine ⟨a, ev, .inr ⟨⟨vs, sq⟩, ?_⟩⟩
          subst ev
          exact h _ _ P1 Pv Z1 H1 (iter_tup s) rp p1.rl p1.dj p1.ch (fun ht => ⟨(p1.pu ht).1, by simp, (p1.pu ht).2⟩) fun i d z => by cases z
      | _ => exact h.elim
    | plc i p =>
      cases p with
      | cons _ _ => exact h.elim
      | nil =>
        have hv : σ[i]? = some (some v) := p1.res
        simp only at h
        cases e1 : e[i]? with
        | none => simp only [e1] at h
        | some d =>
          cases d with
          | lst ds =>
            simp only [e1] at h
            cases s : stL ds with
            | false => simp [s] at h
            | true =>
              simp only [s, if_true] at h
              obtain ⟨v', P2, P3, ev', sp, rd, rl2⟩ := repL_take p1.rl e1 (by simp)
              have e2 : v' = v := Option.some.inj (Option.some.inj (ev'.symm.trans hv))
              subst e2
              obtain ⟨a, vs, ev, pa, ha, r⟩ := id rd
              refine ⟨a, ev, .inl ⟨⟨vs, .inl (.inl ha)⟩, ?_⟩⟩
              subst ev
              refine h _ _ P3 P2 Z1 H1 (iter_list (s := .l ds) s (fun _ _ q => q) fun _ _ q => q) rd rl2 (fun a x y => sp.d a y x) (p1.ch.sub fun a x => .inl (x.elim (sp.r a) (sp.l a))) (fun ht => by cases ht) fun j d z => ?_
              cases z
              exact ⟨_, hv, fun k H Z P r => r⟩
          | _ => simp only [e1] at h
end
theorem i_any {X : Cx} {C : Ct} {W : WX} {tgx l : Expr} {fo : SE} (hK : X.K = C.K) (h : PE X l (tf C W fo)) : PI X tgx l (ti C W (siAny fo)) := pi_imp (pi_any h) fun _ _ _ q => by rw [hK]; exact ti_any q
end OL

/-! The O layer, 41: values frozen when they are assigned; an error in hand: its fields, isinstance that says yes; try. -/
namespace PySem.W
open PySem PySem.Spec PySem.Calls PyProof.Rows
/-- isinstance that says yes asks the type only -/
theorem yes_ans {K : Frag} {x t c : Value} {hh : Heap → Prop} (ty : ∀ (M : Model) (h : Heap), K.In h → hh h → Looks M h (typeOf x) t) (e : kitOne K t c = some true) : Answers (fun s => K.In s.heap ∧ hh s.heap) x c true := by
  intro dep tk prog w A R s hs
  obtain ⟨hp, gs, ds, tt, os⟩ := s
  obtain ⟨⟨kx, hx⟩, fin⟩ := hs
  have lt := ty (model prog w) hp kx hx
  unfold Builtin.«isinstance.nested»
  apply wpAny_bind
  apply lt.at
  unfold kitOne at e
  by_cases q : (t == c) = true
  · rw [if_pos q]
    first
      | exact wpAny_bind (wpAny_rule (fin tt))
      | exact wpAny_bind (wpAny_rule (wpAny_pure (fin tt)))
  · rw [if_neg q] at e
    rw [if_neg q]
    obtain ⟨l1, l2, l3⟩ := kit_cls (M := model prog w) kx e
    have li : Looks (model prog w) hp (isInstance x c) true := lt.andThen l3
    apply wpAny_bind
    apply l1.at
    rw [if_pos (by decide)]
    k_delta "plainIsInstance"
    apply wpAny_bind
    apply wpAny_bind
    apply l2.at
    simp only [Bool.not_true, Bool.false_eq_true, if_false]
    apply wpAny_bind
    apply li.at
    first
      | exact wpAny_pure (wpAny_pure (fin tt))
      | (simp only [if_true]; first | exact wpAny_pure (wpAny_pure (fin tt)) | exact wpAny_pure (fin tt) | exact wpAny_bind (wpAny_pure (wpAny_pure (fin tt))))
theorem yes_call {K : Frag} {x t c : Value} {hh : Heap → Prop} {prog : Program} {w : World} {A : Around} {E : Value → Shared → Prop} {s : Shared} {Q : Value → Shared → Prop} (ty : ∀ (M : Model) (h : Heap), K.In h → hh h → Looks M h (typeOf x) t) (kx : K.In s.heap) (p : hh s.heap)
    (e : kitOne K t c = some true) (hx : x ≠ .builtin "__main__.__loader__#opaque") (fin : ∀ tk, Q (.bool true) { s with toks := tk }) : wpAny (model prog w) A (call (.builtin "isinstance") [x, c]) Q E s :=
  call_isinstance (S := fun _ R s => (K.In s.heap ∧ hh s.heap) ∧ ∀ tk, R (.ok (.ret (.bool true))) { s with toks := tk })
    (fun prog w A R s hs => isinstance_outer (yes_ans ty e 0 _ prog w A R s hs) hx) ⟨⟨kx, p⟩, fin⟩
end PySem.W
namespace OL
open PySem PySem.Spec PyProof.Rows L2
/-! ### frozen when assigned -/
def fFrz (fa : SE) : SE := fun env => (fa env).bind fun r e t => match r with
  | .val d => .ok (.val d.fz) e true
  | .plc _ _ => .bad
section
variable {X : Cx} {C : Ct} {W : WX} {fa : SE}
theorem tf_frz {σ : L2.St} {H : Hp} {Q : VK} (h : tf C W (fFrz fa) σ H Q) : tf C W fa σ H Q := by
  obtain ⟨env, P, Z, rl, ok, h⟩ := h
  refine ⟨env, P, Z, rl, ok, ?_⟩
  unfold fFrz at h
  cases ea : fa env with
  | bad => rw [ea] at h; exact h
  | exc x ds e => rw [ea] at h; exact h
  | ok r e t =>
    simp only [ea, O.bind] at h
    cases r with
    | plc i p => exact h.elim
    | val d =>
      intro v P' Pv Z' H' p
      have c := p.ch.trans0 (ch_fz p.ch.ok p.dj)
      refine h v P' emp (uni Z' Pv) H' ⟨repL_keep p.rl keep_refl OkP.emp (fun _ z => z.elim) fun _ x => .inl x, rep_fz p.res (fun _ x => .inl x) fun _ x => .inr x, fun _ _ z => z.elim, by rw [uni_emp]; exact c, fun z => by cases z⟩
theorem e_frz {e : Expr} (h : PE X e (tf C W fa)) : PE X e (tf C W (fFrz fa)) := pe_imp h fun _ _ _ => tf_frz
end
/-! ### an error in hand -/
def fXf (n c j : Nat) (fo : SE) : SE := fun env => (fo env).bind fun r e t => match r with
  | .val (.exo m c' ds) => if m = n ∧ c' = c then (match ds[j]? with
    | some d => if d.mv then .bad else .ok (.val d) e t
    | none => .bad) else .bad
  | _ => .bad
/-- what an except suite knows: a the error, dx its dict, Ca its class -/
structure SuC (C : Ct) (n : Nat) (a dx Ca : Addr) : Prop where
  h0 : C.fv n = some a
  h1 : C.fv (n + 1) = some dx
  h2 : C.fv (n + 2) = some Ca
def Ct.su (C : Ct) (n : Nat) (a dx Ca : Addr) : Ct := ((C.tok n a).tok (n + 1) dx).tok (n + 2) Ca
theorem su_c {C : Ct} {n : Nat} {a dx Ca : Addr} : SuC (C.su n a dx Ca) n a dx Ca := ⟨by simp [Ct.su, Ct.tok], by simp [Ct.su, Ct.tok], by simp [Ct.su, Ct.tok]⟩
def gIsX (n : Nat) : D → Option D
  | .exo m _ _ => if m = n then some (.bl true) else none
  | _ => none
section
variable {X : Cx} {C : Ct} {W : WX} {fo : SE} {n c j : Nat} {a dx Ca : Addr} {oe : Obj} {pn : List (Addr × Obj)} {e : Expr} {f : Str} {q : Cli} {pos : Pos}
/-- e.f -/
theorem e_xfld (S : SuC C n a dx Ca) (hz : Zc (.ref Ca) (some dx) oe) (hf : ∃ vs, oe.data = .fields vs) (T : XfC X.K Ca) (hno : PySem.W.findIn X.K (.ref Ca) f = some none) (hq : C.cl c = some q) (hj : q.ns[j]? = some f)
    (he : PE (X.suite a ((a, oe) :: pn)) e (tf C W fo)) (hb : attributeBase e f X.env (eval e X.env) = eval e X.env := by rfl) :
    PE (X.suite a ((a, oe) :: pn)) (.Attribute e f pos) (tf C W (fXf n c j fo)) :=
  pe_imp (pe_xf T hno hz hf he hb) fun σ H Q h => by
    obtain ⟨env, P, Z, rl, ok, h⟩ := h
    refine ⟨env, P, Z, rl, ok, ?_⟩
    unfold fXf at h
    cases ea : fo env with
    | bad => rw [ea] at h; exact h
    | exc x ds e => rw [ea] at h; exact h
    | ok r e t =>
      simp only [ea, O.bind] at h
      intro v P1 Pv Z1 H1 p
      cases r with
      | plc i y => exact h.elim
      | val d =>
        cases d with
        | exo m c' ds =>
          by_cases hc : m = n ∧ c' = c
          · obtain ⟨rfl, rfl⟩ := hc
            simp only [and_self, if_true] at h
            cases ed : ds[j]? with
            | none => simp only [ed] at h
            | some d =>
              simp only [ed] at h
              cases md : d.mv with
              | true => simp [md] at h
              | false =>
                simp only [md] at h
                obtain ⟨a', dx', q', fs, ev, g1, g2, g3, g4, g5, r5⟩ := (show Rep C H1 Z1 (.exo m c' ds) v Pv from p.res)
                rw [S.h0] at g1; cases g1
                rw [S.h1] at g2; cases g2
                rw [hq] at g3; cases g3
                rw [S.h2] at g4; cases g4
                obtain ⟨y, P2, eo, s1, rd, _⟩ := repL_at r5 ed (mv_ne md)
                rw [List.getElem?_map, hj] at eo
                exact ⟨ev, rfl, dx, fs, y, rfl, g5, Option.some.inj eo, h y P1 emp Z1 H1 ⟨p.rl, rep_mono rd fun b z => (s1 b z).elim, fun _ _ z => z.elim, by rw [uni_emp]; exact p.ch.sub fun b z => .inl z, p.pu⟩⟩
          · simp only [hc, if_false] at h
        | _ => exact h.elim
/-- isinstance(e, T) that says yes -/
def rIsX (K : PySem.W.Frag) (Ca a : Addr) : List V → Hp → VK → Prop := fun xs H Q => ∃ (y : V) (cv : Value), xs = [.ref a, y] ∧ (∀ u, RelV y u → u = cv) ∧ PySem.W.kitOne K (.ref Ca) cv = some true ∧ Q (.bl true) H
theorem call_isX (hz : Zc (.ref Ca) (some dx) oe) : CallR (X.suite a ((a, oe) :: pn)) (.builtin "isinstance") (rIsX X.K Ca a) := by
  intro pins s σ H xs us Q I r h
  obtain ⟨y, cv, rfl, hcv, e, q⟩ := h
  cases r with
  | @cons _ u1 _ ur r1 r2 =>
    cases r2 with
    | @cons _ u2 _ ur2 r3 r4 =>
      cases r4
      obtain rfl : u1 = Value.ref a := r1
      obtain rfl := hcv _ r3
      obtain ⟨hget, _⟩ := I.pin (a, oe) (List.mem_append.mpr (.inl List.mem_cons_self))
      refine PySem.W.yes_call (hh := fun h => h.get? a = some oe) (fun M h _ g A Q' E' s' k w => ?_) I.kIn hget e (fun z => by cases z) fun tk => ⟨.bl true, H, I.kept (t' := tk) fun _ _ z => z, rfl, q⟩
      exact wpAny_typeOf_ref (k _ _ g) (by rw [hz.1]; exact w)
theorem e_isX {x : Str} {cv : Value} {y : V} {p p2 : Pos} (S : SuC C n a dx Ca) (hz : Zc (.ref Ca) (some dx) oe) (hm : X.mg "isinstance" = none) (hy : PE (X.suite a ((a, oe) :: pn)) (.Name x p2) (tC y)) (hcv : ∀ u, RelV y u → u = cv) (hk : PySem.W.kitOne X.K (.ref Ca) cv = some true)
    (he : PE (X.suite a ((a, oe) :: pn)) e (tf C W fo)) (hg : Gl X "isinstance" := by rfl)
    (hs : starEach [e, .Name x p2] X.env = (false, eval e X.env) :: starEach [.Name x p2] X.env := by rfl) (hs2 : starEach [.Name x p2] X.env = (false, eval (.Name x p2) X.env) :: starEach [] X.env := by rfl) (hpl : (backTo pos (starEach [.Name x p2] X.env)).any (·.1) = false := by rfl) :
    PE (X.suite a ((a, oe) :: pn)) (.Call (.Name "isinstance" p) [e, .Name x p2] [] pos) (tf C W (fOne fo (gIsX n))) :=
  pe_imp (pe_callB (X := X.suite a ((a, oe) :: pn)) (call_isX hz) hg hm PyProof.Rows.boot_isinstance (pa_cons he (pa_cons hy pa_nil hs2) hs) (by decide) (by decide) hs hpl) fun σ H Q h => by
    obtain ⟨env, P, Z, rl, ok, h⟩ := h
    refine ⟨env, P, Z, rl, ok, ?_⟩
    unfold fOne at h
    cases ea : fo env with
    | bad => rw [ea] at h; exact h
    | exc x ds e => rw [ea] at h; exact h
    | ok r e t =>
      simp only [ea, O.bind] at h
      intro v P1 Pv Z1 H1 p
      cases ed : rdR e r with
      | none => simp only [ed, Option.bind_none] at h
      | some d =>
        simp only [ed, Option.bind_some] at h
        cases d with
        | exo m c' ds =>
          simp only [gIsX] at h
          by_cases em : m = n
          · subst em
            simp only [if_true] at h
            obtain ⟨Pd, sb, rp⟩ := read p.res p.rl ed
            obtain ⟨a', dx', q', fs, ev, g1, g2, g3, g4, g5, r5⟩ := (show Rep C H1 Z1 (.exo m c' ds) v Pd from rp)
            rw [S.h0] at g1; cases g1
            subst ev
            refine ⟨y, cv, rfl, hcv, hk, ?_⟩
            exact h _ P1 emp Z1 H1 ⟨p.rl, rfl, fun _ _ z => z.elim, by rw [uni_emp]; exact p.ch.sub fun b z => .inl z, p.pu⟩
          · simp only [em, if_false] at h
        | _ => simp only [gIsX] at h
end
end OL

/-! The O layer, 42: try with one clause that names the error. -/
namespace OL
open PySem PySem.Spec PyProof.Rows L2
def nt3 (n : Nat) (l : List D) : Bool := ntL n l && (ntL (n + 1) l && ntL (n + 2) l)
/-- i: the slot of the error's name; c: the class that is caught; no: those that are not -/
def sTry (n i c : Nat) (no : List Nat) (fb fs : SS) : SS := fun env => match fb env with
  | .exc x ds e => if x = c then (if i < e.length ∧ nt3 n (e.set i .mvd) = true ∧ nt3 n (fzL ds) = true then (match fs (e.set i (.exo n c (fzL ds))) with
      | .ok .nx e2 _ => if nt3 n (e2.set i .mvd) then .ok .nx (e2.set i .mvd) true else .bad
      | .ok .bk e2 _ => if nt3 n (e2.set i .mvd) then .ok .bk (e2.set i .mvd) true else .bad
      | .ok .ct e2 _ => if nt3 n (e2.set i .mvd) then .ok .ct (e2.set i .mvd) true else .bad
      | .ok (.rt d) e2 _ => if nt3 n [d] && nt3 n e2 then .ok (.rt d) e2 true else .bad
      | _ => .bad) else .bad) else if no.contains x then .exc x ds e else .bad
  | o => o
section
variable {C : Ct} {H : Hp} {Z : As} {n : Nat} {a dx Ca : Addr}
theorem su_in {ds : List D} {os : List (Option V)} {P : As} (r : RepL C H Z ds os P) (h : nt3 n ds = true) : RepL (C.su n a dx Ca) H Z ds os P := by
  have h : (ntL n ds && (ntL (n + 1) ds && ntL (n + 2) ds)) = true := h
  rw [Bool.and_eq_true, Bool.and_eq_true] at h
  exact tokL_in (tokL_in (tokL_in r h.1) h.2.1) h.2.2
theorem su_out {ds : List D} {os : List (Option V)} {P : As} (r : RepL (C.su n a dx Ca) H Z ds os P) (h : nt3 n ds = true) : RepL C H Z ds os P := by
  have h : (ntL n ds && (ntL (n + 1) ds && ntL (n + 2) ds)) = true := h
  rw [Bool.and_eq_true, Bool.and_eq_true] at h
  exact tokL_out (tokL_out (tokL_out r h.2.2) h.2.1) h.1
theorem su_out1 {d : D} {v : V} {P : As} (r : Rep (C.su n a dx Ca) H Z d v P) (h : nt3 n [d] = true) : Rep C H Z d v P := by
  have h : ((d.nt n && true) && ((d.nt (n + 1) && true) && (d.nt (n + 2) && true))) = true := h
  rw [Bool.and_true, Bool.and_true, Bool.and_true, Bool.and_eq_true, Bool.and_eq_true] at h
  exact tok_out (tok_out (tok_out r h.2.2) h.2.1) h.1
theorem fix_set {fx : Nat → Bool} {σ : L2.St} {i : Nat} {o : Option V} (h : fx i = false) : Fix fx σ (σ.set i o) :=
  ⟨by simp, fun j hj => List.getElem?_set_ne (fun e => by rw [e, hj] at h; cases h)⟩
end
def tsSu (C : Ct) (fx : Nat → Bool) (n : Nat) (Ca : Addr) (fs : SS) : Addr → Value → Option Addr → TS := fun a cls d D σ H => ∃ dx, cls = .ref Ca ∧ d = some dx ∧ ts (C.su n a dx Ca) fx W0 fs D σ H
theorem s_try {X : Cx} {C : Ct} {fx : Nat → Bool} {W : WX} {x nm : Str} {cv : Value} {n i c : Nat} {q : Cli} {no : List Nat} {body suite : List Stmt} {b0 : Stmt} {np pos pos' : Pos} {fb fs : SS}
    (hs : X.stack = X.env :: X.outer) (hf : X.env.frame = some X.env.locals) (hN : X.N.Nodup) (hi : X.N[i]? = some nm) (hln : X.env.kindOf nm = some .local) (hc : Names X x cv) (tk : Takes X W) (hfx : fx i = false)
    (hcl : C.cl c = some q) (hex : PySem.W.exmOne X.K (.ref q.ad) cv = some true) (hno : ∀ y ∈ no, ∃ p, C.cl y = some p ∧ PySem.W.exmOne X.K (.ref p.ad) cv = some false)
    (hb : ∀ (W : WX) (pn : List (Addr × Obj)) (xe : Value → Shared → Prop), Takes (X.tr pn xe) W → PassesOwn (model X.prog X.w) X.A X.env xe → PSs (X.tr pn xe) body (ts C fx W fb))
    (hsu : ∀ (a : Addr) (oe : Obj) (dx : Addr) (pn : List (Addr × Obj)), Zc (.ref q.ad) (some dx) oe → (∃ vs, oe.data = .fields vs) → PSs (X.suite a ((a, oe) :: pn)) (b0 :: suite) (ts (C.su n a dx q.ad) fx W0 fs)) :
    PS X (.Try body [.ExceptHandler (some (.Name x np)) (some nm) (b0 :: suite) pos'] [] [] pos) (ts C fx W (sTry n i c no fb fs)) :=
  ps_imp (ps_try_as (ts := tsSu C fx n q.ad fs) (tb := fun W => ts C fx W fb) hs hf hN hi hln hc tk hb fun a oe cls d pn hz hd => ⟨fun pins s σ H D I h => by
      obtain ⟨dx, rfl, rfl, h⟩ := h
      exact (hsu a oe dx pn hz hd).run pins s σ H D I h⟩) fun D σ H h => by
    obtain ⟨env, P, Z, rl, ok, h⟩ := h
    refine ⟨env, P, Z, rl, ok, ?_⟩
    unfold sTry at h
    cases eb : fb env with
    | bad => rw [eb] at h; exact h
    | ok fl e t =>
      rw [eb] at h
      cases fl <;> exact h
    | exc y ds e =>
      simp only [eb] at h
      intro cls dd σ' P' Px Z' H' p
      obtain ⟨qx, dx, gs, hqx, rfl, rfl, hdx, rds⟩ := p.res
      by_cases hy : y = c
      · subst hy
        simp only [if_true] at h
        rw [hcl] at hqx; cases hqx
        refine ⟨true, hex, fun _ a na => ⟨dx, rfl, rfl, ?_⟩, fun z => by cases z⟩
        by_cases hh : i < e.length ∧ nt3 n (e.set i .mvd) = true ∧ nt3 n (fzL ds) = true
        · rw [if_pos hh] at h
          obtain ⟨h1, h2, h3⟩ := hh
          have cz := p.ch.trans0 (ch_fz p.ch.ok p.dj)
          have r1 : RepL (C.su n a dx q.ad) H' (uni Z' Px) (e.set i .mvd) (σ'.set i (some (.ref a))) P' :=
            su_in (repL_del (repL_keep p.rl keep_refl OkP.emp (fun _ z => z.elim) fun _ x => .inl x)) h2
          have r2 : RepL (C.su n a dx q.ad) H' (uni Z' Px) (fzL ds) (q.ns.map fun m => gs.lookup m) emp := su_in (repL_fz rds (fun _ x => .inl x) fun _ x => .inr x) h3
          have r3 : Rep (C.su n a dx q.ad) H' (uni Z' Px) (.exo n y (fzL ds)) (.ref a) emp := ⟨a, dx, q, gs, rfl, su_c.h0, su_c.h1, hcl, su_c.h2, hdx, r2⟩
          have r4 := repL_put (i := i) r1 (by rw [List.length_set]; exact h1) r3 fun _ z => z.elim
          rw [List.set_set, List.set_set, uni_emp] at r4
          refine ⟨_, P', uni Z' Px, r4, cz.ok, ?_⟩
          have f0 : Fix fx σ (σ'.set i (some (.ref a))) := p.fix.tr (fix_set hfx)
          cases es : fs (e.set i (.exo n y (fzL ds))) with
          | bad => simp only [es] at h; exact h.elim
          | exc z ws e2 => simp only [es] at h; exact h.elim
          | ok fl e2 t =>
            cases fl with
            | nx =>
              simp only [es] at h
              cases hk : nt3 n (e2.set i .mvd) with
              | false => simp [hk] at h; exact h.elim
              | true =>
                simp only [hk, if_true] at h
                exact fun σ2 P2 Z2 H2 w => h (σ2.set i none) P2 Z2 H2 ⟨su_out (repL_del w.rl) hk, cz.trans0 w.ch, (f0.tr w.fix).tr (fix_set hfx)⟩
            | bk =>
              simp only [es] at h
              cases hk : nt3 n (e2.set i .mvd) with
              | false => simp [hk] at h; exact h.elim
              | true =>
                simp only [hk, if_true] at h
                exact fun σ2 P2 Z2 H2 w => h (σ2.set i none) P2 Z2 H2 ⟨su_out (repL_del w.rl) hk, cz.trans0 w.ch, (f0.tr w.fix).tr (fix_set hfx)⟩
            | ct =>
              simp only [es] at h
              cases hk : nt3 n (e2.set i .mvd) with
              | false => simp [hk] at h; exact h.elim
              | true =>
                simp only [hk, if_true] at h
                exact fun σ2 P2 Z2 H2 w => h (σ2.set i none) P2 Z2 H2 ⟨su_out (repL_del w.rl) hk, cz.trans0 w.ch, (f0.tr w.fix).tr (fix_set hfx)⟩
            | rt d =>
              simp only [es] at h
              cases hk : nt3 n [d] && nt3 n e2 with
              | false => simp [hk] at h; exact h.elim
              | true =>
                simp only [hk, if_true] at h
                rw [Bool.and_eq_true] at hk
                exact fun v σ2 P2 Pv Z2 H2 w => h v σ2 P2 Pv Z2 H2 ⟨su_out w.rl hk.2, su_out1 w.res hk.1, w.dj, cz.trans0 w.ch, f0.tr w.fix⟩
        · rw [if_neg hh] at h
          exact h.elim
      · simp only [hy, if_false] at h
        cases hn : no.contains y with
        | false =>
          rw [hn] at h
          exact h.elim
        | true =>
          simp only [hn, if_true] at h
          obtain ⟨p', hp, he⟩ := hno y (by simpa using hn)
          rw [hqx] at hp; cases hp
          exact ⟨false, he, (fun z => nomatch z), fun _ => h _ _ σ' P' Px Z' H' p⟩
end OL

/-! The O layer, 43: own classes of errors: what the head asks of them, raise, the clause's test. -/
namespace OL
open PySem PySem.Spec PySem.HandSPX PyProof.Rows L2
def oexB (K : PySem.W.Frag) (C : Addr) : Bool := (match K.lookup C with
  | some ⟨.type T, dd, .cls ⟨nm, bs, .ref C' :: bm, N, q, true, sn, sub, ab, col, false⟩, ⟨[k0, k1, k2, k3, some (.builtin b), k5]⟩⟩ => T == "type" && (C' == C && (refsVE bm && b == "ValueError.__new__"))
  | _ => false) && (PySem.W.findIn K (.ref C) "__setattr__" == some (some (.builtin "object.__setattr__")) && (PySem.W.subIn K (.ref C) (.type "BaseException") == some true && (PySem.W.typeIn K (.ref C) == some (.type "type") && PySem.W.keepIn K (.ref C))))
theorem oexB_ok {K : PySem.W.Frag} {C : Addr} (h : oexB K C = true) : OexC K C := by
  unfold oexB at h
  simp only [Bool.and_eq_true, beq_iff_eq] at h
  obtain ⟨h0, h1, h2, h3, h4⟩ := h
  refine ⟨?_, h1, h2, h3, h4⟩
  split at h0
  · rename_i T dd nm bs C' bm N q sn sub ab col k0 k1 k2 k3 b k5 e
    simp only [Bool.and_eq_true, beq_iff_eq] at h0
    obtain ⟨rfl, rfl, g1, rfl⟩ := h0
    exact ⟨_, _, _, _, _, _, _, _, _, _, _, _, _, _, _, e, g1⟩
  · cases h0
/-- what is asked of an own class of errors with these fields -/
structure ExK (K : PySem.W.Frag) (C : Addr) (fs : List Str) : Prop where
  oex : OexC K C
  xf : XfC K C
  no : ∀ f ∈ fs, PySem.W.findIn K (.ref C) f = some none
def kExc (x : Str) (fs : List Str) : Fk := fun K => oexB K (He.ga K x) && (xfB K (He.ga K x) && fs.all fun f => PySem.W.findIn K (.ref (He.ga K x)) f == some none)
theorem kExc_ok {K : PySem.W.Frag} {x : Str} {fs : List Str} (h : kExc x fs K = true) : ExK K (He.ga K x) fs := by
  unfold kExc at h
  simp only [Bool.and_eq_true, List.all_eq_true, beq_iff_eq] at h
  exact ⟨oexB_ok h.1, xfB_ok h.2.1, h.2.2⟩
/-- the clause's test: an error of the class x where y is named -/
def kExm (x y : Str) (b : Bool) : Fk := fun K => PySem.W.exmOne K (.ref (He.ga K x)) (.ref (He.ga K y)) == some b
theorem kExm_ok {K : PySem.W.Frag} {x y : Str} {b : Bool} (h : kExm x y b K = true) : PySem.W.exmOne K (.ref (He.ga K x)) (.ref (He.ga K y)) = some b := beq_iff_eq.mp h
def kIso (x y : Str) : Fk := fun K => PySem.W.kitOne K (.ref (He.ga K x)) (.ref (He.ga K y)) == some true
theorem kIso_ok {K : PySem.W.Frag} {x y : Str} (h : kIso x y K = true) : PySem.W.kitOne K (.ref (He.ga K x)) (.ref (He.ga K y)) = some true := beq_iff_eq.mp h
def kIsb (x : Str) (T : String) : Fk := fun K => PySem.W.kitOne K (.ref (He.ga K x)) (.type T) == some true
theorem kIsb_ok {K : PySem.W.Frag} {x : Str} {T : String} (h : kIsb x T K = true) : PySem.W.kitOne K (.ref (He.ga K x)) (.type T) = some true := beq_iff_eq.mp h
/-- the base of the errors: it has ValueError's __init__ -/
structure ExB (K : PySem.W.Frag) (B : Addr) : Prop where
  s : PySem.W.specialIn K (.ref B) "__getattribute__" = some (some (.builtin "type.__getattribute__"))
  r : PySem.W.readsIn K B (.type "type") = true
  v : PySem.W.findCls K (.ref B) (.type "type") "__init__" = some (.val (.builtin "ValueError.__init__"))
def kExB (x : Str) : Fk := fun K => PySem.W.specialIn K (.ref (He.ga K x)) "__getattribute__" == some (some (.builtin "type.__getattribute__")) && (PySem.W.readsIn K (He.ga K x) (.type "type") && (match PySem.W.findCls K (.ref (He.ga K x)) (.type "type") "__init__" with
  | some (.val (.builtin b)) => b == "ValueError.__init__"
  | _ => false))
theorem kExB_ok {K : PySem.W.Frag} {x : Str} (h : kExB x K = true) : ExB K (He.ga K x) := by
  unfold kExB at h
  simp only [Bool.and_eq_true, beq_iff_eq] at h
  obtain ⟨h1, h2, h3⟩ := h
  refine ⟨h1, h2, ?_⟩
  split at h3
  · rename_i b e
    rw [e, beq_iff_eq.mp h3]
  · cases h3
/-- the maker of an error: its __init__ -/
def kXin (x : Str) : Fk := fun K => PySem.W.findIn K (.ref (He.ga K x)) "__init__" == some (some (.ref (He.ma K (He.ga K x) "__init__"))) && PySem.W.typeIn K (.ref (He.ma K (He.ga K x) "__init__")) == some (.type "function")
theorem kXin_ok {K : PySem.W.Frag} {x : Str} (h : kXin x K = true) : PySem.W.findIn K (.ref (He.ga K x)) "__init__" = some (some (.ref (He.ma K (He.ga K x) "__init__"))) ∧ PySem.W.typeIn K (.ref (He.ma K (He.ga K x) "__init__")) = some (.type "function") := by
  unfold kXin at h
  simp only [Bool.and_eq_true, beq_iff_eq] at h
  exact h
section
variable (P : Program) (w : World) (K : PySem.W.Frag) (mg : Str → Option Value) (base : Heap)
/-- a class of errors with one field -/
def CalX (k : Nat) (x : Str) (ad : Addr) (f : Str) : Prop := ∃ (fI : Addr) (fd : FuncData) (ps : List Str), mg x = some (.ref ad) ∧ OexC K ad ∧ PySem.W.findIn K (.ref ad) "__init__" = some (some (.ref fI)) ∧ PySem.W.typeIn K (.ref fI) = some (.type "function") ∧
  FnOk P w K mg base (L2.CX P w) k fI fd ps (spI1 ad f) ∧ Binds K fd ps []
end
theorem passes0 {X : Cx} : Passes (L2.CX X.prog X.w) X (fun _ _ _ => False) := fun _ _ _ _ e s' I c => takes0 e s' (XE.of_call I (fun _ _ _ h => h) c)
section
variable {X : Cx} {cl : Nat → Option Cli} {fv : Nat → Option Addr} {fx : Nat → Bool} {W : WX} {e : Expr} {es : List Expr} {p pos pos' : Pos} {x f : Str} {ad : Addr} {k c : Nat} {fs : SA} {b : Bool}
theorem x_raise1 (h : CalX X.prog X.w X.K X.mg X.base k x ad f) (hq : cl c = some ⟨ad, [f], b⟩) (tk : Takes X W) (hr : Room (k + 1) X.A) (ha : L2.PA X (e :: es) (tl ⟨X.K, cl, fv⟩ W fs)) (calm : X.calm = true := by rfl) (hg : Gl X x := by rfl)
    (hdb : (x == ("__debug__" : Str)) = false := by decide) (he : starEach (e :: es) X.env = (false, eval e X.env) :: starEach es X.env := by rfl) (hpl : (backTo pos (starEach es X.env)).any (·.1) = false := by rfl) :
    PS X (.Raise (some (.Call (.Name x p) (e :: es) [] pos)) none pos') (ts ⟨X.K, cl, fv⟩ fx W (sRs c fs)) := by
  obtain ⟨fI, fd, ps, hm, T, iC, tI, F1, hb⟩ := h
  exact s_raise1 hq rfl rfl T iC tI F1 hr hb passes0 hg hm calm tk ha hdb he hpl
end
end OL

/-! The O layer, 44: two ways to walk, two ways to read; insert. -/
namespace OL
open PySem PySem.Spec PyProof.Rows L2
def siOr (a b : SI) : SI := fun env => match a env with
  | .bad => b env
  | o => o
def fOr (a b : SE) : SE := fun env => match a env with
  | .bad => b env
  | o => o
section
variable {X : Cx} {C : Ct} {W : WX} {tgx l : Expr} {a b : SI} {fa fb : SE} {e : Expr}
theorem i_or (h1 : PI X tgx l (ti C W a)) (h2 : PI X tgx l (ti C W b)) : PI X tgx l (ti C W (siOr a b)) := ⟨fun pins s σ H R I h => by
  obtain ⟨env, P, Z, rl, ok, h⟩ := h
  unfold siOr at h
  cases ea : a env with
  | bad => rw [ea] at h; exact h2.run pins s σ H R I ⟨env, P, Z, rl, ok, h⟩
  | exc x ds e => rw [ea] at h; exact h1.run pins s σ H R I ⟨env, P, Z, rl, ok, by rw [ea]; exact h⟩
  | ok r e t => rw [ea] at h; exact h1.run pins s σ H R I ⟨env, P, Z, rl, ok, by rw [ea]; exact h⟩⟩
theorem e_or2 (h1 : PE X e (tf C W fa)) (h2 : PE X e (tf C W fb)) : PE X e (tf C W (fOr fa fb)) := ⟨fun pins s σ H Q I h => by
  obtain ⟨env, P, Z, rl, ok, h⟩ := h
  unfold fOr at h
  cases ea : fa env with
  | bad => rw [ea] at h; exact h2.run pins s σ H Q I ⟨env, P, Z, rl, ok, h⟩
  | exc x ds e => rw [ea] at h; exact h1.run pins s σ H Q I ⟨env, P, Z, rl, ok, by rw [ea]; exact h⟩
  | ok r e t => rw [ea] at h; exact h1.run pins s σ H Q I ⟨env, P, Z, rl, ok, by rw [ea]; exact h⟩⟩
end
/-! ### insert -/
def kInsert : D → List D → Option (D × D)
  | .lst xs, [.int i, d] => if szo xs.length && (decide (0 ≤ i) && decide (i ≤ 1000000)) then some (.non, .lst (xs.take i.toNat ++ [d] ++ xs.drop i.toNat)) else none
  | _, _ => none
def rInsert : V → List V → Hp → VK → Prop := fun x vs H Q => ∃ (l : Addr) (xs : List V) (i : Int) (y : V), x = .ref l ∧ vs = [.int i, y] ∧ H l = some (.lst xs) ∧ xs.length < sizeLine ∧ 0 ≤ i ∧ i < 2 ^ 63 ∧ Q .non (upd H l (.lst (xs.take i.toNat ++ [y] ++ xs.drop i.toNat)))
section
variable {C : Ct} {H : Hp} {Z : As}
theorem mr_insert : MutR C rInsert kInsert := fun H Z d ds v vs Pl Pa d' res Q ok dj rp ra hk q => by
  match d, ds, hk, rp, ra with
  | .lst xs, [.int i, d], hk, rp, ra =>
    cases e : szo xs.length && (decide (0 ≤ i) && decide (i ≤ 1000000)) with
    | false => simp [kInsert, e] at hk
    | true =>
      have hk' : some (D.non, D.lst (xs.take i.toNat ++ [d] ++ xs.drop i.toNat)) = some (res, d') := by simpa only [kInsert, e, if_true] using hk
      simp only [Bool.and_eq_true, decide_eq_true_eq] at e
      obtain ⟨e0, e1, e2⟩ := e
      cases hk'
      obtain ⟨a, ws, ev, pa, hh, r⟩ := rp
      obtain ⟨o1, os1, P1, P2, eo1, hi, r2, s1⟩ := ra
      obtain ⟨o2, os2, P3, P4, eo2, hd, r3, s2⟩ := r2
      have r3 : os2 = [] := r3
      subst r3
      rcases hi with hi | ⟨w0, ew0, hi⟩
      · cases hi
      have hi : w0 = .int i := hi
      subst hi
      subst ew0 eo2
      match vs, eo1 with
      | [y0, y], eo1 =>
        simp only [List.map_cons, List.map_nil, List.cons.injEq, Option.some.injEq, and_true] at eo1
        obtain ⟨rfl, rfl⟩ := eo1
        have na : ¬ Pa a := dj a pa
        have okl : OkP Pl Z H := ok.at_.sub fun a x => .inl x
        have lw : ws.length = xs.length := by simpa using repL_len r
        refine ⟨a, ws, i, y, ev, rfl, hh, by rw [lw]; exact szo_lt e0, e1, by omega, ?_⟩
        have k1 : Keep (one a) H (upd H a (.lst (ws.take i.toNat ++ [y] ++ ws.drop i.toNat))) := keep_upd
        have c := ch_upd (o := .lst (ws.take i.toNat ++ [y] ++ ws.drop i.toNat)) ok (.inl pa) trivial
        refine q .non _ (uni Pl Pa) emp (k1.mono fun b x => by rw [show b = a from x]; exact pa) ?_ rfl (fun _ _ z => z) (fun b x => ?_) (c.ok.sub fun b x => x.elim id fun z => z.elim)
        · refine ⟨a, _, ev, .inl pa, upd_same, ?_⟩
          rw [List.map_append, List.map_append, List.map_take, List.map_drop]
          have rk := repL_keep r k1 (one_ok okl pa) (fun b x z => z.2 x) fun _ x => x
          have rk' : RepL C (upd H a (.lst (ws.take i.toNat ++ [y] ++ ws.drop i.toNat))) Z (xs.take i.toNat ++ xs.drop i.toNat) ((ws.map some).take i.toNat ++ (ws.map some).drop i.toNat) (but Pl a) := by
            rw [List.take_append_drop, List.take_append_drop]; exact rk
          obtain ⟨Q1, Q2, ra1, ra2, sp⟩ := repL_split (by simp [lw]) rk'
          have rd : RepL C (upd H a (.lst (ws.take i.toNat ++ [y] ++ ws.drop i.toNat))) Z [d] [some y] Pa := by
            refine ⟨some y, [], P3, emp, rfl, ?_, rfl, ⟨fun b x => s1.r b (s2.l b x), fun _ z => z.elim, fun _ _ z => z.elim⟩⟩
            rcases hd with hd | ⟨w, ew, hd⟩
            · exact .inl hd
            · exact .inr ⟨w, ew, rep_keep hd k1 (one_ok okl pa) (fun b x z => na (by rw [← show b = a from x]; exact s1.r b (s2.l b z))) fun _ x => x⟩
          refine repL_append (P1 := uni Q1 Pa) (P2 := Q2) (repL_append ra1 rd ⟨fun _ x => .inl x, fun _ x => .inr x, fun b x w => dj b (sp.l b x).1 w⟩) ra2 ⟨fun b x => ?_, fun b x => ?_, fun b x w => ?_⟩
          · rcases x with x | x
            · exact ⟨.inl (sp.l b x).1, (sp.l b x).2⟩
            · exact ⟨.inr x, fun z => na (by rw [← z]; exact x)⟩
          · exact ⟨.inl (sp.r b x).1, (sp.r b x).2⟩
          · rcases x with x | x
            · exact sp.d b x w
            · exact dj b (sp.r b w).1 x
        · rcases x with (x | x) | x
          · exact .inl x
          · exact .inr (.inl x)
          · exact x.elim
end
section
variable {X : Cx} {C : Ct} {W : WX} {o e1 e2 : Expr} {fo f1 f2 : SE} {apos cpos : Pos}
theorem x_insert (ho : PE X o (tf C W fo)) (h1 : PE X e1 (tf C W f1)) (h2 : PE X e2 (tf C W f2))
    (hbase : attributeBase o "insert" X.env (eval o X.env) = eval o X.env := by rfl)
    (hfew : ((backTo cpos (starEach [e1, e2] X.env)).all (fun x => !x.1) && (backToKw cpos (keywordEach [] X.env)).all (fun x => x.1.isSome)
      && decide ([e1, e2].length + ([] : List Keyword).length + (if ([] : List Keyword).isEmpty then 0 else 1) < 30)) = true := by rfl)
    (hline : (apos.endLine == cpos.line) = true := by rfl) (hs : starEach [e1, e2] X.env = (false, eval e1 X.env) :: starEach [e2] X.env := by rfl) (hs2 : starEach [e2] X.env = (false, eval e2 X.env) :: starEach [] X.env := by rfl) (hplain : (backTo cpos (starEach [e2] X.env)).any (·.1) = false := by rfl) :
    PE X (.Call (.Attribute o "insert" apos) [e1, e2] [] cpos) (tf C W (fMut isLst kInsert fo (lCons f1 (lCons f2 lNil)))) :=
  e_mut PySem.F.plainAttrs_list PySem.F.slot_list_insert PySem.F.type_list_insert mt_insert ty_lst mr_insert ho (a_cons h1 (a_cons h2 a_nil hs2) hs) hbase hfew hline hs hplain
end
/-! ### a name frozen behind a statement -/
def sFz (s : SS) (i : Nat) : SS := fun env => match s env with
  | .ok .nx e _ => (match e[i]? with
    | some d => if d.mv then .bad else .ok .nx (e.set i d.fz) true
    | none => .bad)
  | o => o
theorem s_fz {X : Cx} {C : Ct} {fx : Nat → Bool} {W : WX} {st : Stmt} {s : SS} {i : Nat} (h : PS X st (ts C fx W s)) : PS X st (ts C fx W (sFz s i)) := ps_imp h fun D σ H h => by
  obtain ⟨env, P, Z, rl, ok, h⟩ := h
  refine ⟨env, P, Z, rl, ok, ?_⟩
  unfold sFz at h
  cases es : s env with
  | bad => rw [es] at h; exact h
  | exc x ds e => rw [es] at h; exact h
  | ok fl e t =>
    rw [es] at h
    cases fl with
    | bk => exact h
    | ct => exact h
    | rt d => exact h
    | nx =>
      simp only at h
      cases ed : e[i]? with
      | none => simp only [ed] at h; exact h.elim
      | some d =>
        simp only [ed] at h
        cases m : d.mv with
        | true => simp [m] at h; exact h.elim
        | false =>
          simp only [m] at h
          intro σ' P' Z' H' p
          obtain ⟨v, P1, ev, sb, rp, up⟩ := repL_at p.rl ed (mv_ne m)
          have r1 := up H' (uni Z' P1) emp d.fz (some v) emp keep_refl OkP.emp (fun _ x => .inl x) (fun _ z => z.elim) (.inr ⟨v, rfl, rep_fz rp (fun _ x => .inl x) fun _ x => .inr x⟩) fun _ z => z.elim
          have eos : σ'.set i (some v) = σ' := by
            apply List.ext_getElem?
            intro j
            by_cases hj : i = j
            · subst hj
              rw [List.getElem?_set_self (List.getElem?_eq_some_iff.mp ev).1, ev]
            · rw [List.getElem?_set_ne hj]
          rw [eos, uni_emp] at r1
          have eP : P' = uni (mns P' P1) P1 := funext fun a => propext ⟨fun x => by
            by_cases y : P1 a
            · exact .inr y
            · exact .inl ⟨x, y⟩, fun x => x.elim (fun y => y.1) (sb a)⟩
          have c := p.ch
          rw [eP] at c
          exact h σ' (mns P' P1) (uni Z' P1) H' ⟨r1, c.trans0 (ch_fz c.ok fun a x y => x.2 y), p.fix⟩
end OL

/-! The plain layer, 1: the functions on data evaluated step by step. -/
namespace OL
open PySem PySem.Spec PyProof.Rows L2
/-! ### values -/
def evV (i : Nat) (env : Env) : Option D → O R
  | some d => if d.mv then .bad else if d.st then .ok (.val d) env false else .ok (.plc i []) env false
  | none => .bad
theorem ev_var (i : Nat) (env : Env) : fVar i env = evV i env env[i]? := rfl
def evV2 (i : Nat) (env : Env) (d : D) : Bool → Bool → O R
  | true, _ => .bad
  | false, true => .ok (.val d) env false
  | false, false => .ok (.plc i []) env false
theorem ev_var2 (i : Nat) (env : Env) (d : D) : evV i env (some d) = evV2 i env d d.mv d.st := by
  show (if d.mv then O.bad else if d.st then O.ok (R.val d) env false else O.ok (R.plc i []) env false) = _
  cases d.mv <;> cases d.st <;> rfl
theorem ev_varT (i : Nat) (env : Env) (d : D) : evV2 i env d false true = .ok (.val d) env false := rfl
theorem ev_varF (i : Nat) (env : Env) (d : D) : evV2 i env d false false = .ok (.plc i []) env false := rfl
theorem ev_c (d : D) (env : Env) : fC d env = .ok (.val d) env false := rfl
def fin : Option D → Env → Bool → O R
  | some d, e, t => .ok (.val d) e t
  | none, _, _ => .bad
theorem fin_some (d : D) (e : Env) (t : Bool) : fin (some d) e t = .ok (.val d) e t := rfl
/-! ### one, two operands -/
def st1 (o : O R) (k : D → Option D) : O R := o.bind fun ra e1 t1 => fin ((rdR e1 ra).bind k) e1 t1
theorem ev_one (fa : SE) (k : D → Option D) (env : Env) : fOne fa k env = st1 (fa env) k := by
  unfold fOne st1
  cases fa env with
  | ok ra e t => show (match (rdR e ra).bind k with | some d => O.ok (R.val d) e t | none => O.bad) = fin ((rdR e ra).bind k) e t; cases (rdR e ra).bind k <;> rfl
  | exc => rfl
  | bad => rfl
theorem st1_ok (ra : R) (e : Env) (t : Bool) (k : D → Option D) : st1 (.ok ra e t) k = fin ((rdR e ra).bind k) e t := rfl
def st2 (o : O R) (fb : SE) (g : D → D → Option D) : O R := o.bind fun ra e1 t1 => (fb e1).bind fun rb e2 t2 =>
  if okR ra t2 then match (rdR e2 ra).bind fun da => (rdR e2 rb).bind fun db => g da db with
    | some d => .ok (.val d) e2 (t1 || t2)
    | none => .bad
  else .bad
def st2a (ra : R) (t1 : Bool) (o : O R) (g : D → D → Option D) : O R := o.bind fun rb e2 t2 =>
  if okR ra t2 then match (rdR e2 ra).bind fun da => (rdR e2 rb).bind fun db => g da db with
    | some d => .ok (.val d) e2 (t1 || t2)
    | none => .bad
  else .bad
def st2b : Bool → Option D → Option D → (D → D → Option D) → Env → Bool → O R
  | true, some a, some b, g, e, t => fin (g a b) e t
  | _, _, _, _, _, _ => .bad
theorem ev_two (fa fb : SE) (g : D → D → Option D) (env : Env) : fTwo fa fb g env = st2 (fa env) fb g := rfl
theorem st2_ok (ra : R) (e1 : Env) (t1 : Bool) (fb : SE) (g : D → D → Option D) : st2 (.ok ra e1 t1) fb g = st2a ra t1 (fb e1) g := rfl
theorem st2a_ok (ra rb : R) (t1 t2 : Bool) (e2 : Env) (g : D → D → Option D) : st2a ra t1 (.ok rb e2 t2) g = st2b (okR ra t2) (rdR e2 ra) (rdR e2 rb) g e2 (t1 || t2) := by
  show (if okR ra t2 then match (rdR e2 ra).bind fun da => (rdR e2 rb).bind fun db => g da db with
    | some d => O.ok (R.val d) e2 (t1 || t2)
    | none => O.bad
  else O.bad) = _
  cases okR ra t2 with
  | false => rfl
  | true =>
    cases rdR e2 ra with
    | none => rfl
    | some a => cases rdR e2 rb with
      | none => rfl
      | some b => show (match g a b with | some d => O.ok (R.val d) e2 (t1 || t2) | none => O.bad) = fin (g a b) e2 (t1 || t2); cases g a b <;> rfl
theorem st2b_ok (a b : D) (g : D → D → Option D) (e : Env) (t : Bool) : st2b true (some a) (some b) g e t = fin (g a b) e t := rfl
/-! ### arguments -/
theorem ev_nil (env : Env) : lNil env = .ok [] env false := rfl
def stC (o : O R) (fs : SA) : O (List R) := o.bind fun ra e1 t1 => (fs e1).bind fun rs e2 t2 => if okR ra t2 then .ok (ra :: rs) e2 (t1 || t2) else .bad
def stCa (ra : R) (t1 : Bool) (o : O (List R)) : O (List R) := o.bind fun rs e2 t2 => if okR ra t2 then .ok (ra :: rs) e2 (t1 || t2) else .bad
def stCb : Bool → List R → Env → Bool → O (List R)
  | true, rs, e, t => .ok rs e t
  | false, _, _, _ => .bad
theorem ev_cons (fa : SE) (fs : SA) (env : Env) : lCons fa fs env = stC (fa env) fs := rfl
theorem stC_ok (ra : R) (e1 : Env) (t1 : Bool) (fs : SA) : stC (.ok ra e1 t1) fs = stCa ra t1 (fs e1) := rfl
theorem stCa_ok (ra : R) (t1 t2 : Bool) (rs : List R) (e2 : Env) : stCa ra t1 (.ok rs e2 t2) = stCb (okR ra t2) (ra :: rs) e2 (t1 || t2) := by
  show (if okR ra t2 then O.ok (ra :: rs) e2 (t1 || t2) else O.bad) = _
  cases okR ra t2 <;> rfl
theorem stCb_ok (rs : List R) (e : Env) (t : Bool) : stCb true rs e t = .ok rs e t := rfl
def stN (o : O (List R)) (k : List D → Option D) : O R := o.bind fun rs e1 t1 => fin ((rdRs e1 rs).bind k) e1 t1
theorem ev_N (fs : SA) (k : List D → Option D) (env : Env) : fN fs k env = stN (fs env) k := by
  unfold fN stN
  cases fs env with
  | ok rs e t => show (match (rdRs e rs).bind k with | some d => O.ok (R.val d) e t | none => O.bad) = fin ((rdRs e rs).bind k) e t; cases (rdRs e rs).bind k <;> rfl
  | exc => rfl
  | bad => rfl
theorem stN_ok (rs : List R) (e : Env) (t : Bool) (k : List D → Option D) : stN (.ok rs e t) k = fin ((rdRs e rs).bind k) e t := rfl
theorem rdRs_nil (env : Env) : rdRs env [] = some [] := rfl
theorem rdRs_cons (env : Env) (r : R) (rs : List R) : rdRs env (r :: rs) = (rdR env r).bind fun d => (rdRs env rs).map (d :: ·) := rfl
theorem rdR_val (env : Env) (d : D) : rdR env (.val d) = some d := rfl
def rdP : Option D → Option D
  | some d => if d.mv then none else some d
  | none => none
theorem ev_rdp (env : Env) (i : Nat) (p : List Pj) : rdR env (.plc i p) = rdP (eget env i p) := by
  show (match eget env i p with
    | some d => if d.mv then none else some d
    | none => none) = _
  cases eget env i p <;> rfl
theorem rdP_some (d : D) : rdP (some d) = if d.mv then none else some d := rfl
theorem rdP_none : rdP none = none := rfl
theorem okR_val (d : D) (t : Bool) : okR (.val d) t = true := rfl
theorem okR_nil (i : Nat) (t : Bool) : okR (.plc i []) t = true := rfl
theorem okR_cons (i : Nat) (q : Pj) (p : List Pj) (t : Bool) : okR (.plc i (q :: p)) t = !t := rfl
/-! ### tests -/
def stB (o : O R) : O Bool := o.bind fun r e1 t1 => match rdR e1 r with
  | some (.bl b) => .ok b e1 t1
  | _ => .bad
def stBa : Option D → Env → Bool → O Bool
  | some (.bl b), e, t => .ok b e t
  | _, _, _ => .bad
theorem ev_val (fa : SE) (env : Env) : bVal fa env = stB (fa env) := rfl
theorem stB_ok (r : R) (e : Env) (t : Bool) : stB (.ok r e t) = stBa (rdR e r) e t := by
  show (match rdR e r with
  | some (.bl b) => O.ok b e t
  | _ => O.bad) = _
  cases rdR e r with
  | none => rfl
  | some d => cases d <;> rfl
theorem stBa_ok (b : Bool) (e : Env) (t : Bool) : stBa (some (.bl b)) e t = .ok b e t := rfl
def orT {α : Type} (t1 : Bool) (o : O α) : O α := o.bind fun y e2 t2 => .ok y e2 (t1 || t2)
theorem orT_ok {α : Type} (t1 t2 : Bool) (y : α) (e : Env) : orT t1 (.ok y e t2) = .ok y e (t1 || t2) := rfl
theorem orT_exc {α : Type} (t1 : Bool) (x : Nat) (ds : List D) (e : Env) : orT t1 (.exc x ds e : O α) = .exc x ds e := rfl
def stAnd (o : O Bool) (b : SB) : O Bool := o.bind fun x e1 t1 => if x then orT t1 (b e1) else .ok false e1 t1
def stOr (o : O Bool) (b : SB) : O Bool := o.bind fun x e1 t1 => if x then .ok true e1 t1 else orT t1 (b e1)
def stNot (o : O Bool) : O Bool := o.bind fun x e1 t1 => .ok (!x) e1 t1
def stFB (o : O Bool) : O R := o.bind fun x e1 t1 => .ok (.val (.bl x)) e1 t1
def stIte (o : O Bool) (fa fb : SE) : O R := o.bind fun x e1 t1 => if x then orT t1 (fa e1) else orT t1 (fb e1)
theorem ev_and (a b : SB) (env : Env) : bAnd a b env = stAnd (a env) b := rfl
theorem ev_or (a b : SB) (env : Env) : bOr a b env = stOr (a env) b := rfl
theorem ev_not (a : SB) (env : Env) : bNot a env = stNot (a env) := rfl
theorem ev_B (a : SB) (env : Env) : fB a env = stFB (a env) := rfl
theorem ev_ite (c : SB) (fa fb : SE) (env : Env) : fIte c fa fb env = stIte (c env) fa fb := rfl
theorem stAnd_t (e : Env) (t : Bool) (b : SB) : stAnd (.ok true e t) b = orT t (b e) := rfl
theorem stAnd_f (e : Env) (t : Bool) (b : SB) : stAnd (.ok false e t) b = .ok false e t := rfl
theorem stOr_t (e : Env) (t : Bool) (b : SB) : stOr (.ok true e t) b = .ok true e t := rfl
theorem stOr_f (e : Env) (t : Bool) (b : SB) : stOr (.ok false e t) b = orT t (b e) := rfl
theorem stNot_ok (x : Bool) (e : Env) (t : Bool) : stNot (.ok x e t) = .ok (!x) e t := rfl
theorem stFB_ok (x : Bool) (e : Env) (t : Bool) : stFB (.ok x e t) = .ok (.val (.bl x)) e t := rfl
theorem stIte_t (e : Env) (t : Bool) (fa fb : SE) : stIte (.ok true e t) fa fb = orT t (fa e) := rfl
theorem stIte_f (e : Env) (t : Bool) (fa fb : SE) : stIte (.ok false e t) fa fb = orT t (fb e) := rfl
/-! ### statements -/
def O.seq (o : O Fl) (b : SS) : O Fl := match o with
  | .ok .nx e _ => b e
  | .ok f e t => .ok f e t
  | .exc x ds e => .exc x ds e
  | .bad => .bad
theorem ev_then (a b : SS) (env : Env) : sThen a b env = (a env).seq b := by
  unfold sThen O.seq
  cases a env with
  | ok f e t => cases f <;> rfl
  | exc => rfl
  | bad => rfl
theorem seq_nx (e : Env) (t : Bool) (b : SS) : (O.ok .nx e t).seq b = b e := rfl
theorem seq_rt (d : D) (e : Env) (t : Bool) (b : SS) : (O.ok (.rt d) e t).seq b = .ok (.rt d) e t := rfl
theorem seq_bk (e : Env) (t : Bool) (b : SS) : (O.ok .bk e t).seq b = .ok .bk e t := rfl
theorem seq_ct (e : Env) (t : Bool) (b : SS) : (O.ok .ct e t).seq b = .ok .ct e t := rfl
theorem seq_exc (x : Nat) (ds : List D) (e : Env) (b : SS) : (O.exc x ds e : O Fl).seq b = .exc x ds e := rfl
theorem ev_snil (env : Env) : sNil env = .ok .nx env false := rfl
theorem ev_sfl (f : Fl) (env : Env) : sFl f env = .ok f env false := rfl
def stX (o : O R) : O Fl := o.bind fun _ e t => .ok .nx e t
theorem ev_sx (fa : SE) (env : Env) : sExpr fa env = stX (fa env) := rfl
theorem stX_ok (r : R) (e : Env) (t : Bool) : stX (.ok r e t) = .ok .nx e t := rfl
theorem stX_exc (x : Nat) (ds : List D) (e : Env) : stX (.exc x ds e) = .exc x ds e := rfl
def tkP (env : Env) (i : Nat) (p : List Pj) : Option D → Option (D × Env)
  | some d => if d.mv then none else some (d, eput env i p .mvd)
  | none => none
theorem tkR_val (env : Env) (d : D) : tkR env (.val d) = some (d, env) := rfl
theorem tkR_plc (env : Env) (i : Nat) (p : List Pj) : tkR env (.plc i p) = tkP env i p (eget env i p) := by
  show (match eget env i p with
    | some d => if d.mv then none else some (d, eput env i p .mvd)
    | none => none) = _
  cases eget env i p <;> rfl
theorem tkP_some (env : Env) (i : Nat) (p : List Pj) (d : D) : tkP env i p (some d) = if d.mv then none else some (d, eput env i p .mvd) := rfl
def stR (o : O R) : O Fl := o.bind fun r e t => match tkR e r with
  | some (d, e') => .ok (.rt d) e' t
  | none => .bad
def stRa : Option (D × Env) → Bool → O Fl
  | some (d, e'), t => .ok (.rt d) e' t
  | none, _ => .bad
theorem ev_sret (fa : SE) (env : Env) : sRet fa env = stR (fa env) := rfl
theorem stR_ok (r : R) (e : Env) (t : Bool) : stR (.ok r e t) = stRa (tkR e r) t := by
  show (match tkR e r with
  | some (d, e') => O.ok (Fl.rt d) e' t
  | none => O.bad) = _
  cases tkR e r <;> rfl
theorem stR_exc (x : Nat) (ds : List D) (e : Env) : stR (.exc x ds e) = .exc x ds e := rfl
theorem stRa_ok (d : D) (e : Env) (t : Bool) : stRa (some (d, e)) t = .ok (.rt d) e t := rfl
def stIf (o : O Bool) (a b : SS) : O Fl := o.bind fun x e _ => if x then a e else b e
theorem ev_if (c : SB) (a b : SS) (env : Env) : sIf c a b env = stIf (c env) a b := rfl
theorem stIf_t (e : Env) (t : Bool) (a b : SS) : stIf (.ok true e t) a b = a e := rfl
theorem stIf_f (e : Env) (t : Bool) (a b : SS) : stIf (.ok false e t) a b = b e := rfl
theorem stIf_exc (x : Nat) (ds : List D) (e : Env) (a b : SS) : stIf (.exc x ds e) a b = .exc x ds e := rfl
def stA (o : O R) (g : GT) : O Fl := o.bind fun r e t => match (tkR e r).bind fun de => g de.1 de.2 with
  | some e' => .ok .nx e' t
  | none => .bad
def stAa : Option (D × Env) → GT → Bool → O Fl
  | some (d, e), g, t => match g d e with
    | some e' => .ok .nx e' t
    | none => .bad
  | none, _, _ => .bad
def stAb : Option Env → Bool → O Fl
  | some e', t => .ok .nx e' t
  | none, _ => .bad
theorem ev_asg (fa : SE) (g : GT) (env : Env) : sAsg fa g env = stA (fa env) g := rfl
theorem stA_ok (r : R) (e : Env) (t : Bool) (g : GT) : stA (.ok r e t) g = stAa (tkR e r) g t := by
  show (match (tkR e r).bind fun de => g de.1 de.2 with
  | some e' => O.ok Fl.nx e' t
  | none => O.bad) = _
  cases tkR e r <;> rfl
theorem stA_exc (x : Nat) (ds : List D) (e : Env) (g : GT) : stA (.exc x ds e) g = .exc x ds e := rfl
theorem stAa_ok (d : D) (e : Env) (g : GT) (t : Bool) : stAa (some (d, e)) g t = stAb (g d e) t := by
  show (match g d e with
    | some e' => O.ok Fl.nx e' t
    | none => O.bad) = _
  cases g d e <;> rfl
theorem stAb_ok (e : Env) (t : Bool) : stAb (some e) t = .ok .nx e t := rfl
theorem ev_gn (i : Nat) (d : D) (env : Env) : gtName i d env = if i < env.length then some (env.set i d) else none := rfl
theorem ev_gtup (gs : List GT) (ds : List D) (env : Env) : gtTup gs (.tup ds) env = gtAll gs ds env := rfl
theorem ev_gall0 (env : Env) : gtAll [] [] env = some env := rfl
theorem ev_gall (g : GT) (gs : List GT) (d : D) (ds : List D) (env : Env) : gtAll (g :: gs) (d :: ds) env = (g d env).bind (gtAll gs ds) := rfl
/-! ### calls -/
def stF (np : Nat) (F : FS) (dd : List D) (o : O (List R)) : O R := o.bind fun rs e1 t1 => if rs.length + dd.length = np then (match tkA rs e1 with
  | none => .bad
  | some (ds, e2) => match F (ds ++ dd) with
    | .ok d ds' => .ok (.val d) (gvA rs ds' e2) (t1 || anyP rs)
    | .exc x xs ds' => .exc x xs (gvA rs ds' e2)
    | .bad => .bad) else .bad
def stFa (F : FS) (dd : List D) (rs : List R) (t : Bool) : Option (List D × Env) → O R
  | none => .bad
  | some (ds, e2) => match F (ds ++ dd) with
    | .ok d ds' => .ok (.val d) (gvA rs ds' e2) (t || anyP rs)
    | .exc x xs ds' => .exc x xs (gvA rs ds' e2)
    | .bad => .bad
def stFb (rs : List R) (t : Bool) (e2 : Env) : FO → O R
  | .ok d ds' => .ok (.val d) (gvA rs ds' e2) (t || anyP rs)
  | .exc x xs ds' => .exc x xs (gvA rs ds' e2)
  | .bad => .bad
theorem ev_app (np : Nat) (F : FS) (fs : SA) (dd : List D) (env : Env) : fApp np F fs dd env = stF np F dd (fs env) := rfl
theorem stF_ok (np : Nat) (F : FS) (dd : List D) (rs : List R) (e : Env) (t : Bool) (h : rs.length + dd.length = np) : stF np F dd (.ok rs e t) = stFa F dd rs t (tkA rs e) := by
  show (if rs.length + dd.length = np then _ else _) = _
  rw [if_pos h]
  cases tkA rs e <;> rfl
theorem stFa_ok (F : FS) (dd : List D) (rs : List R) (t : Bool) (ds : List D) (e : Env) : stFa F dd rs t (some (ds, e)) = stFb rs t e (F (ds ++ dd)) := by
  show (match F (ds ++ dd) with
    | .ok d ds' => O.ok (R.val d) (gvA rs ds' e) (t || anyP rs)
    | .exc x xs ds' => O.exc x xs (gvA rs ds' e)
    | .bad => O.bad) = _
  cases F (ds ++ dd) <;> rfl
theorem stFb_ok (rs : List R) (t : Bool) (e : Env) (d : D) (ds : List D) : stFb rs t e (.ok d ds) = .ok (.val d) (gvA rs ds e) (t || anyP rs) := rfl
theorem stFb_exc (rs : List R) (t : Bool) (e : Env) (x : Nat) (xs ds : List D) : stFb rs t e (.exc x xs ds) = .exc x xs (gvA rs ds e) := rfl
theorem tkA_nil (e : Env) : tkA [] e = some ([], e) := rfl
theorem tkA_val (d : D) (rs : List R) (e : Env) : tkA (.val d :: rs) e = (tkA rs e).map fun x => (d :: x.1, x.2) := rfl
def tkB (i : Nat) (rs : List R) (e : Env) : Option D → Option (List D × Env)
  | some d => if d.mv then none else (tkA rs (e.set i .mvd)).map fun x => (d :: x.1, x.2)
  | none => none
theorem tkA_plc (i : Nat) (rs : List R) (e : Env) : tkA (.plc i [] :: rs) e = tkB i rs e e[i]? := by
  show (match e[i]? with
    | some d => if d.mv then none else (tkA rs (e.set i .mvd)).map fun (x : List D × Env) => (d :: x.1, x.2)
    | none => none) = _
  cases e[i]? <;> rfl
theorem tkB_some (i : Nat) (rs : List R) (e : Env) (d : D) : tkB i rs e (some d) = if d.mv then none else (tkA rs (e.set i .mvd)).map fun x => (d :: x.1, x.2) := rfl
theorem gvA_nil (ds : List D) (e : Env) : gvA [] ds e = e := by cases ds <;> rfl
theorem gvA_val (d0 : D) (rs : List R) (d : D) (ds : List D) (e : Env) : gvA (.val d0 :: rs) (d :: ds) e = gvA rs ds e := rfl
theorem gvA_plc (i : Nat) (p : List Pj) (rs : List R) (d : D) (ds : List D) (e : Env) : gvA (.plc i p :: rs) (d :: ds) e = (gvA rs ds e).set i d := rfl
theorem anyP_nil : anyP [] = false := rfl
theorem anyP_val (d : D) (rs : List R) : anyP (.val d :: rs) = anyP rs := rfl
theorem anyP_plc (i : Nat) (p : List Pj) (rs : List R) : anyP (.plc i p :: rs) = true := rfl
/-- a def's whole -/
def stS (fx : Nat → Bool) (np : Nat) : O Fl → FO
  | .ok .nx e _ => .ok .non (msk fx 0 np e)
  | .ok (.rt d) e _ => .ok d (msk fx 0 np e)
  | .exc x xs e => .exc x xs (msk fx 0 np e)
  | _ => .bad
theorem ev_sem (fx : Nat → Bool) (np nl : Nat) (b : SS) (ds : List D) (h : ds.length = np) : semOf fx np nl b ds = stS fx np (b (ds ++ List.replicate (nl - np) .mvd)) := by
  unfold semOf
  rw [if_pos h]
  unfold stS
  cases b (ds ++ List.replicate (nl - np) .mvd) with
  | ok f e t => cases f <;> rfl
  | exc => rfl
  | bad => rfl
theorem stS_nx (fx : Nat → Bool) (np : Nat) (e : Env) (t : Bool) : stS fx np (.ok .nx e t) = .ok .non (msk fx 0 np e) := rfl
theorem stS_rt (fx : Nat → Bool) (np : Nat) (d : D) (e : Env) (t : Bool) : stS fx np (.ok (.rt d) e t) = .ok d (msk fx 0 np e) := rfl
theorem stS_exc (fx : Nat → Bool) (np : Nat) (x : Nat) (ds : List D) (e : Env) : stS fx np (.exc x ds e) = .exc x ds (msk fx 0 np e) := rfl
theorem msk_s (fx : Nat → Bool) (i n : Nat) (d : D) (e : Env) : msk fx i (n + 1) (d :: e) = (if fx i then d else .mvd) :: msk fx (i + 1) n e := rfl
theorem msk_0 (fx : Nat → Bool) (i : Nat) (e : Env) : msk fx i 0 e = [] := by cases e <;> rfl
end OL

/-! The plain layer, 2: the rest of the constructs. -/
namespace OL
open PySem PySem.Spec PyProof.Rows L2
/-! ### self ahead of the arguments -/
def stL1 (c : Nat) (o : O R) (fs : SA) : O (List R) := o.bind fun ro e1 t1 => if cOf e1 ro = some c then (fs e1).bind fun rs e2 t2 => if okR ro t2 then .ok (ro :: rs) e2 (t1 || t2) else .bad else .bad
theorem ev_self (c : Nat) (fo : SE) (fs : SA) (env : Env) : lSelf c fo fs env = stL1 c (fo env) fs := rfl
theorem stL1_ok (c : Nat) (ro : R) (e1 : Env) (t1 : Bool) (fs : SA) (h : cOf e1 ro = some c) : stL1 c (.ok ro e1 t1) fs = stCa ro t1 (fs e1) := by
  show (if cOf e1 ro = some c then _ else _) = _
  rw [if_pos h]
  rfl
def cOfD : Option D → Option Nat
  | some (.ins c _) => some c
  | some (.fin c _) => some c
  | _ => none
theorem ev_cof (env : Env) (r : R) : cOf env r = cOfD (rdR env r) := by
  unfold cOf cOfD
  cases rdR env r with
  | none => rfl
  | some d => cases d <;> rfl
theorem cOfD_ins (c : Nat) (ds : List D) : cOfD (some (.ins c ds)) = some c := rfl
theorem cOfD_fin (c : Nat) (ds : List D) : cOfD (some (.fin c ds)) = some c := rfl
/-! ### fields -/
def stFl (c j : Nat) (o : O R) : O R := o.bind fun r e t => match r with
  | .val (.fin c' ds) => if c' = c then (match ds[j]? with
    | some d => if d.mv then .bad else .ok (.val d) e t
    | none => .bad) else .bad
  | .val (.ins c' ds) => if c' = c then (match ds[j]? with
    | some d => if d.mv then .bad else .ok (.val d) e t
    | none => .bad) else .bad
  | .plc i p => match eget e i p with
    | some (.ins c' ds) => if c' = c then (match ds[j]? with
      | some d => if d.mv then .bad else if d.st then .ok (.val d) e t else .ok (.plc i (p ++ [.fld c j])) e t
      | none => .bad) else .bad
    | _ => .bad
  | _ => .bad
theorem ev_fld (c j : Nat) (fo : SE) (env : Env) : fFld c j fo env = stFl c j (fo env) := rfl
def fvO (e : Env) (t : Bool) : Option D → O R
  | some d => if d.mv then .bad else .ok (.val d) e t
  | none => .bad
theorem fvO_some (e : Env) (t : Bool) (d : D) : fvO e t (some d) = if d.mv then .bad else .ok (.val d) e t := rfl
def fvP (c j i : Nat) (p : List Pj) (e : Env) (t : Bool) : Option D → O R
  | some d => if d.mv then .bad else if d.st then .ok (.val d) e t else .ok (.plc i (p ++ [.fld c j])) e t
  | none => .bad
theorem fvP_some (c j i : Nat) (p : List Pj) (e : Env) (t : Bool) (d : D) : fvP c j i p e t (some d) = if d.mv then .bad else if d.st then .ok (.val d) e t else .ok (.plc i (p ++ [.fld c j])) e t := rfl
theorem stFl_fin (c j : Nat) (ds : List D) (e : Env) (t : Bool) : stFl c j (.ok (.val (.fin c ds)) e t) = fvO e t ds[j]? := by
  show (if c = c then (match ds[j]? with
    | some d => if d.mv then O.bad else O.ok (R.val d) e t
    | none => O.bad) else O.bad) = _
  rw [if_pos rfl]
  cases ds[j]? <;> rfl
theorem stFl_ins (c j : Nat) (ds : List D) (e : Env) (t : Bool) : stFl c j (.ok (.val (.ins c ds)) e t) = fvO e t ds[j]? := by
  show (if c = c then (match ds[j]? with
    | some d => if d.mv then O.bad else O.ok (R.val d) e t
    | none => O.bad) else O.bad) = _
  rw [if_pos rfl]
  cases ds[j]? <;> rfl
theorem stFl_plc (c j i : Nat) (p : List Pj) (ds : List D) (e : Env) (t : Bool) (h : eget e i p = some (.ins c ds)) : stFl c j (.ok (.plc i p) e t) = fvP c j i p e t ds[j]? := by
  show (match eget e i p with
    | some (.ins c' ds) => if c' = c then (match ds[j]? with
      | some d => if d.mv then O.bad else if d.st then O.ok (R.val d) e t else O.ok (R.plc i (p ++ [Pj.fld c j])) e t
      | none => O.bad) else O.bad
    | _ => O.bad) = _
  rw [h]
  show (if c = c then (match ds[j]? with
      | some d => if d.mv then O.bad else if d.st then O.ok (R.val d) e t else O.ok (R.plc i (p ++ [Pj.fld c j])) e t
      | none => O.bad) else O.bad) = _
  rw [if_pos rfl]
  cases ds[j]? <;> rfl
/-! ### properties, objects made -/
def stP (c : Nat) (F : FS) (o : O R) : O R := o.bind fun ro e1 t1 => if cOf e1 ro = some c then (match tkA [ro] e1 with
  | none => .bad
  | some (ds, e2) => match F ds with
    | .ok d ds' => .ok (.val d) (gvA [ro] ds' e2) (t1 || anyP [ro])
    | _ => .bad) else .bad
theorem ev_prop (c : Nat) (F : FS) (fo : SE) (env : Env) : fProp c F fo env = stP c F (fo env) := rfl
theorem stP_fin (c : Nat) (F : FS) (ds : List D) (e : Env) (t : Bool) (d : D) (ds' : List D) (h : F [.fin c ds] = .ok d ds') : stP c F (.ok (.val (.fin c ds)) e t) = .ok (.val d) (gvA [.val (.fin c ds)] ds' e) t := by
  show (if cOf e (.val (.fin c ds)) = some c then (match F [.fin c ds] with
    | .ok d ds' => O.ok (R.val d) (gvA [.val (.fin c ds)] ds' e) (t || anyP [.val (.fin c ds)])
    | _ => O.bad) else O.bad) = _
  rw [if_pos (show cOf e (.val (.fin c ds)) = some c from rfl), h]
  show O.ok _ _ (t || false) = _
  rw [Bool.or_false]
def stM (c nf np : Nat) (z : Bool) (F : FS) (dd : List D) (o : O (List R)) : O R := o.bind fun rs e1 t1 => if rs.length + dd.length + 1 = np then (match tkA rs e1 with
  | none => .bad
  | some (ds, e2) => match F (.ins c (List.replicate nf .mvd) :: (ds ++ dd)) with
    | .ok .non (o :: ds') => if o.mv then .bad else .ok (.val (if z then o.fz else o)) (gvA rs ds' e2) (t1 || anyP rs)
    | .exc x xs (_ :: ds') => .exc x xs (gvA rs ds' e2)
    | _ => .bad) else .bad
def stMa (c nf : Nat) (z : Bool) (F : FS) (dd : List D) (rs : List R) (t : Bool) : Option (List D × Env) → O R
  | none => .bad
  | some (ds, e2) => match F (.ins c (List.replicate nf .mvd) :: (ds ++ dd)) with
    | .ok .non (o :: ds') => if o.mv then .bad else .ok (.val (if z then o.fz else o)) (gvA rs ds' e2) (t || anyP rs)
    | .exc x xs (_ :: ds') => .exc x xs (gvA rs ds' e2)
    | _ => .bad
def stMb (z : Bool) (rs : List R) (t : Bool) (e2 : Env) : FO → O R
  | .ok .non (o :: ds') => if o.mv then .bad else .ok (.val (if z then o.fz else o)) (gvA rs ds' e2) (t || anyP rs)
  | .exc x xs (_ :: ds') => .exc x xs (gvA rs ds' e2)
  | _ => .bad
theorem ev_make (c nf np : Nat) (z : Bool) (F : FS) (fs : SA) (dd : List D) (env : Env) : fMake c nf np z F fs dd env = stM c nf np z F dd (fs env) := rfl
theorem stM_ok (c nf np : Nat) (z : Bool) (F : FS) (dd : List D) (rs : List R) (e : Env) (t : Bool) (h : rs.length + dd.length + 1 = np) : stM c nf np z F dd (.ok rs e t) = stMa c nf z F dd rs t (tkA rs e) := by
  show (if rs.length + dd.length + 1 = np then _ else _) = _
  rw [if_pos h]
  cases tkA rs e <;> rfl
theorem stMa_ok (c nf : Nat) (z : Bool) (F : FS) (dd : List D) (rs : List R) (t : Bool) (ds : List D) (e : Env) : stMa c nf z F dd rs t (some (ds, e)) = stMb z rs t e (F (.ins c (List.replicate nf .mvd) :: (ds ++ dd))) := rfl
theorem stMb_ok (z : Bool) (rs : List R) (t : Bool) (e : Env) (o : D) (ds : List D) : stMb z rs t e (.ok .non (o :: ds)) = if o.mv then .bad else .ok (.val (if z then o.fz else o)) (gvA rs ds e) (t || anyP rs) := rfl
theorem stMb_exc (z : Bool) (rs : List R) (t : Bool) (e : Env) (x : Nat) (xs : List D) (o : D) (ds : List D) : stMb z rs t e (.exc x xs (o :: ds)) = .exc x xs (gvA rs ds e) := rfl
/-! ### displays -/
def stD (k : List D → D) (o : O (List R)) : O R := o.bind fun rs e1 t1 => if rs.length ≤ 1000 then (match tkA rs e1 with
  | none => .bad
  | some (ds, e2) => .ok (.val (k ds)) e2 (t1 || anyP rs)) else .bad
def stDa (k : List D → D) (rs : List R) (t : Bool) : Option (List D × Env) → O R
  | none => .bad
  | some (ds, e2) => .ok (.val (k ds)) e2 (t || anyP rs)
theorem ev_dsp (k : List D → D) (fs : SA) (env : Env) : fDsp k fs env = stD k (fs env) := rfl
theorem stD_ok (k : List D → D) (rs : List R) (e : Env) (t : Bool) (h : rs.length ≤ 1000) : stD k (.ok rs e t) = stDa k rs t (tkA rs e) := by
  show (if rs.length ≤ 1000 then _ else _) = _
  rw [if_pos h]
  cases tkA rs e <;> rfl
theorem stDa_ok (k : List D → D) (rs : List R) (t : Bool) (ds : List D) (e : Env) : stDa k rs t (some (ds, e)) = .ok (.val (k ds)) e (t || anyP rs) := rfl
def stQ (ks : List Key) (o : O (List R)) : O R := o.bind fun rs e1 t1 => match tkA rs e1 with
  | none => .bad
  | some (ds, e2) => if ks.Nodup ∧ ks.length ≤ 15 then .ok (.val (.dct ks ds)) e2 (t1 || anyP rs) else .bad
def stQa (ks : List Key) (rs : List R) (t : Bool) : Option (List D × Env) → O R
  | none => .bad
  | some (ds, e2) => .ok (.val (.dct ks ds)) e2 (t || anyP rs)
theorem ev_disp (kfs : List (Key × SE)) (env : Env) : fDisp kfs env = stQ (kfs.map (·.1)) (lAll (kfs.map (·.2)) env) := by
  have e : ∀ ks : List Key, ks = kfs.map (·.1) → fDisp kfs env = stQ ks (lAll (kfs.map (·.2)) env) := fun ks e => by
    have l : ks.length = kfs.length := by rw [e, List.length_map]
    unfold fDisp stQ
    rw [← e, l]
    all_goals rfl
  exact e _ rfl
theorem stQ_ok (ks : List Key) (rs : List R) (e : Env) (t : Bool) (h : ks.Nodup ∧ ks.length ≤ 15) : stQ ks (.ok rs e t) = stQa ks rs t (tkA rs e) := by
  show (match tkA rs e with
  | none => O.bad
  | some (ds, e2) => if ks.Nodup ∧ ks.length ≤ 15 then O.ok (R.val (.dct ks ds)) e2 (t || anyP rs) else O.bad) = _
  cases tkA rs e with
  | none => rfl
  | some x => show (if _ then _ else _) = _; rw [if_pos h]; rfl
theorem stQa_ok (ks : List Key) (rs : List R) (t : Bool) (ds : List D) (e : Env) : stQa ks rs t (some (ds, e)) = .ok (.val (.dct ks ds)) e (t || anyP rs) := rfl
theorem ev_lall0 : lAll [] = lNil := rfl
theorem ev_lall (f : SE) (fs : List SE) : lAll (f :: fs) = lCons f (lAll fs) := rfl
/-! ### items, slices -/
def stI (o : O R) (fb : SE) : O R := o.bind fun ra e1 t1 => (fb e1).bind fun rb e2 t2 =>
  if okR ra t2 then match rdR e2 rb with
    | some kd => match ra with
      | .val d => match itD d kd with
        | some (x, _) => if x.mv then .bad else .ok (.val x) e2 (t1 || t2)
        | none => .bad
      | .plc i p => match eget e2 i p with
        | some d => match itD d kd with
          | some (x, q) => if x.mv then .bad else if x.st then .ok (.val x) e2 (t1 || t2) else match q with
            | some q => .ok (.plc i (p ++ [q])) e2 (t1 || t2)
            | none => .bad
          | none => .bad
        | none => .bad
    | none => .bad
  else .bad
def stIa (ra : R) (t1 : Bool) (o : O R) : O R := o.bind fun rb e2 t2 =>
  if okR ra t2 then match rdR e2 rb with
    | some kd => match ra with
      | .val d => match itD d kd with
        | some (x, _) => if x.mv then .bad else .ok (.val x) e2 (t1 || t2)
        | none => .bad
      | .plc i p => match eget e2 i p with
        | some d => match itD d kd with
          | some (x, q) => if x.mv then .bad else if x.st then .ok (.val x) e2 (t1 || t2) else match q with
            | some q => .ok (.plc i (p ++ [q])) e2 (t1 || t2)
            | none => .bad
          | none => .bad
        | none => .bad
    | none => .bad
  else .bad
theorem ev_ix (fa fb : SE) (env : Env) : fIx fa fb env = stI (fa env) fb := rfl
theorem stI_ok (ra : R) (e1 : Env) (t1 : Bool) (fb : SE) : stI (.ok ra e1 t1) fb = stIa ra t1 (fb e1) := rfl
def ixV (e : Env) (t : Bool) : Option (D × Option Pj) → O R
  | some (x, _) => if x.mv then .bad else .ok (.val x) e t
  | none => .bad
def ixP (i : Nat) (p : List Pj) (e : Env) (t : Bool) : Option (D × Option Pj) → O R
  | some (x, q) => if x.mv then .bad else if x.st then .ok (.val x) e t else match q with
    | some q => .ok (.plc i (p ++ [q])) e t
    | none => .bad
  | none => .bad
theorem stIa_val (d : D) (t1 t2 : Bool) (rb : R) (e2 : Env) (kd : D) (h : rdR e2 rb = some kd) : stIa (.val d) t1 (.ok rb e2 t2) = ixV e2 (t1 || t2) (itD d kd) := by
  show (match rdR e2 rb with
    | some kd => (match itD d kd with
        | some (x, _) => if x.mv then O.bad else O.ok (R.val x) e2 (t1 || t2)
        | none => O.bad)
    | none => O.bad) = _
  rw [h]
  show (match itD d kd with
        | some (x, _) => if x.mv then O.bad else O.ok (R.val x) e2 (t1 || t2)
        | none => O.bad) = _
  cases itD d kd <;> rfl
theorem stIa_plc (i : Nat) (p : List Pj) (d : D) (t1 t2 : Bool) (rb : R) (e2 : Env) (kd : D) (ok : okR (.plc i p) t2 = true) (h : rdR e2 rb = some kd) (h2 : eget e2 i p = some d) : stIa (.plc i p) t1 (.ok rb e2 t2) = ixP i p e2 (t1 || t2) (itD d kd) := by
  show (if okR (.plc i p) t2 then (match rdR e2 rb with
    | some kd => (match eget e2 i p with
        | some d => (match itD d kd with
          | some (x, q) => if x.mv then O.bad else if x.st then O.ok (R.val x) e2 (t1 || t2) else match q with
            | some q => O.ok (R.plc i (p ++ [q])) e2 (t1 || t2)
            | none => O.bad
          | none => O.bad)
        | none => O.bad)
    | none => O.bad) else O.bad) = _
  rw [if_pos ok, h, h2]
  show (match itD d kd with
          | some (x, q) => if x.mv then O.bad else if x.st then O.ok (R.val x) e2 (t1 || t2) else match q with
            | some q => O.ok (R.plc i (p ++ [q])) e2 (t1 || t2)
            | none => O.bad
          | none => O.bad) = _
  cases itD d kd <;> rfl
theorem ixV_some (e : Env) (t : Bool) (x : D) (q : Option Pj) : ixV e t (some (x, q)) = if x.mv then .bad else .ok (.val x) e t := rfl
theorem ixP_some (i : Nat) (p : List Pj) (e : Env) (t : Bool) (x : D) (q : Option Pj) : ixP i p e t (some (x, q)) = if x.mv then .bad else if x.st then .ok (.val x) e t else match q with
    | some q => .ok (.plc i (p ++ [q])) e t
    | none => .bad := rfl
theorem it_tup (ds : List D) (n : Nat) (d : D) (h : ds[n]? = some d) : itD (.tup ds) (.int n) = some (d, none) := by
  have hl : n < ds.length := (List.getElem?_eq_some_iff.mp h).1
  show (atI ds n).map (fun d => (d, none)) = _
  unfold atI ixN
  rw [if_pos (by omega), if_pos (by omega)]
  simp [h]
theorem it_fls (ds : List D) (n : Nat) (d : D) (h : ds[n]? = some d) : itD (.fls ds) (.int n) = some (d, none) := by
  have hl : n < ds.length := (List.getElem?_eq_some_iff.mp h).1
  show (atI ds n).map (fun d => (d, none)) = _
  unfold atI ixN
  rw [if_pos (by omega), if_pos (by omega)]
  simp [h]
theorem it_lst (ds : List D) (n : Nat) (d : D) (h : ds[n]? = some d) : itD (.lst ds) (.int n) = some (d, some (.idx n)) := by
  have hl : n < ds.length := (List.getElem?_eq_some_iff.mp h).1
  show ((ixN ds.length n).bind fun j => (ds[j]?).map fun d => (d, some (Pj.idx j))) = _
  unfold ixN
  rw [if_pos (by omega), if_pos (by omega)]
  simp [h]
def stSl (o : O R) (fl fh : SO) : O R := o.bind fun ra e1 t1 => (fl e1).bind fun l e2 t2 => (fh e2).bind fun u e3 t3 =>
  if okR ra (t2 || t3) then match (rdR e3 ra).bind (gSl l u) with
    | some d => .ok (.val d) e3 (t1 || (t2 || t3))
    | none => .bad
  else .bad
def stSla (ra : R) (t1 : Bool) (o : O (Option Int)) (fh : SO) : O R := o.bind fun l e2 t2 => (fh e2).bind fun u e3 t3 =>
  if okR ra (t2 || t3) then match (rdR e3 ra).bind (gSl l u) with
    | some d => .ok (.val d) e3 (t1 || (t2 || t3))
    | none => .bad
  else .bad
def stSlb (ra : R) (t1 : Bool) (l : Option Int) (t2 : Bool) (o : O (Option Int)) : O R := o.bind fun u e3 t3 =>
  if okR ra (t2 || t3) then fin ((rdR e3 ra).bind (gSl l u)) e3 (t1 || (t2 || t3)) else .bad
theorem ev_sl (fa : SE) (fl fh : SO) (env : Env) : fSl fa fl fh env = stSl (fa env) fl fh := rfl
theorem stSl_ok (ra : R) (e1 : Env) (t1 : Bool) (fl fh : SO) : stSl (.ok ra e1 t1) fl fh = stSla ra t1 (fl e1) fh := rfl
theorem stSla_ok (ra : R) (t1 t2 : Bool) (l : Option Int) (e : Env) (fh : SO) : stSla ra t1 (.ok l e t2) fh = stSlb ra t1 l t2 (fh e) := by
  show ((fh e).bind fun u e3 t3 =>
  if okR ra (t2 || t3) then match (rdR e3 ra).bind (gSl l u) with
    | some d => O.ok (R.val d) e3 (t1 || (t2 || t3))
    | none => O.bad
  else O.bad) = _
  unfold stSlb
  cases fh e with
  | ok u e3 t3 =>
    show (if okR ra (t2 || t3) then match (rdR e3 ra).bind (gSl l u) with
    | some d => O.ok (R.val d) e3 (t1 || (t2 || t3))
    | none => O.bad
  else O.bad) = (if okR ra (t2 || t3) then fin ((rdR e3 ra).bind (gSl l u)) e3 (t1 || (t2 || t3)) else O.bad)
    cases (rdR e3 ra).bind (gSl l u) <;> rfl
  | exc => rfl
  | bad => rfl
theorem stSlb_ok (ra : R) (t1 t2 t3 : Bool) (l u : Option Int) (e : Env) (h : okR ra (t2 || t3) = true) : stSlb ra t1 l t2 (.ok u e t3) = fin ((rdR e ra).bind (gSl l u)) e (t1 || (t2 || t3)) := by
  show (if okR ra (t2 || t3) then _ else _) = _
  rw [if_pos h]
theorem ev_pno (env : Env) : pNo env = .ok none env false := rfl
def stO (o : O R) : O (Option Int) := o.bind fun r e t => match rdR e r with
  | some (.int i) => .ok (some i) e t
  | _ => .bad
theorem ev_pof (f : SE) (env : Env) : pOf f env = stO (f env) := rfl
theorem stO_ok (r : R) (e : Env) (t : Bool) (i : Int) (h : rdR e r = some (.int i)) : stO (.ok r e t) = .ok (some i) e t := by
  show (match rdR e r with
  | some (.int i) => O.ok (some i) e t
  | _ => O.bad) = _
  rw [h]
end OL

/-! The plain layer, 3: changes in place, loops, matches. -/
namespace OL
open PySem PySem.Spec PyProof.Rows L2
/-! ### changes in place -/
def stU (ty : D → Bool) (k : D → List D → Option (D × D)) (fs : SA) (o : O R) : O R := o.bind fun ro e1 t1 => match ro with
  | .val _ => .bad
  | .plc i p => match eget e1 i p with
    | none => .bad
    | some d0 => if ty d0 && !d0.mv then (fs e1).bind fun rs e2 t2 => if okR (.plc i p) (t2 || anyP rs) then (match tkA rs e2 with
      | none => .bad
      | some (ds, e3) => match eget e3 i p with
        | none => .bad
        | some d => if d.mv then .bad else match k d ds with
          | some (res, d') => .ok (.val res) (eput e3 i p d') true
          | none => .bad) else .bad else .bad
def stUa (i : Nat) (p : List Pj) (k : D → List D → Option (D × D)) (o : O (List R)) : O R := o.bind fun rs e2 t2 => if okR (.plc i p) (t2 || anyP rs) then (match tkA rs e2 with
      | none => .bad
      | some (ds, e3) => match eget e3 i p with
        | none => .bad
        | some d => if d.mv then .bad else match k d ds with
          | some (res, d') => .ok (.val res) (eput e3 i p d') true
          | none => .bad) else .bad
def stUb (i : Nat) (p : List Pj) (k : D → List D → Option (D × D)) (ds : List D) (e3 : Env) : Option D → O R
  | none => .bad
  | some d => if d.mv then .bad else match k d ds with
    | some (res, d') => .ok (.val res) (eput e3 i p d') true
    | none => .bad
def stUc (i : Nat) (p : List Pj) (e3 : Env) : Option (D × D) → O R
  | some (res, d') => .ok (.val res) (eput e3 i p d') true
  | none => .bad
theorem ev_mut (ty : D → Bool) (k : D → List D → Option (D × D)) (fo : SE) (fs : SA) (env : Env) : fMut ty k fo fs env = stU ty k fs (fo env) := rfl
theorem stU_ok (ty : D → Bool) (k : D → List D → Option (D × D)) (fs : SA) (i : Nat) (p : List Pj) (e1 : Env) (t : Bool) (d0 : D) (h : eget e1 i p = some d0) (h2 : (ty d0 && !d0.mv) = true) : stU ty k fs (.ok (.plc i p) e1 t) = stUa i p k (fs e1) := by
  show (match eget e1 i p with
    | none => O.bad
    | some d0 => if ty d0 && !d0.mv then stUa i p k (fs e1) else O.bad) = _
  rw [h]
  show (if ty d0 && !d0.mv then stUa i p k (fs e1) else O.bad) = _
  rw [if_pos h2]
theorem stUa_ok (i : Nat) (p : List Pj) (k : D → List D → Option (D × D)) (rs : List R) (e2 e3 : Env) (t2 : Bool) (ds : List D) (h : okR (.plc i p) (t2 || anyP rs) = true) (h2 : tkA rs e2 = some (ds, e3)) : stUa i p k (.ok rs e2 t2) = stUb i p k ds e3 (eget e3 i p) := by
  show (if okR (.plc i p) (t2 || anyP rs) then (match tkA rs e2 with
      | none => O.bad
      | some (ds, e3) => match eget e3 i p with
        | none => O.bad
        | some d => if d.mv then O.bad else match k d ds with
          | some (res, d') => O.ok (R.val res) (eput e3 i p d') true
          | none => O.bad) else O.bad) = _
  rw [if_pos h, h2]
  show (match eget e3 i p with
        | none => O.bad
        | some d => if d.mv then O.bad else match k d ds with
          | some (res, d') => O.ok (R.val res) (eput e3 i p d') true
          | none => O.bad) = _
  cases eget e3 i p <;> rfl
theorem stUb_ok (i : Nat) (p : List Pj) (k : D → List D → Option (D × D)) (ds : List D) (e3 : Env) (d : D) (h : d.mv = false) : stUb i p k ds e3 (some d) = stUc i p e3 (k d ds) := by
  show (if d.mv then O.bad else match k d ds with
    | some (res, d') => O.ok (R.val res) (eput e3 i p d') true
    | none => O.bad) = _
  rw [h]
  show (match k d ds with
    | some (res, d') => O.ok (R.val res) (eput e3 i p d') true
    | none => O.bad) = _
  cases k d ds <;> rfl
theorem stUc_ok (i : Nat) (p : List Pj) (e3 : Env) (res d' : D) : stUc i p e3 (some (res, d')) = .ok (.val res) (eput e3 i p d') true := rfl
/-- self.f = e -/
def stZ (c j i : Nat) (z : Bool) (o : O R) : O Fl := o.bind fun rv e1 t1 => match tkR e1 rv with
  | none => .bad
  | some (d, e2) => match e2[i]? with
    | some (.ins c' ds) => if c' = c ∧ j < ds.length then .ok .nx (e2.set i (.ins c (ds.set j (if z then d.fz else d)))) true else .bad
    | _ => .bad
def stZa (c j i : Nat) (z : Bool) : Option (D × Env) → O Fl
  | none => .bad
  | some (d, e2) => match e2[i]? with
    | some (.ins c' ds) => if c' = c ∧ j < ds.length then .ok .nx (e2.set i (.ins c (ds.set j (if z then d.fz else d)))) true else .bad
    | _ => .bad
theorem ev_setf (c j i : Nat) (z : Bool) (fv : SE) (env : Env) : sSetF c j i z fv env = stZ c j i z (fv env) := rfl
theorem stZ_ok (c j i : Nat) (z : Bool) (r : R) (e : Env) (t : Bool) : stZ c j i z (.ok r e t) = stZa c j i z (tkR e r) := by
  show (match tkR e r with
  | none => O.bad
  | some (d, e2) => match e2[i]? with
    | some (.ins c' ds) => if c' = c ∧ j < ds.length then O.ok Fl.nx (e2.set i (.ins c (ds.set j (if z then d.fz else d)))) true else O.bad
    | _ => O.bad) = _
  cases tkR e r <;> rfl
theorem stZ_exc (c j i : Nat) (z : Bool) (x : Nat) (ds : List D) (e : Env) : stZ c j i z (.exc x ds e) = .exc x ds e := rfl
theorem stZa_ok (c j i : Nat) (z : Bool) (d : D) (e : Env) (ds : List D) (h : e[i]? = some (.ins c ds)) (h2 : j < ds.length) : stZa c j i z (some (d, e)) = .ok .nx (e.set i (.ins c (ds.set j (if z then d.fz else d)))) true := by
  show (match e[i]? with
    | some (.ins c' ds) => if c' = c ∧ j < ds.length then O.ok Fl.nx (e.set i (.ins c (ds.set j (if z then d.fz else d)))) true else O.bad
    | _ => O.bad) = _
  rw [h]
  show (if c = c ∧ j < ds.length then _ else _) = _
  rw [if_pos ⟨rfl, h2⟩]
/-- o[i] = e -/
def stY (fo fi : SE) (o : O R) : O Fl := o.bind fun r e t1 => match tkR e r with
  | none => .bad
  | some (d, e1) => (fo e1).bind fun ro e2 t2 => (fi e2).bind fun rk e3 t3 => if t2 || t3 then .bad else match ro with
    | .val _ => .bad
    | .plc i p => match eget e1 i p with
      | none => .bad
      | some c => match (rdR e1 rk).bind fun k => setD c k d with
        | some c' => .ok .nx (eput e1 i p c') true
        | none => .bad
def stYa (d : D) (e1 : Env) (o : O R) (fi : SE) : O Fl := o.bind fun ro e2 t2 => (fi e2).bind fun rk e3 t3 => if t2 || t3 then .bad else match ro with
    | .val _ => .bad
    | .plc i p => match eget e1 i p with
      | none => .bad
      | some c => match (rdR e1 rk).bind fun k => setD c k d with
        | some c' => .ok .nx (eput e1 i p c') true
        | none => .bad
def stYb (d : D) (e1 : Env) (i : Nat) (p : List Pj) (o : O R) : O Fl := o.bind fun rk e3 t3 => if t3 then .bad else match eget e1 i p with
      | none => .bad
      | some c => match (rdR e1 rk).bind fun k => setD c k d with
        | some c' => .ok .nx (eput e1 i p c') true
        | none => .bad
def stYc (e1 : Env) (i : Nat) (p : List Pj) : Option D → O Fl
  | some c' => .ok .nx (eput e1 i p c') true
  | none => .bad
theorem ev_seti (fv fo fi : SE) (env : Env) : sSetIx fv fo fi env = stY fo fi (fv env) := rfl
theorem stY_ok (fo fi : SE) (r : R) (e : Env) (t : Bool) (d : D) (e1 : Env) (h : tkR e r = some (d, e1)) : stY fo fi (.ok r e t) = stYa d e1 (fo e1) fi := by
  show (match tkR e r with
  | none => O.bad
  | some (d, e1) => stYa d e1 (fo e1) fi) = _
  rw [h]
theorem stYa_ok (d : D) (e1 e2 : Env) (i : Nat) (p : List Pj) (fi : SE) : stYa d e1 (.ok (.plc i p) e2 false) fi = stYb d e1 i p (fi e2) := rfl
theorem stYb_ok (d : D) (e1 e3 : Env) (i : Nat) (p : List Pj) (rk : R) (c k : D) (h : eget e1 i p = some c) (h2 : rdR e1 rk = some k) : stYb d e1 i p (.ok rk e3 false) = stYc e1 i p (setD c k d) := by
  show (match eget e1 i p with
      | none => O.bad
      | some c => match (rdR e1 rk).bind fun k => setD c k d with
        | some c' => O.ok Fl.nx (eput e1 i p c') true
        | none => O.bad) = _
  rw [h, h2]
  show (match setD c k d with
        | some c' => O.ok Fl.nx (eput e1 i p c') true
        | none => O.bad) = _
  cases setD c k d <;> rfl
theorem stYc_ok (e1 : Env) (i : Nat) (p : List Pj) (c : D) : stYc e1 i p (some c) = .ok .nx (eput e1 i p c) true := rfl
/-- self.f += e -/
def stG (c j i : Nat) (op : Int → Int → Int) (ds : List D) (a : Int) (o : O R) : O Fl := o.bind fun r e1 t1 => if t1 then .bad else match rdR e1 r with
      | some (.int b) => .ok .nx (e1.set i (.ins c (ds.set j (.int (op a b))))) true
      | _ => .bad
theorem ev_augf (c j i : Nat) (op : Int → Int → Int) (fv : SE) (env : Env) (ds : List D) (a : Int) (h : env[i]? = some (.ins c ds)) (h2 : ds[j]? = some (.int a)) : sAugF c j i op fv env = stG c j i op ds a (fv env) := by
  unfold sAugF
  rw [h]
  show (if c = c then (match ds[j]? with
    | some (.int a) => (fv env).bind fun r e1 t1 => if t1 then O.bad else match rdR e1 r with
      | some (.int b) => O.ok Fl.nx (e1.set i (.ins c (ds.set j (.int (op a b))))) true
      | _ => O.bad
    | _ => O.bad) else O.bad) = _
  rw [if_pos rfl, h2]
  rfl
theorem stG_ok (c j i : Nat) (op : Int → Int → Int) (ds : List D) (a b : Int) (r : R) (e : Env) (h : rdR e r = some (.int b)) : stG c j i op ds a (.ok r e false) = .ok .nx (e.set i (.ins c (ds.set j (.int (op a b))))) true := by
  show (match rdR e r with
      | some (.int b) => O.ok Fl.nx (e.set i (.ins c (ds.set j (.int (op a b))))) true
      | _ => O.bad) = _
  rw [h]
/-- a, b = x, y -/
def stW (i j : Nat) (o : O (List R)) : O Fl := o.bind fun rs e1 t1 => match tkA rs e1 with
  | some ([d1, d2], e2) => if i < e2.length ∧ j < e2.length then .ok .nx ((e2.set i d1).set j d2) true else .bad
  | _ => .bad
theorem ev_par (i j : Nat) (fs : SA) (env : Env) : sPar i j fs env = stW i j (fs env) := rfl
theorem stW_ok (i j : Nat) (rs : List R) (e e2 : Env) (t : Bool) (d1 d2 : D) (h : tkA rs e = some ([d1, d2], e2)) (h2 : i < e2.length ∧ j < e2.length) : stW i j (.ok rs e t) = .ok .nx ((e2.set i d1).set j d2) true := by
  show (match tkA rs e with
  | some ([d1, d2], e2) => if i < e2.length ∧ j < e2.length then O.ok Fl.nx ((e2.set i d1).set j d2) true else O.bad
  | _ => O.bad) = _
  rw [h]
  show (if _ then _ else _) = _
  rw [if_pos h2]
/-- match e -/
def stT (f : Str → SS) (o : O R) : O Fl := o.bind fun r e1 _ => match rdR e1 r with
  | some (.str z) => f z e1
  | _ => .bad
theorem ev_match (fa : SE) (f : Str → SS) (env : Env) : sMatch fa f env = stT f (fa env) := rfl
theorem stT_ok (f : Str → SS) (r : R) (e : Env) (t : Bool) (z : Str) (h : rdR e r = some (.str z)) : stT f (.ok r e t) = f z e := by
  show (match rdR e r with
  | some (.str z) => f z e
  | _ => O.bad) = _
  rw [h]
/-- o.m(..) that reads -/
def stV (ty : D → Bool) (k : D → List D → Option D) (fs : SA) (o : O R) : O R := o.bind fun ro e1 t1 => match rdR e1 ro with
  | none => .bad
  | some d0 => if ty d0 then (fs e1).bind fun rs e2 t2 => if okR ro t2 then fin ((rdR e2 ro).bind fun da => (rdRs e2 rs).bind fun ds => k da ds) e2 (t1 || t2) else .bad else .bad
def stVa (k : D → List D → Option D) (ro : R) (t1 : Bool) (o : O (List R)) : O R := o.bind fun rs e2 t2 => if okR ro t2 then fin ((rdR e2 ro).bind fun da => (rdRs e2 rs).bind fun ds => k da ds) e2 (t1 || t2) else .bad
theorem ev_m (ty : D → Bool) (k : D → List D → Option D) (fo : SE) (fs : SA) (env : Env) : fM ty k fo fs env = stV ty k fs (fo env) := by
  unfold fM stV
  cases fo env with
  | exc => rfl
  | bad => rfl
  | ok ro e1 t1 =>
    show (match rdR e1 ro with
  | none => O.bad
  | some d0 => if ty d0 then (fs e1).bind fun rs e2 t2 => if okR ro t2 then match (rdR e2 ro).bind fun da => (rdRs e2 rs).bind fun ds => k da ds with
    | some d => O.ok (R.val d) e2 (t1 || t2)
    | none => O.bad
    else O.bad else O.bad) = (match rdR e1 ro with
  | none => O.bad
  | some d0 => if ty d0 then (fs e1).bind fun rs e2 t2 => if okR ro t2 then fin ((rdR e2 ro).bind fun da => (rdRs e2 rs).bind fun ds => k da ds) e2 (t1 || t2) else O.bad else O.bad)
    cases rdR e1 ro with
    | none => rfl
    | some d0 =>
      show (if ty d0 then _ else _) = (if ty d0 then _ else _)
      cases ty d0 with
      | false => rfl
      | true =>
        show O.bind _ _ = O.bind _ _
        cases fs e1 with
        | exc => rfl
        | bad => rfl
        | ok rs e2 t2 =>
          show (if okR ro t2 then match (rdR e2 ro).bind fun da => (rdRs e2 rs).bind fun ds => k da ds with
    | some d => O.ok (R.val d) e2 (t1 || t2)
    | none => O.bad
    else O.bad) = (if okR ro t2 then fin ((rdR e2 ro).bind fun da => (rdRs e2 rs).bind fun ds => k da ds) e2 (t1 || t2) else O.bad)
          cases (rdR e2 ro).bind fun da => (rdRs e2 rs).bind fun ds => k da ds <;> rfl
theorem stV_ok (ty : D → Bool) (k : D → List D → Option D) (fs : SA) (ro : R) (e1 : Env) (t1 : Bool) (d0 : D) (h : rdR e1 ro = some d0) (h2 : ty d0 = true) : stV ty k fs (.ok ro e1 t1) = stVa k ro t1 (fs e1) := by
  show (match rdR e1 ro with
  | none => O.bad
  | some d0 => if ty d0 then stVa k ro t1 (fs e1) else O.bad) = _
  rw [h]
  show (if ty d0 then _ else _) = _
  rw [if_pos h2]
theorem stVa_ok (k : D → List D → Option D) (ro : R) (t1 t2 : Bool) (rs : List R) (e2 : Env) (h : okR ro t2 = true) : stVa k ro t1 (.ok rs e2 t2) = fin ((rdR e2 ro).bind fun da => (rdRs e2 rs).bind fun ds => k da ds) e2 (t1 || t2) := by
  show (if okR ro t2 then _ else _) = _
  rw [if_pos h]
/-- d.get(k, z) -/
def stH (fk fz : SE) (o : O R) : O R := o.bind fun ro e1 t1 => match rdR e1 ro with
  | none => .bad
  | some d0 => if isDct d0 then (fk e1).bind fun rk e2 t2 => (fz e2).bind fun rz e3 t3 => if t2 || t3 then .bad else match (rdR e3 ro).bind fun c => (rdR e3 rk).bind fun k => (rdR e3 rz).bind fun z => getD2 c k z with
    | some d => .ok (.val d) e3 t1
    | none => .bad
    else .bad
theorem ev_get2 (fo fk fz : SE) (env : Env) : fGet2 fo fk fz env = stH fk fz (fo env) := rfl
theorem stH_ok (fk fz : SE) (ro rk rz : R) (e1 e2 e3 : Env) (t1 : Bool) (c k z : D) (h : rdR e1 ro = some c) (h2 : isDct c = true) (hk : fk e1 = .ok rk e2 false) (hz : fz e2 = .ok rz e3 false) (h3 : rdR e3 ro = some c) (h4 : rdR e3 rk = some k) (h5 : rdR e3 rz = some z) :
    stH fk fz (.ok ro e1 t1) = fin (getD2 c k z) e3 t1 := by
  show (match rdR e1 ro with
  | none => O.bad
  | some d0 => if isDct d0 then (fk e1).bind fun rk e2 t2 => (fz e2).bind fun rz e3 t3 => if t2 || t3 then O.bad else match (rdR e3 ro).bind fun c => (rdR e3 rk).bind fun k => (rdR e3 rz).bind fun z => getD2 c k z with
    | some d => O.ok (R.val d) e3 t1
    | none => O.bad
    else O.bad) = _
  rw [h]
  show (if isDct c then _ else _) = _
  rw [if_pos h2, hk]
  show ((fz e2).bind fun rz e3 t3 => if false || t3 then O.bad else match (rdR e3 ro).bind fun c => (rdR e3 rk).bind fun k => (rdR e3 rz).bind fun z => getD2 c k z with
    | some d => O.ok (R.val d) e3 t1
    | none => O.bad) = _
  rw [hz]
  show (match (rdR e3 ro).bind fun c => (rdR e3 rk).bind fun k => (rdR e3 rz).bind fun z => getD2 c k z with
    | some d => O.ok (R.val d) e3 t1
    | none => O.bad) = _
  rw [h3, h4, h5]
  show (match getD2 c k z with
    | some d => O.ok (R.val d) e3 t1
    | none => O.bad) = _
  cases getD2 c k z <;> rfl
/-- a < b < c on ints -/
theorem ev_chain (g g' : D → D → Option D) (fa fb fc : SE) (env : Env) (ra rb rc : R) (da db dc : D) (x y : Bool) (ha : fa env = .ok ra env false) (hb : fb env = .ok rb env false) (h1 : rdR env ra = some da) (h2 : rdR env rb = some db) (hs : db.st = true) (hg : g da db = some (.bl x)) (hc : fc env = .ok rc env false) (h3 : rdR env rc = some dc) (hg' : g' db dc = some (.bl y)) :
    fChain g g' fa fb fc env = .ok (.val (.bl (x && y))) env false := by
  unfold fChain
  cases x <;> simp [ha, hb, O.bind, h1, h2, hs, hg, hc, h3, hg']
/-! ### loops -/
def stLp (fx' : Nat → Bool) (g : GT) (b : SS) (o : O (List D × Option (Nat × D))) : O Fl := o.bind fun its e _ => if lkOk fx' its.2 then (loopF g b its.1 e).bk its.2 else .bad
theorem ev_for (fx' : Nat → Bool) (si : SI) (g : GT) (b : SS) (env : Env) : sFor fx' si g b env = stLp fx' g b (si env) := rfl
theorem stLp_none (fx' : Nat → Bool) (g : GT) (b : SS) (its : List D) (e : Env) (t : Bool) : stLp fx' g b (.ok (its, none) e t) = loopF g b its e := by
  show (loopF g b its e).bk none = _
  cases loopF g b its e <;> rfl
theorem stLp_lock (fx' : Nat → Bool) (g : GT) (b : SS) (its : List D) (i : Nat) (d : D) (e : Env) (t : Bool) (h : fx' i = true) : stLp fx' g b (.ok (its, some (i, d)) e t) = (loopF g b its e).bk (some (i, d)) := by
  show (if fx' i then _ else _) = _
  rw [if_pos h]
theorem loopF_nil (g : GT) (b : SS) (e : Env) : loopF g b [] e = .ok .nx e true := rfl
def lpA (g : GT) (b : SS) (r : List D) : Option Env → O Fl
  | none => .bad
  | some e1 => match b e1 with
    | .ok .nx e2 _ => loopF g b r e2
    | .ok .ct e2 _ => loopF g b r e2
    | .ok .bk e2 _ => .ok .nx e2 true
    | .ok (.rt d) e2 _ => .ok (.rt d) e2 true
    | .exc x ds e2 => .exc x ds e2
    | .bad => .bad
def lpB (g : GT) (b : SS) (r : List D) : O Fl → O Fl
  | .ok .nx e2 _ => loopF g b r e2
  | .ok .ct e2 _ => loopF g b r e2
  | .ok .bk e2 _ => .ok .nx e2 true
  | .ok (.rt d) e2 _ => .ok (.rt d) e2 true
  | .exc x ds e2 => .exc x ds e2
  | .bad => .bad
theorem loopF_cons (g : GT) (b : SS) (d : D) (r : List D) (e : Env) : loopF g b (d :: r) e = lpA g b r (g d e) := by
  show (match g d e with
    | none => .bad
    | some e1 => match b e1 with
      | .ok .nx e2 _ => loopF g b r e2
      | .ok .ct e2 _ => loopF g b r e2
      | .ok .bk e2 _ => .ok .nx e2 true
      | .ok (.rt d) e2 _ => .ok (.rt d) e2 true
      | .exc x ds e2 => .exc x ds e2
      | .bad => .bad : O Fl) = _
  cases g d e <;> rfl
theorem lpA_some (g : GT) (b : SS) (r : List D) (e1 : Env) : lpA g b r (some e1) = lpB g b r (b e1) := by
  show (match b e1 with
    | .ok .nx e2 _ => loopF g b r e2
    | .ok .ct e2 _ => loopF g b r e2
    | .ok .bk e2 _ => .ok .nx e2 true
    | .ok (.rt d) e2 _ => .ok (.rt d) e2 true
    | .exc x ds e2 => .exc x ds e2
    | .bad => .bad : O Fl) = _
  cases b e1 with
  | ok f e t => cases f <;> rfl
  | exc => rfl
  | bad => rfl
theorem lpB_nx (g : GT) (b : SS) (r : List D) (e : Env) (t : Bool) : lpB g b r (.ok .nx e t) = loopF g b r e := rfl
theorem lpB_ct (g : GT) (b : SS) (r : List D) (e : Env) (t : Bool) : lpB g b r (.ok .ct e t) = loopF g b r e := rfl
theorem lpB_bk (g : GT) (b : SS) (r : List D) (e : Env) (t : Bool) : lpB g b r (.ok .bk e t) = .ok .nx e true := rfl
theorem lpB_rt (g : GT) (b : SS) (r : List D) (d : D) (e : Env) (t : Bool) : lpB g b r (.ok (.rt d) e t) = .ok (.rt d) e true := rfl
theorem lpB_exc (g : GT) (b : SS) (r : List D) (x : Nat) (ds : List D) (e : Env) : lpB g b r (.exc x ds e) = .exc x ds e := rfl
theorem bk_none (o : O Fl) : o.bk none = o := by cases o <;> rfl
theorem bk_ok (i : Nat) (d : D) (f : Fl) (e : Env) (t : Bool) : (O.ok f e t).bk (some (i, d)) = .ok f (e.set i d) t := rfl
theorem bk_exc (i : Nat) (d : D) (x : Nat) (ds : List D) (e : Env) : (O.exc x ds e).bk (some (i, d)) = .exc x ds (e.set i d) := rfl
/-- a loop by its invariant -/
theorem loop_wp {g : GT} {b : SS} (I : List D → Env → Prop) (Post : O Fl → Prop)
    (step : ∀ d r e, I (d :: r) e → ∃ e1, g d e = some e1 ∧ match b e1 with
      | .ok .nx e2 _ => I r e2
      | .ok .ct e2 _ => I r e2
      | .ok .bk e2 _ => Post (.ok .nx e2 true)
      | .ok (.rt d) e2 _ => Post (.ok (.rt d) e2 true)
      | .exc x ds e2 => Post (.exc x ds e2)
      | .bad => False)
    (done : ∀ e, I [] e → Post (.ok .nx e true)) : ∀ {l : List D} {e : Env}, I l e → Post (loopF g b l e)
  | [], e, h => done e h
  | d :: r, e, h => by
    obtain ⟨e1, h1, h2⟩ := step d r e h
    rw [loopF_cons, h1, lpA_some]
    cases eb : b e1 with
    | bad => rw [eb] at h2; exact h2.elim
    | exc x ds e2 => rw [eb] at h2; exact h2
    | ok f e2 t =>
      rw [eb] at h2
      cases f with
      | nx => exact loop_wp I Post step done h2
      | ct => exact loop_wp I Post step done h2
      | bk => exact h2
      | rt d => exact h2
/-! ### what is walked -/
def siA (o : O R) : O (List D × Option (Nat × D)) := o.bind fun r e t => match r with
  | .val (.lst ds) => .ok (ds, none) e t
  | .val (.fls ds) => .ok (ds, none) e t
  | .plc i [] => match e[i]? with
    | some (.lst ds) => if stL ds then .ok (ds, some (i, .lst ds)) (e.set i .mvd) true else .bad
    | _ => .bad
  | _ => .bad
theorem ev_silist (fo : SE) (env : Env) : siList fo env = siA (fo env) := rfl
theorem siA_lst (ds : List D) (e : Env) (t : Bool) : siA (.ok (.val (.lst ds)) e t) = .ok (ds, none) e t := rfl
theorem siA_fls (ds : List D) (e : Env) (t : Bool) : siA (.ok (.val (.fls ds)) e t) = .ok (ds, none) e t := rfl
theorem siA_plc (i : Nat) (e : Env) (t : Bool) (ds : List D) (h : e[i]? = some (.lst ds)) (h2 : OL.stL ds = true) : siA (.ok (.plc i []) e t) = .ok (ds, some (i, .lst ds)) (e.set i .mvd) true := by
  show (match e[i]? with
    | some (.lst ds) => if OL.stL ds then O.ok (ds, some (i, D.lst ds)) (e.set i .mvd) true else O.bad
    | _ => O.bad) = _
  rw [h]
  show (if OL.stL ds then _ else _) = _
  rw [if_pos h2]
end OL

/-! The plain layer, 4: steps without side conditions, for rewriting. -/
namespace OL
open PySem PySem.Spec PyProof.Rows L2
theorem bind_ext {α β : Type} {o : O α} {f g : α → Env → Bool → O β} (h : ∀ a e t, f a e t = g a e t) : o.bind f = o.bind g := by
  rw [show f = g from funext fun a => funext fun e => funext fun t => h a e t]
/-- what a place must hold: an instance of the class c -/
def asIns (c : Nat) {α : Type} (bad : α) (k : List D → α) : Option D → α
  | some (.ins c' ds) => if c' = c then k ds else bad
  | _ => bad
theorem asIns_ok (c : Nat) {α : Type} (bad : α) (k : List D → α) (ds : List D) : asIns c bad k (some (.ins c ds)) = k ds := if_pos rfl
def asSome {α β : Type} (bad : β) (k : α → β) : Option α → β
  | some a => k a
  | none => bad
theorem asSome_ok {α β : Type} (bad : β) (k : α → β) (a : α) : asSome bad k (some a) = k a := rfl
def ifT {α : Type} (bad : α) (b : Bool) (a : α) : α := if b then a else bad
theorem ifT_t {α : Type} (bad a : α) : ifT bad true a = a := rfl
theorem q_flp (c j i : Nat) (p : List Pj) (e : Env) (t : Bool) : stFl c j (.ok (.plc i p) e t) = asIns c .bad (fun ds => fvP c j i p e t ds[j]?) (eget e i p) := by
  cases h : eget e i p with
  | none => show (match eget e i p with
    | some (.ins c' ds) => _
    | _ => O.bad) = _; rw [h]; rfl
  | some d =>
    cases d with
    | ins c' ds =>
      by_cases hc : c' = c
      · subst hc; rw [stFl_plc c' j i p ds e t h]; exact (if_pos rfl).symm
      · show (match eget e i p with
        | some (.ins c' ds) => if c' = c then _ else _
        | _ => O.bad) = (if c' = c then _ else O.bad)
        rw [h, if_neg hc]
        show (if c' = c then _ else _) = _
        rw [if_neg hc]
    | _ => show (match eget e i p with
        | some (.ins c' ds) => _
        | _ => O.bad) = _; rw [h]; rfl
theorem q_ixv (d : D) (t1 t2 : Bool) (rb : R) (e2 : Env) : stIa (.val d) t1 (.ok rb e2 t2) = asSome .bad (fun kd => ixV e2 (t1 || t2) (itD d kd)) (rdR e2 rb) := by
  cases h : rdR e2 rb with
  | some kd => exact stIa_val d t1 t2 rb e2 kd h
  | none => show (match rdR e2 rb with
    | some kd => _
    | none => O.bad) = _; rw [h]; rfl
theorem q_ixp (i : Nat) (p : List Pj) (t1 t2 : Bool) (rb : R) (e2 : Env) : stIa (.plc i p) t1 (.ok rb e2 t2) = ifT .bad (okR (.plc i p) t2) (asSome .bad (fun kd => asSome .bad (fun d => ixP i p e2 (t1 || t2) (itD d kd)) (eget e2 i p)) (rdR e2 rb)) := by
  cases ok : okR (.plc i p) t2 with
  | false => show (if okR (.plc i p) t2 then _ else O.bad) = _; rw [ok]; rfl
  | true =>
    cases h : rdR e2 rb with
    | none => show (if okR (.plc i p) t2 then (match rdR e2 rb with
      | some kd => _
      | none => O.bad) else O.bad) = _; rw [ok, h]; rfl
    | some kd =>
      cases h2 : eget e2 i p with
      | some d => exact stIa_plc i p d t1 t2 rb e2 kd ok h h2
      | none => show (if okR (.plc i p) t2 then (match rdR e2 rb with
        | some kd => (match eget e2 i p with
          | some d => _
          | none => O.bad)
        | none => O.bad) else O.bad) = _; rw [ok, h, h2]; rfl
def asInt {α : Type} (bad : α) (k : Int → α) : Option D → α
  | some (.int i) => k i
  | _ => bad
theorem asInt_ok {α : Type} (bad : α) (k : Int → α) (i : Int) : asInt bad k (some (.int i)) = k i := rfl
theorem q_o (r : R) (e : Env) (t : Bool) : stO (.ok r e t) = asInt .bad (fun i => .ok (some i) e t) (rdR e r) := by
  show (match rdR e r with
  | some (.int i) => O.ok (some i) e t
  | _ => O.bad) = _
  cases rdR e r with
  | none => rfl
  | some d => cases d <;> rfl
theorem q_u (ty : D → Bool) (k : D → List D → Option (D × D)) (fs : SA) (i : Nat) (p : List Pj) (e1 : Env) (t : Bool) : stU ty k fs (.ok (.plc i p) e1 t) = asSome .bad (fun d0 => ifT .bad (ty d0 && !d0.mv) (stUa i p k (fs e1))) (eget e1 i p) := by
  show (match eget e1 i p with
    | none => O.bad
    | some d0 => if ty d0 && !d0.mv then stUa i p k (fs e1) else O.bad) = _
  cases eget e1 i p <;> rfl
theorem q_ua (i : Nat) (p : List Pj) (k : D → List D → Option (D × D)) (rs : List R) (e2 : Env) (t2 : Bool) : stUa i p k (.ok rs e2 t2) = ifT .bad (okR (.plc i p) (t2 || anyP rs)) (asSome .bad (fun x => stUb i p k x.1 x.2 (eget x.2 i p)) (tkA rs e2)) := by
  cases ok : okR (.plc i p) (t2 || anyP rs) with
  | false => show (if okR (.plc i p) (t2 || anyP rs) then _ else O.bad) = _; rw [ok]; rfl
  | true =>
    cases h : tkA rs e2 with
    | some x => exact stUa_ok i p k rs e2 x.2 t2 x.1 ok h
    | none => show (if okR (.plc i p) (t2 || anyP rs) then (match tkA rs e2 with
      | none => O.bad
      | some (ds, e3) => _) else O.bad) = _; rw [ok, h]; rfl
theorem q_ub (i : Nat) (p : List Pj) (k : D → List D → Option (D × D)) (ds : List D) (e3 : Env) (d : D) : stUb i p k ds e3 (some d) = ifT .bad (!d.mv) (stUc i p e3 (k d ds)) := by
  cases h : d.mv with
  | false => exact stUb_ok i p k ds e3 d h
  | true => show (if d.mv then O.bad else _) = _; rw [h]; rfl
theorem q_za (c j i : Nat) (z : Bool) (d : D) (e : Env) : stZa c j i z (some (d, e)) = asIns c .bad (fun ds => ifT .bad (decide (j < ds.length)) (.ok .nx (e.set i (.ins c (ds.set j (if z then d.fz else d)))) true)) e[i]? := by
  show (match e[i]? with
    | some (.ins c' ds) => if c' = c ∧ j < ds.length then O.ok Fl.nx (e.set i (.ins c (ds.set j (if z then d.fz else d)))) true else O.bad
    | _ => O.bad) = _
  cases e[i]? with
  | none => rfl
  | some d2 =>
    cases d2 with
    | ins c' ds =>
      show (if c' = c ∧ j < ds.length then _ else _) = (if c' = c then (if decide (j < ds.length) then _ else _) else _)
      by_cases hc : c' = c
      · by_cases hj : j < ds.length
        · rw [if_pos ⟨hc, hj⟩, if_pos hc, if_pos (decide_eq_true hj)]
        · rw [if_neg (fun z => hj z.2), if_pos hc, if_neg (by simp [hj])]
      · rw [if_neg (fun z => hc z.1), if_neg hc]
    | _ => rfl
theorem q_y (fo fi : SE) (r : R) (e : Env) (t : Bool) : stY fo fi (.ok r e t) = asSome .bad (fun x => stYa x.1 x.2 (fo x.2) fi) (tkR e r) := by
  show (match tkR e r with
  | none => O.bad
  | some (d, e1) => stYa d e1 (fo e1) fi) = _
  cases tkR e r <;> rfl
theorem q_yb (d : D) (e1 e3 : Env) (i : Nat) (p : List Pj) (rk : R) : stYb d e1 i p (.ok rk e3 false) = asSome .bad (fun c => asSome .bad (fun k => stYc e1 i p (setD c k d)) (rdR e1 rk)) (eget e1 i p) := by
  cases h : eget e1 i p with
  | none => show (match eget e1 i p with
      | none => O.bad
      | some c => _) = _; rw [h]; rfl
  | some c =>
    cases h2 : rdR e1 rk with
    | some k => exact stYb_ok d e1 e3 i p rk c k h h2
    | none => show (match eget e1 i p with
      | none => O.bad
      | some c => (match (rdR e1 rk).bind fun k => setD c k d with
        | some c' => _
        | none => O.bad)) = _; rw [h, h2]; rfl
theorem q_aug (c j i : Nat) (op : Int → Int → Int) (fv : SE) (env : Env) : sAugF c j i op fv env = asIns c .bad (fun ds => asInt .bad (fun a => stG c j i op ds a (fv env)) ds[j]?) env[i]? := by
  unfold sAugF
  cases h : env[i]? with
  | none => rfl
  | some d =>
    cases d with
    | ins c' ds =>
      show (if c' = c then _ else _) = (if c' = c then _ else _)
      by_cases hc : c' = c
      · rw [if_pos hc, if_pos hc]
        cases h2 : ds[j]? with
        | none => rfl
        | some d2 => cases d2 <;> rfl
      · rw [if_neg hc, if_neg hc]
    | _ => rfl
theorem q_g (c j i : Nat) (op : Int → Int → Int) (ds : List D) (a : Int) (r : R) (e : Env) : stG c j i op ds a (.ok r e false) = asInt .bad (fun b => .ok .nx (e.set i (.ins c (ds.set j (.int (op a b))))) true) (rdR e r) := by
  show (match rdR e r with
      | some (.int b) => O.ok Fl.nx (e.set i (.ins c (ds.set j (.int (op a b))))) true
      | _ => O.bad) = _
  cases rdR e r with
  | none => rfl
  | some d => cases d <;> rfl
def asTwo (i j : Nat) : Option (List D × Env) → O Fl
  | some ([d1, d2], e2) => if i < e2.length ∧ j < e2.length then .ok .nx ((e2.set i d1).set j d2) true else .bad
  | _ => .bad
theorem q_w (i j : Nat) (rs : List R) (e : Env) (t : Bool) : stW i j (.ok rs e t) = asTwo i j (tkA rs e) := rfl
theorem q_two (i j : Nat) (d1 d2 : D) (e2 : Env) : asTwo i j (some ([d1, d2], e2)) = if i < e2.length ∧ j < e2.length then .ok .nx ((e2.set i d1).set j d2) true else .bad := rfl
def asStr {α : Type} (bad : α) (k : Str → α) : Option D → α
  | some (.str z) => k z
  | _ => bad
theorem asStr_ok {α : Type} (bad : α) (k : Str → α) (z : Str) : asStr bad k (some (.str z)) = k z := rfl
theorem q_t (f : Str → SS) (r : R) (e : Env) (t : Bool) : stT f (.ok r e t) = asStr .bad (fun z => f z e) (rdR e r) := by
  show (match rdR e r with
  | some (.str z) => f z e
  | _ => O.bad) = _
  cases rdR e r with
  | none => rfl
  | some d => cases d <;> rfl
theorem q_v (ty : D → Bool) (k : D → List D → Option D) (fs : SA) (ro : R) (e1 : Env) (t1 : Bool) : stV ty k fs (.ok ro e1 t1) = asSome .bad (fun d0 => ifT .bad (ty d0) (stVa k ro t1 (fs e1))) (rdR e1 ro) := by
  show (match rdR e1 ro with
  | none => O.bad
  | some d0 => if ty d0 then stVa k ro t1 (fs e1) else O.bad) = _
  cases rdR e1 ro <;> rfl
theorem q_va (k : D → List D → Option D) (ro : R) (t1 t2 : Bool) (rs : List R) (e2 : Env) : stVa k ro t1 (.ok rs e2 t2) = ifT .bad (okR ro t2) (fin ((rdR e2 ro).bind fun da => (rdRs e2 rs).bind fun ds => k da ds) e2 (t1 || t2)) := rfl
def stHa (fz : SE) (ro : R) (t1 : Bool) (o : O R) : O R := o.bind fun rk e2 t2 => (fz e2).bind fun rz e3 t3 => if t2 || t3 then .bad else fin ((rdR e3 ro).bind fun c => (rdR e3 rk).bind fun k => (rdR e3 rz).bind fun z => getD2 c k z) e3 t1
def stHb (ro rk : R) (t1 : Bool) (o : O R) : O R := o.bind fun rz e3 t3 => if t3 then .bad else fin ((rdR e3 ro).bind fun c => (rdR e3 rk).bind fun k => (rdR e3 rz).bind fun z => getD2 c k z) e3 t1
theorem q_h (fk fz : SE) (ro : R) (e1 : Env) (t1 : Bool) : stH fk fz (.ok ro e1 t1) = asSome .bad (fun d0 => ifT .bad (isDct d0) (stHa fz ro t1 (fk e1))) (rdR e1 ro) := by
  show (match rdR e1 ro with
  | none => O.bad
  | some d0 => if isDct d0 then (fk e1).bind fun rk e2 t2 => (fz e2).bind fun rz e3 t3 => if t2 || t3 then O.bad else match (rdR e3 ro).bind fun c => (rdR e3 rk).bind fun k => (rdR e3 rz).bind fun z => getD2 c k z with
    | some d => O.ok (R.val d) e3 t1
    | none => O.bad
    else O.bad) = _
  cases rdR e1 ro with
  | none => rfl
  | some d0 =>
    show (if isDct d0 then _ else _) = (if isDct d0 then _ else _)
    cases isDct d0 with
    | false => rfl
    | true =>
      rw [if_pos rfl, if_pos rfl]
      unfold stHa
      refine bind_ext fun rk e2 t2 => bind_ext fun rz e3 t3 => ?_
      cases t2 || t3 with
      | true => rfl
      | false =>
            rw [if_neg (by simp), if_neg (by simp)]
            cases (rdR e3 ro).bind fun c => (rdR e3 rk).bind fun k => (rdR e3 rz).bind fun z => getD2 c k z <;> rfl
theorem q_ha (fz : SE) (ro rk : R) (t1 : Bool) (e2 : Env) : stHa fz ro t1 (.ok rk e2 false) = stHb ro rk t1 (fz e2) := by
  unfold stHa stHb
  rfl
theorem q_hb (ro rk rz : R) (t1 : Bool) (e3 : Env) : stHb ro rk t1 (.ok rz e3 false) = fin ((rdR e3 ro).bind fun c => (rdR e3 rk).bind fun k => (rdR e3 rz).bind fun z => getD2 c k z) e3 t1 := rfl
/-- a < b < c -/
def stK (g g' : D → D → Option D) (fb fc : SE) (o : O R) : O R := o.bind fun ra e1 t1 => (fb e1).bind fun rb e2 t2 => if t1 || t2 then .bad else asSome .bad (fun da => asSome .bad (fun db => ifT .bad db.st (match g da db with
    | some (.bl true) => (fc e2).bind fun rc e3 t3 => if t3 then .bad else fin ((rdR e3 rc).bind fun dc => g' db dc) e3 false
    | some (.bl false) => .ok (.val (.bl false)) e2 false
    | _ => .bad)) (rdR e2 rb)) (rdR e2 ra)
def stKa (g g' : D → D → Option D) (fc : SE) (ra : R) (o : O R) : O R := o.bind fun rb e2 t2 => if t2 then .bad else asSome .bad (fun da => asSome .bad (fun db => ifT .bad db.st (match g da db with
    | some (.bl true) => (fc e2).bind fun rc e3 t3 => if t3 then .bad else fin ((rdR e3 rc).bind fun dc => g' db dc) e3 false
    | some (.bl false) => .ok (.val (.bl false)) e2 false
    | _ => .bad)) (rdR e2 rb)) (rdR e2 ra)
def stKb (g' : D → D → Option D) (fc : SE) (db : D) (e2 : Env) : Option D → O R
  | some (.bl true) => (fc e2).bind fun rc e3 t3 => if t3 then .bad else fin ((rdR e3 rc).bind fun dc => g' db dc) e3 false
  | some (.bl false) => .ok (.val (.bl false)) e2 false
  | _ => .bad
def stKc (g' : D → D → Option D) (db : D) (o : O R) : O R := o.bind fun rc e3 t3 => if t3 then .bad else fin ((rdR e3 rc).bind fun dc => g' db dc) e3 false
theorem q_chain (g g' : D → D → Option D) (fa fb fc : SE) (env : Env) : fChain g g' fa fb fc env = stK g g' fb fc (fa env) := by
  unfold fChain stK
  refine bind_ext fun ra e1 t1 => bind_ext fun rb e2 t2 => ?_
  cases t1 || t2 with
  | true => rfl
  | false =>
    rw [if_neg (by simp), if_neg (by simp)]
    cases rdR e2 ra with
    | none => rfl
    | some da =>
      cases rdR e2 rb with
      | none => rfl
      | some db =>
        show (if db.st then _ else _) = (if db.st then _ else _)
        cases db.st with
        | false => rfl
        | true =>
          rw [if_pos rfl, if_pos rfl]
          cases g da db with
          | none => rfl
          | some d =>
            cases d with
            | bl b =>
              cases b with
              | false => rfl
              | true =>
                refine bind_ext fun rc e3 t3 => ?_
                cases t3 with
                | true => rfl
                | false =>
                  rw [if_neg (by simp), if_neg (by simp)]
                  cases (rdR e3 rc).bind fun dc => g' db dc <;> rfl
            | _ => rfl
theorem q_k (g g' : D → D → Option D) (fb fc : SE) (ra : R) (e1 : Env) : stK g g' fb fc (.ok ra e1 false) = stKa g g' fc ra (fb e1) := by
  unfold stK stKa
  rfl
theorem q_ka (g g' : D → D → Option D) (fc : SE) (ra rb : R) (e2 : Env) : stKa g g' fc ra (.ok rb e2 false) = asSome .bad (fun da => asSome .bad (fun db => ifT .bad db.st (stKb g' fc db e2 (g da db))) (rdR e2 rb)) (rdR e2 ra) := by
  show asSome O.bad (fun da => asSome O.bad (fun db => ifT O.bad db.st (match g da db with
    | some (.bl true) => (fc e2).bind fun rc e3 t3 => if t3 then O.bad else fin ((rdR e3 rc).bind fun dc => g' db dc) e3 false
    | some (.bl false) => O.ok (R.val (.bl false)) e2 false
    | _ => O.bad)) (rdR e2 rb)) (rdR e2 ra) = _
  cases rdR e2 ra with
  | none => rfl
  | some da =>
    cases rdR e2 rb with
    | none => rfl
    | some db =>
      show ifT  O.bad db.st _ = ifT  O.bad db.st _
      cases g da db with
      | none => rfl
      | some d => cases d with
        | bl b => cases b <;> rfl
        | _ => rfl
theorem q_kt (g' : D → D → Option D) (fc : SE) (db : D) (e2 : Env) : stKb g' fc db e2 (some (.bl true)) = stKc g' db (fc e2) := rfl
theorem q_kf (g' : D → D → Option D) (fc : SE) (db : D) (e2 : Env) : stKb g' fc db e2 (some (.bl false)) = .ok (.val (.bl false)) e2 false := rfl
theorem q_kc (g' : D → D → Option D) (db : D) (rc : R) (e : Env) : stKc g' db (.ok rc e false) = fin ((rdR e rc).bind fun dc => g' db dc) e false := rfl
/-! ### walked -/
def asLst {α : Type} (bad : α) (k : List D → α) : Option D → α
  | some (.lst ds) => k ds
  | _ => bad
theorem asLst_ok {α : Type} (bad : α) (k : List D → α) (ds : List D) : asLst bad k (some (.lst ds)) = k ds := rfl
theorem q_sip (i : Nat) (e : Env) (t : Bool) : siA (.ok (.plc i []) e t) = asLst .bad (fun ds => ifT .bad (OL.stL ds) (.ok (ds, some (i, .lst ds)) (e.set i .mvd) true)) e[i]? := by
  show (match e[i]? with
    | some (.lst ds) => if OL.stL ds then O.ok (ds, some (i, D.lst ds)) (e.set i .mvd) true else O.bad
    | _ => O.bad) = _
  cases e[i]? with
  | none => rfl
  | some d => cases d <;> rfl
def siB (o : O R) : O (List D × Option (Nat × D)) := o.bind fun r e t => match r with
  | .val (.tup ds) => if stL ds then .ok (ds, none) e t else .bad
  | _ => .bad
theorem ev_situp (fo : SE) (env : Env) : siTup fo env = siB (fo env) := rfl
theorem siB_tup (ds : List D) (e : Env) (t : Bool) : siB (.ok (.val (.tup ds)) e t) = ifT .bad (stL ds) (.ok (ds, none) e t) := rfl
def siC (o : O (List R)) : O (List D × Option (Nat × D)) := o.bind fun rs e t => match rdRs e rs with
  | some [.int j] => if nb 4611686018427387903 j then .ok (rngD 0 j.toNat, none) e t else .bad
  | _ => .bad
theorem ev_sirng (fs : SA) (env : Env) : siRng1 fs env = siC (fs env) := rfl
def rgA (e : Env) (t : Bool) : Option (List D) → O (List D × Option (Nat × D))
  | some [.int j] => if nb 4611686018427387903 j then .ok (rngD 0 j.toNat, none) e t else .bad
  | _ => .bad
theorem siC_ok (rs : List R) (e : Env) (t : Bool) : siC (.ok rs e t) = rgA e t (rdRs e rs) := rfl
theorem rgA_ok (e : Env) (t : Bool) (j : Int) : rgA e t (some [.int j]) = ifT .bad (nb 4611686018427387903 j) (.ok (rngD 0 j.toNat, none) e t) := rfl
def siE (o : O (List R)) : O (List D × Option (Nat × D)) := o.bind fun rs e t => match rs with
  | [.val (.tup ds)] => if stL ds then .ok (numD 0 ds, none) e t else .bad
  | _ => .bad
theorem ev_sienum (fs : SA) (env : Env) : siEnum fs env = siE (fs env) := rfl
theorem siE_tup (ds : List D) (e : Env) (t : Bool) : siE (.ok [.val (.tup ds)] e t) = ifT .bad (stL ds) (.ok (numD 0 ds, none) e t) := rfl
def siF (o : O (List R)) : O (List D × Option (Nat × D)) := o.bind fun rs e t => match rs with
  | [.val (.lst ds)] => if stL ds then .ok (numD 0 ds, none) e t else .bad
  | [.val (.fls ds)] => .ok (numD 0 ds, none) e t
  | [.plc i []] => match e[i]? with
    | some (.lst ds) => if stL ds then .ok (numD 0 ds, some (i, .lst ds)) (e.set i .mvd) true else .bad
    | _ => .bad
  | _ => .bad
theorem ev_sienumL (fs : SA) (env : Env) : siEnumL fs env = siF (fs env) := rfl
theorem siF_lst (ds : List D) (e : Env) (t : Bool) : siF (.ok [.val (.lst ds)] e t) = ifT .bad (stL ds) (.ok (numD 0 ds, none) e t) := rfl
theorem siF_fls (ds : List D) (e : Env) (t : Bool) : siF (.ok [.val (.fls ds)] e t) = .ok (numD 0 ds, none) e t := rfl
theorem siF_plc (i : Nat) (e : Env) (t : Bool) : siF (.ok [.plc i []] e t) = asLst .bad (fun ds => ifT .bad (stL ds) (.ok (numD 0 ds, some (i, .lst ds)) (e.set i .mvd) true)) e[i]? := by
  show (match e[i]? with
    | some (.lst ds) => if stL ds then O.ok (numD 0 ds, some (i, D.lst ds)) (e.set i .mvd) true else O.bad
    | _ => O.bad) = _
  cases e[i]? with
  | none => rfl
  | some d => cases d <;> rfl
def siG (o : O R) : O (List D × Option (Nat × D)) := o.bind fun r e t => match rdR e r with
  | some (.str z) => .ok (sgnD z, none) e t
  | _ => .bad
theorem ev_sistr (fo : SE) (env : Env) : siStr fo env = siG (fo env) := rfl
theorem siG_ok (r : R) (e : Env) (t : Bool) : siG (.ok r e t) = asStr .bad (fun z => .ok (sgnD z, none) e t) (rdR e r) := by
  show (match rdR e r with
  | some (.str z) => O.ok (sgnD z, none) e t
  | _ => O.bad) = _
  cases rdR e r with
  | none => rfl
  | some d => cases d <;> rfl
end OL

/-! The plain layer, 5: comprehensions; values of operations. -/
namespace OL
open PySem PySem.Spec PyProof.Rows L2
/-! ### list comprehensions -/
def stCm (own : List Nat) (g : GT) (b : SB) (fe : SE) (o : O (List D × Option (Nat × D))) : O R := o.bind fun il e _ => if okE e own ∧ il.1.length ≤ 100000 ∧ lkOk (fun i => !own.contains i) il.2 then (match loopC own g b fe il.1 [] (wpE e own) with
  | .ok acc e2 _ => .ok (.val (.lst acc)) (bak il.2 (rsE e e2 own)) true
  | _ => .bad) else .bad
def stCz (lk : Option (Nat × D)) (own : List Nat) (e : Env) : O (List D) → O R
  | .ok acc e2 _ => .ok (.val (.lst acc)) (bak lk (rsE e e2 own)) true
  | _ => .bad
theorem ev_comp (si : SI) (own : List Nat) (g : GT) (b : SB) (fe : SE) (env : Env) : fComp si own g b fe env = stCm own g b fe (si env) := rfl
theorem stCm_ok (own : List Nat) (g : GT) (b : SB) (fe : SE) (il : List D) (lk : Option (Nat × D)) (e : Env) (t : Bool) : stCm own g b fe (.ok (il, lk) e t) = ifT .bad (decide (okE e own ∧ il.length ≤ 100000 ∧ lkOk (fun i => !own.contains i) lk)) (stCz lk own e (loopC own g b fe il [] (wpE e own))) := by
  show (if okE e own ∧ il.length ≤ 100000 ∧ lkOk (fun i => !own.contains i) lk then (match loopC own g b fe il [] (wpE e own) with
  | .ok acc e2 _ => O.ok (R.val (.lst acc)) (bak lk (rsE e e2 own)) true
  | _ => O.bad) else O.bad) = (if _ then _ else _)
  have h : ∀ o : O (List D), (match o with
  | .ok acc e2 _ => O.ok (R.val (.lst acc)) (bak lk (rsE e e2 own)) true
  | _ => O.bad) = stCz lk own e o := fun o => by cases o <;> rfl
  rw [h]
  by_cases q : okE e own ∧ il.length ≤ 100000 ∧ lkOk (fun i => !own.contains i) lk
  · rw [if_pos q, if_pos (decide_eq_true q)]
  · rw [if_neg q, if_neg (by rw [decide_eq_false q]; simp)]
theorem stCz_ok (lk : Option (Nat × D)) (own : List Nat) (e e2 : Env) (acc : List D) (t : Bool) : stCz lk own e (.ok acc e2 t) = .ok (.val (.lst acc)) (bak lk (rsE e e2 own)) true := rfl
theorem bak_none (e : Env) : bak none e = e := rfl
theorem bak_some (i : Nat) (d : D) (e : Env) : bak (some (i, d)) e = e.set i d := rfl
theorem lk_none (fx : Nat → Bool) : lkOk fx none = true := rfl
theorem lk_some (fx : Nat → Bool) (i : Nat) (d : D) : lkOk fx (some (i, d)) = fx i := rfl
theorem wpE_nil (e : Env) : wpE e [] = e := rfl
theorem wpE_cons (e : Env) (v : Nat) (vs : List Nat) : wpE e (v :: vs) = (wpE e vs).set v .mvd := rfl
theorem rsE_nil (e0 e : Env) : rsE e0 e [] = e := rfl
theorem rsE_cons (e0 e : Env) (v : Nat) (vs : List Nat) : rsE e0 e (v :: vs) = (rsE e0 e vs).set v (e0.getD v .mvd) := rfl
theorem okE_nil (e : Env) : okE e [] = true := rfl
theorem okE_cons (e : Env) (v : Nat) (vs : List Nat) : okE e (v :: vs) = (((e.getD v .mvd).st || (e.getD v .mvd).mv) && okE e vs) := rfl
theorem bYes_ev (env : Env) : bYes env = .ok true env false := rfl
/-- one item of a comprehension: the target, the test, the value, all without a trace -/
structure CmStep (own : List Nat) (g : GT) (b : SB) (fe : SE) (e : Env) (d : D) (x : Option D) : Prop where
  ex : ∃ e1, g d e = some e1 ∧ match x with
    | none => ∃ e2 t, b e1 = .ok false e2 t ∧ wpE e2 own = e
    | some x => ∃ e2 t r e3 t3 e4, b e1 = .ok true e2 t ∧ fe e2 = .ok r e3 t3 ∧ tkA [r] e3 = some ([x], e4) ∧ wpE e4 own = e
theorem loopC_map {own : List Nat} {g : GT} {b : SB} {fe : SE} {e : Env} (f : D → Option D) : ∀ {l acc : List D}, (∀ d ∈ l, CmStep own g b fe e d (f d)) → loopC own g b fe l acc e = .ok (acc ++ l.filterMap f) e true
  | [], acc, _ => by simp [loopC]
  | d :: r, acc, h => by
    obtain ⟨e1, h1, h2⟩ := (h d List.mem_cons_self).ex
    have ih := fun acc => loopC_map (acc := acc) f fun d hd => h d (List.mem_cons_of_mem _ hd)
    show (match g d e with
    | none => O.bad
    | some e1 => match b e1 with
      | .ok false e2 _ => loopC own g b fe r acc (wpE e2 own)
      | .ok true e2 _ => match fe e2 with
        | .ok ro e3 _ => match tkA [ro] e3 with
          | some ([x], e4) => loopC own g b fe r (acc ++ [x]) (wpE e4 own)
          | _ => O.bad
        | _ => O.bad
      | _ => O.bad) = _
    rw [h1]
    cases hf : f d with
    | none =>
      rw [hf] at h2
      obtain ⟨e2, t, h3, h4⟩ := h2
      show (match b e1 with
      | .ok false e2 _ => loopC own g b fe r acc (wpE e2 own)
      | .ok true e2 _ => match fe e2 with
        | .ok ro e3 _ => match tkA [ro] e3 with
          | some ([x], e4) => loopC own g b fe r (acc ++ [x]) (wpE e4 own)
          | _ => O.bad
        | _ => O.bad
      | _ => O.bad) = _
      rw [h3]
      show loopC own g b fe r acc (wpE e2 own) = _
      rw [h4, ih, List.filterMap_cons, hf]
    | some x =>
      rw [hf] at h2
      obtain ⟨e2, t, ro, e3, t3, e4, h3, h4, h5, h6⟩ := h2
      show (match b e1 with
      | .ok false e2 _ => loopC own g b fe r acc (wpE e2 own)
      | .ok true e2 _ => match fe e2 with
        | .ok ro e3 _ => match tkA [ro] e3 with
          | some ([x], e4) => loopC own g b fe r (acc ++ [x]) (wpE e4 own)
          | _ => O.bad
        | _ => O.bad
      | _ => O.bad) = _
      rw [h3]
      show (match fe e2 with
        | .ok ro e3 _ => match tkA [ro] e3 with
          | some ([x], e4) => loopC own g b fe r (acc ++ [x]) (wpE e4 own)
          | _ => O.bad
        | _ => O.bad) = _
      rw [h4]
      show (match tkA [ro] e3 with
          | some ([x], e4) => loopC own g b fe r (acc ++ [x]) (wpE e4 own)
          | _ => O.bad) = _
      rw [h5]
      show loopC own g b fe r (acc ++ [x]) (wpE e4 own) = _
      rw [h6, ih, List.filterMap_cons, hf, List.append_assoc]
      rfl
/-- step by step, for written lists -/
def lcA (own : List Nat) (g : GT) (b : SB) (fe : SE) (r acc : List D) : Option Env → O (List D)
  | none => .bad
  | some e1 => match b e1 with
      | .ok false e2 _ => loopC own g b fe r acc (wpE e2 own)
      | .ok true e2 _ => match fe e2 with
        | .ok ro e3 _ => match tkA [ro] e3 with
          | some ([x], e4) => loopC own g b fe r (acc ++ [x]) (wpE e4 own)
          | _ => .bad
        | _ => .bad
      | _ => .bad
def lcB (own : List Nat) (g : GT) (b : SB) (fe : SE) (r acc : List D) : O Bool → O (List D)
  | .ok false e2 _ => loopC own g b fe r acc (wpE e2 own)
  | .ok true e2 _ => match fe e2 with
        | .ok ro e3 _ => match tkA [ro] e3 with
          | some ([x], e4) => loopC own g b fe r (acc ++ [x]) (wpE e4 own)
          | _ => .bad
        | _ => .bad
  | _ => .bad
def lcC (own : List Nat) (g : GT) (b : SB) (fe : SE) (r acc : List D) : O R → O (List D)
  | .ok ro e3 _ => match tkA [ro] e3 with
          | some ([x], e4) => loopC own g b fe r (acc ++ [x]) (wpE e4 own)
          | _ => .bad
  | _ => .bad
def lcD (own : List Nat) (g : GT) (b : SB) (fe : SE) (r acc : List D) : Option (List D × Env) → O (List D)
  | some ([x], e4) => loopC own g b fe r (acc ++ [x]) (wpE e4 own)
  | _ => .bad
theorem loopC_nil (own : List Nat) (g : GT) (b : SB) (fe : SE) (acc : List D) (e : Env) : loopC own g b fe [] acc e = .ok acc e true := rfl
theorem loopC_cons (own : List Nat) (g : GT) (b : SB) (fe : SE) (d : D) (r acc : List D) (e : Env) : loopC own g b fe (d :: r) acc e = lcA own g b fe r acc (g d e) := by
  show (match g d e with
    | none => O.bad
    | some e1 => match b e1 with
      | .ok false e2 _ => loopC own g b fe r acc (wpE e2 own)
      | .ok true e2 _ => match fe e2 with
        | .ok ro e3 _ => match tkA [ro] e3 with
          | some ([x], e4) => loopC own g b fe r (acc ++ [x]) (wpE e4 own)
          | _ => O.bad
        | _ => O.bad
      | _ => O.bad) = _
  cases g d e <;> rfl
theorem lcA_ok (own : List Nat) (g : GT) (b : SB) (fe : SE) (r acc : List D) (e1 : Env) : lcA own g b fe r acc (some e1) = lcB own g b fe r acc (b e1) := by
  show (match b e1 with
      | .ok false e2 _ => loopC own g b fe r acc (wpE e2 own)
      | .ok true e2 _ => match fe e2 with
        | .ok ro e3 _ => match tkA [ro] e3 with
          | some ([x], e4) => loopC own g b fe r (acc ++ [x]) (wpE e4 own)
          | _ => O.bad
        | _ => O.bad
      | _ => O.bad) = _
  cases b e1 with
  | ok x e t => cases x <;> rfl
  | exc => rfl
  | bad => rfl
theorem lcB_f (own : List Nat) (g : GT) (b : SB) (fe : SE) (r acc : List D) (e2 : Env) (t : Bool) : lcB own g b fe r acc (.ok false e2 t) = loopC own g b fe r acc (wpE e2 own) := rfl
theorem lcB_t (own : List Nat) (g : GT) (b : SB) (fe : SE) (r acc : List D) (e2 : Env) (t : Bool) : lcB own g b fe r acc (.ok true e2 t) = lcC own g b fe r acc (fe e2) := by
  show (match fe e2 with
        | .ok ro e3 _ => match tkA [ro] e3 with
          | some ([x], e4) => loopC own g b fe r (acc ++ [x]) (wpE e4 own)
          | _ => O.bad
        | _ => O.bad) = _
  cases fe e2 <;> rfl
theorem lcC_ok (own : List Nat) (g : GT) (b : SB) (fe : SE) (r acc : List D) (ro : R) (e3 : Env) (t : Bool) : lcC own g b fe r acc (.ok ro e3 t) = lcD own g b fe r acc (tkA [ro] e3) := rfl
theorem lcD_ok (own : List Nat) (g : GT) (b : SB) (fe : SE) (r acc : List D) (x : D) (e4 : Env) : lcD own g b fe r acc (some ([x], e4)) = loopC own g b fe r (acc ++ [x]) (wpE e4 own) := rfl
/-- one turn, what it yields -/
def cmOne (own : List Nat) (g : GT) (b : SB) (fe : SE) (d : D) (e : Env) : O (Option D) := match g d e with
  | none => .bad
  | some e1 => match b e1 with
    | .ok false e2 _ => .ok none (wpE e2 own) true
    | .ok true e2 _ => match fe e2 with
      | .ok ro e3 _ => match tkA [ro] e3 with
        | some ([x], e4) => .ok (some x) (wpE e4 own) true
        | _ => .bad
      | _ => .bad
    | _ => .bad
def cmA (own : List Nat) (b : SB) (fe : SE) : Option Env → O (Option D)
  | none => .bad
  | some e1 => match b e1 with
    | .ok false e2 _ => .ok none (wpE e2 own) true
    | .ok true e2 _ => match fe e2 with
      | .ok ro e3 _ => match tkA [ro] e3 with
        | some ([x], e4) => .ok (some x) (wpE e4 own) true
        | _ => .bad
      | _ => .bad
    | _ => .bad
def cmB (own : List Nat) (fe : SE) : O Bool → O (Option D)
  | .ok false e2 _ => .ok none (wpE e2 own) true
  | .ok true e2 _ => match fe e2 with
      | .ok ro e3 _ => match tkA [ro] e3 with
        | some ([x], e4) => .ok (some x) (wpE e4 own) true
        | _ => .bad
      | _ => .bad
  | _ => .bad
def cmC (own : List Nat) : O R → O (Option D)
  | .ok ro e3 _ => match tkA [ro] e3 with
        | some ([x], e4) => .ok (some x) (wpE e4 own) true
        | _ => .bad
  | _ => .bad
def cmD (own : List Nat) : Option (List D × Env) → O (Option D)
  | some ([x], e4) => .ok (some x) (wpE e4 own) true
  | _ => .bad
theorem cm_ev (own : List Nat) (g : GT) (b : SB) (fe : SE) (d : D) (e : Env) : cmOne own g b fe d e = cmA own b fe (g d e) := by
  unfold cmOne cmA
  cases g d e <;> rfl
theorem cmA_ok (own : List Nat) (b : SB) (fe : SE) (e1 : Env) : cmA own b fe (some e1) = cmB own fe (b e1) := by
  show (match b e1 with
    | .ok false e2 _ => O.ok none (wpE e2 own) true
    | .ok true e2 _ => match fe e2 with
      | .ok ro e3 _ => match tkA [ro] e3 with
        | some ([x], e4) => O.ok (some x) (wpE e4 own) true
        | _ => O.bad
      | _ => O.bad
    | _ => O.bad) = _
  cases b e1 with
  | ok x e t => cases x <;> rfl
  | exc => rfl
  | bad => rfl
theorem cmB_f (own : List Nat) (fe : SE) (e2 : Env) (t : Bool) : cmB own fe (.ok false e2 t) = .ok none (wpE e2 own) true := rfl
theorem cmB_t (own : List Nat) (fe : SE) (e2 : Env) (t : Bool) : cmB own fe (.ok true e2 t) = cmC own (fe e2) := by
  show (match fe e2 with
      | .ok ro e3 _ => match tkA [ro] e3 with
        | some ([x], e4) => O.ok (some x) (wpE e4 own) true
        | _ => O.bad
      | _ => O.bad) = _
  cases fe e2 <;> rfl
theorem cmC_ok (own : List Nat) (ro : R) (e3 : Env) (t : Bool) : cmC own (.ok ro e3 t) = cmD own (tkA [ro] e3) := rfl
theorem cmD_ok (own : List Nat) (x : D) (e4 : Env) : cmD own (some ([x], e4)) = .ok (some x) (wpE e4 own) true := rfl
/-- a comprehension by its turns: from state to state -/
theorem lc_fold {α σ : Type} {own : List Nat} {g : GT} {b : SB} {fe : SE} (enc : α → D) (E : σ → Env) (I : σ → Prop) (y : σ → α → Option D) (st : σ → α → σ) : ∀ {l : List α} {acc : List D} {s : σ}, I s → (∀ a ∈ l, ∀ s, I s → cmOne own g b fe (enc a) (E s) = .ok (y s a) (E (st s a)) true ∧ I (st s a)) →
    ∃ ys s', loopC own g b fe (l.map enc) acc (E s) = .ok (acc ++ ys) (E s') true ∧ s' = l.foldl st s ∧ I s' ∧ ys = (l.foldl (fun (p : List D × σ) a => (p.1 ++ (y p.2 a).toList, st p.2 a)) ([], s)).1
  | [], acc, s, hI, _ => ⟨[], s, by simp [loopC], rfl, hI, rfl⟩
  | a :: l, acc, s, hI, h => by
    obtain ⟨h1, h2⟩ := h a List.mem_cons_self s hI
    have aux : ∀ (l : List α) (p0 : List D) (q : List D × σ), (l.foldl (fun (p : List D × σ) a => (p.1 ++ (y p.2 a).toList, st p.2 a)) (p0 ++ q.1, q.2)).1 = p0 ++ (l.foldl (fun (p : List D × σ) a => (p.1 ++ (y p.2 a).toList, st p.2 a)) q).1 := by
      intro l
      induction l with
      | nil => intro p0 q; rfl
      | cons a l ih => intro p0 q; rw [List.foldl_cons, List.foldl_cons, ← ih, List.append_assoc]
    obtain ⟨ys, s', e1, e2, e3, e4⟩ := lc_fold enc E I y st (acc := acc ++ (y s a).toList) h2 fun b hb => h b (List.mem_cons_of_mem _ hb)
    refine ⟨(y s a).toList ++ ys, s', ?_, e2, e3, ?_⟩
    · rw [List.append_assoc] at e1
      rw [← e1, List.map_cons, loopC_cons]
      rw [cm_ev] at h1
      cases hg : g (enc a) (E s) with
      | none => rw [hg] at h1; cases h1
      | some x1 =>
        rw [hg, cmA_ok] at h1
        rw [lcA_ok]
        cases hb : b x1 with
        | bad => rw [hb] at h1; cases h1
        | exc => rw [hb] at h1; cases h1
        | ok z x2 t =>
          rw [hb] at h1
          cases z with
          | false =>
            rw [cmB_f] at h1
            injection h1 with h3 h4
            rw [lcB_f, h4, ← h3]
            simp
          | true =>
            rw [cmB_t] at h1
            rw [lcB_t]
            cases hf : fe x2 with
            | bad => rw [hf] at h1; cases h1
            | exc => rw [hf] at h1; cases h1
            | ok ro x3 t3 =>
              rw [hf, cmC_ok] at h1
              rw [lcC_ok]
              cases ht : tkA [ro] x3 with
              | none => rw [ht] at h1; cases h1
              | some w =>
                obtain ⟨ws, x4⟩ := w
                rw [ht] at h1
                match ws, h1 with
                | [x], h1 =>
                  rw [cmD_ok] at h1
                  injection h1 with h3 h4
                  rw [lcD_ok, h4, ← h3]
                  rfl
    · rw [List.foldl_cons, e4]
      have := aux l (y s a).toList ([], st s a)
      rw [List.append_nil] at this
      rw [← this]
      rfl
/-- .. without a state -/
theorem lc_map {α : Type} {own : List Nat} {g : GT} {b : SB} {fe : SE} {e : Env} (enc : α → D) (y : α → Option D) {l : List α} {acc : List D} (h : ∀ a ∈ l, cmOne own g b fe (enc a) e = .ok (y a) e true) : loopC own g b fe (l.map enc) acc e = .ok (acc ++ l.filterMap y) e true := by
  obtain ⟨ys, s', e1, e2, e3, e4⟩ := lc_fold (σ := Unit) (own := own) (g := g) (b := b) (fe := fe) (acc := acc) (l := l) enc (fun _ => e) (fun _ => True) (fun _ a => y a) (fun _ _ => ()) (s := ()) trivial fun a ha s _ => ⟨h a ha, trivial⟩
  have aux : ∀ (l : List α) (p0 : List D), (l.foldl (fun (p : List D × Unit) a => (p.1 ++ (y a).toList, ())) (p0, ())).1 = p0 ++ l.filterMap y := by
    intro l
    induction l with
    | nil => intro p0; simp
    | cons a l ih =>
      intro p0
      rw [List.foldl_cons, ih, List.filterMap_cons]
      cases y a <;> simp
  rw [e1, e4, aux l []]
  rfl
/-! ### dict comprehensions -/
def stDm (own : List Nat) (g : GT) (b : SB) (fk fe : SE) (o : O (List D × Option (Nat × D))) : O R := o.bind fun il e _ => if okE e own ∧ il.1.length ≤ 100000 ∧ lkOk (fun i => !own.contains i) il.2 then (match loopK own g b fk fe il.1 [] [] (wpE e own) with
  | .ok acc e2 _ => .ok (.val (.dct acc.1 acc.2)) (bak il.2 (rsE e e2 own)) true
  | _ => .bad) else .bad
def stDz (lk : Option (Nat × D)) (own : List Nat) (e : Env) : O (List Key × List D) → O R
  | .ok acc e2 _ => .ok (.val (.dct acc.1 acc.2)) (bak lk (rsE e e2 own)) true
  | _ => .bad
theorem ev_dcomp (si : SI) (own : List Nat) (g : GT) (b : SB) (fk fe : SE) (env : Env) : fDComp si own g b fk fe env = stDm own g b fk fe (si env) := rfl
theorem stDm_ok (own : List Nat) (g : GT) (b : SB) (fk fe : SE) (il : List D) (lk : Option (Nat × D)) (e : Env) (t : Bool) : stDm own g b fk fe (.ok (il, lk) e t) = ifT .bad (decide (okE e own ∧ il.length ≤ 100000 ∧ lkOk (fun i => !own.contains i) lk)) (stDz lk own e (loopK own g b fk fe il [] [] (wpE e own))) := by
  show (if okE e own ∧ il.length ≤ 100000 ∧ lkOk (fun i => !own.contains i) lk then (match loopK own g b fk fe il [] [] (wpE e own) with
  | .ok acc e2 _ => O.ok (R.val (.dct acc.1 acc.2)) (bak lk (rsE e e2 own)) true
  | _ => O.bad) else O.bad) = (if _ then _ else _)
  have h : ∀ o : O (List Key × List D), (match o with
  | .ok acc e2 _ => O.ok (R.val (.dct acc.1 acc.2)) (bak lk (rsE e e2 own)) true
  | _ => O.bad) = stDz lk own e o := fun o => by cases o <;> rfl
  rw [h]
  by_cases q : okE e own ∧ il.length ≤ 100000 ∧ lkOk (fun i => !own.contains i) lk
  · rw [if_pos q, if_pos (decide_eq_true q)]
  · rw [if_neg q, if_neg (by rw [decide_eq_false q]; simp)]
theorem stDz_ok (lk : Option (Nat × D)) (own : List Nat) (e e2 : Env) (ks : List Key) (ds : List D) (t : Bool) : stDz lk own e (.ok (ks, ds) e2 t) = .ok (.val (.dct ks ds)) (bak lk (rsE e e2 own)) true := rfl
theorem loopK_nil (own : List Nat) (g : GT) (b : SB) (fk fe : SE) (ks : List Key) (ds : List D) (e : Env) : loopK own g b fk fe [] ks ds e = .ok (ks, ds) e true := rfl
/-- one item, all without a trace -/
theorem loopK_step {own : List Nat} {g : GT} {b : SB} {fk fe : SE} {d : D} {r : List D} {ks : List Key} {ds : List D} {e e1 e2 e3 e4 : Env} {t t3 t4 : Bool} {rk ro : R} {dk x : D} {k : Key} (h1 : g d e = some e1) (h2 : b e1 = .ok true e2 t) (h3 : fk e2 = .ok rk e3 t3) (h4 : rdR e3 rk = some dk) (h5 : keyD dk = some k)
    (h6 : fe e3 = .ok ro e4 t4) (h7 : rdR e4 ro = some x) (h8 : x.st = true) : loopK own g b fk fe (d :: r) ks ds e = loopK own g b fk fe r (putD ks ds k x).1 (putD ks ds k x).2 (wpE e4 own) := by
  conv => lhs; unfold loopK
  simp only [h1, h2, h3, h4, h5, h6, h7, h8, Option.bind_some, if_true]
/-! ### values -/
theorem gI_ok (f : Int → Int → D) (i j : Int) : gI f (.int i) (.int j) = some (f i j) := rfl
theorem gIc_ok (c : Int → Int → Bool) (f : Int → Int → D) (i j : Int) : gIc c f (.int i) (.int j) = if c i j then some (f i j) else none := rfl
theorem gAdd_int (i j : Int) : gAdd (.int i) (.int j) = some (.int (i + j)) := rfl
theorem gAdd_tup (xs ys : List D) : gAdd (.tup xs) (.tup ys) = if stL xs && stL ys && szo (xs.length + ys.length) then some (.tup (xs ++ ys)) else none := by
  show (none : Option D).or ((none : Option D).or ((gAddT (.tup xs) (.tup ys)).or (gAddL (.tup xs) (.tup ys)))) = _
  simp only [gAddT, gAddL, Option.none_or, Option.or_none]
theorem gAdd_lst (xs ys : List D) : gAdd (.lst xs) (.lst ys) = if stL xs && stL ys && szo (xs.length + ys.length) then some (.lst (xs ++ ys)) else none := by
  show (none : Option D).or ((none : Option D).or ((gAddT (.lst xs) (.lst ys)).or (gAddL (.lst xs) (.lst ys)))) = _
  simp only [gAddT, gAddL, Option.none_or, Option.or_none]
theorem gAdd_str (x y : Str) : gAdd (.str x) (.str y) = if szo (x.length + y.length) then some (.str (x ++ y)) else none := by
  show (none : Option D).or ((gAddS (.str x) (.str y)).or ((gAddT (.str x) (.str y)).or (gAddL (.str x) (.str y)))) = _
  simp only [gAddS, gAddT, gAddL, Option.none_or, Option.or_none]
/-! ### items at written places -/
theorem it_tup0 (x0 : D) (r : List D) : itD (.tup (x0 :: r)) (.int 0) = some (x0, none) := it_tup _ 0 _ rfl
theorem it_tup1 (x0 x1 : D) (r : List D) : itD (.tup (x0 :: x1 :: r)) (.int 1) = some (x1, none) := it_tup _ 1 _ rfl
theorem it_tup2 (x0 x1 x2 : D) (r : List D) : itD (.tup (x0 :: x1 :: x2 :: r)) (.int 2) = some (x2, none) := it_tup _ 2 _ rfl
theorem it_tup3 (x0 x1 x2 x3 : D) (r : List D) : itD (.tup (x0 :: x1 :: x2 :: x3 :: r)) (.int 3) = some (x3, none) := it_tup _ 3 _ rfl
theorem it_tup4 (x0 x1 x2 x3 x4 : D) (r : List D) : itD (.tup (x0 :: x1 :: x2 :: x3 :: x4 :: r)) (.int 4) = some (x4, none) := it_tup _ 4 _ rfl
theorem it_tup5 (x0 x1 x2 x3 x4 x5 : D) (r : List D) : itD (.tup (x0 :: x1 :: x2 :: x3 :: x4 :: x5 :: r)) (.int 5) = some (x5, none) := it_tup _ 5 _ rfl
theorem it_tup6 (x0 x1 x2 x3 x4 x5 x6 : D) (r : List D) : itD (.tup (x0 :: x1 :: x2 :: x3 :: x4 :: x5 :: x6 :: r)) (.int 6) = some (x6, none) := it_tup _ 6 _ rfl
theorem it_fls0 (x0 : D) (r : List D) : itD (.fls (x0 :: r)) (.int 0) = some (x0, none) := it_fls _ 0 _ rfl
theorem it_fls1 (x0 x1 : D) (r : List D) : itD (.fls (x0 :: x1 :: r)) (.int 1) = some (x1, none) := it_fls _ 1 _ rfl
theorem it_fls2 (x0 x1 x2 : D) (r : List D) : itD (.fls (x0 :: x1 :: x2 :: r)) (.int 2) = some (x2, none) := it_fls _ 2 _ rfl
theorem it_fls3 (x0 x1 x2 x3 : D) (r : List D) : itD (.fls (x0 :: x1 :: x2 :: x3 :: r)) (.int 3) = some (x3, none) := it_fls _ 3 _ rfl
theorem it_fls4 (x0 x1 x2 x3 x4 : D) (r : List D) : itD (.fls (x0 :: x1 :: x2 :: x3 :: x4 :: r)) (.int 4) = some (x4, none) := it_fls _ 4 _ rfl
theorem it_fls5 (x0 x1 x2 x3 x4 x5 : D) (r : List D) : itD (.fls (x0 :: x1 :: x2 :: x3 :: x4 :: x5 :: r)) (.int 5) = some (x5, none) := it_fls _ 5 _ rfl
theorem it_fls6 (x0 x1 x2 x3 x4 x5 x6 : D) (r : List D) : itD (.fls (x0 :: x1 :: x2 :: x3 :: x4 :: x5 :: x6 :: r)) (.int 6) = some (x6, none) := it_fls _ 6 _ rfl
theorem it_lst0 (x0 : D) (r : List D) : itD (.lst (x0 :: r)) (.int 0) = some (x0, some (.idx 0)) := it_lst _ 0 _ rfl
theorem it_lst1 (x0 x1 : D) (r : List D) : itD (.lst (x0 :: x1 :: r)) (.int 1) = some (x1, some (.idx 1)) := it_lst _ 1 _ rfl
theorem it_lst2 (x0 x1 x2 : D) (r : List D) : itD (.lst (x0 :: x1 :: x2 :: r)) (.int 2) = some (x2, some (.idx 2)) := it_lst _ 2 _ rfl
theorem it_lst3 (x0 x1 x2 x3 : D) (r : List D) : itD (.lst (x0 :: x1 :: x2 :: x3 :: r)) (.int 3) = some (x3, some (.idx 3)) := it_lst _ 3 _ rfl
theorem it_lst4 (x0 x1 x2 x3 x4 : D) (r : List D) : itD (.lst (x0 :: x1 :: x2 :: x3 :: x4 :: r)) (.int 4) = some (x4, some (.idx 4)) := it_lst _ 4 _ rfl
theorem it_lst5 (x0 x1 x2 x3 x4 x5 : D) (r : List D) : itD (.lst (x0 :: x1 :: x2 :: x3 :: x4 :: x5 :: r)) (.int 5) = some (x5, some (.idx 5)) := it_lst _ 5 _ rfl
theorem it_lst6 (x0 x1 x2 x3 x4 x5 x6 : D) (r : List D) : itD (.lst (x0 :: x1 :: x2 :: x3 :: x4 :: x5 :: x6 :: r)) (.int 6) = some (x6, some (.idx 6)) := it_lst _ 6 _ rfl
theorem it_dct (ks : List Key) (ds : List D) (k : D) : itD (.dct ks ds) k = (keyD k).bind fun k => (ks.idxOf? k).bind fun j => (ds[j]?).map fun d => (d, some (.key k)) := by
  cases k <;> rfl
theorem it_fdc (ks : List Key) (ds : List D) (k : D) : itD (.fdc ks ds) k = (keyD k).bind fun k => (ks.idxOf? k).bind fun j => (ds[j]?).map fun d => (d, none) := by
  cases k <;> rfl
theorem setD_lst (ds : List D) (n : Nat) (d : D) (h : n < ds.length) : setD (.lst ds) (.int n) d = some (.lst (ds.set n d)) := by
  show (ixN ds.length n).map (fun j => D.lst (ds.set j d)) = _
  unfold ixN
  rw [if_pos (by omega), if_pos (by omega)]
  simp
theorem set_lst0 (x0 : D) (r : List D) (d : D) : setD (.lst (x0 :: r)) (.int 0) d = some (.lst (d :: r)) := setD_lst _ 0 d (by simp)
theorem set_lst1 (x0 x1 : D) (r : List D) (d : D) : setD (.lst (x0 :: x1 :: r)) (.int 1) d = some (.lst (x0 :: d :: r)) := setD_lst _ 1 d (by simp)
theorem set_lst2 (x0 x1 x2 : D) (r : List D) (d : D) : setD (.lst (x0 :: x1 :: x2 :: r)) (.int 2) d = some (.lst (x0 :: x1 :: d :: r)) := setD_lst _ 2 d (by simp)
theorem set_lst3 (x0 x1 x2 x3 : D) (r : List D) (d : D) : setD (.lst (x0 :: x1 :: x2 :: x3 :: r)) (.int 3) d = some (.lst (x0 :: x1 :: x2 :: d :: r)) := setD_lst _ 3 d (by simp)
theorem set_lst4 (x0 x1 x2 x3 x4 : D) (r : List D) (d : D) : setD (.lst (x0 :: x1 :: x2 :: x3 :: x4 :: r)) (.int 4) d = some (.lst (x0 :: x1 :: x2 :: x3 :: d :: r)) := setD_lst _ 4 d (by simp)
/-! ### == -/
theorem gEq_py (f : Bool → Bool) (a b : D) (p q : PyData) (h1 : a.py = some p) (h2 : b.py = some q) (h3 : SeqAt.shaped p = true) (h4 : SeqAt.shaped q = true) : gEqB f a b = some (.bl (f (PyData.eqv p q))) := by
  unfold gEqB
  rw [h1, h2]
  show (if SeqAt.shaped p && SeqAt.shaped q then _ else _) = _
  rw [h3, h4]
  rfl
theorem sh_str (x : Str) : SeqAt.shaped (.str x) = PyData.strOk x := by
  show (PyData.strOk x && decide (0 ≤ 64)) = _
  simp
theorem sh_int (i : Int) : SeqAt.shaped (.int i) = true := rfl
theorem sh_bool (i : Bool) : SeqAt.shaped (.bool i) = true := rfl
theorem gEq_str (f : Bool → Bool) (x y : Str) (hx : PyData.strOk x = true) (hy : PyData.strOk y = true) : gEqB f (.str x) (.str y) = some (.bl (f (x == y))) := by
  rw [gEq_py f _ _ (.str x) (.str y) rfl rfl (by rw [sh_str, hx]) (by rw [sh_str, hy])]
  simp only [PyData.eqv]
theorem gEq_lit (f : Bool → Bool) (x y : Str) (b : Bool) (h : (PyData.strOk x && PyData.strOk y && ((x == y) == b)) = true) : gEqB f (.str x) (.str y) = some (.bl (f b)) := by
  rw [Bool.and_eq_true, Bool.and_eq_true] at h
  rw [gEq_str f x y h.1.1 h.1.2, eq_of_beq h.2]
theorem gEq_int (f : Bool → Bool) (i j : Int) : gEqB f (.int i) (.int j) = some (.bl (f (decide (i = j)))) := by
  rw [gEq_py f _ _ (.int i) (.int j) rfl rfl rfl rfl]
  have e : (i == j) = decide (i = j) := by
    by_cases h : i = j <;> simp [h]
  simp only [PyData.eqv, e]
theorem gEq_bl (f : Bool → Bool) (i j : Bool) : gEqB f (.bl i) (.bl j) = some (.bl (f (i == j))) := by
  rw [gEq_py f _ _ (.bool i) (.bool j) rfl rfl rfl rfl]
  simp only [PyData.eqv]
theorem gEq_refl (f : Bool → Bool) (a : D) (p : PyData) (h1 : a.py = some p) (h3 : SeqAt.shaped p = true) : gEqB f a a = some (.bl (f true)) := by
  rw [gEq_py f a a p p h1 h1 h3 h3, SeqAt.eqv_refl p (SeqAt.canLay_of_shaped h3)]
/-! ### words -/
theorem ne_wall_steady : (("wall" : Str) = "steady") = False := eq_false (by decide +kernel)
theorem ne_wall_work : (("wall" : Str) = "work") = False := eq_false (by decide +kernel)
theorem ne_wall_print : (("wall" : Str) = "print") = False := eq_false (by decide +kernel)
theorem ne_wall_sort : (("wall" : Str) = "sort") = False := eq_false (by decide +kernel)
theorem ne_wall_wait : (("wall" : Str) = "wait") = False := eq_false (by decide +kernel)
theorem ne_wall_if : (("wall" : Str) = "if") = False := eq_false (by decide +kernel)
theorem ne_wall_gone : (("wall" : Str) = "gone") = False := eq_false (by decide +kernel)
theorem ne_wall_later : (("wall" : Str) = "later") = False := eq_false (by decide +kernel)
theorem ne_wall_same : (("wall" : Str) = "same") = False := eq_false (by decide +kernel)
theorem ne_steady_wall : (("steady" : Str) = "wall") = False := eq_false (by decide +kernel)
theorem ne_steady_work : (("steady" : Str) = "work") = False := eq_false (by decide +kernel)
theorem ne_steady_print : (("steady" : Str) = "print") = False := eq_false (by decide +kernel)
theorem ne_steady_sort : (("steady" : Str) = "sort") = False := eq_false (by decide +kernel)
theorem ne_steady_wait : (("steady" : Str) = "wait") = False := eq_false (by decide +kernel)
theorem ne_steady_if : (("steady" : Str) = "if") = False := eq_false (by decide +kernel)
theorem ne_steady_gone : (("steady" : Str) = "gone") = False := eq_false (by decide +kernel)
theorem ne_steady_later : (("steady" : Str) = "later") = False := eq_false (by decide +kernel)
theorem ne_steady_same : (("steady" : Str) = "same") = False := eq_false (by decide +kernel)
theorem ne_work_wall : (("work" : Str) = "wall") = False := eq_false (by decide +kernel)
theorem ne_work_steady : (("work" : Str) = "steady") = False := eq_false (by decide +kernel)
theorem ne_work_print : (("work" : Str) = "print") = False := eq_false (by decide +kernel)
theorem ne_work_sort : (("work" : Str) = "sort") = False := eq_false (by decide +kernel)
theorem ne_work_wait : (("work" : Str) = "wait") = False := eq_false (by decide +kernel)
theorem ne_work_if : (("work" : Str) = "if") = False := eq_false (by decide +kernel)
theorem ne_work_gone : (("work" : Str) = "gone") = False := eq_false (by decide +kernel)
theorem ne_work_later : (("work" : Str) = "later") = False := eq_false (by decide +kernel)
theorem ne_work_same : (("work" : Str) = "same") = False := eq_false (by decide +kernel)
theorem ne_print_wall : (("print" : Str) = "wall") = False := eq_false (by decide +kernel)
theorem ne_print_steady : (("print" : Str) = "steady") = False := eq_false (by decide +kernel)
theorem ne_print_work : (("print" : Str) = "work") = False := eq_false (by decide +kernel)
theorem ne_print_sort : (("print" : Str) = "sort") = False := eq_false (by decide +kernel)
theorem ne_print_wait : (("print" : Str) = "wait") = False := eq_false (by decide +kernel)
theorem ne_print_if : (("print" : Str) = "if") = False := eq_false (by decide +kernel)
theorem ne_print_gone : (("print" : Str) = "gone") = False := eq_false (by decide +kernel)
theorem ne_print_later : (("print" : Str) = "later") = False := eq_false (by decide +kernel)
theorem ne_print_same : (("print" : Str) = "same") = False := eq_false (by decide +kernel)
theorem ne_sort_wall : (("sort" : Str) = "wall") = False := eq_false (by decide +kernel)
theorem ne_sort_steady : (("sort" : Str) = "steady") = False := eq_false (by decide +kernel)
theorem ne_sort_work : (("sort" : Str) = "work") = False := eq_false (by decide +kernel)
theorem ne_sort_print : (("sort" : Str) = "print") = False := eq_false (by decide +kernel)
theorem ne_sort_wait : (("sort" : Str) = "wait") = False := eq_false (by decide +kernel)
theorem ne_sort_if : (("sort" : Str) = "if") = False := eq_false (by decide +kernel)
theorem ne_sort_gone : (("sort" : Str) = "gone") = False := eq_false (by decide +kernel)
theorem ne_sort_later : (("sort" : Str) = "later") = False := eq_false (by decide +kernel)
theorem ne_sort_same : (("sort" : Str) = "same") = False := eq_false (by decide +kernel)
theorem ne_wait_wall : (("wait" : Str) = "wall") = False := eq_false (by decide +kernel)
theorem ne_wait_steady : (("wait" : Str) = "steady") = False := eq_false (by decide +kernel)
theorem ne_wait_work : (("wait" : Str) = "work") = False := eq_false (by decide +kernel)
theorem ne_wait_print : (("wait" : Str) = "print") = False := eq_false (by decide +kernel)
theorem ne_wait_sort : (("wait" : Str) = "sort") = False := eq_false (by decide +kernel)
theorem ne_wait_if : (("wait" : Str) = "if") = False := eq_false (by decide +kernel)
theorem ne_wait_gone : (("wait" : Str) = "gone") = False := eq_false (by decide +kernel)
theorem ne_wait_later : (("wait" : Str) = "later") = False := eq_false (by decide +kernel)
theorem ne_wait_same : (("wait" : Str) = "same") = False := eq_false (by decide +kernel)
theorem ne_if_wall : (("if" : Str) = "wall") = False := eq_false (by decide +kernel)
theorem ne_if_steady : (("if" : Str) = "steady") = False := eq_false (by decide +kernel)
theorem ne_if_work : (("if" : Str) = "work") = False := eq_false (by decide +kernel)
theorem ne_if_print : (("if" : Str) = "print") = False := eq_false (by decide +kernel)
theorem ne_if_sort : (("if" : Str) = "sort") = False := eq_false (by decide +kernel)
theorem ne_if_wait : (("if" : Str) = "wait") = False := eq_false (by decide +kernel)
theorem ne_if_gone : (("if" : Str) = "gone") = False := eq_false (by decide +kernel)
theorem ne_if_later : (("if" : Str) = "later") = False := eq_false (by decide +kernel)
theorem ne_if_same : (("if" : Str) = "same") = False := eq_false (by decide +kernel)
theorem ne_gone_wall : (("gone" : Str) = "wall") = False := eq_false (by decide +kernel)
theorem ne_gone_steady : (("gone" : Str) = "steady") = False := eq_false (by decide +kernel)
theorem ne_gone_work : (("gone" : Str) = "work") = False := eq_false (by decide +kernel)
theorem ne_gone_print : (("gone" : Str) = "print") = False := eq_false (by decide +kernel)
theorem ne_gone_sort : (("gone" : Str) = "sort") = False := eq_false (by decide +kernel)
theorem ne_gone_wait : (("gone" : Str) = "wait") = False := eq_false (by decide +kernel)
theorem ne_gone_if : (("gone" : Str) = "if") = False := eq_false (by decide +kernel)
theorem ne_gone_later : (("gone" : Str) = "later") = False := eq_false (by decide +kernel)
theorem ne_gone_same : (("gone" : Str) = "same") = False := eq_false (by decide +kernel)
theorem ne_later_wall : (("later" : Str) = "wall") = False := eq_false (by decide +kernel)
theorem ne_later_steady : (("later" : Str) = "steady") = False := eq_false (by decide +kernel)
theorem ne_later_work : (("later" : Str) = "work") = False := eq_false (by decide +kernel)
theorem ne_later_print : (("later" : Str) = "print") = False := eq_false (by decide +kernel)
theorem ne_later_sort : (("later" : Str) = "sort") = False := eq_false (by decide +kernel)
theorem ne_later_wait : (("later" : Str) = "wait") = False := eq_false (by decide +kernel)
theorem ne_later_if : (("later" : Str) = "if") = False := eq_false (by decide +kernel)
theorem ne_later_gone : (("later" : Str) = "gone") = False := eq_false (by decide +kernel)
theorem ne_later_same : (("later" : Str) = "same") = False := eq_false (by decide +kernel)
theorem ne_same_wall : (("same" : Str) = "wall") = False := eq_false (by decide +kernel)
theorem ne_same_steady : (("same" : Str) = "steady") = False := eq_false (by decide +kernel)
theorem ne_same_work : (("same" : Str) = "work") = False := eq_false (by decide +kernel)
theorem ne_same_print : (("same" : Str) = "print") = False := eq_false (by decide +kernel)
theorem ne_same_sort : (("same" : Str) = "sort") = False := eq_false (by decide +kernel)
theorem ne_same_wait : (("same" : Str) = "wait") = False := eq_false (by decide +kernel)
theorem ne_same_if : (("same" : Str) = "if") = False := eq_false (by decide +kernel)
theorem ne_same_gone : (("same" : Str) = "gone") = False := eq_false (by decide +kernel)
theorem ne_same_later : (("same" : Str) = "later") = False := eq_false (by decide +kernel)
theorem eq_wall_if (f : Bool → Bool) : gEqB f (.str "wall") (.str "if") = some (.bl (f false)) := gEq_lit f _ _ false (by decide +kernel)
theorem eq_wall_gone (f : Bool → Bool) : gEqB f (.str "wall") (.str "gone") = some (.bl (f false)) := gEq_lit f _ _ false (by decide +kernel)
theorem eq_wall_later (f : Bool → Bool) : gEqB f (.str "wall") (.str "later") = some (.bl (f false)) := gEq_lit f _ _ false (by decide +kernel)
theorem eq_wall_steady (f : Bool → Bool) : gEqB f (.str "wall") (.str "steady") = some (.bl (f false)) := gEq_lit f _ _ false (by decide +kernel)
theorem eq_steady_if (f : Bool → Bool) : gEqB f (.str "steady") (.str "if") = some (.bl (f false)) := gEq_lit f _ _ false (by decide +kernel)
theorem eq_steady_gone (f : Bool → Bool) : gEqB f (.str "steady") (.str "gone") = some (.bl (f false)) := gEq_lit f _ _ false (by decide +kernel)
theorem eq_steady_later (f : Bool → Bool) : gEqB f (.str "steady") (.str "later") = some (.bl (f false)) := gEq_lit f _ _ false (by decide +kernel)
theorem eq_steady_steady (f : Bool → Bool) : gEqB f (.str "steady") (.str "steady") = some (.bl (f true)) := gEq_lit f _ _ true (by decide +kernel)
theorem eq_work_if (f : Bool → Bool) : gEqB f (.str "work") (.str "if") = some (.bl (f false)) := gEq_lit f _ _ false (by decide +kernel)
theorem eq_work_gone (f : Bool → Bool) : gEqB f (.str "work") (.str "gone") = some (.bl (f false)) := gEq_lit f _ _ false (by decide +kernel)
theorem eq_work_later (f : Bool → Bool) : gEqB f (.str "work") (.str "later") = some (.bl (f false)) := gEq_lit f _ _ false (by decide +kernel)
theorem eq_work_steady (f : Bool → Bool) : gEqB f (.str "work") (.str "steady") = some (.bl (f false)) := gEq_lit f _ _ false (by decide +kernel)
theorem eq_print_if (f : Bool → Bool) : gEqB f (.str "print") (.str "if") = some (.bl (f false)) := gEq_lit f _ _ false (by decide +kernel)
theorem eq_print_gone (f : Bool → Bool) : gEqB f (.str "print") (.str "gone") = some (.bl (f false)) := gEq_lit f _ _ false (by decide +kernel)
theorem eq_print_later (f : Bool → Bool) : gEqB f (.str "print") (.str "later") = some (.bl (f false)) := gEq_lit f _ _ false (by decide +kernel)
theorem eq_print_steady (f : Bool → Bool) : gEqB f (.str "print") (.str "steady") = some (.bl (f false)) := gEq_lit f _ _ false (by decide +kernel)
theorem eq_sort_if (f : Bool → Bool) : gEqB f (.str "sort") (.str "if") = some (.bl (f false)) := gEq_lit f _ _ false (by decide +kernel)
theorem eq_sort_gone (f : Bool → Bool) : gEqB f (.str "sort") (.str "gone") = some (.bl (f false)) := gEq_lit f _ _ false (by decide +kernel)
theorem eq_sort_later (f : Bool → Bool) : gEqB f (.str "sort") (.str "later") = some (.bl (f false)) := gEq_lit f _ _ false (by decide +kernel)
theorem eq_sort_steady (f : Bool → Bool) : gEqB f (.str "sort") (.str "steady") = some (.bl (f false)) := gEq_lit f _ _ false (by decide +kernel)
theorem eq_wait_if (f : Bool → Bool) : gEqB f (.str "wait") (.str "if") = some (.bl (f false)) := gEq_lit f _ _ false (by decide +kernel)
theorem eq_wait_gone (f : Bool → Bool) : gEqB f (.str "wait") (.str "gone") = some (.bl (f false)) := gEq_lit f _ _ false (by decide +kernel)
theorem eq_wait_later (f : Bool → Bool) : gEqB f (.str "wait") (.str "later") = some (.bl (f false)) := gEq_lit f _ _ false (by decide +kernel)
theorem eq_wait_steady (f : Bool → Bool) : gEqB f (.str "wait") (.str "steady") = some (.bl (f false)) := gEq_lit f _ _ false (by decide +kernel)
theorem eq_if_if (f : Bool → Bool) : gEqB f (.str "if") (.str "if") = some (.bl (f true)) := gEq_lit f _ _ true (by decide +kernel)
theorem eq_if_gone (f : Bool → Bool) : gEqB f (.str "if") (.str "gone") = some (.bl (f false)) := gEq_lit f _ _ false (by decide +kernel)
theorem eq_if_later (f : Bool → Bool) : gEqB f (.str "if") (.str "later") = some (.bl (f false)) := gEq_lit f _ _ false (by decide +kernel)
theorem eq_if_steady (f : Bool → Bool) : gEqB f (.str "if") (.str "steady") = some (.bl (f false)) := gEq_lit f _ _ false (by decide +kernel)
theorem eq_gone_if (f : Bool → Bool) : gEqB f (.str "gone") (.str "if") = some (.bl (f false)) := gEq_lit f _ _ false (by decide +kernel)
theorem eq_gone_gone (f : Bool → Bool) : gEqB f (.str "gone") (.str "gone") = some (.bl (f true)) := gEq_lit f _ _ true (by decide +kernel)
theorem eq_gone_later (f : Bool → Bool) : gEqB f (.str "gone") (.str "later") = some (.bl (f false)) := gEq_lit f _ _ false (by decide +kernel)
theorem eq_gone_steady (f : Bool → Bool) : gEqB f (.str "gone") (.str "steady") = some (.bl (f false)) := gEq_lit f _ _ false (by decide +kernel)
theorem eq_later_if (f : Bool → Bool) : gEqB f (.str "later") (.str "if") = some (.bl (f false)) := gEq_lit f _ _ false (by decide +kernel)
theorem eq_later_gone (f : Bool → Bool) : gEqB f (.str "later") (.str "gone") = some (.bl (f false)) := gEq_lit f _ _ false (by decide +kernel)
theorem eq_later_later (f : Bool → Bool) : gEqB f (.str "later") (.str "later") = some (.bl (f true)) := gEq_lit f _ _ true (by decide +kernel)
theorem eq_later_steady (f : Bool → Bool) : gEqB f (.str "later") (.str "steady") = some (.bl (f false)) := gEq_lit f _ _ false (by decide +kernel)
theorem eq_same_if (f : Bool → Bool) : gEqB f (.str "same") (.str "if") = some (.bl (f false)) := gEq_lit f _ _ false (by decide +kernel)
theorem eq_same_gone (f : Bool → Bool) : gEqB f (.str "same") (.str "gone") = some (.bl (f false)) := gEq_lit f _ _ false (by decide +kernel)
theorem eq_same_later (f : Bool → Bool) : gEqB f (.str "same") (.str "later") = some (.bl (f false)) := gEq_lit f _ _ false (by decide +kernel)
theorem eq_same_steady (f : Bool → Bool) : gEqB f (.str "same") (.str "steady") = some (.bl (f false)) := gEq_lit f _ _ false (by decide +kernel)
theorem ev_isi_str (T : String) (x : Str) : gIsi T (.str x) = if tysD.contains T then some (.bl (bIsi "str" T)) else none := rfl
/-! ### kinds -/
theorem mv_non  : D.mv (.non) = false := rfl
theorem mv_bl (b : Bool) : D.mv (.bl b) = false := rfl
theorem mv_int (i : Int) : D.mv (.int i) = false := rfl
theorem mv_str (x : Str) : D.mv (.str x) = false := rfl
theorem mv_fn (n : Nat) : D.mv (.fn n) = false := rfl
theorem mv_tup (l : List D) : D.mv (.tup l) = false := rfl
theorem mv_lst (l : List D) : D.mv (.lst l) = false := rfl
theorem mv_fls (l : List D) : D.mv (.fls l) = false := rfl
theorem mv_dct (k : List Key) (l : List D) : D.mv (.dct k l) = false := rfl
theorem mv_fdc (k : List Key) (l : List D) : D.mv (.fdc k l) = false := rfl
theorem mv_ins (c : Nat) (l : List D) : D.mv (.ins c l) = false := rfl
theorem mv_fin (c : Nat) (l : List D) : D.mv (.fin c l) = false := rfl
theorem mv_mvd : D.mv .mvd = true := rfl
theorem isLst_non  : isLst (.non) = false := rfl
theorem isLst_bl (b : Bool) : isLst (.bl b) = false := rfl
theorem isLst_int (i : Int) : isLst (.int i) = false := rfl
theorem isLst_str (x : Str) : isLst (.str x) = false := rfl
theorem isLst_fn (n : Nat) : isLst (.fn n) = false := rfl
theorem isLst_tup (l : List D) : isLst (.tup l) = false := rfl
theorem isLst_lst (l : List D) : isLst (.lst l) = true := rfl
theorem isLst_fls (l : List D) : isLst (.fls l) = false := rfl
theorem isLst_dct (k : List Key) (l : List D) : isLst (.dct k l) = false := rfl
theorem isLst_fdc (k : List Key) (l : List D) : isLst (.fdc k l) = false := rfl
theorem isLst_ins (c : Nat) (l : List D) : isLst (.ins c l) = false := rfl
theorem isLst_fin (c : Nat) (l : List D) : isLst (.fin c l) = false := rfl
theorem isStr_non  : isStr (.non) = false := rfl
theorem isStr_bl (b : Bool) : isStr (.bl b) = false := rfl
theorem isStr_int (i : Int) : isStr (.int i) = false := rfl
theorem isStr_str (x : Str) : isStr (.str x) = true := rfl
theorem isStr_fn (n : Nat) : isStr (.fn n) = false := rfl
theorem isStr_tup (l : List D) : isStr (.tup l) = false := rfl
theorem isStr_lst (l : List D) : isStr (.lst l) = false := rfl
theorem isStr_fls (l : List D) : isStr (.fls l) = false := rfl
theorem isStr_dct (k : List Key) (l : List D) : isStr (.dct k l) = false := rfl
theorem isStr_fdc (k : List Key) (l : List D) : isStr (.fdc k l) = false := rfl
theorem isStr_ins (c : Nat) (l : List D) : isStr (.ins c l) = false := rfl
theorem isStr_fin (c : Nat) (l : List D) : isStr (.fin c l) = false := rfl
theorem isDct_non  : isDct (.non) = false := rfl
theorem isDct_bl (b : Bool) : isDct (.bl b) = false := rfl
theorem isDct_int (i : Int) : isDct (.int i) = false := rfl
theorem isDct_str (x : Str) : isDct (.str x) = false := rfl
theorem isDct_fn (n : Nat) : isDct (.fn n) = false := rfl
theorem isDct_tup (l : List D) : isDct (.tup l) = false := rfl
theorem isDct_lst (l : List D) : isDct (.lst l) = false := rfl
theorem isDct_fls (l : List D) : isDct (.fls l) = false := rfl
theorem isDct_dct (k : List Key) (l : List D) : isDct (.dct k l) = true := rfl
theorem isDct_fdc (k : List Key) (l : List D) : isDct (.fdc k l) = true := rfl
theorem isDct_ins (c : Nat) (l : List D) : isDct (.ins c l) = false := rfl
theorem isDct_fin (c : Nat) (l : List D) : isDct (.fin c l) = false := rfl
theorem gLen_tup (l : List D) : gLen (.tup l) = some (.int (l.length : Nat)) := rfl
theorem gLen_lst (l : List D) : gLen (.lst l) = some (.int (l.length : Nat)) := rfl
theorem gLen_fls (l : List D) : gLen (.fls l) = some (.int (l.length : Nat)) := rfl
theorem gLen_str (z : Str) : gLen (.str z) = if szo z.length then some (.int (z.length : Nat)) else none := rfl
theorem gLen_dct (k : List Key) (l : List D) : gLen (.dct k l) = some (.int (k.length : Nat)) := rfl
theorem gLen_fdc (k : List Key) (l : List D) : gLen (.fdc k l) = some (.int (k.length : Nat)) := rfl
theorem gInt_int (i : Int) : gInt (.int i) = some (.int i) := rfl
theorem gInt_bl (b : Bool) : gInt (.bl b) = some (.int (if b then 1 else 0)) := rfl
theorem g1_ok (g : D → Option D) (d : D) : g1 g [d] = g d := rfl
theorem g2_ok (g : D → D → Option D) (d e : D) : g2 g [d, e] = g d e := rfl
/-! ### sizes of written numbers -/
theorem nb4611686018427387903_0 : nb 4611686018427387903 0 = true := rfl
theorem nb4611686018427387903_1 : nb 4611686018427387903 1 = true := rfl
theorem nb4611686018427387903_2 : nb 4611686018427387903 2 = true := rfl
theorem nb4611686018427387903_3 : nb 4611686018427387903 3 = true := rfl
theorem nb4611686018427387903_4 : nb 4611686018427387903 4 = true := rfl
theorem nb4611686018427387903_5 : nb 4611686018427387903 5 = true := rfl
theorem nb4611686018427387903_6 : nb 4611686018427387903 6 = true := rfl
theorem nb4611686018427387903_7 : nb 4611686018427387903 7 = true := rfl
theorem nb4611686018427387903_8 : nb 4611686018427387903 8 = true := rfl
theorem nb4611686018427387903_9 : nb 4611686018427387903 9 = true := rfl
theorem nb4611686018427387903_10 : nb 4611686018427387903 10 = true := rfl
theorem nb4611686018427387903_11 : nb 4611686018427387903 11 = true := rfl
theorem nb4611686018427387903_12 : nb 4611686018427387903 12 = true := rfl
theorem nb4611686018427387903_13 : nb 4611686018427387903 13 = true := rfl
theorem nb4611686018427387903_18 : nb 4611686018427387903 18 = true := rfl
theorem nb4611686018427387903_20 : nb 4611686018427387903 20 = true := rfl
theorem nb4611686018427387903_25 : nb 4611686018427387903 25 = true := rfl
theorem nb4611686018427387903_40 : nb 4611686018427387903 40 = true := rfl
theorem nb4611686018427387903_60 : nb 4611686018427387903 60 = true := rfl
theorem nb4611686018427387903_99 : nb 4611686018427387903 99 = true := rfl
theorem nb4611686018427387903_48271 : nb 4611686018427387903 48271 = true := rfl
theorem nb4611686018427387903_2147483647 : nb 4611686018427387903 2147483647 = true := rfl
theorem nb18446744073709551615_0 : nb 18446744073709551615 0 = true := rfl
theorem nb18446744073709551615_1 : nb 18446744073709551615 1 = true := rfl
theorem nb18446744073709551615_2 : nb 18446744073709551615 2 = true := rfl
theorem nb18446744073709551615_3 : nb 18446744073709551615 3 = true := rfl
theorem nb18446744073709551615_4 : nb 18446744073709551615 4 = true := rfl
theorem nb18446744073709551615_5 : nb 18446744073709551615 5 = true := rfl
theorem nb18446744073709551615_6 : nb 18446744073709551615 6 = true := rfl
theorem nb18446744073709551615_7 : nb 18446744073709551615 7 = true := rfl
theorem nb18446744073709551615_8 : nb 18446744073709551615 8 = true := rfl
theorem nb18446744073709551615_9 : nb 18446744073709551615 9 = true := rfl
theorem nb18446744073709551615_10 : nb 18446744073709551615 10 = true := rfl
theorem nb18446744073709551615_11 : nb 18446744073709551615 11 = true := rfl
theorem nb18446744073709551615_12 : nb 18446744073709551615 12 = true := rfl
theorem nb18446744073709551615_13 : nb 18446744073709551615 13 = true := rfl
theorem nb18446744073709551615_18 : nb 18446744073709551615 18 = true := rfl
theorem nb18446744073709551615_20 : nb 18446744073709551615 20 = true := rfl
theorem nb18446744073709551615_25 : nb 18446744073709551615 25 = true := rfl
theorem nb18446744073709551615_40 : nb 18446744073709551615 40 = true := rfl
theorem nb18446744073709551615_60 : nb 18446744073709551615 60 = true := rfl
theorem nb18446744073709551615_99 : nb 18446744073709551615 99 = true := rfl
theorem nb18446744073709551615_48271 : nb 18446744073709551615 48271 = true := rfl
theorem nb18446744073709551615_2147483647 : nb 18446744073709551615 2147483647 = true := rfl
theorem nb1073741823_0 : nb 1073741823 0 = true := rfl
theorem nb1073741823_1 : nb 1073741823 1 = true := rfl
theorem nb1073741823_2 : nb 1073741823 2 = true := rfl
theorem nb1073741823_3 : nb 1073741823 3 = true := rfl
theorem nb1073741823_4 : nb 1073741823 4 = true := rfl
theorem nb1073741823_5 : nb 1073741823 5 = true := rfl
theorem nb1073741823_6 : nb 1073741823 6 = true := rfl
theorem nb1073741823_7 : nb 1073741823 7 = true := rfl
theorem nb1073741823_8 : nb 1073741823 8 = true := rfl
theorem nb1073741823_9 : nb 1073741823 9 = true := rfl
theorem nb1073741823_10 : nb 1073741823 10 = true := rfl
theorem nb1073741823_11 : nb 1073741823 11 = true := rfl
theorem nb1073741823_12 : nb 1073741823 12 = true := rfl
theorem nb1073741823_13 : nb 1073741823 13 = true := rfl
theorem nb1073741823_18 : nb 1073741823 18 = true := rfl
theorem nb1073741823_20 : nb 1073741823 20 = true := rfl
theorem nb1073741823_25 : nb 1073741823 25 = true := rfl
theorem nb1073741823_40 : nb 1073741823 40 = true := rfl
theorem nb1073741823_60 : nb 1073741823 60 = true := rfl
theorem nb1073741823_99 : nb 1073741823 99 = true := rfl
theorem nb1000000_0 : nb 1000000 0 = true := rfl
theorem nb1000000_1 : nb 1000000 1 = true := rfl
theorem nb1000000_2 : nb 1000000 2 = true := rfl
theorem nb1000000_3 : nb 1000000 3 = true := rfl
theorem nb1000000_4 : nb 1000000 4 = true := rfl
theorem nb1000000_5 : nb 1000000 5 = true := rfl
theorem nb1000000_6 : nb 1000000 6 = true := rfl
theorem nb1000000_7 : nb 1000000 7 = true := rfl
theorem nb1000000_8 : nb 1000000 8 = true := rfl
theorem nb1000000_9 : nb 1000000 9 = true := rfl
theorem nb1000000_10 : nb 1000000 10 = true := rfl
theorem nb1000000_11 : nb 1000000 11 = true := rfl
theorem nb1000000_12 : nb 1000000 12 = true := rfl
theorem nb1000000_13 : nb 1000000 13 = true := rfl
theorem nb1000000_18 : nb 1000000 18 = true := rfl
theorem nb1000000_20 : nb 1000000 20 = true := rfl
theorem nb1000000_25 : nb 1000000 25 = true := rfl
theorem nb1000000_40 : nb 1000000 40 = true := rfl
theorem nb1000000_60 : nb 1000000 60 = true := rfl
theorem nb1000000_99 : nb 1000000 99 = true := rfl
theorem nb_small {n : Nat} {i : Int} {k : Nat} (h0 : 0 ≤ i) (h : i ≤ (k : Int)) (hk : k ≤ n) : nb n i = true := nb_ok (by omega)
end OL

/-! The plain layer, 7: errors that pass, two ways, what is frozen, try, insert. -/
namespace OL
open PySem PySem.Spec PyProof.Rows L2
theorem st1_exc (k : D → Option D) (x9 : Nat) (d9 : List D) (e9 : Env) : st1 (.exc x9 d9 e9) k = .exc x9 d9 e9 := rfl
theorem st2_exc (fb : SE) (g : D → D → Option D) (x9 : Nat) (d9 : List D) (e9 : Env) : st2 (.exc x9 d9 e9) fb g = .exc x9 d9 e9 := rfl
theorem st2a_exc (ra : R) (t1 : Bool) (g : D → D → Option D) (x9 : Nat) (d9 : List D) (e9 : Env) : st2a ra t1 (.exc x9 d9 e9) g = .exc x9 d9 e9 := rfl
theorem stC_exc (fs : SA) (x9 : Nat) (d9 : List D) (e9 : Env) : stC (.exc x9 d9 e9) fs = .exc x9 d9 e9 := rfl
theorem stCa_exc (ra : R) (t1 : Bool) (x9 : Nat) (d9 : List D) (e9 : Env) : stCa ra t1 (.exc x9 d9 e9) = .exc x9 d9 e9 := rfl
theorem stN_exc (k : List D → Option D) (x9 : Nat) (d9 : List D) (e9 : Env) : stN (.exc x9 d9 e9) k = .exc x9 d9 e9 := rfl
theorem stB_exc  (x9 : Nat) (d9 : List D) (e9 : Env) : stB (.exc x9 d9 e9) = .exc x9 d9 e9 := rfl
theorem stAnd_exc (b : SB) (x9 : Nat) (d9 : List D) (e9 : Env) : stAnd (.exc x9 d9 e9) b = .exc x9 d9 e9 := rfl
theorem stOr_exc (b : SB) (x9 : Nat) (d9 : List D) (e9 : Env) : stOr (.exc x9 d9 e9) b = .exc x9 d9 e9 := rfl
theorem stNot_exc  (x9 : Nat) (d9 : List D) (e9 : Env) : stNot (.exc x9 d9 e9) = .exc x9 d9 e9 := rfl
theorem stFB_exc  (x9 : Nat) (d9 : List D) (e9 : Env) : stFB (.exc x9 d9 e9) = .exc x9 d9 e9 := rfl
theorem stIte_exc (fa fb : SE) (x9 : Nat) (d9 : List D) (e9 : Env) : stIte (.exc x9 d9 e9) fa fb = .exc x9 d9 e9 := rfl
theorem stF_exc (np : Nat) (F : FS) (dd : List D) (x9 : Nat) (d9 : List D) (e9 : Env) : stF np F dd (.exc x9 d9 e9) = .exc x9 d9 e9 := rfl
theorem stL1_exc (c : Nat) (fs : SA) (x9 : Nat) (d9 : List D) (e9 : Env) : stL1 c (.exc x9 d9 e9) fs = .exc x9 d9 e9 := rfl
theorem stFl_exc (c j : Nat) (x9 : Nat) (d9 : List D) (e9 : Env) : stFl c j (.exc x9 d9 e9) = .exc x9 d9 e9 := rfl
theorem stP_exc (c : Nat) (F : FS) (x9 : Nat) (d9 : List D) (e9 : Env) : stP c F (.exc x9 d9 e9) = .exc x9 d9 e9 := rfl
theorem stM_exc (c nf np : Nat) (z : Bool) (F : FS) (dd : List D) (x9 : Nat) (d9 : List D) (e9 : Env) : stM c nf np z F dd (.exc x9 d9 e9) = .exc x9 d9 e9 := rfl
theorem stD_exc (k : List D → D) (x9 : Nat) (d9 : List D) (e9 : Env) : stD k (.exc x9 d9 e9) = .exc x9 d9 e9 := rfl
theorem stQ_exc (ks : List Key) (x9 : Nat) (d9 : List D) (e9 : Env) : stQ ks (.exc x9 d9 e9) = .exc x9 d9 e9 := rfl
theorem stI_exc (fb : SE) (x9 : Nat) (d9 : List D) (e9 : Env) : stI (.exc x9 d9 e9) fb = .exc x9 d9 e9 := rfl
theorem stIa_exc (ra : R) (t1 : Bool) (x9 : Nat) (d9 : List D) (e9 : Env) : stIa ra t1 (.exc x9 d9 e9) = .exc x9 d9 e9 := rfl
theorem stSl_exc (fl fh : SO) (x9 : Nat) (d9 : List D) (e9 : Env) : stSl (.exc x9 d9 e9) fl fh = .exc x9 d9 e9 := rfl
theorem stSla_exc (ra : R) (t1 : Bool) (fh : SO) (x9 : Nat) (d9 : List D) (e9 : Env) : stSla ra t1 (.exc x9 d9 e9) fh = .exc x9 d9 e9 := rfl
theorem stSlb_exc (ra : R) (t1 : Bool) (l : Option Int) (t2 : Bool) (x9 : Nat) (d9 : List D) (e9 : Env) : stSlb ra t1 l t2 (.exc x9 d9 e9) = .exc x9 d9 e9 := rfl
theorem stO_exc  (x9 : Nat) (d9 : List D) (e9 : Env) : stO (.exc x9 d9 e9) = .exc x9 d9 e9 := rfl
theorem stU_exc (ty : D → Bool) (k : D → List D → Option (D × D)) (fs : SA) (x9 : Nat) (d9 : List D) (e9 : Env) : stU ty k fs (.exc x9 d9 e9) = .exc x9 d9 e9 := rfl
theorem stUa_exc (i : Nat) (p : List Pj) (k : D → List D → Option (D × D)) (x9 : Nat) (d9 : List D) (e9 : Env) : stUa i p k (.exc x9 d9 e9) = .exc x9 d9 e9 := rfl
theorem stY_exc (fo fi : SE) (x9 : Nat) (d9 : List D) (e9 : Env) : stY fo fi (.exc x9 d9 e9) = .exc x9 d9 e9 := rfl
theorem stYa_exc (d : D) (e1 : Env) (fi : SE) (x9 : Nat) (d9 : List D) (e9 : Env) : stYa d e1 (.exc x9 d9 e9) fi = .exc x9 d9 e9 := rfl
theorem stYb_exc (d : D) (e1 : Env) (i : Nat) (p : List Pj) (x9 : Nat) (d9 : List D) (e9 : Env) : stYb d e1 i p (.exc x9 d9 e9) = .exc x9 d9 e9 := rfl
theorem stG_exc (c j i : Nat) (op : Int → Int → Int) (ds : List D) (a : Int) (x9 : Nat) (d9 : List D) (e9 : Env) : stG c j i op ds a (.exc x9 d9 e9) = .exc x9 d9 e9 := rfl
theorem stW_exc (i j : Nat) (x9 : Nat) (d9 : List D) (e9 : Env) : stW i j (.exc x9 d9 e9) = .exc x9 d9 e9 := rfl
theorem stT_exc (f : Str → SS) (x9 : Nat) (d9 : List D) (e9 : Env) : stT f (.exc x9 d9 e9) = .exc x9 d9 e9 := rfl
theorem stV_exc (ty : D → Bool) (k : D → List D → Option D) (fs : SA) (x9 : Nat) (d9 : List D) (e9 : Env) : stV ty k fs (.exc x9 d9 e9) = .exc x9 d9 e9 := rfl
theorem stVa_exc (k : D → List D → Option D) (ro : R) (t1 : Bool) (x9 : Nat) (d9 : List D) (e9 : Env) : stVa k ro t1 (.exc x9 d9 e9) = .exc x9 d9 e9 := rfl
theorem stH_exc (fk fz : SE) (x9 : Nat) (d9 : List D) (e9 : Env) : stH fk fz (.exc x9 d9 e9) = .exc x9 d9 e9 := rfl
theorem stLp_exc (fx' : Nat → Bool) (g : GT) (b : SS) (x9 : Nat) (d9 : List D) (e9 : Env) : stLp fx' g b (.exc x9 d9 e9) = .exc x9 d9 e9 := rfl
theorem siA_exc  (x9 : Nat) (d9 : List D) (e9 : Env) : siA (.exc x9 d9 e9) = .exc x9 d9 e9 := rfl
theorem stHa_exc (fz : SE) (ro : R) (t1 : Bool) (x9 : Nat) (d9 : List D) (e9 : Env) : stHa fz ro t1 (.exc x9 d9 e9) = .exc x9 d9 e9 := rfl
theorem stHb_exc (ro rk : R) (t1 : Bool) (x9 : Nat) (d9 : List D) (e9 : Env) : stHb ro rk t1 (.exc x9 d9 e9) = .exc x9 d9 e9 := rfl
theorem stK_exc (g g' : D → D → Option D) (fb fc : SE) (x9 : Nat) (d9 : List D) (e9 : Env) : stK g g' fb fc (.exc x9 d9 e9) = .exc x9 d9 e9 := rfl
theorem stKa_exc (g g' : D → D → Option D) (fc : SE) (ra : R) (x9 : Nat) (d9 : List D) (e9 : Env) : stKa g g' fc ra (.exc x9 d9 e9) = .exc x9 d9 e9 := rfl
theorem stKc_exc (g' : D → D → Option D) (db : D) (x9 : Nat) (d9 : List D) (e9 : Env) : stKc g' db (.exc x9 d9 e9) = .exc x9 d9 e9 := rfl
theorem siB_exc  (x9 : Nat) (d9 : List D) (e9 : Env) : siB (.exc x9 d9 e9) = .exc x9 d9 e9 := rfl
theorem siC_exc  (x9 : Nat) (d9 : List D) (e9 : Env) : siC (.exc x9 d9 e9) = .exc x9 d9 e9 := rfl
theorem siE_exc  (x9 : Nat) (d9 : List D) (e9 : Env) : siE (.exc x9 d9 e9) = .exc x9 d9 e9 := rfl
theorem siF_exc  (x9 : Nat) (d9 : List D) (e9 : Env) : siF (.exc x9 d9 e9) = .exc x9 d9 e9 := rfl
theorem siG_exc  (x9 : Nat) (d9 : List D) (e9 : Env) : siG (.exc x9 d9 e9) = .exc x9 d9 e9 := rfl
theorem stCm_exc (own : List Nat) (g : GT) (b : SB) (fe : SE) (x9 : Nat) (d9 : List D) (e9 : Env) : stCm own g b fe (.exc x9 d9 e9) = .exc x9 d9 e9 := rfl
theorem stDm_exc (own : List Nat) (g : GT) (b : SB) (fk fe : SE) (x9 : Nat) (d9 : List D) (e9 : Env) : stDm own g b fk fe (.exc x9 d9 e9) = .exc x9 d9 e9 := rfl

def orI (b : O (List D × Option (Nat × D))) : O (List D × Option (Nat × D)) → O (List D × Option (Nat × D))
  | .bad => b
  | o => o
theorem ev_sior (a b : SI) (e : Env) : siOr a b e = orI (b e) (a e) := by
  show (match a e with
    | .bad => b e
    | o => o) = _
  cases a e <;> rfl
theorem orI_ok (b : O (List D × Option (Nat × D))) (x : List D × Option (Nat × D)) (e : Env) (t : Bool) : orI b (.ok x e t) = .ok x e t := rfl
theorem orI_bad (b : O (List D × Option (Nat × D))) : orI b .bad = b := rfl
theorem siE_lst (ds : List D) (e : Env) (t : Bool) : siE (.ok [.val (.lst ds)] e t) = .bad := rfl
theorem siE_fls (ds : List D) (e : Env) (t : Bool) : siE (.ok [.val (.fls ds)] e t) = .bad := rfl
theorem siE_plc (i : Nat) (p : List Pj) (e : Env) (t : Bool) : siE (.ok [.plc i p] e t) = .bad := rfl
def orE (b : O R) : O R → O R
  | .bad => b
  | o => o
theorem ev_or2 (a b : SE) (e : Env) : fOr a b e = orE (b e) (a e) := by
  show (match a e with
    | .bad => b e
    | o => o) = _
  cases a e <;> rfl
theorem orE_ok (b : O R) (x : R) (e : Env) (t : Bool) : orE b (.ok x e t) = .ok x e t := rfl
theorem orE_bad (b : O R) : orE b .bad = b := rfl
def siY (o : O R) : O (List D × Option (Nat × D)) := o.bind fun r e t => match r with
  | .val (.lst ds) => .ok (ds, none) e t
  | .val (.fls ds) => .ok (ds, none) e t
  | .val (.tup ds) => if stL ds then .ok (ds, none) e t else .bad
  | .plc i [] => match e[i]? with
    | some (.lst ds) => if stL ds then .ok (ds, some (i, .lst ds)) (e.set i .mvd) true else .bad
    | _ => .bad
  | _ => .bad
theorem ev_siany (fo : SE) (env : Env) : siAny fo env = siY (fo env) := rfl
theorem siY_exc (x : Nat) (ds : List D) (e : Env) : siY (.exc x ds e) = .exc x ds e := rfl
theorem siY_lst (ds : List D) (e : Env) (t : Bool) : siY (.ok (.val (.lst ds)) e t) = .ok (ds, none) e t := rfl
theorem siY_fls (ds : List D) (e : Env) (t : Bool) : siY (.ok (.val (.fls ds)) e t) = .ok (ds, none) e t := rfl
theorem siY_tup (ds : List D) (e : Env) (t : Bool) : siY (.ok (.val (.tup ds)) e t) = ifT .bad (stL ds) (.ok (ds, none) e t) := rfl
theorem siY_plc (i : Nat) (e : Env) (t : Bool) : siY (.ok (.plc i []) e t) = asLst .bad (fun ds => ifT .bad (stL ds) (.ok (ds, some (i, .lst ds)) (e.set i .mvd) true)) e[i]? := by
  show (match e[i]? with
    | some (.lst ds) => if stL ds then O.ok (ds, some (i, D.lst ds)) (e.set i .mvd) true else O.bad
    | _ => O.bad) = _
  cases e[i]? with
  | none => rfl
  | some d => cases d <;> rfl
/-! frozen -/
def stFz (o : O R) : O R := o.bind fun r e t => match r with
  | .val d => .ok (.val d.fz) e true
  | .plc _ _ => .bad
theorem ev_frz (fa : SE) (env : Env) : fFrz fa env = stFz (fa env) := rfl
theorem stFz_exc (x : Nat) (ds : List D) (e : Env) : stFz (.exc x ds e) = .exc x ds e := rfl
theorem stFz_ok (d : D) (e : Env) (t : Bool) : stFz (.ok (.val d) e t) = .ok (.val d.fz) e true := rfl
def fzS (i : Nat) : O Fl → O Fl
  | .ok .nx e _ => (match e[i]? with
    | some d => if d.mv then .bad else .ok .nx (e.set i d.fz) true
    | none => .bad)
  | o => o
theorem ev_sfz (s : SS) (i : Nat) (env : Env) : sFz s i env = fzS i (s env) := by
  unfold sFz fzS
  cases s env with
  | ok f e t => cases f <;> rfl
  | bad => rfl
  | exc => rfl
theorem fzS_nx (i : Nat) (e : Env) (t : Bool) : fzS i (.ok .nx e t) = asSome .bad (fun d => ifT .bad (!d.mv) (.ok .nx (e.set i d.fz) true)) e[i]? := by
  show (match e[i]? with
    | some d => if d.mv then O.bad else O.ok Fl.nx (e.set i d.fz) true
    | none => .bad) = _
  cases e[i]? with
  | none => rfl
  | some d =>
    show (if d.mv then O.bad else O.ok Fl.nx (e.set i d.fz) true) = ifT .bad (!d.mv) _
    cases d.mv <;> rfl
theorem fzS_exc (i x : Nat) (ds : List D) (e : Env) : fzS i (.exc x ds e) = .exc x ds e := rfl
/-! insert -/
theorem kInsert_ok (xs : List D) (i : Int) (d : D) : kInsert (.lst xs) [.int i, d] = if szo xs.length && (decide (0 ≤ i) && decide (i ≤ 1000000)) then some (.non, .lst (xs.take i.toNat ++ [d] ++ xs.drop i.toNat)) else none := rfl
/-! raise, try -/
def rsB (c : Nat) : Option (List D × Env) → O Fl
  | some ([d], e2) => .exc c [d] e2
  | _ => .bad
def rsA (c : Nat) (o : O (List R)) : O Fl := o.bind fun rs e1 _ => rsB c (tkA rs e1)
theorem ev_rs (c : Nat) (fs : SA) (env : Env) : sRs c fs env = rsA c (fs env) := by
  show (fs env).bind _ = _
  unfold rsA
  congr 1
theorem rsA_ok (c : Nat) (rs : List R) (e : Env) (t : Bool) : rsA c (.ok rs e t) = rsB c (tkA rs e) := rfl
theorem rsA_exc (c x : Nat) (ds : List D) (e : Env) : rsA c (.exc x ds e) = .exc x ds e := rfl
theorem rsB_ok (c : Nat) (d : D) (e : Env) : rsB c (some ([d], e)) = .exc c [d] e := rfl
def tryB (n i : Nat) : O Fl → O Fl
  | .ok .nx e2 _ => ifT .bad (nt3 n (e2.set i .mvd)) (.ok .nx (e2.set i .mvd) true)
  | .ok .bk e2 _ => ifT .bad (nt3 n (e2.set i .mvd)) (.ok .bk (e2.set i .mvd) true)
  | .ok .ct e2 _ => ifT .bad (nt3 n (e2.set i .mvd)) (.ok .ct (e2.set i .mvd) true)
  | .ok (.rt d) e2 _ => ifT .bad (nt3 n [d] && nt3 n e2) (.ok (.rt d) e2 true)
  | _ => .bad
def tryC (n i c : Nat) (no : List Nat) (fs : SS) (x : Nat) (ds : List D) (e : Env) : O Fl :=
  if x = c then ifT .bad (decide (i < e.length) && (nt3 n (e.set i .mvd) && nt3 n (fzL ds))) (tryB n i (fs (e.set i (.exo n c (fzL ds))))) else if no.contains x then .exc x ds e else .bad
def tryA (n i c : Nat) (no : List Nat) (fs : SS) : O Fl → O Fl
  | .exc x ds e => tryC n i c no fs x ds e
  | o => o
theorem ev_try (n i c : Nat) (no : List Nat) (fb fs : SS) (env : Env) : sTry n i c no fb fs env = tryA n i c no fs (fb env) := by
  unfold sTry
  cases fb env with
  | ok f e t => rfl
  | bad => rfl
  | exc x ds e =>
    show (if x = c then _ else _) = tryC n i c no fs x ds e
    unfold tryC
    by_cases h : x = c
    · rw [if_pos h, if_pos h]
      by_cases h2 : i < e.length ∧ nt3 n (e.set i .mvd) = true ∧ nt3 n (fzL ds) = true
      · rw [if_pos h2, show (decide (i < e.length) && (nt3 n (e.set i .mvd) && nt3 n (fzL ds))) = true by rw [decide_eq_true h2.1, h2.2.1, h2.2.2]; rfl, ifT_t]
        cases fs (e.set i (.exo n c (fzL ds))) with
        | bad => rfl
        | exc => rfl
        | ok f e2 t => cases f <;> rfl
      · rw [if_neg h2]
        cases hb : (decide (i < e.length) && (nt3 n (e.set i .mvd) && nt3 n (fzL ds))) with
        | false => rfl
        | true =>
          simp only [Bool.and_eq_true, decide_eq_true_eq] at hb
          exact absurd hb h2
    · rw [if_neg h, if_neg h]
theorem tryA_ok (n i c : Nat) (no : List Nat) (fs : SS) (f : Fl) (e : Env) (t : Bool) : tryA n i c no fs (.ok f e t) = .ok f e t := rfl
theorem tryA_exc (n i c : Nat) (no : List Nat) (fs : SS) (x : Nat) (ds : List D) (e : Env) : tryA n i c no fs (.exc x ds e) = tryC n i c no fs x ds e := rfl
theorem tryC_yes (n i c : Nat) (no : List Nat) (fs : SS) (ds : List D) (e : Env) : tryC n i c no fs c ds e = ifT .bad (decide (i < e.length) && (nt3 n (e.set i .mvd) && nt3 n (fzL ds))) (tryB n i (fs (e.set i (.exo n c (fzL ds))))) := by
  unfold tryC
  rw [if_pos rfl]
theorem tryB_nx (n i : Nat) (e2 : Env) (t : Bool) : tryB n i (.ok .nx e2 t) = ifT .bad (nt3 n (e2.set i .mvd)) (.ok .nx (e2.set i .mvd) true) := rfl
theorem tryB_ct (n i : Nat) (e2 : Env) (t : Bool) : tryB n i (.ok .ct e2 t) = ifT .bad (nt3 n (e2.set i .mvd)) (.ok .ct (e2.set i .mvd) true) := rfl
theorem tryB_bk (n i : Nat) (e2 : Env) (t : Bool) : tryB n i (.ok .bk e2 t) = ifT .bad (nt3 n (e2.set i .mvd)) (.ok .bk (e2.set i .mvd) true) := rfl
theorem tryB_rt (n i : Nat) (d : D) (e2 : Env) (t : Bool) : tryB n i (.ok (.rt d) e2 t) = ifT .bad (nt3 n [d] && nt3 n e2) (.ok (.rt d) e2 true) := rfl
theorem nt3_eq (n : Nat) (l : List D) : nt3 n l = (ntL n l && (ntL (n + 1) l && ntL (n + 2) l)) := rfl
theorem ntL_nil (m : Nat) : ntL m [] = true := rfl
theorem ntL_cons (m : Nat) (d : D) (l : List D) : ntL m (d :: l) = (d.nt m && ntL m l) := rfl
theorem nt_non (m : Nat) : D.nt m .non = true := rfl
theorem nt_bl (m : Nat) (b : Bool) : D.nt m (.bl b) = true := rfl
theorem nt_int (m : Nat) (i : Int) : D.nt m (.int i) = true := rfl
theorem nt_str (m : Nat) (x : Str) : D.nt m (.str x) = true := rfl
theorem nt_tup (m : Nat) (l : List D) : D.nt m (.tup l) = ntL m l := rfl
theorem nt_lst (m : Nat) (l : List D) : D.nt m (.lst l) = ntL m l := rfl
theorem nt_fls (m : Nat) (l : List D) : D.nt m (.fls l) = ntL m l := rfl
theorem nt_dct (m : Nat) (k : List Key) (l : List D) : D.nt m (.dct k l) = ntL m l := rfl
theorem nt_fdc (m : Nat) (k : List Key) (l : List D) : D.nt m (.fdc k l) = ntL m l := rfl
theorem nt_ins (m c : Nat) (l : List D) : D.nt m (.ins c l) = ntL m l := rfl
theorem nt_fin (m c : Nat) (l : List D) : D.nt m (.fin c l) = ntL m l := rfl
theorem nt_mvd (m : Nat) : D.nt m .mvd = true := rfl
def xfA (n c j : Nat) (o : O R) : O R := o.bind fun r e t => match r with
  | .val (.exo m c' ds) => if m = n ∧ c' = c then (match ds[j]? with
    | some d => if d.mv then .bad else .ok (.val d) e t
    | none => .bad) else .bad
  | _ => .bad
theorem ev_xf (n c j : Nat) (fo : SE) (env : Env) : fXf n c j fo env = xfA n c j (fo env) := rfl
theorem xfA_ok (n c j : Nat) (ds : List D) (e : Env) (t : Bool) : xfA n c j (.ok (.val (.exo n c ds)) e t) = asSome .bad (fun d => ifT .bad (!d.mv) (.ok (.val d) e t)) ds[j]? := by
  show (if n = n ∧ c = c then (match ds[j]? with
    | some d => if d.mv then O.bad else O.ok (R.val d) e t
    | none => .bad) else .bad) = _
  rw [if_pos ⟨rfl, rfl⟩]
  cases ds[j]? with
  | none => rfl
  | some d =>
    show (if d.mv then O.bad else O.ok (R.val d) e t) = ifT .bad (!d.mv) _
    cases d.mv <;> rfl
theorem gIsX_ok (n c : Nat) (ds : List D) : gIsX n (.exo n c ds) = some (.bl true) := if_pos rfl
theorem mv_exo (n c : Nat) (ds : List D) : D.mv (.exo n c ds) = false := rfl
theorem st_exo (n c : Nat) (ds : List D) : D.st (.exo n c ds) = true := rfl
mutual
theorem fz_st : ∀ d : D, d.st = true → d.fz = d
  | .non, _ => rfl
  | .bl _, _ => rfl
  | .int _, _ => rfl
  | .str _, _ => rfl
  | .fn _, _ => rfl
  | .tup ds, h => by
    show D.tup (fzL ds) = _
    rw [fzL_st ds h]
  | .fls _, _ => rfl
  | .fdc _ _, _ => rfl
  | .fin _ _, _ => rfl
  | .exo _ _ _, _ => rfl
theorem fzL_st : ∀ ds : List D, stL ds = true → fzL ds = ds
  | [], _ => rfl
  | d :: ds, h => by
    have h' : (d.st && stL ds) = true := h
    rw [Bool.and_eq_true] at h'
    show d.fz :: fzL ds = d :: ds
    rw [fz_st d h'.1, fzL_st ds h'.2]
end
theorem fz_exo (n c : Nat) (ds : List D) : D.fz (.exo n c ds) = .exo n c ds := rfl
end OL

namespace CB
open PySem PySem.Spec PyProof.Rows L2 OL
def tLENGTHS : List (Str × D) := [("wall", .int 2), ("steady", .int 2), ("work", .int 2), ("print", .int 2), ("sort", .int 2), ("wait", .int 3), ("if", .int 4)]
def b__law_taken : SS :=
    (sThen (sIf (bVal (fTwo (fIx (fVar 0) (fC (.int 3))) (fC (.int 0)) gGt)) (sThen (sAsg (fTwo (fN (lCons (fIx (fVar 0) (fC (.int 3))) lNil) (g1 gInt)) (fVar 1) gMod) (gtName 2))
      (sThen (sSetIx (fTwo (fIx (fVar 0) (fC (.int 3))) (fVar 1) gFdiv) (fVar 0) (fC (.int 3)))
      (sRet (fVar 2)))) sNil)
    (sThen (sSetIx (fTwo (fIx (fVar 0) (fC (.int 1))) (fC (.int 1)) gAdd) (fVar 0) (fC (.int 1)))
    (sThen (sIf (bVal (fTwo (fIx (fVar 0) (fC (.int 1))) (fN (lCons (fIx (fVar 0) (fC (.int 0))) lNil) (g1 gLen)) gGt)) (sThen (sSetIx (fTwo (fN (lCons (fTwo (fTwo (fIx (fVar 0) (fC (.int 2))) (fC (.int 48271)) gMul) (fC (.int 11)) gAdd) lNil) (g1 gInt)) (fC (.int 2147483647)) gMod) (fVar 0) (fC (.int 2)))
      (sRet (fTwo (fN (lCons (fTwo (fIx (fVar 0) (fC (.int 2))) (fC (.int 7)) gFdiv) lNil) (g1 gInt)) (fVar 1) gMod))) sNil)
    (sThen (sAsg (fIx (fIx (fVar 0) (fC (.int 0))) (fTwo (fIx (fVar 0) (fC (.int 1))) (fC (.int 1)) gMinus)) (gtName 3))
    (sThen (sSetIx (fTwo (fN (lCons (fTwo (fTwo (fTwo (fIx (fVar 0) (fC (.int 2))) (fC (.int 48271)) gMul) (fVar 3) gAdd) (fC (.int 11)) gAdd) lNil) (g1 gInt)) (fC (.int 2147483647)) gMod) (fVar 0) (fC (.int 2)))
    (sThen (sIf (bVal (fTwo (fVar 3) (fTwo (fC (.int 10)) (fC (.int 18)) gPow) gGe)) (sSetIx (fTwo (fVar 3) (fVar 1) gFdiv) (fVar 0) (fC (.int 3))) sNil)
    (sRet (fTwo (fN (lCons (fVar 3) lNil) (g1 gInt)) (fVar 1) gMod))))))))
def F__law_taken : FS := semOf (fxP [0, 1]) 2 4 b__law_taken
def lp__law_history_0 : SS :=
    (sThen (sAsg (fTwo (fTwo (fVar 3) (fC (.int 1)) gAdd) (fApp 2 F__law_taken (lCons (fVar 0) (lCons (fC (.int 3)) lNil)) []) gAdd) (gtName 3))
      (sThen (sAsg (fTwo (fC (.int 1)) (fApp 2 F__law_taken (lCons (fVar 0) (lCons (fIx (fDsp .lst (lCons (fC (.int 3)) (lCons (fC (.int 9)) lNil))) (fApp 2 F__law_taken (lCons (fVar 0) (lCons (fC (.int 2)) lNil)) [])) lNil)) []) gAdd) (gtName 5))
      (sExpr (fMut isLst kAppend (fVar 2) (lCons (fDsp .tup (lCons (fVar 3) (lCons (fIx (fDsp .lst (lCons (fVar 5) (lCons (fTwo (fC (.int 0)) (fVar 5) gMinus) lNil))) (fApp 2 F__law_taken (lCons (fVar 0) (lCons (fC (.int 2)) lNil)) [])) lNil))) lNil)))))
theorem ap_lp__law_history_0 (env : OL.Env) : lp__law_history_0 env =
    (sThen (sAsg (fTwo (fTwo (fVar 3) (fC (.int 1)) gAdd) (fApp 2 F__law_taken (lCons (fVar 0) (lCons (fC (.int 3)) lNil)) []) gAdd) (gtName 3))
      (sThen (sAsg (fTwo (fC (.int 1)) (fApp 2 F__law_taken (lCons (fVar 0) (lCons (fIx (fDsp .lst (lCons (fC (.int 3)) (lCons (fC (.int 9)) lNil))) (fApp 2 F__law_taken (lCons (fVar 0) (lCons (fC (.int 2)) lNil)) [])) lNil)) []) gAdd) (gtName 5))
      (sExpr (fMut isLst kAppend (fVar 2) (lCons (fDsp .tup (lCons (fVar 3) (lCons (fIx (fDsp .lst (lCons (fVar 5) (lCons (fTwo (fC (.int 0)) (fVar 5) gMinus) lNil))) (fApp 2 F__law_taken (lCons (fVar 0) (lCons (fC (.int 2)) lNil)) [])) lNil))) lNil))))) env := rfl
def b__law_history : SS :=
    (sThen (sPar 2 3 (lCons (fDsp .lst lNil) (lCons (fC (.int 0)) lNil)))
    (sThen (sFor (fxP [0, 1]) (siRng1 (lCons (fApp 2 F__law_taken (lCons (fVar 0) (lCons (fTwo (fVar 1) (fC (.int 1)) gAdd) lNil)) []) lNil)) (gtName 4) lp__law_history_0)
    (sRet (fVar 2))))
def F__law_history : FS := semOf (fxP [0, 1]) 2 6 b__law_history
def b_is_setting : SS :=
    (sThen (sIf (bOr (bNot (bVal (fOne (fVar 0) (gIsi "tuple")))) (bVal (fTwo (fN (lCons (fVar 0) lNil) (g1 gLen)) (fC (.int 2)) gNe))) (sRet (fC (.bl false))) sNil)
    (sThen (sIf (bNot (bVal (fN (lCons (fComp (siTup (fVar 0)) [2] (gtName 2) bYes (fB (bAnd (bVal (fOne (fVar 2) (gIsi "int"))) (bVal (fB (bNot (bVal (fOne (fVar 2) (gIsi "bool"))))))))) lNil) (g1 gAll)))) (sRet (fC (.bl false))) sNil)
    (sRet (fB (bAnd (bVal (fTwo (fIx (fVar 0) (fC (.int 0))) (fVar 1) gGt)) (bVal (fTwo (fIx (fVar 0) (fC (.int 1))) (fC (.int 0)) gNe)))))))
def F_is_setting : FS := semOf (fxP [0, 1]) 2 3 b_is_setting
def lp_check_history_0 : SS :=
    (sThen (sIf (bNot (bVal (fApp 2 F_is_setting (lCons (fVar 3) (lCons (fVar 1) lNil)) []))) (sRs 13 (lCons (fVar 2) lNil)) sNil)
      (sAsg (fIx (fVar 3) (fC (.int 0))) (gtName 1)))
theorem ap_lp_check_history_0 (env : OL.Env) : lp_check_history_0 env =
    (sThen (sIf (bNot (bVal (fApp 2 F_is_setting (lCons (fVar 3) (lCons (fVar 1) lNil)) []))) (sRs 13 (lCons (fVar 2) lNil)) sNil)
      (sAsg (fIx (fVar 3) (fC (.int 0))) (gtName 1))) env := rfl
def b_check_history : SS :=
    (sThen (sIf (bNot (bVal (fOne (fVar 0) (gIsi2 "list" "tuple")))) (sRs 13 (lCons (fC .non) lNil)) sNil)
    (sThen (sAsg (fC (.int 0)) (gtName 1))
    (sFor (fxL (fxP [0]) [0]) (siOr (siEnum (lCons (fVar 0) lNil)) (siEnumL (lCons (fVar 0) lNil))) (gtTup [(gtName 2), (gtName 3)]) lp_check_history_0)))
def F_check_history : FS := semOf (fxP [0]) 1 4 b_check_history
def b_reading : SS :=
    (sRet (fTwo (fVar 1) (fN (lCons (fComp (siAny (fVar 0)) [2, 3] (gtTup [(gtName 2), (gtName 3)]) (bVal (fTwo (fVar 2) (fVar 1) gLe)) (fVar 3)) lNil) (g1 gSum)) gAdd))
def F_reading : FS := semOf (fxP [0, 1]) 2 4 b_reading
def b_wall_at : SS :=
    (sThen (sExpr (fApp 1 F_check_history (lCons (fVar 0) lNil) []))
    (sRet (fApp 2 F_reading (lCons (fVar 0) (lCons (fVar 1) lNil)) [])))
def F_wall_at : FS := semOf (fxP [0, 1]) 2 2 b_wall_at
def b__law_shut : SS :=
    (sRet (fTwo (fVar 1) (fN (lCons (fComp (siList (fVar 0)) [2] (gtName 2) (bVal (fTwo (fIx (fVar 2) (fC (.int 0))) (fVar 1) gLe)) (fIx (fVar 2) (fC (.int 1)))) lNil) (g1 gSum)) gAdd))
def F__law_shut : FS := semOf (fxP [0, 1]) 2 3 b__law_shut
end CB

namespace CB
open PySem PySem.Spec PyProof.Rows L2 OL
def lp__law_due_0 : SS :=
    (sThen (sAsg (fIx (fVar 0) (fVar 2)) (gtName 3))
      (sThen (sIf (bOr (bNot (bVal (fOne (fVar 3) (gIsi "tuple")))) (bVal (fTwo (fN (lCons (fVar 3) lNil) (g1 gLen)) (fC (.int 2)) gNe))) (sRet (fDsp .lst (lCons (fVar 2) (lCons (fC (.bl true)) lNil)))) sNil)
      (sThen (sAsg (fComp (siTup (fVar 3)) [5] (gtName 5) (bOr (bNot (bVal (fOne (fVar 5) (gIsi "int")))) (bVal (fOne (fVar 5) (gIsi "bool")))) (fVar 5)) (gtName 4))
      (sThen (sIf (bOr (bVal (fTwo (fVar 4) (fDsp .lst lNil) gNe)) (bOr (bVal (fTwo (fIx (fVar 3) (fC (.int 0))) (fVar 1) gLe)) (bVal (fTwo (fIx (fVar 3) (fC (.int 1))) (fC (.int 0)) gEq)))) (sRet (fDsp .lst (lCons (fVar 2) (lCons (fC (.bl true)) lNil)))) sNil)
      (sAsg (fIx (fVar 3) (fC (.int 0))) (gtName 1))))))
theorem ap_lp__law_due_0 (env : OL.Env) : lp__law_due_0 env =
    (sThen (sAsg (fIx (fVar 0) (fVar 2)) (gtName 3))
      (sThen (sIf (bOr (bNot (bVal (fOne (fVar 3) (gIsi "tuple")))) (bVal (fTwo (fN (lCons (fVar 3) lNil) (g1 gLen)) (fC (.int 2)) gNe))) (sRet (fDsp .lst (lCons (fVar 2) (lCons (fC (.bl true)) lNil)))) sNil)
      (sThen (sAsg (fComp (siTup (fVar 3)) [5] (gtName 5) (bOr (bNot (bVal (fOne (fVar 5) (gIsi "int")))) (bVal (fOne (fVar 5) (gIsi "bool")))) (fVar 5)) (gtName 4))
      (sThen (sIf (bOr (bVal (fTwo (fVar 4) (fDsp .lst lNil) gNe)) (bOr (bVal (fTwo (fIx (fVar 3) (fC (.int 0))) (fVar 1) gLe)) (bVal (fTwo (fIx (fVar 3) (fC (.int 1))) (fC (.int 0)) gEq)))) (sRet (fDsp .lst (lCons (fVar 2) (lCons (fC (.bl true)) lNil)))) sNil)
      (sAsg (fIx (fVar 3) (fC (.int 0))) (gtName 1)))))) env := rfl
def b__law_due : SS :=
    (sThen (sIf (bNot (bVal (fOne (fVar 0) (gIsi2 "list" "tuple")))) (sRet (fDsp .lst (lCons (fC .non) (lCons (fC (.bl true)) lNil)))) sNil)
    (sThen (sAsg (fC (.int 0)) (gtName 1))
    (sThen (sFor (fxP [0]) (siRng1 (lCons (fN (lCons (fVar 0) lNil) (g1 gLen)) lNil)) (gtName 2) lp__law_due_0)
    (sRet (fC .non)))))
def F__law_due : FS := semOf (fxP [0]) 1 6 b__law_due
def b__law_told : SS :=
    (sThen (sAsg (fDsp .lst lNil) (gtName 1))
    (sThen (sTry 910 2 13 [] (sExpr (fMut isLst kAppend (fVar 1) (lCons (fApp 1 F_check_history (lCons (fVar 0) lNil) []) lNil))) (sExpr (fMut isLst kAppend (fVar 1) (lCons (fDsp .lst (lCons (fXf 910 13 0 (fVar 2)) (lCons (fOne (fVar 2) (gIsX 910)) lNil))) lNil))))
    (sThen (sTry 910 2 13 [] (sThen (sExpr (fApp 2 F_wall_at (lCons (fVar 0) (lCons (fC (.int 3)) lNil)) []))
      (sExpr (fMut isLst kAppend (fVar 1) (lCons (fC .non) lNil)))) (sExpr (fMut isLst kAppend (fVar 1) (lCons (fDsp .lst (lCons (fXf 910 13 0 (fVar 2)) (lCons (fOne (fVar 2) (gIsX 910)) lNil))) lNil))))
    (sRet (fVar 1)))))
def F__law_told : FS := semOf (fxP [0]) 1 3 b__law_told
def lp_law_0 : SS :=
    (sIf (bVal (fTwo (fApp 2 F_wall_at (lCons (fVar 3) (lCons (fVar 4) lNil)) []) (fApp 2 F__law_shut (lCons (fVar 3) (lCons (fVar 4) lNil)) []) gNe)) (sRet (fC (.bl false))) sNil)
theorem ap_lp_law_0 (env : OL.Env) : lp_law_0 env =
    (sIf (bVal (fTwo (fApp 2 F_wall_at (lCons (fVar 3) (lCons (fVar 4) lNil)) []) (fApp 2 F__law_shut (lCons (fVar 3) (lCons (fVar 4) lNil)) []) gNe)) (sRet (fC (.bl false))) sNil) env := rfl
def lp_law_1 : SS :=
    (sExpr (fMut isLst kInsert (fVar 6) (lCons (fApp 2 F__law_taken (lCons (fVar 1) (lCons (fTwo (fN (lCons (fVar 6) lNil) (g1 gLen)) (fC (.int 1)) gAdd) lNil)) []) (lCons (fIx (fVar 7) (fApp 2 F__law_taken (lCons (fVar 1) (lCons (fN (lCons (fVar 7) lNil) (g1 gLen)) lNil)) [])) lNil))))
theorem ap_lp_law_1 (env : OL.Env) : lp_law_1 env =
    (sExpr (fMut isLst kInsert (fVar 6) (lCons (fApp 2 F__law_taken (lCons (fVar 1) (lCons (fTwo (fN (lCons (fVar 6) lNil) (g1 gLen)) (fC (.int 1)) gAdd) lNil)) []) (lCons (fIx (fVar 7) (fApp 2 F__law_taken (lCons (fVar 1) (lCons (fN (lCons (fVar 7) lNil) (g1 gLen)) lNil)) [])) lNil)))) env := rfl
def sq_law_0 : SS :=
    (sFz (sAsg (fApp 2 F__law_history (lCons (fVar 1) (lCons (fC (.int 5)) lNil)) []) (gtName 3)) 3)
theorem ap_sq_law_0 (env : OL.Env) : sq_law_0 env =
    (sFz (sAsg (fApp 2 F__law_history (lCons (fVar 1) (lCons (fC (.int 5)) lNil)) []) (gtName 3)) 3) env := rfl
def sq_law_1 : SS :=
    (sIf (bVal (fTwo (fApp 2 F__law_taken (lCons (fVar 1) (lCons (fC (.int 2)) lNil)) []) (fC (.int 0)) gEq)) (sFz (sAsg (fComp (siList (fVar 3)) [4, 5] (gtTup [(gtName 4), (gtName 5)]) bYes (fDsp .tup (lCons (fTwo (fVar 4) (fTwo (fC (.int 10)) (fC (.int 20)) gPow) gMul) (lCons (fTwo (fVar 5) (fTwo (fC (.int 10)) (fC (.int 25)) gPow) gMul) lNil)))) (gtName 3)) 3) sNil)
theorem ap_sq_law_1 (env : OL.Env) : sq_law_1 env =
    (sIf (bVal (fTwo (fApp 2 F__law_taken (lCons (fVar 1) (lCons (fC (.int 2)) lNil)) []) (fC (.int 0)) gEq)) (sFz (sAsg (fComp (siList (fVar 3)) [4, 5] (gtTup [(gtName 4), (gtName 5)]) bYes (fDsp .tup (lCons (fTwo (fVar 4) (fTwo (fC (.int 10)) (fC (.int 20)) gPow) gMul) (lCons (fTwo (fVar 5) (fTwo (fC (.int 10)) (fC (.int 25)) gPow) gMul) lNil)))) (gtName 3)) 3) sNil) env := rfl
def sq_law_2 : SS :=
    (sFor (fxP [0]) (siList (fDsp .lst (lCons (fC (.int 0)) (lCons (fC (.int 1)) (lCons (fC (.int 2)) (lCons (fC (.int 5)) (lCons (fC (.int 9)) (lCons (fTwo (fC (.int 10)) (fC (.int 20)) gPow) (lCons (fTwo (fTwo (fC (.int 10)) (fC (.int 20)) gPow) (fC (.int 1)) gAdd) (lCons (fTwo (fC (.int 10)) (fC (.int 60)) gPow) lNil)))))))))) (gtName 4) lp_law_0)
theorem ap_sq_law_2 (env : OL.Env) : sq_law_2 env =
    (sFor (fxP [0]) (siList (fDsp .lst (lCons (fC (.int 0)) (lCons (fC (.int 1)) (lCons (fC (.int 2)) (lCons (fC (.int 5)) (lCons (fC (.int 9)) (lCons (fTwo (fC (.int 10)) (fC (.int 20)) gPow) (lCons (fTwo (fTwo (fC (.int 10)) (fC (.int 20)) gPow) (fC (.int 1)) gAdd) (lCons (fTwo (fC (.int 10)) (fC (.int 60)) gPow) lNil)))))))))) (gtName 4) lp_law_0) env := rfl
def sq_law_3 : SS :=
    (sAsg (fN (lCons (fVar 3) lNil) (g1 gList)) (gtName 6))
theorem ap_sq_law_3 (env : OL.Env) : sq_law_3 env =
    (sAsg (fN (lCons (fVar 3) lNil) (g1 gList)) (gtName 6)) env := rfl
def sq_law_4 : SS :=
    (sFz (sAsg (fDsp .lst (lCons (fC .non) (lCons (fC (.int 3)) (lCons (fDsp .tup (lCons (fC (.int 1)) lNil)) (lCons (fDsp .tup (lCons (fC (.int 1)) (lCons (fC (.int 0)) lNil))) (lCons (fDsp .tup (lCons (fC (.int 0)) (lCons (fC (.int 1)) lNil))) (lCons (fDsp .tup (lCons (fOne (fC (.int 1)) gNeg) (lCons (fC (.int 2)) lNil))) (lCons (fDsp .tup (lCons (fC (.bl true)) (lCons (fC (.int 2)) lNil))) (lCons (fDsp .tup (lCons (fC (.int 2)) (lCons (fC (.bl true)) lNil))) (lCons (fDsp .tup (lCons (fC (.str "1")) (lCons (fC (.int 2)) lNil))) (lCons (fDsp .lst (lCons (fC (.int 3)) (lCons (fC (.int 1)) lNil))) (lCons (fDsp .tup (lCons (fC (.int 4)) (lCons (fC (.int 1)) lNil))) (lCons (fDsp .tup (lCons (fC (.int 1)) (lCons (fC (.int 1)) lNil))) lNil))))))))))))) (gtName 7)) 7)
theorem ap_sq_law_4 (env : OL.Env) : sq_law_4 env =
    (sFz (sAsg (fDsp .lst (lCons (fC .non) (lCons (fC (.int 3)) (lCons (fDsp .tup (lCons (fC (.int 1)) lNil)) (lCons (fDsp .tup (lCons (fC (.int 1)) (lCons (fC (.int 0)) lNil))) (lCons (fDsp .tup (lCons (fC (.int 0)) (lCons (fC (.int 1)) lNil))) (lCons (fDsp .tup (lCons (fOne (fC (.int 1)) gNeg) (lCons (fC (.int 2)) lNil))) (lCons (fDsp .tup (lCons (fC (.bl true)) (lCons (fC (.int 2)) lNil))) (lCons (fDsp .tup (lCons (fC (.int 2)) (lCons (fC (.bl true)) lNil))) (lCons (fDsp .tup (lCons (fC (.str "1")) (lCons (fC (.int 2)) lNil))) (lCons (fDsp .lst (lCons (fC (.int 3)) (lCons (fC (.int 1)) lNil))) (lCons (fDsp .tup (lCons (fC (.int 4)) (lCons (fC (.int 1)) lNil))) (lCons (fDsp .tup (lCons (fC (.int 1)) (lCons (fC (.int 1)) lNil))) lNil))))))))))))) (gtName 7)) 7) env := rfl
def sq_law_5 : SS :=
    (sFor (fxP [0]) (siRng1 (lCons (fApp 2 F__law_taken (lCons (fVar 1) (lCons (fC (.int 3)) lNil)) []) lNil)) (gtName 8) lp_law_1)
theorem ap_sq_law_5 (env : OL.Env) : sq_law_5 env =
    (sFor (fxP [0]) (siRng1 (lCons (fApp 2 F__law_taken (lCons (fVar 1) (lCons (fC (.int 3)) lNil)) []) lNil)) (gtName 8) lp_law_1) env := rfl
def sq_law_6 : SS :=
    (sIf (bVal (fTwo (fApp 2 F__law_taken (lCons (fVar 1) (lCons (fC (.int 6)) lNil)) []) (fC (.int 0)) gEq)) (sAsg (fIx (fFrz (fDsp .lst (lCons (fC .non) (lCons (fC (.str "")) (lCons (fC (.int 3)) (lCons (fC (.dct [] [])) (lCons (fC (.bl true)) lNil))))))) (fApp 2 F__law_taken (lCons (fVar 1) (lCons (fC (.int 5)) lNil)) [])) (gtName 6)) (sIf (bVal (fTwo (fApp 2 F__law_taken (lCons (fVar 1) (lCons (fC (.int 2)) lNil)) []) (fC (.int 0)) gEq)) (sAsg (fN (lCons (fVar 6) lNil) (g1 gTuple)) (gtName 6)) sNil))
theorem ap_sq_law_6 (env : OL.Env) : sq_law_6 env =
    (sIf (bVal (fTwo (fApp 2 F__law_taken (lCons (fVar 1) (lCons (fC (.int 6)) lNil)) []) (fC (.int 0)) gEq)) (sAsg (fIx (fFrz (fDsp .lst (lCons (fC .non) (lCons (fC (.str "")) (lCons (fC (.int 3)) (lCons (fC (.dct [] [])) (lCons (fC (.bl true)) lNil))))))) (fApp 2 F__law_taken (lCons (fVar 1) (lCons (fC (.int 5)) lNil)) [])) (gtName 6)) (sIf (bVal (fTwo (fApp 2 F__law_taken (lCons (fVar 1) (lCons (fC (.int 2)) lNil)) []) (fC (.int 0)) gEq)) (sAsg (fN (lCons (fVar 6) lNil) (g1 gTuple)) (gtName 6)) sNil)) env := rfl
def sq_law_7 : SS :=
    (sFz (sAsg (fApp 1 F__law_due (lCons (fVar 6) lNil) []) (gtName 9)) 9)
theorem ap_sq_law_7 (env : OL.Env) : sq_law_7 env =
    (sFz (sAsg (fApp 1 F__law_due (lCons (fVar 6) lNil) []) (gtName 9)) 9) env := rfl
def sq_law_8 : SS :=
    (sIf (bVal (fTwo (fApp 1 F__law_told (lCons (fVar 6) lNil) []) (fDsp .lst (lCons (fVar 9) (lCons (fVar 9) lNil))) gNe)) (sRet (fC (.bl false))) sNil)
theorem ap_sq_law_8 (env : OL.Env) : sq_law_8 env =
    (sIf (bVal (fTwo (fApp 1 F__law_told (lCons (fVar 6) lNil) []) (fDsp .lst (lCons (fVar 9) (lCons (fVar 9) lNil))) gNe)) (sRet (fC (.bl false))) sNil) env := rfl
def lp_law_2 : SS :=
    (sThen sq_law_0
      (sThen sq_law_1
      (sThen sq_law_2
      (sThen sq_law_3
      (sThen sq_law_4
      (sThen sq_law_5
      (sThen sq_law_6
      (sThen sq_law_7
      sq_law_8))))))))
theorem ap_lp_law_2 (env : OL.Env) : lp_law_2 env =
    (sThen sq_law_0
      (sThen sq_law_1
      (sThen sq_law_2
      (sThen sq_law_3
      (sThen sq_law_4
      (sThen sq_law_5
      (sThen sq_law_6
      (sThen sq_law_7
      sq_law_8)))))))) env := rfl
def b_law : SS :=
    (sThen (sAsg (fDsp .lst (lCons (fVar 0) (lCons (fC (.int 0)) (lCons (fC (.int 0)) (lCons (fC (.int 0)) lNil))))) (gtName 1))
    (sThen (sFor (fxP [0]) (siRng1 (lCons (fC (.int 6)) lNil)) (gtName 2) lp_law_2)
    (sRet (fC (.bl true)))))
def F_law : FS := semOf (fxP [0]) 1 10 b_law
end CB

namespace CB
open PySem PySem.Spec PyProof.Rows L2 OL
local macro_rules | `(tactic| walk_at "ev") => `(tactic| simp only [ev_var, ev_var2, ev_varT, ev_varF, ev_c, fin_some, ev_one, st1_ok, ev_two, st2_ok, st2a_ok, st2b_ok, ev_nil, ev_cons, stC_ok, stCa_ok, stCb_ok, ev_N, stN_ok, rdRs_nil, rdRs_cons, rdR_val, ev_rdp, rdP_some, rdP_none, okR_val, okR_nil, okR_cons, ev_val, stB_ok, stBa_ok, orT_ok, orT_exc, ev_and, ev_or, ev_not, ev_B, ev_ite, stAnd_t, stAnd_f, stOr_t, stOr_f, stNot_ok, stFB_ok, stIte_t, stIte_f, ev_then, seq_nx, seq_rt, seq_bk, seq_ct, seq_exc, ev_snil, ev_sfl, ev_sx, stX_ok, stX_exc, tkR_val, tkR_plc, tkP_some, ev_sret, stR_ok, stR_exc, stRa_ok, ev_if, stIf_t, stIf_f, stIf_exc, ev_asg, stA_ok, stA_exc, stAa_ok, stAb_ok, ev_gn, ev_gtup, ev_gall0, ev_gall, ev_app, stF_ok, stFa_ok, stFb_ok, stFb_exc, tkA_nil, tkA_val, tkA_plc, tkB_some, gvA_nil, gvA_val, gvA_plc, anyP_nil, anyP_val, anyP_plc, ev_sem, stS_nx, stS_rt, stS_exc, msk_s, msk_0, ev_self, stL1_ok, ev_cof, cOfD_ins, cOfD_fin, ev_fld, fvO_some, fvP_some, stFl_fin, stFl_ins, ev_prop, ev_make, stM_ok, stMa_ok, stMb_ok, stMb_exc, ev_dsp, stD_ok, stDa_ok, ev_disp, stQ_ok, stQa_ok, ev_lall0, ev_lall, ev_ix, stI_ok, ixV_some, ixP_some, ev_sl, stSl_ok, stSla_ok, stSlb_ok, ev_pno, ev_pof, ev_mut, stUc_ok, ev_setf, stZ_ok, stZ_exc, ev_seti, stYa_ok, stYc_ok, ev_par, ev_match, ev_m, ev_get2, ev_for, stLp_none, stLp_lock, loopF_nil, loopF_cons, lpA_some, lpB_nx, lpB_ct, lpB_bk, lpB_rt, lpB_exc, bk_none, bk_ok, bk_exc, ev_silist, siA_lst, siA_fls, asIns_ok, asSome_ok, ifT_t, q_flp, q_ixv, q_ixp, asInt_ok, q_o, q_u, q_ua, q_ub, q_za, q_y, q_yb, q_aug, q_g, q_w, q_two, asStr_ok, q_t, q_v, q_va, q_h, q_ha, q_hb, q_chain, q_k, q_ka, q_kt, q_kf, q_kc, asLst_ok, q_sip, ev_situp, siB_tup, ev_sirng, siC_ok, rgA_ok, ev_sienum, siE_tup, ev_sienumL, siF_lst, siF_fls, siF_plc, ev_sistr, siG_ok, ev_comp, stCm_ok, stCz_ok, bak_none, bak_some, lk_none, lk_some, wpE_nil, wpE_cons, rsE_nil, rsE_cons, okE_nil, okE_cons, bYes_ev, loopC_nil, loopC_cons, lcA_ok, lcB_f, lcB_t, lcC_ok, lcD_ok, cm_ev, cmA_ok, cmB_f, cmB_t, cmC_ok, cmD_ok, ev_dcomp, stDm_ok, stDz_ok, loopK_nil, gI_ok, gIc_ok, gAdd_int, gAdd_tup, gAdd_lst, gAdd_str, it_tup0, it_tup1, it_tup2, it_tup3, it_tup4, it_tup5, it_tup6, it_fls0, it_fls1, it_fls2, it_fls3, it_fls4, it_fls5, it_fls6, it_lst0, it_lst1, it_lst2, it_lst3, it_lst4, it_lst5, it_lst6, it_dct, it_fdc, set_lst0, set_lst1, set_lst2, set_lst3, set_lst4, gEq_int, gEq_bl, ne_wall_steady, ne_wall_work, ne_wall_print, ne_wall_sort, ne_wall_wait, ne_wall_if, ne_wall_gone, ne_wall_later, ne_wall_same, ne_steady_wall, ne_steady_work, ne_steady_print, ne_steady_sort, ne_steady_wait, ne_steady_if, ne_steady_gone, ne_steady_later, ne_steady_same, ne_work_wall, ne_work_steady, ne_work_print, ne_work_sort, ne_work_wait, ne_work_if, ne_work_gone, ne_work_later, ne_work_same, ne_print_wall, ne_print_steady, ne_print_work, ne_print_sort, ne_print_wait, ne_print_if, ne_print_gone, ne_print_later, ne_print_same, ne_sort_wall, ne_sort_steady, ne_sort_work, ne_sort_print, ne_sort_wait, ne_sort_if, ne_sort_gone, ne_sort_later, ne_sort_same, ne_wait_wall, ne_wait_steady, ne_wait_work, ne_wait_print, ne_wait_sort, ne_wait_if, ne_wait_gone, ne_wait_later, ne_wait_same, ne_if_wall, ne_if_steady, ne_if_work, ne_if_print, ne_if_sort, ne_if_wait, ne_if_gone, ne_if_later, ne_if_same, ne_gone_wall, ne_gone_steady, ne_gone_work, ne_gone_print, ne_gone_sort, ne_gone_wait, ne_gone_if, ne_gone_later, ne_gone_same, ne_later_wall, ne_later_steady, ne_later_work, ne_later_print, ne_later_sort, ne_later_wait, ne_later_if, ne_later_gone, ne_later_same, ne_same_wall, ne_same_steady, ne_same_work, ne_same_print, ne_same_sort, ne_same_wait, ne_same_if, ne_same_gone, ne_same_later, eq_wall_if, eq_wall_gone, eq_wall_later, eq_wall_steady, eq_steady_if, eq_steady_gone, eq_steady_later, eq_steady_steady, eq_work_if, eq_work_gone, eq_work_later, eq_work_steady, eq_print_if, eq_print_gone, eq_print_later, eq_print_steady, eq_sort_if, eq_sort_gone, eq_sort_later, eq_sort_steady, eq_wait_if, eq_wait_gone, eq_wait_later, eq_wait_steady, eq_if_if, eq_if_gone, eq_if_later, eq_if_steady, eq_gone_if, eq_gone_gone, eq_gone_later, eq_gone_steady, eq_later_if, eq_later_gone, eq_later_later, eq_later_steady, eq_same_if, eq_same_gone, eq_same_later, eq_same_steady, mv_non, mv_bl, mv_int, mv_str, mv_fn, mv_tup, mv_lst, mv_fls, mv_dct, mv_fdc, mv_ins, mv_fin, mv_mvd, isLst_non, isLst_bl, isLst_int, isLst_str, isLst_fn, isLst_tup, isLst_lst, isLst_fls, isLst_dct, isLst_fdc, isLst_ins, isLst_fin, isStr_non, isStr_bl, isStr_int, isStr_str, isStr_fn, isStr_tup, isStr_lst, isStr_fls, isStr_dct, isStr_fdc, isStr_ins, isStr_fin, isDct_non, isDct_bl, isDct_int, isDct_str, isDct_fn, isDct_tup, isDct_lst, isDct_fls, isDct_dct, isDct_fdc, isDct_ins, isDct_fin, gLen_tup, gLen_lst, gLen_fls, gLen_str, gLen_dct, gLen_fdc, gInt_int, gInt_bl, g1_ok, g2_ok, nb4611686018427387903_0, nb4611686018427387903_1, nb4611686018427387903_2, nb4611686018427387903_3, nb4611686018427387903_4, nb4611686018427387903_5, nb4611686018427387903_6, nb4611686018427387903_7, nb4611686018427387903_8, nb4611686018427387903_9, nb4611686018427387903_10, nb4611686018427387903_11, nb4611686018427387903_12, nb4611686018427387903_13, nb4611686018427387903_18, nb4611686018427387903_20, nb4611686018427387903_25, nb4611686018427387903_40, nb4611686018427387903_60, nb4611686018427387903_99, nb4611686018427387903_48271, nb4611686018427387903_2147483647, nb18446744073709551615_0, nb18446744073709551615_1, nb18446744073709551615_2, nb18446744073709551615_3, nb18446744073709551615_4, nb18446744073709551615_5, nb18446744073709551615_6, nb18446744073709551615_7, nb18446744073709551615_8, nb18446744073709551615_9, nb18446744073709551615_10, nb18446744073709551615_11, nb18446744073709551615_12, nb18446744073709551615_13, nb18446744073709551615_18, nb18446744073709551615_20, nb18446744073709551615_25, nb18446744073709551615_40, nb18446744073709551615_60, nb18446744073709551615_99, nb18446744073709551615_48271, nb18446744073709551615_2147483647, nb1073741823_0, nb1073741823_1, nb1073741823_2, nb1073741823_3, nb1073741823_4, nb1073741823_5, nb1073741823_6, nb1073741823_7, nb1073741823_8, nb1073741823_9, nb1073741823_10, nb1073741823_11, nb1073741823_12, nb1073741823_13, nb1073741823_18, nb1073741823_20, nb1073741823_25, nb1073741823_40, nb1073741823_60, nb1073741823_99, nb1000000_0, nb1000000_1, nb1000000_2, nb1000000_3, nb1000000_4, nb1000000_5, nb1000000_6, nb1000000_7, nb1000000_8, nb1000000_9, nb1000000_10, nb1000000_11, nb1000000_12, nb1000000_13, nb1000000_18, nb1000000_20, nb1000000_25, nb1000000_40, nb1000000_60, nb1000000_99, st1_exc, st2_exc, st2a_exc, stC_exc, stCa_exc, stN_exc, stB_exc, stAnd_exc, stOr_exc, stNot_exc, stFB_exc, stIte_exc, stF_exc, stL1_exc, stFl_exc, stP_exc, stM_exc, stD_exc, stQ_exc, stI_exc, stIa_exc, stSl_exc, stSla_exc, stSlb_exc, stO_exc, stU_exc, stUa_exc, stY_exc, stYa_exc, stYb_exc, stG_exc, stW_exc, stT_exc, stV_exc, stVa_exc, stH_exc, stLp_exc, siA_exc, stHa_exc, stHb_exc, stK_exc, stKa_exc, stKc_exc, siB_exc, siC_exc, siE_exc, siF_exc, siG_exc, stCm_exc, stDm_exc, ev_sior, orI_ok, orI_bad, siE_lst, siE_fls, siE_plc, ev_or2, orE_ok, orE_bad, ev_siany, siY_exc, siY_lst, siY_fls, siY_tup, siY_plc, ev_frz, stFz_exc, stFz_ok, ev_sfz, fzS_nx, fzS_exc, kInsert_ok, ev_rs, rsA_ok, rsA_exc, rsB_ok, ev_try, tryA_ok, tryA_exc, tryC_yes, tryB_nx, tryB_ct, tryB_bk, tryB_rt, nt3_eq, ntL_nil, ntL_cons, nt_non, nt_bl, nt_int, nt_str, nt_tup, nt_lst, nt_fls, nt_dct, nt_fdc, nt_ins, nt_fin, nt_mvd, ev_xf, xfA_ok, gIsX_ok, mv_exo, st_exo, fz_st, fzL_st, fz_exo,
  List.map_cons, List.map_nil, List.length_cons, List.length_nil, List.length_map, List.length_append, List.getElem?_cons_zero, List.getElem?_cons_succ, List.set_cons_zero, List.set_cons_succ, List.cons_append, List.nil_append, List.append_nil, List.replicate_succ, List.replicate_zero, List.getD_cons_zero, List.getD_cons_succ,
  D.st, OL.stL, D.fz, OL.fzL, eget, eput, D.get, D.put, Option.bind_some, Option.map_some, Option.map_none, Option.bind_none, Bool.not_true, Bool.not_false, Bool.and_true, Bool.true_and, Bool.or_false, Bool.false_or, Bool.or_true, Bool.true_or, Bool.and_false, Bool.false_and, Bool.and_self, Bool.or_self, if_true, if_false, ite_true, ite_false, Bool.false_eq_true, reduceIte, fxP, fxL, id_eq,  List.contains_cons, List.contains_nil, List.elem_cons, List.elem_nil, decide_true, decide_false, eq_self, or_true, true_or, or_false, false_or, and_self, true_and, and_true, and_false, false_and, not_true_eq_false, not_false_eq_true,
  Nat.reduceAdd, Nat.reduceSub, Nat.reduceMul, Nat.reduceLT, Nat.reduceLeDiff, Nat.reduceEqDiff, Nat.reduceBEq, Nat.reduceBNe, Nat.lt_add_one, Nat.zero_add, Nat.add_zero, Int.reduceAdd, Int.reduceSub, Int.reduceMul, Int.reduceNeg, Int.reduceLT, Int.reduceLE, Int.reducePow, Int.reduceEq, Int.reduceNe, Int.reduceToNat, Int.reduceMod, Int.reduceDiv, Int.natCast_add, Int.cast_ofNat_Int, Int.zero_add, Int.add_zero, Nat.reducePow])
local macro_rules | `(tactic| walk_at "evh") => `(tactic| simp only [*, ev_var, ev_var2, ev_varT, ev_varF, ev_c, fin_some, ev_one, st1_ok, ev_two, st2_ok, st2a_ok, st2b_ok, ev_nil, ev_cons, stC_ok, stCa_ok, stCb_ok, ev_N, stN_ok, rdRs_nil, rdRs_cons, rdR_val, ev_rdp, rdP_some, rdP_none, okR_val, okR_nil, okR_cons, ev_val, stB_ok, stBa_ok, orT_ok, orT_exc, ev_and, ev_or, ev_not, ev_B, ev_ite, stAnd_t, stAnd_f, stOr_t, stOr_f, stNot_ok, stFB_ok, stIte_t, stIte_f, ev_then, seq_nx, seq_rt, seq_bk, seq_ct, seq_exc, ev_snil, ev_sfl, ev_sx, stX_ok, stX_exc, tkR_val, tkR_plc, tkP_some, ev_sret, stR_ok, stR_exc, stRa_ok, ev_if, stIf_t, stIf_f, stIf_exc, ev_asg, stA_ok, stA_exc, stAa_ok, stAb_ok, ev_gn, ev_gtup, ev_gall0, ev_gall, ev_app, stF_ok, stFa_ok, stFb_ok, stFb_exc, tkA_nil, tkA_val, tkA_plc, tkB_some, gvA_nil, gvA_val, gvA_plc, anyP_nil, anyP_val, anyP_plc, ev_sem, stS_nx, stS_rt, stS_exc, msk_s, msk_0, ev_self, stL1_ok, ev_cof, cOfD_ins, cOfD_fin, ev_fld, fvO_some, fvP_some, stFl_fin, stFl_ins, ev_prop, ev_make, stM_ok, stMa_ok, stMb_ok, stMb_exc, ev_dsp, stD_ok, stDa_ok, ev_disp, stQ_ok, stQa_ok, ev_lall0, ev_lall, ev_ix, stI_ok, ixV_some, ixP_some, ev_sl, stSl_ok, stSla_ok, stSlb_ok, ev_pno, ev_pof, ev_mut, stUc_ok, ev_setf, stZ_ok, stZ_exc, ev_seti, stYa_ok, stYc_ok, ev_par, ev_match, ev_m, ev_get2, ev_for, stLp_none, stLp_lock, loopF_nil, loopF_cons, lpA_some, lpB_nx, lpB_ct, lpB_bk, lpB_rt, lpB_exc, bk_none, bk_ok, bk_exc, ev_silist, siA_lst, siA_fls, asIns_ok, asSome_ok, ifT_t, q_flp, q_ixv, q_ixp, asInt_ok, q_o, q_u, q_ua, q_ub, q_za, q_y, q_yb, q_aug, q_g, q_w, q_two, asStr_ok, q_t, q_v, q_va, q_h, q_ha, q_hb, q_chain, q_k, q_ka, q_kt, q_kf, q_kc, asLst_ok, q_sip, ev_situp, siB_tup, ev_sirng, siC_ok, rgA_ok, ev_sienum, siE_tup, ev_sienumL, siF_lst, siF_fls, siF_plc, ev_sistr, siG_ok, ev_comp, stCm_ok, stCz_ok, bak_none, bak_some, lk_none, lk_some, wpE_nil, wpE_cons, rsE_nil, rsE_cons, okE_nil, okE_cons, bYes_ev, loopC_nil, loopC_cons, lcA_ok, lcB_f, lcB_t, lcC_ok, lcD_ok, cm_ev, cmA_ok, cmB_f, cmB_t, cmC_ok, cmD_ok, ev_dcomp, stDm_ok, stDz_ok, loopK_nil, gI_ok, gIc_ok, gAdd_int, gAdd_tup, gAdd_lst, gAdd_str, it_tup0, it_tup1, it_tup2, it_tup3, it_tup4, it_tup5, it_tup6, it_fls0, it_fls1, it_fls2, it_fls3, it_fls4, it_fls5, it_fls6, it_lst0, it_lst1, it_lst2, it_lst3, it_lst4, it_lst5, it_lst6, it_dct, it_fdc, set_lst0, set_lst1, set_lst2, set_lst3, set_lst4, gEq_int, gEq_bl, ne_wall_steady, ne_wall_work, ne_wall_print, ne_wall_sort, ne_wall_wait, ne_wall_if, ne_wall_gone, ne_wall_later, ne_wall_same, ne_steady_wall, ne_steady_work, ne_steady_print, ne_steady_sort, ne_steady_wait, ne_steady_if, ne_steady_gone, ne_steady_later, ne_steady_same, ne_work_wall, ne_work_steady, ne_work_print, ne_work_sort, ne_work_wait, ne_work_if, ne_work_gone, ne_work_later, ne_work_same, ne_print_wall, ne_print_steady, ne_print_work, ne_print_sort, ne_print_wait, ne_print_if, ne_print_gone, ne_print_later, ne_print_same, ne_sort_wall, ne_sort_steady, ne_sort_work, ne_sort_print, ne_sort_wait, ne_sort_if, ne_sort_gone, ne_sort_later, ne_sort_same, ne_wait_wall, ne_wait_steady, ne_wait_work, ne_wait_print, ne_wait_sort, ne_wait_if, ne_wait_gone, ne_wait_later, ne_wait_same, ne_if_wall, ne_if_steady, ne_if_work, ne_if_print, ne_if_sort, ne_if_wait, ne_if_gone, ne_if_later, ne_if_same, ne_gone_wall, ne_gone_steady, ne_gone_work, ne_gone_print, ne_gone_sort, ne_gone_wait, ne_gone_if, ne_gone_later, ne_gone_same, ne_later_wall, ne_later_steady, ne_later_work, ne_later_print, ne_later_sort, ne_later_wait, ne_later_if, ne_later_gone, ne_later_same, ne_same_wall, ne_same_steady, ne_same_work, ne_same_print, ne_same_sort, ne_same_wait, ne_same_if, ne_same_gone, ne_same_later, eq_wall_if, eq_wall_gone, eq_wall_later, eq_wall_steady, eq_steady_if, eq_steady_gone, eq_steady_later, eq_steady_steady, eq_work_if, eq_work_gone, eq_work_later, eq_work_steady, eq_print_if, eq_print_gone, eq_print_later, eq_print_steady, eq_sort_if, eq_sort_gone, eq_sort_later, eq_sort_steady, eq_wait_if, eq_wait_gone, eq_wait_later, eq_wait_steady, eq_if_if, eq_if_gone, eq_if_later, eq_if_steady, eq_gone_if, eq_gone_gone, eq_gone_later, eq_gone_steady, eq_later_if, eq_later_gone, eq_later_later, eq_later_steady, eq_same_if, eq_same_gone, eq_same_later, eq_same_steady, mv_non, mv_bl, mv_int, mv_str, mv_fn, mv_tup, mv_lst, mv_fls, mv_dct, mv_fdc, mv_ins, mv_fin, mv_mvd, isLst_non, isLst_bl, isLst_int, isLst_str, isLst_fn, isLst_tup, isLst_lst, isLst_fls, isLst_dct, isLst_fdc, isLst_ins, isLst_fin, isStr_non, isStr_bl, isStr_int, isStr_str, isStr_fn, isStr_tup, isStr_lst, isStr_fls, isStr_dct, isStr_fdc, isStr_ins, isStr_fin, isDct_non, isDct_bl, isDct_int, isDct_str, isDct_fn, isDct_tup, isDct_lst, isDct_fls, isDct_dct, isDct_fdc, isDct_ins, isDct_fin, gLen_tup, gLen_lst, gLen_fls, gLen_str, gLen_dct, gLen_fdc, gInt_int, gInt_bl, g1_ok, g2_ok, nb4611686018427387903_0, nb4611686018427387903_1, nb4611686018427387903_2, nb4611686018427387903_3, nb4611686018427387903_4, nb4611686018427387903_5, nb4611686018427387903_6, nb4611686018427387903_7, nb4611686018427387903_8, nb4611686018427387903_9, nb4611686018427387903_10, nb4611686018427387903_11, nb4611686018427387903_12, nb4611686018427387903_13, nb4611686018427387903_18, nb4611686018427387903_20, nb4611686018427387903_25, nb4611686018427387903_40, nb4611686018427387903_60, nb4611686018427387903_99, nb4611686018427387903_48271, nb4611686018427387903_2147483647, nb18446744073709551615_0, nb18446744073709551615_1, nb18446744073709551615_2, nb18446744073709551615_3, nb18446744073709551615_4, nb18446744073709551615_5, nb18446744073709551615_6, nb18446744073709551615_7, nb18446744073709551615_8, nb18446744073709551615_9, nb18446744073709551615_10, nb18446744073709551615_11, nb18446744073709551615_12, nb18446744073709551615_13, nb18446744073709551615_18, nb18446744073709551615_20, nb18446744073709551615_25, nb18446744073709551615_40, nb18446744073709551615_60, nb18446744073709551615_99, nb18446744073709551615_48271, nb18446744073709551615_2147483647, nb1073741823_0, nb1073741823_1, nb1073741823_2, nb1073741823_3, nb1073741823_4, nb1073741823_5, nb1073741823_6, nb1073741823_7, nb1073741823_8, nb1073741823_9, nb1073741823_10, nb1073741823_11, nb1073741823_12, nb1073741823_13, nb1073741823_18, nb1073741823_20, nb1073741823_25, nb1073741823_40, nb1073741823_60, nb1073741823_99, nb1000000_0, nb1000000_1, nb1000000_2, nb1000000_3, nb1000000_4, nb1000000_5, nb1000000_6, nb1000000_7, nb1000000_8, nb1000000_9, nb1000000_10, nb1000000_11, nb1000000_12, nb1000000_13, nb1000000_18, nb1000000_20, nb1000000_25, nb1000000_40, nb1000000_60, nb1000000_99, st1_exc, st2_exc, st2a_exc, stC_exc, stCa_exc, stN_exc, stB_exc, stAnd_exc, stOr_exc, stNot_exc, stFB_exc, stIte_exc, stF_exc, stL1_exc, stFl_exc, stP_exc, stM_exc, stD_exc, stQ_exc, stI_exc, stIa_exc, stSl_exc, stSla_exc, stSlb_exc, stO_exc, stU_exc, stUa_exc, stY_exc, stYa_exc, stYb_exc, stG_exc, stW_exc, stT_exc, stV_exc, stVa_exc, stH_exc, stLp_exc, siA_exc, stHa_exc, stHb_exc, stK_exc, stKa_exc, stKc_exc, siB_exc, siC_exc, siE_exc, siF_exc, siG_exc, stCm_exc, stDm_exc, ev_sior, orI_ok, orI_bad, siE_lst, siE_fls, siE_plc, ev_or2, orE_ok, orE_bad, ev_siany, siY_exc, siY_lst, siY_fls, siY_tup, siY_plc, ev_frz, stFz_exc, stFz_ok, ev_sfz, fzS_nx, fzS_exc, kInsert_ok, ev_rs, rsA_ok, rsA_exc, rsB_ok, ev_try, tryA_ok, tryA_exc, tryC_yes, tryB_nx, tryB_ct, tryB_bk, tryB_rt, nt3_eq, ntL_nil, ntL_cons, nt_non, nt_bl, nt_int, nt_str, nt_tup, nt_lst, nt_fls, nt_dct, nt_fdc, nt_ins, nt_fin, nt_mvd, ev_xf, xfA_ok, gIsX_ok, mv_exo, st_exo, fz_st, fzL_st, fz_exo,
  List.map_cons, List.map_nil, List.length_cons, List.length_nil, List.length_map, List.length_append, List.getElem?_cons_zero, List.getElem?_cons_succ, List.set_cons_zero, List.set_cons_succ, List.cons_append, List.nil_append, List.append_nil, List.replicate_succ, List.replicate_zero, List.getD_cons_zero, List.getD_cons_succ,
  D.st, OL.stL, D.fz, OL.fzL, eget, eput, D.get, D.put, Option.bind_some, Option.map_some, Option.map_none, Option.bind_none, Bool.not_true, Bool.not_false, Bool.and_true, Bool.true_and, Bool.or_false, Bool.false_or, Bool.or_true, Bool.true_or, Bool.and_false, Bool.false_and, Bool.and_self, Bool.or_self, if_true, if_false, ite_true, ite_false, Bool.false_eq_true, reduceIte, fxP, fxL, id_eq,  List.contains_cons, List.contains_nil, List.elem_cons, List.elem_nil, decide_true, decide_false, eq_self, or_true, true_or, or_false, false_or, and_self, true_and, and_true, and_false, false_and, not_true_eq_false, not_false_eq_true,
  Nat.reduceAdd, Nat.reduceSub, Nat.reduceMul, Nat.reduceLT, Nat.reduceLeDiff, Nat.reduceEqDiff, Nat.reduceBEq, Nat.reduceBNe, Nat.lt_add_one, Nat.zero_add, Nat.add_zero, Int.reduceAdd, Int.reduceSub, Int.reduceMul, Int.reduceNeg, Int.reduceLT, Int.reduceLE, Int.reducePow, Int.reduceEq, Int.reduceNe, Int.reduceToNat, Int.reduceMod, Int.reduceDiv, Int.natCast_add, Int.cast_ofNat_Int, Int.zero_add, Int.add_zero, Nat.reducePow])

structure Row where
  ns : List Int
  i : Nat
  a : Int
  r : Int
def Row.d (s : Row) : D := .lst [.fls (s.ns.map .int), .int s.i, .int s.a, .int s.r]
def Row.val (s : Row) (m : Int) : Int :=
  if 0 < s.r then s.r % m
  else match s.ns[s.i]? with
    | none => (s.a * 48271 + 11) % 2147483647 / 7 % m
    | some c => c % m
def Row.nxt (s : Row) (m : Int) : Row :=
  if 0 < s.r then { s with r := s.r / m }
  else match s.ns[s.i]? with
    | none => { s with i := s.i + 1, a := (s.a * 48271 + 11) % 2147483647 }
    | some c => { s with i := s.i + 1, a := (s.a * 48271 + c + 11) % 2147483647, r := if 10 ^ 18 ≤ c then c / m else s.r }
theorem it_row (ns : List Int) (i : Nat) (c : Int) (h : ns[i]? = some c) : itD (.fls (ns.map .int)) (.int ((i : Int) + 1 - 1)) = some (.int c, none) := by
  rw [show (i : Int) + 1 - 1 = (i : Int) by omega]
  exact it_fls _ i _ (by rw [List.getElem?_map, h]; rfl)
theorem taken (s : Row) (m : Int) (hm : 0 < m) (hm2 : m < 1073741824) : F__law_taken [s.d, .int m] = .ok (.int (s.val m)) [(s.nxt m).d, .int m] := by
  unfold F__law_taken b__law_taken Row.d Row.val Row.nxt
  refine (ev_sem _ 2 _ _ _ rfl).trans ?_
  have hn : nb 1073741823 m = true := nb_ok (by omega)
  by_cases h : 0 < s.r
  · walk_at "evh"
  · cases e : s.ns[s.i]? with
    | none =>
      have e2 : s.ns.length ≤ s.i := List.getElem?_eq_none_iff.mp e
      have e3 : ((s.ns.length : Nat) : Int) < (s.i : Int) + 1 := by omega
      walk_at "evh"
    | some c =>
      have e2 : s.i < s.ns.length := (List.getElem?_eq_some_iff.mp e).1
      have e3 : ¬ ((s.ns.length : Nat) : Int) < (s.i : Int) + 1 := by omega
      have e4 := it_row s.ns s.i c e
      by_cases hc : (1000000000000000000 : Int) ≤ c
      · walk_at "evh"
      · walk_at "evh"
theorem Row.lo (s : Row) {m : Int} (h : 0 < m) : 0 ≤ s.val m := by
  unfold Row.val
  split
  · exact Int.emod_nonneg _ (by omega)
  · split <;> exact Int.emod_nonneg _ (by omega)
theorem Row.hi (s : Row) {m : Int} (h : 0 < m) : s.val m < m := by
  unfold Row.val
  split
  · exact Int.emod_lt_of_pos _ h
  · split <;> exact Int.emod_lt_of_pos _ h
/-! ### histories -/
def encS (p : Int × Int) : D := .tup [.int p.1, .int p.2]
abbrev Hist := List (Int × Int)
def rd (hs : Hist) (t : Int) : Int := t + ((hs.filter fun p => p.1 ≤ t).map (·.2)).sum
theorem ints_map (l : List Int) : intsD (l.map .int) = some l := by
  induction l with
  | nil => rfl
  | cons i l ih => show (intsD (l.map .int)).map (i :: ·) = _; rw [ih]; rfl
theorem sum_ints (l : List Int) : gSum (.lst (l.map .int)) = some (.int l.sum) := by
  show (intsD (l.map .int)).map (fun is => D.int is.sum) = _
  rw [ints_map]
  rfl
theorem hist_fm (hs : Hist) (t : Int) : (hs.filterMap fun p => if p.1 ≤ t then some (D.int p.2) else none) = ((hs.filter fun p => p.1 ≤ t).map (·.2)).map .int := by
  induction hs with
  | nil => rfl
  | cons p hs ih =>
    rw [List.filterMap_cons, List.filter_cons, ih]
    by_cases h : p.1 ≤ t <;> simp [h]
/-- a list, a frozen list, a tuple -/
inductive Sk where
  | l | f | t
def sqK : Sk → List D → D
  | .l, ds => .lst ds
  | .f, ds => .fls ds
  | .t, ds => .tup ds
theorem st_hist (hs : Hist) : stL (hs.map encS) = true := by
  induction hs with
  | nil => rfl
  | cons p hs ih => show ((encS p).st && stL (hs.map encS)) = true; rw [ih]; rfl
theorem reading (k : Sk) (hs : Hist) (t : Int) (hl : hs.length ≤ 100000) : F_reading [sqK k (hs.map encS), .int t] = .ok (.int (rd hs t)) [sqK k (hs.map encS), .int t] := by
  unfold F_reading b_reading
  refine (ev_sem _ 2 _ _ _ rfl).trans ?_
  have key := fun e0 : D => lc_map (own := [2, 3]) (g := gtTup [gtName 2, gtName 3]) (b := bVal (fTwo (fVar 2) (fVar 1) gLe)) (fe := fVar 3) (e := [e0, .int t, .mvd, .mvd]) (l := hs) (acc := []) encS (fun p => if p.1 ≤ t then some (.int p.2) else none) (fun p _ => by
    unfold encS
    by_cases h : p.1 ≤ t <;> walk_at "evh")
  have e2 := st_hist hs
  have e3 := hist_fm hs t
  have e4 := sum_ints ((hs.filter fun p => p.1 ≤ t).map (·.2))
  cases k <;> unfold sqK <;> walk_at "evh" <;> rfl

/-! ### drawn histories -/
def okH (before : Int) : Hist → Prop
  | [] => True
  | p :: r => before < p.1 ∧ p.2 ≠ 0 ∧ okH p.1 r
theorem okH_snoc {t : Int} {p : Int × Int} (h1 : t < p.1) (h2 : p.2 ≠ 0) : ∀ {hs : Hist} {b : Int}, okH b hs → (∀ q ∈ hs, q.1 ≤ t) → b ≤ t → okH b (hs ++ [p])
  | [], b, _, _, hb => ⟨by omega, h2, trivial⟩
  | q :: r, b, ⟨a1, a2, a3⟩, hq, _ => ⟨a1, a2, okH_snoc h1 h2 a3 (fun x hx => hq x (List.mem_cons_of_mem _ hx)) (hq q List.mem_cons_self)⟩
theorem pick2 {α : Type} (f : α → D) (a b : α) (v : Int) (h0 : 0 ≤ v) (h1 : v < 2) : ∃ (x : α) (q : Option Pj), x ∈ [a, b] ∧ itD (.lst [f a, f b]) (.int v) = some (f x, q) := by
  have h : v = 0 ∨ v = 1 := by omega
  rcases h with h | h
  · subst h; exact ⟨a, _, by simp, it_lst0 _ _⟩
  · subst h; exact ⟨b, _, by simp, it_lst1 _ _ _⟩
theorem row_st (s : Row) : (Row.d s).st = false := rfl
theorem row_mv (s : Row) : (Row.d s).mv = false := rfl
theorem szo_ok {n : Nat} (h : n ≤ 1000000) : szo n = true := decide_eq_true h
theorem kAppend_ok (xs : List D) (d : D) : kAppend (.lst xs) [d] = if szo xs.length then some (.non, .lst (xs ++ [d])) else none := rfl
theorem hist_one (a : Hist) (t m : Int) : a.map encS ++ [.tup [.int t, .int m]] = (a ++ [(t, m)]).map encS := by rw [List.map_append]; rfl
structure HsOk (hs : Hist) (t : Int) : Prop where
  ok : okH 0 hs
  le : ∀ p ∈ hs, p.1 ≤ t
  am : ∀ p ∈ hs, -9 ≤ p.2 ∧ p.2 ≤ 9
  t0 : 0 ≤ t
  t3 : t ≤ 3 * hs.length
theorem hist_turn (s : Row) (hs : Hist) (m t : Int) (x5 d : D) (hk : HsOk hs t) (hl : hs.length ≤ 1000) : ∃ (s' : Row) (p : Int × Int) (y5 : D), HsOk (hs ++ [p]) p.1 ∧
    ∃ tt, lp__law_history_0 [s.d, .int m, .lst (hs.map encS), .int t, d, x5] = .ok .nx [s'.d, .int m, .lst ((hs ++ [p]).map encS), .int p.1, d, y5] tt := by
  have r1 := row_st
  have r2 := row_mv
  have t1 := taken s 3 (by omega) (by omega)
  have l1 := s.lo (m := 3) (by omega)
  have u1 := s.hi (m := 3) (by omega)
  have t2 := taken (s.nxt 3) 2 (by omega) (by omega)
  obtain ⟨x, q1, hx, i1⟩ := pick2 D.int 3 9 ((s.nxt 3).val 2) ((s.nxt 3).lo (by omega)) ((s.nxt 3).hi (by omega))
  have hx' : x = 3 ∨ x = 9 := by simpa using hx
  have hx0 : 0 < x ∧ x ≤ 9 := by omega
  have t3 := taken ((s.nxt 3).nxt 2) x (by omega) (by omega)
  have l3 := ((s.nxt 3).nxt 2).lo (m := x) (by omega)
  have u3 := ((s.nxt 3).nxt 2).hi (m := x) (by omega)
  have t4 := taken (((s.nxt 3).nxt 2).nxt x) 2 (by omega) (by omega)
  obtain ⟨y, q2, hy, i2⟩ := pick2 D.int (1 + ((s.nxt 3).nxt 2).val x) (0 - (1 + ((s.nxt 3).nxt 2).val x)) ((((s.nxt 3).nxt 2).nxt x).val 2) (Row.lo _ (by omega)) (Row.hi _ (by omega))
  have hy' : y = 1 + ((s.nxt 3).nxt 2).val x ∨ y = 0 - (1 + ((s.nxt 3).nxt 2).val x) := by simpa using hy
  have z1 : szo hs.length = true := szo_ok (by omega)
  have k1 := kAppend_ok
  have k2 := hist_one
  obtain ⟨h1, h2, h3, h4, h5⟩ := hk
  refine ⟨(((s.nxt 3).nxt 2).nxt x).nxt 2, (t + 1 + s.val 3, y), .int (1 + ((s.nxt 3).nxt 2).val x), ⟨okH_snoc (t := t) (by show t < t + 1 + s.val 3; omega) (by show y ≠ 0; omega) h1 h2 h4, ?_, ?_, by show 0 ≤ t + 1 + s.val 3; omega, by show t + 1 + s.val 3 ≤ _; rw [List.length_append, List.length_singleton]; omega⟩, ?_⟩
  · intro p hp
    rcases List.mem_append.mp hp with hp | hp
    · have := h2 p hp
      show p.1 ≤ t + 1 + s.val 3
      omega
    · rw [List.mem_singleton.mp hp]
      exact Int.le_refl _
  · intro p hp
    rcases List.mem_append.mp hp with hp | hp
    · exact h3 p hp
    · rw [List.mem_singleton.mp hp]
      show -9 ≤ y ∧ y ≤ 9
      omega
  · rw [ap_lp__law_history_0]
    clear h1 h2 h3 h4 h5 hl hx hx' hx0 hy hy' l1 u1 l3 u3
    walk_at "evh"
    exact ⟨_, rfl⟩
theorem nb_of {n : Nat} {i : Int} (h : i.natAbs ≤ n) : nb n i = true := nb_ok h
theorem history_drawn (s : Row) (m : Int) (h0 : 0 ≤ m) (hm : m ≤ 1000) : ∃ (hs : Hist) (s' : Row), HsOk hs (3 * hs.length) ∧ (hs.length : Int) ≤ m ∧ F__law_history [s.d, .int m] = .ok (.lst (hs.map encS)) [s'.d, .int m] := by
  have r1 := row_st
  have r2 := row_mv
  have t1 := taken s (m + 1) (by omega) (by omega)
  have l1 := s.lo (m := m + 1) (by omega)
  have u1 := s.hi (m := m + 1) (by omega)
  have n1 : nb 4611686018427387903 (s.val (m + 1)) = true := nb_ok (by omega)
  have ll : ((rngD 0 (s.val (m + 1)).toNat).length : Int) ≤ m := by
    unfold rngD
    rw [List.length_map, List.length_range]
    omega
  have key := loop_wp (g := gtName 4) (b := lp__law_history_0) (fun l e => ∃ (s : Row) (hs : Hist) (t : Int) (x4 x5 : D), e = [s.d, .int m, .lst (hs.map encS), .int t, x4, x5] ∧ HsOk hs t ∧ ((hs.length : Int) + l.length ≤ m))
    (fun o => ∃ (s' : Row) (hs : Hist) (x3 x4 x5 : D), o = .ok .nx [s'.d, .int m, .lst (hs.map encS), x3, x4, x5] true ∧ HsOk hs (3 * hs.length) ∧ (hs.length : Int) ≤ m)
    (fun d r e hI => by
      obtain ⟨s, hs, t, x4, x5, rfl, hk, hl⟩ := hI
      have hl' : (hs.length : Int) + (r.length + 1 : Nat) ≤ m := hl
      obtain ⟨s', p, y5, hk', tt, e⟩ := hist_turn s hs m t x5 d hk (by omega)
      refine ⟨[s.d, .int m, .lst (hs.map encS), .int t, d, x5], rfl, ?_⟩
      rw [e]
      exact ⟨s', hs ++ [p], p.1, d, y5, rfl, hk', by rw [List.length_append, List.length_singleton]; omega⟩)
    (fun e hI => by
      obtain ⟨s, hs, t, x4, x5, rfl, hk, hl⟩ := hI
      have ht := hk.t3
      exact ⟨s, hs, _, _, _, rfl, ⟨hk.ok, fun p hp => Int.le_trans (hk.le p hp) ht, hk.am, by omega, Int.le_refl _⟩, by simpa using hl⟩)
    (l := rngD 0 (s.val (m + 1)).toNat) (e := [(s.nxt (m + 1)).d, .int m, .lst [], .int 0, .mvd, .mvd]) ⟨s.nxt (m + 1), [], 0, _, _, rfl, ⟨trivial, (fun _ h => nomatch h), (fun _ h => nomatch h), Int.le_refl _, Int.le_refl _⟩, by simpa using ll⟩
  obtain ⟨s', hs, x3, x4, x5, e, hk, hl⟩ := key
  refine ⟨hs, s', hk, hl, ?_⟩
  unfold F__law_history b__law_history
  refine (ev_sem _ 2 _ _ _ rfl).trans ?_
  clear hk hl ll l1 u1 h0 hm
  walk_at "evh"

/-! ### things that may be settings -/
inductive Sc where
  | i (n : Int) | b (x : Bool) | s
def encSc : Sc → D
  | .i n => .int n
  | .b x => .bl x
  | .s => .str "1"
inductive Th where
  | non | num (n : Int) | one (n : Int) | lst (a b : Int) | p (a b : Sc)
def encTh : Th → D
  | .non => .non
  | .num n => .int n
  | .one n => .tup [.int n]
  | .lst a b => .fls [.int a, .int b]
  | .p a b => .tup [encSc a, encSc b]
def okTh : Th → Int → Bool
  | .p (.i a) (.i b), t => decide (t < a) && !decide (b = 0)
  | _, _ => false
def fstTh : Th → Int
  | .p (.i a) _ => a
  | _ => 0
def bad : Int → Nat → List Th → Option Nat
  | _, _, [] => none
  | t, i, x :: r => if okTh x t then bad (fstTh x) (i + 1) r else some i
theorem st_th (x : Th) : (encTh x).st = true := by
  cases x with
  | p a b => cases a <;> cases b <;> rfl
  | _ => rfl
theorem mv_th (x : Th) : (encTh x).mv = false := by cases x <;> rfl
theorem fz_th (x : Th) : (encTh x).fz = encTh x := by
  cases x with
  | p a b => cases a <;> cases b <;> rfl
  | _ => rfl
theorem nt_th (m : Nat) (x : Th) : (encTh x).nt m = true := by
  cases x with
  | p a b => cases a <;> cases b <;> rfl
  | _ => rfl
theorem st_ths (l : List Th) : stL (l.map encTh) = true := by
  induction l with
  | nil => rfl
  | cons x l ih => show ((encTh x).st && stL (l.map encTh)) = true; rw [st_th, ih]; rfl
theorem nt_ths (m : Nat) (l : List Th) : ntL m (l.map encTh) = true := by
  induction l with
  | nil => rfl
  | cons x l ih => show ((encTh x).nt m && ntL m (l.map encTh)) = true; rw [nt_th, ih]; rfl
section
theorem isT_non : gIsi "tuple" .non = some (.bl false) := rfl
theorem isT_int (n : Int) : gIsi "tuple" (.int n) = some (.bl false) := rfl
theorem isT_fls (l : List D) : gIsi "tuple" (.fls l) = some (.bl false) := rfl
theorem isT_tup (l : List D) : gIsi "tuple" (.tup l) = some (.bl true) := rfl
theorem isI_int (n : Int) : gIsi "int" (.int n) = some (.bl true) := rfl
theorem isI_bl (n : Bool) : gIsi "int" (.bl n) = some (.bl true) := rfl
theorem isI_str (n : Str) : gIsi "int" (.str n) = some (.bl false) := rfl
theorem isB_int (n : Int) : gIsi "bool" (.int n) = some (.bl false) := rfl
theorem isB_bl (n : Bool) : gIsi "bool" (.bl n) = some (.bl true) := rfl
theorem isB_str (n : Str) : gIsi "bool" (.str n) = some (.bl false) := rfl
theorem all2 (x y : Bool) : gAll (.lst [.bl x, .bl y]) = some (.bl (x && y)) := by cases x <;> cases y <;> rfl
end
theorem is_setting (x : Th) (t : Int) : F_is_setting [encTh x, .int t] = .ok (.bl (okTh x t)) [encTh x, .int t] := by
  unfold F_is_setting b_is_setting
  refine (ev_sem _ 2 _ _ _ rfl).trans ?_
  have f0 := isT_non
  have f1 := isT_int
  have f2 := isT_fls
  have f3 := isT_tup
  have f4 := isI_int
  have f5 := isI_bl
  have f6 := isI_str
  have f7 := isB_int
  have f8 := isB_bl
  have f10 := all2
  cases x with
  | p a b =>
    cases a with
    | i a =>
      cases b with
      | i b =>
        unfold encTh encSc okTh
        by_cases h : t < a <;> by_cases h2 : b = 0 <;> walk_at "evh"
      | b b => unfold encTh encSc okTh; walk_at "evh"
      | s => unfold encTh encSc okTh; walk_at "evh"
    | b a => cases b <;> (unfold encTh encSc okTh; walk_at "evh")
    | s => cases b <;> (unfold encTh encSc okTh; walk_at "evh")
  | _ => unfold encTh okTh; walk_at "evh"
def encI : Option Nat → D
  | none => .non
  | some k => .int k
/-- what check_history does: r: no error, or its index -/
def chk (v : D) : Option (Option Nat) → FO
  | none => .ok .non [v]
  | some e => .exc 13 [encI e] [v]
def chkL (x0 y1 y2 y3 : D) : Option Nat → O Fl
  | none => .ok .nx [x0, y1, y2, y3] true
  | some k => .exc 13 [.int k] [x0, y1, y2, y3]
theorem it_th0 (x : Th) (t : Int) (h : okTh x t = true) : itD (encTh x) (.int 0) = some (.int (fstTh x), none) := by
  cases x with
  | p a b =>
    cases a with
    | i a => exact it_tup0 _ _
    | _ => cases h
  | _ => cases h
theorem check_loop : ∀ (ts : List Th) (t : Int) (i : Nat) (x0 x2 x3 : D), ∃ y1 y2 y3, loopF (gtTup [gtName 2, gtName 3]) lp_check_history_0 (numD i (ts.map encTh)) [x0, .int t, x2, x3] = chkL x0 y1 y2 y3 (bad t i ts) := by
  intro ts
  induction ts with
  | nil => intro t i x0 x2 x3; exact ⟨_, _, _, rfl⟩
  | cons x ts ih =>
    intro t i x0 x2 x3
    have k1 := is_setting x t
    have k2 := ap_lp_check_history_0
    have k3 : numD i ((x :: ts).map encTh) = .tup [.int i, encTh x] :: numD (i + 1) (ts.map encTh) := rfl
    have k4 := st_th x
    have k5 := mv_th x
    rw [k3]
    unfold bad
    cases h : okTh x t with
    | true =>
      obtain ⟨y1, y2, y3, e⟩ := ih (fstTh x) (i + 1) x0 (.int i) (encTh x)
      refine ⟨y1, y2, y3, ?_⟩
      have k6 := it_th0 x t h
      clear ih
      walk_at "evh"
    | false =>
      refine ⟨.int t, .int i, encTh x, ?_⟩
      clear ih
      unfold chkL
      walk_at "evh"
theorem isi2_lst (ds : List D) : gIsi2 "list" "tuple" (.lst ds) = some (.bl true) := rfl
theorem isi2_fls (ds : List D) : gIsi2 "list" "tuple" (.fls ds) = some (.bl true) := rfl
theorem isi2_tup (ds : List D) : gIsi2 "list" "tuple" (.tup ds) = some (.bl true) := rfl
theorem check_history (k : Sk) (ts : List Th) : F_check_history [sqK k (ts.map encTh)] = chk (sqK k (ts.map encTh)) ((bad 0 0 ts).map some) := by
  unfold F_check_history b_check_history
  refine (ev_sem _ 1 _ _ _ rfl).trans ?_
  have e1 := isi2_lst
  have e0 := isi2_fls
  have e3 := isi2_tup
  have e2 := st_ths ts
  obtain ⟨y1, y2, y3, e⟩ := check_loop ts 0 0 (match k with | .l => .mvd | .f => .fls (ts.map encTh) | .t => .tup (ts.map encTh)) .mvd .mvd
  cases h : bad 0 0 ts with
  | none =>
    rw [h] at e
    unfold chkL at e
    unfold chk
    cases k <;> unfold sqK <;> simp only at e <;> walk_at "evh"
  | some i =>
    rw [h] at e
    unfold chkL at e
    unfold chk encI
    cases k <;> unfold sqK <;> simp only at e <;> walk_at "evh"

theorem bad_none : ∀ (ts : List Th) (t : Int) (i : Nat), bad t i ts = none → ∃ hs : Hist, ts.map encTh = hs.map encS ∧ hs.length = ts.length
  | [], _, _, _ => ⟨[], rfl, rfl⟩
  | x :: ts, t, i, h => by
    unfold bad at h
    cases hx : okTh x t with
    | false => rw [hx] at h; cases h
    | true =>
      rw [hx] at h
      obtain ⟨hs, e, l⟩ := bad_none ts _ _ h
      cases x with
      | p a b =>
        cases a with
        | i a =>
          cases b with
          | i b => exact ⟨(a, b) :: hs, by rw [List.map_cons, List.map_cons, e]; rfl, by simp [l]⟩
          | _ => cases hx
        | _ => cases hx
      | _ => cases hx
def wal (v : D) (x : Int) : Option (Option Nat) → FO
  | none => .ok (.int x) [v, .int 3]
  | some e => .exc 13 [encI e] [v, .int 3]
theorem wall_at (k : Sk) (ts : List Th) (hl : ts.length ≤ 100000) : ∃ x, F_wall_at [sqK k (ts.map encTh), .int 3] = wal (sqK k (ts.map encTh)) x ((bad 0 0 ts).map some) := by
  unfold F_wall_at b_wall_at
  have e1 := check_history k ts
  have e2 := st_ths ts
  cases h : bad 0 0 ts with
  | none =>
    obtain ⟨hs, e, l⟩ := bad_none ts 0 0 h
    refine ⟨rd hs 3, (ev_sem _ 2 _ _ _ rfl).trans ?_⟩
    have r := reading k hs 3 (by omega)
    rw [← e] at r
    rw [h] at e1
    unfold chk at e1
    unfold wal
    clear e
    cases k <;> unfold sqK at * <;> walk_at "evh"
  | some i =>
    refine ⟨0, (ev_sem _ 2 _ _ _ rfl).trans ?_⟩
    rw [h] at e1
    unfold chk at e1
    unfold wal
    cases k <;> unfold sqK at * <;> walk_at "evh"
theorem rngD_succ (lo : Int) (n : Nat) : rngD lo (n + 1) = .int lo :: rngD (lo + 1) n := by
  unfold rngD
  rw [List.range_succ_eq_map, List.map_cons, List.map_map]
  congr 1
  · rw [show (lo + ((0 : Nat) : Int)) = lo by omega]
  · apply List.map_congr_left
    intro i _
    show D.int (lo + ((i + 1 : Nat) : Int)) = D.int (lo + 1 + (i : Int))
    congr 1
    omega
def dueL (v x1 x3 x4 x5 : D) (x2 : D) : Option Nat → O Fl
  | none => .ok .nx [v, x1, x2, x3, x4, x5] true
  | some k => .ok (.rt (.lst [.int k, .bl true])) [v, x1, x2, x3, x4, x5] true
theorem it_sq (k : Sk) (ts : List Th) (i : Nat) (x : Th) (h : ts[i]? = some x) : ∃ q, itD (sqK k (ts.map encTh)) (.int i) = some (encTh x, q) := by
  have e : (ts.map encTh)[i]? = some (encTh x) := by rw [List.getElem?_map, h]; rfl
  cases k with
  | l => exact ⟨_, it_lst _ i _ e⟩
  | f => exact ⟨_, it_fls _ i _ e⟩
  | t => exact ⟨_, it_tup _ i _ e⟩
theorem st_sqK (k : Sk) (ts : List Th) : (sqK k (ts.map encTh)).st = !(match k with | .l => true | _ => false) := by
  cases k
  · rfl
  · rfl
  · exact st_ths ts
theorem mv_sqK (k : Sk) (ds : List D) : (sqK k ds).mv = false := by cases k <;> rfl
theorem due_turn (k : Sk) (ts : List Th) (t : Int) (i : Nat) (x : Th) (x3 x4 : D) (h : ts[i]? = some x) : ∃ y4, ∃ tt, lp__law_due_0 [sqK k (ts.map encTh), .int t, .int i, x3, x4, .mvd] =
    if okTh x t then .ok .nx [sqK k (ts.map encTh), .int (fstTh x), .int i, encTh x, y4, .mvd] tt else .ok (.rt (.lst [.int i, .bl true])) [sqK k (ts.map encTh), .int t, .int i, encTh x, y4, .mvd] tt := by
  obtain ⟨q, iq⟩ := it_sq k ts i x h
  have m0 := mv_sqK k (ts.map encTh)
  have s0 := st_sqK k ts
  have g1 := st_th x
  have g2 := mv_th x
  have f0 := isT_non
  have f1 := isT_int
  have f2 := isT_fls
  have f3 := isT_tup
  have f4 := isI_int
  have f5 := isI_bl
  have f6 := isI_str
  have f7 := isB_int
  have f8 := isB_bl
  have f9 := isB_str
  have n0 : gEqB Bool.not (.lst []) (.lst []) = some (.bl false) := rfl
  have n1 : ∀ b, gEqB Bool.not (.lst [.bl b]) (.lst []) = some (.bl true) := fun b => by cases b <;> rfl
  have n2 : gEqB Bool.not (.lst [.str "1"]) (.lst []) = some (.bl true) := by kernel_rfl
  have n3 : ∀ a b, gEqB Bool.not (.lst [.bl a, .bl b]) (.lst []) = some (.bl true) := fun a b => by cases a <;> cases b <;> rfl
  have n4 : ∀ a, gEqB Bool.not (.lst [.bl a, .str "1"]) (.lst []) = some (.bl true) := fun a => by cases a <;> kernel_rfl
  have n5 : ∀ a, gEqB Bool.not (.lst [.str "1", .bl a]) (.lst []) = some (.bl true) := fun a => by cases a <;> kernel_rfl
  have n6 : gEqB Bool.not (.lst [.str "1", .str "1"]) (.lst []) = some (.bl true) := by kernel_rfl
  have stp : ∀ (P : Prop), (∃ b : Bool, (sqK k (ts.map encTh)).st = b) := fun _ => ⟨_, rfl⟩
  rw [ap_lp__law_due_0]
  generalize sqK k (ts.map encTh) = V at *
  clear stp
  cases hV : V.st <;> rw [hV] at s0 <;> clear s0
  all_goals
    cases x with
    | p a b =>
      cases a with
      | i a =>
        cases b with
        | i b =>
          unfold encTh encSc okTh fstTh at *
          refine ⟨.lst [], ?_⟩
          by_cases h1 : t < a
          · have h1' : ¬ a ≤ t := by omega
            by_cases h2 : b = 0
            · walk_at "evh"
              exact ⟨_, rfl⟩
            · walk_at "evh"
              exact ⟨_, rfl⟩
          · have h1' : a ≤ t := by omega
            walk_at "evh"
            exact ⟨_, rfl⟩
        | b b => unfold encTh encSc okTh at *; refine ⟨.lst [.bl b], ?_⟩; walk_at "evh"; exact ⟨_, rfl⟩
        | s => unfold encTh encSc okTh at *; refine ⟨.lst [.str "1"], ?_⟩; walk_at "evh"; exact ⟨_, rfl⟩
      | b a =>
        cases b with
        | i b => unfold encTh encSc okTh at *; refine ⟨.lst [.bl a], ?_⟩; walk_at "evh"; exact ⟨_, rfl⟩
        | b b => unfold encTh encSc okTh at *; refine ⟨.lst [.bl a, .bl b], ?_⟩; walk_at "evh"; exact ⟨_, rfl⟩
        | s => unfold encTh encSc okTh at *; refine ⟨.lst [.bl a, .str "1"], ?_⟩; walk_at "evh"; exact ⟨_, rfl⟩
      | s =>
        cases b with
        | i b => unfold encTh encSc okTh at *; refine ⟨.lst [.str "1"], ?_⟩; walk_at "evh"; exact ⟨_, rfl⟩
        | b b => unfold encTh encSc okTh at *; refine ⟨.lst [.str "1", .bl b], ?_⟩; walk_at "evh"; exact ⟨_, rfl⟩
        | s => unfold encTh encSc okTh at *; refine ⟨.lst [.str "1", .str "1"], ?_⟩; walk_at "evh"; exact ⟨_, rfl⟩
    | _ => unfold encTh okTh at *; refine ⟨x4, ?_⟩; walk_at "evh"; exact ⟨_, rfl⟩
def dueD : Option (Option Nat) → D
  | none => .non
  | some e => .lst [encI e, .bl true]
theorem due_loop (k : Sk) (ts : List Th) : ∀ (r : List Th) (j : Nat) (t : Int) (x2 x3 x4 : D), (∀ i, r[i]? = ts[j + i]?) → ∃ y1 y2 y3 y4, loopF (gtName 2) lp__law_due_0 (rngD j r.length) [sqK k (ts.map encTh), .int t, x2, x3, x4, .mvd] =
    match bad t j r with
    | none => .ok .nx [sqK k (ts.map encTh), y1, y2, y3, y4, .mvd] true
    | some i => .ok (.rt (.lst [.int i, .bl true])) [sqK k (ts.map encTh), y1, y2, y3, y4, .mvd] true := by
  intro r
  induction r with
  | nil => intro j t x2 x3 x4 _; exact ⟨_, _, _, _, rfl⟩
  | cons x r ih =>
    intro j t x2 x3 x4 h
    have hx : ts[j]? = some x := by have := h 0; simpa using this.symm
    obtain ⟨y4, tt, e⟩ := due_turn k ts t j x x3 x4 hx
    rw [List.length_cons, rngD_succ, loopF_cons]
    have eg : gtName 2 (.int j) [sqK k (ts.map encTh), .int t, x2, x3, x4, .mvd] = some [sqK k (ts.map encTh), .int t, .int j, x3, x4, .mvd] := rfl
    rw [eg, lpA_some, e]
    unfold bad
    cases ho : okTh x t with
    | true =>
      rw [if_pos rfl, if_pos rfl, lpB_nx]
      have := ih (j + 1) (fstTh x) (.int j) (encTh x) y4 (fun i => by rw [show j + 1 + i = j + (i + 1) by omega, ← h (i + 1)]; rfl)
      rw [show ((j + 1 : Nat) : Int) = (j : Int) + 1 by omega] at this
      exact this
    | false =>
      rw [if_neg (by simp), if_neg (by simp), lpB_rt]
      exact ⟨_, _, _, _, rfl⟩
theorem due_val (k : Sk) (ts : List Th) (hl : ts.length ≤ 100000) : F__law_due [sqK k (ts.map encTh)] = .ok (dueD ((bad 0 0 ts).map some)) [sqK k (ts.map encTh)] := by
  unfold F__law_due b__law_due
  refine (ev_sem _ 1 _ _ _ rfl).trans ?_
  obtain ⟨y1, y2, y3, y4, e⟩ := due_loop k ts ts 0 0 .mvd .mvd .mvd (fun i => by rw [Nat.zero_add])
  have e1 := isi2_lst
  have e0 := isi2_fls
  have e3 := isi2_tup
  have e2 := st_ths ts
  have n1 : nb 4611686018427387903 (ts.length : Int) = true := nb_ok (by omega)
  have n2 : ((ts.length : Nat) : Int).toNat = ts.length := by omega
  have n3 : ((0 : Nat) : Int) = 0 := rfl
  rw [n3] at e
  clear hl
  cases h : bad 0 0 ts with
  | none =>
    rw [h] at e
    simp only at e
    unfold dueD
    cases k <;> unfold sqK at * <;> walk_at "evh"
  | some i =>
    rw [h] at e
    simp only at e
    unfold dueD encI
    cases k <;> unfold sqK at * <;> walk_at "evh"
/-- a value and what is wrong with it -/
structure VOk (v : D) (r : Option (Option Nat)) : Prop where
  chk : F_check_history [v] = chk v r
  wal : ∃ x, F_wall_at [v, .int 3] = wal v x r
  due : F__law_due [v] = .ok (dueD r) [v]
  n0 : v.nt 910 = true
  n1 : v.nt 911 = true
  n2 : v.nt 912 = true
  mv : v.mv = false
theorem vok_seq (k : Sk) (ts : List Th) (hl : ts.length ≤ 100000) : VOk (sqK k (ts.map encTh)) ((bad 0 0 ts).map some) := by
  have nt : ∀ m, (sqK k (ts.map encTh)).nt m = true := fun m => by cases k <;> exact nt_ths m ts
  exact ⟨check_history k ts, wall_at k ts hl, due_val k ts hl, nt _, nt _, nt _, mv_sqK k _⟩
theorem vok_odd (v : D) (h : v ∈ [D.non, .str "", .int 3, .fdc [] [], .bl true]) : VOk v (some none) := by
  have g : gIsi2 "list" "tuple" v = some (.bl false) ∧ v.st = true ∧ v.mv = false ∧ ∀ m, v.nt m = true := by
    simp only [List.mem_cons, List.not_mem_nil, or_false] at h
    rcases h with rfl | rfl | rfl | rfl | rfl <;> exact ⟨rfl, rfl, rfl, fun _ => rfl⟩
  obtain ⟨g1, g2, g3, g4⟩ := g
  have c : F_check_history [v] = chk v (some none) := by
    unfold F_check_history b_check_history
    refine (ev_sem _ 1 _ _ _ rfl).trans ?_
    unfold chk encI
    clear h g4
    walk_at "evh"
  refine ⟨c, ⟨0, ?_⟩, ?_, g4 _, g4 _, g4 _, g3⟩
  · unfold F_wall_at b_wall_at
    refine (ev_sem _ 2 _ _ _ rfl).trans ?_
    unfold chk at c
    unfold wal
    clear h g4
    walk_at "evh"
  · unfold F__law_due b__law_due
    refine (ev_sem _ 1 _ _ _ rfl).trans ?_
    unfold dueD encI
    clear h g4 c
    walk_at "evh"
theorem told_val (v : D) (r : Option (Option Nat)) (h : VOk v r) : F__law_told [v] = .ok (.lst [dueD r, dueD r]) [v] := by
  obtain ⟨c, ⟨x, w⟩, _, n0, n1, n2, m⟩ := h
  unfold F__law_told b__law_told
  refine (ev_sem _ 1 _ _ _ rfl).trans ?_
  have k1 := kAppend_ok
  have z0 : szo 0 = true := rfl
  have z1 : szo 1 = true := rfl
  rcases r with _ | _ | i
  · unfold chk at c
    unfold wal at w
    unfold dueD
    cases hv : v.st <;> walk_at "evh"
  · unfold chk encI at c
    unfold wal encI at w
    unfold dueD encI
    cases hv : v.st <;> walk_at "evh"
  · unfold chk encI at c
    unfold wal encI at w
    unfold dueD encI
    cases hv : v.st <;> walk_at "evh"

def Nx (o : O Fl) (e : OL.Env) : Prop := ∃ t, o = .ok .nx e t
theorem shut (hs : Hist) (t : Int) (hl : hs.length ≤ 100000) : F__law_shut [.fls (hs.map encS), .int t] = .ok (.int (rd hs t)) [.fls (hs.map encS), .int t] := by
  unfold F__law_shut b__law_shut
  refine (ev_sem _ 2 _ _ _ rfl).trans ?_
  have key := lc_map (own := [2]) (g := gtName 2) (b := bVal (fTwo (fIx (fVar 2) (fC (.int 0))) (fVar 1) gLe)) (fe := fIx (fVar 2) (fC (.int 1))) (e := [.fls (hs.map encS), .int t, .mvd]) (l := hs) (acc := []) encS (fun p => if p.1 ≤ t then some (.int p.2) else none) (fun p _ => by
    unfold encS
    by_cases h : p.1 ≤ t <;> walk_at "evh")
  have e3 := hist_fm hs t
  have e4 := sum_ints ((hs.filter fun p => p.1 ≤ t).map (·.2))
  walk_at "evh"
  rfl
def thOf (p : Int × Int) : Th := .p (.i p.1) (.i p.2)
theorem th_hist (hs : Hist) : hs.map encS = (hs.map thOf).map encTh := by
  rw [List.map_map]
  rfl
theorem bad_ok : ∀ (hs : Hist) (b : Int) (i : Nat), okH b hs → bad b i (hs.map thOf) = none
  | [], _, _, _ => rfl
  | p :: r, b, i, ⟨h1, h2, h3⟩ => by
    show (if okTh (thOf p) b then bad (fstTh (thOf p)) (i + 1) (r.map thOf) else some i) = none
    have e : okTh (thOf p) b = true := by
      show (decide (b < p.1) && !decide (p.2 = 0)) = true
      rw [decide_eq_true h1, decide_eq_false h2]
      rfl
    rw [e, if_pos rfl]
    exact bad_ok r p.1 (i + 1) h3
theorem wall_ok (hs : Hist) (t : Int) (h : okH 0 hs) (hl : hs.length ≤ 100000) : F_wall_at [.fls (hs.map encS), .int t] = .ok (.int (rd hs t)) [.fls (hs.map encS), .int t] := by
  unfold F_wall_at b_wall_at
  refine (ev_sem _ 2 _ _ _ rfl).trans ?_
  have e1 := check_history .f (hs.map thOf)
  rw [bad_ok hs 0 0 h, ← th_hist] at e1
  have e2 : F_check_history [.fls (hs.map encS)] = .ok .non [.fls (hs.map encS)] := e1
  have e3 : F_reading [.fls (hs.map encS), .int t] = .ok (.int (rd hs t)) [.fls (hs.map encS), .int t] := reading .f hs t hl
  clear h hl e1
  walk_at "evh"
section
variable (S : D) (s : Row) (x2 x3 x4 x6 x7 x8 x9 : D)
theorem sq0 : ∃ (hs : Hist) (s' : Row), HsOk hs (3 * hs.length) ∧ hs.length ≤ 5 ∧ Nx (sq_law_0 [S, s.d, x2, x3, x4, .mvd, x6, x7, x8, x9]) [S, s'.d, x2, .fls (hs.map encS), x4, .mvd, x6, x7, x8, x9] := by
  obtain ⟨hs, s', h1, h2, h3⟩ := history_drawn s 5 (by omega) (by omega)
  refine ⟨hs, s', h1, by omega, ?_⟩
  have r1 := row_st
  have r2 := row_mv
  have e2 : fzL (hs.map encS) = hs.map encS := fzL_st _ (st_hist hs)
  rw [ap_sq_law_0]
  clear h1 h2
  walk_at "evh"
  exact ⟨_, rfl⟩
def sc (p : Int × Int) : Int × Int := (p.1 * 100000000000000000000, p.2 * 10000000000000000000000000)
theorem okH_sc : ∀ (hs : Hist) (b : Int), okH b hs → okH (b * 100000000000000000000) (hs.map sc)
  | [], _, _ => trivial
  | p :: r, b, ⟨h1, h2, h3⟩ => ⟨by show b * 100000000000000000000 < p.1 * 100000000000000000000; omega, by show p.2 * 10000000000000000000000000 ≠ 0; omega, okH_sc r p.1 h3⟩
theorem okH_pos : ∀ (hs : Hist) (b : Int), okH b hs → ∀ p ∈ hs, b < p.1
  | [], _, _, _, h => nomatch h
  | q :: r, b, ⟨h1, h2, h3⟩, p, h => by
    rcases List.mem_cons.mp h with h | h
    · rw [h]; exact h1
    · exact Int.lt_trans h1 (okH_pos r q.1 h3 p h)
theorem sq1 (hs : Hist) (hk : HsOk hs (3 * hs.length)) (hl : hs.length ≤ 5) (h4 : (x4.st || x4.mv) = true) : ∃ (gs : Hist) (s' : Row), okH 0 gs ∧ gs.length ≤ 5 ∧ Nx (sq_law_1 [S, s.d, x2, .fls (hs.map encS), x4, .mvd, x6, x7, x8, x9]) [S, s'.d, x2, .fls (gs.map encS), x4, .mvd, x6, x7, x8, x9] := by
  have r1 := row_st
  have r2 := row_mv
  have t1 := taken s 2 (by omega) (by omega)
  by_cases hz : s.val 2 = 0
  · refine ⟨hs.map sc, s.nxt 2, okH_sc hs 0 hk.ok, by rw [List.length_map]; exact hl, ?_⟩
    have n20 : nb 18446744073709551615 (100000000000000000000 : Int) = false := by decide +kernel
    have n25 : nb 18446744073709551615 (10000000000000000000000000 : Int) = false := by decide +kernel
    have key := lc_map (own := [4, 5]) (g := gtTup [gtName 4, gtName 5]) (b := bYes) (fe := fDsp .tup (lCons (fTwo (fVar 4) (fTwo (fC (.int 10)) (fC (.int 20)) gPow) gMul) (lCons (fTwo (fVar 5) (fTwo (fC (.int 10)) (fC (.int 25)) gPow) gMul) lNil))) (e := [S, (s.nxt 2).d, x2, .fls (hs.map encS), .mvd, .mvd, x6, x7, x8, x9]) (l := hs) (acc := []) encS (fun p => some (encS (sc p))) (fun p hp => by
      have b1 := hk.le p hp
      have b2 := hk.am p hp
      have b3 := okH_pos hs 0 hk.ok p hp
      have c1 : nb 18446744073709551615 p.1 = true := nb_ok (by omega)
      have c2 : nb 18446744073709551615 p.2 = true := nb_ok (by omega)
      unfold encS sc
      clear hk hl h4 t1 hz b1 b2 b3 hp
      walk_at "evh")
    have em : (hs.filterMap fun p => some (encS (sc p))) = (hs.map sc).map encS := by
      rw [List.map_map, ← List.filterMap_eq_map]
      rfl
    rw [em] at key
    have e2 : fzL ((hs.map sc).map encS) = (hs.map sc).map encS := fzL_st _ (st_hist _)
    have ll : hs.length ≤ 100000 := by omega
    rw [ap_sq_law_1]
    rw [List.nil_append] at key
    generalize (hs.map sc).map encS = G at *
    clear em hk hl n20 n25
    walk_at "evh"
    exact ⟨_, rfl⟩
  · refine ⟨hs, s.nxt 2, hk.ok, hl, ?_⟩
    rw [ap_sq_law_1]
    clear hk hl
    walk_at "evh"
    exact ⟨_, rfl⟩
theorem sq2 (hs : Hist) (hk : okH 0 hs) (hl : hs.length ≤ 5) : ∃ y4, y4.st = true ∧ Nx (sq_law_2 [S, s.d, x2, .fls (hs.map encS), x4, .mvd, x6, x7, x8, x9]) [S, s.d, x2, .fls (hs.map encS), y4, .mvd, x6, x7, x8, x9] := by
  have r1 := row_st
  have r2 := row_mv
  have w := fun t => wall_ok hs t hk (by omega)
  have w2 := fun t => shut hs t (by omega)
  have g : ∀ t : Int, gEqB Bool.not (.int t) (.int t) = some (.bl false) := fun t => by rw [gEq_int, decide_eq_true rfl]; rfl
  have loop : ∀ (l : List Int) (x4 : D), (x4.st = true ∨ l ≠ []) → ∃ y4, y4.st = true ∧ loopF (gtName 4) lp_law_0 (l.map .int) [S, s.d, x2, .fls (hs.map encS), x4, .mvd, x6, x7, x8, x9] = .ok .nx [S, s.d, x2, .fls (hs.map encS), y4, .mvd, x6, x7, x8, x9] true := by
    intro l
    induction l with
    | nil => intro x4 h; exact ⟨x4, by simpa using h, rfl⟩
    | cons t l ih =>
      intro x4 _
      obtain ⟨y4, h, e⟩ := ih (.int t) (.inl rfl)
      refine ⟨y4, h, ?_⟩
      have k := ap_lp_law_0
      clear hk hl ih h
      walk_at "evh"
  obtain ⟨y4, h, e⟩ := loop [0, 1, 2, 5, 9, 10 ^ 20, 10 ^ 20 + 1, 10 ^ 60] x4 (.inr (by simp))
  refine ⟨y4, h, ?_⟩
  rw [ap_sq_law_2]
  simp only [List.map_cons, List.map_nil, Int.reducePow, Int.reduceAdd] at e
  clear hk hl loop h w w2
  walk_at "evh"
  exact ⟨_, rfl⟩
theorem sq3 (hs : Hist) : Nx (sq_law_3 [S, s.d, x2, .fls (hs.map encS), x4, .mvd, x6, x7, x8, x9]) [S, s.d, x2, .fls (hs.map encS), x4, .mvd, .lst (hs.map encS), x7, x8, x9] := by
  have e : gList (.fls (hs.map encS)) = some (.lst (hs.map encS)) := by
    show (if stL (hs.map encS) then _ else _) = _
    rw [st_hist]
    rfl
  rw [ap_sq_law_3]
  walk_at "evh"
  exact ⟨_, rfl⟩
def oddT : List Th := [.non, .num 3, .one 1, .p (.i 1) (.i 0), .p (.i 0) (.i 1), .p (.i (-1)) (.i 2), .p (.b true) (.i 2), .p (.i 2) (.b true), .p .s (.i 2), .lst 3 1, .p (.i 4) (.i 1), .p (.i 1) (.i 1)]
theorem sq4 : Nx (sq_law_4 [S, s.d, x2, x3, x4, .mvd, x6, x7, x8, x9]) [S, s.d, x2, x3, x4, .mvd, x6, .fls (oddT.map encTh), x8, x9] := by
  have e : gNeg (.int 1) = some (.int (-1)) := rfl
  rw [ap_sq_law_4]
  unfold oddT
  simp only [List.map_cons, List.map_nil, encTh, encSc]
  walk_at "evh"
  exact ⟨_, rfl⟩
end

section
variable (S : D) (s : Row) (x2 x3 x4 x6 x7 x8 x9 : D)
theorem pick12 (v : Int) (h0 : 0 ≤ v) (h1 : v < 12) : ∃ x : Th, itD (.fls (oddT.map encTh)) (.int v) = some (encTh x, none) := by
  have hl : v.toNat < oddT.length := by show v.toNat < 12; omega
  refine ⟨oddT[v.toNat], ?_⟩
  have e := it_fls (oddT.map encTh) v.toNat (encTh oddT[v.toNat]) (by rw [List.getElem?_map, List.getElem?_eq_getElem hl]; rfl)
  rw [show ((v.toNat : Nat) : Int) = v by omega] at e
  exact e
theorem ins_turn (ts : List Th) (d : D) (hl : ts.length ≤ 100) : ∃ (us : List Th) (s' : Row), us.length = ts.length + 1 ∧ Nx (lp_law_1 [S, s.d, x2, x3, x4, .mvd, .lst (ts.map encTh), .fls (oddT.map encTh), d, x9]) [S, s'.d, x2, x3, x4, .mvd, .lst (us.map encTh), .fls (oddT.map encTh), d, x9] := by
  have r1 := row_st
  have r2 := row_mv
  have t1 := taken s (ts.length + 1) (by omega) (by omega)
  have l1 := s.lo (m := ts.length + 1) (by omega)
  have u1 := s.hi (m := ts.length + 1) (by omega)
  have t2 := taken (s.nxt (ts.length + 1)) 12 (by omega) (by omega)
  obtain ⟨x, ix⟩ := pick12 ((s.nxt (ts.length + 1)).val 12) (Row.lo _ (by omega)) (Row.hi _ (by omega))
  have lo : oddT.length = 12 := rfl
  have g1 := st_th x
  have g2 := mv_th x
  have z1 : szo ts.length = true := szo_ok (by omega)
  have z2 : decide (0 ≤ s.val (ts.length + 1)) = true := decide_eq_true l1
  have z3 : decide (s.val (ts.length + 1) ≤ 1000000) = true := decide_eq_true (by omega)
  have k1 := kInsert_ok
  have em : (ts.map encTh).take (s.val (ts.length + 1)).toNat ++ [encTh x] ++ (ts.map encTh).drop (s.val (ts.length + 1)).toNat = (ts.take (s.val (ts.length + 1)).toNat ++ [x] ++ ts.drop (s.val (ts.length + 1)).toNat).map encTh := by
    rw [List.map_append, List.map_append, List.map_take, List.map_drop]
    rfl
  refine ⟨ts.take (s.val (ts.length + 1)).toNat ++ [x] ++ ts.drop (s.val (ts.length + 1)).toNat, (s.nxt (ts.length + 1)).nxt 12, ?_, ?_⟩
  · rw [List.length_append, List.length_append, List.length_take, List.length_drop, List.length_singleton]
    omega
  · rw [ap_lp_law_1, ← em]
    clear em l1 u1 hl
    walk_at "evh"
    exact ⟨_, rfl⟩
theorem sq5 (ts : List Th) (hl : ts.length ≤ 50) : ∃ (us : List Th) (s' : Row) (y8 : D), us.length ≤ 60 ∧ Nx (sq_law_5 [S, s.d, x2, x3, x4, .mvd, .lst (ts.map encTh), .fls (oddT.map encTh), x8, x9]) [S, s'.d, x2, x3, x4, .mvd, .lst (us.map encTh), .fls (oddT.map encTh), y8, x9] := by
  have r1 := row_st
  have r2 := row_mv
  have t1 := taken s 3 (by omega) (by omega)
  have l1 := s.lo (m := 3) (by omega)
  have u1 := s.hi (m := 3) (by omega)
  have n1 : nb 4611686018427387903 (s.val 3) = true := nb_ok (by omega)
  have ll : (rngD 0 (s.val 3).toNat).length ≤ 3 := by
    unfold rngD
    rw [List.length_map, List.length_range]
    omega
  have key := loop_wp (g := gtName 8) (b := lp_law_1) (fun l e => ∃ (s : Row) (us : List Th) (y8 : D), e = [S, s.d, x2, x3, x4, .mvd, .lst (us.map encTh), .fls (oddT.map encTh), y8, x9] ∧ us.length + l.length ≤ 60)
    (fun o => ∃ (s : Row) (us : List Th) (y8 : D), o = .ok .nx [S, s.d, x2, x3, x4, .mvd, .lst (us.map encTh), .fls (oddT.map encTh), y8, x9] true ∧ us.length ≤ 60)
    (fun d r e hI => by
      obtain ⟨s, us, y8, rfl, hu⟩ := hI
      rw [List.length_cons] at hu
      obtain ⟨vs, s', h1, t, h2⟩ := ins_turn S s x2 x3 x4 x9 us d (by omega)
      refine ⟨[S, s.d, x2, x3, x4, .mvd, .lst (us.map encTh), .fls (oddT.map encTh), d, x9], rfl, ?_⟩
      rw [h2]
      exact ⟨s', vs, d, rfl, by omega⟩)
    (fun e hI => by
      obtain ⟨s, us, y8, rfl, hu⟩ := hI
      exact ⟨s, us, y8, rfl, by simpa using hu⟩)
    (l := rngD 0 (s.val 3).toNat) (e := [S, (s.nxt 3).d, x2, x3, x4, .mvd, .lst (ts.map encTh), .fls (oddT.map encTh), x8, x9]) ⟨_, ts, x8, rfl, by omega⟩
  obtain ⟨s', us, y8, e, hu⟩ := key
  refine ⟨us, s', y8, hu, ?_⟩
  rw [ap_sq_law_5]
  clear hl hu l1 u1 ll
  walk_at "evh"
  exact ⟨_, rfl⟩
theorem pick5o (v : Int) (h0 : 0 ≤ v) (h1 : v < 5) : ∃ x : D, x ∈ [D.non, .str "", .int 3, .fdc [] [], .bl true] ∧ x.st = true ∧ itD (.fls [.non, .str "", .int 3, .fdc [] [], .bl true]) (.int v) = some (x, none) := by
  have h : v = 0 ∨ v = 1 ∨ v = 2 ∨ v = 3 ∨ v = 4 := by omega
  rcases h with h | h | h | h | h
  · subst h; exact ⟨_, by simp, rfl, it_fls0 _ _⟩
  · subst h; exact ⟨.str "", by simp, rfl, it_fls1 _ _ _⟩
  · subst h; exact ⟨.int 3, by simp, rfl, it_fls2 _ _ _ _⟩
  · subst h; exact ⟨.fdc [] [], by simp, rfl, it_fls3 _ _ _ _ _⟩
  · subst h; exact ⟨.bl true, by simp, rfl, it_fls4 _ _ _ _ _ _⟩
theorem sq6 (ts : List Th) (hl : ts.length ≤ 60) : ∃ (v : D) (r : Option (Option Nat)) (s' : Row), VOk v r ∧ Nx (sq_law_6 [S, s.d, x2, x3, x4, .mvd, .lst (ts.map encTh), x7, x8, x9]) [S, s'.d, x2, x3, x4, .mvd, v, x7, x8, x9] := by
  have r1 := row_st
  have r2 := row_mv
  have t1 := taken s 6 (by omega) (by omega)
  by_cases hz : s.val 6 = 0
  · have t2 := taken (s.nxt 6) 5 (by omega) (by omega)
    obtain ⟨v, hv, sv, iv⟩ := pick5o ((s.nxt 6).val 5) (Row.lo _ (by omega)) (Row.hi _ (by omega))
    refine ⟨v, _, (s.nxt 6).nxt 5, vok_odd v hv, ?_⟩
    have m := (vok_odd v hv).mv
    rw [ap_sq_law_6]
    clear hv
    walk_at "evh"
    exact ⟨_, rfl⟩
  · have t2 := taken (s.nxt 6) 2 (by omega) (by omega)
    by_cases hy : (s.nxt 6).val 2 = 0
    · refine ⟨_, _, (s.nxt 6).nxt 2, vok_seq .t ts (by omega), ?_⟩
      have e : gTuple (.lst (ts.map encTh)) = some (.tup (ts.map encTh)) := by
        show (if stL (ts.map encTh) then _ else _) = _
        rw [st_ths]
        rfl
      rw [ap_sq_law_6]
      unfold sqK
      clear hl
      walk_at "evh"
      exact ⟨_, rfl⟩
    · refine ⟨_, _, (s.nxt 6).nxt 2, vok_seq .l ts (by omega), ?_⟩
      rw [ap_sq_law_6]
      unfold sqK
      clear hl
      walk_at "evh"
      exact ⟨_, rfl⟩
def fzV (v : D) : D := v
theorem sq7 (v : D) (r : Option (Option Nat)) (h : VOk v r) : Nx (sq_law_7 [S, s.d, x2, x3, x4, .mvd, v, x7, x8, x9]) [S, s.d, x2, x3, x4, .mvd, v, x7, x8, (dueD r).fz] := by
  have r1 := row_st
  have r2 := row_mv
  have d := h.due
  have m := h.mv
  have m2 : (dueD r).mv = false := by rcases r with _ | _ | _ <;> rfl
  rw [ap_sq_law_7]
  cases hv : v.st <;> (clear h; walk_at "evh"; exact ⟨_, rfl⟩)
theorem due_eq (r : Option (Option Nat)) : gNe (.lst [dueD r, dueD r]) (.lst [(dueD r).fz, (dueD r).fz]) = some (.bl false) := by
  have h : ∃ p, (D.lst [dueD r, dueD r]).py = some p ∧ (D.lst [(dueD r).fz, (dueD r).fz]).py = some p ∧ SeqAt.shaped p = true := by
    rcases r with _ | _ | i
    · exact ⟨_, rfl, rfl, by kernel_rfl⟩
    · exact ⟨_, rfl, rfl, by kernel_rfl⟩
    · exact ⟨_, rfl, rfl, rfl⟩
  obtain ⟨p, h1, h2, h3⟩ := h
  refine (gEq_py Bool.not _ _ p p h1 h2 h3 h3).trans ?_
  rw [SeqAt.eqv_refl p (SeqAt.canLay_of_shaped h3)]
  rfl
theorem sq8 (v : D) (r : Option (Option Nat)) (h : VOk v r) : Nx (sq_law_8 [S, s.d, x2, x3, x4, .mvd, v, x7, x8, (dueD r).fz]) [S, s.d, x2, x3, x4, .mvd, v, x7, x8, (dueD r).fz] := by
  have r1 := row_st
  have r2 := row_mv
  have d := told_val v r h
  have m := h.mv
  have m2 : (dueD r).fz.mv = false := by rcases r with _ | _ | _ <;> rfl
  have m3 : (dueD r).fz.st = true := by rcases r with _ | _ | _ <;> rfl
  have q := due_eq r
  rw [ap_sq_law_8]
  generalize (dueD r).fz = E at *
  generalize dueD r = F at *
  cases hv : v.st <;> (clear h; walk_at "evh"; exact ⟨_, rfl⟩)
end
theorem nx_then {a b : SS} {e e1 e2 : OL.Env} (h1 : Nx (a e) e1) (h2 : Nx (b e1) e2) : Nx (sThen a b e) e2 := by
  obtain ⟨t, h⟩ := h1
  rw [Nx, ev_then, h, seq_nx]
  exact h2
theorem turn (S : D) (s : Row) (x2 x3 x4 x6 x7 x8 x9 : D) (h4 : (x4.st || x4.mv) = true) : ∃ (s' : Row) (y3 y4 y6 y7 y8 y9 : D), (y4.st || y4.mv) = true ∧ Nx (lp_law_2 [S, s.d, x2, x3, x4, .mvd, x6, x7, x8, x9]) [S, s'.d, x2, y3, y4, .mvd, y6, y7, y8, y9] := by
  obtain ⟨hs, s1, a1, a2, e0⟩ := sq0 S s x2 x3 x4 x6 x7 x8 x9
  obtain ⟨gs, s2, b1, b2, e1⟩ := sq1 S s1 x2 x4 x6 x7 x8 x9 hs a1 a2 h4
  obtain ⟨y4, c1, e2⟩ := sq2 S s2 x2 x4 x6 x7 x8 x9 gs b1 b2
  have e3 := sq3 S s2 x2 y4 x6 x7 x8 x9 gs
  have e4 := sq4 S s2 x2 (.fls (gs.map encS)) y4 (.lst (gs.map encS)) x7 x8 x9
  rw [th_hist gs] at e1 e2 e3 e4
  obtain ⟨us, s3, y8, d1, e5⟩ := sq5 S s2 x2 (.fls ((gs.map thOf).map encTh)) y4 x8 x9 (gs.map thOf) (by rw [List.length_map]; omega)
  obtain ⟨v, r, s4, f1, e6⟩ := sq6 S s3 x2 (.fls ((gs.map thOf).map encTh)) y4 (.fls (oddT.map encTh)) y8 x9 us d1
  have e7 := sq7 S s4 x2 (.fls ((gs.map thOf).map encTh)) y4 (.fls (oddT.map encTh)) y8 x9 v r f1
  have e8 := sq8 S s4 x2 (.fls ((gs.map thOf).map encTh)) y4 (.fls (oddT.map encTh)) y8 v r f1
  refine ⟨s4, .fls ((gs.map thOf).map encTh), y4, v, .fls (oddT.map encTh), y8, (dueD r).fz, by rw [c1]; rfl, ?_⟩
  rw [ap_lp_law_2]
  exact nx_then e0 (nx_then e1 (nx_then e2 (nx_then e3 (nx_then e4 (nx_then e5 (nx_then e6 (nx_then e7 e8)))))))
theorem plain (ns : List Int) (h : ns.length ≤ 63) : ∃ ds', F_law [.fls (ns.map .int)] = .ok (.bl true) ds' := by
  have key := loop_wp (g := gtName 2) (b := lp_law_2) (fun l e => ∃ (s : Row) (x2 x3 x4 x6 x7 x8 x9 : D), e = [.fls (ns.map .int), s.d, x2, x3, x4, .mvd, x6, x7, x8, x9] ∧ (x4.st || x4.mv) = true)
    (fun o => ∃ (s : Row) (x2 x3 x4 x6 x7 x8 x9 : D), o = .ok .nx [.fls (ns.map .int), s.d, x2, x3, x4, .mvd, x6, x7, x8, x9] true)
    (fun d r e hI => by
      obtain ⟨s, x2, x3, x4, x6, x7, x8, x9, rfl, h4⟩ := hI
      obtain ⟨s', y3, y4, y6, y7, y8, y9, h5, t, e⟩ := turn (.fls (ns.map .int)) s d x3 x4 x6 x7 x8 x9 h4
      refine ⟨[.fls (ns.map .int), s.d, d, x3, x4, .mvd, x6, x7, x8, x9], rfl, ?_⟩
      rw [e]
      exact ⟨s', _, _, _, _, _, _, _, rfl, h5⟩)
    (fun e hI => by
      obtain ⟨s, x2, x3, x4, x6, x7, x8, x9, rfl, h4⟩ := hI
      exact ⟨s, _, _, _, _, _, _, _, rfl⟩)
    (l := rngD 0 6) (e := [.fls (ns.map .int), Row.d ⟨ns, 0, 0, 0⟩, .mvd, .mvd, .mvd, .mvd, .mvd, .mvd, .mvd, .mvd]) ⟨⟨ns, 0, 0, 0⟩, _, _, _, _, _, _, _, rfl, rfl⟩
  obtain ⟨s, x2, x3, x4, x6, x7, x8, x9, e⟩ := key
  unfold F_law b_law
  have n3 : ((0 : Nat) : Int) = 0 := rfl
  unfold Row.d at e
  rw [n3] at e
  refine ⟨[.fls (ns.map .int)], (ev_sem _ 1 _ _ _ rfl).trans ?_⟩
  clear h
  walk_at "evh"

end CB
namespace CB
open PySem PySem.Spec PyProof.Rows L2 OL
def top (i : Nat) : Stmt := PySem.Challenge.pw_clockback_k03_histories.main.body.getD i (.Pass ⟨0, 0, 0, 0⟩)
/-- what the module has written -/
structure Gx (K : PySem.W.Frag) (w : World) (mg : Str → Option Value) : Prop where
  none : True
structure Qx (K : PySem.W.Frag) (cl : Nat → Option Cli) (mg : Str → Option Value) (a10 a13 : Addr) : Prop where
  q_ClockError : cl 10 = some ⟨a10, [], false⟩
  g_ClockError : mg "ClockError" = some (.ref a10)
  b_ClockError : ExB K a10
  q_InvalidHistory : cl 13 = some ⟨a13, ["index"], false⟩
  g_InvalidHistory : mg "InvalidHistory" = some (.ref a13)
  e_InvalidHistory : ExK K a13 ["index"]
  m_InvalidHistory_InvalidHistory : PySem.W.exmOne K (.ref a13) (.ref a13) = some true
  s_InvalidHistory_ClockError : PySem.W.kitOne K (.ref a13) (.ref a10) = some true
section
variable {P : Program} {w : World} {K : PySem.W.Frag} {mg : Str → Option Value} {base : Heap} {cl : Nat → Option Cli} { a10 a13 : Addr}
abbrev s__law_taken : Stmt := top 9
theorem sc__law_taken : FnScope ["_law_row", "_law_many", "_law_found", "_law_cell"] ["_law_row", "_law_many"] (defScope s__law_taken) := ⟨rfl, rfl, rfl, by decide +kernel, rfl, by decide +kernel, by decide +kernel⟩
theorem d__law_taken {f : Addr} {fd : FuncData} (T : Tx mg) (G : Gx K w mg ) (Q : Qx K cl mg a10 a13) (F : Fun K "_law_taken" "_law_taken" s__law_taken f fd) : FnOk P w K mg base (L2.CX P w) 1 f fd ["_law_row", "_law_many"] (spX K cl 2 F__law_taken) :=
  fn_x F sc__law_taken (by decide) fun fv cdv A outer s H E hr0 => by
    have hu := hr0.units
    have hu1 := hu_of hr0
    have hu2 := hu65 hr0
    exact (ss_cons (s_if (t_gt (x_item rfl hu1 (v 0) e_int) e_int) (ss_cons (s_asgN 2 sc__law_taken.nd (e_mod (b_int T.int (x_item rfl hu1 (v 0) e_int)) (v 1)))
      (ss_cons (s_setIx hu1 (e_fdiv (x_item rfl hu1 (v 0) e_int) (v 1)) (v 0) e_int)
      (ss_one (s_ret (v 2))))) ss_nil)
    (ss_cons (s_setIx hu1 (e_add rfl (x_item rfl hu1 (v 0) e_int) e_int) (v 0) e_int)
    (ss_cons (s_if (t_gt (x_item rfl hu1 (v 0) e_int) (b_len rfl T.len (x_item rfl hu1 (v 0) e_int))) (ss_cons (s_setIx hu1 (e_mod (b_int T.int (e_add rfl (e_mul (x_item rfl hu1 (v 0) e_int) e_int) e_int)) e_int) (v 0) e_int)
      (ss_one (s_ret (e_mod (b_int T.int (e_fdiv (x_item rfl hu1 (v 0) e_int) e_int)) (v 1))))) ss_nil)
    (ss_cons (s_asgN 3 sc__law_taken.nd (x_item rfl hu1 (x_item rfl hu1 (v 0) e_int) (e_sub (x_item rfl hu1 (v 0) e_int) e_int)))
    (ss_cons (s_setIx hu1 (e_mod (b_int T.int (e_add rfl (e_add rfl (e_mul (x_item rfl hu1 (v 0) e_int) e_int) (v 3)) e_int)) e_int) (v 0) e_int)
    (ss_cons (s_if (t_ge (v 3) (e_pow e_int e_int)) (ss_one (s_setIx hu1 (e_fdiv (v 3) (v 1)) (v 0) e_int)) ss_nil)
    (ss_one (s_ret (e_mod (b_int T.int (v 3)) (v 1))))))))))
abbrev s__law_history : Stmt := top 14
theorem sc__law_history : FnScope ["_law_row", "_law_many", "_law_found", "_law_time", "_law_k", "_law_amount"] ["_law_row", "_law_many"] (defScope s__law_history) := ⟨rfl, rfl, rfl, by decide +kernel, rfl, by decide +kernel, by decide +kernel⟩
theorem d__law_history {f : Addr} {fd : FuncData} (T : Tx mg) (G : Gx K w mg ) (Q : Qx K cl mg a10 a13) (c__law_taken : Cal P w K mg base cl 1 "_law_taken" ["_law_row", "_law_many"] F__law_taken) (F : Fun K "_law_history" "_law_history" s__law_history f fd) : FnOk P w K mg base (L2.CX P w) 2 f fd ["_law_row", "_law_many"] (spX K cl 2 F__law_history) :=
  fn_x F sc__law_history (by decide) fun fv cdv A outer s H E hr0 => by
    have hu := hr0.units
    have hu1 := hu_of hr0
    have hu2 := hu65 hr0
    exact (ss_cons (s_par 2 3 sc__law_history.nd (e_lst a_nil) e_int)
    (ss_cons (s_for (passes_of rfl) rfl (i_rng1 rfl T.range (a_cons (x_call c__law_taken (takes_of rfl rfl rfl rfl) (hr0.mono (by omega)) (a_cons (v 0) (a_cons (e_add rfl (v 1) e_int) a_nil))) a_nil)) (n 4 sc__law_history.nd) (ss_cons (s_asgN 3 sc__law_history.nd (e_add rfl (e_add rfl (v 3) e_int) (x_call c__law_taken (takes_of rfl rfl rfl rfl) (hr0.mono (by omega)) (a_cons (v 0) (a_cons e_int a_nil)))))
      (ss_cons (s_asgN 5 sc__law_history.nd (e_add rfl e_int (x_call c__law_taken (takes_of rfl rfl rfl rfl) (hr0.mono (by omega)) (a_cons (v 0) (a_cons (x_item rfl hu1 (e_lst (a_cons e_int (a_cons e_int a_nil))) (x_call c__law_taken (takes_of rfl rfl rfl rfl) (hr0.mono (by omega)) (a_cons (v 0) (a_cons e_int a_nil)))) a_nil)))))
      (ss_one (s_expr (x_append (v 2) (e_tup (a_cons (v 3) (a_cons (x_item rfl hu1 (e_lst (a_cons (v 5) (a_cons (e_sub e_int (v 5)) a_nil))) (x_call c__law_taken (takes_of rfl rfl rfl rfl) (hr0.mono (by omega)) (a_cons (v 0) (a_cons e_int a_nil)))) a_nil)))))))) (fun _ h => h))
    (ss_one (s_ret (v 2)))))
abbrev s_InvalidHistory___init__ : Stmt := inClass (top 2) 0
theorem sc_InvalidHistory___init__ : FnScope ["self", "index"] ["self", "index"] (defScope s_InvalidHistory___init__) := ⟨rfl, rfl, rfl, by decide +kernel, rfl, by decide +kernel, by decide +kernel⟩
theorem d_InvalidHistory___init__ {f : Addr} {fd : FuncData} (T : Tx mg) (G : Gx K w mg ) (Q : Qx K cl mg a10 a13) (F : Fun K "__init__" "InvalidHistory.__init__" s_InvalidHistory___init__ f fd) : FnOk P w K mg base (L2.CX P w) 1 f fd ["self", "index"] (spI1 a13 "index") :=
  fn_exc1 (k := 0) (msg := "invalid history") F sc_InvalidHistory___init__ Q.e_InvalidHistory.oex (Q.e_InvalidHistory.no "index" (by simp)) fun cdv A outer s H E hr0 => pss_cons (ps_expr (pe_cveinit rfl Q.g_ClockError Q.b_ClockError.s Q.b_ClockError.r Q.b_ClockError.v (pa_cons (pv 0) (pa_cons pe_str pa_nil)))) (pss_one (ps_ost (pv 0) (pv 1)))
abbrev s_is_setting : Stmt := top 4
theorem sc_is_setting : FnScope ["thing", "before", "part"] ["thing", "before"] (defScope s_is_setting) := ⟨rfl, rfl, rfl, by decide +kernel, rfl, by decide +kernel, by decide +kernel⟩
theorem d_is_setting {f : Addr} {fd : FuncData} (T : Tx mg) (G : Gx K w mg ) (Q : Qx K cl mg a10 a13) (F : Fun K "is_setting" "is_setting" s_is_setting f fd) : FnOk P w K mg base (L2.CX P w) 1 f fd ["thing", "before"] (spX K cl 2 F_is_setting) :=
  fn_x F sc_is_setting (by decide) fun fv cdv A outer s H E hr0 => by
    have hu := hr0.units
    have hu1 := hu_of hr0
    have hu2 := hu65 hr0
    exact (ss_cons (s_if (pt_of_pw (w_or (t_not (t_val (b_isi rfl T.isinstance T.tuple PyProof.Rows.boot_tuple (v 0)))) (w_or1 (t_ne rfl hu (b_len rfl T.len (v 0)) e_int)))) (ss_one (s_ret e_bl)) ss_nil)
    (ss_cons (s_if (t_not (t_val (b_all rfl rfl T.all (e_lc (own := [("part", 2)]) rfl sc_is_setting.nd (i_tup rfl (v 0)) ⟨rfl, of_decide_eq_true rfl, of_decide_eq_true rfl, of_decide_eq_true rfl, of_decide_eq_true rfl⟩ (fun _ _ _ _ _ => (n 2 sc_is_setting.nd)) (fun _ _ _ _ _ => k_none) (fun _ _ _ _ _ => (e_and (b_isi rfl T.isinstance T.int PyProof.Rows.boot_int (v 2)) (e_one (e_not (b_isi rfl T.isinstance T.bool PyProof.Rows.boot_bool (v 2)))))))))) (ss_one (s_ret e_bl)) ss_nil)
    (ss_one (s_ret (e_and (c_gt (x_item rfl hu1 (v 0) e_int) (v 1)) (e_one (c_ne rfl hu (x_item rfl hu1 (v 0) e_int) e_int)))))))
abbrev s_check_history : Stmt := top 5
theorem sc_check_history : FnScope ["value", "before", "index", "thing"] ["value"] (defScope s_check_history) := ⟨rfl, rfl, rfl, by decide +kernel, rfl, by decide +kernel, by decide +kernel⟩
theorem d_check_history {f : Addr} {fd : FuncData} (T : Tx mg) (G : Gx K w mg ) (Q : Qx K cl mg a10 a13) (x_InvalidHistory : CalX P w K mg base 1 "InvalidHistory" a13 "index") (c_is_setting : Cal P w K mg base cl 1 "is_setting" ["thing", "before"] F_is_setting) (F : Fun K "check_history" "check_history" s_check_history f fd) : FnOk P w K mg base (L2.CX P w) 3 f fd ["value"] (spX K cl 1 F_check_history) :=
  fn_x F sc_check_history (by decide) fun fv cdv A outer s H E hr0 => by
    have hu := hr0.units
    have hu1 := hu_of hr0
    have hu2 := hu65 hr0
    exact (ss_cons (s_if (t_not (t_val (b_isi2 rfl T.isinstance T.list PyProof.Rows.boot_list T.tuple PyProof.Rows.boot_tuple (v 0)))) (ss_one (x_raise1 x_InvalidHistory Q.q_InvalidHistory (takes_of rfl rfl rfl rfl) (hr0.mono (by omega)) (a_cons e_non a_nil))) ss_nil)
    (ss_cons (s_asgN 1 sc_check_history.nd e_int)
    (ss_one (s_for (passes_of rfl) rfl (i_or (i_enum rfl T.enumerate (a_cons (v 0) a_nil)) (i_enumL rfl T.enumerate (a_cons (v 0) a_nil))) (g_tup rfl rfl (gs_cons (n 2 sc_check_history.nd) (gs_cons (n 3 sc_check_history.nd) gs_nil))) (ss_cons (s_if (t_not (t_val (x_call c_is_setting (takes_of rfl rfl rfl rfl) (hr0.mono (by omega)) (a_cons (v 3) (a_cons (v 1) a_nil))))) (ss_one (x_raise1 x_InvalidHistory Q.q_InvalidHistory (takes_of rfl rfl rfl rfl) (hr0.mono (by omega)) (a_cons (v 2) a_nil))) ss_nil)
      (ss_one (s_asgN 1 sc_check_history.nd (x_item rfl hu1 (v 3) e_int)))) fxL_le))))
abbrev s_reading : Stmt := top 6
theorem sc_reading : FnScope ["history", "time", "at", "amount"] ["history", "time"] (defScope s_reading) := ⟨rfl, rfl, rfl, by decide +kernel, rfl, by decide +kernel, by decide +kernel⟩
theorem d_reading {f : Addr} {fd : FuncData} (T : Tx mg) (G : Gx K w mg ) (Q : Qx K cl mg a10 a13) (F : Fun K "reading" "reading" s_reading f fd) : FnOk P w K mg base (L2.CX P w) 1 f fd ["history", "time"] (spX K cl 2 F_reading) :=
  fn_x F sc_reading (by decide) fun fv cdv A outer s H E hr0 => by
    have hu := hr0.units
    have hu1 := hu_of hr0
    have hu2 := hu65 hr0
    exact (ss_one (s_ret (e_add rfl (v 1) (b_sum rfl rfl T.sum (e_lc (own := [("at", 2), ("amount", 3)]) rfl sc_reading.nd (i_any rfl (v 0)) ⟨rfl, of_decide_eq_true rfl, of_decide_eq_true rfl, of_decide_eq_true rfl, of_decide_eq_true rfl⟩ (fun _ _ _ _ _ => (g_tup rfl rfl (gs_cons (n 2 sc_reading.nd) (gs_cons (n 3 sc_reading.nd) gs_nil)))) (fun _ _ _ _ _ => (k_one (t_le (v 2) (v 1)))) (fun _ _ _ _ _ => (v 3)))))))
abbrev s_wall_at : Stmt := top 7
theorem sc_wall_at : FnScope ["history", "time"] ["history", "time"] (defScope s_wall_at) := ⟨rfl, rfl, rfl, by decide +kernel, rfl, by decide +kernel, by decide +kernel⟩
theorem d_wall_at {f : Addr} {fd : FuncData} (T : Tx mg) (G : Gx K w mg ) (Q : Qx K cl mg a10 a13) (c_check_history : Cal P w K mg base cl 3 "check_history" ["value"] F_check_history) (c_reading : Cal P w K mg base cl 1 "reading" ["history", "time"] F_reading) (F : Fun K "wall_at" "wall_at" s_wall_at f fd) : FnOk P w K mg base (L2.CX P w) 4 f fd ["history", "time"] (spX K cl 2 F_wall_at) :=
  fn_x F sc_wall_at (by decide) fun fv cdv A outer s H E hr0 => by
    have hu := hr0.units
    have hu1 := hu_of hr0
    have hu2 := hu65 hr0
    exact (ss_cons (s_expr (x_call c_check_history (takes_of rfl rfl rfl rfl) (hr0.mono (by omega)) (a_cons (v 0) a_nil)))
    (ss_one (s_ret (x_call c_reading (takes_of rfl rfl rfl rfl) (hr0.mono (by omega)) (a_cons (v 0) (a_cons (v 1) a_nil))))))
abbrev s__law_shut : Stmt := top 15
theorem sc__law_shut : FnScope ["_law_history_here", "_law_time", "_law_one"] ["_law_history_here", "_law_time"] (defScope s__law_shut) := ⟨rfl, rfl, rfl, by decide +kernel, rfl, by decide +kernel, by decide +kernel⟩
theorem d__law_shut {f : Addr} {fd : FuncData} (T : Tx mg) (G : Gx K w mg ) (Q : Qx K cl mg a10 a13) (F : Fun K "_law_shut" "_law_shut" s__law_shut f fd) : FnOk P w K mg base (L2.CX P w) 1 f fd ["_law_history_here", "_law_time"] (spX K cl 2 F__law_shut) :=
  fn_x F sc__law_shut (by decide) fun fv cdv A outer s H E hr0 => by
    have hu := hr0.units
    have hu1 := hu_of hr0
    have hu2 := hu65 hr0
    exact (ss_one (s_ret (e_add rfl (v 1) (b_sum rfl rfl T.sum (e_lc (own := [("_law_one", 2)]) rfl sc__law_shut.nd (i_list rfl (v 0)) ⟨rfl, of_decide_eq_true rfl, of_decide_eq_true rfl, of_decide_eq_true rfl, of_decide_eq_true rfl⟩ (fun _ _ _ _ _ => (n 2 sc__law_shut.nd)) (fun _ _ _ _ _ => (k_one (t_le (x_item rfl hu1 (v 2) e_int) (v 1)))) (fun _ _ _ _ _ => (x_item rfl hu1 (v 2) e_int)))))))
abbrev s__law_due : Stmt := top 22
theorem sc__law_due : FnScope ["_law_value", "_law_before", "_law_k", "_law_one", "_law_wrong", "_law_part"] ["_law_value"] (defScope s__law_due) := ⟨rfl, rfl, rfl, by decide +kernel, rfl, by decide +kernel, by decide +kernel⟩
theorem d__law_due {f : Addr} {fd : FuncData} (T : Tx mg) (G : Gx K w mg ) (Q : Qx K cl mg a10 a13) (F : Fun K "_law_due" "_law_due" s__law_due f fd) : FnOk P w K mg base (L2.CX P w) 1 f fd ["_law_value"] (spX K cl 1 F__law_due) :=
  fn_x F sc__law_due (by decide) fun fv cdv A outer s H E hr0 => by
    have hu := hr0.units
    have hu1 := hu_of hr0
    have hu2 := hu65 hr0
    exact (ss_cons (s_if (t_not (t_val (b_isi2 rfl T.isinstance T.list PyProof.Rows.boot_list T.tuple PyProof.Rows.boot_tuple (v 0)))) (ss_one (s_ret (e_lst (a_cons e_non (a_cons e_bl a_nil))))) ss_nil)
    (ss_cons (s_asgN 1 sc__law_due.nd e_int)
    (ss_cons (s_for (passes_of rfl) rfl (i_rng1 rfl T.range (a_cons (b_len rfl T.len (v 0)) a_nil)) (n 2 sc__law_due.nd) (ss_cons (s_asgN 3 sc__law_due.nd (x_item rfl hu1 (v 0) (v 2)))
      (ss_cons (s_if (pt_of_pw (w_or (t_not (t_val (b_isi rfl T.isinstance T.tuple PyProof.Rows.boot_tuple (v 3)))) (w_or1 (t_ne rfl hu (b_len rfl T.len (v 3)) e_int)))) (ss_one (s_ret (e_lst (a_cons (v 2) (a_cons e_bl a_nil))))) ss_nil)
      (ss_cons (s_setLc (own := [("_law_part", 5)]) (i := 4) rfl sc__law_due.nd rfl rfl rfl (i_tup rfl (v 3)) ⟨rfl, of_decide_eq_true rfl, of_decide_eq_true rfl, of_decide_eq_true rfl, of_decide_eq_true rfl⟩ (fun _ _ _ _ _ => (n 5 sc__law_due.nd)) (fun _ _ _ _ _ => (k_one (pt_of_pw (w_or (t_not (t_val (b_isi rfl T.isinstance T.int PyProof.Rows.boot_int (v 5)))) (w_or1 (t_val (b_isi rfl T.isinstance T.bool PyProof.Rows.boot_bool (v 5)))))))) (fun _ _ _ _ _ => (v 5)))
      (ss_cons (s_if (pt_of_pw (w_or (t_ne rfl hu (v 4) (e_lst a_nil)) (w_or (t_le (x_item rfl hu1 (v 3) e_int) (v 1)) (w_or1 (t_eq rfl hu (x_item rfl hu1 (v 3) e_int) e_int))))) (ss_one (s_ret (e_lst (a_cons (v 2) (a_cons e_bl a_nil))))) ss_nil)
      (ss_one (s_asgN 1 sc__law_due.nd (x_item rfl hu1 (v 3) e_int))))))) (fun _ h => h))
    (ss_one (s_ret e_non)))))
abbrev s__law_told : Stmt := top 21
theorem sc__law_told : FnScope ["_law_value", "_law_found", "e"] ["_law_value"] (defScope s__law_told) := ⟨rfl, rfl, rfl, by decide +kernel, rfl, by decide +kernel, by decide +kernel⟩
theorem d__law_told {f : Addr} {fd : FuncData} (T : Tx mg) (G : Gx K w mg ) (Q : Qx K cl mg a10 a13) (c_check_history : Cal P w K mg base cl 3 "check_history" ["value"] F_check_history) (c_wall_at : Cal P w K mg base cl 4 "wall_at" ["history", "time"] F_wall_at) (F : Fun K "_law_told" "_law_told" s__law_told f fd) : FnOk P w K mg base (L2.CX P w) 5 f fd ["_law_value"] (spX K cl 1 F__law_told) :=
  fn_x F sc__law_told (by decide) fun fv cdv A outer s H E hr0 => by
    have hu := hr0.units
    have hu1 := hu_of hr0
    have hu2 := hu65 hr0
    exact (ss_cons (s_asgN 1 sc__law_told.nd (e_lst a_nil))
    (ss_cons (s_try (n := 910) (i := 2) rfl rfl sc__law_told.nd rfl rfl ⟨rfl, by decide, .inl Q.g_InvalidHistory⟩ (takes_of rfl rfl rfl rfl) rfl Q.q_InvalidHistory Q.m_InvalidHistory_InvalidHistory (fun y hy => by cases hy) (fun _ _ _ tk1 po1 => (ss_one (s_expr (x_append (v 1) (x_call c_check_history tk1 (hr0.mono (by omega)) (a_cons (v 0) a_nil)))))) (fun _ _ _ _ hz hf => (ss_one (s_expr (x_append (v 1) (e_lst (a_cons (e_xfld (n := 910) su_c hz hf Q.e_InvalidHistory.xf (Q.e_InvalidHistory.no "index" (by simp)) Q.q_InvalidHistory rfl (v 2)) (a_cons (e_isX (n := 910) su_c hz T.isinstance (pe_glob (v := .ref _) rfl Q.g_ClockError rfl) (fun _ h => h) Q.s_InvalidHistory_ClockError (v 2)) a_nil))))))))
    (ss_cons (s_try (n := 910) (i := 2) rfl rfl sc__law_told.nd rfl rfl ⟨rfl, by decide, .inl Q.g_InvalidHistory⟩ (takes_of rfl rfl rfl rfl) rfl Q.q_InvalidHistory Q.m_InvalidHistory_InvalidHistory (fun y hy => by cases hy) (fun _ _ _ tk1 po1 => (ss_cons (s_expr (x_call c_wall_at tk1 (hr0.mono (by omega)) (a_cons (v 0) (a_cons e_int a_nil))))
      (ss_one (s_expr (x_append (v 1) e_non))))) (fun _ _ _ _ hz hf => (ss_one (s_expr (x_append (v 1) (e_lst (a_cons (e_xfld (n := 910) su_c hz hf Q.e_InvalidHistory.xf (Q.e_InvalidHistory.no "index" (by simp)) Q.q_InvalidHistory rfl (v 2)) (a_cons (e_isX (n := 910) su_c hz T.isinstance (pe_glob (v := .ref _) rfl Q.g_ClockError rfl) (fun _ h => h) Q.s_InvalidHistory_ClockError (v 2)) a_nil))))))))
    (ss_one (s_ret (v 1))))))
abbrev s_law : Stmt := top 23
theorem sc_law : FnScope ["_law_script", "_law_row", "_law_turn", "_law_history_here", "_law_time", "_law_amount", "_law_value", "_law_odd", "_law_k", "_law_due_here"] ["_law_script"] (defScope s_law) := ⟨rfl, rfl, rfl, by decide +kernel, rfl, by decide +kernel, by decide +kernel⟩
theorem d_law {f : Addr} {fd : FuncData} (T : Tx mg) (G : Gx K w mg ) (Q : Qx K cl mg a10 a13) (c__law_history : Cal P w K mg base cl 2 "_law_history" ["_law_row", "_law_many"] F__law_history) (c__law_taken : Cal P w K mg base cl 1 "_law_taken" ["_law_row", "_law_many"] F__law_taken) (c_wall_at : Cal P w K mg base cl 4 "wall_at" ["history", "time"] F_wall_at) (c__law_shut : Cal P w K mg base cl 1 "_law_shut" ["_law_history_here", "_law_time"] F__law_shut) (c__law_due : Cal P w K mg base cl 1 "_law_due" ["_law_value"] F__law_due) (c__law_told : Cal P w K mg base cl 5 "_law_told" ["_law_value"] F__law_told) (F : Fun K "law" "law" s_law f fd) : FnOk P w K mg base (L2.CX P w) 6 f fd ["_law_script"] (spX K cl 1 F_law) :=
  fn_x F sc_law (by decide) fun fv cdv A outer s H E hr0 => by
    have hu := hr0.units
    have hu1 := hu_of hr0
    have hu2 := hu65 hr0
    exact (ss_cons (s_asgN 1 sc_law.nd (e_lst (a_cons (v 0) (a_cons e_int (a_cons e_int (a_cons e_int a_nil))))))
    (ss_cons (s_for (passes_of rfl) rfl (i_rng1 rfl T.range (a_cons e_int a_nil)) (n 2 sc_law.nd) (ss_cons (s_fz (i := 3) (s_asgN 3 sc_law.nd (x_call c__law_history (takes_of rfl rfl rfl rfl) (hr0.mono (by omega)) (a_cons (v 1) (a_cons e_int a_nil)))))
      (ss_cons (s_if (t_eq rfl hu (x_call c__law_taken (takes_of rfl rfl rfl rfl) (hr0.mono (by omega)) (a_cons (v 1) (a_cons e_int a_nil))) e_int) (ss_one (s_fz (i := 3) (s_setLc (own := [("_law_time", 4), ("_law_amount", 5)]) (i := 3) rfl sc_law.nd rfl rfl rfl (i_list rfl (v 3)) ⟨rfl, of_decide_eq_true rfl, of_decide_eq_true rfl, of_decide_eq_true rfl, of_decide_eq_true rfl⟩ (fun _ _ _ _ _ => (g_tup rfl rfl (gs_cons (n 4 sc_law.nd) (gs_cons (n 5 sc_law.nd) gs_nil)))) (fun _ _ _ _ _ => k_none) (fun _ _ _ _ _ => (e_tup (a_cons (e_mul (v 4) (e_pow e_int e_int)) (a_cons (e_mul (v 5) (e_pow e_int e_int)) a_nil))))))) ss_nil)
      (ss_cons (s_for (passes_of rfl) rfl (i_list rfl (e_lst (a_cons e_int (a_cons e_int (a_cons e_int (a_cons e_int (a_cons e_int (a_cons (e_pow e_int e_int) (a_cons (e_add rfl (e_pow e_int e_int) e_int) (a_cons (e_pow e_int e_int) a_nil)))))))))) (n 4 sc_law.nd) (ss_one (s_if (t_ne rfl hu (x_call c_wall_at (takes_of rfl rfl rfl rfl) (hr0.mono (by omega)) (a_cons (v 3) (a_cons (v 4) a_nil))) (x_call c__law_shut (takes_of rfl rfl rfl rfl) (hr0.mono (by omega)) (a_cons (v 3) (a_cons (v 4) a_nil)))) (ss_one (s_ret e_bl)) ss_nil)) (fun _ h => h))
      (ss_cons (s_asgN 6 sc_law.nd (b_list rfl rfl T.list (v 3)))
      (ss_cons (s_fz (i := 7) (s_asgN 7 sc_law.nd (e_lst (a_cons e_non (a_cons e_int (a_cons (e_tup (a_cons e_int a_nil)) (a_cons (e_tup (a_cons e_int (a_cons e_int a_nil))) (a_cons (e_tup (a_cons e_int (a_cons e_int a_nil))) (a_cons (e_tup (a_cons (e_neg e_int) (a_cons e_int a_nil))) (a_cons (e_tup (a_cons e_bl (a_cons e_int a_nil))) (a_cons (e_tup (a_cons e_int (a_cons e_bl a_nil))) (a_cons (e_tup (a_cons e_str (a_cons e_int a_nil))) (a_cons (e_lst (a_cons e_int (a_cons e_int a_nil))) (a_cons (e_tup (a_cons e_int (a_cons e_int a_nil))) (a_cons (e_tup (a_cons e_int (a_cons e_int a_nil))) a_nil)))))))))))))))
      (ss_cons (s_for (passes_of rfl) rfl (i_rng1 rfl T.range (a_cons (x_call c__law_taken (takes_of rfl rfl rfl rfl) (hr0.mono (by omega)) (a_cons (v 1) (a_cons e_int a_nil))) a_nil)) (n 8 sc_law.nd) (ss_one (s_expr (x_insert (v 6) (x_call c__law_taken (takes_of rfl rfl rfl rfl) (hr0.mono (by omega)) (a_cons (v 1) (a_cons (e_add rfl (b_len rfl T.len (v 6)) e_int) a_nil))) (x_item rfl hu1 (v 7) (x_call c__law_taken (takes_of rfl rfl rfl rfl) (hr0.mono (by omega)) (a_cons (v 1) (a_cons (b_len rfl T.len (v 7)) a_nil))))))) (fun _ h => h))
      (ss_cons (s_if (t_eq rfl hu (x_call c__law_taken (takes_of rfl rfl rfl rfl) (hr0.mono (by omega)) (a_cons (v 1) (a_cons e_int a_nil))) e_int) (ss_one (s_asgN 6 sc_law.nd (x_item rfl hu1 (e_frz (e_lst (a_cons e_non (a_cons e_str (a_cons e_int (a_cons e_dct0 (a_cons e_bl a_nil))))))) (x_call c__law_taken (takes_of rfl rfl rfl rfl) (hr0.mono (by omega)) (a_cons (v 1) (a_cons e_int a_nil)))))) (ss_one (s_if (t_eq rfl hu (x_call c__law_taken (takes_of rfl rfl rfl rfl) (hr0.mono (by omega)) (a_cons (v 1) (a_cons e_int a_nil))) e_int) (ss_one (s_asgN 6 sc_law.nd (b_tuple rfl T.tuple (v 6)))) ss_nil)))
      (ss_cons (s_fz (i := 9) (s_asgN 9 sc_law.nd (x_call c__law_due (takes_of rfl rfl rfl rfl) (hr0.mono (by omega)) (a_cons (v 6) a_nil))))
      (ss_one (s_if (t_ne rfl hu (x_call c__law_told (takes_of rfl rfl rfl rfl) (hr0.mono (by omega)) (a_cons (v 6) a_nil)) (e_lst (a_cons (v 9) (a_cons (v 9) a_nil)))) (ss_one (s_ret e_bl)) ss_nil)))))))))) (fun _ h => h))
    (ss_one (s_ret e_bl))))
end
/-! ### the head -/
def fa : List Fk := [kFree "len",
  kFree "sum",
  kFree "all",
  kFree "any",
  kFree "int",
  kFree "list",
  kFree "tuple",
  kFree "dict",
  kFree "max",
  kFree "min",
  kFree "range",
  kFree "sorted",
  kFree "enumerate",
  kFree "isinstance",
  kFree "str",
  kFree "bool",
  kGlo "ClockError",
  kExB "ClockError",
  kGlo "InvalidHistory",
  kExc "InvalidHistory" ["index"],
  kExm "InvalidHistory" "InvalidHistory" true,
  kIso "InvalidHistory" "ClockError",
  kGlo "_law_taken",
  kGlo "_law_history",
  kXin "InvalidHistory",
  kGlo "is_setting",
  kGlo "check_history",
  kGlo "reading",
  kGlo "wall_at",
  kGlo "_law_shut",
  kGlo "_law_due",
  kGlo "_law_told",
  kGlo "law"]
def fn : List DefP := [dp (pG "_law_taken") "_law_taken" "_law_taken" s__law_taken,
  dp (pG "_law_history") "_law_history" "_law_history" s__law_history,
  dp (pM "InvalidHistory" "__init__") "__init__" "InvalidHistory.__init__" s_InvalidHistory___init__,
  dp (pG "is_setting") "is_setting" "is_setting" s_is_setting,
  dp (pG "check_history") "check_history" "check_history" s_check_history,
  dp (pG "reading") "reading" "reading" s_reading,
  dp (pG "wall_at") "wall_at" "wall_at" s_wall_at,
  dp (pG "_law_shut") "_law_shut" "_law_shut" s__law_shut,
  dp (pG "_law_due") "_law_due" "_law_due" s__law_due,
  dp (pG "_law_told") "_law_told" "_law_told" s__law_told,
  dp (pG "law") "law" "law" s_law]
def ts : List (Pth × List Str) := []
theorem all_mk {P : Program} {w : World} {K : PySem.W.Frag} {h : Heap} {mg : Str → Option Value} (X : K.In h) (G0 : h.Ns mainGlobals mg) (c : Told fa fn ts w K) : ∃ (fd : FuncData) (cl : Nat → Option Cli), (∀ (s : Shared) (v : Value), BindsTo s fd ⟨[v], []⟩ [("_law_script", v)]) ∧ ∀ base : Heap, FnOk P w K mg base (L2.CX P w) 6 (pG "law" K) fd ["_law_script"] (spX K cl 1 F_law) := by
  have T : Tx mg := ⟨He.free_ok X G0 (c.fact 0), He.free_ok X G0 (c.fact 1), He.free_ok X G0 (c.fact 2), He.free_ok X G0 (c.fact 3), He.free_ok X G0 (c.fact 4), He.free_ok X G0 (c.fact 5), He.free_ok X G0 (c.fact 6), He.free_ok X G0 (c.fact 7), He.free_ok X G0 (c.fact 8), He.free_ok X G0 (c.fact 9), He.free_ok X G0 (c.fact 10), He.free_ok X G0 (c.fact 11), He.free_ok X G0 (c.fact 12), He.free_ok X G0 (c.fact 13), He.free_ok X G0 (c.fact 14), He.free_ok X G0 (c.fact 15)⟩
  have G : Gx K w mg  := ⟨trivial⟩
  let cl : Nat → Option Cli := fun n => match n with | 10 => some ⟨pG "ClockError" K, [], false⟩ | 13 => some ⟨pG "InvalidHistory" K, ["index"], false⟩ | _ => none
  have Q : Qx K cl mg (pG "ClockError" K) (pG "InvalidHistory" K) := ⟨rfl, He.glo_ok X G0 (c.fact 16), kExB_ok (c.fact 17), rfl, He.glo_ok X G0 (c.fact 18), kExc_ok (c.fact 19), kExm_ok (c.fact 20), kIso_ok (c.fact 21)⟩
  obtain ⟨fd__law_taken, Fn__law_taken⟩ := c.fun_ 0
  have bd__law_taken := Fn__law_taken.binds (ps := ["_law_row", "_law_many"]) fun _ _ _ _ _ _ us hl => match us, hl with | [_, _], _ => rfl
  obtain ⟨fd__law_history, Fn__law_history⟩ := c.fun_ 1
  have bd__law_history := Fn__law_history.binds (ps := ["_law_row", "_law_many"]) fun _ _ _ _ _ _ us hl => match us, hl with | [_, _], _ => rfl
  obtain ⟨fd_InvalidHistory___init__, Fn_InvalidHistory___init__⟩ := c.fun_ 2
  have bd_InvalidHistory___init__ := Fn_InvalidHistory___init__.binds (ps := ["self", "index"]) fun _ _ _ _ _ _ us hl => match us, hl with | [_, _], _ => rfl
  obtain ⟨fd_is_setting, Fn_is_setting⟩ := c.fun_ 3
  have bd_is_setting := Fn_is_setting.binds (ps := ["thing", "before"]) fun _ _ _ _ _ _ us hl => match us, hl with | [_, _], _ => rfl
  obtain ⟨fd_check_history, Fn_check_history⟩ := c.fun_ 4
  have bd_check_history := Fn_check_history.binds (ps := ["value"]) fun _ _ _ _ _ _ us hl => match us, hl with | [_], _ => rfl
  obtain ⟨fd_reading, Fn_reading⟩ := c.fun_ 5
  have bd_reading := Fn_reading.binds (ps := ["history", "time"]) fun _ _ _ _ _ _ us hl => match us, hl with | [_, _], _ => rfl
  obtain ⟨fd_wall_at, Fn_wall_at⟩ := c.fun_ 6
  have bd_wall_at := Fn_wall_at.binds (ps := ["history", "time"]) fun _ _ _ _ _ _ us hl => match us, hl with | [_, _], _ => rfl
  obtain ⟨fd__law_shut, Fn__law_shut⟩ := c.fun_ 7
  have bd__law_shut := Fn__law_shut.binds (ps := ["_law_history_here", "_law_time"]) fun _ _ _ _ _ _ us hl => match us, hl with | [_, _], _ => rfl
  obtain ⟨fd__law_due, Fn__law_due⟩ := c.fun_ 8
  have bd__law_due := Fn__law_due.binds (ps := ["_law_value"]) fun _ _ _ _ _ _ us hl => match us, hl with | [_], _ => rfl
  obtain ⟨fd__law_told, Fn__law_told⟩ := c.fun_ 9
  have bd__law_told := Fn__law_told.binds (ps := ["_law_value"]) fun _ _ _ _ _ _ us hl => match us, hl with | [_], _ => rfl
  obtain ⟨fd_law, Fn_law⟩ := c.fun_ 10
  have bd_law := Fn_law.binds (ps := ["_law_script"]) fun _ _ _ _ _ _ us hl => match us, hl with | [_], _ => rfl
  refine ⟨fd_law, cl, fun s v => ?_, fun base => ?_⟩
  · obtain ⟨oc, od, kV, doc, pm, an, cdv, ct, osl, rfl, lk, hcd⟩ := Fn_law.ex
    exact .of_eq rfl
  · have c__law_taken : Cal P w K mg base cl 1 "_law_taken" ["_law_row", "_law_many"] F__law_taken := ⟨_, fd__law_taken, He.glo_ok X G0 (c.fact 22), Fn__law_taken.kp, (d__law_taken T G Q  Fn__law_taken), bd__law_taken⟩
    have c__law_history : Cal P w K mg base cl 2 "_law_history" ["_law_row", "_law_many"] F__law_history := ⟨_, fd__law_history, He.glo_ok X G0 (c.fact 23), Fn__law_history.kp, (d__law_history T G Q c__law_taken Fn__law_history), bd__law_history⟩
    have x_InvalidHistory : CalX P w K mg base 1 "InvalidHistory" (pG "InvalidHistory" K) "index" := ⟨_, fd_InvalidHistory___init__, _, He.glo_ok X G0 (c.fact 18), Q.e_InvalidHistory.oex, (kXin_ok (c.fact 24)).1, (kXin_ok (c.fact 24)).2, (d_InvalidHistory___init__ T G Q  Fn_InvalidHistory___init__), bd_InvalidHistory___init__⟩
    have c_is_setting : Cal P w K mg base cl 1 "is_setting" ["thing", "before"] F_is_setting := ⟨_, fd_is_setting, He.glo_ok X G0 (c.fact 25), Fn_is_setting.kp, (d_is_setting T G Q  Fn_is_setting), bd_is_setting⟩
    have c_check_history : Cal P w K mg base cl 3 "check_history" ["value"] F_check_history := ⟨_, fd_check_history, He.glo_ok X G0 (c.fact 26), Fn_check_history.kp, (d_check_history T G Q x_InvalidHistory c_is_setting Fn_check_history), bd_check_history⟩
    have c_reading : Cal P w K mg base cl 1 "reading" ["history", "time"] F_reading := ⟨_, fd_reading, He.glo_ok X G0 (c.fact 27), Fn_reading.kp, (d_reading T G Q  Fn_reading), bd_reading⟩
    have c_wall_at : Cal P w K mg base cl 4 "wall_at" ["history", "time"] F_wall_at := ⟨_, fd_wall_at, He.glo_ok X G0 (c.fact 28), Fn_wall_at.kp, (d_wall_at T G Q c_check_history c_reading Fn_wall_at), bd_wall_at⟩
    have c__law_shut : Cal P w K mg base cl 1 "_law_shut" ["_law_history_here", "_law_time"] F__law_shut := ⟨_, fd__law_shut, He.glo_ok X G0 (c.fact 29), Fn__law_shut.kp, (d__law_shut T G Q  Fn__law_shut), bd__law_shut⟩
    have c__law_due : Cal P w K mg base cl 1 "_law_due" ["_law_value"] F__law_due := ⟨_, fd__law_due, He.glo_ok X G0 (c.fact 30), Fn__law_due.kp, (d__law_due T G Q  Fn__law_due), bd__law_due⟩
    have c__law_told : Cal P w K mg base cl 5 "_law_told" ["_law_value"] F__law_told := ⟨_, fd__law_told, He.glo_ok X G0 (c.fact 31), Fn__law_told.kp, (d__law_told T G Q c_check_history c_wall_at Fn__law_told), bd__law_told⟩
    exact (d_law T G Q c__law_history c__law_taken c_wall_at c__law_shut c__law_due c__law_told Fn_law)
def loose : List Str := (["__name__", "ClockError", "InvalidHistory", "is_setting", "check_history", "reading", "wall_at", "_law_taken", "_law_statement", "_law_count", "_law_block", "_law_drawn", "_law_history", "_law_shut", "_law_gone", "_law_true", "_law_do", "_law_all", "_law_run", "_law_told", "_law_due"] : List Str)
abbrev R : PySem.W.OpenRow := PySem.W.OpenLaw.row PySem.Challenge.rw_clockback_k03_histories
abbrev hk : PySem.W.Hook := hookK 6 fa fn ts
def ob (s : PySem.W.SharedT) : AlO := obsKG 6 fa fn ts (HandSHeadRun.getT s)
theorem ob_eq (s : PySem.W.SharedT) : ob s = hk.obs s.abs := obsKG_eq (HandSHeadRun.getT_eq s)
theorem run (w : World) : HandSHeadRun.RunEq R (PySem.W.view R.prog [23]) hk ob 9000 loose w := by
  refine PySem.W.byRow2 "special-get-raises" (P := fun w => HandSHeadRun.RunEq R (PySem.W.view R.prog [23]) hk ob 9000 loose w) (fun w => ?_) (fun w => ?_) w
  · intro os; kernel_rfl
  · intro os; kernel_rfl
theorem facts {P : Program} {w : World} {h : Heap} {mg : Str → Option Value} {f : Addr} (Y : hk.says w h) (G : h.Ns mainGlobals mg) (hfa : mg ("law" : Str) = some (.ref f)) :
    ∃ (K : PySem.W.Frag) (fd : FuncData) (cl : Nat → Option Cli), K.In h ∧ (∀ (s : Shared) (v : Value), BindsTo s fd ⟨[v], []⟩ [("_law_script", v)]) ∧ ∀ base : Heap, K.In base → base.Ns mainGlobals mg → FnOk P w K mg base (L2.CX P w) 6 f fd ["_law_script"] (spX K cl 1 F_law) := by
  obtain ⟨K, X, c⟩ := Y
  have e := hfa.symm.trans (He.glo_ok X G (c.fact 32))
  cases e
  obtain ⟨fd, cl, h1, h2⟩ := all_mk (P := P) X G c
  exact ⟨K, fd, cl, X, h1, fun base _ _ => h2 base⟩
end CB

open PySem PySem.W PySem.Calls PyProof.Rows
set_option maxRecDepth 100000 in
set_option maxHeartbeats 0 in
theorem PySem.Challenge.cw_clockback_k03_histories_holds : PySem.Challenge.rw_clockback_k03_histories.Holds := by
  w_on; o_law
  refine HandSHeadRun.head_any (r := OpenLaw.row PySem.Challenge.rw_clockback_k03_histories) (q := view (OpenLaw.row PySem.Challenge.rw_clockback_k03_histories).prog [23]) (H := CB.hk) (ob := CB.ob) (M := 9000) (loose := CB.loose) (d := HandSHeadRun.topDef (OpenLaw.row PySem.Challenge.rw_clockback_k03_histories).prog 23) (kwd := []) CB.ob_eq
    (by kernel_rfl) (fun s => by kernel_rfl) CB.run (by kernel_rfl) (by kernel_rfl) (by kernel_rfl) (by rfl) (by first | assumption | decide +kernel) (by decide +kernel) ⟨rfl, rfl, rfl, rfl, rfl, by decide +kernel⟩ ?hw ?hc
  case hw => w_witness2
  case hc =>
    refine OL.walk_ofW (l := PySem.Challenge.rw_clockback_k03_histories) (n := 63) (k := 6) (x := "_law_script") (F := CB.F_law) rfl (by decide) (by kernel_rfl) ⟨rfl, by decide, by decide⟩ ?G (fun ns h => CB.plain ns h)
    intro w mg fa h Y G hmg0
    have hmg : mg ("law" : PySem.Str) = some (.ref fa) := by
      have e : (HandSHeadRun.topDef (OpenLaw.row PySem.Challenge.rw_clockback_k03_histories).prog 23).name = ("law" : PySem.Str) := by kernel_rfl
      rw [← e]
      exact hmg0
    exact CB.facts (P := (PySem.Challenge.rw_clockback_k03_histories).prog) Y G hmg
#print axioms PySem.Challenge.cw_clockback_k03_histories_holds
