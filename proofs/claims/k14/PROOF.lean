import PyProof.Rows.All
import Wide.All
import OpenK.AllK
import Wide.FinOn
import HandS.ForMost
import HandS.Exc
import HandS.Defaults
import HandS.SortInts
import HandS.SortRule
import HandS.TupAny
import HandS.IsInst
import HandS.Style
import HandS.Iter
import HandS.Strs
import HandS.Zip
import KE.GoesMore
import KE.KStateDown
import HandS.Base
import HandS.Call
import HandS.Ends
import HandS.More
import HandS.Words
import HandS.WordsExc
import HandS.Head0
import HandS.Head1
import HandS.Head2
import HandS.HeadEnd
import HandS.HeadHook1
import HandS.HeadHook2
import PySem.Challenge.RW_turnkeepers_k14_ladder_and_raises
set_option Elab.async false
set_option linter.all false
set_option maxRecDepth 100000
set_option maxHeartbeats 0
namespace DL
open PySem PySem.Spec L2
open PyProof.Rows hiding St
inductive D where
  | non | bl (b : Bool) | int (i : Int) | str (x : Str)
  | lst (xs : List D) | tup (xs : List D)
  | dK (kvs : List (Key × D)) | dT (kvs : List (List Key × D))
  | obj (C : Addr) (fs : List (Str × D))
    | scr (ns : List Int)
def D.sc : D → Bool
  | .non => true | .bl _ => true | .int _ => true | .str _ => true | _ => false
mutual
def D.imm : D → Bool
  | .non => true | .bl _ => true | .int _ => true | .str _ => true
  | .tup xs => D.imms xs
  | _ => false
def D.imms : List D → Bool
  | [] => true
  | d :: ds => D.imm d && D.imms ds
end
mutual
inductive Rep (K : PySem.W.Frag) (B : Hp) : D → V → Prop
  | non : Rep K B .non .non
  | bl (b : Bool) : Rep K B (.bl b) (.bl b)
  | int (i : Int) : Rep K B (.int i) (.int i)
  | str (x : Str) : Rep K B (.str x) (.str x)
  | lst {a : Addr} {vs : List V} {ds : List D} : B a = some (.lst vs) → Reps K B ds vs → Rep K B (.lst ds) (.ref a)
  | tup {a : Addr} {vs : List V} {ds : List D} : SqT K B a vs → Reps K B ds vs → Rep K B (.tup ds) (.ref a)
  | dK {a : Addr} {us : List (Key × V)} {kvs : List (Key × D)} : B a = some (.dK us) → RepP K B Key kvs us → Rep K B (.dK kvs) (.ref a)
  | dT {a : Addr} {us : List (List Key × V)} {kvs : List (List Key × D)} : B a = some (.dT us) → RepP K B (List Key) kvs us → Rep K B (.dT kvs) (.ref a)
  | obj {a C dx : Addr} {us : List (Str × V)} {fs : List (Str × D)} : B a = some (.ins C dx us) → RepP K B Str fs us → Rep K B (.obj C fs) (.ref a)
  | scr {a : Addr} {ns : List Int} : SqL K B a (ns.map V.int) → Rep K B (.scr ns) (.ref a)
inductive Reps (K : PySem.W.Frag) (B : Hp) : List D → List V → Prop
  | nil : Reps K B [] []
  | cons {d : D} {v : V} {ds : List D} {vs : List V} : Rep K B d v → Reps K B ds vs → Reps K B (d :: ds) (v :: vs)
inductive RepP (K : PySem.W.Frag) (B : Hp) : (κ : Type) → List (κ × D) → List (κ × V) → Prop
  | nil {κ : Type} : RepP K B κ [] []
  | cons {κ : Type} {k : κ} {d : D} {v : V} {ds : List (κ × D)} {vs : List (κ × V)} : Rep K B d v → RepP K B κ ds vs → RepP K B κ ((k, d) :: ds) ((k, v) :: vs)
end
theorem Same.rd {H H' : Hp} (e : Same H H') {a : Addr} {o : HO} (h : Rd H a o) : Rd H' a o := by
  rcases h with h | ⟨u, h⟩
  · exact .inl (e _ _ h)
  · exact .inr ⟨u, e _ _ h⟩
theorem Same.seqT {K : PySem.W.Frag} {H H' : Hp} {a : Addr} {xs : List V} (e : Same H H') (h : SqT K H a xs) : SqT K H' a xs := by
  rcases h with h | h
  · exact .inl (Same.rd e h)
  · exact .inr h
section
variable {K : PySem.W.Frag} {B B' F H : Hp}
mutual
theorem Rep.mono (e : Same B B') : ∀ {d : D} {v : V}, Rep K B d v → Rep K B' d v
  | _, _, .non => .non
  | _, _, .bl b => .bl b
  | _, _, .int b => .int b
  | _, _, .str b => .str b
  | _, _, .lst s r => .lst (e _ _ s) (Reps.mono e r)
  | _, _, .tup s r => .tup (Same.seqT e s) (Reps.mono e r)
  | _, _, .dK s r => .dK (e _ _ s) (RepP.mono e r)
  | _, _, .dT s r => .dT (e _ _ s) (RepP.mono e r)
  | _, _, .obj s r => .obj (e _ _ s) (RepP.mono e r)
  | _, _, .scr s => .scr (e.seq s)
theorem Reps.mono (e : Same B B') : ∀ {d : List D} {v : List V}, Reps K B d v → Reps K B' d v
  | _, _, .nil => .nil
  | _, _, .cons r t => .cons (Rep.mono e r) (Reps.mono e t)
theorem RepP.mono (e : Same B B') : ∀ {κ : Type} {d : List (κ × D)} {v : List (κ × V)}, RepP K B κ d v → RepP K B' κ d v
  | _, _, _, .nil => .nil
  | _, _, _, .cons r t => .cons (Rep.mono e r) (RepP.mono e t)
end
def TupOk (F H : Hp) : Prop := ∀ a xs, Rd H a (.tup xs) → Rd F a (.tup xs)
mutual
theorem Rep.immF (t : TupOk F H) : ∀ {d : D} {v : V}, d.imm = true → Rep K H d v → Rep K F d v
  | _, _, _, .non => .non
  | _, _, _, .bl b => .bl b
  | _, _, _, .int b => .int b
  | _, _, _, .str b => .str b
  | .tup ds, _, i, .tup s r => .tup (by
      rcases s with s | s
      · exact .inl (t _ _ s)
      · exact .inr s) (Reps.immF t i r)
  | .lst _, _, i, .lst _ _ => nomatch i
  | .dK _, _, i, .dK _ _ => nomatch i
  | .dT _, _, i, .dT _ _ => nomatch i
  | .obj _ _, _, i, .obj _ _ => nomatch i
  | .scr _, _, i, .scr _ => nomatch i
theorem Reps.immF (t : TupOk F H) : ∀ {d : List D} {v : List V}, D.imms d = true → Reps K H d v → Reps K F d v
  | _, _, _, .nil => .nil
  | _ :: _, _, i, .cons r q => .cons (Rep.immF t (Bool.and_eq_true_iff.mp i).1 r) (Reps.immF t (Bool.and_eq_true_iff.mp i).2 q)
end
theorem Rep.scal {d : D} {v : V} (h : d.sc = true) (r : Rep K B d v) : Rep K B' d v := by
  cases r with
  | non => exact .non
  | bl b => exact .bl b
  | int b => exact .int b
  | str b => exact .str b
  | _ => cases h
theorem Reps.length : ∀ {ds : List D} {vs : List V}, Reps K B ds vs → vs.length = ds.length
  | _, _, .nil => rfl
  | _, _, .cons _ t => congrArg Nat.succ (Reps.length t)
theorem Reps.get : ∀ {ds : List D} {vs : List V} {i : Nat} {d : D}, Reps K B ds vs → ds[i]? = some d → ∃ v, vs[i]? = some v ∧ Rep K B d v
  | _, _, _, _, .nil, e => by simp at e
  | _, _, 0, d, .cons r _, e => by simp at e; subst e; exact ⟨_, rfl, r⟩
  | _, _, i + 1, d, .cons _ t, e => by
    obtain ⟨v, h1, h2⟩ := Reps.get (i := i) (d := d) t (by simpa using e)
    exact ⟨v, by simpa using h1, h2⟩
theorem Reps.getV : ∀ {ds : List D} {vs : List V} {i : Nat} {v : V}, Reps K B ds vs → vs[i]? = some v → ∃ d, ds[i]? = some d ∧ Rep K B d v
  | _, _, _, _, .nil, e => by simp at e
  | _, _, 0, d, .cons r _, e => by simp at e; subst e; exact ⟨_, rfl, r⟩
  | _, _, i + 1, d, .cons _ t, e => by
    obtain ⟨v, h1, h2⟩ := Reps.getV (i := i) (v := d) t (by simpa using e)
    exact ⟨v, by simpa using h1, h2⟩
theorem Reps.append : ∀ {ds es : List D} {vs us : List V}, Reps K B ds vs → Reps K B es us → Reps K B (ds ++ es) (vs ++ us)
  | _, _, _, _, .nil, s => s
  | _, _, _, _, .cons r t, s => .cons r (Reps.append t s)
theorem Reps.take : ∀ {ds : List D} {vs : List V} (n : Nat), Reps K B ds vs → Reps K B (ds.take n) (vs.take n)
  | _, _, 0, _ => .nil
  | _, _, _ + 1, .nil => .nil
  | _, _, n + 1, .cons r t => .cons r (Reps.take n t)
theorem Reps.drop : ∀ {ds : List D} {vs : List V} (n : Nat), Reps K B ds vs → Reps K B (ds.drop n) (vs.drop n)
  | _, _, 0, r => r
  | _, _, _ + 1, .nil => .nil
  | _, _, n + 1, .cons _ t => Reps.drop n t
theorem Reps.set {d : D} {v : V} (r : Rep K B d v) : ∀ {ds : List D} {vs : List V} (i : Nat), Reps K B ds vs → Reps K B (ds.set i d) (vs.set i v)
  | _, _, _, .nil => .nil
  | _, _, 0, .cons _ t => .cons r t
  | _, _, i + 1, .cons q t => .cons q (Reps.set r i t)
theorem Reps.one {d : D} {v : V} (r : Rep K B d v) : Reps K B [d] [v] := .cons r .nil
theorem Reps.reverse : ∀ {ds : List D} {vs : List V}, Reps K B ds vs → Reps K B ds.reverse vs.reverse
  | _, _, .nil => .nil
  | _, _, .cons r t => by rw [List.reverse_cons, List.reverse_cons]; exact Reps.append (Reps.reverse t) (.one r)
theorem Reps.eraseIdx : ∀ {ds : List D} {vs : List V} (i : Nat), Reps K B ds vs → Reps K B (ds.eraseIdx i) (vs.eraseIdx i)
  | _, _, _, .nil => .nil
  | _, _, 0, .cons _ t => t
  | _, _, i + 1, .cons q t => .cons q (Reps.eraseIdx i t)
theorem Reps.dropLast : ∀ {ds : List D} {vs : List V}, Reps K B ds vs → Reps K B ds.dropLast vs.dropLast
  | _, _, .nil => .nil
  | _, _, .cons _ .nil => .nil
  | _, _, .cons r (.cons q t) => .cons r (Reps.dropLast (.cons q t))
theorem RepP.lookup {κ : Type} [BEq κ] : ∀ {ds : List (κ × D)} {vs : List (κ × V)} {k : κ} {d : D}, RepP K B κ ds vs → ds.lookup k = some d → ∃ v, vs.lookup k = some v ∧ Rep K B d v
  | _, _, _, _, .nil, e => nomatch e
  | _, _, x, d, .cons (k := k) r t, e => by
    rw [List.lookup_cons] at e ⊢
    cases q : (x == k) with
    | true => rw [q] at e; exact ⟨_, rfl, by cases e; exact r⟩
    | false => rw [q] at e; exact RepP.lookup t e
theorem RepP.lookup_none {κ : Type} [BEq κ] : ∀ {ds : List (κ × D)} {vs : List (κ × V)} {k : κ}, RepP K B κ ds vs → ds.lookup k = none → vs.lookup k = none
  | _, _, _, .nil, e => rfl
  | _, _, x, .cons (k := k) r t, e => by
    rw [List.lookup_cons] at e ⊢
    cases q : (x == k) with
    | true => rw [q] at e; cases e
    | false => rw [q] at e; exact RepP.lookup_none t e
theorem RepP.length {κ : Type} : ∀ {ds : List (κ × D)} {vs : List (κ × V)}, RepP K B κ ds vs → vs.length = ds.length
  | _, _, .nil => rfl
  | _, _, .cons _ t => congrArg Nat.succ (RepP.length t)
end
inductive Kd where
  | own | cln | brw | shl | drt
  deriving DecidableEq
inductive Slot where
  | own (d : D) | frz (d : D) | bor (d : D)
abbrev DEnv := List (Option Slot)
def OwnRep (K : PySem.W.Frag) (F H : Hp) (p : Addr) : D → Prop
  | .lst ds => ∃ vs, H p = some (.lst vs) ∧ Reps K F ds vs
  | .dK kvs => ∃ us, H p = some (.dK us) ∧ RepP K F Key kvs us
  | .dT kvs => ∃ us, H p = some (.dT us) ∧ RepP K F (List Key) kvs us
  | .obj C fs => ∃ dx us, H p = some (.ins C dx us) ∧ RepP K F Str fs us
  | _ => False
def ShlRep (K : PySem.W.Frag) (F H : Hp) : D → V → Prop
  | .lst ds, v => ∃ a vs, v = .ref a ∧ H a = some (.lst vs) ∧ Reps K F ds vs
  | .dK kvs, v => ∃ a us, v = .ref a ∧ H a = some (.dK us) ∧ RepP K F Key kvs us
  | .dT kvs, v => ∃ a us, v = .ref a ∧ H a = some (.dT us) ∧ RepP K F (List Key) kvs us
  | .obj C fs, v => ∃ a dx us, v = .ref a ∧ H a = some (.ins C dx us) ∧ RepP K F Str fs us
  | d, v => Rep K F d v
def RepK (K : PySem.W.Frag) (F B H0 H : Hp) : Kd → D → V → Prop
  | .own, d, v => ∃ p, v = .ref p ∧ H0 p = none ∧ B p = none ∧ OwnRep K F H p d
  | .cln, d, v => Rep K F d v
  | .brw, d, v => Rep K B d v
  | .shl, d, v => ShlRep K F H d v
  | .drt, d, v => Rep K H d v
def SlotE (K : PySem.W.Frag) (F B H : Hp) : Slot → V → Prop
  | .own d, v => ∃ p, v = .ref p ∧ OwnRep K F H p d
  | .frz d, v => Rep K F d v
  | .bor d, v => Rep K B d v
structure Hs (F B H : Hp) : Prop where
  fb : Same F B
  bh : Same B H
  tup : TupOk F H
theorem Hs.fh {F B H : Hp} (s : Hs F B H) : Same F H := s.fb.trans s.bh
structure EnvE (K : PySem.W.Frag) (F B H : Hp) (env : DEnv) (σ : St) : Prop where
  hs : Hs F B H
  len : env.length = σ.length
  at_ : ∀ (i : Nat) s, env[i]? = some (some s) → ∃ v, σ[i]? = some (some v) ∧ SlotE K F B H s v
structure Grow (F B H F' B' H' : Hp) : Prop where
  f : Same F F'
  b : Same B B'
  h : Same H H'
  hs : Hs F' B' H'
  newF : ∀ p, H p ≠ none → F' p ≠ none → F p ≠ none
  newB : ∀ p, H p ≠ none → B' p ≠ none → B p ≠ none
theorem Grow.refl {F B H : Hp} (s : Hs F B H) : Grow F B H F B H := ⟨.refl _, .refl _, .refl _, s, fun _ _ h => h, fun _ _ h => h⟩
theorem ne_none_of_same {H H' : Hp} (e : Same H H') {p : Addr} (h : H p ≠ none) : H' p ≠ none := by
  cases q : H p with
  | none => exact absurd q h
  | some o => rw [e p o q]; exact fun z => nomatch z
theorem Grow.trans {F B H F1 B1 H1 F2 B2 H2 : Hp} (a : Grow F B H F1 B1 H1) (b : Grow F1 B1 H1 F2 B2 H2) : Grow F B H F2 B2 H2 :=
  ⟨a.f.trans b.f, a.b.trans b.b, a.h.trans b.h, b.hs, fun p h1 h2 => a.newF p h1 (b.newF p (ne_none_of_same a.h h1) h2), fun p h1 h2 => a.newB p h1 (b.newB p (ne_none_of_same a.h h1) h2)⟩
section
variable {K : PySem.W.Frag} {F B H F' B' H' H0 : Hp}
theorem OwnRep.grow (f : Same F F') (h : Same H H') {p : Addr} : ∀ {d : D}, OwnRep K F H p d → OwnRep K F' H' p d
  | .lst _, ⟨vs, e, r⟩ => ⟨vs, h _ _ e, r.mono f⟩
  | .dK _, ⟨vs, e, r⟩ => ⟨vs, h _ _ e, r.mono f⟩
  | .dT _, ⟨vs, e, r⟩ => ⟨vs, h _ _ e, r.mono f⟩
  | .obj _ _, ⟨dx, vs, e, r⟩ => ⟨dx, vs, h _ _ e, r.mono f⟩
theorem ShlRep.grow (f : Same F F') (h : Same H H') : ∀ {d : D} {v : V}, ShlRep K F H d v → ShlRep K F' H' d v
  | .lst _, _, ⟨a, vs, e, s, r⟩ => ⟨a, vs, e, h _ _ s, r.mono f⟩
  | .dK _, _, ⟨a, vs, e, s, r⟩ => ⟨a, vs, e, h _ _ s, r.mono f⟩
  | .dT _, _, ⟨a, vs, e, s, r⟩ => ⟨a, vs, e, h _ _ s, r.mono f⟩
  | .obj _ _, _, ⟨a, dx, vs, e, s, r⟩ => ⟨a, dx, vs, e, h _ _ s, r.mono f⟩
  | .non, _, r => Rep.mono f (show Rep K F _ _ from r)
  | .bl _, _, r => Rep.mono f (show Rep K F _ _ from r)
  | .int _, _, r => Rep.mono f (show Rep K F _ _ from r)
  | .str _, _, r => Rep.mono f (show Rep K F _ _ from r)
  | .tup _, _, r => Rep.mono f (show Rep K F _ _ from r)
  | .scr _, _, r => Rep.mono f (show Rep K F _ _ from r)
theorem OwnRep.rep (f : Same F H) {p : Addr} : ∀ {d : D}, OwnRep K F H p d → Rep K H d (.ref p)
  | .lst _, ⟨vs, e, r⟩ => .lst e (r.mono f)
  | .dK _, ⟨vs, e, r⟩ => .dK e (r.mono f)
  | .dT _, ⟨vs, e, r⟩ => .dT e (r.mono f)
  | .obj _ _, ⟨dx, vs, e, r⟩ => .obj e (r.mono f)
theorem OwnRep.shl {p : Addr} : ∀ {d : D}, OwnRep K F H p d → ShlRep K F H d (.ref p)
  | .lst _, ⟨vs, e, r⟩ => ⟨_, _, rfl, e, r⟩
  | .dK _, ⟨vs, e, r⟩ => ⟨_, _, rfl, e, r⟩
  | .dT _, ⟨vs, e, r⟩ => ⟨_, _, rfl, e, r⟩
  | .obj _ _, ⟨dx, vs, e, r⟩ => ⟨_, _, _, rfl, e, r⟩
theorem ShlRep.rep (f : Same F H) : ∀ {d : D} {v : V}, ShlRep K F H d v → Rep K H d v
  | .lst _, _, ⟨a, vs, e, s, r⟩ => by subst e; exact .lst s (r.mono f)
  | .dK _, _, ⟨a, vs, e, s, r⟩ => by subst e; exact .dK s (r.mono f)
  | .dT _, _, ⟨a, vs, e, s, r⟩ => by subst e; exact .dT s (r.mono f)
  | .obj _ _, _, ⟨a, dx, vs, e, s, r⟩ => by subst e; exact .obj s (r.mono f)
  | .non, _, r => Rep.mono f (show Rep K F _ _ from r)
  | .bl _, _, r => Rep.mono f (show Rep K F _ _ from r)
  | .int _, _, r => Rep.mono f (show Rep K F _ _ from r)
  | .str _, _, r => Rep.mono f (show Rep K F _ _ from r)
  | .tup _, _, r => Rep.mono f (show Rep K F _ _ from r)
  | .scr _, _, r => Rep.mono f (show Rep K F _ _ from r)
theorem Rep.shl (f : Same F H) : ∀ {d : D} {v : V}, Rep K F d v → ShlRep K F H d v
  | .lst _, _, .lst s r => ⟨_, _, rfl, f _ _ s, r⟩
  | .dK _, _, .dK s r => ⟨_, _, rfl, f _ _ s, r⟩
  | .dT _, _, .dT s r => ⟨_, _, rfl, f _ _ s, r⟩
  | .obj _ _, _, .obj s r => ⟨_, _, _, rfl, f _ _ s, r⟩
  | .non, _, r => r
  | .bl _, _, r => r
  | .int _, _, r => r
  | .str _, _, r => r
  | .tup _, _, r => r
  | .scr _, _, r => r
theorem RepK.rep (s : Hs F B H) : ∀ {k : Kd} {d : D} {v : V}, RepK K F B H0 H k d v → Rep K H d v
  | .own, _, _, ⟨p, e, _, _, r⟩ => by subst e; exact r.rep s.fh
  | .cln, _, _, r => Rep.mono s.fh r
  | .brw, _, _, r => Rep.mono s.bh r
  | .shl, _, _, r => ShlRep.rep s.fh r
  | .drt, _, _, r => r
theorem SlotE.grow (f : Same F F') (b : Same B B') (h : Same H H') : ∀ {s : Slot} {v : V}, SlotE K F B H s v → SlotE K F' B' H' s v
  | .own _, _, ⟨p, e, r⟩ => ⟨p, e, r.grow f h⟩
  | .frz _, _, r => Rep.mono f r
  | .bor _, _, r => Rep.mono b r
theorem EnvE.grow {env : DEnv} {σ : St} (e : EnvE K F B H env σ) (g : Grow F B H F' B' H') : EnvE K F' B' H' env σ :=
  ⟨g.hs, e.len, fun i s h => by obtain ⟨v, h1, h2⟩ := e.at_ i s h; exact ⟨v, h1, h2.grow g.f g.b g.h⟩⟩
end
end DL
namespace DL
open PySem PySem.Spec L2
open PyProof.Rows hiding St
def frzAt (F H : Hp) (p : Addr) : Hp := fun q => if q = p then H p else F q
section
variable {K : PySem.W.Frag} {F B H F' B' H' H0 : Hp}
theorem frz_same (f : Same F H) (p : Addr) : Same F (frzAt F H p) := fun q o e => by
  unfold frzAt
  split
  · next z => subst z; exact f _ _ e
  · exact e
theorem frz_sub (f : Same F H) (p : Addr) : Same (frzAt F H p) H := fun q o e => by
  unfold frzAt at e
  split at e
  · next z => subst z; exact e
  · exact f _ _ e
theorem frz_two (f : Same F B) (p : Addr) : Same (frzAt F H p) (frzAt B H p) := fun q o e => by
  unfold frzAt at e ⊢
  split at e
  · next z => rw [if_pos z]; exact e
  · next z => rw [if_neg z]; exact f _ _ e
theorem Hs.frz (s : Hs F B H) (p : Addr) : Hs (frzAt F H p) (frzAt B H p) H := ⟨frz_two s.fb p, frz_sub s.bh p, fun a xs h => Same.rd (frz_same s.fh p) (s.tup a xs h)⟩
theorem frz_ne {q p : Addr} (h : frzAt F H p q ≠ none) : q = p ∨ F q ≠ none := by
  unfold frzAt at h
  split at h
  · next z => exact .inl z
  · exact .inr h
theorem Grow.frz (g : Grow F B H F' B' H') {p : Addr} (n : H p = none) : Grow F B H (frzAt F' H' p) (frzAt B' H' p) H' :=
  ⟨g.f.trans (frz_same g.hs.fh p), g.b.trans (frz_same g.hs.bh p), g.h, g.hs.frz p, fun q h1 h2 => by
    rcases frz_ne h2 with z | z
    · subst z; exact absurd n h1
    · exact g.newF q h1 z, fun q h1 h2 => by
    rcases frz_ne h2 with z | z
    · subst z; exact absurd n h1
    · exact g.newB q h1 z⟩
theorem frz_at {p : Addr} {o : HO} (e : H p = some o) : frzAt F H p p = some o := by unfold frzAt; rw [if_pos rfl]; exact e
theorem OwnRep.frz (f : Same F H) {p : Addr} : ∀ {d : D}, OwnRep K F H p d → Rep K (frzAt F H p) d (.ref p)
  | .lst _, ⟨vs, e, r⟩ => .lst (frz_at e) (r.mono (frz_same f p))
  | .dK _, ⟨vs, e, r⟩ => .dK (frz_at e) (r.mono (frz_same f p))
  | .dT _, ⟨vs, e, r⟩ => .dT (frz_at e) (r.mono (frz_same f p))
  | .obj _ _, ⟨dx, vs, e, r⟩ => .obj (frz_at e) (r.mono (frz_same f p))
end
def tEv (K : PySem.W.Frag) (env : DEnv) (d : D) (k : Kd) : TE := fun σ H Q => ∃ F B, EnvE K F B H env σ ∧ ∀ v H' F' B', Grow F B H F' B' H' → RepK K F' B' H H' k d v → Q v H'
structure Ev (X : Cx) (env : DEnv) (e : Expr) (d : D) (k : Kd) : Prop where
  pe : PE X e (tEv X.K env d k)
def tEt (K : PySem.W.Frag) (env : DEnv) (b : Bool) : TT := fun σ H Q => ∃ F B, EnvE K F B H env σ ∧ ∀ H' F' B', Grow F B H F' B' H' → Q b H'
structure Et (X : Cx) (env : DEnv) (e : Expr) (b : Bool) : Prop where
  pt : PT X e (tEt X.K env b)
def repsK (K : PySem.W.Frag) (F B H : Hp) : Kd → List D → List V → Prop
  | .brw, ds, vs => Reps K B ds vs
  | .drt, ds, vs => Reps K H ds vs
  | _, ds, vs => Reps K F ds vs
def tEA (K : PySem.W.Frag) (env : DEnv) (ds : List D) (k : Kd) : TA := fun σ H Q => ∃ F B, EnvE K F B H env σ ∧ ∀ vs H' F' B', Grow F B H F' B' H' → repsK K F' B' H' k ds vs → Q vs H'
structure EA (X : Cx) (env : DEnv) (es : List Expr) (ds : List D) (k : Kd) : Prop where
  pa : PA X es (tEA X.K env ds k)
theorem _root_.L2.PE.mono {X : Cx} {e : Expr} {t t' : TE} (h : PE X e t) (m : ∀ σ H Q, t' σ H Q → t σ H Q) : PE X e t' := ⟨fun pins s σ H Q I q => h.run pins s σ H Q I (m σ H Q q)⟩
theorem _root_.L2.PT.mono {X : Cx} {e : Expr} {t t' : TT} (h : PT X e t) (m : ∀ σ H Q, t' σ H Q → t σ H Q) : PT X e t' := ⟨fun pins s σ H Q I q => h.run pins s σ H Q I (m σ H Q q)⟩
theorem _root_.L2.PW.mono {X : Cx} {e : Expr} {t t' : TT} (h : PW X e t) (m : ∀ σ H Q, t' σ H Q → t σ H Q) : PW X e t' := ⟨fun wh pins s σ H Q I q => h.run wh pins s σ H Q I (m σ H Q q)⟩
theorem _root_.L2.PA.mono {X : Cx} {e : List Expr} {t t' : TA} (h : PA X e t) (m : ∀ σ H Q, t' σ H Q → t σ H Q) : PA X e t' := ⟨fun pos pins s σ H Q I q => h.run pos pins s σ H Q I (m σ H Q q)⟩
theorem _root_.L2.PS.mono {X : Cx} {e : Stmt} {t t' : TS} (h : PS X e t) (m : ∀ D σ H, t' D σ H → t D σ H) : PS X e t' := ⟨fun pins s σ H D I q => h.run pins s σ H D I (m D σ H q)⟩
theorem _root_.L2.PSs.mono {X : Cx} {e : List Stmt} {t t' : TS} (h : PSs X e t) (m : ∀ D σ H, t' D σ H → t D σ H) : PSs X e t' := ⟨fun pins s σ H D I q => h.run pins s σ H D I (m D σ H q)⟩
section
variable {X : Cx} {env : DEnv} {e a b c : Expr} {d x y z : D} {k k1 k2 k3 : Kd} {pos : Pos}
theorem Ev.drt (h : Ev X env e d k) : Ev X env e d .drt := ⟨h.pe.mono fun σ H Q ⟨F, B, E, q⟩ => ⟨F, B, E, fun v H' F' B' g r => q v H' F' B' g (r.rep g.hs)⟩⟩
theorem Ev.own_cln (h : Ev X env e d .own) : Ev X env e d .cln := ⟨h.pe.mono fun σ H Q ⟨F, B, E, q⟩ => ⟨F, B, E, fun v H' F' B' g ⟨p, e1, n0, n1, r⟩ => by
  subst e1
  exact q _ H' _ _ (g.frz n0) (r.frz g.hs.fh)⟩⟩
theorem Ev.cln_shl (h : Ev X env e d .cln) : Ev X env e d .shl := ⟨h.pe.mono fun σ H Q ⟨F, B, E, q⟩ => ⟨F, B, E, fun v H' F' B' g r => q v H' F' B' g (Rep.shl g.hs.fh r)⟩⟩
theorem Ev.cln_brw (h : Ev X env e d .cln) : Ev X env e d .brw := ⟨h.pe.mono fun σ H Q ⟨F, B, E, q⟩ => ⟨F, B, E, fun v H' F' B' g r => q v H' F' B' g (Rep.mono g.hs.fb r)⟩⟩
theorem Ev.imm (h : Ev X env e d k) (i : d.imm = true) : Ev X env e d .cln := ⟨h.drt.pe.mono fun σ H Q ⟨F, B, E, q⟩ => ⟨F, B, E, fun v H' F' B' g r => q v H' F' B' g (Rep.immF g.hs.tup i r)⟩⟩
theorem Ev.scal (h : Ev X env e d k) (i : d.sc = true := by rfl) : Ev X env e d .cln := ⟨h.drt.pe.mono fun σ H Q ⟨F, B, E, q⟩ => ⟨F, B, E, fun v H' F' B' g r => q v H' F' B' g (Rep.scal i r)⟩⟩
def Kd.st : Kd → Kd
  | .drt => .drt | .brw => .brw | _ => .shl
theorem Ev.st (h : Ev X env e d k) : Ev X env e d k.st := by
  cases k with
  | own => exact h.own_cln.cln_shl
  | cln => exact h.cln_shl
  | brw => exact h
  | shl => exact h
  | drt => exact h
def Kd.held : Kd → Kd
  | .own => .cln | .cln => .cln | .brw => .brw | _ => .drt
theorem Ev.held (h : Ev X env e d k) : Ev X env e d k.held := by
  cases k with
  | own => exact h.own_cln
  | cln => exact h
  | brw => exact h
  | shl => exact h.drt
  | drt => exact h
def heldOf (k : Kd) (d : D) : Kd := if d.sc then .cln else k.held
theorem Ev.heldOf (h : Ev X env e d k) : Ev X env e d (DL.heldOf k d) := by
  unfold DL.heldOf
  split
  · next i => exact h.scal i
  · exact h.held
def Kd.join : Kd → Kd → Kd
  | .cln, .cln => .cln | .cln, .brw => .brw | .brw, .cln => .brw | .brw, .brw => .brw | _, _ => .drt
def Kd.kid : Kd → Kd
  | .drt => .drt | .brw => .brw | _ => .cln
def Kd.new : Kd → Kd
  | .cln => .own | .own => .own | _ => .drt
end
section
variable {K : PySem.W.Frag} {F B H F' B' H' H0 : Hp} {d : D} {v : V}
theorem RepK.back {k : Kd} (e : Same H0 H) (r : RepK K F' B' H H' k d v) : RepK K F' B' H0 H' k d v := by
  cases k with
  | own => obtain ⟨p, e1, n, m, r⟩ := r; exact ⟨p, e1, e.free n, m, r⟩
  | _ => exact r
theorem RepK.growS {k : Kd} (g : Grow F B H F' B' H') (r : RepK K F B H0 H k.st d v) : RepK K F' B' H0 H' k.st d v := by
  cases k with
  | drt => exact Rep.mono g.h r
  | brw => exact Rep.mono g.b r
  | own => exact ShlRep.grow g.f g.h r
  | cln => exact ShlRep.grow g.f g.h r
  | shl => exact ShlRep.grow g.f g.h r
theorem RepK.any0 {k : Kd} {H1 : Hp} (r : RepK K F B H0 H k.st d v) : RepK K F B H1 H k.st d v := by
  cases k <;> exact r
abbrev RepS (K : PySem.W.Frag) (F B H : Hp) (k : Kd) (d : D) (v : V) : Prop := RepK K F B H H k.st d v
abbrev Fin (K : PySem.W.Frag) (F B H : Hp) (k : Kd) (z : D) (Q : VK) : Prop := ∀ w H' F' B', Grow F B H F' B' H' → RepK K F' B' H H' k z w → Q w H'
theorem RepK.scalR {k : Kd} (i : d.sc = true) (s : Hs F B H) (r : RepK K F B H0 H k d v) : Rep K F d v := Rep.scal i (r.rep s)
theorem repsK.grow {k : Kd} {ds : List D} {vs : List V} (g : Grow F B H F' B' H') (r : repsK K F B H k ds vs) : repsK K F' B' H' k ds vs := by
  cases k with
  | drt => exact Reps.mono g.h r
  | brw => exact Reps.mono g.b r
  | own => exact Reps.mono g.f r
  | cln => exact Reps.mono g.f r
  | shl => exact Reps.mono g.f r
theorem repsK.reps {k : Kd} {ds : List D} {vs : List V} (s : Hs F B H) (r : repsK K F B H k ds vs) : Reps K H ds vs := by
  cases k with
  | drt => exact r
  | brw => exact Reps.mono s.bh r
  | own => exact Reps.mono s.fh r
  | cln => exact Reps.mono s.fh r
  | shl => exact Reps.mono s.fh r
end
section
variable {X : Cx} {env : DEnv} {e a b c : Expr} {d x y z : D} {k k1 k2 k3 : Kd} {pos : Pos}
theorem two {r : R2} (ha : Ev X env a x k1) (hb : Ev X env b y k2)
    (hr : ∀ F B H v u Q, Hs F B H → RepS X.K F B H k1 x v → RepS X.K F B H k2 y u → Fin X.K F B H k z Q → r v u H Q) :
    ∀ σ H Q, tEv X.K env z k σ H Q → tOp r (tEv X.K env x k1.st) (tEv X.K env y k2.st) σ H Q := fun σ H Q ⟨F, B, E, q⟩ =>
  ⟨F, B, E, fun v H1 F1 B1 g1 r1 => ⟨F1, B1, E.grow g1, fun u H2 F2 B2 g2 r2 => hr F2 B2 H2 v u Q g2.hs (RepK.any0 (RepK.growS g2 r1)) (RepK.any0 r2) fun w H3 F3 B3 g3 r3 =>
    q w H3 F3 B3 ((g1.trans g2).trans g3) (RepK.back (g1.h.trans g2.h) r3)⟩⟩
theorem ev_op2 {op : Operator} {r : R2} (ho : OpR X (binaryOp op) r) (ha : Ev X env a x k1) (hb : Ev X env b y k2)
    (hr : ∀ F B H v u Q, Hs F B H → RepS X.K F B H k1 x v → RepS X.K F B H k2 y u → Fin X.K F B H k z Q → r v u H Q) : Ev X env (.BinOp a op b pos) z k :=
  ⟨(pe_op ho ha.st.pe hb.st.pe).mono (two ha hb hr)⟩
theorem ev_cmp2 {op : CmpOp} {r : R2} (ho : OpR X (compareOp op) r) (ha : Ev X env a x k1) (hb : Ev X env b y k2) (hm : behindInMarks op b = false)
    (hr : ∀ F B H v u Q, Hs F B H → RepS X.K F B H k1 x v → RepS X.K F B H k2 y u → Fin X.K F B H k z Q → r v u H Q) : Ev X env (.Compare a [op] [b] pos) z k :=
  ⟨(pe_cmpR ho ha.st.pe hb.st.pe hm).mono (two ha hb hr)⟩
theorem et_cmp2 {op : CmpOp} {r : R2} {t : Bool} (ho : OpR X (compareOp op) r) (ha : Ev X env a x k1) (hb : Ev X env b y k2) (hm : behindInMarks op b = false)
    (hr : ∀ F B H v u Q, Hs F B H → RepS X.K F B H k1 x v → RepS X.K F B H k2 y u → Fin X.K F B H .cln (.bl t) Q → r v u H Q) : Et X env (.Compare a [op] [b] pos) t :=
  ⟨(pt_cmpR ho ha.st.pe hb.st.pe hm).mono fun σ H Q ⟨F, B, E, q⟩ => two (z := .bl t) (k := .cln) ha hb hr σ H _ ⟨F, B, E, fun w H' F' B' g r => by
    cases (show Rep X.K F' (.bl t) w from r) with
    | bl => exact ⟨t, rfl, q H' F' B' g⟩⟩⟩
theorem one_te {r : V → Hp → VK → Prop} {te : TE → TE} (hte : ∀ t σ H Q, (t σ H fun x H1 => r x H1 Q) → te t σ H Q) (ha : Ev X env a x k1)
    (hr : ∀ F B H v Q, Hs F B H → RepS X.K F B H k1 x v → Fin X.K F B H k z Q → r v H Q) : ∀ σ H Q, tEv X.K env z k σ H Q → te (tEv X.K env x k1.st) σ H Q := fun σ H Q ⟨F, B, E, q⟩ =>
  hte _ σ H Q ⟨F, B, E, fun v H1 F1 B1 g1 r1 => hr F1 B1 H1 v Q g1.hs (RepK.any0 r1) fun w H3 F3 B3 g3 r3 => q w H3 F3 B3 (g1.trans g3) (RepK.back g1.h r3)⟩
section
variable {K : PySem.W.Frag} {F B H : Hp} {Q : VK} {v w : V} {ds : List D} {i : Int} {t : Bool} {s : Str}
theorem Fin.sc (hs : Hs F B H) (q : Fin K F B H .cln z Q) (r : Rep K F z w) : Q w H := q w H F B (.refl hs) r
theorem fin_int (hs : Hs F B H) (q : Fin K F B H .cln (.int i) Q) : Q (.int i) H := q.sc hs (.int i)
theorem fin_bl (hs : Hs F B H) (q : Fin K F B H .cln (.bl t) Q) : Q (.bl t) H := q.sc hs (.bl t)
theorem fin_str (hs : Hs F B H) (q : Fin K F B H .cln (.str s) Q) : Q (.str s) H := q.sc hs (.str s)
theorem fin_non (hs : Hs F B H) (q : Fin K F B H .cln .non Q) : Q .non H := q.sc hs .non
theorem RepS.int (hs : Hs F B H) (r : RepS K F B H k (.int i) v) : v = .int i := by
  cases (RepK.scalR rfl hs r) with
  | int => rfl
theorem RepS.bl (hs : Hs F B H) (r : RepS K F B H k (.bl t) v) : v = .bl t := by
  cases (RepK.scalR rfl hs r) with
  | bl => rfl
theorem RepS.str (hs : Hs F B H) (r : RepS K F B H k (.str s) v) : v = .str s := by
  cases (RepK.scalR rfl hs r) with
  | str => rfl
theorem RepS.non (hs : Hs F B H) (r : RepS K F B H k .non v) : v = .non := by
  cases (RepK.scalR rfl hs r) with
  | non => rfl
theorem RepS.lst (hs : Hs F B H) (r : RepS K F B H k (.lst ds) v) : ∃ a vs, v = .ref a ∧ H a = some (.lst vs) ∧ repsK K F B H k.kid ds vs := by
  cases k with
  | drt => cases (show Rep K H (.lst ds) v from r) with
    | lst s t => exact ⟨_, _, rfl, s, t⟩
  | brw => cases (show Rep K B (.lst ds) v from r) with
    | lst s t => exact ⟨_, _, rfl, hs.bh _ _ s, t⟩
  | own => exact r
  | cln => exact r
  | shl => exact r
theorem RepS.tup (hs : Hs F B H) (r : RepS K F B H k (.tup ds) v) : ∃ a vs, v = .ref a ∧ SqT K H a vs ∧ repsK K F B H k.kid ds vs := by
  have h : ∀ {B : Hp}, Rep K B (.tup ds) v → ∃ a vs, v = .ref a ∧ SqT K B a vs ∧ Reps K B ds vs := fun r => by
    cases r with
    | tup s t => exact ⟨_, _, rfl, s, t⟩
  cases k with
  | drt => exact h r
  | brw => obtain ⟨a, vs, e, s, t⟩ := h (show Rep K B (.tup ds) v from r); exact ⟨a, vs, e, Same.seqT hs.bh s, t⟩
  | own => obtain ⟨a, vs, e, s, t⟩ := h (show Rep K F (.tup ds) v from r); exact ⟨a, vs, e, Same.seqT hs.fh s, t⟩
  | cln => obtain ⟨a, vs, e, s, t⟩ := h (show Rep K F (.tup ds) v from r); exact ⟨a, vs, e, Same.seqT hs.fh s, t⟩
  | shl => obtain ⟨a, vs, e, s, t⟩ := h (show Rep K F (.tup ds) v from r); exact ⟨a, vs, e, Same.seqT hs.fh s, t⟩
theorem RepS.scr {ns : List Int} (hs : Hs F B H) (r : RepS K F B H k (.scr ns) v) : ∃ a, v = .ref a ∧ SqL K H a (ns.map V.int) := by
  cases (show Rep K H (.scr ns) v from RepK.rep hs r) with
  | scr s => exact ⟨_, rfl, s⟩
theorem repsK.get {kk : Kd} {vs : List V} {j : Nat} (h : kk = .cln ∨ kk = .brw ∨ kk = .drt) (r : repsK K F B H kk ds vs) (e : ds[j]? = some d) : ∃ u, vs[j]? = some u ∧ RepK K F B H H kk d u := by
  rcases h with h | h | h <;> subst h
  · exact Reps.get r e
  · exact Reps.get r e
  · exact Reps.get r e
end
theorem kid_cases (k : Kd) : k.kid = .cln ∨ k.kid = .brw ∨ k.kid = .drt := by cases k <;> simp [Kd.kid]
end
end DL
namespace DL
open PySem PySem.Spec L2
open PyProof.Rows hiding St
section
variable {K : PySem.W.Frag} {F B H : Hp} {p : Addr} {o : HO}
theorem same_upd (n : H p = none) : Same H (upd H p o) := fun b u e => by rw [upd_ne (ne_of_none e n)]; exact e
theorem Same.none {H H' : Hp} (s : Same H H') {p : Addr} (n : H' p = none) : H p = none := s.free n
theorem upd_same2 {F H : Hp} (f : Same F H) (n : H p = none) : Same F (upd H p o) := f.trans (same_upd n)
theorem upd_two {F H : Hp} (f : Same F H) : Same (upd F p o) (upd H p o) := fun b u e => by
  unfold upd at e ⊢
  split at e
  · next z => rw [if_pos z]; exact e
  · next z => rw [if_neg z]; exact f _ _ e
theorem ne_upd {q : Addr} (h : upd H p o q ≠ none) : q = p ∨ H q ≠ none := by
  unfold upd at h
  split at h
  · next z => exact .inl z
  · exact .inr h
def notTup : HO → Bool
  | .tup _ => false | .frz _ _ => false | _ => true
theorem tup_upd (t : TupOk F H) (n : H p = none) (nt : notTup o = true) : TupOk F (upd H p o) := fun a xs h => by
  have h' : Rd H a (.tup xs) := by
    rcases h with h | ⟨u, h⟩
    · by_cases z : a = p
      · subst z; rw [upd_same] at h; cases h; cases nt
      · rw [upd_ne z] at h; exact .inl h
    · by_cases z : a = p
      · subst z; rw [upd_same] at h; cases h; cases nt
      · rw [upd_ne z] at h; exact .inr ⟨u, h⟩
  exact t a xs h'
theorem grow_own (s : Hs F B H) (n : H p = none) (nt : notTup o = true) : Grow F B H F B (upd H p o) :=
  ⟨.refl _, .refl _, same_upd n, ⟨s.fb, upd_same2 s.bh n, tup_upd s.tup n nt⟩, fun _ _ h => h, fun _ _ h => h⟩
theorem grow_brw (s : Hs F B H) (n : H p = none) (nt : notTup o = true) : Grow F B H F (upd B p o) (upd H p o) :=
  ⟨.refl _, same_upd (s.bh.free n), same_upd n, ⟨upd_same2 s.fb (s.bh.free n), upd_two s.bh, tup_upd s.tup n nt⟩, fun _ _ h => h, fun q h1 h2 => by
    rcases ne_upd h2 with z | z
    · subst z; exact absurd n h1
    · exact z⟩
theorem grow_cln (s : Hs F B H) (n : H p = none) : Grow F B H (upd F p o) (upd B p o) (upd H p o) :=
  ⟨same_upd (s.fh.free n), same_upd (s.bh.free n), same_upd n, ⟨upd_two s.fb, upd_two s.bh, fun a xs h => by
    by_cases z : a = p
    · subst z
      rcases h with h | ⟨u, h⟩
      · rw [upd_same] at h; cases h; exact .inl upd_same
      · rw [upd_same] at h; cases h; exact .inr ⟨u, upd_same⟩
    · have h' : Rd H a (.tup xs) := by
        rcases h with h | ⟨u, h⟩
        · rw [upd_ne z] at h; exact .inl h
        · rw [upd_ne z] at h; exact .inr ⟨u, h⟩
      exact Same.rd (same_upd (s.fh.free n)) (s.tup a xs h')⟩, fun q h1 h2 => by
    rcases ne_upd h2 with z | z
    · subst z; exact absurd n h1
    · exact z, fun q h1 h2 => by
    rcases ne_upd h2 with z | z
    · subst z; exact absurd n h1
    · exact z⟩
theorem new_lst {kk : Kd} {ds : List D} {vs : List V} {Q : VK} (hk : kk = .cln ∨ kk = .brw ∨ kk = .drt) (s : Hs F B H) (r : repsK K F B H kk ds vs) (q : Fin K F B H (if kk = .brw then .brw else kk.new) (.lst ds) Q) :
    ∀ p, H p = none → Q (.ref p) (upd H p (.lst vs)) := fun p n => by
  rcases hk with h | h | h <;> subst h
  · exact q (.ref p) _ _ _ (grow_own s n rfl) ⟨p, rfl, n, s.bh.free n, vs, upd_same, r⟩
  · exact q (.ref p) _ _ _ (grow_brw s n rfl) (Rep.lst upd_same (Reps.mono (same_upd (s.bh.free n)) r))
  · exact q (.ref p) _ _ _ (grow_own s n rfl) (Rep.lst upd_same (Reps.mono (same_upd n) r))
theorem new_tup {kk : Kd} {ds : List D} {vs : List V} {Q : VK} (hk : kk = .cln ∨ kk = .brw ∨ kk = .drt) (s : Hs F B H) (r : repsK K F B H kk ds vs) (q : Fin K F B H kk (.tup ds) Q) :
    ∀ p, H p = none → Q (.ref p) (upd H p (.tup vs)) := fun p n => by
  have g := grow_cln (o := .tup vs) s n
  rcases hk with h | h | h <;> subst h
  · exact q (.ref p) _ _ _ g (Rep.tup (SqT.of upd_same) (Reps.mono g.f r))
  · exact q (.ref p) _ _ _ g (Rep.tup (SqT.of upd_same) (Reps.mono g.b r))
  · exact q (.ref p) _ _ _ g (Rep.tup (SqT.of upd_same) (Reps.mono g.h r))
end
def Kd.mk : Kd → Kd
  | .cln => .own | .brw => .brw | _ => .drt
theorem mk_eq {k : Kd} (h : k = .cln ∨ k = .brw ∨ k = .drt) : (if k = .brw then Kd.brw else k.new) = k.mk := by
  rcases h with h | h | h <;> subst h <;> rfl
section
variable {X : Cx} {env : DEnv} {e a b c : Expr} {es : List Expr} {d x y z : D} {k k1 k2 k3 kz : Kd} {pos : Pos} {ds : List D}
theorem ev_nameO (i : Nat) {n : Str} (hN : X.N[i]? = some n) (hv : Vis X.env.scope n) (he : env[i]? = some (some (.own d))) (hd : (n == ("__debug__" : Str)) = false) (hcd : (n == ("__classdict__" : Str)) = false) : Ev X env (.Name n pos) d .shl :=
  ⟨(pe_var hN hv hd hcd).mono fun σ H Q ⟨F, B, E, q⟩ => by
    obtain ⟨v, h1, p, e1, r⟩ := E.at_ i _ he
    subst e1
    exact ⟨_, h1, q _ H F B (.refl E.hs) r.shl⟩⟩
theorem ev_nameF (i : Nat) {n : Str} (hN : X.N[i]? = some n) (hv : Vis X.env.scope n) (he : env[i]? = some (some (.frz d))) (hd : (n == ("__debug__" : Str)) = false) (hcd : (n == ("__classdict__" : Str)) = false) : Ev X env (.Name n pos) d .cln :=
  ⟨(pe_var hN hv hd hcd).mono fun σ H Q ⟨F, B, E, q⟩ => by
    obtain ⟨v, h1, r⟩ := E.at_ i _ he
    exact ⟨_, h1, q _ H F B (.refl E.hs) r⟩⟩
theorem ev_nameB (i : Nat) {n : Str} (hN : X.N[i]? = some n) (hv : Vis X.env.scope n) (he : env[i]? = some (some (.bor d))) (hd : (n == ("__debug__" : Str)) = false) (hcd : (n == ("__classdict__" : Str)) = false) : Ev X env (.Name n pos) d .brw :=
  ⟨(pe_var hN hv hd hcd).mono fun σ H Q ⟨F, B, E, q⟩ => by
    obtain ⟨v, h1, r⟩ := E.at_ i _ he
    exact ⟨_, h1, q _ H F B (.refl E.hs) r⟩⟩
theorem ev_C {v : V} (h : PE X e (tC v)) (r : ∀ B : Hp, Rep X.K B d v) : Ev X env e d .cln := ⟨h.mono fun σ H Q ⟨F, B, E, q⟩ => q v H F B (.refl E.hs) (r F)⟩
theorem ev_int {i j pos} : Ev X env (.Constant (.int i) j pos) (.int i) .cln := ev_C pe_int fun _ => .int i
theorem ev_bl {b j pos} : Ev X env (.Constant (.bool b) j pos) (.bl b) .cln := ev_C pe_bl fun _ => .bl b
theorem ev_non {j pos} : Ev X env (.Constant .none j pos) .non .cln := ev_C pe_non fun _ => .non
theorem ev_str {x j pos} : Ev X env (.Constant (.str x) j pos) (.str x) .cln := ev_C pe_str fun _ => .str x
theorem ev_globI {n : Str} {i : Int} {t : Tok} (hg : Gl X n) (hm : X.mg n = some (.int i t)) (hd : (n == ("__debug__" : Str)) = false) : Ev X env (.Name n pos) (.int i) .cln := ev_C (pe_glob (v := .int i) hg hm ⟨t, rfl⟩ hd) fun _ => .int i
theorem ev_globS {n s : Str} {t : Tok} (hg : Gl X n) (hm : X.mg n = some (.str s t)) (hd : (n == ("__debug__" : Str)) = false) : Ev X env (.Name n pos) (.str s) .cln := ev_C (pe_glob (v := .str s) hg hm ⟨t, rfl⟩ hd) fun _ => .str s
theorem ea_nil : EA X env [] [] .cln := ⟨pa_nil.mono fun σ H Q ⟨F, B, E, q⟩ => q [] H F B (.refl E.hs) .nil⟩
theorem held_cases (k : Kd) (d : D) : heldOf k d = .cln ∨ heldOf k d = .brw ∨ heldOf k d = .drt := by
  unfold heldOf
  split
  · exact .inl rfl
  · cases k <;> simp [Kd.held]
theorem join_cases (a b : Kd) : a.join b = .cln ∨ a.join b = .brw ∨ a.join b = .drt := by cases a <;> cases b <;> simp [Kd.join]
theorem repsK.up {K : PySem.W.Frag} {F B H : Hp} {vs : List V} (hs : Hs F B H) {k j : Kd} (hk : k = .cln ∨ k = .brw ∨ k = .drt) (hj : j = .cln ∨ j = .brw ∨ j = .drt) (r : repsK K F B H k ds vs) : repsK K F B H (k.join j) ds vs := by
  rcases hk with h | h | h <;> subst h <;> rcases hj with h | h | h <;> subst h
  · exact r
  · exact Reps.mono hs.fb r
  · exact Reps.mono hs.fh r
  · exact r
  · exact r
  · exact Reps.mono hs.bh r
  · exact r
  · exact r
  · exact r
theorem join_comm (a b : Kd) : a.join b = b.join a := by cases a <;> cases b <;> rfl
theorem repK_one {K : PySem.W.Frag} {F B H H0 : Hp} {v : V} {k : Kd} (hk : k = .cln ∨ k = .brw ∨ k = .drt) (r : RepK K F B H0 H k d v) : repsK K F B H k [d] [v] := by
  rcases hk with h | h | h <;> subst h <;> exact .one r
theorem repsK_cons {K : PySem.W.Frag} {F B H : Hp} {v : V} {vs : List V} {k : Kd} (hk : k = .cln ∨ k = .brw ∨ k = .drt) (r : repsK K F B H k [d] [v]) (t : repsK K F B H k ds vs) : repsK K F B H k (d :: ds) (v :: vs) := by
  have f : ∀ {B : Hp}, Reps K B [d] [v] → Reps K B ds vs → Reps K B (d :: ds) (v :: vs) := fun r t => by cases r with | cons r _ => exact .cons r t
  rcases hk with h | h | h <;> subst h <;> exact f r t
theorem ea_cons (ha : Ev X env a d k1) (hr : EA X env es ds k2) (h2 : k2 = .cln ∨ k2 = .brw ∨ k2 = .drt) (hs : starEach (a :: es) X.env = (false, eval a X.env) :: starEach es X.env) : EA X env (a :: es) (d :: ds) ((heldOf k1 d).join k2) :=
  ⟨(pa_cons ha.heldOf.pe hr.pa hs).mono fun σ H Q ⟨F, B, E, q⟩ => ⟨F, B, E, fun v H1 F1 B1 g1 r1 => ⟨F1, B1, E.grow g1, fun vs H2 F2 B2 g2 r2 => by
    have h1 := held_cases k1 d
    refine q _ _ _ _ (g1.trans g2) (repsK_cons (join_cases _ _) (repsK.up g2.hs h1 h2 (repsK.grow g2 (repK_one h1 r1))) ?_)
    rw [join_comm]
    exact repsK.up g2.hs h2 h1 r2⟩⟩⟩
theorem ea_cases (k1 k2 : Kd) (d : D) : (heldOf k1 d).join k2 = .cln ∨ (heldOf k1 d).join k2 = .brw ∨ (heldOf k1 d).join k2 = .drt := join_cases _ _
theorem repsK.len {K : PySem.W.Frag} {F B H : Hp} {vs : List V} {k : Kd} (r : repsK K F B H k ds vs) : vs.length = ds.length := by
  cases k <;> exact Reps.length r
theorem ev_list (h : EA X env es ds k) (hk : k = .cln ∨ k = .brw ∨ k = .drt) (hz : ds.length ≤ sizeLine) : Ev X env (.List es pos) (.lst ds) k.mk :=
  ⟨(pe_lst h.pa).mono fun σ H Q ⟨F, B, E, q⟩ => ⟨F, B, E, fun vs H1 F1 B1 g r => ⟨by rw [r.len]; exact hz, new_lst hk g.hs r fun w H2 F2 B2 g2 r2 => q w H2 F2 B2 (g.trans g2) (RepK.back g.h (by rw [mk_eq hk] at r2; exact r2))⟩⟩⟩
theorem ev_tup {x1} (h : EA X env es ds k) (hk : k = .cln ∨ k = .brw ∨ k = .drt) (hz : ds.length ≤ sizeLine) : Ev X env (.Tuple es x1 pos) (.tup ds) k :=
  ⟨(pe_tup h.pa).mono fun σ H Q ⟨F, B, E, q⟩ => ⟨F, B, E, fun vs H1 F1 B1 g r => ⟨by rw [r.len]; exact hz, new_tup hk g.hs r fun w H2 F2 B2 g2 r2 => q w H2 F2 B2 (g.trans g2) (RepK.back g.h r2)⟩⟩⟩
theorem two_pa (ha : Ev X env a x k1) (hb : Ev X env b y k2) {r : List V → Hp → VK → Prop}
    (hr : ∀ F B H v u Q, Hs F B H → RepS X.K F B H k1 x v → RepS X.K F B H k2 y u → Fin X.K F B H kz z Q → r [v, u] H Q) :
    ∀ σ H Q, tEv X.K env z kz σ H Q → tCB r (tCons (tEv X.K env x k1.st) (tCons (tEv X.K env y k2.st) tNil)) σ H Q := fun σ H Q ⟨F, B, E, q⟩ =>
  ⟨F, B, E, fun v H1 F1 B1 g1 r1 => ⟨F1, B1, E.grow g1, fun u H2 F2 B2 g2 r2 => hr F2 B2 H2 v u Q g2.hs (RepK.any0 (RepK.growS g2 r1)) (RepK.any0 r2) fun w H3 F3 B3 g3 r3 =>
    q w H3 F3 B3 ((g1.trans g2).trans g3) (RepK.back (g1.h.trans g2.h) r3)⟩⟩
theorem one_pa (ha : Ev X env a x k1) {r : List V → Hp → VK → Prop}
    (hr : ∀ F B H v Q, Hs F B H → RepS X.K F B H k1 x v → Fin X.K F B H kz z Q → r [v] H Q) :
    ∀ σ H Q, tEv X.K env z kz σ H Q → tCB r (tCons (tEv X.K env x k1.st) tNil) σ H Q := fun σ H Q ⟨F, B, E, q⟩ =>
  ⟨F, B, E, fun v H1 F1 B1 g1 r1 => hr F1 B1 H1 v Q g1.hs (RepK.any0 r1) fun w H3 F3 B3 g3 r3 => q w H3 F3 B3 (g1.trans g3) (RepK.back g1.h r3)⟩
structure Bn (X : Cx) (n : Str) (u : Value) : Prop where
  gl : Gl X n
  mg : X.mg n = none
  bt : bootBuiltins n = some u
  nn : n ≠ "__name__"
  db : (n == ("__debug__" : Str)) = false
theorem ev_call1 {n : Str} {id : String} {r : List V → Hp → VK → Prop} {p : Pos} (hc : CallR X (.builtin id) r) (bn : Bn X n (.builtin id)) (ha : Ev X env a x k1)
    (hr : ∀ F B H v Q, Hs F B H → RepS X.K F B H k1 x v → Fin X.K F B H kz z Q → r [v] H Q) (he : starEach [a] X.env = [(false, eval a X.env)]) : Ev X env (.Call (.Name n p) [a] [] pos) z kz :=
  ⟨(pe_callB hc bn.gl bn.mg bn.bt (pa_cons ha.st.pe pa_nil he) bn.nn bn.db he rfl).mono (one_pa ha hr)⟩
theorem ev_call2 {n : Str} {id : String} {r : List V → Hp → VK → Prop} {p : Pos} (hc : CallR X (.builtin id) r) (bn : Bn X n (.builtin id)) (ha : Ev X env a x k1) (hb : Ev X env b y k2)
    (hr : ∀ F B H v u Q, Hs F B H → RepS X.K F B H k1 x v → RepS X.K F B H k2 y u → Fin X.K F B H kz z Q → r [v, u] H Q) (he : starEach [a, b] X.env = [(false, eval a X.env), (false, eval b X.env)]) (hb' : starEach [b] X.env = [(false, eval b X.env)]) : Ev X env (.Call (.Name n p) [a, b] [] pos) z kz :=
  ⟨(pe_callB hc bn.gl bn.mg bn.bt (pa_cons ha.st.pe (pa_cons hb.st.pe pa_nil hb') (he.trans (by rw [hb']))) bn.nn bn.db (he.trans (by rw [hb'])) (by rw [hb']; rfl)).mono (two_pa ha hb hr)⟩
theorem ev_callT1 {n : Str} {T : String} {r : List V → Hp → VK → Prop} {p : Pos} (hc : CallR X (.type T) r) (bn : Bn X n (.type T)) (ha : Ev X env a x k1)
    (hr : ∀ F B H v Q, Hs F B H → RepS X.K F B H k1 x v → Fin X.K F B H kz z Q → r [v] H Q) (he : starEach [a] X.env = [(false, eval a X.env)]) : Ev X env (.Call (.Name n p) [a] [] pos) z kz :=
  ⟨(pe_callTy hc bn.gl bn.mg bn.bt (pa_cons ha.st.pe pa_nil he) bn.nn bn.db he rfl).mono (one_pa ha hr)⟩
end
end DL
namespace DL
open PySem PySem.Spec L2
open PyProof.Rows hiding St
section
variable {K : PySem.W.Frag} {B F H : Hp} {k : Kd}
theorem reps_ints : ∀ {ns : List Int} {vs : List V}, Reps K B (ns.map D.int) vs → vs = ns.map V.int
  | [], _, .nil => rfl
  | n :: ns, _, .cons r t => by
    cases r with
    | int => rw [reps_ints t]; rfl
theorem reps_strs : ∀ {ns : List Str} {vs : List V}, Reps K B (ns.map D.str) vs → vs = ns.map V.str
  | [], _, .nil => rfl
  | n :: ns, _, .cons r t => by
    cases r with
    | str => rw [reps_strs t]; rfl
theorem reps_bls : ∀ {ns : List Bool} {vs : List V}, Reps K B (ns.map D.bl) vs → vs = ns.map V.bl
  | [], _, .nil => rfl
  | n :: ns, _, .cons r t => by
    cases r with
    | bl => rw [reps_bls t]; rfl
theorem ints_reps : ∀ (ns : List Int), Reps K B (ns.map D.int) (ns.map V.int)
  | [] => .nil
  | n :: ns => .cons (.int n) (ints_reps ns)
theorem strs_reps : ∀ (ns : List Str), Reps K B (ns.map D.str) (ns.map V.str)
  | [] => .nil
  | n :: ns => .cons (.str n) (strs_reps ns)
end
section
variable {X : Cx} {env : DEnv} {e a b c : Expr} {k1 k2 k3 : Kd} {pos : Pos} {i j : Int} {s t : Str} {p q : Bool}
theorem ev_add (ha : Ev X env a (.int i) k1) (hb : Ev X env b (.int j) k2) : Ev X env (.BinOp a .Add b pos) (.int (i + j)) .cln :=
  ev_op2 op_add ha hb fun F B H v u Q hs r1 r2 q => ⟨i, j, r1.int hs, r2.int hs, fin_int hs q⟩
theorem ev_sub (ha : Ev X env a (.int i) k1) (hb : Ev X env b (.int j) k2) : Ev X env (.BinOp a .Sub b pos) (.int (i - j)) .cln :=
  ev_op2 op_sub ha hb fun F B H v u Q hs r1 r2 q => ⟨i, j, r1.int hs, r2.int hs, fin_int hs q⟩
theorem ev_mul (ha : Ev X env a (.int i) k1) (hb : Ev X env b (.int j) k2) (h : CMul i j) : Ev X env (.BinOp a .Mult b pos) (.int (i * j)) .cln :=
  ev_op2 op_mul ha hb fun F B H v u Q hs r1 r2 q => ⟨i, j, r1.int hs, r2.int hs, h, fin_int hs q⟩
theorem ev_fdiv (ha : Ev X env a (.int i) k1) (hb : Ev X env b (.int j) k2) (h : CDiv i j) : Ev X env (.BinOp a .FloorDiv b pos) (.int (i / j)) .cln :=
  ev_op2 op_fdiv ha hb fun F B H v u Q hs r1 r2 q => ⟨i, j, r1.int hs, r2.int hs, h, fin_int hs q⟩
theorem ev_mod (ha : Ev X env a (.int i) k1) (hb : Ev X env b (.int j) k2) (h : 0 < j) : Ev X env (.BinOp a .Mod b pos) (.int (i % j)) .cln :=
  ev_op2 op_mod ha hb fun F B H v u Q hs r1 r2 q => ⟨i, j, r1.int hs, r2.int hs, h, fin_int hs q⟩
theorem ev_pow (ha : Ev X env a (.int i) k1) (hb : Ev X env b (.int j) k2) (h : CPow i j) : Ev X env (.BinOp a .Pow b pos) (.int (i ^ j.toNat)) .cln :=
  ev_op2 op_pow ha hb fun F B H v u Q hs r1 r2 q => ⟨i, j, r1.int hs, r2.int hs, h, fin_int hs q⟩
theorem ev_addS (ha : Ev X env a (.str s) k1) (hb : Ev X env b (.str t) k2) (h : s.length + t.length ≤ sizeLine) : Ev X env (.BinOp a .Add b pos) (.str (s ++ t)) .cln :=
  ev_op2 op_add_str ha hb fun F B H v u Q hs r1 r2 q => ⟨s, t, r1.str hs, r2.str hs, h, fin_str hs q⟩
theorem ev_neg (ha : Ev X env a (.int i) k1) : Ev X env (.UnaryOp .USub a pos) (.int (-i)) .cln :=
  ⟨(pe_un un_neg ha.st.pe).mono (one_te (te := tUn _) (fun _ _ _ _ h => h) ha fun F B H v Q hs r1 q => ⟨i, r1.int hs, fin_int hs q⟩)⟩
end
inductive CmpI : CmpOp → Int → Int → Bool → Prop
  | lt {i j} : CmpI .Lt i j (decide (i < j))
  | le {i j} : CmpI .LtE i j (decide (i ≤ j))
  | gt {i j} : CmpI .Gt i j (decide (j < i))
  | ge {i j} : CmpI .GtE i j (decide (j ≤ i))
  | eq {i j} : CmpI .Eq i j (decide (i = j))
  | ne {i j} : CmpI .NotEq i j (!decide (i = j))
def rCI (op : CmpOp) : R2 := fun x y H Q => ∃ i j t, x = .int i ∧ y = .int j ∧ CmpI op i j t ∧ Q (.bl t) H
section
variable {X : Cx} {op : CmpOp}
theorem op_cI : OpR X (compareOp op) (rCI op) := by
  intro pins s σ H x y v u Q I rx ry h
  obtain ⟨i, j, t, rfl, rfl, c, q⟩ := h
  cases c with
  | lt => exact op_lt pins s σ H _ _ v u Q I rx ry ⟨i, j, rfl, rfl, q⟩
  | le => exact op_le pins s σ H _ _ v u Q I rx ry ⟨i, j, rfl, rfl, q⟩
  | gt => exact op_gt pins s σ H _ _ v u Q I rx ry ⟨i, j, rfl, rfl, q⟩
  | ge => exact op_ge pins s σ H _ _ v u Q I rx ry ⟨i, j, rfl, rfl, q⟩
  | eq => exact op_eq pins s σ H _ _ v u Q I rx ry ⟨rfl, by rw [show decide (V.int i = V.int j) = decide (i = j) by simp]; exact q⟩
  | ne => exact op_ne pins s σ H _ _ v u Q I rx ry ⟨rfl, by rw [show decide (V.int i = V.int j) = decide (i = j) by simp]; exact q⟩
theorem CmpI.nomark {i j : Int} {t : Bool} (c : CmpI op i j t) (b : Expr) : behindInMarks op b = false := by
  cases c <;> exact L2.nomark _
variable {env : DEnv} {a b c : Expr} {k1 k2 k3 : Kd} {pos : Pos} {i j l : Int} {s t : Str} {p q : Bool} {op2 : CmpOp}
theorem ev_cI (ha : Ev X env a (.int i) k1) (hb : Ev X env b (.int j) k2) (h : CmpI op i j p) : Ev X env (.Compare a [op] [b] pos) (.bl p) .cln :=
  ev_cmp2 op_cI ha hb (h.nomark b) fun F B H v u Q hs r1 r2 q => ⟨i, j, p, r1.int hs, r2.int hs, h, fin_bl hs q⟩
theorem et_cI (ha : Ev X env a (.int i) k1) (hb : Ev X env b (.int j) k2) (h : CmpI op i j p) : Et X env (.Compare a [op] [b] pos) p :=
  et_cmp2 op_cI ha hb (h.nomark b) fun F B H v u Q hs r1 r2 q => ⟨i, j, p, r1.int hs, r2.int hs, h, fin_bl hs q⟩
theorem three (ha : Ev X env a (.int i) k1) (hb : Ev X env b (.int j) k2) (hc : Ev X env c (.int l) k3) (h1 : CmpI op i j p) (h2 : CmpI op2 j l q) :
    ∀ σ H Q, tEv X.K env (.bl (p && q)) .cln σ H Q → tChain (rCI op) (rCI op2) (tEv X.K env (.int i) k1) (tEv X.K env (.int j) k2) (tEv X.K env (.int l) k3) σ H Q := fun σ H Q ⟨F, B, E, w⟩ =>
  ⟨F, B, E, fun v H1 F1 B1 g1 r1 => ⟨F1, B1, E.grow g1, fun u H2 F2 B2 g2 r2 => by
    cases (RepK.scalR rfl g1.hs r1)
    cases (RepK.scalR rfl g2.hs r2)
    refine ⟨i, j, p, rfl, rfl, h1, p, rfl, ?_⟩
    cases p with
    | false => rw [if_neg Bool.false_ne_true]; exact w _ _ _ _ (g1.trans g2) (.bl _)
    | true =>
      rw [if_pos rfl]
      refine ⟨F2, B2, (E.grow g1).grow g2, fun x H3 F3 B3 g3 r3 => ?_⟩
      cases (RepK.scalR rfl g3.hs r3)
      exact ⟨j, l, q, rfl, rfl, h2, w _ _ _ _ ((g1.trans g2).trans g3) (.bl _)⟩⟩⟩
theorem ev_chain (ha : Ev X env a (.int i) k1) (hb : Ev X env b (.int j) k2) (hc : Ev X env c (.int l) k3) (h1 : CmpI op i j p) (h2 : CmpI op2 j l q) (hm : lastMarks [op, op2] [b, c] = false) : Ev X env (.Compare a [op, op2] [b, c] pos) (.bl (p && q)) .cln :=
  ⟨(pe_chain op_cI op_cI ha.pe hb.pe hc.pe hm).mono (three ha hb hc h1 h2)⟩
theorem et_chain (ha : Ev X env a (.int i) k1) (hb : Ev X env b (.int j) k2) (hc : Ev X env c (.int l) k3) (h1 : CmpI op i j p) (h2 : CmpI op2 j l q) (hm : lastMarks [op, op2] [b, c] = false) : Et X env (.Compare a [op, op2] [b, c] pos) (p && q) :=
  ⟨(pt_chain op_cI op_cI ha.pe hb.pe hc.pe hm).mono fun σ H Q ⟨F, B, E, w⟩ => three ha hb hc h1 h2 σ H _ ⟨F, B, E, fun v H' F' B' g r => by
    cases (show Rep X.K F' (.bl (p && q)) v from r)
    exact ⟨_, rfl, w H' F' B' g⟩⟩⟩
end
mutual
def D.py : D → PyData
  | .non => .none | .bl b => .bool b | .int i => .int i | .str x => .str x
  | .lst xs => .list (D.pys xs) | .tup xs => .tuple (D.pys xs)
  | _ => .none
def D.pys : List D → List PyData
  | [] => []
  | d :: ds => D.py d :: D.pys ds
end
mutual
def D.pyo : D → Bool
  | .non => true | .bl _ => true | .int _ => true | .str x => PyData.strOk x
  | .lst xs => D.pyos xs | .tup xs => D.pyos xs
  | _ => false
def D.pyos : List D → Bool
  | [] => true
  | d :: ds => D.pyo d && D.pyos ds
end
section
variable {K : PySem.W.Frag} {H : Hp}
mutual
theorem Rep.dp : ∀ {d : D} {v : V}, d.pyo = true → Rep K H d v → Dp K H v d.py
  | _, _, _, .non => .non
  | _, _, _, .bl b => .bl b
  | _, _, _, .int b => .int b
  | _, _, _, .str b => .str b
  | .lst ds, _, i, .lst s r => .lst (SqL.of s) (Reps.dp i r)
  | .tup ds, _, i, .tup s r => .tup s (Reps.dp i r)
  | .dK _, _, i, .dK _ _ => nomatch i
  | .dT _, _, i, .dT _ _ => nomatch i
  | .obj _ _, _, i, .obj _ _ => nomatch i
  | .scr _, _, i, .scr _ => nomatch i
theorem Reps.dp : ∀ {d : List D} {v : List V}, D.pyos d = true → Reps K H d v → DpAll K H v (D.pys d)
  | _, _, _, .nil => .nil
  | _ :: _, _, i, .cons r q => .cons (Rep.dp (Bool.and_eq_true_iff.mp i).1 r) (Reps.dp (Bool.and_eq_true_iff.mp i).2 q)
end
end
mutual
theorem D.canLay : ∀ {d : D}, d.pyo = true → d.py.canLay0 = true
  | .non, _ => rfl
  | .bl _, _ => rfl
  | .int _, _ => rfl
  | .str _, h => by show PyData.canLay0 (.str _) = true; rw [PyData.canLay0]; exact h
  | .lst ds, h => by show PyData.canLay0 (.list _) = true; rw [PyData.canLay0]; exact D.canLays h
  | .tup ds, h => by show PyData.canLay0 (.tuple _) = true; rw [PyData.canLay0]; exact D.canLays h
  | .dK _, h => nomatch h
  | .dT _, h => nomatch h
  | .obj _ _, h => nomatch h
  | .scr _, h => nomatch h
theorem D.canLays : ∀ {ds : List D}, D.pyos ds = true → PyData.canLayAll0 (D.pys ds) = true
  | [], _ => by show PyData.canLayAll0 [] = true; rw [PyData.canLayAll0]
  | d :: ds, h => by
    show PyData.canLayAll0 (_ :: _) = true
    rw [PyData.canLayAll0, D.canLay (Bool.and_eq_true_iff.mp h).1, D.canLays (Bool.and_eq_true_iff.mp h).2]; rfl
end
abbrev D.shal (d : D) : Prop := d.py.depth ≤ 64
theorem D.shaped {d : D} (h : d.pyo = true) (s : d.shal) : SeqAt.shaped d.py = true := by
  show (d.py.canLay0 && decide (d.py.depth ≤ 64)) = true
  rw [D.canLay h, decide_eq_true s]; rfl
section
variable {X : Cx} {env : DEnv} {a b c : Expr} {k1 k2 k3 : Kd} {pos : Pos} {i j l : Int} {s t : Str} {p q : Bool} {x y : D}
theorem ev_eqS (ha : Ev X env a (.str s) k1) (hb : Ev X env b (.str t) k2) : Ev X env (.Compare a [.Eq] [b] pos) (.bl (decide (s = t))) .cln :=
  ev_cmp2 op_eq ha hb (nomark b) fun F B H v u Q hs r1 r2 q => by
    rw [r1.str hs, r2.str hs]
    exact ⟨rfl, by rw [show decide (V.str s = V.str t) = decide (s = t) by simp]; exact fin_bl hs q⟩
theorem ev_neS (ha : Ev X env a (.str s) k1) (hb : Ev X env b (.str t) k2) : Ev X env (.Compare a [.NotEq] [b] pos) (.bl (!decide (s = t))) .cln :=
  ev_cmp2 op_ne ha hb (nomark b) fun F B H v u Q hs r1 r2 q => by
    rw [r1.str hs, r2.str hs]
    exact ⟨rfl, by rw [show decide (V.str s = V.str t) = decide (s = t) by simp]; exact fin_bl hs q⟩
theorem et_eqS (ha : Ev X env a (.str s) k1) (hb : Ev X env b (.str t) k2) : Et X env (.Compare a [.Eq] [b] pos) (decide (s = t)) :=
  et_cmp2 op_eq ha hb (nomark b) fun F B H v u Q hs r1 r2 q => by
    rw [r1.str hs, r2.str hs]
    exact ⟨rfl, by rw [show decide (V.str s = V.str t) = decide (s = t) by simp]; exact fin_bl hs q⟩
theorem et_neS (ha : Ev X env a (.str s) k1) (hb : Ev X env b (.str t) k2) : Et X env (.Compare a [.NotEq] [b] pos) (!decide (s = t)) :=
  et_cmp2 op_ne ha hb (nomark b) fun F B H v u Q hs r1 r2 q => by
    rw [r1.str hs, r2.str hs]
    exact ⟨rfl, by rw [show decide (V.str s = V.str t) = decide (s = t) by simp]; exact fin_bl hs q⟩
theorem ev_eqB (ha : Ev X env a (.bl p) k1) (hb : Ev X env b (.bl q) k2) : Ev X env (.Compare a [.Eq] [b] pos) (.bl (decide (p = q))) .cln :=
  ev_cmp2 op_eq ha hb (nomark b) fun F B H v u Q hs r1 r2 w => by
    rw [r1.bl hs, r2.bl hs]
    exact ⟨rfl, by rw [show decide (V.bl p = V.bl q) = decide (p = q) by simp]; exact fin_bl hs w⟩
theorem ev_neB (ha : Ev X env a (.bl p) k1) (hb : Ev X env b (.bl q) k2) : Ev X env (.Compare a [.NotEq] [b] pos) (.bl (!decide (p = q))) .cln :=
  ev_cmp2 op_ne ha hb (nomark b) fun F B H v u Q hs r1 r2 w => by
    rw [r1.bl hs, r2.bl hs]
    exact ⟨rfl, by rw [show decide (V.bl p = V.bl q) = decide (p = q) by simp]; exact fin_bl hs w⟩
theorem et_eqB (ha : Ev X env a (.bl p) k1) (hb : Ev X env b (.bl q) k2) : Et X env (.Compare a [.Eq] [b] pos) (decide (p = q)) :=
  et_cmp2 op_eq ha hb (nomark b) fun F B H v u Q hs r1 r2 w => by
    rw [r1.bl hs, r2.bl hs]
    exact ⟨rfl, by rw [show decide (V.bl p = V.bl q) = decide (p = q) by simp]; exact fin_bl hs w⟩
theorem et_neB (ha : Ev X env a (.bl p) k1) (hb : Ev X env b (.bl q) k2) : Et X env (.Compare a [.NotEq] [b] pos) (!decide (p = q)) :=
  et_cmp2 op_ne ha hb (nomark b) fun F B H v u Q hs r1 r2 w => by
    rw [r1.bl hs, r2.bl hs]
    exact ⟨rfl, by rw [show decide (V.bl p = V.bl q) = decide (p = q) by simp]; exact fin_bl hs w⟩
theorem ev_eqD (hu : X.A.units + 64 < cLine) (ha : Ev X env a x k1) (hb : Ev X env b y k2) (ox : x.pyo = true) (oy : y.pyo = true) (sx : x.shal) (sy : y.shal) (hp : PyData.eqv x.py y.py = p) : Ev X env (.Compare a [.Eq] [b] pos) (.bl p) .cln :=
  ev_cmp2 (op_eqD hu) ha hb (nomark b) fun F B H v u Q hs r1 r2 w => ⟨x.py, y.py, Rep.dp ox (r1.rep hs), Rep.dp oy (r2.rep hs), D.shaped ox sx, D.shaped oy sy, by rw [hp]; exact fin_bl hs w⟩
theorem ev_neD (hu : X.A.units + 64 < cLine) (ha : Ev X env a x k1) (hb : Ev X env b y k2) (ox : x.pyo = true) (oy : y.pyo = true) (sx : x.shal) (sy : y.shal) (hp : PyData.eqv x.py y.py = p) : Ev X env (.Compare a [.NotEq] [b] pos) (.bl (!p)) .cln :=
  ev_cmp2 (op_neD hu) ha hb (nomark b) fun F B H v u Q hs r1 r2 w => ⟨x.py, y.py, Rep.dp ox (r1.rep hs), Rep.dp oy (r2.rep hs), D.shaped ox sx, D.shaped oy sy, by rw [hp]; exact fin_bl hs w⟩
theorem et_eqD (hu : X.A.units + 64 < cLine) (ha : Ev X env a x k1) (hb : Ev X env b y k2) (ox : x.pyo = true) (oy : y.pyo = true) (sx : x.shal) (sy : y.shal) (hp : PyData.eqv x.py y.py = p) : Et X env (.Compare a [.Eq] [b] pos) p :=
  et_cmp2 (op_eqD hu) ha hb (nomark b) fun F B H v u Q hs r1 r2 w => ⟨x.py, y.py, Rep.dp ox (r1.rep hs), Rep.dp oy (r2.rep hs), D.shaped ox sx, D.shaped oy sy, by rw [hp]; exact fin_bl hs w⟩
theorem et_neD (hu : X.A.units + 64 < cLine) (ha : Ev X env a x k1) (hb : Ev X env b y k2) (ox : x.pyo = true) (oy : y.pyo = true) (sx : x.shal) (sy : y.shal) (hp : PyData.eqv x.py y.py = p) : Et X env (.Compare a [.NotEq] [b] pos) (!p) :=
  et_cmp2 (op_neD hu) ha hb (nomark b) fun F B H v u Q hs r1 r2 w => ⟨x.py, y.py, Rep.dp ox (r1.rep hs), Rep.dp oy (r2.rep hs), D.shaped ox sx, D.shaped oy sy, by rw [hp]; exact fin_bl hs w⟩
def D.isN : D → Bool
  | .non => true | _ => false
theorem rep_isN {K : PySem.W.Frag} {H : Hp} {v : V} (r : Rep K H x v) : decide (v = .non) = x.isN := by
  cases r <;> rfl
theorem ev_isN {j' pos'} (ha : Ev X env a x k1) (hp : x.isN = p) : Ev X env (.Compare a [.Is] [.Constant .none j' pos'] pos) (.bl p) .cln :=
  ⟨(pe_cmp (pc_isN ha.st.pe)).mono (one_te (te := tIsN) (r := fun x H Q => Q (.bl (decide (x = .non))) H) (fun _ _ _ _ h => h) ha fun F B H v Q hs r1 q => by rw [rep_isN (r1.rep hs), hp]; exact fin_bl hs q)⟩
theorem ev_notN {j' pos'} (ha : Ev X env a x k1) (hp : x.isN = p) : Ev X env (.Compare a [.IsNot] [.Constant .none j' pos'] pos) (.bl (!p)) .cln :=
  ⟨(pe_cmp (pc_notN ha.st.pe)).mono (one_te (te := tNotN) (r := fun x H Q => Q (.bl (!decide (x = .non))) H) (fun _ _ _ _ h => h) ha fun F B H v Q hs r1 q => by rw [rep_isN (r1.rep hs), hp]; exact fin_bl hs q)⟩
theorem Ev.et (h : Ev X env a (.bl p) k1) (he : ∀ whole, isTrue a X.env whole = (do let v ← whole; standAt a.pos; holding [v] (truthy v))) : Et X env a p :=
  ⟨(pt_val h.pe he).mono fun σ H Q ⟨F, B, E, q⟩ => ⟨F, B, E, fun v H' F' B' g r => by
    cases (RepK.scalR rfl g.hs r)
    exact ⟨p, rfl, q H' F' B' g⟩⟩⟩
theorem et_not (h : Et X env a p) : Et X env (.UnaryOp .Not a pos) (!p) :=
  ⟨(pt_not h.pt).mono fun σ H Q ⟨F, B, E, q⟩ => ⟨F, B, E, fun H' F' B' g => q H' F' B' g⟩⟩
theorem ev_not (h : Ev X env a (.bl p) k1) : Ev X env (.UnaryOp .Not a pos) (.bl (!p)) .cln :=
  ⟨(pe_not h.pe).mono fun σ H Q ⟨F, B, E, q⟩ => ⟨F, B, E, fun v H' F' B' g r => by
    cases (RepK.scalR rfl g.hs r)
    exact ⟨p, rfl, q _ H' F' B' g (.bl _)⟩⟩⟩
structure Ew (X : Cx) (env : DEnv) (e : Expr) (b : Bool) : Prop where
  pw : PW X e (tEt X.K env b)
variable {rest : List Expr}
theorem Ew.et (h : Ew X env a p) : Et X env a p := ⟨h.pw.pt⟩
theorem ew_and1 (h : Et X env a p) : Ew X env (.BoolOp .And [a] pos) p := ⟨pw_and1 h.pt⟩
theorem ew_or1 (h : Et X env a p) : Ew X env (.BoolOp .Or [a] pos) p := ⟨pw_or1 h.pt⟩
theorem pw_false {e : Expr} : PW X e (fun _ _ _ => False) := ⟨fun _ _ _ _ _ _ _ h => h.elim⟩
theorem pe_false {e : Expr} : PE X e (fun _ _ _ => False) := ⟨fun _ _ _ _ _ _ h => h.elim⟩
theorem ew_and (h1 : Et X env a p) (h2 : p = true → Ew X env (.BoolOp .And (b :: rest) pos) q) : Ew X env (.BoolOp .And (a :: b :: rest) pos) (p && q) := by
  cases p with
  | true =>
    exact ⟨(pw_and h1.pt (h2 rfl).pw).mono fun σ H Q ⟨F, B, E, w⟩ => ⟨F, B, E, fun H' F' B' g => by
      show if true = true then _ else _
      rw [if_pos rfl]
      exact ⟨F', B', E.grow g, fun H2 F2 B2 g2 => w H2 F2 B2 (g.trans g2)⟩⟩⟩
  | false =>
    exact ⟨(pw_and h1.pt pw_false).mono fun σ H Q ⟨F, B, E, w⟩ => ⟨F, B, E, fun H' F' B' g => by
      show if false = true then _ else _
      rw [if_neg Bool.false_ne_true]
      exact w H' F' B' g⟩⟩
theorem ew_or (h1 : Et X env a p) (h2 : p = false → Ew X env (.BoolOp .Or (b :: rest) pos) q) : Ew X env (.BoolOp .Or (a :: b :: rest) pos) (p || q) := by
  cases p with
  | false =>
    exact ⟨(pw_or h1.pt (h2 rfl).pw).mono fun σ H Q ⟨F, B, E, w⟩ => ⟨F, B, E, fun H' F' B' g => by
      show if false = true then _ else _
      rw [if_neg Bool.false_ne_true]
      exact ⟨F', B', E.grow g, fun H2 F2 B2 g2 => w H2 F2 B2 (g.trans g2)⟩⟩⟩
  | true =>
    exact ⟨(pw_or h1.pt pw_false).mono fun σ H Q ⟨F, B, E, w⟩ => ⟨F, B, E, fun H' F' B' g => by
      show if true = true then _ else _
      rw [if_pos rfl]
      exact w H' F' B' g⟩⟩
theorem ev_one {op} (h : Ev X env a (.bl p) k1) : Ev X env (.BoolOp op [a] pos) (.bl p) .cln := ⟨(pe_one h.scal.pe)⟩
theorem ev_and (h1 : Ev X env a (.bl p) k1) (h2 : p = true → Ev X env (.BoolOp .And (b :: rest) pos) (.bl q) .cln) : Ev X env (.BoolOp .And (a :: b :: rest) pos) (.bl (p && q)) .cln := by
  cases p with
  | true =>
    exact ⟨(pe_and h1.scal.pe (h2 rfl).pe).mono fun σ H Q ⟨F, B, E, w⟩ => ⟨F, B, E, fun v H' F' B' g r => by
      cases (show Rep X.K F' (.bl true) v from r)
      refine ⟨true, rfl, ?_⟩
      rw [if_pos rfl]
      exact ⟨F', B', E.grow g, fun u H2 F2 B2 g2 r2 => w u H2 F2 B2 (g.trans g2) r2⟩⟩⟩
  | false =>
    exact ⟨(pe_and h1.scal.pe pe_false).mono fun σ H Q ⟨F, B, E, w⟩ => ⟨F, B, E, fun v H' F' B' g r => by
      cases (show Rep X.K F' (.bl false) v from r)
      refine ⟨false, rfl, ?_⟩
      rw [if_neg Bool.false_ne_true]
      exact w _ H' F' B' g (.bl _)⟩⟩
theorem ev_or (h1 : Ev X env a (.bl p) k1) (h2 : p = false → Ev X env (.BoolOp .Or (b :: rest) pos) (.bl q) .cln) : Ev X env (.BoolOp .Or (a :: b :: rest) pos) (.bl (p || q)) .cln := by
  cases p with
  | false =>
    exact ⟨(pe_or h1.scal.pe (h2 rfl).pe).mono fun σ H Q ⟨F, B, E, w⟩ => ⟨F, B, E, fun v H' F' B' g r => by
      cases (show Rep X.K F' (.bl false) v from r)
      refine ⟨false, rfl, ?_⟩
      rw [if_neg Bool.false_ne_true]
      exact ⟨F', B', E.grow g, fun u H2 F2 B2 g2 r2 => w u H2 F2 B2 (g.trans g2) r2⟩⟩⟩
  | true =>
    exact ⟨(pe_or h1.scal.pe pe_false).mono fun σ H Q ⟨F, B, E, w⟩ => ⟨F, B, E, fun v H' F' B' g r => by
      cases (show Rep X.K F' (.bl true) v from r)
      refine ⟨true, rfl, ?_⟩
      rw [if_pos rfl]
      exact w _ H' F' B' g (.bl _)⟩⟩
theorem ev_if (hc : Et X env c p) (ha : p = true → Ev X env a x k1) (hb : p = false → Ev X env b x k1) : Ev X env (.IfExp c a b pos) x k1 := by
  cases p with
  | true =>
    exact ⟨(pe_ifExp hc.pt (ha rfl).pe pe_false).mono fun σ H Q ⟨F, B, E, w⟩ => ⟨F, B, E, fun H' F' B' g => by
      show if true = true then _ else _
      rw [if_pos rfl]
      exact ⟨F', B', E.grow g, fun u H2 F2 B2 g2 r2 => w u H2 F2 B2 (g.trans g2) (RepK.back g.h r2)⟩⟩⟩
  | false =>
    exact ⟨(pe_ifExp hc.pt pe_false (hb rfl).pe).mono fun σ H Q ⟨F, B, E, w⟩ => ⟨F, B, E, fun H' F' B' g => by
      show if false = true then _ else _
      rw [if_neg Bool.false_ne_true]
      exact ⟨F', B', E.grow g, fun u H2 F2 B2 g2 r2 => w u H2 F2 B2 (g.trans g2) (RepK.back g.h r2)⟩⟩⟩
end
end DL
namespace DL
open PySem PySem.Spec L2
open PyProof.Rows hiding St
section
variable {X : Cx} {env : DEnv} {e a b c : Expr} {k1 k2 k3 : Kd} {pos : Pos} {i j : Int} {s t : Str} {p q : Bool} {x y : D} {ds es : List D} {d : D}
theorem ixN_len {n : Nat} {i : Int} {j : Nat} (h : ixN n i = some j) : j < n := (ixN_seq h).2.1
theorem atI_reps {K : PySem.W.Frag} {F B H : Hp} {kk : Kd} {vs : List V} (hk : kk = .cln ∨ kk = .brw ∨ kk = .drt) (r : repsK K F B H kk ds vs) (h : atI ds i = some d) : ∃ u, atI vs i = some u ∧ RepK K F B H H kk d u := by
  unfold atI at h ⊢
  rw [r.len]
  cases e : ixN ds.length i with
  | none => rw [e] at h; cases h
  | some j =>
    rw [e] at h
    exact repsK.get hk r h
theorem Fin.now {K : PySem.W.Frag} {F B H : Hp} {k : Kd} {z : D} {Q : VK} {w : V} (hs : Hs F B H) (q : Fin K F B H k z Q) (r : RepK K F B H H k z w) : Q w H := q w H F B (.refl hs) r
theorem two_ix {r : R2} (hr : IxR X r) (ha : Ev X env a x k1) (hb : Ev X env b y k2) (hs : PlainIx b) {z : D} {kz : Kd}
    (h : ∀ F B H v u Q, Hs F B H → RepS X.K F B H k1 x v → RepS X.K F B H k2 y u → Fin X.K F B H kz z Q → r v u H Q) : Ev X env (.Subscript a b pos) z kz :=
  ⟨(pe_ix hr ha.st.pe hb.st.pe hs).mono (two ha hb h)⟩
theorem ev_ixL (ha : Ev X env a (.lst ds) k1) (hb : Ev X env b (.int i) k2) (h : atI ds i = some d) (hs : PlainIx b) : Ev X env (.Subscript a b pos) d k1.kid :=
  two_ix ix_list ha hb hs fun F B H v u Q s r1 r2 q => by
    obtain ⟨l, vs, e1, e2, r⟩ := r1.lst s
    obtain ⟨w, e3, r3⟩ := atI_reps (kid_cases _) r h
    exact ⟨l, vs, i, w, e1, r2.int s, SqL.of e2, e3, q.now s r3⟩
theorem ev_ixT (ha : Ev X env a (.tup ds) k1) (hb : Ev X env b (.int i) k2) (h : atI ds i = some d) (hs : PlainIx b) : Ev X env (.Subscript a b pos) d k1.kid :=
  two_ix ix_tup ha hb hs fun F B H v u Q s r1 r2 q => by
    obtain ⟨l, vs, e1, e2, r⟩ := r1.tup s
    obtain ⟨w, e3, r3⟩ := atI_reps (kid_cases _) r h
    exact ⟨l, vs, i, w, e1, r2.int s, e2, e3, q.now s r3⟩
theorem ev_ixC {ns : List Int} (ha : Ev X env a (.scr ns) k1) (hb : Ev X env b (.int i) k2) (h : atI ns i = some j) (hs : PlainIx b) : Ev X env (.Subscript a b pos) (.int j) .cln :=
  two_ix ix_list ha hb hs fun F B H v u Q s r1 r2 q => by
    obtain ⟨l, e1, e2⟩ := r1.scr s
    refine ⟨l, ns.map V.int, i, .int j, e1, r2.int s, e2, ?_, fin_int s q⟩
    unfold atI at h ⊢
    rw [List.length_map]
    cases e : ixN ns.length i with
    | none => rw [e] at h; cases h
    | some m =>
      rw [e] at h
      show (ns.map V.int)[m]? = _
      rw [List.getElem?_map, show ns[m]? = some j from h]; rfl
theorem ev_ixS {cc : Nat} (ha : Ev X env a (.str s) k1) (hb : Ev X env b (.int i) k2) (hz : s.length ≤ sizeLine) (h : atI s.cps.toList i = some cc) (hs : PlainIx b) : Ev X env (.Subscript a b pos) (.str ⟨#[cc]⟩) .cln :=
  two_ix ix_str ha hb hs fun F B H v u Q hh r1 r2 q => ⟨s, i, cc, r1.str hh, r2.int hh, hz, h, fin_str hh q⟩
def cutD (xs : List D) (lo hi : Option Int) : List D := (xs.drop (HT.sIx xs.length 0 lo)).take (HT.sIx xs.length xs.length hi - HT.sIx xs.length 0 lo)
theorem repsK.cut {K : PySem.W.Frag} {F B H : Hp} {k : Kd} {vs : List V} (r : repsK K F B H k ds vs) (lo hi : Option Int) : repsK K F B H k (cutD ds lo hi) (cutV vs lo hi) := by
  have e := r.len
  unfold cutD cutV
  rw [e]
  cases k <;> exact Reps.take _ (Reps.drop _ r)
structure Eo (X : Cx) (env : DEnv) (e : Option Expr) (o : Option Int) : Prop where
  po : PO X e (fun σ H Q => ∃ F B, EnvE X.K F B H env σ ∧ ∀ H' F' B', Grow F B H F' B' H' → Q o H')
theorem _root_.L2.PO.mono {e : Option Expr} {t t' : TO} (h : PO X e t) (m : ∀ σ H Q, t' σ H Q → t σ H Q) : PO X e t' := ⟨fun pins s σ H Q I q => h.run pins s σ H Q I (m σ H Q q)⟩
theorem eo_none : Eo X env none none := ⟨po_none.mono fun σ H Q ⟨F, B, E, q⟩ => q H F B (.refl E.hs)⟩
theorem eo_some (h : Ev X env e (.int i) k1) : Eo X env (some e) (some i) := ⟨(po_some h.pe).mono fun σ H Q ⟨F, B, E, q⟩ => ⟨F, B, E, fun v H' F' B' g r => by
  cases (RepK.scalR rfl g.hs r)
  exact ⟨i, rfl, q H' F' B' g⟩⟩⟩
variable {lo hi : Option Expr} {l u : Option Int} {p2 : Pos}
theorem sl_te {r : V → Option Int → Option Int → Hp → VK → Prop} {z : D} {kz : Kd} (hr : SlR X r) (ha : Ev X env a x k1) (hl : Eo X env lo l) (hu : Eo X env hi u)
    (h : ∀ F B H v Q, Hs F B H → RepS X.K F B H k1 x v → Fin X.K F B H kz z Q → r v l u H Q) : Ev X env (.Subscript a (.Slice lo hi none p2) pos) z kz :=
  ⟨(pe_slice hr ha.st.pe hl.po hu.po).mono fun σ H Q ⟨F, B, E, q⟩ => ⟨F, B, E, fun v H1 F1 B1 g1 r1 => ⟨F1, B1, E.grow g1, fun H2 F2 B2 g2 => ⟨F2, B2, (E.grow g1).grow g2, fun H3 F3 B3 g3 =>
    h F3 B3 H3 v Q g3.hs (RepK.any0 (RepK.growS g3 (RepK.growS g2 r1))) fun w H4 F4 B4 g4 r4 => q w H4 F4 B4 (((g1.trans g2).trans g3).trans g4) (RepK.back ((g1.h.trans g2.h).trans g3.h) r4)⟩⟩⟩⟩
theorem ev_slL (ha : Ev X env a (.lst ds) k1) (hl : Eo X env lo l) (hu : Eo X env hi u) : Ev X env (.Subscript a (.Slice lo hi none p2) pos) (.lst (cutD ds l u)) k1.kid.mk :=
  sl_te sl_list ha hl hu fun F B H v Q s r1 q => by
    obtain ⟨a, vs, e1, e2, r⟩ := r1.lst s
    exact ⟨a, vs, e1, SqL.of e2, new_lst (kid_cases _) s (repsK.cut r l u) (by rw [mk_eq (kid_cases _)]; exact q)⟩
theorem cut_len {ds : List D} (l u : Option Int) : (cutD ds l u).length ≤ ds.length := by
  unfold cutD; rw [List.length_take, List.length_drop]; omega
theorem cut_whole {ds : List D} {l u : Option Int} (h : HT.sIx ds.length 0 l = 0 ∧ HT.sIx ds.length ds.length u = ds.length) : cutD ds l u = ds := by
  unfold cutD; rw [h.1, h.2]; simp
theorem RepS.back {K : PySem.W.Frag} {F B H : Hp} {k : Kd} {v : V} (s : Hs F B H) (r : RepS K F B H k (.tup ds) v) : RepK K F B H H k.kid (.tup ds) v := by
  cases k with
  | drt => exact r
  | brw => exact r
  | own => exact r
  | cln => exact r
  | shl => exact r
theorem ev_slT (ha : Ev X env a (.tup ds) k1) (hl : Eo X env lo l) (hu : Eo X env hi u) : Ev X env (.Subscript a (.Slice lo hi none p2) pos) (.tup (cutD ds l u)) k1.kid :=
  sl_te sl_tupA ha hl hu fun F B H v Q s r1 q => by
    obtain ⟨a, vs, e1, e2, r⟩ := r1.tup s
    refine ⟨a, vs, e1, e2, fun hw => ?_, fun hw => new_tup (kid_cases _) s (repsK.cut r l u) q⟩
    rw [r.len] at hw
    rw [cut_whole hw] at q
    rw [e1] at r1
    exact q.now s (RepS.back s r1)
theorem ev_slS (ha : Ev X env a (.str s) k1) (hl : Eo X env lo l) (hu : Eo X env hi u) (hz : s.length ≤ sizeLine) : Ev X env (.Subscript a (.Slice lo hi none p2) pos) (.str (cutS s l u)) .cln :=
  sl_te sl_str ha hl hu fun F B H v Q hs r1 q => ⟨s, r1.str hs, hz, fin_str hs q⟩
theorem ev_revL {kk : Nat} {p1 p2 p3 : Pos} (ha : Ev X env a (.lst ds) k1) : Ev X env (.Subscript a (.Slice none none (some (.UnaryOp .USub (.Constant (.int 1) kk p1) p2)) p3) pos) (.lst ds.reverse) k1.kid.mk :=
  ⟨(pe_revL ha.st.pe).mono fun σ H Q ⟨F, B, E, q⟩ => ⟨F, B, E, fun v H1 F1 B1 g r1 => by
    obtain ⟨a, vs, e1, e2, r⟩ := RepS.lst g.hs (RepK.any0 r1)
    refine ⟨a, vs, e1, SqL.of e2, new_lst (kid_cases _) g.hs (?_ : repsK _ _ _ _ _ ds.reverse _) fun w H2 F2 B2 g2 r2 => q w H2 F2 B2 (g.trans g2) (RepK.back g.h (by rw [mk_eq (kid_cases _)] at r2; exact r2))⟩
    cases k1 <;> exact Reps.reverse r⟩⟩
theorem repsK.app {K : PySem.W.Frag} {F B H : Hp} {k : Kd} {vs us : List V} (r : repsK K F B H k ds vs) (q : repsK K F B H k es us) : repsK K F B H k (ds ++ es) (vs ++ us) := by
  cases k <;> exact Reps.append r q
theorem ev_addL (ha : Ev X env a (.lst ds) k1) (hb : Ev X env b (.lst es) k2) (hz : ds.length + es.length ≤ sizeLine) : Ev X env (.BinOp a .Add b pos) (.lst (ds ++ es)) (k1.kid.join k2.kid).mk :=
  ev_op2 op_cat ha hb fun F B H v u Q s r1 r2 q => by
    obtain ⟨l1, vs, e1, h1, q1⟩ := r1.lst s
    obtain ⟨l2, us, e2, h2, q2⟩ := r2.lst s
    refine ⟨l1, l2, vs, us, e1, e2, h1, h2, by rw [q1.len, q2.len]; exact hz, new_lst (join_cases _ _) s (repsK.app (repsK.up s (kid_cases _) (kid_cases _) q1) (by rw [join_comm]; exact repsK.up s (kid_cases _) (kid_cases _) q2)) (by rw [mk_eq (join_cases _ _)]; exact q)⟩
theorem repsK.nil_iff {K : PySem.W.Frag} {F B H : Hp} {k : Kd} {vs : List V} (r : repsK K F B H k ds vs) : vs = [] ↔ ds = [] := by
  have e := r.len
  constructor
  · intro h; subst h; exact List.length_eq_zero_iff.mp e.symm
  · intro h; subst h; exact List.length_eq_zero_iff.mp e
theorem repK_up {K : PySem.W.Frag} {F B H : Hp} (hs : Hs F B H) {k j : Kd} {v : V} (hk : k = .cln ∨ k = .brw ∨ k = .drt) (hj : j = .cln ∨ j = .brw ∨ j = .drt) (r : RepK K F B H H k d v) : RepK K F B H H (k.join j) d v := by
  rcases hk with h | h | h <;> subst h <;> rcases hj with h | h | h <;> subst h
  · exact r
  · exact Rep.mono hs.fb r
  · exact Rep.mono hs.fh r
  · exact r
  · exact r
  · exact Rep.mono hs.bh r
  · exact r
  · exact r
  · exact r
theorem ev_addT (ha : Ev X env a (.tup ds) k1) (hb : Ev X env b (.tup es) k2) (hz : ds.length + es.length ≤ sizeLine) : Ev X env (.BinOp a .Add b pos) (.tup (ds ++ es)) (k1.kid.join k2.kid) :=
  ev_op2 op_catA ha hb fun F B H v u Q s r1 r2 q => by
    obtain ⟨l1, vs, e1, h1, q1⟩ := r1.tup s
    obtain ⟨l2, us, e2, h2, q2⟩ := r2.tup s
    have b1 := repK_up s (kid_cases _) (kid_cases k2) (RepS.back s r1)
    have b2 := repK_up s (kid_cases _) (kid_cases k1) (RepS.back s r2)
    rw [join_comm] at b2
    refine ⟨l1, l2, vs, us, e1, e2, h1, h2, by rw [q1.len, q2.len]; exact hz, fun z => ?_, fun z y => ?_, fun _ _ => new_tup (join_cases _ _) s (repsK.app (repsK.up s (kid_cases _) (kid_cases _) q1) (by rw [join_comm]; exact repsK.up s (kid_cases _) (kid_cases _) q2)) q⟩
    · rw [e2] at b2
      rw [q1.nil_iff.mp z, List.nil_append] at q
      exact q.now s b2
    · rw [e1] at b1
      rw [q2.nil_iff.mp y, List.append_nil] at q
      exact q.now s b1
variable {pn : Pos}
theorem ev_lenL (bn : Bn X "len" (.builtin "len")) (ha : Ev X env a (.lst ds) k1) (he : starEach [a] X.env = [(false, eval a X.env)]) : Ev X env (.Call (.Name "len" pn) [a] [] pos) (.int ds.length) .cln :=
  ev_call1 call_len_seq bn ha (fun F B H v Q s r1 q => by
    obtain ⟨a, vs, e1, e2, r⟩ := r1.lst s
    exact ⟨a, vs, by rw [e1], .inl (SqL.of e2), by rw [r.len]; exact fin_int s q⟩) he
theorem ev_lenT (bn : Bn X "len" (.builtin "len")) (ha : Ev X env a (.tup ds) k1) (he : starEach [a] X.env = [(false, eval a X.env)]) : Ev X env (.Call (.Name "len" pn) [a] [] pos) (.int ds.length) .cln :=
  ev_call1 call_len_seq bn ha (fun F B H v Q s r1 q => by
    obtain ⟨a, vs, e1, e2, r⟩ := r1.tup s
    exact ⟨a, vs, by rw [e1], .inr e2, by rw [r.len]; exact fin_int s q⟩) he
theorem ev_lenC {ns : List Int} (bn : Bn X "len" (.builtin "len")) (ha : Ev X env a (.scr ns) k1) (he : starEach [a] X.env = [(false, eval a X.env)]) : Ev X env (.Call (.Name "len" pn) [a] [] pos) (.int ns.length) .cln :=
  ev_call1 call_len_seq bn ha (fun F B H v Q s r1 q => by
    obtain ⟨a, e1, e2⟩ := r1.scr s
    exact ⟨a, _, by rw [e1], .inl e2, by rw [List.length_map]; exact fin_int s q⟩) he
theorem ev_lenS (bn : Bn X "len" (.builtin "len")) (ha : Ev X env a (.str s) k1) (hz : s.length ≤ sizeLine) (he : starEach [a] X.env = [(false, eval a X.env)]) : Ev X env (.Call (.Name "len" pn) [a] [] pos) (.int s.length) .cln :=
  ev_call1 call_len_str bn ha (fun F B H v Q hs r1 q => ⟨s, by rw [r1.str hs], hz, fin_int hs q⟩) he
theorem ev_abs (bn : Bn X "abs" (.builtin "abs")) (ha : Ev X env a (.int i) k1) (he : starEach [a] X.env = [(false, eval a X.env)]) : Ev X env (.Call (.Name "abs" pn) [a] [] pos) (.int (if i < 0 then -i else i)) .cln :=
  ev_call1 call_abs bn ha (fun F B H v Q hs r1 q => ⟨i, by rw [r1.int hs], fin_int hs q⟩) he
theorem ev_max2 (hc : X.calm = true) (bn : Bn X "max" (.builtin "max")) (ha : Ev X env a (.int i) k1) (hb : Ev X env b (.int j) k2) (he : starEach [a, b] X.env = [(false, eval a X.env), (false, eval b X.env)]) (hb' : starEach [b] X.env = [(false, eval b X.env)]) :
    Ev X env (.Call (.Name "max" pn) [a, b] [] pos) (.int (if j > i then j else i)) .cln :=
  ev_call2 (call_max2 hc) bn ha hb (fun F B H v u Q hs r1 r2 q => ⟨i, j, by rw [r1.int hs, r2.int hs], fin_int hs q⟩) he hb'
theorem ev_min2 (hc : X.calm = true) (bn : Bn X "min" (.builtin "min")) (ha : Ev X env a (.int i) k1) (hb : Ev X env b (.int j) k2) (he : starEach [a, b] X.env = [(false, eval a X.env), (false, eval b X.env)]) (hb' : starEach [b] X.env = [(false, eval b X.env)]) :
    Ev X env (.Call (.Name "min" pn) [a, b] [] pos) (.int (if j < i then j else i)) .cln :=
  ev_call2 (call_min2 hc) bn ha hb (fun F B H v u Q hs r1 r2 q => ⟨i, j, by rw [r1.int hs, r2.int hs], fin_int hs q⟩) he hb'
theorem ev_intI (bn : Bn X "int" (.type "int")) (ha : Ev X env a (.int i) k1) (he : starEach [a] X.env = [(false, eval a X.env)]) : Ev X env (.Call (.Name "int" pn) [a] [] pos) (.int i) .cln :=
  ev_callT1 call_int1 bn ha (fun F B H v Q hs r1 q => .inl ⟨i, by rw [r1.int hs], fin_int hs q⟩) he
theorem ev_intB (bn : Bn X "int" (.type "int")) (ha : Ev X env a (.bl p) k1) (he : starEach [a] X.env = [(false, eval a X.env)]) : Ev X env (.Call (.Name "int" pn) [a] [] pos) (.int (if p then 1 else 0)) .cln :=
  ev_callT1 call_int1 bn ha (fun F B H v Q hs r1 q => .inr ⟨p, by rw [r1.bl hs], fin_int hs q⟩) he
theorem ev_listL (bn : Bn X "list" (.type "list")) (ha : Ev X env a (.lst ds) k1) (he : starEach [a] X.env = [(false, eval a X.env)]) : Ev X env (.Call (.Name "list" pn) [a] [] pos) (.lst ds) k1.kid.mk :=
  ev_callT1 call_list_of bn ha (fun F B H v Q s r1 q => by
    obtain ⟨a, vs, e1, e2, r⟩ := r1.lst s
    exact ⟨a, vs, by rw [e1], .inl (SqL.of e2), new_lst (kid_cases _) s r (by rw [mk_eq (kid_cases _)]; exact q)⟩) he
theorem ev_listT (bn : Bn X "list" (.type "list")) (ha : Ev X env a (.tup ds) k1) (he : starEach [a] X.env = [(false, eval a X.env)]) : Ev X env (.Call (.Name "list" pn) [a] [] pos) (.lst ds) k1.kid.mk :=
  ev_callT1 call_list_of bn ha (fun F B H v Q s r1 q => by
    obtain ⟨a, vs, e1, e2, r⟩ := r1.tup s
    exact ⟨a, vs, by rw [e1], .inr e2, new_lst (kid_cases _) s r (by rw [mk_eq (kid_cases _)]; exact q)⟩) he
theorem ev_tupL (bn : Bn X "tuple" (.type "tuple")) (ha : Ev X env a (.lst ds) k1) (he : starEach [a] X.env = [(false, eval a X.env)]) : Ev X env (.Call (.Name "tuple" pn) [a] [] pos) (.tup ds) k1.kid :=
  ev_callT1 call_tuple_of bn ha (fun F B H v Q s r1 q => by
    obtain ⟨a, vs, e1, e2, r⟩ := r1.lst s
    exact ⟨a, vs, by rw [e1], .inl ⟨SqL.of e2, new_tup (kid_cases _) s r q⟩⟩) he
theorem ev_tupT (bn : Bn X "tuple" (.type "tuple")) (ha : Ev X env a (.tup ds) k1) (he : starEach [a] X.env = [(false, eval a X.env)]) : Ev X env (.Call (.Name "tuple" pn) [a] [] pos) (.tup ds) k1.kid :=
  ev_callT1 call_tuple_of bn ha (fun F B H v Q s r1 q => by
    obtain ⟨a, vs, e1, e2, r⟩ := r1.tup s
    rw [e1] at r1
    exact ⟨a, vs, by rw [e1], .inr ⟨e2, q.now s (RepS.back s r1)⟩⟩) he
theorem ev_sumL {ns : List Int} (hc : X.calm = true) (bn : Bn X "sum" (.builtin "sum")) (ha : Ev X env a (.lst (ns.map D.int)) k1) (he : starEach [a] X.env = [(false, eval a X.env)]) : Ev X env (.Call (.Name "sum" pn) [a] [] pos) (.int ns.sum) .cln :=
  ev_call1 (cr_sum hc) bn ha (fun F B H v Q s r1 q => by
    obtain ⟨a, vs, e1, e2, r⟩ := r1.lst s
    exact ⟨a, ns, by rw [e1], by rw [← reps_ints (r.reps s)]; exact SqL.of e2, fin_int s q⟩) he
theorem ev_allL {ns : List Bool} (hc : X.calm = true) (bn : Bn X "all" (.builtin "all")) (ha : Ev X env a (.lst (ns.map D.bl)) k1) (he : starEach [a] X.env = [(false, eval a X.env)]) : Ev X env (.Call (.Name "all" pn) [a] [] pos) (.bl (ns.all id)) .cln :=
  ev_call1 (cr_all hc) bn ha (fun F B H v Q s r1 q => by
    obtain ⟨a, vs, e1, e2, r⟩ := r1.lst s
    exact ⟨a, ns, by rw [e1], by rw [← reps_bls (r.reps s)]; exact SqL.of e2, fin_bl s q⟩) he
theorem ev_anyL {ns : List Bool} (hc : X.calm = true) (bn : Bn X "any" (.builtin "any")) (ha : Ev X env a (.lst (ns.map D.bl)) k1) (he : starEach [a] X.env = [(false, eval a X.env)]) : Ev X env (.Call (.Name "any" pn) [a] [] pos) (.bl (ns.any id)) .cln :=
  ev_call1 (cr_any hc) bn ha (fun F B H v Q s r1 q => by
    obtain ⟨a, vs, e1, e2, r⟩ := r1.lst s
    exact ⟨a, ns, by rw [e1], by rw [← reps_bls (r.reps s)]; exact SqL.of e2, fin_bl s q⟩) he
theorem ev_maxL {ns : List Int} {m : Int} (hc : X.calm = true) (bn : Bn X "max" (.builtin "max")) (ha : Ev X env a (.lst (ns.map D.int)) k1) (h1 : m ∈ ns) (h2 : ∀ y ∈ ns, y ≤ m) (he : starEach [a] X.env = [(false, eval a X.env)]) : Ev X env (.Call (.Name "max" pn) [a] [] pos) (.int m) .cln :=
  ev_call1 (cr_max hc) bn ha (fun F B H v Q s r1 q => by
    obtain ⟨a, vs, e1, e2, r⟩ := r1.lst s
    refine ⟨a, ns, by rw [e1], by rw [← reps_ints (r.reps s)]; exact SqL.of e2, List.length_pos_of_mem h1, fun m' i1 i2 => ?_⟩
    have e : m' = m := Int.le_antisymm (h2 _ i1) (i2 _ h1)
    rw [e]
    exact fin_int s q) he
theorem ev_minL {ns : List Int} {m : Int} (hc : X.calm = true) (bn : Bn X "min" (.builtin "min")) (ha : Ev X env a (.lst (ns.map D.int)) k1) (h1 : m ∈ ns) (h2 : ∀ y ∈ ns, m ≤ y) (he : starEach [a] X.env = [(false, eval a X.env)]) : Ev X env (.Call (.Name "min" pn) [a] [] pos) (.int m) .cln :=
  ev_call1 (cr_min hc) bn ha (fun F B H v Q s r1 q => by
    obtain ⟨a, vs, e1, e2, r⟩ := r1.lst s
    refine ⟨a, ns, by rw [e1], by rw [← reps_ints (r.reps s)]; exact SqL.of e2, List.length_pos_of_mem h1, fun m' i1 i2 => ?_⟩
    have e : m' = m := Int.le_antisymm (i2 _ h1) (h2 _ i1)
    rw [e]
    exact fin_int s q) he
end
end DL
namespace DL
open PySem PySem.Spec L2
open PyProof.Rows hiding St
def SlotS (K : PySem.W.Frag) (F B G H : Hp) : Slot → V → Prop
  | .own d, v => ∃ p, v = .ref p ∧ B p = none ∧ G p = none ∧ OwnRep K F H p d
  | .frz d, v => Rep K F d v
  | .bor d, v => Rep K B d v
structure EnvS (K : PySem.W.Frag) (F B G H : Hp) (env : DEnv) (σ : St) : Prop where
  hs : Hs F B H
  gh : Same G H
  len : env.length = σ.length
  at_ : ∀ (i : Nat) s, env[i]? = some (some s) → ∃ v, σ[i]? = some (some v) ∧ SlotS K F B G H s v
  dis : ∀ (i j : Nat) d d' p, env[i]? = some (some (.own d)) → env[j]? = some (some (.own d')) → σ[i]? = some (some (.ref p)) → σ[j]? = some (some (.ref p)) → i = j
structure GS (F B G F' B' : Hp) : Prop where
  f : Same F F'
  b : Same B B'
  newF : ∀ p, G p ≠ none → F' p ≠ none → F p ≠ none
  newB : ∀ p, G p ≠ none → B' p ≠ none → B p ≠ none
theorem GS.refl {F B G : Hp} : GS F B G F B := ⟨.refl _, .refl _, fun _ _ h => h, fun _ _ h => h⟩
theorem GS.trans {F B G F1 B1 F2 B2 : Hp} (a : GS F B G F1 B1) (b : GS F1 B1 G F2 B2) : GS F B G F2 B2 :=
  ⟨a.f.trans b.f, a.b.trans b.b, fun p h1 h2 => a.newF p h1 (b.newF p h1 h2), fun p h1 h2 => a.newB p h1 (b.newB p h1 h2)⟩
section
variable {K : PySem.W.Frag} {F B G H F' B' H' : Hp} {env : DEnv} {σ : St}
theorem SlotS.e {s : Slot} {v : V} (h : SlotS K F B G H s v) : SlotE K F B H s v := by
  cases s with
  | own d => obtain ⟨p, e, _, _, r⟩ := h; exact ⟨p, e, r⟩
  | frz d => exact h
  | bor d => exact h
theorem EnvS.e (E : EnvS K F B G H env σ) : EnvE K F B H env σ := ⟨E.hs, E.len, fun i s h => by obtain ⟨v, h1, h2⟩ := E.at_ i s h; exact ⟨v, h1, h2.e⟩⟩
theorem Grow.gs (g : Grow F B H F' B' H') (gh : Same G H) : GS F B G F' B' := ⟨g.f, g.b, fun p h1 h2 => g.newF p (ne_none_of_same gh h1) h2, fun p h1 h2 => g.newB p (ne_none_of_same gh h1) h2⟩
theorem OwnRep.some {p : Addr} {d : D} (r : OwnRep K F H p d) : H p ≠ none := by
  cases d with
  | lst ds => obtain ⟨_, e, _⟩ := r; rw [e]; exact fun z => nomatch z
  | dK ds => obtain ⟨_, e, _⟩ := r; rw [e]; exact fun z => nomatch z
  | dT ds => obtain ⟨_, e, _⟩ := r; rw [e]; exact fun z => nomatch z
  | obj C ds => obtain ⟨_, _, e, _⟩ := r; rw [e]; exact fun z => nomatch z
  | _ => exact r.elim
theorem SlotS.grow (g : Grow F B H F' B' H') {s : Slot} {v : V} (h : SlotS K F B G H s v) : SlotS K F' B' G H' s v := by
  cases s with
  | own d =>
    obtain ⟨p, e, n, m, r⟩ := h
    refine ⟨p, e, ?_, m, r.grow g.f g.h⟩
    cases q : B' p with
    | none => rfl
    | some o => exact absurd n (g.newB p r.some (by rw [q]; exact fun z => nomatch z))
  | frz d => exact Rep.mono g.f h
  | bor d => exact Rep.mono g.b h
theorem EnvS.grow (E : EnvS K F B G H env σ) (g : Grow F B H F' B' H') : EnvS K F' B' G H' env σ :=
  ⟨g.hs, E.gh.trans g.h, E.len, fun i s h => by obtain ⟨v, h1, h2⟩ := E.at_ i s h; exact ⟨v, h1, h2.grow g⟩, E.dis⟩
end
inductive SlotOf : Kd → D → Slot → Prop
  | int {k : Kd} {i : Int} : SlotOf k (.int i) (.frz (.int i))
  | str {k : Kd} {i : Str} : SlotOf k (.str i) (.frz (.str i))
  | bl {k : Kd} {i : Bool} : SlotOf k (.bl i) (.frz (.bl i))
  | non {k : Kd} : SlotOf k .non (.frz .non)
  | own {d : D} : SlotOf .own d (.own d)
  | cln {d : D} : SlotOf .cln d (.frz d)
  | brw {d : D} : SlotOf .brw d (.bor d)
structure Outs where
  nx : DEnv → Prop := fun _ => False
  rt : D → Kd → Prop := fun _ _ => False
  bk : DEnv → Prop := fun _ => False
  ct : DEnv → Prop := fun _ => False
structure Post (K : PySem.W.Frag) (F B G : Hp) (Φ : Outs) (Dd : Ends) : Prop where
  nx : ∀ env' σ' H' F' B', GS F B G F' B' → EnvS K F' B' G H' env' σ' → Φ.nx env' → Dd.nx σ' H'
  rt : ∀ d k v H' F' B', GS F B G F' B' → Hs F' B' H' → Same G H' → RepK K F' B' G H' k d v → Φ.rt d k → Dd.rt v H'
  bk : ∀ env' σ' H' F' B', GS F B G F' B' → EnvS K F' B' G H' env' σ' → Φ.bk env' → Dd.bk σ' H'
  ct : ∀ env' σ' H' F' B', GS F B G F' B' → EnvS K F' B' G H' env' σ' → Φ.ct env' → Dd.ct σ' H'
def tSS (K : PySem.W.Frag) (env : DEnv) (Φ : Outs) : TS := fun Dd σ H => ∃ F B G, EnvS K F B G H env σ ∧ Post K F B G Φ Dd
structure SS (X : Cx) (env : DEnv) (sts : List Stmt) (Φ : Outs) : Prop where
  ps : PSs X sts (tSS X.K env Φ)
structure S1 (X : Cx) (env : DEnv) (st : Stmt) (Φ : Outs) : Prop where
  ps : PS X st (tSS X.K env Φ)
theorem Post.gs {K : PySem.W.Frag} {F B G F1 B1 : Hp} {Φ : Outs} {Dd : Ends} (P : Post K F B G Φ Dd) (g : GS F B G F1 B1) : Post K F1 B1 G Φ Dd :=
  ⟨fun e σ H F' B' q E h => P.nx e σ H F' B' (g.trans q) E h, fun d k v H F' B' q s gh r h => P.rt d k v H F' B' (g.trans q) s gh r h, fun e σ H F' B' q E h => P.bk e σ H F' B' (g.trans q) E h, fun e σ H F' B' q E h => P.ct e σ H F' B' (g.trans q) E h⟩
section
variable {X : Cx} {env env' : DEnv} {Φ : Outs} {st : Stmt} {rest A Bs : List Stmt} {e a b c : Expr} {d x y z : D} {k k1 k2 : Kd} {pos : Pos} {p : Bool}
theorem ss_nil (h : Φ.nx env) : SS X env [] Φ := ⟨pss_nil.mono fun Dd σ H ⟨F, B, G, E, P⟩ => P.nx env σ H F B .refl E h⟩
abbrev Outs.thn (Φ : Outs) (X : Cx) (rest : List Stmt) : Outs := { Φ with nx := fun env' => SS X env' rest Φ }
theorem ss_cons (h : S1 X env st (Φ.thn X rest)) : SS X env (st :: rest) Φ := by
  have hu : PSs X rest (fun Dd σ H => ∃ env', SS X env' rest Φ ∧ tSS X.K env' Φ Dd σ H) := ⟨fun pins s σ H Dd I ⟨env', h1, h2⟩ => h1.ps.run pins s σ H Dd I h2⟩
  refine ⟨(pss_cons h.ps hu).mono fun Dd σ H ⟨F, B, G, E, P⟩ => ⟨F, B, G, E, ?_⟩⟩
  exact ⟨fun e σ H F' B' q E h => ⟨e, h, F', B', G, E, P.gs q⟩, P.rt, P.bk, P.ct⟩
theorem ss_one (h : S1 X env st Φ) : SS X env [st] Φ := ⟨(pss_one h.ps)⟩
theorem SS.imp {Ψ : Outs} (h : SS X env A Φ) (hn : ∀ e, Φ.nx e → Ψ.nx e) (hr : ∀ d k, Φ.rt d k → Ψ.rt d k) (hb : ∀ e, Φ.bk e → Ψ.bk e) (hc : ∀ e, Φ.ct e → Ψ.ct e) : SS X env A Ψ :=
  ⟨h.ps.mono fun Dd σ H ⟨F, B, G, E, P⟩ => ⟨F, B, G, E, fun e σ H F' B' q E h => P.nx e σ H F' B' q E (hn _ h), fun d k v H F' B' q s gh r h => P.rt d k v H F' B' q s gh r (hr _ _ h), fun e σ H F' B' q E h => P.bk e σ H F' B' q E (hb _ h), fun e σ H F' B' q E h => P.ct e σ H F' B' q E (hc _ h)⟩⟩
theorem RepK.slot {K : PySem.W.Frag} {F B G H0 H : Hp} {v : V} {s : Slot} (hs : Hs F B H) (gh : Same G H0) (so : SlotOf k d s) (r : RepK K F B H0 H k d v) : SlotS K F B G H s v := by
  cases so with
  | int => exact RepK.scalR rfl hs r
  | str => exact RepK.scalR rfl hs r
  | bl => exact RepK.scalR rfl hs r
  | non => exact RepK.scalR rfl hs r
  | own => obtain ⟨p, e, n, m, q⟩ := r; exact ⟨p, e, m, gh.free n, q⟩
  | cln => exact r
  | brw => exact r
theorem get_set {α : Type} {l : List α} {i j : Nat} {a b : α} (h : (l.set i a)[j]? = some b) : (j = i ∧ b = a ∧ i < l.length) ∨ (j ≠ i ∧ l[j]? = some b) := by
  by_cases e : i = j
  · subst e
    by_cases hl : i < l.length
    · rw [List.getElem?_set_self hl] at h; cases h; exact .inl ⟨rfl, rfl, hl⟩
    · rw [List.getElem?_eq_none (by rw [List.length_set]; omega)] at h; cases h
  · rw [List.getElem?_set_ne e] at h; exact .inr ⟨fun z => e z.symm, h⟩
theorem EnvS.set {K : PySem.W.Frag} {F B G H : Hp} {σ : St} {v : V} {s : Slot} {i : Nat} (E : EnvS K F B G H env σ) (h : SlotS K F B G H s v)
    (hd : ∀ d p, s = .own d → v = .ref p → ∀ (j : Nat) d', env[j]? = some (some (.own d')) → σ[j]? ≠ some (some (.ref p))) : EnvS K F B G H (env.set i (some s)) (σ.set i (some v)) := by
  refine ⟨E.hs, E.gh, by rw [List.length_set, List.length_set]; exact E.len, fun j t e => ?_, fun j m d d' p e1 e2 e3 e4 => ?_⟩
  · rcases get_set e with ⟨z, y, hl⟩ | ⟨z, y⟩
    · cases y
      rw [z, List.getElem?_set_self (by rw [← E.len]; exact hl)]
      exact ⟨v, rfl, h⟩
    · obtain ⟨u, h1, h2⟩ := E.at_ j t y
      exact ⟨u, by rw [List.getElem?_set_ne (Ne.symm z)]; exact h1, h2⟩
  · rcases get_set e1 with ⟨z1, y1, l1⟩ | ⟨z1, y1⟩ <;> rcases get_set e2 with ⟨z2, y2, l2⟩ | ⟨z2, y2⟩
    · rw [z1, z2]
    · rw [z1, List.getElem?_set_self (by rw [← E.len]; exact l1)] at e3
      rw [List.getElem?_set_ne (Ne.symm z2)] at e4
      cases e3
      exact absurd e4 (hd d p (Option.some.inj y1).symm rfl m d' y2)
    · rw [z2, List.getElem?_set_self (by rw [← E.len]; exact l2)] at e4
      rw [List.getElem?_set_ne (Ne.symm z1)] at e3
      cases e4
      exact absurd e3 (hd d' p (Option.some.inj y2).symm rfl j d y1)
    · rw [List.getElem?_set_ne (Ne.symm z1)] at e3
      rw [List.getElem?_set_ne (Ne.symm z2)] at e4
      exact E.dis j m d d' p y1 y2 e3 e4
theorem own_new {K : PySem.W.Frag} {F B G H : Hp} {σ : St} (E : EnvS K F B G H env σ) {q : Addr} (n : H q = none) : ∀ (j : Nat) d', env[j]? = some (some (.own d')) → σ[j]? ≠ some (some (.ref q)) := fun j d' e1 e2 => by
  obtain ⟨u, h1, p, h2, _, _, r⟩ := E.at_ j _ e1
  rw [e2] at h1; cases h1; cases h2
  exact r.some n
theorem s1_set (i : Nat) {n : Str} {s : Slot} {pos' : Pos} (hN : X.N.Nodup) (hi : X.N[i]? = some n) (hx : Loc X.env.scope n) (he : Ev X env e d k) (so : SlotOf k d s) (hs : swapsWith e (some (.Name n pos')) pos.line X.env = pure false)
    (hf : X.fn n = true ∨ X.env.scope.names.lookup n = some .local) (h : Φ.nx (env.set i (some s))) : S1 X env (.Assign [.Name n pos'] e pos) Φ :=
  ⟨(ps_set hN hi hx he.pe hs hf).mono fun Dd σ H ⟨F, B, G, E, P⟩ => ⟨F, B, E.e, fun v H' F' B' g r => by
    refine P.nx _ _ _ F' B' (g.gs E.gh) ((E.grow g).set (RepK.slot g.hs E.gh so r) fun d' p es ev => ?_) h
    subst es
    cases so with
    | own =>
      obtain ⟨q, e1, n, _, _⟩ := r
      rw [e1] at ev; cases ev
      exact own_new E n⟩⟩
theorem ss_set (i : Nat) {n : Str} {s : Slot} {pos' : Pos} (hN : X.N.Nodup) (hi : X.N[i]? = some n) (hx : Loc X.env.scope n) (he : Ev X env e d k) (so : SlotOf k d s) (hs : swapsWith e (some (.Name n pos')) pos.line X.env = pure false)
    (hf : X.fn n = true ∨ X.env.scope.names.lookup n = some .local) (h : SS X (env.set i (some s)) rest Φ) : SS X env (.Assign [.Name n pos'] e pos :: rest) Φ := ss_cons (s1_set i hN hi hx he so hs hf h)
theorem s1_ret (he : Ev X env e d k) (h : Φ.rt d k) : S1 X env (.Return (some e) pos) Φ :=
  ⟨(ps_ret he.pe).mono fun Dd σ H ⟨F, B, G, E, P⟩ => ⟨F, B, E.e, fun v H' F' B' g r => P.rt d k v H' F' B' (g.gs E.gh) g.hs (E.gh.trans g.h) (RepK.back E.gh r) h⟩⟩
theorem ss_ret (he : Ev X env e d k) (h : Φ.rt d k) : SS X env (.Return (some e) pos :: rest) Φ := ss_cons (s1_ret he h)
theorem ss_retO (i : Nat) {n : Str} {pos' : Pos} (hN : X.N[i]? = some n) (hv : Vis X.env.scope n) (he : env[i]? = some (some (.own d))) (h : Φ.rt d .own) (hd : (n == ("__debug__" : Str)) = false) (hcd : (n == ("__classdict__" : Str)) = false) : SS X env (.Return (some (.Name n pos')) pos :: rest) Φ :=
  ss_cons ⟨(ps_ret (pe_var hN hv hd hcd)).mono fun Dd σ H ⟨F, B, G, E, P⟩ => by
    obtain ⟨v, h1, p, e1, n1, n2, r⟩ := E.at_ i _ he
    subst e1
    exact ⟨_, h1, P.rt d .own _ H F B .refl E.hs E.gh ⟨p, rfl, n2, n1, r⟩ h⟩⟩
theorem ss_retN (h : Φ.rt .non .cln) : SS X env (.Return none pos :: rest) Φ := ss_cons ⟨ps_retN.mono fun Dd σ H ⟨F, B, G, E, P⟩ => P.rt .non .cln _ H F B .refl E.hs E.gh .non h⟩
theorem pss_false {sts : List Stmt} : PSs X sts (fun _ _ _ => False) := ⟨fun _ _ _ _ _ _ h => h.elim⟩
theorem s1_if (hc : Et X env c p) (ha : p = true → SS X env A Φ) (hb : p = false → SS X env Bs Φ) : S1 X env (.If c A Bs pos) Φ := by
  cases p with
  | true =>
    exact ⟨(ps_if hc.pt (ha rfl).ps pss_false).mono fun Dd σ H ⟨F, B, G, E, P⟩ => ⟨F, B, E.e, fun H' F' B' g => by
      show if true = true then _ else _
      rw [if_pos rfl]
      exact ⟨F', B', G, E.grow g, P.gs (g.gs E.gh)⟩⟩⟩
  | false =>
    exact ⟨(ps_if hc.pt pss_false (hb rfl).ps).mono fun Dd σ H ⟨F, B, G, E, P⟩ => ⟨F, B, E.e, fun H' F' B' g => by
      show if false = true then _ else _
      rw [if_neg Bool.false_ne_true]
      exact ⟨F', B', G, E.grow g, P.gs (g.gs E.gh)⟩⟩⟩
theorem ss_if (hc : Et X env c p) (ha : p = true → SS X env A (Φ.thn X rest)) (hb : p = false → SS X env Bs (Φ.thn X rest)) : SS X env (.If c A Bs pos :: rest) Φ := ss_cons (s1_if hc ha hb)
theorem ss_ifJ (env' : DEnv) (hc : Et X env c p) (ha : p = true → SS X env A { Φ with nx := fun e => e = env' }) (hb : p = false → SS X env Bs { Φ with nx := fun e => e = env' }) (h : SS X env' rest Φ) : SS X env (.If c A Bs pos :: rest) Φ :=
  ss_cons (s1_if hc (fun z => (ha z).imp (fun e w => by rw [w]; exact h) (fun _ _ w => w) (fun _ w => w) fun _ w => w) fun z => (hb z).imp (fun e w => by rw [w]; exact h) (fun _ _ w => w) (fun _ w => w) fun _ w => w)
theorem ss_pass (h : SS X env rest Φ) : SS X env (.Pass pos :: rest) Φ := ss_cons ⟨ps_pass.mono fun Dd σ H ⟨F, B, G, E, P⟩ => P.nx _ _ _ F B .refl E h⟩
theorem ss_brk (h : Φ.bk env) : SS X env (.Break pos :: rest) Φ := ss_cons ⟨ps_break.mono fun Dd σ H ⟨F, B, G, E, P⟩ => P.bk _ _ _ F B .refl E h⟩
theorem ss_cont (h : Φ.ct env) : SS X env (.Continue pos :: rest) Φ := ss_cons ⟨ps_continue.mono fun Dd σ H ⟨F, B, G, E, P⟩ => P.ct _ _ _ F B .refl E h⟩
def Wk : DEnv → DEnv → Prop
  | [], [] => True
  | a :: r, b :: s => (b = none ∨ b = a) ∧ Wk r s
  | _, _ => False
theorem Wk.len : ∀ {a b : DEnv}, Wk a b → a.length = b.length
  | [], [], _ => rfl
  | _ :: _, _ :: _, h => congrArg Nat.succ (Wk.len h.2)
  | [], _ :: _, h => h.elim
  | _ :: _, [], h => h.elim
theorem Wk.get : ∀ {a b : DEnv} {i : Nat} {s : Slot}, Wk a b → b[i]? = some (some s) → a[i]? = some (some s)
  | [], [], _, _, _, e => by simp at e
  | a :: _, b :: _, 0, s, h, e => by
    have e' : b = some s := by simpa using e
    rcases h.1 with z | z
    · rw [z] at e'; cases e'
    · simpa [← z] using e
  | _ :: _, _ :: _, i + 1, s, h, e => by
    have := Wk.get (i := i) (s := s) h.2 (by simpa using e)
    simpa using this
  | [], _ :: _, _, _, h, _ => h.elim
  | _ :: _, [], _, _, h, _ => h.elim
theorem EnvS.wk {K : PySem.W.Frag} {F B G H : Hp} {σ : St} (E : EnvS K F B G H env σ) (w : Wk env env') : EnvS K F B G H env' σ :=
  ⟨E.hs, E.gh, by rw [← w.len]; exact E.len, fun i s h => E.at_ i s (w.get h), fun i j d d' p h1 h2 => E.dis i j d d' p (w.get h1) (w.get h2)⟩
theorem ss_wk (env' : DEnv) (w : Wk env env') (h : SS X env' A Φ) : SS X env A Φ := ⟨h.ps.mono fun Dd σ H ⟨F, B, G, E, P⟩ => ⟨F, B, G, E.wk w, P⟩⟩
theorem Wk.refl : ∀ a : DEnv, Wk a a
  | [] => trivial
  | _ :: r => ⟨.inr rfl, Wk.refl r⟩
theorem EnvS.frz {K : PySem.W.Frag} {F B G H : Hp} {σ : St} {i : Nat} (E : EnvS K F B G H env σ) (he : env[i]? = some (some (.own d))) : ∃ F' B', GS F B G F' B' ∧ EnvS K F' B' G H (env.set i (some (.frz d))) σ := by
  obtain ⟨v, h1, p, e1, n1, n2, r⟩ := E.at_ i _ he
  subst e1
  refine ⟨frzAt F H p, frzAt B H p, ⟨frz_same E.hs.fh p, frz_same E.hs.bh p, fun q g1 h2 => ?_, fun q g1 h2 => ?_⟩, E.hs.frz p, E.gh, by rw [List.length_set]; exact E.len, fun j t e => ?_, fun j m d1 d2 q e1 e2 e3 e4 => ?_⟩
  · rcases frz_ne h2 with z | z
    · subst z; exact absurd n2 g1
    · exact z
  · rcases frz_ne h2 with z | z
    · subst z; exact absurd n2 g1
    · exact z
  · rcases get_set e with ⟨z, y, hl⟩ | ⟨z, y⟩
    · cases y
      rw [z]
      exact ⟨_, h1, r.frz E.hs.fh⟩
    · obtain ⟨u, h3, h4⟩ := E.at_ j t y
      refine ⟨u, h3, ?_⟩
      cases t with
      | own d' =>
        obtain ⟨q, e5, n3, n4, r'⟩ := h4
        subst e5
        refine ⟨q, rfl, ?_, n4, r'.grow (frz_same E.hs.fh p) (.refl _)⟩
        have ne : q ≠ p := fun w => by subst w; exact z (E.dis j i d' d q y he h3 h1)
        unfold frzAt
        rw [if_neg ne]; exact n3
      | frz d' => exact Rep.mono (frz_same E.hs.fh p) h4
      | bor d' => exact Rep.mono (frz_same E.hs.bh p) h4
  · rcases get_set e1 with ⟨z1, y1, l1⟩ | ⟨z1, y1⟩
    · cases y1
    · rcases get_set e2 with ⟨z2, y2, l2⟩ | ⟨z2, y2⟩
      · cases y2
      · exact E.dis j m d1 d2 q y1 y2 e3 e4
theorem ss_frz (i : Nat) (he : env[i]? = some (some (.own d))) (h : SS X (env.set i (some (.frz d))) A Φ) : SS X env A Φ := ⟨h.ps.mono fun Dd σ H ⟨F, B, G, E, P⟩ => by
  obtain ⟨F', B', g, E'⟩ := E.frz he
  exact ⟨F', B', G, E', P.gs g⟩⟩
end
end DL
namespace DL
open PySem PySem.Spec L2
open PyProof.Rows hiding St
inductive Tg where
  | nm (i : Nat) | tp (ts : List Tg)
mutual
def gOf (K : PySem.W.Frag) : Tg → TG
  | .nm i => gName i
  | .tp ts => gTup K (gLen ts) (gsOf K ts)
def gsOf (K : PySem.W.Frag) : List Tg → TGs
  | [] => gNil
  | t :: ts => gCons (gOf K t) (gsOf K ts)
def gLen : List Tg → Nat
  | [] => 0
  | _ :: ts => gLen ts + 1
end
mutual
def Tg.ix : Tg → List Nat
  | .nm i => [i]
  | .tp ts => Tg.ixs ts
def Tg.ixs : List Tg → List Nat
  | [] => []
  | t :: ts => t.ix ++ Tg.ixs ts
end
inductive K2 where
  | c | b
abbrev K2.k : K2 → Kd
  | .c => .cln | .b => .brw
def slot2 (k : K2) (d : D) : Slot := match d with
  | .int i => .frz (.int i)
  | .str i => .frz (.str i)
  | .bl i => .frz (.bl i)
  | .non => .frz .non
  | d => match k with
    | .c => .frz d
    | .b => .bor d
mutual
def bnd (k : K2) : Tg → D → DEnv → Option DEnv
  | .nm i, d, env => some (env.set i (some (slot2 k d)))
  | .tp ts, .tup ds, env => bnds k ts ds env
  | .tp _, _, _ => none
def bnds (k : K2) : List Tg → List D → DEnv → Option DEnv
  | [], [], env => some env
  | t :: ts, d :: ds, env => match bnd k t d env with
    | some e => bnds k ts ds e
    | none => none
  | [], _ :: _, _ => none
  | _ :: _, [], _ => none
end
structure TgOk (X : Cx) (e : Expr) (t : Tg) : Prop where
  pg : PG X e (gOf X.K t)
structure TgsOk (X : Cx) (e : List Expr) (t : List Tg) : Prop where
  pg : PGs X e (gsOf X.K t)
section
variable {X : Cx} {pos : Pos}
theorem tg_nm (i : Nat) {n : Str} (hN : X.N.Nodup) (hi : X.N[i]? = some n) (hx : Loc X.env.scope n) (hf : X.fn n = true ∨ X.env.scope.names.lookup n = some .local) : TgOk X (.Name n pos) (.nm i) := ⟨pg_name hN hi hx hf⟩
theorem tgs_nil : TgsOk X [] [] := ⟨pgs_nil⟩
theorem tgs_cons {e : Expr} {es : List Expr} {t : Tg} {ts : List Tg} (h1 : TgOk X e t) (h2 : TgsOk X es ts) (hs : (assignEach (e :: es) X.env).map (·.2) = assign e X.env :: (assignEach es X.env).map (·.2)) : TgsOk X (e :: es) (t :: ts) := ⟨pgs_cons h1.pg h2.pg hs⟩
theorem tg_tp {es : List Expr} {ts : List Tg} {k : Nat} (hc : X.calm = true) (h : TgsOk X es ts) (hn : (assignEach es X.env).length = gLen ts) (hst : (assignEach es X.env).findIdx? (·.1) = none) : TgOk X (.Tuple es k pos) (.tp ts) := ⟨pg_tup hc h.pg hn hst⟩
end
section
variable {K : PySem.W.Frag} {F B H : Hp} {k : K2} {Pv : DEnv → St → Prop}
theorem slot2_rep {d : D} {v : V} (r : RepK K F B H H k.k d v) : (∃ d', slot2 k d = .frz d' ∧ Rep K F d' v) ∨ ∃ d', slot2 k d = .bor d' ∧ Rep K B d' v := by
  have sc : d.sc = true → ∀ {B' : Hp}, Rep K B' d v → Rep K F d v := fun h _ r => Rep.scal h r
  have any : ∃ B', Rep K B' d v := by cases k with | c => exact ⟨F, r⟩ | b => exact ⟨B, r⟩
  obtain ⟨B', r'⟩ := any
  cases d with
  | int i => exact .inl ⟨_, rfl, sc rfl r'⟩
  | str i => exact .inl ⟨_, rfl, sc rfl r'⟩
  | bl i => exact .inl ⟨_, rfl, sc rfl r'⟩
  | non => exact .inl ⟨_, rfl, sc rfl r'⟩
  | lst _ => cases k with | c => exact .inl ⟨_, rfl, r⟩ | b => exact .inr ⟨_, rfl, r⟩
  | tup _ => cases k with | c => exact .inl ⟨_, rfl, r⟩ | b => exact .inr ⟨_, rfl, r⟩
  | dK _ => cases k with | c => exact .inl ⟨_, rfl, r⟩ | b => exact .inr ⟨_, rfl, r⟩
  | dT _ => cases k with | c => exact .inl ⟨_, rfl, r⟩ | b => exact .inr ⟨_, rfl, r⟩
  | obj _ _ => cases k with | c => exact .inl ⟨_, rfl, r⟩ | b => exact .inr ⟨_, rfl, r⟩
  | scr _ => cases k with | c => exact .inl ⟨_, rfl, r⟩ | b => exact .inr ⟨_, rfl, r⟩
def SetOk (K : PySem.W.Frag) (F B : Hp) (Pv : DEnv → St → Prop) (vs : Nat → Prop) : Prop :=
  ∀ env σ (i : Nat) s v, vs i → Pv env σ → ((∃ d', s = .frz d' ∧ Rep K F d' v) ∨ ∃ d', s = .bor d' ∧ Rep K B d' v) → Pv (env.set i (some s)) (σ.set i (some v))
theorem gLen_eq : ∀ ts : List Tg, gLen ts = ts.length
  | [] => rfl
  | _ :: ts => congrArg Nat.succ (gLen_eq ts)
theorem bnds_len : ∀ {ts : List Tg} {ds : List D} {env env' : DEnv}, bnds k ts ds env = some env' → ds.length = gLen ts
  | [], [], _, _, _ => rfl
  | t :: ts, d :: ds, env, env', h => by
    unfold bnds at h
    cases q : bnd k t d env with
    | none => rw [q] at h; cases h
    | some e => rw [q] at h; exact congrArg Nat.succ (bnds_len h)
  | [], _ :: _, _, _, h => nomatch h
  | _ :: _, [], _, _, h => nomatch h
mutual
theorem bnd_ok (s : Hs F B H) {vs : Nat → Prop} (so : SetOk K F B Pv vs) : ∀ {t : Tg} {d : D} {v : V} {env env' : DEnv} {σ : St} {Q : St → Hp → Prop}, (∀ j ∈ t.ix, vs j) → bnd k t d env = some env' → RepK K F B H H k.k d v → Pv env σ →
    (∀ σ', Pv env' σ' → Q σ' H) → gOf K t v σ H Q
  | .nm i, d, v, env, env', σ, Q, hv, h, r, p, q => by
    unfold bnd at h
    cases h
    exact q _ (so env σ i _ v (hv i (by simp [Tg.ix])) p (slot2_rep r))
  | .tp ts, .tup ds, v, env, env', σ, Q, hv, h, r, p, q => by
    unfold bnd at h
    have r' : ∃ B', Same B' H ∧ Rep K B' (.tup ds) v ∧ (∀ {d u}, Reps K B' d u → repsK K F B H k.k d u) := by
      cases k with
      | c => exact ⟨F, s.fh, r, fun z => z⟩
      | b => exact ⟨B, s.bh, r, fun z => z⟩
    obtain ⟨B', bh, r, up⟩ := r'
    cases r with
    | tup hq hr => exact ⟨_, _, rfl, Same.seqT bh hq, by rw [hr.length]; exact bnds_len h, bnds_ok s so (by simpa [Tg.ix] using hv) h (up hr) p q⟩
  | .tp _, .non, _, _, _, _, _, _, h, _, _, _ => nomatch h
  | .tp _, .bl _, _, _, _, _, _, _, h, _, _, _ => nomatch h
  | .tp _, .int _, _, _, _, _, _, _, h, _, _, _ => nomatch h
  | .tp _, .str _, _, _, _, _, _, _, h, _, _, _ => nomatch h
  | .tp _, .lst _, _, _, _, _, _, _, h, _, _, _ => nomatch h
  | .tp _, .dK _, _, _, _, _, _, _, h, _, _, _ => nomatch h
  | .tp _, .dT _, _, _, _, _, _, _, h, _, _, _ => nomatch h
  | .tp _, .obj _ _, _, _, _, _, _, _, h, _, _, _ => nomatch h
  | .tp _, .scr _, _, _, _, _, _, _, h, _, _, _ => nomatch h
theorem bnds_ok (s : Hs F B H) {vs : Nat → Prop} (so : SetOk K F B Pv vs) : ∀ {ts : List Tg} {ds : List D} {us : List V} {env env' : DEnv} {σ : St} {Q : St → Hp → Prop}, (∀ j ∈ Tg.ixs ts, vs j) → bnds k ts ds env = some env' → repsK K F B H k.k ds us → Pv env σ →
    (∀ σ', Pv env' σ' → Q σ' H) → gsOf K ts us σ H Q
  | [], [], us, env, env', σ, Q, hv, h, r, p, q => by
    unfold bnds at h
    cases h
    have e : us = [] := List.length_eq_zero_iff.mp (by rw [r.len]; rfl)
    exact ⟨e, q σ p⟩
  | t :: ts, d :: ds, us, env, env', σ, Q, hv, h, r, p, q => by
    have r' : ∃ u ur, us = u :: ur ∧ RepK K F B H H k.k d u ∧ repsK K F B H k.k ds ur := by
      cases k with
      | c => cases (show Reps K F (d :: ds) us from r) with | cons a b => exact ⟨_, _, rfl, a, b⟩
      | b => cases (show Reps K B (d :: ds) us from r) with | cons a b => exact ⟨_, _, rfl, a, b⟩
    obtain ⟨u, ur, e, r1, r2⟩ := r'
    unfold bnds at h
    cases w : bnd k t d env with
    | none => rw [w] at h; cases h
    | some e1 =>
      rw [w] at h
      refine ⟨u, ur, e, bnd_ok s so (fun j hj => hv j (by simp [Tg.ixs, hj])) w r1 p fun σ1 p1 => ?_⟩
      exact bnds_ok s so (fun j hj => hv j (by simp [Tg.ixs, hj])) h r2 p1 q
  | [], _ :: _, _, _, _, _, _, _, h, _, _, _ => nomatch h
  | _ :: _, [], _, _, _, _, _, _, h, _, _, _ => nomatch h
end
end
structure ItOk (K : PySem.W.Frag) (P F B : Hp) (J : It) (k : K2) (ds : List D) : Prop where
  go : ∀ (i : Nat) d H, Same P H → ds[i]? = some d → J.go i H
  yl : ∀ (i : Nat) d H x H', Same P H → ds[i]? = some d → J.yld i H x H' → (H' = H ∧ RepK K F B H H k.k d x) ∨ ∃ T vs es, H T = none ∧ H' = upd H T (.tup vs) ∧ x = .ref T ∧ d = .tup es ∧ repsK K F B H k.k es vs
  st : ∀ H, Same P H → J.stop ds.length H
def tEI (K : PySem.W.Frag) (env : DEnv) (ds : List D) (k : K2) (fx : Bool) : TI := fun σ H R => ∃ F B, EnvE K F B H env σ ∧ ∀ J H' F' B', Grow F B H F' B' H' → ItOk K (if fx then B' else H') F' B' J k ds → R J H'
structure EI (X : Cx) (env : DEnv) (tg iter : Expr) (ds : List D) (k : K2) (fx : Bool) : Prop where
  pi : PI X tg iter (tEI X.K env ds k fx)
theorem _root_.L2.PI.mono {X : Cx} {tg e : Expr} {t t' : TI} (h : PI X tg e t) (m : ∀ σ H R, t' σ H R → t σ H R) : PI X tg e t' := ⟨fun pins s σ H Q I q => h.run pins s σ H Q I (m σ H Q q)⟩
section
variable {X : Cx} {env : DEnv} {tg e a b : Expr} {ds : List D} {k1 k2 : Kd} {i j : Int} {pos p : Pos}
theorem itl_ok {K : PySem.W.Frag} {P F B : Hp} {l : Addr} {vs : List V} {k : K2} (h : P l = some (.lst vs)) (r : repsK K F B P k.k ds vs) : ItOk K P F B (Itl K l) k ds := by
  have uniq : ∀ {H : Hp} {xs : List V}, Same P H → ∀ {i : Nat} {x : V}, (∀ xs, SqL K H l xs → xs[i]? = some x) → vs[i]? = some x := fun s i x y => y vs (SqL.of (s _ _ h))
  refine ⟨fun i d H s e => ?_, fun i d H x H' s e y => ?_, fun H s => ⟨vs, SqL.of (s _ _ h), by rw [r.len]; exact Nat.le_refl _⟩⟩
  · obtain ⟨u, e1, _⟩ := repsK.get (by cases k <;> simp) r e
    exact ⟨vs, u, SqL.of (s _ _ h), e1⟩
  · obtain ⟨e1, y⟩ := y
    obtain ⟨u, e2, r2⟩ := repsK.get (by cases k <;> simp) r e
    have := y vs (SqL.of (s _ _ h))
    rw [e2] at this; cases this
    refine .inl ⟨e1, ?_⟩
    cases k <;> exact r2
theorem itt_ok {K : PySem.W.Frag} {P F B : Hp} {l : Addr} {vs : List V} {k : K2} (h : SqT K P l vs) (r : repsK K F B P k.k ds vs) : ItOk K P F B (Itt K l) k ds := by
  refine ⟨fun i d H s e => ?_, fun i d H x H' s e y => ?_, fun H s => ⟨vs, Same.seqT s h, by rw [r.len]; exact Nat.le_refl _⟩⟩
  · obtain ⟨u, e1, _⟩ := repsK.get (by cases k <;> simp) r e
    exact ⟨vs, u, Same.seqT s h, e1⟩
  · obtain ⟨e1, y⟩ := y
    obtain ⟨u, e2, r2⟩ := repsK.get (by cases k <;> simp) r e
    have := y vs (Same.seqT s h)
    rw [e2] at this; cases this
    refine .inl ⟨e1, ?_⟩
    cases k <;> exact r2
theorem ei_lstC (h : Ev X env e (.lst ds) .cln) : EI X env tg e ds .c true := ⟨(pi_list h.pe).mono fun σ H R ⟨F, B, E, q⟩ => ⟨F, B, E, fun v H1 F1 B1 g r => by
  cases (show Rep X.K F1 (.lst ds) v from r) with
  | lst s t => exact ⟨_, rfl, ⟨_, SqL.of (g.hs.fh _ _ s)⟩, q _ H1 F1 B1 g (itl_ok (g.hs.fb _ _ s) t)⟩⟩⟩
theorem ei_lstB (h : Ev X env e (.lst ds) .brw) : EI X env tg e ds .b true := ⟨(pi_list h.pe).mono fun σ H R ⟨F, B, E, q⟩ => ⟨F, B, E, fun v H1 F1 B1 g r => by
  cases (show Rep X.K B1 (.lst ds) v from r) with
  | lst s t => exact ⟨_, rfl, ⟨_, SqL.of (g.hs.bh _ _ s)⟩, q _ H1 F1 B1 g (itl_ok s t)⟩⟩⟩
theorem ei_lstS (h : Ev X env e (.lst ds) .shl) : EI X env tg e ds .c false := ⟨(pi_list h.pe).mono fun σ H R ⟨F, B, E, q⟩ => ⟨F, B, E, fun v H1 F1 B1 g r => by
  obtain ⟨l, vs, e1, s, t⟩ := r
  exact ⟨_, e1, ⟨_, SqL.of s⟩, q _ H1 F1 B1 g (itl_ok s t)⟩⟩⟩
theorem ei_tupC (h : Ev X env e (.tup ds) .cln) : EI X env tg e ds .c true := ⟨(pi_tup h.pe).mono fun σ H R ⟨F, B, E, q⟩ => ⟨F, B, E, fun v H1 F1 B1 g r => by
  cases (show Rep X.K F1 (.tup ds) v from r) with
  | tup s t => exact ⟨_, rfl, ⟨_, Same.seqT g.hs.fh s⟩, q _ H1 F1 B1 g (itt_ok (Same.seqT g.hs.fb s) t)⟩⟩⟩
theorem ei_tupB (h : Ev X env e (.tup ds) .brw) : EI X env tg e ds .b true := ⟨(pi_tup h.pe).mono fun σ H R ⟨F, B, E, q⟩ => ⟨F, B, E, fun v H1 F1 B1 g r => by
  cases (show Rep X.K B1 (.tup ds) v from r) with
  | tup s t => exact ⟨_, rfl, ⟨_, Same.seqT g.hs.bh s⟩, q _ H1 F1 B1 g (itt_ok s t)⟩⟩⟩
def rngD (lo : Int) (n : Nat) : List D := (List.range n).map fun i : Nat => D.int (lo + (i : Int))
theorem rngD_len (lo : Int) (n : Nat) : (rngD lo n).length = n := by unfold rngD; rw [List.length_map, List.length_range]
theorem rngD_at {lo : Int} {n i : Nat} {d : D} (h : (rngD lo n)[i]? = some d) : i < n ∧ d = .int (lo + (i : Int)) := by
  have hi : i < n := by
    have := (List.getElem?_eq_some_iff.mp h).1
    rwa [rngD_len] at this
  refine ⟨hi, ?_⟩
  unfold rngD at h
  rw [List.getElem?_map, List.getElem?_range hi] at h
  exact (Option.some.inj h).symm
theorem itr_ok {K : PySem.W.Frag} {P F B : Hp} {lo : Int} {n : Nat} : ItOk K P F B (Itr lo n) .c (rngD lo n) :=
  ⟨fun i d H s e => (rngD_at e).1, fun i d H x H' s e y => .inl ⟨y.1, by rw [(rngD_at e).2, y.2]; exact .int _⟩, fun H s => by rw [rngD_len]; exact Nat.le_refl _⟩
theorem ei_rng1 (hg : Gl X "range") (hm : X.mg "range" = none) (ha : Ev X env a (.int j) k1) (h1 : -(2 ^ 62) ≤ j) (h2 : j < 2 ^ 62) (hs : starEach [a] X.env = [(false, eval a X.env)]) : EI X env tg (.Call (.Name "range" p) [a] [] pos) (rngD 0 j.toNat) .c true :=
  ⟨(pi_range1 hg hm (pa_cons ha.scal.pe pa_nil hs) hs).mono fun σ H R ⟨F, B, E, q⟩ => ⟨F, B, E, fun v H1 F1 B1 g r => by
    cases (show Rep X.K F1 (.int j) v from r)
    exact ⟨j, rfl, h1, h2, q _ H1 F1 B1 g itr_ok⟩⟩⟩
theorem ei_rng2 (hg : Gl X "range") (hm : X.mg "range" = none) (ha : Ev X env a (.int i) k1) (hb : Ev X env b (.int j) k2) (h1 : -(2 ^ 62) ≤ i) (h2 : i < 2 ^ 62) (h3 : -(2 ^ 62) ≤ j) (h4 : j < 2 ^ 62) (hs : starEach [a, b] X.env = [(false, eval a X.env), (false, eval b X.env)])
    (hs2 : starEach [b] X.env = [(false, eval b X.env)]) : EI X env tg (.Call (.Name "range" p) [a, b] [] pos) (rngD i (j - i).toNat) .c true :=
  ⟨(pi_range2 hg hm (pa_cons ha.scal.pe (pa_cons hb.scal.pe pa_nil hs2) (hs.trans (by rw [hs2]))) hs hs2).mono fun σ H R ⟨F, B, E, q⟩ => ⟨F, B, E, fun v H1 F1 B1 g r => ⟨F1, B1, E.grow g, fun u H2 F2 B2 g2 r2 => by
    cases (show Rep X.K F1 (.int i) v from r)
    cases (show Rep X.K F2 (.int j) u from r2)
    exact ⟨i, j, rfl, ⟨h1, h2, h3, h4⟩, q _ H2 F2 B2 (g.trans g2) itr_ok⟩⟩⟩⟩
end
section
variable {X : Cx} {env : DEnv} {Φ : Outs} {rest body : List Stmt} {tg iter : Expr} {ds : List D} {k : K2} {t : Tg} {pos : Pos}
theorem RepK.mono2 {K : PySem.W.Frag} {F B H F' B' H' : Hp} {d : D} {v : V} (f : Same F F') (b : Same B B') (r : RepK K F B H H k.k d v) : RepK K F' B' H' H' k.k d v := by
  cases k with
  | c => exact Rep.mono f r
  | b => exact Rep.mono b r
theorem repsK.mono2 {K : PySem.W.Frag} {F B H F' B' H' : Hp} {d : List D} {v : List V} (f : Same F F') (b : Same B B') (r : repsK K F B H k.k d v) : repsK K F' B' H' k.k d v := by
  cases k with
  | c => exact Reps.mono f r
  | b => exact Reps.mono b r
theorem EnvS.setOk {K : PySem.W.Frag} {F B G H : Hp} : SetOk K F B (fun env σ => EnvS K F B G H env σ) fun _ => True := fun env σ i s v _ E h => by
  rcases h with ⟨d, e, r⟩ | ⟨d, e, r⟩ <;> subst e
  · exact E.set r fun d p es => nomatch es
  · exact E.set r fun d p es => nomatch es
theorem yl_grow {K : PySem.W.Frag} {F B H H' : Hp} {d : D} {x : V} (s : Hs F B H) (h : (H' = H ∧ RepK K F B H H k.k d x) ∨ ∃ T vs es, H T = none ∧ H' = upd H T (.tup vs) ∧ x = .ref T ∧ d = .tup es ∧ repsK K F B H k.k es vs) :
    ∃ F' B', Grow F B H F' B' H' ∧ RepK K F' B' H' H' k.k d x := by
  rcases h with ⟨e, r⟩ | ⟨T, vs, es, n, e, ex, ed, r⟩
  · subst e
    exact ⟨F, B, .refl s, r⟩
  · subst e ex ed
    have g := grow_cln (o := .tup vs) s n
    refine ⟨_, _, g, ?_⟩
    cases k with
    | c => exact Rep.tup (SqT.of upd_same) (Reps.mono g.f r)
    | b => exact Rep.tup (SqT.of upd_same) (Reps.mono g.b r)
theorem s1_for (hp : PassesOwn (model X.prog X.w) X.A X.env X.xe) (hc : X.calm = true) (hi : EI X env tg iter ds k true) (ht : TgOk X tg t) (hs : ∀ x, foldedSetIterable iter X.env x = pure x)
    (Inv : Nat → DEnv → Prop) (h0 : Inv 0 env) (step : ∀ (i : Nat) d env1, ds[i]? = some d → Inv i env1 → ∃ env2, bnd k t d env1 = some env2 ∧ SS X env2 body { nx := Inv (i + 1), ct := Inv (i + 1), bk := Φ.nx, rt := Φ.rt })
    (done : ∀ env1, Inv ds.length env1 → Φ.nx env1) : S1 X env (.For tg iter body [] pos) Φ := by
  have hb : PSs X body (fun Dd σ H => ∃ env Ψ, SS X env body Ψ ∧ tSS X.K env Ψ Dd σ H) := ⟨fun pins s σ H Dd I ⟨env', Ψ, h1, h2⟩ => h1.ps.run pins s σ H Dd I h2⟩
  refine ⟨(ps_for hp hc hi.pi ht.pg hb hs).mono fun Dd σ H ⟨F, B, G, E, P⟩ => ⟨F, B, E.e, fun J H1 F1 B1 g it => ?_⟩⟩
  have P1 := P.gs (g.gs E.gh)
  have E1 := E.grow g
  let W : Nat → St → Hp → Prop := fun i σ H => ∃ env1 F2 B2, Inv i env1 ∧ GS F1 B1 G F2 B2 ∧ EnvS X.K F2 B2 G H env1 σ
  refine ⟨fun i m σ H => m = ds.length - i ∧ i ≤ ds.length ∧ W i σ H, ⟨_, rfl, Nat.zero_le _, env, F1, B1, h0, .refl, E1⟩, ?_⟩
  rintro i m σ2 H2 ⟨rfl, hle, env1, F2, B2, hI, gs2, E2⟩
  have sP : Same (if true = true then B1 else H1) H2 := gs2.b.trans E2.hs.bh
  by_cases hlt : i < ds.length
  · have hd : ds[i]? = some ds[i] := List.getElem?_eq_getElem hlt
    refine .inr ⟨it.go i _ H2 sP hd, W (i + 1), fun σ' H' w => ⟨ds.length - (i + 1), by omega, rfl, hlt, w⟩, fun x H' y => ?_⟩
    have y1 := it.yl i _ H2 x H' sP hd y
    have y2 : (H' = H2 ∧ RepK X.K F2 B2 H2 H2 k.k ds[i] x) ∨ ∃ T vs es, H2 T = none ∧ H' = upd H2 T (.tup vs) ∧ x = .ref T ∧ ds[i] = .tup es ∧ repsK X.K F2 B2 H2 k.k es vs := by
      rcases y1 with ⟨e, r⟩ | ⟨T, vs, es, n, e, ex, ed, r⟩
      · exact .inl ⟨e, RepK.mono2 gs2.f gs2.b r⟩
      · exact .inr ⟨T, vs, es, n, e, ex, ed, repsK.mono2 gs2.f gs2.b r⟩
    obtain ⟨F3, B3, g3, r3⟩ := yl_grow E2.hs y2
    have E3 := E2.grow g3
    obtain ⟨env2, eb, hS⟩ := step i _ env1 hd hI
    refine bnd_ok g3.hs (EnvS.setOk (G := G) (H := H')) (fun _ _ => trivial) eb r3 E3 fun σ4 E4 => ⟨env2, _, hS, F3, B3, G, E4, ?_⟩
    have gs3 : GS F1 B1 G F3 B3 := gs2.trans (g3.gs E2.gh)
    exact ⟨fun e σ H F' B' q E h => ⟨e, F', B', h, gs3.trans q, E⟩, fun d k v H F' B' q s gh r h => P1.rt d k v H F' B' (gs3.trans q) s gh r h, fun e σ H F' B' q E h => P1.nx e σ H F' B' (gs3.trans q) E h, fun e σ H F' B' q E h => ⟨e, F', B', h, gs3.trans q, E⟩⟩
  · have e : i = ds.length := by omega
    subst e
    exact .inl ⟨it.st H2 sP, P1.nx env1 σ2 H2 F2 B2 gs2 E2 (done env1 hI)⟩
theorem ss_for (hp : PassesOwn (model X.prog X.w) X.A X.env X.xe) (hc : X.calm = true) (hi : EI X env tg iter ds k true) (ht : TgOk X tg t) (hs : ∀ x, foldedSetIterable iter X.env x = pure x)
    (Inv : Nat → DEnv → Prop) (h0 : Inv 0 env) (step : ∀ (i : Nat) d env1, ds[i]? = some d → Inv i env1 → ∃ env2, bnd k t d env1 = some env2 ∧ SS X env2 body { nx := Inv (i + 1), ct := Inv (i + 1), bk := fun e => SS X e rest Φ, rt := Φ.rt })
    (done : ∀ env1, Inv ds.length env1 → SS X env1 rest Φ) : SS X env (.For tg iter body [] pos :: rest) Φ := ss_cons (s1_for hp hc hi ht hs Inv h0 step done)
end
end DL
namespace DL
open PySem PySem.Spec L2
open PyProof.Rows hiding St
section
variable {X : Cx} {env : DEnv} {Φ : Outs} {rest body : List Stmt} {e a b c : Expr} {ds : List D} {d d' x y z : D} {k k1 k2 kz : Kd} {pos : Pos} {i : Nat} {p : Bool}
theorem s1_while (hp : PassesOwn (model X.prog X.w) X.A X.env X.xe) (Inv : Nat → DEnv → Prop) (m0 : Nat) (h0 : Inv m0 env)
    (step : ∀ m env1, Inv m env1 → ∃ b, Et X env1 c b ∧ (b = true → SS X env1 body { nx := fun e => ∃ m', m' < m ∧ Inv m' e, ct := fun e => ∃ m', m' < m ∧ Inv m' e, bk := Φ.nx, rt := Φ.rt }) ∧ (b = false → Φ.nx env1)) : S1 X env (.While c body [] pos) Φ := by
  have hc : PT X c (fun σ H Q => ∃ env b, Et X env c b ∧ tEt X.K env b σ H Q) := ⟨fun pins s σ H Q I ⟨env', b, h1, h2⟩ => h1.pt.run pins s σ H Q I h2⟩
  have hb : PSs X body (fun Dd σ H => ∃ env Ψ, SS X env body Ψ ∧ tSS X.K env Ψ Dd σ H) := ⟨fun pins s σ H Dd I ⟨env', Ψ, h1, h2⟩ => h1.ps.run pins s σ H Dd I h2⟩
  refine ⟨(ps_while hp hc hb).mono fun Dd σ H ⟨F, B, G, E, P⟩ => ?_⟩
  refine ⟨fun m σ H => ∃ env1 F2 B2, Inv m env1 ∧ GS F B G F2 B2 ∧ EnvS X.K F2 B2 G H env1 σ, ⟨m0, env, F, B, h0, .refl, E⟩, ?_⟩
  rintro m σ2 H2 ⟨env1, F2, B2, hI, gs2, E2⟩
  obtain ⟨t, ht, hT, hF⟩ := step m env1 hI
  refine ⟨env1, t, ht, F2, B2, E2.e, fun H' F' B' g => ?_⟩
  have E3 := E2.grow g
  have gs3 := gs2.trans (g.gs E2.gh)
  cases t with
  | true =>
    show if true = true then _ else _
    rw [if_pos rfl]
    refine ⟨fun σ' H' => ∃ m', m' < m ∧ ∃ env1 F2 B2, Inv m' env1 ∧ GS F B G F2 B2 ∧ EnvS X.K F2 B2 G H' env1 σ', fun σ' H' ⟨m', l, w⟩ => ⟨m', l, w⟩, env1, _, hT rfl, F', B', G, E3, ?_⟩
    exact ⟨fun e σ H F' B' q E ⟨m', l, h⟩ => ⟨m', l, e, F', B', h, gs3.trans q, E⟩, fun d k v H F' B' q s gh r h => P.rt d k v H F' B' (gs3.trans q) s gh r h, fun e σ H F' B' q E h => P.nx e σ H F' B' (gs3.trans q) E h, fun e σ H F' B' q E ⟨m', l, h⟩ => ⟨m', l, e, F', B', h, gs3.trans q, E⟩⟩
  | false =>
    show if false = true then _ else _
    rw [if_neg Bool.false_ne_true]
    exact P.nx env1 σ2 H' F' B' gs3 E3 (hF rfl)
theorem ss_while (hp : PassesOwn (model X.prog X.w) X.A X.env X.xe) (Inv : Nat → DEnv → Prop) (m0 : Nat) (h0 : Inv m0 env)
    (step : ∀ m env1, Inv m env1 → ∃ b, Et X env1 c b ∧ (b = true → SS X env1 body { nx := fun e => ∃ m', m' < m ∧ Inv m' e, ct := fun e => ∃ m', m' < m ∧ Inv m' e, bk := fun e => SS X e rest Φ, rt := Φ.rt }) ∧ (b = false → SS X env1 rest Φ)) : SS X env (.While c body [] pos :: rest) Φ :=
  ss_cons (s1_while hp Inv m0 h0 step)
theorem s1_asg {tg : Expr} {t : Tg} {k : K2} (he : Ev X env e d k.k) (ht : TgOk X tg t) (hb : bnd k t d env = some env') (hs : swapsWithSole [tg] e pos.line X.env = pure false) (hw : swappedStores [tg] e X.env = pure none)
    (h1 : (assignEach [tg] X.env).map (·.2) = [assign tg X.env]) (h : Φ.nx env') : S1 X env (.Assign [tg] e pos) Φ :=
  ⟨(ps_asg he.pe ht.pg hs hw h1).mono fun Dd σ H ⟨F, B, G, E, P⟩ => ⟨F, B, E.e, fun v H' F' B' g r => by
    have r' : RepK X.K F' B' H' H' k.k d v := by cases k <;> exact r
    exact bnd_ok g.hs (EnvS.setOk (G := G) (H := H')) (fun _ _ => trivial) hb r' (E.grow g) fun σ' E' => P.nx _ _ _ F' B' (g.gs E.gh) E' h⟩⟩
theorem EnvS.mut {K : PySem.W.Frag} {F B G H : Hp} {σ : St} {q : Addr} {o : HO} (E : EnvS K F B G H env σ) (he : env[i]? = some (some (.own d))) (hq : σ[i]? = some (some (.ref q))) (nt : notTup o = true) (r : OwnRep K F (upd H q o) q d') :
    EnvS K F B G (upd H q o) (env.set i (some (.own d'))) σ := by
  obtain ⟨v, h1, p, e1, n1, n2, r0⟩ := E.at_ i _ he
  rw [hq] at h1; cases h1; cases e1
  have keep : ∀ {Z : Hp}, Z q = none → Same Z H → Same Z (upd H q o) := fun {Z} n s a u e => by
    rw [upd_ne (ne_of_none e n)]; exact s _ _ e
  have nF : F q = none := E.hs.fb.free n1
  refine ⟨⟨E.hs.fb, keep n1 E.hs.bh, fun a xs h => ?_⟩, keep n2 E.gh, by rw [List.length_set]; exact E.len, fun j s e => ?_, fun j m d1 d2 p e1 e2 e3 e4 => ?_⟩
  · have h' : Rd H a (.tup xs) := by
      by_cases z : a = q
      · subst z
        rcases h with h | ⟨u, h⟩
        · rw [upd_same] at h; cases h; cases nt
        · rw [upd_same] at h; cases h; cases nt
      · rcases h with h | ⟨u, h⟩
        · rw [upd_ne z] at h; exact .inl h
        · rw [upd_ne z] at h; exact .inr ⟨u, h⟩
    exact E.hs.tup a xs h'
  · rcases get_set e with ⟨z, y, hl⟩ | ⟨z, y⟩
    · cases y
      rw [z]
      exact ⟨_, hq, q, rfl, n1, n2, r⟩
    · obtain ⟨u, h3, h4⟩ := E.at_ j s y
      refine ⟨u, h3, ?_⟩
      cases s with
      | frz t => exact h4
      | bor t => exact h4
      | own t =>
        obtain ⟨p, e5, n3, n4, r5⟩ := h4
        subst e5
        have ne : p ≠ q := fun w => by subst w; exact z (E.dis j i t d p y he h3 hq)
        refine ⟨p, rfl, n3, n4, ?_⟩
        cases t with
        | lst t => obtain ⟨us, w1, w2⟩ := r5; exact ⟨us, by rw [upd_ne ne]; exact w1, w2⟩
        | dK t => obtain ⟨us, w1, w2⟩ := r5; exact ⟨us, by rw [upd_ne ne]; exact w1, w2⟩
        | dT t => obtain ⟨us, w1, w2⟩ := r5; exact ⟨us, by rw [upd_ne ne]; exact w1, w2⟩
        | obj C t => obtain ⟨dx, us, w1, w2⟩ := r5; exact ⟨dx, us, by rw [upd_ne ne]; exact w1, w2⟩
        | _ => exact r5.elim
  · have w : ∀ {j : Nat} {t : D}, (env.set i (some (.own d')))[j]? = some (some (.own t)) → ∃ t', env[j]? = some (some (.own t')) := fun {j t} e => by
      rcases get_set e with ⟨z, y, hl⟩ | ⟨z, y⟩
      · rw [z]; exact ⟨_, he⟩
      · exact ⟨_, y⟩
    obtain ⟨t1, y1⟩ := w e1
    obtain ⟨t2, y2⟩ := w e2
    exact E.dis j m t1 t2 p y1 y2 e3 e4
theorem EnvS.own {K : PySem.W.Frag} {F B G H : Hp} {σ : St} (E : EnvS K F B G H env σ) (he : env[i]? = some (some (.own (.lst ds)))) : ∃ q vs, σ[i]? = some (some (.ref q)) ∧ H q = some (.lst vs) ∧ Reps K F ds vs := by
  obtain ⟨v, h1, p, e1, n1, n2, vs, h2, h3⟩ := E.at_ i _ he
  subst e1
  exact ⟨p, vs, h1, h2, h3⟩
structure Mx (X : Cx) (o : Expr) (m : Str) (e : List Expr) (apos cpos : Pos) : Prop where
  base : attributeBase o m X.env (eval o X.env) = eval o X.env
  few : ((backTo cpos (starEach e X.env)).all (fun x => !x.1) && (backToKw cpos (keywordEach [] X.env)).all (fun x => x.1.isSome)
      && decide (e.length + ([] : List Keyword).length + (if ([] : List Keyword).isEmpty then 0 else 1) < 30)) = true
  line : (apos.endLine == cpos.line) = true
theorem s1_append (i : Nat) {n : Str} {np apos cpos : Pos} (hN : X.N[i]? = some n) (hv : Vis X.env.scope n) (he : env[i]? = some (some (.own (.lst ds)))) (ha : Ev X env e d k) (hk : heldOf k d = .cln) (hz : ds.length < sizeLine)
    (mx : Mx X (.Name n np) "append" [e] apos cpos) (hs : starEach [e] X.env = [(false, eval e X.env)]) (hsw : swapsWith (.Call (.Attribute (.Name n np) "append" apos) [e] [] cpos) none pos.line X.env = pure false)
    (hd : (n == ("__debug__" : Str)) = false) (hcd : (n == ("__classdict__" : Str)) = false) (h : Φ.nx (env.set i (some (.own (.lst (ds ++ [d])))))) : S1 X env (.Expr (.Call (.Attribute (.Name n np) "append" apos) [e] [] cpos) pos) Φ :=
  ⟨(ps_expr (pe_bm PySem.F.plainAttrs_list PySem.F.slot_list_append PySem.F.type_list_append (fun pins s σ H x xs v us Q I r r2 h => mt_append pins s σ H x xs v us Q I r r2 h) (pe_var hN hv hd hcd) (pa_cons ha.heldOf.pe pa_nil hs) mx.base mx.few mx.line hs rfl) hsw).mono fun Dd σ H ⟨F, B, G, E, P⟩ => by
    obtain ⟨q, vs, h1, h2, h3⟩ := E.own he
    refine ⟨_, h1, .inl ⟨rfl, vs, SqL.of h2⟩, F, B, E.e, fun v H' F' B' g r => ?_⟩
    rw [hk] at r
    have E' := E.grow g
    refine ⟨q, vs, v, rfl, rfl, g.h _ _ h2, by rw [h3.length]; exact hz, ?_⟩
    exact P.nx _ _ _ F' B' (g.gs E.gh) (E'.mut (d' := .lst (ds ++ [d])) he h1 rfl ⟨_, upd_same, Reps.append (h3.mono g.f) (.one r)⟩) h⟩
theorem s1_reverse (i : Nat) {n : Str} {np apos cpos : Pos} (hN : X.N[i]? = some n) (hv : Vis X.env.scope n) (he : env[i]? = some (some (.own (.lst ds))))
    (hb : attributeBase (.Name n np) "reverse" X.env (eval (.Name n np) X.env) = eval (.Name n np) X.env) (hl : (apos.endLine == cpos.line) = true) (hsw : swapsWith (.Call (.Attribute (.Name n np) "reverse" apos) [] [] cpos) none pos.line X.env = pure false)
    (hd : (n == ("__debug__" : Str)) = false) (hcd : (n == ("__classdict__" : Str)) = false) (h : Φ.nx (env.set i (some (.own (.lst ds.reverse))))) : S1 X env (.Expr (.Call (.Attribute (.Name n np) "reverse" apos) [] [] cpos) pos) Φ :=
  ⟨(ps_expr (pe_bm0 PySem.F.plainAttrs_list PySem.F.slot_list_reverse PySem.F.type_list_reverse (fun pins s σ H x xs v us Q I r r2 h => mt_reverse pins s σ H x xs v us Q I r r2 h) (pe_var hN hv hd hcd) hb hl) hsw).mono fun Dd σ H ⟨F, B, G, E, P⟩ => by
    obtain ⟨q, vs, h1, h2, h3⟩ := E.own he
    exact ⟨_, h1, .inl ⟨rfl, vs, SqL.of h2⟩, q, vs, rfl, rfl, h2, P.nx _ _ _ F B .refl (E.mut (d' := .lst ds.reverse) he h1 rfl ⟨_, upd_same, Reps.reverse h3⟩) h⟩⟩
theorem s1_clear (i : Nat) {n : Str} {np apos cpos : Pos} (hN : X.N[i]? = some n) (hv : Vis X.env.scope n) (he : env[i]? = some (some (.own (.lst ds))))
    (hb : attributeBase (.Name n np) "clear" X.env (eval (.Name n np) X.env) = eval (.Name n np) X.env) (hl : (apos.endLine == cpos.line) = true) (hsw : swapsWith (.Call (.Attribute (.Name n np) "clear" apos) [] [] cpos) none pos.line X.env = pure false)
    (hd : (n == ("__debug__" : Str)) = false) (hcd : (n == ("__classdict__" : Str)) = false) (h : Φ.nx (env.set i (some (.own (.lst []))))) : S1 X env (.Expr (.Call (.Attribute (.Name n np) "clear" apos) [] [] cpos) pos) Φ :=
  ⟨(ps_expr (pe_bm0 PySem.F.plainAttrs_list PySem.F.slot_list_clear PySem.F.type_list_clear (fun pins s σ H x xs v us Q I r r2 h => mt_clear pins s σ H x xs v us Q I r r2 h) (pe_var hN hv hd hcd) hb hl) hsw).mono fun Dd σ H ⟨F, B, G, E, P⟩ => by
    obtain ⟨q, vs, h1, h2, h3⟩ := E.own he
    exact ⟨_, h1, .inl ⟨rfl, vs, SqL.of h2⟩, q, vs, rfl, rfl, h2, P.nx _ _ _ F B .refl (E.mut (d' := .lst []) he h1 rfl ⟨_, upd_same, .nil⟩) h⟩⟩
theorem s1_setL (i : Nat) {n : Str} {np ap : Pos} {j : Int} {m : Nat} (hN : X.N[i]? = some n) (hv : Vis X.env.scope n) (he : env[i]? = some (some (.own (.lst ds)))) (ha : Ev X env e d k) (hk : heldOf k d = .cln) (hb : Ev X env b (.int j) k2) (hj : ixN ds.length j = some m)
    (hsub : ∀ v, assign (.Subscript (.Name n np) b ap) X.env v = (do
      let ov ← holding [v] (eval (.Name n np) X.env)
      let iv ← holding [v, ov] (eval b X.env)
      standAt ap
      holding [v, ov, iv] (setItem ov iv v)
      release [v, ov, iv] []))
    (hs : swapsWithSole [.Subscript (.Name n np) b ap] e pos.line X.env = pure false) (hw : swappedStores [.Subscript (.Name n np) b ap] e X.env = pure none)
    (h1 : (assignEach [.Subscript (.Name n np) b ap] X.env).map (·.2) = [assign (.Subscript (.Name n np) b ap) X.env])
    (hd : (n == ("__debug__" : Str)) = false) (hcd : (n == ("__classdict__" : Str)) = false) (h : Φ.nx (env.set i (some (.own (.lst (ds.set m d)))))) : S1 X env (.Assign [.Subscript (.Name n np) b ap] e pos) Φ :=
  ⟨(ps_asg ha.heldOf.pe (pg_sub (pe_var hN hv hd hcd) hb.pe set_list hsub) hs hw h1).mono fun Dd σ H ⟨F, B, G, E, P⟩ => ⟨F, B, E.e, fun v H1 F1 B1 g r => by
    rw [hk] at r
    obtain ⟨q, vs, w1, w2, w3⟩ := E.own he
    refine ⟨_, w1, F1, B1, E.e.grow g, fun u H2 F2 B2 g2 r2 => ?_⟩
    cases (RepK.scalR rfl g2.hs r2)
    refine ⟨q, vs, j, m, rfl, rfl, g2.h _ _ (g.h _ _ w2), by rw [w3.length]; exact hj, ?_⟩
    exact P.nx _ _ _ F2 B2 ((g.trans g2).gs E.gh) (((E.grow g).grow g2).mut (d' := .lst (ds.set m d)) he w1 rfl ⟨_, upd_same, Reps.set (Rep.mono g2.f r) m (w3.mono (g.f.trans g2.f))⟩) h⟩⟩
end
end DL
namespace DL
open PySem PySem.Spec L2
open PyProof.Rows hiding St
abbrev Rel := List D → D → Kd → Prop
def FnSp (K : PySem.W.Frag) (R : Rel) : Sp := fun vs H Q _ => ∃ F B ds d k, Hs F B H ∧ Reps K B ds vs ∧ R ds d k ∧ ∀ v H' F' B', Grow F B H F' B' H' → RepK K F' B' H H' k d v → Q v H'
inductive Fits : Kd → Kd → D → Prop
  | refl {k : Kd} {d : D} : Fits k k d
  | int {k : Kd} {i : Int} : Fits k .cln (.int i)
  | str {k : Kd} {i : Str} : Fits k .cln (.str i)
  | bl {k : Kd} {i : Bool} : Fits k .cln (.bl i)
  | non {k : Kd} : Fits k .cln .non
  | frz {d : D} : Fits .own .cln d
  | imm {k : Kd} {d : D} : d.imm = true → Fits k .cln d
section
variable {K : PySem.W.Frag} {F B H F' B' H' H0 : Hp} {k k' : Kd} {d : D} {v : V}
theorem Fits.ok (ft : Fits k' k d) (g : Grow F B H F' B' H') (r : RepK K F' B' H H' k' d v) : ∃ F2 B2, Grow F B H F2 B2 H' ∧ RepK K F2 B2 H H' k d v := by
  cases ft with
  | refl => exact ⟨F', B', g, r⟩
  | int => exact ⟨F', B', g, RepK.scalR rfl g.hs r⟩
  | str => exact ⟨F', B', g, RepK.scalR rfl g.hs r⟩
  | bl => exact ⟨F', B', g, RepK.scalR rfl g.hs r⟩
  | non => exact ⟨F', B', g, RepK.scalR rfl g.hs r⟩
  | frz =>
    obtain ⟨p, e, n, m, r⟩ := r
    subst e
    exact ⟨_, _, g.frz n, r.frz g.hs.fh⟩
  | imm i => exact ⟨F', B', g, Rep.immF g.hs.tup i (r.rep g.hs)⟩
end
def env0 (n : Nat) (ds : List D) : DEnv := (ds.map fun d => some (slot2 .b d)) ++ List.replicate (n - ds.length) none
theorem env0_ok {K : PySem.W.Frag} {F B H : Hp} {N : List Str} {ds : List D} {vs : List V} (hs : Hs F B H) (r : Reps K B ds vs) (hl : ds.length ≤ N.length) : EnvS K F B H H (env0 N.length ds) (L2.start N vs) := by
  have e := r.length
  have at_ : ∀ (i : Nat) s, (env0 N.length ds)[i]? = some (some s) → ∃ d v, ds[i]? = some d ∧ (L2.start N vs)[i]? = some (some v) ∧ s = slot2 .b d ∧ Rep K B d v := fun i s h => by
    unfold env0 at h
    by_cases hi : i < ds.length
    · rw [List.getElem?_append_left (by simpa using hi), List.getElem?_map, List.getElem?_eq_getElem hi] at h
      obtain ⟨u, h1, h2⟩ := r.get (List.getElem?_eq_getElem hi)
      refine ⟨ds[i], u, List.getElem?_eq_getElem hi, ?_, ?_, h2⟩
      · unfold L2.start
        rw [List.getElem?_append_left (by rw [List.length_map]; omega), List.getElem?_map, h1]; rfl
      · have h' : some (some (slot2 .b ds[i])) = some (some s) := h
        cases h'; rfl
    · rw [List.getElem?_append_right (by simpa using hi), List.getElem?_replicate] at h
      split at h <;> cases h
  refine ⟨hs, .refl _, ?_, fun i s h => ?_, fun i j d d' p h1 _ _ _ => ?_⟩
  · unfold env0 L2.start
    simp only [List.length_append, List.length_map, List.length_replicate, e]
  · obtain ⟨d, v, h1, h2, h3, h4⟩ := at_ i s h
    refine ⟨v, h2, ?_⟩
    rw [h3]
    rcases slot2_rep (K := K) (F := F) (B := B) (H := H) (k := .b) (d := d) (v := v) h4 with ⟨d', e1, r1⟩ | ⟨d', e1, r1⟩ <;> rw [e1] <;> exact r1
  · obtain ⟨d0, v, _, _, h3, _⟩ := at_ i _ h1
    cases d0 <;> cases h3
structure Cf (X : Cx) (P : Program) (w : World) (K : PySem.W.Frag) (mg : Str → Option Value) (base : Heap) (N : List Str) (sc : Scope) (lv : Nat) : Prop where
  prog : X.prog = P
  w : X.w = w
  K : X.K = K
  mg : X.mg = mg
  base : X.base = base
  N : X.N = N
  sc : X.env.scope = sc
  fn : ∀ x, X.fn x = true
  calm : X.calm = true
  room : Room lv X.A
  xe : X.xe = fun _ _ => False
theorem def_ok {P : Program} {w : World} {K : PySem.W.Frag} {mg : Str → Option Value} {base : Heap} {x qual : Str} {params : Arguments} {body : List Stmt} {scope : Scope} {dvs : List V} {kws : List (Str × V)} {f : Addr} {fd : FuncData} {N ps : List Str} {lv : Nat} {R : Rel}
    (Fd : FunD K x qual params body scope dvs kws f fd) (S : FnScope N ps scope) (hl : ∀ ds d k, R ds d k → ds.length = ps.length) (hn : ps.length ≤ N.length)
    (hb : ∀ X : Cx, Cf X P w K mg base N scope lv → ∀ ds d k, R ds d k → SS X (env0 N.length ds) body { rt := fun d' k' => d' = d ∧ Fits k' k d, nx := fun _ => d = .non ∧ k = .cln }) :
    FnOk P w K mg base CX0 (lv + 1) f fd ps (FnSp K R) := by
  refine Fd.ok S (fun vs H Q E ⟨F, B, ds, d, k, hs, r, hR, q⟩ => by rw [r.length]; exact hl _ _ _ hR) fun cdv A outer s H vs Q E hr ⟨F, B, ds, d, k, hs, r, hR, q⟩ => ?_
  have h := hb (cxOf CX0 P w K mg base N qual scope f cdv A outer s H E).nox ⟨rfl, rfl, rfl, rfl, rfl, rfl, rfl, fun _ => rfl, rfl, hr, rfl⟩ ds d k hR
  refine ⟨_, PSs.nox h.ps, F, B, H, env0_ok hs r (by rw [hl _ _ _ hR]; exact hn), ?_⟩
  have gr : ∀ {F' B' H'}, GS F B H F' B' → Hs F' B' H' → Same H H' → Grow F B H F' B' H' := fun g s e => ⟨g.f, g.b, e, s, g.newF, g.newB⟩
  refine ⟨fun e σ H' F' B' g E ⟨e1, e2⟩ => ?_, fun d' k' v H' F' B' g s e r ⟨e1, ft⟩ => ?_, fun _ _ _ _ _ _ _ h => h.elim, fun _ _ _ _ _ _ _ h => h.elim⟩
  · subst e1 e2
    exact q .non H' F' B' (gr g E.hs E.gh) .non
  · subst e1
    obtain ⟨F2, B2, g2, r2⟩ := ft.ok (gr g s e) r
    exact q v H' F2 B2 g2 r2
def uni (B2 B1 : Hp) : Hp := fun p => match B2 p with
  | some o => some o
  | none => B1 p
theorem uni_l (B2 B1 : Hp) : Same B2 (uni B2 B1) := fun p o e => by unfold uni; rw [e]
theorem uni_r {B2 B1 H : Hp} (a : Same B2 H) (b : Same B1 H) : Same B1 (uni B2 B1) := fun p o e => by
  unfold uni
  cases q : B2 p with
  | none => exact e
  | some o' =>
    have h1 := a _ _ q
    rw [b _ _ e] at h1
    exact h1.symm ▸ rfl
theorem uni_h {B2 B1 H : Hp} (a : Same B2 H) (b : Same B1 H) : Same (uni B2 B1) H := fun p o e => by
  unfold uni at e
  cases q : B2 p with
  | none => rw [q] at e; exact b _ _ e
  | some o' => rw [q] at e; cases e; exact a _ _ q
theorem uni_ne {B2 B1 : Hp} {p : Addr} (h : uni B2 B1 p ≠ none) : B2 p ≠ none ∨ B1 p ≠ none := by
  unfold uni at h
  cases q : B2 p with
  | none => rw [q] at h; exact .inr h
  | some o => exact .inl fun z => nomatch z
theorem uni_none {B2 B1 : Hp} {p : Addr} (h2 : B2 p = none) (h1 : B1 p = none) : uni B2 B1 p = none := by
  unfold uni; rw [h2]; exact h1
def retK (ka k : Kd) : Kd := match ka, k with
  | .cln, .brw => .cln
  | .brw, .brw => .brw
  | _, .brw => .drt
  | _, k => k
theorem call_rel {K : PySem.W.Frag} {R : Rel} {F B H : Hp} {ds : List D} {vs : List V} {d : D} {k ka : Kd} {Q : VK} {E : XK} (hs : Hs F B H) (hk : ka = .cln ∨ ka = .brw ∨ ka = .drt) (hkr : k = .own ∨ k = .cln ∨ k = .brw) (r : repsK K F B H ka ds vs) (hR : R ds d k)
    (q : Fin K F B H (retK ka k) d Q) : FnSp K R vs H Q E := by
  rcases hk with h | h | h <;> subst h
  · refine ⟨F, F, ds, d, k, ⟨.refl _, hs.fh, hs.tup⟩, r, hR, fun v H' F' B' g r' => ?_⟩
    have sB : Same B H' := hs.bh.trans g.h
    have g2 : Grow F B H B' (uni B' B) H' := ⟨g.b, uni_r g.hs.bh sB, g.h, ⟨uni_l _ _, uni_h g.hs.bh sB, fun a xs h => Same.rd g.hs.fb (g.hs.tup a xs h)⟩, fun p h1 h2 => g.newB p h1 h2, fun p h1 h2 => by
      rcases uni_ne h2 with z | z
      · exact ne_none_of_same hs.fb (g.newB p h1 z)
      · exact z⟩
    rcases hkr with e | e | e <;> subst e
    · obtain ⟨p, e1, n, m, r0⟩ := r'
      exact q v H' _ _ g2 ⟨p, e1, n, uni_none m (hs.bh.free n), OwnRep.grow g.hs.fb (.refl _) r0⟩
    · exact q v H' _ _ g2 (Rep.mono g.hs.fb r')
    · exact q v H' _ _ g2 r'
  · refine ⟨F, B, ds, d, k, hs, r, hR, fun v H' F' B' g r' => q v H' F' B' g ?_⟩
    rcases hkr with e | e | e <;> subst e <;> exact r'
  · refine ⟨F, H, ds, d, k, ⟨hs.fh, .refl _, hs.tup⟩, r, hR, fun v H' F' B' g r' => ?_⟩
    have sB : Same B H' := hs.bh.trans g.h
    have g2 : Grow F B H F' (uni F' B) H' := ⟨g.f, uni_r g.hs.fh sB, g.h, ⟨uni_l _ _, uni_h g.hs.fh sB, g.hs.tup⟩, fun p h1 h2 => g.newF p h1 h2, fun p h1 h2 => by
      rcases uni_ne h2 with z | z
      · exact ne_none_of_same hs.fb (g.newF p h1 z)
      · exact z⟩
    rcases hkr with e | e | e <;> subst e
    · obtain ⟨p, e1, n, m, r0⟩ := r'
      exact q v H' _ _ g2 ⟨p, e1, n, uni_none (g.hs.fb.free m) (hs.bh.free n), r0⟩
    · exact q v H' _ _ g2 r'
    · exact q v H' _ _ g2 (Rep.mono g.hs.bh r')
section
variable {X : Cx} {env : DEnv} {e : Expr} {es : List Expr} {ds dds : List D} {d : D} {k ka : Kd} {R : Rel} {f : Addr} {fd : FuncData} {ps : List Str} {dvs : List V} {dus : List Value} {lv : Nat} {x : Str} {p pos : Pos}
theorem reps_drop {K : PySem.W.Frag} {F B H : Hp} {vs : List V} (hk : ka = .cln ∨ ka = .brw ∨ ka = .drt) (r : repsK K F B H ka ds vs) (rd : ∀ B : Hp, Reps K B dds dvs) : repsK K F B H ka (ds ++ dds) (vs ++ dvs) := by
  rcases hk with h | h | h <;> subst h <;> exact Reps.append r (rd _)
theorem ev_call (G : FnOk X.prog X.w X.K X.mg X.base CX0 lv f fd ps (FnSp X.K R)) (hr : Room lv X.A) (hg : Gl X x) (hm : X.mg x = some (.ref f)) (hkp : PySem.W.keepIn X.K (.ref f) = true) (hb : Binds X.K fd ps dus) (hd : Vals dvs dus) (rd : ∀ B : Hp, Reps X.K B dds dvs)
    (ha : EA X env (e :: es) ds ka) (hR : R (ds ++ dds) d k) (hk : ka = .cln ∨ ka = .brw ∨ ka = .drt) (hkr : k = .own ∨ k = .cln ∨ k = .brw) (hdb : (x == ("__debug__" : Str)) = false)
    (he : starEach (e :: es) X.env = (false, eval e X.env) :: starEach es X.env) (hpl : (backTo pos (starEach es X.env)).any (·.1) = false) : Ev X env (.Call (.Name x p) (e :: es) [] pos) d (retK ka k) :=
  ⟨(pe_call G hr hg hm hkp hb hd pass0 ha.pa hdb he hpl).mono fun σ H Q ⟨F, B, E, q⟩ => ⟨F, B, E, fun vs H' F' B' g r => call_rel g.hs hk hkr (reps_drop hk r rd) hR fun w H2 F2 B2 g2 r2 => q w H2 F2 B2 (g.trans g2) (RepK.back g.h r2)⟩⟩
theorem ev_call0 (G : FnOk X.prog X.w X.K X.mg X.base CX0 lv f fd ps (FnSp X.K R)) (hr : Room lv X.A) (hg : Gl X x) (hm : X.mg x = some (.ref f)) (hkp : PySem.W.keepIn X.K (.ref f) = true) (hb : Binds X.K fd ps dus) (hd : Vals dvs dus) (rd : ∀ B : Hp, Reps X.K B dds dvs)
    (hR : R dds d k) (hkr : k = .own ∨ k = .cln ∨ k = .brw) (hdb : (x == ("__debug__" : Str)) = false) : Ev X env (.Call (.Name x p) [] [] pos) d (retK .cln k) :=
  ⟨(pe_call0 G hr hg hm hkp hb hd pass0 hdb).mono fun σ H Q ⟨F, B, E, q⟩ => call_rel (ds := dds) (ka := .cln) (E := E0) E.hs (.inl rfl) hkr (by rw [List.nil_append]; exact rd F) hR fun w H2 F2 B2 g2 r2 => q w H2 F2 B2 g2 r2⟩
end
end DL
namespace DL
open PySem PySem.Spec L2
open PyProof.Rows hiding St
def Blk (X : Cx) (scope : Scope) (Y : Cx) : Prop := ∃ s H C cl fp, Y = X.blk s H scope (compEnvC scope cl C X.env) fp
structure Ets (X : Cx) (env : DEnv) (ifs : List Expr) (b : Bool) : Prop where
  pts : PTs X ifs (tEt X.K env b)
theorem _root_.L2.PTs.mono {X : Cx} {e : List Expr} {t t' : TT} (h : PTs X e t) (m : ∀ σ H Q, t' σ H Q → t σ H Q) : PTs X e t' := ⟨fun pins s σ H Q I q => h.run pins s σ H Q I (m σ H Q q)⟩
theorem ets_nil {X : Cx} {env : DEnv} : Ets X env [] true := ⟨pts_nil.mono fun σ H Q ⟨F, B, E, q⟩ => q H F B (.refl E.hs)⟩
theorem ets_one {X : Cx} {env : DEnv} {c : Expr} {b : Bool} (h : Et X env c b) : Ets X env [c] b := ⟨pts_one h.pt⟩
theorem wipe_set {σ : St} {v : V} {i : Nat} : ∀ {vs : List Nat}, i ∈ vs → wipe (σ.set i (some v)) vs = wipe σ vs
  | [], h => nomatch h
  | w :: vs, h => by
    show (wipe (σ.set i (some v)) vs).set w none = (wipe σ vs).set w none
    by_cases z : i ∈ vs
    · rw [wipe_set z]
    · have e : i = w := by
        rcases List.mem_cons.mp h with y | y
        · exact y
        · exact absurd y z
      subst e
      apply List.ext_getElem?
      intro j
      by_cases hj : i = j
      · subst hj
        by_cases hl : i < σ.length
        · rw [List.getElem?_set_self (by rw [wipe_length, List.length_set]; exact hl), List.getElem?_set_self (by rw [wipe_length]; exact hl)]
        · rw [List.getElem?_eq_none (by rw [List.length_set, wipe_length, List.length_set]; omega), List.getElem?_eq_none (by rw [List.length_set, wipe_length]; omega)]
      · rw [List.getElem?_set_ne hj, List.getElem?_set_ne hj]
        by_cases hm : j ∈ vs
        · have w1 : ∀ {τ : St} {l : List Nat}, j ∈ l → (wipe τ l)[j]? = if j < τ.length then some none else none := fun {τ l} h => by
            induction l with
            | nil => cases h
            | cons a l ih =>
              show ((wipe τ l).set a none)[j]? = _
              by_cases e : a = j
              · subst e
                split
                · next q => rw [List.getElem?_set_self (by rw [wipe_length]; exact q)]
                · next q => rw [List.getElem?_eq_none (by rw [List.length_set, wipe_length]; omega)]
              · rw [List.getElem?_set_ne e]
                rcases List.mem_cons.mp h with y | y
                · exact absurd y.symm e
                · exact ih y
          rw [w1 hm, w1 hm, List.length_set]
        · rw [wipe_out hm, wipe_out hm, List.getElem?_set_ne hj]
theorem wipe_wipe {σ : St} {vs : List Nat} : wipe (wipe σ vs) vs = wipe σ vs := by
  apply List.ext_getElem?
  intro j
  by_cases hm : j ∈ vs
  · have w1 : ∀ {τ : St} {l : List Nat}, j ∈ l → (wipe τ l)[j]? = if j < τ.length then some none else none := fun {τ l} h => by
      induction l with
      | nil => cases h
      | cons a l ih =>
        show ((wipe τ l).set a none)[j]? = _
        by_cases e : a = j
        · subst e
          split
          · next q => rw [List.getElem?_set_self (by rw [wipe_length]; exact q)]
          · next q => rw [List.getElem?_eq_none (by rw [List.length_set, wipe_length]; omega)]
        · rw [List.getElem?_set_ne e]
          rcases List.mem_cons.mp h with y | y
          · exact absurd y.symm e
          · exact ih y
    rw [w1 hm, w1 hm, wipe_length]
  · rw [wipe_out hm]
def Clear (env : DEnv) (vs : List Nat) : Prop := ∀ v ∈ vs, ∀ s, env[v]? ≠ some (some s)
theorem EnvE.wipe {K : PySem.W.Frag} {F B H : Hp} {env : DEnv} {σ : St} {vs : List Nat} (E : EnvE K F B H env σ) (c : Clear env vs) : EnvE K F B H env (wipe σ vs) :=
  ⟨E.hs, by rw [wipe_length]; exact E.len, fun i s h => by
    obtain ⟨v, h1, h2⟩ := E.at_ i s h
    refine ⟨v, ?_, h2⟩
    rw [wipe_out fun z => c i z s h]; exact h1⟩
theorem EnvE.setOk {K : PySem.W.Frag} {F B H : Hp} {vs : List Nat} {σ0 : St} : SetOk K F B (fun env σ => EnvE K F B H env σ ∧ L2.wipe σ vs = σ0) fun i => i ∈ vs := fun env σ i s v hi ⟨E, w⟩ h => by
  refine ⟨⟨E.hs, by rw [List.length_set, List.length_set]; exact E.len, fun j t e => ?_⟩, by rw [wipe_set hi]; exact w⟩
  rcases get_set e with ⟨z, y, hl⟩ | ⟨z, y⟩
  · cases y
    rw [z, List.getElem?_set_self (by rw [← E.len]; exact hl)]
    rcases h with ⟨d, e1, r⟩ | ⟨d, e1, r⟩ <;> subst e1 <;> exact ⟨v, rfl, r⟩
  · obtain ⟨u, h1, h2⟩ := E.at_ j t y
    exact ⟨u, by rw [List.getElem?_set_ne (Ne.symm z)]; exact h1, h2⟩
section
variable {X : Cx} {env : DEnv} {elt tg iter : Expr} {ifs : List Expr} {scope : Scope} {own : List (Str × Nat)} {ds : List D} {k : K2} {fx : Bool} {t : Tg} {pos : Pos}
theorem Grow.at {F0 B0 H0 F B H : Hp} {D : Addr} {acc : List V} (g : Grow F0 B0 H0 F B H) (n : H0 D = none) (nB : B D = none) : Grow F0 B0 H0 F B (upd H D (.lst acc)) := by
  have keep : ∀ {Z : Hp}, Z D = none → Same Z H → Same Z (upd H D (.lst acc)) := fun {Z} n s a u e => by
    rw [upd_ne (ne_of_none e n)]; exact s _ _ e
  refine ⟨g.f, g.b, keep n g.h, ⟨g.hs.fb, keep nB g.hs.bh, fun a xs h => ?_⟩, g.newF, g.newB⟩
  have h' : Rd H a (.tup xs) := by
    by_cases z : a = D
    · subst z
      rcases h with h | ⟨u, h⟩
      · rw [upd_same] at h; cases h
      · rw [upd_same] at h; cases h
    · rcases h with h | ⟨u, h⟩
      · rw [upd_ne z] at h; exact .inl h
      · rw [upd_ne z] at h; exact .inr ⟨u, h⟩
  exact g.hs.tup a xs h'
theorem Grow.keepB {F B H F' B' H' : Hp} {D : Addr} (g : Grow F B H F' B' H') (h : H D ≠ none) (n : B D = none) : B' D = none := by
  cases q : B' D with
  | none => rfl
  | some o => exact absurd n (g.newB D h (by rw [q]; exact fun z => nomatch z))
theorem lc_te {tt : TT} {te : TE} {α : Type} (xs : List α) (en : α → D) (vs : List Nat) (pd : α → Bool) (f : α → D) (kz : K2) (hc : Clear env vs) (hix : ∀ j ∈ t.ix, j ∈ vs) (hz : xs.length ≤ sizeLine)
    (htt : ∀ env b σ H Q, (∀ Y, Blk X scope Y → Ets Y env ifs b) → tEt X.K env b σ H Q → tt σ H Q) (hte : ∀ env d k σ H Q, (∀ Y, Blk X scope Y → Ev Y env elt d k) → tEv X.K env d k σ H Q → te σ H Q)
    (item : ∀ x, x ∈ xs → ∃ env2, bnd k t (en x) env = some env2 ∧ (∀ Y, Blk X scope Y → Ets Y env2 ifs (pd x)) ∧ (pd x = true → ∃ ke, heldOf ke (f x) = kz.k ∧ ∀ Y, Blk X scope Y → Ev Y env2 elt (f x) ke)) :
    ∀ σ H Q, tEv X.K env (.lst ((xs.filter pd).map f)) kz.k.mk σ H Q → tLc (tEI X.K env (xs.map en) k fx) (gOf X.K t) tt te vs σ H Q := fun σ H Q ⟨Fs, Bs, Es, q⟩ => by
  refine ⟨Fs, Bs, Es, fun J H0 F0 B0 g0 it D hD => ?_⟩
  have E0 := Es.grow g0
  have nB0 : B0 D = none := g0.hs.bh.free hD
  refine ⟨fun i m H => m = xs.length - i ∧ i ≤ xs.length ∧ ∃ F B acc, Grow F0 B0 H0 F B H ∧ H D = some (.lst acc) ∧ B D = none ∧ repsK X.K F B H kz.k (((xs.take i).filter pd).map f) acc, ⟨_, rfl, Nat.zero_le _, F0, B0, [], (Grow.refl g0.hs).at hD nB0, upd_same, nB0, by cases kz <;> exact .nil⟩, ?_⟩
  rintro i m H1 ⟨rfl, hle, F, B, acc, g, hA, nB, r⟩
  have sP : Same (if fx = true then B0 else H0) H1 := by
    cases fx with
    | true => exact g.b.trans g.hs.bh
    | false => exact g.h
  by_cases hlt : i < xs.length
  · have hx0 : xs[i]? = some xs[i] := List.getElem?_eq_getElem hlt
    have hd : (xs.map en)[i]? = some (en xs[i]) := by rw [List.getElem?_map, hx0]; rfl
    obtain ⟨env2, eb, hT, hE⟩ := item xs[i] (List.getElem_mem hlt)
    have etake : xs.take (i + 1) = xs.take i ++ [xs[i]] := by rw [List.take_succ, hx0]; rfl
    refine .inr ⟨it.go i _ H1 sP hd, fun H' => ∃ F B acc, Grow F0 B0 H0 F B H' ∧ H' D = some (.lst acc) ∧ B D = none ∧ repsK X.K F B H' kz.k (((xs.take (i + 1)).filter pd).map f) acc, fun H' w => ⟨xs.length - (i + 1), by omega, rfl, hlt, w⟩, fun x H' y => ?_⟩
    have y1 := it.yl i _ H1 x H' sP hd y
    have y2 : (H' = H1 ∧ RepK X.K F B H1 H1 k.k (en xs[i]) x) ∨ ∃ T vs es, H1 T = none ∧ H' = upd H1 T (.tup vs) ∧ x = .ref T ∧ en xs[i] = .tup es ∧ repsK X.K F B H1 k.k es vs := by
      rcases y1 with ⟨e, r⟩ | ⟨T, vs, es, n, e, ex, ed, r⟩
      · exact .inl ⟨e, RepK.mono2 g.f g.b r⟩
      · exact .inr ⟨T, vs, es, n, e, ex, ed, repsK.mono2 g.f g.b r⟩
    obtain ⟨F3, B3, g3, r3⟩ := yl_grow g.hs y2
    have g4 := g.trans g3
    have nB3 : B3 D = none := g3.keepB (by rw [hA]; exact fun z => nomatch z) nB
    have E3 : EnvE X.K F3 B3 H' env (L2.wipe σ vs) := (E0.grow g4).wipe hc
    refine bnd_ok (Pv := fun e τ => EnvE X.K F3 B3 H' e τ ∧ L2.wipe τ vs = L2.wipe σ vs) g3.hs EnvE.setOk hix eb r3 ⟨E3, wipe_wipe⟩ fun σ4 ⟨E4, w4⟩ => ⟨w4, ?_⟩
    refine htt env2 (pd xs[i]) _ _ _ hT ⟨F3, B3, E4, fun H5 F5 B5 g5 => ?_⟩
    have hA5 : H5 D = some (.lst acc) := g5.h _ _ (g3.h _ _ hA)
    have nB5 : B5 D = none := g5.keepB (by rw [g3.h _ _ hA]; exact fun z => nomatch z) nB3
    have gr5 : Grow F B H1 F5 B5 H5 := g3.trans g5
    cases hp : pd xs[i] with
    | false =>
      show if false = true then _ else _
      rw [if_neg Bool.false_ne_true]
      refine ⟨F5, B5, acc, g4.trans g5, hA5, nB5, ?_⟩
      rw [etake, List.filter_append, show [xs[i]].filter pd = [] by simp [hp], List.append_nil]
      exact r.grow gr5
    | true =>
      show if true = true then _ else _
      rw [if_pos rfl]
      obtain ⟨ke, hk, hE⟩ := hE hp
      refine hte env2 (f xs[i]) _ _ _ _ (fun Y hY => (hE Y hY).heldOf) ⟨F5, B5, E4.grow g5, fun y6 H6 F6 B6 g6 r6 => ?_⟩
      rw [hk] at r6
      have hA6 : H6 D = some (.lst acc) := g6.h _ _ hA5
      have nB6 : B6 D = none := g6.keepB (by rw [hA5]; exact fun z => nomatch z) nB5
      have rr := r.grow (gr5.trans g6)
      have hlen : acc.length ≤ i := by
        have e := r.len
        rw [e, List.length_map]
        exact Nat.le_trans (List.length_filter_le _ _) (by rw [List.length_take]; omega)
      refine ⟨acc, hA6, by omega, F6, B6, acc ++ [y6], ((g4.trans g5).trans g6).at hD nB6, upd_same, nB6, ?_⟩
      rw [etake, List.filter_append, show [xs[i]].filter pd = [xs[i]] by simp [hp], List.map_append]
      have r7 : repsK X.K F6 B6 (upd H6 D (.lst (acc ++ [y6]))) kz.k (((xs.take i).filter pd).map f) acc := by cases kz <;> exact rr
      have r8 : repsK X.K F6 B6 (upd H6 D (.lst (acc ++ [y6]))) kz.k ([xs[i]].map f) [y6] := by cases kz <;> exact .one r6
      exact repsK.app r7 r8
  · have e : i = xs.length := by omega
    subst e
    refine .inl ⟨by have := it.st H1 sP; rwa [List.length_map] at this, ?_⟩
    rw [List.take_length] at r
    cases kz with
    | c => exact q _ H1 F B (g0.trans g) ⟨D, rfl, g0.h.free hD, nB, acc, hA, r⟩
    | b =>
      refine q _ H1 F (frzAt B H1 D) (g0.trans ⟨g.f, g.b.trans (frz_same g.hs.bh D), g.h, ⟨g.hs.fb.trans (frz_same g.hs.bh D), frz_sub g.hs.bh D, g.hs.tup⟩, g.newF, fun p h1 h2 => ?_⟩) (Rep.lst (frz_at hA) (Reps.mono (frz_same g.hs.bh D) r))
      rcases frz_ne h2 with z | z
      · subst z; exact absurd hD h1
      · exact g.newB p h1 z
def ttA (X : Cx) (scope : Scope) (ifs : List Expr) : TT := fun σ H Q => ∃ env b, (∀ Y, Blk X scope Y → Ets Y env ifs b) ∧ tEt X.K env b σ H Q
def teA (X : Cx) (scope : Scope) (elt : Expr) : TE := fun σ H Q => ∃ env d k, (∀ Y, Blk X scope Y → Ev Y env elt d k) ∧ tEv X.K env d k σ H Q
theorem ev_lc {α : Type} (xs : List α) (en : α → D) (pd : α → Bool) (f : α → D) (kz : K2) (hcalm : X.calm = true) (hN : X.N.Nodup) (hi : EI X env tg iter (xs.map en) k fx) (ok : BlkOk X.N X.env.scope scope own) (hc : Clear env (own.map (·.2))) (ht : ∀ Y, Blk X scope Y → TgOk Y tg t) (hix : ∀ j ∈ t.ix, j ∈ own.map (·.2)) (hz : xs.length ≤ sizeLine)
    (hs : ∀ x, foldedSetIterable iter X.env x = pure x)
    (item : ∀ x, x ∈ xs → ∃ env2, bnd k t (en x) env = some env2 ∧ (∀ Y, Blk X scope Y → Ets Y env2 ifs (pd x)) ∧ (pd x = true → ∃ ke, heldOf ke (f x) = kz.k ∧ ∀ Y, Blk X scope Y → Ev Y env2 elt (f x) ke)) :
    Ev X env (.ListComp elt [⟨tg, iter, ifs, 0⟩] scope pos) (.lst ((xs.filter pd).map f)) kz.k.mk :=
  ⟨(pe_lc (g := gOf X.K t) (tt := ttA X scope ifs) (te := teA X scope elt) hcalm hN hi.pi ok (fun s H C cl fp => (ht _ ⟨s, H, C, cl, fp, rfl⟩).pg)
    (fun s H C cl fp => ⟨fun pins s' σ H' Q I ⟨env, b, h1, h2⟩ => (h1 _ ⟨s, H, C, cl, fp, rfl⟩).pts.run pins s' σ H' Q I h2⟩) (fun s H C cl fp => ⟨fun pins s' σ H' Q I ⟨env, d, k, h1, h2⟩ => (h1 _ ⟨s, H, C, cl, fp, rfl⟩).pe.run pins s' σ H' Q I h2⟩) hs).mono
    (lc_te (tt := ttA X scope ifs) (te := teA X scope elt) xs en _ pd f kz hc hix hz (fun env b σ H Q h1 h2 => ⟨env, b, h1, h2⟩) (fun env d k σ H Q h1 h2 => ⟨env, d, k, h1, h2⟩) item)⟩
theorem s1_setLc {Φ : Outs} {y : Str} {py spos : Pos} {s : Slot} {α : Type} (xs : List α) (en : α → D) (i : Nat) (pd : α → Bool) (f : α → D) (kz : K2) (hcalm : X.calm = true) (hN : X.N.Nodup) (hy : X.N[i]? = some y) (hyl : X.env.scope.names.lookup y = some .local)
    (hsw : swapsWith (.ListComp elt [⟨tg, iter, ifs, 0⟩] scope pos) (some (.Name y py)) spos.line X.env = pure true) (hi : EI X env tg iter (xs.map en) k fx) (ok : BlkOk X.N X.env.scope scope own) (hc : Clear env (own.map (·.2))) (ht : ∀ Y, Blk X scope Y → TgOk Y tg t) (hix : ∀ j ∈ t.ix, j ∈ own.map (·.2)) (hz : xs.length ≤ sizeLine)
    (hs : ∀ x, foldedSetIterable iter X.env x = pure x)
    (item : ∀ x, x ∈ xs → ∃ env2, bnd k t (en x) env = some env2 ∧ (∀ Y, Blk X scope Y → Ets Y env2 ifs (pd x)) ∧ (pd x = true → ∃ ke, heldOf ke (f x) = kz.k ∧ ∀ Y, Blk X scope Y → Ev Y env2 elt (f x) ke))
    (so : SlotOf kz.k.mk (.lst ((xs.filter pd).map f)) s) (h : Φ.nx (env.set i (some s))) : S1 X env (.Assign [.Name y py] (.ListComp elt [⟨tg, iter, ifs, 0⟩] scope pos) spos) Φ :=
  ⟨(ps_setLc (i := i) (g := gOf X.K t) (tt := ttA X scope ifs) (te := teA X scope elt) hcalm hN hy hyl hsw hi.pi ok (fun s H C cl fp => (ht _ ⟨s, H, C, cl, fp, rfl⟩).pg)
    (fun s H C cl fp => ⟨fun pins s' σ H' Q I ⟨env, b, h1, h2⟩ => (h1 _ ⟨s, H, C, cl, fp, rfl⟩).pts.run pins s' σ H' Q I h2⟩) (fun s H C cl fp => ⟨fun pins s' σ H' Q I ⟨env, d, k, h1, h2⟩ => (h1 _ ⟨s, H, C, cl, fp, rfl⟩).pe.run pins s' σ H' Q I h2⟩) hs).mono
    fun Dd σ H ⟨F, B, G, E, P⟩ => by
      have key : ∀ v H' F' B', Grow F B H F' B' H' → RepK X.K F' B' H H' kz.k.mk (.lst ((xs.filter pd).map f)) v → gName i v σ H' Dd.nx := fun v H' F' B' g r => by
        refine P.nx _ _ _ F' B' (g.gs E.gh) ((E.grow g).set (RepK.slot g.hs E.gh so r) fun d' p es ev => ?_) h
        subst es
        cases kz with
        | c =>
          obtain ⟨q, e1, n, _, _⟩ := r
          rw [e1] at ev; cases ev
          exact own_new E n
        | b => cases so
      exact lc_te (tt := ttA X scope ifs) (te := teA X scope elt) xs en (own.map (·.2)) pd f kz hc hix hz (fun env b σ H Q h1 h2 => ⟨env, b, h1, h2⟩) (fun env d k σ H Q h1 h2 => ⟨env, d, k, h1, h2⟩) item σ H (fun v H' => gName i v σ H' Dd.nx) ⟨F, B, E.e, key⟩⟩
end
end DL
namespace DL
open PySem PySem.Spec L2
open PyProof.Rows hiding St
structure Gd where
  P : Program
  w : World
  K : PySem.W.Frag
  mg : Str → Option Value
  base : Heap
def visB (sc : Scope) (n : Str) : Bool := match sc.names.lookup n with
  | some .local => true | some .cell => true | some .free => true | _ => false
def locB (sc : Scope) (n : Str) : Bool := match sc.names.lookup n with
  | some .local => true | some .cell => true | _ => false
def glB (sc : Scope) (n : Str) : Bool := match sc.names.lookup n with
  | some .globalImplicit => true | _ => false
def plainB (n : Str) : Bool := !(n == ("__debug__" : Str)) && (!(n == ("__classdict__" : Str)) && !(n == ("__name__" : Str)))
def scB (N : List Str) (sc : Scope) (vl ll : List Nat) (gl : List Str) : Bool :=
  (vl.all fun i => match N[i]? with | some n => visB sc n && plainB n | none => false) && ((ll.all fun i => match N[i]? with | some n => locB sc n | none => false) && gl.all fun n => glB sc n && plainB n)
structure Sc (N : List Str) (sc : Scope) (vl ll : List Nat) (gl : List Str) : Prop where
  nd : N.Nodup
  ok : scB N sc vl ll gl = true
theorem visB_ok {sc : Scope} {n : Str} (h : visB sc n = true) : Vis sc n := by
  unfold visB at h
  split at h
  · next e => exact .inl e
  · next e => exact .inr (.inl e)
  · next e => exact .inr (.inr e)
  · cases h
theorem locB_ok {sc : Scope} {n : Str} (h : locB sc n = true) : Loc sc n := by
  unfold locB at h
  split at h
  · next e => exact .inl e
  · next e => exact .inr e
  · cases h
theorem glB_ok {sc : Scope} {n : Str} (h : glB sc n = true) : sc.names.lookup n = some .globalImplicit := by
  unfold glB at h
  split at h
  · next e => exact e
  · cases h
theorem plainB_ok {n : Str} (h : plainB n = true) : (n == ("__debug__" : Str)) = false ∧ (n == ("__classdict__" : Str)) = false ∧ n ≠ "__name__" := by
  unfold plainB at h
  simp only [Bool.and_eq_true, Bool.not_eq_true'] at h
  exact ⟨h.1, h.2.1, fun e => by have := h.2.2; rw [e] at this; simp at this⟩
section
variable {N : List Str} {sc : Scope} {vl ll : List Nat} {gl : List Str}
theorem Sc.vis (S : Sc N sc vl ll gl) {i : Nat} (h : vl.contains i = true) {n : Str} (hN : N[i]? = some n) : Vis sc n ∧ plainB n = true := by
  have h1 := S.ok
  unfold scB at h1
  have h2 := List.all_eq_true.mp (Bool.and_eq_true_iff.mp h1).1 i (by simpa using h)
  rw [hN] at h2
  exact ⟨visB_ok (Bool.and_eq_true_iff.mp h2).1, (Bool.and_eq_true_iff.mp h2).2⟩
theorem Sc.loc (S : Sc N sc vl ll gl) {i : Nat} (h : ll.contains i = true) {n : Str} (hN : N[i]? = some n) : Loc sc n := by
  have h1 := S.ok
  unfold scB at h1
  have h2 := List.all_eq_true.mp (Bool.and_eq_true_iff.mp (Bool.and_eq_true_iff.mp h1).2).1 i (by simpa using h)
  rw [hN] at h2
  exact locB_ok h2
theorem Sc.glo (S : Sc N sc vl ll gl) {j : Nat} {n : Str} (hg : gl[j]? = some n) : sc.names.lookup n = some .globalImplicit ∧ plainB n = true := by
  have h1 := S.ok
  unfold scB at h1
  have h2 := List.all_eq_true.mp (Bool.and_eq_true_iff.mp (Bool.and_eq_true_iff.mp h1).2).2 n (List.mem_of_getElem? hg)
  exact ⟨glB_ok (Bool.and_eq_true_iff.mp h2).1, (Bool.and_eq_true_iff.mp h2).2⟩
end
theorem lookup_rel {env : Env} : ∀ {names : List (Str × NameKind)} {x : Str} {k : NameKind}, names.lookup x = some k →
    ∃ k', (names.map fun (n, k) => if (k == NameKind.free && env.scope.kind == .function && env.kindOf n == some .cell) then (n, NameKind.cell) else (n, k)).lookup x = some k' ∧ (k' = k ∨ (k = .free ∧ k' = .cell))
  | [], _, _, h => by simp at h
  | (n, j) :: r, x, k, h => by
    rw [List.map_cons, List.lookup_cons] at *
    cases hx : x == n with
    | true =>
      rw [hx] at h
      cases h
      by_cases c : (j == NameKind.free && env.scope.kind == .function && env.kindOf n == some .cell) = true
      · simp only [c, if_true, List.lookup_cons, hx]
        refine ⟨_, rfl, .inr ⟨?_, rfl⟩⟩
        simp only [Bool.and_eq_true] at c
        exact eq_of_beq c.1.1
      · have c' := Bool.eq_false_iff.mpr c
        simp only [c', Bool.false_eq_true, if_false, List.lookup_cons, hx]
        exact ⟨_, rfl, .inl rfl⟩
    | false =>
      rw [hx] at h
      obtain ⟨k', e, r'⟩ := lookup_rel (env := env) h
      refine ⟨k', ?_, r'⟩
      by_cases c : (j == NameKind.free && env.scope.kind == .function && env.kindOf n == some .cell) = true
      · simp only [c, if_true, List.lookup_cons, hx]; exact e
      · have c' := Bool.eq_false_iff.mpr c
        simp only [c', Bool.false_eq_true, if_false, List.lookup_cons, hx]; exact e
structure ScLe (sc sc' : Scope) : Prop where
  kind : sc'.kind = sc.kind
  lk : ∀ n k, sc.names.lookup n = some k → ∃ k', sc'.names.lookup n = some k' ∧ (k' = k ∨ (k = .free ∧ k' = .cell))
theorem ScLe.refl (sc : Scope) : ScLe sc sc := ⟨rfl, fun _ k h => ⟨k, h, .inl rfl⟩⟩
section
variable {sc sc' : Scope} {n : Str}
theorem ScLe.vis (s : ScLe sc sc') (h : Vis sc n) : Vis sc' n := by
  rcases h with h | h | h <;> obtain ⟨k', e, r | ⟨r1, r2⟩⟩ := s.lk n _ h
  · exact .inl (r ▸ e)
  · cases r1
  · exact .inr (.inl (r ▸ e))
  · cases r1
  · exact .inr (.inr (r ▸ e))
  · exact .inr (.inl (r2 ▸ e))
theorem ScLe.loc (s : ScLe sc sc') (h : Loc sc n) : Loc sc' n := by
  rcases h with h | h <;> obtain ⟨k', e, r | ⟨r1, r2⟩⟩ := s.lk n _ h
  · exact .inl (r ▸ e)
  · cases r1
  · exact .inr (r ▸ e)
  · cases r1
theorem ScLe.glob (s : ScLe sc sc') (h : sc.names.lookup n = some .globalImplicit) : sc'.names.lookup n = some .globalImplicit := by
  obtain ⟨k', e, r | ⟨r1, r2⟩⟩ := s.lk n _ h
  · exact r ▸ e
  · cases r1
theorem ScLe.local (s : ScLe sc sc') (h : sc.names.lookup n = some .local) : sc'.names.lookup n = some .local := by
  obtain ⟨k', e, r | ⟨r1, r2⟩⟩ := s.lk n _ h
  · exact r ▸ e
  · cases r1
theorem ScLe.blk {N : List Str} {scope : Scope} {own : List (Str × Nat)} (s : ScLe sc sc') (b : BlkOk N sc scope own) : BlkOk N sc' scope own :=
  ⟨b.kind, b.uniq, b.ix, fun y hy e => by
    rcases b.free y hy e with h | h <;> obtain ⟨k', e', r | ⟨r1, r2⟩⟩ := s.lk _ _ h
    · exact .inl (r ▸ e')
    · cases r1
    · exact .inr (r ▸ e')
    · exact .inl (r2 ▸ e'), b.own⟩
end
structure At (X : Cx) (Γ : Gd) (N : List Str) (sc : Scope) (lv : Nat) : Prop where
  eP : X.prog = Γ.P
  eW : X.w = Γ.w
  eK : X.K = Γ.K
  eM : X.mg = Γ.mg
  eB : X.base = Γ.base
  eN : X.N = N
  eS : ScLe sc X.env.scope
  fn : ∀ n, sc.names.lookup n = some .cell → X.fn n = true
  calm : X.calm = true
  room : Room lv X.A
  pass : PassesOwn (model X.prog X.w) X.A X.env X.xe
theorem Cf.at_ {X : Cx} {P : Program} {w : World} {K : PySem.W.Frag} {mg : Str → Option Value} {base : Heap} {N : List Str} {sc : Scope} {lv : Nat} (c : Cf X P w K mg base N sc lv) : At X ⟨P, w, K, mg, base⟩ N sc lv :=
  ⟨c.prog, c.w, c.K, c.mg, c.base, c.N, by rw [c.sc]; exact .refl _, fun n _ => c.fn n, c.calm, c.room, by rw [c.xe]; exact PassesOwn.never⟩
section
variable {X Y : Cx} {Γ : Gd} {N : List Str} {sc scope : Scope} {lv : Nat}
theorem Blk.at_ (b : Blk X scope Y) (A : At X Γ N sc lv) : At Y Γ N scope lv := by
  obtain ⟨s, H, C, cl, fp, rfl⟩ := b
  exact ⟨A.eP, A.eW, A.eK, A.eM, A.eB, A.eN, ⟨rfl, fun n k h => lookup_rel h⟩, fun n h => by show (scope.names.lookup n == some .cell) = true; rw [h]; rfl, A.calm, A.room, PassesOwn.never⟩
variable {vl ll : List Nat} {gl : List Str} {env : DEnv} {Φ : Outs} {rest : List Stmt} {e a b : Expr} {es : List Expr} {d : D} {k k1 k2 : Kd} {pos pos' : Pos} {n : Str}
def sd : Slot → D
  | .own d => d | .frz d => d | .bor d => d
def sk : Slot → Kd
  | .own _ => .shl | .frz _ => .cln | .bor _ => .brw
theorem nm (A : At X Γ N sc lv) (S : Sc N sc vl ll gl) (i : Nat) {s : Slot} (hN : N[i]? = some n) (hv : vl.contains i = true) (he : env[i]? = some (some s)) : Ev X env (.Name n pos) (sd s) (sk s) := by
  obtain ⟨h1, h2⟩ := S.vis hv hN
  obtain ⟨p1, p2, _⟩ := plainB_ok h2
  have h1 : Vis X.env.scope n := A.eS.vis h1
  have hN : X.N[i]? = some n := by rw [A.eN]; exact hN
  cases s with
  | own d => exact ev_nameO i hN h1 he p1 p2
  | frz d => exact ev_nameF i hN h1 he p1 p2
  | bor d => exact ev_nameB i hN h1 he p1 p2
theorem glo (A : At X Γ N sc lv) (S : Sc N sc vl ll gl) (j : Nat) (hg : gl[j]? = some n) : Gl X n := by
  exact A.eS.glob (S.glo hg).1
theorem gI (A : At X Γ N sc lv) (S : Sc N sc vl ll gl) (j : Nat) {i : Int} (hg : gl[j]? = some n) (hm : ∃ t, Γ.mg n = some (.int i t)) : Ev X env (.Name n pos) (.int i) .cln := by
  obtain ⟨t, hm⟩ := hm
  exact ev_globI (glo A S j hg) (by rw [A.eM]; exact hm) (plainB_ok (S.glo hg).2).1
theorem gS (A : At X Γ N sc lv) (S : Sc N sc vl ll gl) (j : Nat) {s : Str} (hg : gl[j]? = some n) (hm : ∃ t, Γ.mg n = some (.str s t)) : Ev X env (.Name n pos) (.str s) .cln := by
  obtain ⟨t, hm⟩ := hm
  exact ev_globS (glo A S j hg) (by rw [A.eM]; exact hm) (plainB_ok (S.glo hg).2).1
theorem bn (A : At X Γ N sc lv) (S : Sc N sc vl ll gl) (j : Nat) {u : Value} (hg : gl[j]? = some n) (hm : Γ.mg n = none) (hb : bootBuiltins n = some u) : Bn X n u :=
  ⟨glo A S j hg, by rw [A.eM]; exact hm, hb, (plainB_ok (S.glo hg).2).2.2, (plainB_ok (S.glo hg).2).1⟩
theorem At.fnl (A : At X Γ N sc lv) (h : Loc sc n) : X.fn n = true ∨ X.env.scope.names.lookup n = some .local := by
  rcases h with h | h
  · exact .inr (A.eS.local h)
  · exact .inl (A.fn n h)
theorem set_ (A : At X Γ N sc lv) (S : Sc N sc vl ll gl) (i : Nat) {s : Slot} (hN : N[i]? = some n) (hl : ll.contains i = true) (he : Ev X env e d k) (so : SlotOf k d s) (hs : swapsWith e (some (.Name n pos')) pos.line X.env = pure false)
    (h : SS X (env.set i (some s)) rest Φ) : SS X env (.Assign [.Name n pos'] e pos :: rest) Φ :=
  ss_set i (by rw [A.eN]; exact S.nd) (by rw [A.eN]; exact hN) (A.eS.loc (S.loc hl hN)) he so hs (A.fnl (S.loc hl hN)) h
theorem tg (A : At X Γ N sc lv) (S : Sc N sc vl ll gl) (i : Nat) (hN : N[i]? = some n) (hl : ll.contains i = true) : TgOk X (.Name n pos) (.nm i) :=
  tg_nm i (by rw [A.eN]; exact S.nd) (by rw [A.eN]; exact hN) (A.eS.loc (S.loc hl hN)) (A.fnl (S.loc hl hN))
theorem append_ (A : At X Γ N sc lv) (S : Sc N sc vl ll gl) (i : Nat) {np apos cpos : Pos} {ds : List D} (hN : N[i]? = some n) (hv : vl.contains i = true) (he : env[i]? = some (some (.own (.lst ds)))) (ha : Ev X env e d k) (hk : heldOf k d = .cln) (hz : ds.length < sizeLine)
    (mx : Mx X (.Name n np) "append" [e] apos cpos) (hs : starEach [e] X.env = [(false, eval e X.env)]) (hsw : swapsWith (.Call (.Attribute (.Name n np) "append" apos) [e] [] cpos) none pos.line X.env = pure false)
    (h : SS X (env.set i (some (.own (.lst (ds ++ [d]))))) rest Φ) : SS X env (.Expr (.Call (.Attribute (.Name n np) "append" apos) [e] [] cpos) pos :: rest) Φ := by
  obtain ⟨h1, h2⟩ := S.vis hv hN
  obtain ⟨p1, p2, _⟩ := plainB_ok h2
  exact ss_cons (s1_append i (by rw [A.eN]; exact hN) (A.eS.vis h1) he ha hk hz mx hs hsw p1 p2 h)
theorem retO (A : At X Γ N sc lv) (S : Sc N sc vl ll gl) (i : Nat) (hN : N[i]? = some n) (hv : vl.contains i = true) (he : env[i]? = some (some (.own d))) (h : Φ.rt d .own) : SS X env (.Return (some (.Name n pos')) pos :: rest) Φ := by
  obtain ⟨h1, h2⟩ := S.vis hv hN
  obtain ⟨p1, p2, _⟩ := plainB_ok h2
  exact ss_retO i (by rw [A.eN]; exact hN) (A.eS.vis h1) he h p1 p2
end
inductive AddR : D → D → Kd → Kd → D → Kd → Prop
  | int {i j : Int} {k1 k2 : Kd} : AddR (.int i) (.int j) k1 k2 (.int (i + j)) .cln
  | str {s t : Str} {k1 k2 : Kd} : s.length + t.length ≤ sizeLine → AddR (.str s) (.str t) k1 k2 (.str (s ++ t)) .cln
  | lstM {α : Type} {f : α → D} {xs ys : List α} {k1 k2 : Kd} : xs.length + ys.length ≤ sizeLine → AddR (.lst (xs.map f)) (.lst (ys.map f)) k1 k2 (.lst ((xs ++ ys).map f)) (k1.kid.join k2.kid).mk
  | lst {ds es : List D} {k1 k2 : Kd} : ds.length + es.length ≤ sizeLine → AddR (.lst ds) (.lst es) k1 k2 (.lst (ds ++ es)) (k1.kid.join k2.kid).mk
  | tupM {α : Type} {f : α → D} {xs ys : List α} {k1 k2 : Kd} : xs.length + ys.length ≤ sizeLine → AddR (.tup (xs.map f)) (.tup (ys.map f)) k1 k2 (.tup ((xs ++ ys).map f)) (k1.kid.join k2.kid)
  | tup {ds es : List D} {k1 k2 : Kd} : ds.length + es.length ≤ sizeLine → AddR (.tup ds) (.tup es) k1 k2 (.tup (ds ++ es)) (k1.kid.join k2.kid)
inductive LenR : D → Int → Prop
  | lstM {α : Type} {f : α → D} {xs : List α} : LenR (.lst (xs.map f)) xs.length
  | lst {ds : List D} : LenR (.lst ds) ds.length
  | tupM {α : Type} {f : α → D} {xs : List α} : LenR (.tup (xs.map f)) xs.length
  | tup {ds : List D} : LenR (.tup ds) ds.length
  | scr {ns : List Int} : LenR (.scr ns) ns.length
  | str {s : Str} : s.length ≤ sizeLine → LenR (.str s) s.length
inductive IxD : D → Int → Kd → D → Kd → Prop
  | lst {ds : List D} {i : Int} {d : D} {k : Kd} : atI ds i = some d → IxD (.lst ds) i k d k.kid
  | tup {ds : List D} {i : Int} {d : D} {k : Kd} : atI ds i = some d → IxD (.tup ds) i k d k.kid
  | scr {ns : List Int} {i j : Int} {k : Kd} : atI ns i = some j → IxD (.scr ns) i k (.int j) .cln
  | str {s : Str} {i : Int} {c : Nat} {k : Kd} : s.length ≤ sizeLine → atI s.cps.toList i = some c → IxD (.str s) i k (.str ⟨#[c]⟩) .cln
inductive IntR : D → Int → Prop
  | int {i : Int} : IntR (.int i) i
  | bl {p : Bool} : IntR (.bl p) (if p then 1 else 0)
inductive SeqR : D → Kd → List D → Kd → Prop
  | lst {ds : List D} {k : Kd} : SeqR (.lst ds) k ds k.kid
  | tup {ds : List D} {k : Kd} : SeqR (.tup ds) k ds k.kid
inductive IterR : D → Kd → List D → K2 → Bool → Prop
  | lstC {ds : List D} : IterR (.lst ds) .cln ds .c true
  | lstO {ds : List D} : IterR (.lst ds) .own ds .c true
  | lstB {ds : List D} : IterR (.lst ds) .brw ds .b true
  | lstS {ds : List D} : IterR (.lst ds) .shl ds .c false
  | tupC {ds : List D} : IterR (.tup ds) .cln ds .c true
  | tupB {ds : List D} : IterR (.tup ds) .brw ds .b true
inductive CmpR : CmpOp → D → D → Bool → Prop
  | int {op : CmpOp} {i j : Int} {t : Bool} : CmpI op i j t → CmpR op (.int i) (.int j) t
  | eqS {s t : Str} : CmpR .Eq (.str s) (.str t) (decide (s = t))
  | neS {s t : Str} : CmpR .NotEq (.str s) (.str t) (!decide (s = t))
  | eqB {s t : Bool} : CmpR .Eq (.bl s) (.bl t) (decide (s = t))
  | neB {s t : Bool} : CmpR .NotEq (.bl s) (.bl t) (!decide (s = t))
  | eqD {x y : D} {p : Bool} : x.pyo = true → y.pyo = true → x.shal → y.shal → PyData.eqv x.py y.py = p → CmpR .Eq x y p
  | neD {x y : D} {p : Bool} : x.pyo = true → y.pyo = true → x.shal → y.shal → PyData.eqv x.py y.py = p → CmpR .NotEq x y (!p)
section
variable {X : Cx} {env : DEnv} {tg a b c : Expr} {k k1 k2 k3 kz : Kd} {pos pn : Pos} {x y z d : D} {i j : Int} {ds : List D} {op : CmpOp} {p : Bool} {kk : K2} {fx : Bool}
theorem add_ (ha : Ev X env a x k1) (hb : Ev X env b y k2) (h : AddR x y k1 k2 z kz) : Ev X env (.BinOp a .Add b pos) z kz := by
  cases h with
  | int => exact ev_add ha hb
  | str h => exact ev_addS ha hb h
  | lst h => exact ev_addL ha hb h
  | tup h => exact ev_addT ha hb h
  | lstM h => rw [List.map_append]; exact ev_addL ha hb (by rw [List.length_map, List.length_map]; exact h)
  | tupM h => rw [List.map_append]; exact ev_addT ha hb (by rw [List.length_map, List.length_map]; exact h)
theorem len_ (bn : Bn X "len" (.builtin "len")) (ha : Ev X env a x k1) (h : LenR x i) (he : starEach [a] X.env = [(false, eval a X.env)]) : Ev X env (.Call (.Name "len" pn) [a] [] pos) (.int i) .cln := by
  cases h with
  | lst => exact ev_lenL bn ha he
  | tup => exact ev_lenT bn ha he
  | lstM => have := ev_lenL (pn := pn) (pos := pos) bn ha he; rw [List.length_map] at this; exact this
  | tupM => have := ev_lenT (pn := pn) (pos := pos) bn ha he; rw [List.length_map] at this; exact this
  | scr => exact ev_lenC bn ha he
  | str h => exact ev_lenS bn ha h he
theorem ix_ (ha : Ev X env a x k1) (hb : Ev X env b (.int i) k2) (h : IxD x i k1 d kz) (hs : PlainIx b) : Ev X env (.Subscript a b pos) d kz := by
  cases h with
  | lst h => exact ev_ixL ha hb h hs
  | tup h => exact ev_ixT ha hb h hs
  | scr h => exact ev_ixC ha hb h hs
  | str hz h => exact ev_ixS ha hb hz h hs
theorem int_ (bn : Bn X "int" (.type "int")) (ha : Ev X env a x k1) (h : IntR x i) (he : starEach [a] X.env = [(false, eval a X.env)]) : Ev X env (.Call (.Name "int" pn) [a] [] pos) (.int i) .cln := by
  cases h with
  | int => exact ev_intI bn ha he
  | bl => exact ev_intB bn ha he
theorem list_ (bn : Bn X "list" (.type "list")) (ha : Ev X env a x k1) (h : SeqR x k1 ds k2) (he : starEach [a] X.env = [(false, eval a X.env)]) : Ev X env (.Call (.Name "list" pn) [a] [] pos) (.lst ds) k2.mk := by
  cases h with
  | lst => exact ev_listL bn ha he
  | tup => exact ev_listT bn ha he
theorem tuple_ (bn : Bn X "tuple" (.type "tuple")) (ha : Ev X env a x k1) (h : SeqR x k1 ds k2) (he : starEach [a] X.env = [(false, eval a X.env)]) : Ev X env (.Call (.Name "tuple" pn) [a] [] pos) (.tup ds) k2 := by
  cases h with
  | lst => exact ev_tupL bn ha he
  | tup => exact ev_tupT bn ha he
theorem iter_ (ha : Ev X env a x k1) (h : IterR x k1 ds kk fx) : EI X env tg a ds kk fx := by
  cases h with
  | lstC => exact ei_lstC ha
  | lstO => exact ei_lstC ha.own_cln
  | lstB => exact ei_lstB ha
  | lstS => exact ei_lstS ha
  | tupC => exact ei_tupC ha
  | tupB => exact ei_tupB ha
theorem cmp_ (hu : X.A.units + 64 < cLine) (ha : Ev X env a x k1) (hb : Ev X env b y k2) (h : CmpR op x y p) : Ev X env (.Compare a [op] [b] pos) (.bl p) .cln := by
  cases h with
  | int h => exact ev_cI ha hb h
  | eqS => exact ev_eqS ha hb
  | neS => exact ev_neS ha hb
  | eqB => exact ev_eqB ha hb
  | neB => exact ev_neB ha hb
  | eqD h1 h2 h3 h4 h5 => exact ev_eqD hu ha hb h1 h2 h3 h4 h5
  | neD h1 h2 h3 h4 h5 => exact ev_neD hu ha hb h1 h2 h3 h4 h5
theorem cmpT (hu : X.A.units + 64 < cLine) (ha : Ev X env a x k1) (hb : Ev X env b y k2) (h : CmpR op x y p) : Et X env (.Compare a [op] [b] pos) p := by
  cases h with
  | int h => exact et_cI ha hb h
  | eqS => exact et_eqS ha hb
  | neS => exact et_neS ha hb
  | eqB => exact et_eqB ha hb
  | neB => exact et_neB ha hb
  | eqD h1 h2 h3 h4 h5 => exact et_eqD hu ha hb h1 h2 h3 h4 h5
  | neD h1 h2 h3 h4 h5 => exact et_neD hu ha hb h1 h2 h3 h4 h5
end
theorem atI_map {α : Type} {f : α → D} {xs : List α} {i : Int} {x : α} (h : atI xs i = some x) : atI (xs.map f) i = some (f x) := by
  unfold atI at h ⊢
  rw [List.length_map]
  cases e : ixN xs.length i with
  | none => rw [e] at h; cases h
  | some m =>
    rw [e] at h
    show (xs.map f)[m]? = _
    rw [List.getElem?_map, show xs[m]? = some x from h]; rfl
theorem atI_getD {α : Type} {xs : List α} {i : Int} (d : α) (h0 : 0 ≤ i) (h1 : i < xs.length) : atI xs i = some (xs.getD i.toNat d) := by
  unfold atI ixN
  rw [if_pos h0, if_pos h1]
  have : i.toNat < xs.length := by omega
  show xs[i.toNat]? = _
  rw [List.getD_eq_getElem?_getD, List.getElem?_eq_getElem this]; rfl
end DL
namespace DL
open PySem PySem.Spec L2
open PyProof.Rows hiding St
def line : Nat := 16777216
theorem line_eq : sizeLine = line := by rw [sizeLine_eq]; rfl
def cmulB (i j : Int) : Bool := (decide (-18446744073709551616 < i) && decide (i < 18446744073709551616)) || (decide (-18446744073709551616 < j) && decide (j < 18446744073709551616))
theorem cmulB_ok {i j : Int} (h : cmulB i j = true) : CMul i j := by
  unfold cmulB at h
  simp only [Bool.or_eq_true, Bool.and_eq_true, decide_eq_true_eq] at h
  exact h
def mulG (i j : Int) : Option Int := if cmulB i j then some (i * j) else none
def divG (i j : Int) : Option Int := if decide (0 < j) && decide (j < 1073741824) then some (i / j) else none
def modG (i j : Int) : Option Int := if decide (0 < j) then some (i % j) else none
def powG (i j : Int) : Option Int := if decide (0 ≤ j) && (decide (j ≤ 1000000) && decide (i.natAbs < 18446744073709551616)) then some (i ^ j.toNat) else none
def addSG (s t : Str) : Option Str := if s.length + t.length ≤ line then some (s ++ t) else none
def catG {α : Type} (xs ys : List α) : Option (List α) := if xs.length + ys.length ≤ line then some (xs ++ ys) else none
def appG {α : Type} (xs : List α) (x : α) : Option (List α) := if xs.length < line then some (xs ++ [x]) else none
def rngI (lo : Int) (n : Nat) : List Int := (List.range n).map fun i : Nat => lo + (i : Int)
def rng1G (n : Int) : Option (List Int) := if decide (-4611686018427387904 ≤ n) && decide (n < 4611686018427387904) then some (rngI 0 n.toNat) else none
def rng2G (a b : Int) : Option (List Int) := if decide (-4611686018427387904 ≤ a) && (decide (a < 4611686018427387904) && (decide (-4611686018427387904 ≤ b) && decide (b < 4611686018427387904))) then some (rngI a (b - a).toNat) else none
def idxG {α : Type} (xs : List α) (i : Int) : Option α := atI xs i
def idxSG (s : Str) (i : Int) : Option Str := if s.length ≤ line then (atI s.cps.toList i).map fun c => ⟨#[c]⟩ else none
def lenSG (s : Str) : Option Int := if s.length ≤ line then some s.length else none
def slSG (s : Str) (l u : Option Int) : Option Str := if s.length ≤ line then some (cutS s l u) else none
def cutX {α : Type} (xs : List α) (lo hi : Option Int) : List α := (xs.drop (HT.sIx xs.length 0 lo)).take (HT.sIx xs.length xs.length hi - HT.sIx xs.length 0 lo)
def setG {α : Type} (xs : List α) (i : Int) (x : α) : Option (List α) := match ixN xs.length i with
  | some m => some (xs.set m x)
  | none => none
def lcG {α : Type} (xs : List α) : Option (List α) := if xs.length ≤ line then some xs else none
def maxG : List Int → Option Int
  | [] => none
  | x :: xs => some (xs.foldl (fun a b => if a < b then b else a) x)
def minG : List Int → Option Int
  | [] => none
  | x :: xs => some (xs.foldl (fun a b => if b < a then b else a) x)
def lcM {α β : Type} (p : α → Option Bool) (f : α → Option β) : List α → Option (List β)
  | [] => some []
  | x :: xs => (p x).bind fun b => if b = true then (f x).bind fun y => (lcM p f xs).bind fun ys => some (y :: ys) else lcM p f xs
inductive Ctl (S R : Type) where
  | nx (s : S) | ret (r : R) | brk (s : S)
def loopM {α S R : Type} (step : S → α → Option (Ctl S R)) : S → List α → Option (Ctl S R)
  | s, [] => some (.nx s)
  | s, x :: xs => match step s x with
    | some (.nx s') => loopM step s' xs
    | some (.ret r) => some (.ret r)
    | some (.brk s') => some (.nx s')
    | none => none
def whileM {S R : Type} (c : S → Option Bool) (step : S → Option (Ctl S R)) : Nat → S → Option (Ctl S R)
  | 0, _ => none
  | n + 1, s => (c s).bind fun b => if b = true then (match step s with
    | some (.nx s') => whileM c step n s'
    | some (.ret r) => some (.ret r)
    | some (.brk s') => some (.nx s')
    | none => none) else some (.nx s)
theorem bindO {α β : Type} {o : Option α} {f : α → Option β} {b : β} (h : o.bind f = some b) : ∃ a, o = some a ∧ f a = some b := Option.bind_eq_some_iff.mp h
theorem ifO {α : Type} {p : Bool} {a b : Option α} {x : α} (h : (if p = true then a else b) = some x) : (p = true → a = some x) ∧ (p = false → b = some x) := by
  cases p with
  | true => exact ⟨fun _ => h, fun z => nomatch z⟩
  | false => exact ⟨(fun z => nomatch z), fun _ => h⟩
theorem iteO {α : Type} {c : Prop} [Decidable c] {a x : α} (h : (if c then some a else none) = some x) : c ∧ a = x := by
  by_cases hc : c
  · rw [if_pos hc] at h; exact ⟨hc, Option.some.inj h⟩
  · rw [if_neg hc] at h; cases h
section
variable {X : Cx} {env : DEnv} {tg a b c : Expr} {k k1 k2 k3 : Kd} {pos pn : Pos} {i j v : Int} {s t w : Str} {d d' : D}
theorem Ev.cv (h : Ev X env a d k) (e : d = d') : Ev X env a d' k := e ▸ h
theorem mul_ (ha : Ev X env a (.int i) k1) (hb : Ev X env b (.int j) k2) (h : mulG i j = some v) : Ev X env (.BinOp a .Mult b pos) (.int v) .cln := by
  obtain ⟨h1, e⟩ := iteO h; subst e
  exact ev_mul ha hb (cmulB_ok h1)
theorem div_ (ha : Ev X env a (.int i) k1) (hb : Ev X env b (.int j) k2) (h : divG i j = some v) : Ev X env (.BinOp a .FloorDiv b pos) (.int v) .cln := by
  obtain ⟨h1, e⟩ := iteO h; subst e
  simp only [Bool.and_eq_true, decide_eq_true_eq] at h1
  exact ev_fdiv ha hb h1
theorem mod_ (ha : Ev X env a (.int i) k1) (hb : Ev X env b (.int j) k2) (h : modG i j = some v) : Ev X env (.BinOp a .Mod b pos) (.int v) .cln := by
  obtain ⟨h1, e⟩ := iteO h; subst e
  exact ev_mod ha hb (of_decide_eq_true h1)
theorem pow_ (ha : Ev X env a (.int i) k1) (hb : Ev X env b (.int j) k2) (h : powG i j = some v) : Ev X env (.BinOp a .Pow b pos) (.int v) .cln := by
  obtain ⟨h1, e⟩ := iteO h; subst e
  simp only [Bool.and_eq_true, decide_eq_true_eq] at h1
  exact ev_pow ha hb h1
theorem addS_ (ha : Ev X env a (.str s) k1) (hb : Ev X env b (.str t) k2) (h : addSG s t = some w) : Ev X env (.BinOp a .Add b pos) (.str w) .cln := by
  obtain ⟨h1, e⟩ := iteO h; subst e
  exact ev_addS ha hb (by rw [line_eq]; exact h1)
theorem catL_ {α : Type} {f : α → D} {xs ys zs : List α} (ha : Ev X env a (.lst (xs.map f)) k1) (hb : Ev X env b (.lst (ys.map f)) k2) (h : catG xs ys = some zs) : Ev X env (.BinOp a .Add b pos) (.lst (zs.map f)) (k1.kid.join k2.kid).mk := by
  obtain ⟨h1, e⟩ := iteO h; subst e
  exact add_ ha hb (.lstM (by rw [line_eq]; exact h1))
theorem catT_ {α : Type} {f : α → D} {xs ys zs : List α} (ha : Ev X env a (.tup (xs.map f)) k1) (hb : Ev X env b (.tup (ys.map f)) k2) (h : catG xs ys = some zs) : Ev X env (.BinOp a .Add b pos) (.tup (zs.map f)) (k1.kid.join k2.kid) := by
  obtain ⟨h1, e⟩ := iteO h; subst e
  exact add_ ha hb (.tupM (by rw [line_eq]; exact h1))
theorem ixL_ {α : Type} {f : α → D} {xs : List α} {x : α} (ha : Ev X env a (.lst (xs.map f)) k1) (hb : Ev X env b (.int i) k2) (h : idxG xs i = some x) (hs : PlainIx b) : Ev X env (.Subscript a b pos) (f x) k1.kid := ev_ixL ha hb (atI_map h) hs
theorem ixT_ {α : Type} {f : α → D} {xs : List α} {x : α} (ha : Ev X env a (.tup (xs.map f)) k1) (hb : Ev X env b (.int i) k2) (h : idxG xs i = some x) (hs : PlainIx b) : Ev X env (.Subscript a b pos) (f x) k1.kid := ev_ixT ha hb (atI_map h) hs
theorem ixC_ {ns : List Int} (ha : Ev X env a (.scr ns) k1) (hb : Ev X env b (.int i) k2) (h : idxG ns i = some v) (hs : PlainIx b) : Ev X env (.Subscript a b pos) (.int v) .cln := ev_ixC ha hb h hs
theorem ixS_ (ha : Ev X env a (.str s) k1) (hb : Ev X env b (.int i) k2) (h : idxSG s i = some w) (hs : PlainIx b) : Ev X env (.Subscript a b pos) (.str w) .cln := by
  unfold idxSG at h
  by_cases hz : s.length ≤ line
  · rw [if_pos hz] at h
    obtain ⟨c, e1, e2⟩ := Option.map_eq_some_iff.mp h
    subst e2
    exact ev_ixS ha hb (by rw [line_eq]; exact hz) e1 hs
  · rw [if_neg hz] at h; cases h
theorem lenL_ {α : Type} {f : α → D} {xs : List α} (bn : Bn X "len" (.builtin "len")) (ha : Ev X env a (.lst (xs.map f)) k1) (he : starEach [a] X.env = [(false, eval a X.env)]) : Ev X env (.Call (.Name "len" pn) [a] [] pos) (.int (xs.length : Nat)) .cln := len_ bn ha .lstM he
theorem lenT_ {α : Type} {f : α → D} {xs : List α} (bn : Bn X "len" (.builtin "len")) (ha : Ev X env a (.tup (xs.map f)) k1) (he : starEach [a] X.env = [(false, eval a X.env)]) : Ev X env (.Call (.Name "len" pn) [a] [] pos) (.int (xs.length : Nat)) .cln := len_ bn ha .tupM he
theorem lenC_ {ns : List Int} (bn : Bn X "len" (.builtin "len")) (ha : Ev X env a (.scr ns) k1) (he : starEach [a] X.env = [(false, eval a X.env)]) : Ev X env (.Call (.Name "len" pn) [a] [] pos) (.int (ns.length : Nat)) .cln := len_ bn ha .scr he
theorem lenS_ (bn : Bn X "len" (.builtin "len")) (ha : Ev X env a (.str s) k1) (h : lenSG s = some v) (he : starEach [a] X.env = [(false, eval a X.env)]) : Ev X env (.Call (.Name "len" pn) [a] [] pos) (.int v) .cln := by
  obtain ⟨h1, e⟩ := iteO h; subst e
  exact len_ bn ha (.str (by rw [line_eq]; exact h1)) he
variable {lo hi : Option Expr} {l u : Option Int} {p2 : Pos}
theorem cut_map {α : Type} {f : α → D} {xs : List α} : cutD (xs.map f) l u = (cutX xs l u).map f := by
  unfold cutD cutX
  rw [List.length_map, List.map_take, List.map_drop]
theorem slL_ {α : Type} {f : α → D} {xs : List α} (ha : Ev X env a (.lst (xs.map f)) k1) (hl : Eo X env lo l) (hu : Eo X env hi u) : Ev X env (.Subscript a (.Slice lo hi none p2) pos) (.lst ((cutX xs l u).map f)) k1.kid.mk := by
  rw [← cut_map]; exact ev_slL ha hl hu
theorem slT_ {α : Type} {f : α → D} {xs : List α} (ha : Ev X env a (.tup (xs.map f)) k1) (hl : Eo X env lo l) (hu : Eo X env hi u) : Ev X env (.Subscript a (.Slice lo hi none p2) pos) (.tup ((cutX xs l u).map f)) k1.kid := by
  rw [← cut_map]; exact ev_slT ha hl hu
theorem slS_ (ha : Ev X env a (.str s) k1) (hl : Eo X env lo l) (hu : Eo X env hi u) (h : slSG s l u = some w) : Ev X env (.Subscript a (.Slice lo hi none p2) pos) (.str w) .cln := by
  obtain ⟨h1, e⟩ := iteO h; subst e
  exact ev_slS ha hl hu (by rw [line_eq]; exact h1)
theorem revL_ {α : Type} {f : α → D} {xs : List α} {kk : Nat} {p1 p2 p3 : Pos} (ha : Ev X env a (.lst (xs.map f)) k1) : Ev X env (.Subscript a (.Slice none none (some (.UnaryOp .USub (.Constant (.int 1) kk p1) p2)) p3) pos) (.lst (xs.reverse.map f)) k1.kid.mk := by
  rw [List.map_reverse]; exact ev_revL ha
theorem rng_map (lo : Int) (n : Nat) : rngD lo n = (rngI lo n).map D.int := by unfold rngD rngI; rw [List.map_map]; rfl
theorem rng1_ {ns : List Int} (hg : Gl X "range") (hm : X.mg "range" = none) (ha : Ev X env a (.int j) k1) (h : rng1G j = some ns) (hs : starEach [a] X.env = [(false, eval a X.env)]) : EI X env tg (.Call (.Name "range" pn) [a] [] pos) (ns.map D.int) .c true := by
  obtain ⟨h1, e⟩ := iteO h; subst e
  simp only [Bool.and_eq_true, decide_eq_true_eq] at h1
  rw [← rng_map]
  exact ei_rng1 hg hm ha h1.1 h1.2 hs
theorem rng2_ {ns : List Int} (hg : Gl X "range") (hm : X.mg "range" = none) (ha : Ev X env a (.int i) k1) (hb : Ev X env b (.int j) k2) (h : rng2G i j = some ns) (hs : starEach [a, b] X.env = [(false, eval a X.env), (false, eval b X.env)]) (hs2 : starEach [b] X.env = [(false, eval b X.env)]) :
    EI X env tg (.Call (.Name "range" pn) [a, b] [] pos) (ns.map D.int) .c true := by
  obtain ⟨h1, e⟩ := iteO h; subst e
  simp only [Bool.and_eq_true, decide_eq_true_eq] at h1
  rw [← rng_map]
  exact ei_rng2 hg hm ha hb h1.1 h1.2.1 h1.2.2.1 h1.2.2.2 hs hs2
theorem maxG_go : ∀ (xs : List Int) (x : Int), (xs.foldl (fun a b => if a < b then b else a) x) ∈ x :: xs ∧ ∀ y ∈ x :: xs, y ≤ xs.foldl (fun a b => if a < b then b else a) x := by
  intro xs
  induction xs with
  | nil => intro x; exact ⟨by simp, fun y hy => by have : y = x := by simpa using hy
                                                   rw [this]; exact Int.le_refl _⟩
  | cons z zs ih =>
    intro x
    obtain ⟨h1, h2⟩ := ih (if x < z then z else x)
    have hx := h2 (if x < z then z else x) (by simp)
    have c1 : x ≤ (if x < z then z else x) := by split <;> omega
    have c2 : z ≤ (if x < z then z else x) := by split <;> omega
    refine ⟨?_, fun y hy => ?_⟩
    · show zs.foldl _ (if x < z then z else x) ∈ _
      rcases List.mem_cons.mp h1 with e | e
      · rw [e]; split <;> simp
      · simp [e]
    · show y ≤ zs.foldl _ (if x < z then z else x)
      rcases List.mem_cons.mp hy with e | e
      · rw [e]; exact Int.le_trans c1 hx
      · rcases List.mem_cons.mp e with e | e
        · rw [e]; exact Int.le_trans c2 hx
        · exact h2 y (by simp [e])
theorem maxG_ok {xs : List Int} {m : Int} (h : maxG xs = some m) : m ∈ xs ∧ ∀ y ∈ xs, y ≤ m := by
  cases xs with
  | nil => cases h
  | cons x xs => cases h; exact maxG_go xs x
theorem minG_go : ∀ (xs : List Int) (x : Int), (xs.foldl (fun a b => if b < a then b else a) x) ∈ x :: xs ∧ ∀ y ∈ x :: xs, xs.foldl (fun a b => if b < a then b else a) x ≤ y := by
  intro xs
  induction xs with
  | nil => intro x; exact ⟨by simp, fun y hy => by have : y = x := by simpa using hy
                                                   rw [this]; exact Int.le_refl _⟩
  | cons z zs ih =>
    intro x
    obtain ⟨h1, h2⟩ := ih (if z < x then z else x)
    have hx := h2 (if z < x then z else x) (by simp)
    have c1 : (if z < x then z else x) ≤ x := by split <;> omega
    have c2 : (if z < x then z else x) ≤ z := by split <;> omega
    refine ⟨?_, fun y hy => ?_⟩
    · show zs.foldl _ (if z < x then z else x) ∈ _
      rcases List.mem_cons.mp h1 with e | e
      · rw [e]; split <;> simp
      · simp [e]
    · show zs.foldl _ (if z < x then z else x) ≤ y
      rcases List.mem_cons.mp hy with e | e
      · rw [e]; exact Int.le_trans hx c1
      · rcases List.mem_cons.mp e with e | e
        · rw [e]; exact Int.le_trans hx c2
        · exact h2 y (by simp [e])
theorem minG_ok {xs : List Int} {m : Int} (h : minG xs = some m) : m ∈ xs ∧ ∀ y ∈ xs, m ≤ y := by
  cases xs with
  | nil => cases h
  | cons x xs => cases h; exact minG_go xs x
theorem maxL_ {ns : List Int} (hc : X.calm = true) (bn : Bn X "max" (.builtin "max")) (ha : Ev X env a (.lst (ns.map D.int)) k1) (h : maxG ns = some v) (he : starEach [a] X.env = [(false, eval a X.env)]) : Ev X env (.Call (.Name "max" pn) [a] [] pos) (.int v) .cln := ev_maxL hc bn ha (maxG_ok h).1 (maxG_ok h).2 he
theorem minL_ {ns : List Int} (hc : X.calm = true) (bn : Bn X "min" (.builtin "min")) (ha : Ev X env a (.lst (ns.map D.int)) k1) (h : minG ns = some v) (he : starEach [a] X.env = [(false, eval a X.env)]) : Ev X env (.Call (.Name "min" pn) [a] [] pos) (.int v) .cln := ev_minL hc bn ha (minG_ok h).1 (minG_ok h).2 he
variable {p q r : Bool} {rest : List Expr} {m : Option Bool}
theorem ifT {α : Type} {m m' : Option α} {r : α} {p : Bool} (h : (if p = true then m else m') = some r) (hp : p = true) : m = some r := by rw [if_pos hp] at h; exact h
theorem ifF {α : Type} {m m' : Option α} {r : α} {p : Bool} (h : (if p = true then m else m') = some r) (hp : p = false) : m' = some r := by rw [hp] at h; exact h
theorem ew_andM (h1 : Et X env a p) (h : (if p = true then m else some false) = some r) (h2 : m = some r → Ew X env (.BoolOp .And (b :: rest) pos) r) : Ew X env (.BoolOp .And (a :: b :: rest) pos) r := by
  cases p with
  | true => exact ew_and h1 fun _ => h2 h
  | false => cases h; exact ew_and (q := false) h1 fun z => nomatch z
theorem ew_orM (h1 : Et X env a p) (h : (if p = true then some true else m) = some r) (h2 : m = some r → Ew X env (.BoolOp .Or (b :: rest) pos) r) : Ew X env (.BoolOp .Or (a :: b :: rest) pos) r := by
  cases p with
  | false => exact ew_or h1 fun _ => h2 h
  | true => cases h; exact ew_or (q := true) h1 fun z => nomatch z
theorem ev_andM (h1 : Ev X env a (.bl p) k1) (h : (if p = true then m else some false) = some r) (h2 : m = some r → Ev X env (.BoolOp .And (b :: rest) pos) (.bl r) .cln) : Ev X env (.BoolOp .And (a :: b :: rest) pos) (.bl r) .cln := by
  cases p with
  | true => exact ev_and h1 fun _ => h2 h
  | false => cases h; exact ev_and (q := false) h1 fun z => nomatch z
theorem ev_orM (h1 : Ev X env a (.bl p) k1) (h : (if p = true then some true else m) = some r) (h2 : m = some r → Ev X env (.BoolOp .Or (b :: rest) pos) (.bl r) .cln) : Ev X env (.BoolOp .Or (a :: b :: rest) pos) (.bl r) .cln := by
  cases p with
  | false => exact ev_or h1 fun _ => h2 h
  | true => cases h; exact ev_or (q := true) h1 fun z => nomatch z
theorem ev_ifM {α : Type} {en : α → D} {x : α} {ma mb : Option α} (hc : Et X env c p) (h : (if p = true then ma else mb) = some x) (ha : ma = some x → Ev X env a (en x) k1) (hb : mb = some x → Ev X env b (en x) k1) : Ev X env (.IfExp c a b pos) (en x) k1 := by
  cases p with
  | true => exact ev_if hc (fun _ => ha h) fun z => nomatch z
  | false => exact ev_if hc (fun z => nomatch z) fun _ => hb h
theorem ev_ifP {α : Type} {en : α → D} {x y : α} (hc : Et X env c p) (ha : Ev X env a (en x) k1) (hb : Ev X env b (en y) k1) : Ev X env (.IfExp c a b pos) (en (if p = true then x else y)) k1 := by
  cases p with
  | true => exact ev_if hc (fun _ => ha) fun z => nomatch z
  | false => exact ev_if hc (fun z => nomatch z) fun _ => hb
end
theorem lcM_ok {α β : Type} {p : α → Option Bool} {f : α → Option β} (en : β → D) : ∀ {xs : List α} {ys : List β}, lcM p f xs = some ys →
    ∃ (pd : α → Bool) (g : α → D), ((xs.filter pd).map g) = ys.map en ∧ (∀ x, pd x = (p x).getD false) ∧ (∀ x, g x = match f x with | some y => en y | none => .non) ∧ ∀ x ∈ xs, p x = some (pd x) ∧ (pd x = true → ∃ y, f x = some y ∧ g x = en y) := by
  intro xs
  induction xs with
  | nil => intro ys h; cases h; exact ⟨_, _, rfl, fun _ => rfl, fun _ => rfl, fun x hx => nomatch hx⟩
  | cons x xs ih =>
    intro ys h
    unfold lcM at h
    obtain ⟨b, hb, h⟩ := bindO h
    cases b with
    | true =>
      rw [if_pos rfl] at h
      obtain ⟨y, hy, h⟩ := bindO h
      obtain ⟨zs, hz, h⟩ := bindO h
      cases h
      obtain ⟨pd, g, e, e1, e2, hi⟩ := ih hz
      have px : pd x = true := by rw [e1, hb]; rfl
      have gx : g x = en y := by rw [e2, hy]
      refine ⟨pd, g, ?_, e1, e2, fun z hm => ?_⟩
      · rw [List.filter_cons, if_pos px, List.map_cons, e, gx]; rfl
      · rcases List.mem_cons.mp hm with w | w
        · subst w; exact ⟨by rw [px]; exact hb, fun _ => ⟨y, hy, gx⟩⟩
        · exact hi z w
    | false =>
      rw [if_neg Bool.false_ne_true] at h
      obtain ⟨pd, g, e, e1, e2, hi⟩ := ih h
      have px : pd x = false := by rw [e1, hb]; rfl
      refine ⟨pd, g, ?_, e1, e2, fun z hm => ?_⟩
      · rw [List.filter_cons, px, if_neg Bool.false_ne_true, e]
      · rcases List.mem_cons.mp hm with w | w
        · subst w; exact ⟨by rw [px]; exact hb, fun z => by rw [px] at z; cases z⟩
        · exact hi z w
section
variable {X : Cx} {Γ : Gd} {N : List Str} {sc scope : Scope} {lv : Nat} {vl ll vl2 ll2 : List Nat} {gl gl2 : List Str} {env : DEnv} {Φ : Outs} {rest body : List Stmt} {elt tg iter : Expr} {ifs : List Expr} {own : List (Str × Nat)} {k : K2} {fx : Bool} {t : Tg} {pos : Pos}
theorem Clear_of {env : DEnv} {vs : List Nat} (h : (vs.all fun v => match env[v]? with | some (some _) => false | _ => true) = true) : Clear env vs := fun v hv s e => by
  have := List.all_eq_true.mp h v hv
  rw [e] at this; cases this
structure Ec (X : Cx) (env : DEnv) (e : Expr) (d : D) (k : Kd) : Prop where
  ev : Ev X env e d k
  sto : ∀ {y : Str} {py spos : Pos} {s : Slot} {i : Nat} {rest : List Stmt} {Φ : Outs}, X.N[i]? = some y → X.env.scope.names.lookup y = some .local → swapsWith e (some (.Name y py)) spos.line X.env = pure true → SlotOf k d s → SS X (env.set i (some s)) rest Φ → SS X env (.Assign [.Name y py] e spos :: rest) Φ
theorem Ec.cv {X : Cx} {env : DEnv} {e : Expr} {d d' : D} {k : Kd} (h : Ec X env e d k) (e' : d = d') : Ec X env e d' k := e' ▸ h
theorem ec_lc {α : Type} (xs : List α) (en : α → D) (pd : α → Bool) (f : α → D) (kz : K2) (A : At X Γ N sc lv) (S : Sc N sc vl ll gl) (ok : blkC N sc scope own = true) (hi : EI X env tg iter (xs.map en) k fx) (hz : xs.length ≤ sizeLine) (hc : Clear env (own.map (·.2)))
    (ht : ∀ Y, At Y Γ N scope lv → TgOk Y tg t) (hix : ∀ j ∈ t.ix, j ∈ own.map (·.2)) (hs : ∀ x, foldedSetIterable iter X.env x = pure x)
    (item : ∀ x, x ∈ xs → ∃ env2, bnd k t (en x) env = some env2 ∧ (∀ Y, Blk X scope Y → Ets Y env2 ifs (pd x)) ∧ (pd x = true → ∃ ke, heldOf ke (f x) = kz.k ∧ ∀ Y, Blk X scope Y → Ev Y env2 elt (f x) ke)) :
    Ec X env (.ListComp elt [⟨tg, iter, ifs, 0⟩] scope pos) (.lst ((xs.filter pd).map f)) kz.k.mk := by
  have ok' : BlkOk X.N X.env.scope scope own := by rw [A.eN]; exact A.eS.blk (blkOk_by ok)
  have nd : X.N.Nodup := by rw [A.eN]; exact S.nd
  refine ⟨ev_lc xs en pd f kz A.calm nd hi ok' hc (fun Y hY => ht Y (hY.at_ A)) hix hz hs item, fun hy hl hw so h => ss_cons ?_⟩
  exact s1_setLc xs en _ pd f kz A.calm nd hy hl hw hi ok' hc (fun Y hY => ht Y (hY.at_ A)) hix hz hs item so h
theorem lcP_ {α β : Type} {xs ys : List α} {en : α → D} (en2 : β → D) (own : List (Str × Nat)) (pd : α → Bool) (f : α → β) (kz : K2) (A : At X Γ N sc lv) (S : Sc N sc vl ll gl) (ok : blkC N sc scope own = true) (hi : EI X env tg iter (xs.map en) k fx) (h : lcG xs = some ys) (hc : Clear env (own.map (·.2)))
    (ht : ∀ Y, At Y Γ N scope lv → TgOk Y tg t) (hix : ∀ j ∈ t.ix, j ∈ own.map (·.2)) (hs : ∀ x, foldedSetIterable iter X.env x = pure x)
    (item : ∀ x, x ∈ xs → ∃ env2, bnd k t (en x) env = some env2 ∧ (∀ Y, At Y Γ N scope lv → Ets Y env2 ifs (pd x)) ∧ (pd x = true → ∃ ke, heldOf ke (en2 (f x)) = kz.k ∧ ∀ Y, At Y Γ N scope lv → Ev Y env2 elt (en2 (f x)) ke)) :
    Ec X env (.ListComp elt [⟨tg, iter, ifs, 0⟩] scope pos) (.lst (((ys.filter pd).map f).map en2)) kz.k.mk := by
  obtain ⟨h1, e⟩ := iteO h; subst e
  rw [List.map_map]
  exact ec_lc xs en pd (en2 ∘ f) kz A S ok hi (by rw [line_eq]; exact h1) hc ht hix hs fun x hx => by
    obtain ⟨env2, e1, e2, e3⟩ := item x hx
    exact ⟨env2, e1, fun Y hY => e2 Y (hY.at_ A), fun z => by
      obtain ⟨ke, w1, w2⟩ := e3 z
      exact ⟨ke, w1, fun Y hY => w2 Y (hY.at_ A)⟩⟩
theorem lcM_ {α β : Type} {xs ys : List α} {zs : List β} {en : α → D} (en2 : β → D) (own : List (Str × Nat)) {p : α → Option Bool} {f : α → Option β} (kz : K2) (A : At X Γ N sc lv) (S : Sc N sc vl ll gl) (ok : blkC N sc scope own = true) (hi : EI X env tg iter (xs.map en) k fx) (h : lcG xs = some ys) (hM : lcM p f ys = some zs) (hc : Clear env (own.map (·.2)))
    (ht : ∀ Y, At Y Γ N scope lv → TgOk Y tg t) (hix : ∀ j ∈ t.ix, j ∈ own.map (·.2)) (hs : ∀ x, foldedSetIterable iter X.env x = pure x)
    (item : ∀ x, x ∈ xs → ∃ env2, bnd k t (en x) env = some env2 ∧ (∀ b, p x = some b → ∀ Y, At Y Γ N scope lv → Ets Y env2 ifs b) ∧ ∀ y, p x = some true → f x = some y → ∃ ke, heldOf ke (en2 y) = kz.k ∧ ∀ Y, At Y Γ N scope lv → Ev Y env2 elt (en2 y) ke) :
    Ec X env (.ListComp elt [⟨tg, iter, ifs, 0⟩] scope pos) (.lst (zs.map en2)) kz.k.mk := by
  obtain ⟨h1, e⟩ := iteO h; subst e
  obtain ⟨pd, g, e, _, _, hi2⟩ := lcM_ok en2 hM
  rw [← e]
  exact ec_lc xs en pd g kz A S ok hi (by rw [line_eq]; exact h1) hc ht hix hs fun x hx => by
    obtain ⟨env2, e1, e2, e3⟩ := item x hx
    obtain ⟨p1, p2⟩ := hi2 x hx
    refine ⟨env2, e1, fun Y hY => e2 _ p1 Y (hY.at_ A), fun z => ?_⟩
    obtain ⟨y, y1, y2⟩ := p2 z
    obtain ⟨ke, w1, w2⟩ := e3 y (by rw [← z]; exact p1) y1
    rw [y2]
    exact ⟨ke, w1, fun Y hY => w2 Y (hY.at_ A)⟩
theorem swaps_at {sc' : Scope} {env : Env} {elt : Expr} {gens : List Comprehension} {pos py : Pos} {n : Str} {line : Nat} (hs : ScLe sc sc') (he : env.scope = sc') (hk : (sc.kind == .function) = true) (hl : (py.line == pos.line) = true) (hn : (scope.names.any fun (m, k) => m == n && (k == .local || k == .cell)) = false) (hc : (sc.names.lookup n == some .local) = true) :
    swapsWith (.ListComp elt gens scope pos) (some (.Name n py)) line env = pure true := by
  have hk' : env.scope.kind = .function := by rw [he, hs.kind]; exact eq_of_beq hk
  have hb : env.blockKind = .function := by unfold Env.blockKind; rw [hk']; rfl
  have hy : env.kindOf n = some .local := by unfold Env.kindOf; rw [he]; exact hs.local (eq_of_beq hc)
  have h1 : (env.blockKind == ScopeKind.function) = true := by rw [hb]; rfl
  have h2 : (env.kindOf n == some NameKind.local) = true := by rw [hy]; rfl
  show (pure (env.blockKind == ScopeKind.function && env.kindOf n == some NameKind.local && py.line == pos.line && !(scope.names.any fun (m, k) => m == n && (k == .local || k == .cell))) : Sem Bool) = pure true
  rw [h1, h2, hl, hn]; rfl
theorem swaps_not {sc' : Scope} {env : Env} {elt : Expr} {gens : List Comprehension} {pos py : Pos} {n : Str} {line : Nat} (hs : ScLe sc sc') (he : env.scope = sc') (hc : (sc.names.lookup n == some .cell) = true) :
    swapsWith (.ListComp elt gens scope pos) (some (.Name n py)) line env = pure false := by
  have hy : env.kindOf n = some .cell := by
    unfold Env.kindOf; rw [he]
    obtain ⟨k', e, r | ⟨r1, r2⟩⟩ := hs.lk n _ (eq_of_beq hc)
    · rw [e, r]
    · cases r1
  unfold swapsWith
  show (pure _ : Sem Bool) = pure false
  rw [hy]
  show (pure ((_ && false && _) && _) : Sem Bool) = pure false
  simp
theorem setLc_ {d : D} {kd : Kd} {s : Slot} {n : Str} {py spos : Pos} {gens : List Comprehension} (A : At X Γ N sc lv) (S : Sc N sc vl ll gl) (i : Nat) (hN : N[i]? = some n) (hl : (sc.names.lookup n == some .local) = true) (hk : (sc.kind == .function) = true) (hw : (py.line == pos.line) = true) (hn : (scope.names.any fun (m, k) => m == n && (k == .local || k == .cell)) = false) (he : Ec X env (.ListComp elt gens scope pos) d kd) (so : SlotOf kd d s)
    (h : SS X (env.set i (some s)) rest Φ) : SS X env (.Assign [.Name n py] (.ListComp elt gens scope pos) spos :: rest) Φ :=
  he.sto (by rw [A.eN]; exact hN) (A.eS.local (eq_of_beq hl)) (swaps_at A.eS rfl hk hw hn hl) so h
theorem setLcC_ {d : D} {kd : Kd} {s : Slot} {n : Str} {py spos : Pos} {gens : List Comprehension} (A : At X Γ N sc lv) (S : Sc N sc vl ll gl) (i : Nat) (hN : N[i]? = some n) (hl : (sc.names.lookup n == some .cell) = true) (hs : ll.contains i = true) (he : Ec X env (.ListComp elt gens scope pos) d kd) (so : SlotOf kd d s)
    (h : SS X (env.set i (some s)) rest Φ) : SS X env (.Assign [.Name n py] (.ListComp elt gens scope pos) spos :: rest) Φ :=
  set_ A S i hN hs he.ev so (swaps_not A.eS rfl hl) h
theorem Wk.set' {i : Nat} {x : Option Slot} : ∀ {a b : DEnv} {i : Nat}, Wk a b → Wk (a.set i x) (b.set i x)
  | [], [], _, h => trivial
  | _ :: _, _ :: _, 0, h => ⟨.inr rfl, h.2⟩
  | _ :: _, _ :: _, i + 1, h => ⟨h.1, Wk.set' (i := i) h.2⟩
  | [], _ :: _, _, h => h.elim
  | _ :: _, [], _, h => h.elim
mutual
theorem bnd_wk {k : K2} : ∀ {t : Tg} {d : D} {a b b' : DEnv}, Wk a b → bnd k t d b = some b' → ∃ a', bnd k t d a = some a' ∧ Wk a' b'
  | .nm i, d, a, b, b', w, h => by
    unfold bnd at h
    cases h
    exact ⟨_, by rw [bnd], Wk.set' (i := i) w⟩
  | .tp ts, .tup ds, a, b, b', w, h => by
    unfold bnd at h
    obtain ⟨a', e, w'⟩ := bnds_wk w h
    exact ⟨a', by rw [bnd]; exact e, w'⟩
  | .tp _, .non, _, _, _, _, h => nomatch h
  | .tp _, .bl _, _, _, _, _, h => nomatch h
  | .tp _, .int _, _, _, _, _, h => nomatch h
  | .tp _, .str _, _, _, _, _, h => nomatch h
  | .tp _, .lst _, _, _, _, _, h => nomatch h
  | .tp _, .dK _, _, _, _, _, h => nomatch h
  | .tp _, .dT _, _, _, _, _, h => nomatch h
  | .tp _, .obj _ _, _, _, _, _, h => nomatch h
  | .tp _, .scr _, _, _, _, _, h => nomatch h
theorem bnds_wk {k : K2} : ∀ {ts : List Tg} {ds : List D} {a b b' : DEnv}, Wk a b → bnds k ts ds b = some b' → ∃ a', bnds k ts ds a = some a' ∧ Wk a' b'
  | [], [], a, b, b', w, h => by
    unfold bnds at h
    cases h
    exact ⟨a, by rw [bnds], w⟩
  | t :: ts, d :: ds, a, b, b', w, h => by
    unfold bnds at h
    cases q : bnd k t d b with
    | none => rw [q] at h; cases h
    | some b1 =>
      rw [q] at h
      obtain ⟨a1, e1, w1⟩ := bnd_wk w q
      obtain ⟨a', e, w'⟩ := bnds_wk w1 h
      exact ⟨a', by rw [bnds, e1]; exact e, w'⟩
  | [], _ :: _, _, _, _, _, h => nomatch h
  | _ :: _, [], _, _, _, _, h => nomatch h
end
theorem forM_ {α S : Type} {xs : List α} (en : α → D) (E : S → DEnv) {step : S → α → Option S} {s0 s1 : S} (A : At X Γ N sc lv) (hi : EI X env tg iter (xs.map en) k true) (ht : TgOk X tg t) (hs : ∀ x, foldedSetIterable iter X.env x = pure x)
    (hM : xs.foldlM step s0 = some s1) (h0 : Wk env (E s0)) (hb : ∀ s x s', x ∈ xs → step s x = some s' → ∃ env2, bnd k t (en x) (E s) = some env2 ∧ SS X env2 body { nx := fun e => Wk e (E s'), ct := fun e => Wk e (E s'), rt := Φ.rt })
    (h : SS X (E s1) rest Φ) : SS X env (.For tg iter body [] pos :: rest) Φ := by
  have pre : ∀ i, i ≤ xs.length → ∃ s, (xs.take i).foldlM step s0 = some s := fun i hi => by
    rw [← List.take_append_drop i xs, List.foldlM_append] at hM
    obtain ⟨s, e, _⟩ := bindO hM
    exact ⟨s, e⟩
  refine ss_for A.pass A.calm hi ht hs (fun i e => ∃ s, (xs.take i).foldlM step s0 = some s ∧ Wk e (E s)) ⟨s0, rfl, h0⟩ (fun i d e1 hd ⟨s, hS, w⟩ => ?_) fun e1 ⟨s, hS, w⟩ => ?_
  · rw [List.getElem?_map] at hd
    obtain ⟨x, hx, e⟩ := Option.map_eq_some_iff.mp hd
    subst e
    have hlt := (List.getElem?_eq_some_iff.mp hx).1
    obtain ⟨s', hS'⟩ := pre (i + 1) hlt
    have hS2 := hS'
    rw [List.take_succ, hx, List.foldlM_append, hS] at hS2
    have hst : step s x = some s' := by
      have : ([x] : List α).foldlM step s = some s' := hS2
      rw [List.foldlM_cons, ] at this
      obtain ⟨s2, e1, e2⟩ := bindO this
      cases e2
      exact e1
    obtain ⟨env2, eb, hSS⟩ := hb s x s' (List.mem_of_getElem? hx) hst
    obtain ⟨env3, eb3, w3⟩ := bnd_wk w eb
    refine ⟨env3, eb3, ss_wk env2 w3 (hSS.imp (fun e w' => ⟨s', hS', w'⟩) (fun _ _ z => z) (fun _ z => z.elim) fun e w' => ⟨s', hS', w'⟩)⟩
  · rw [List.length_map, List.take_length] at hS
    rw [hM] at hS; cases hS
    exact ss_wk _ w h
end
end DL
namespace DL
open PySem PySem.Spec L2
open PyProof.Rows hiding St
section
variable {X : Cx} {Γ : Gd} {N : List Str} {sc scope : Scope} {lv lc : Nat} {vl ll : List Nat} {gl : List Str} {env : DEnv} {Φ : Outs} {rest body : List Stmt} {e a b c tg iter : Expr} {es : List Expr} {k : K2} {t : Tg} {pos p np apos cpos : Pos} {n : Str} {d : D} {ds dds : List D} {ka kk k1 k2 : Kd} {R : Rel}
theorem forR_ {α S Rt : Type} {xs : List α} (en : α → D) (E : S → DEnv) (RT : Rt → D → Kd → Prop) {step : S → α → Option (Ctl S Rt)} {s0 : S} {o : Ctl S Rt} (A : At X Γ N sc lv) (hi : EI X env tg iter (xs.map en) k true) (ht : TgOk X tg t) (hs : ∀ x, foldedSetIterable iter X.env x = pure x)
    (hM : loopM step s0 xs = some o) (h0 : Wk env (E s0))
    (hb : ∀ s x c, x ∈ xs → step s x = some c → ∃ env2, bnd k t (en x) (E s) = some env2 ∧ SS X env2 body { nx := fun e => ∃ s', c = .nx s' ∧ Wk e (E s'), ct := fun e => ∃ s', c = .nx s' ∧ Wk e (E s'), bk := fun e => ∃ s', c = .brk s' ∧ Wk e (E s'), rt := fun d k => ∃ r, c = .ret r ∧ RT r d k })
    (hR : ∀ r d k, o = .ret r → RT r d k → Φ.rt d k) (h : ∀ s1, o = .nx s1 → SS X (E s1) rest Φ) : SS X env (.For tg iter body [] pos :: rest) Φ := by
  refine ss_for A.pass A.calm hi ht hs (fun i e => ∃ s, loopM step s (xs.drop i) = some o ∧ Wk e (E s)) ⟨s0, hM, h0⟩ (fun i d e1 hd ⟨s, hS, w⟩ => ?_) fun e1 ⟨s, hS, w⟩ => ?_
  · rw [List.getElem?_map] at hd
    obtain ⟨x, hx, e⟩ := Option.map_eq_some_iff.mp hd
    subst e
    have hlt := (List.getElem?_eq_some_iff.mp hx).1
    have hx2 : xs[i] = x := (List.getElem?_eq_some_iff.mp hx).2
    rw [List.drop_eq_getElem_cons hlt, hx2] at hS
    unfold loopM at hS
    cases hst : step s x with
    | none => rw [hst] at hS; cases hS
    | some cc =>
      rw [hst] at hS
      obtain ⟨env2, eb, hSS⟩ := hb s x cc (List.mem_of_getElem? hx) hst
      obtain ⟨env3, eb3, w3⟩ := bnd_wk w eb
      refine ⟨env3, eb3, ss_wk env2 w3 (hSS.imp (fun e ⟨s', e1, w'⟩ => ?_) (fun d k ⟨r, e1, z⟩ => ?_) (fun e ⟨s', e1, w'⟩ => ?_) fun e ⟨s', e1, w'⟩ => ?_)⟩
      · subst e1; exact ⟨s', hS, w'⟩
      · subst e1; cases hS; exact hR r d k rfl z
      · subst e1; cases hS; exact ss_wk _ w' (h s' rfl)
      · subst e1; exact ⟨s', hS, w'⟩
  · rw [List.length_map, List.drop_length] at hS
    cases hS
    exact ss_wk _ w (h s rfl)
theorem EnvE.wk {K : PySem.W.Frag} {F B H : Hp} {env' : DEnv} {σ : St} (E : EnvE K F B H env σ) (w : Wk env env') : EnvE K F B H env' σ :=
  ⟨E.hs, by rw [← w.len]; exact E.len, fun i s h => E.at_ i s (w.get h)⟩
theorem Et.wk {env' : DEnv} {b : Bool} (h : Et X env' c b) (w : Wk env env') : Et X env c b := ⟨h.pt.mono fun σ H Q ⟨F, B, E, q⟩ => ⟨F, B, E.wk w, q⟩⟩
theorem whileR_ {S Rt : Type} (E : S → DEnv) (RT : Rt → D → Kd → Prop) {cM : S → Option Bool} {step : S → Option (Ctl S Rt)} {n : Nat} {s0 : S} {o : Ctl S Rt} (A : At X Γ N sc lv) (hM : whileM cM step n s0 = some o) (h0 : Wk env (E s0))
    (hc : ∀ s b, cM s = some b → Et X (E s) c b)
    (hb : ∀ s c, cM s = some true → step s = some c → SS X (E s) body { nx := fun e => ∃ s', c = .nx s' ∧ Wk e (E s'), ct := fun e => ∃ s', c = .nx s' ∧ Wk e (E s'), bk := fun e => ∃ s', c = .brk s' ∧ Wk e (E s'), rt := fun d k => ∃ r, c = .ret r ∧ RT r d k })
    (hR : ∀ r d k, o = .ret r → RT r d k → Φ.rt d k) (h : ∀ s1, o = .nx s1 → SS X (E s1) rest Φ) : SS X env (.While c body [] pos :: rest) Φ := by
  refine ss_while A.pass (fun m e => ∃ s, whileM cM step m s = some o ∧ Wk e (E s)) n ⟨s0, hM, h0⟩ fun m e1 ⟨s, hS, w⟩ => ?_
  cases m with
  | zero => cases hS
  | succ m =>
    unfold whileM at hS
    obtain ⟨b, hb1, hS⟩ := bindO hS
    refine ⟨b, (hc s b hb1).wk w, fun z => ?_, fun z => ?_⟩
    · subst z
      rw [if_pos rfl] at hS
      cases hst : step s with
      | none => rw [hst] at hS; cases hS
      | some cc =>
        rw [hst] at hS
        refine ss_wk _ w ((hb s cc hb1 hst).imp (fun e ⟨s', e1, w'⟩ => ?_) (fun d k ⟨r, e1, z⟩ => ?_) (fun e ⟨s', e1, w'⟩ => ?_) fun e ⟨s', e1, w'⟩ => ?_)
        · subst e1; exact ⟨m, Nat.lt_succ_self _, s', hS, w'⟩
        · subst e1; cases hS; exact hR r d k rfl z
        · subst e1; cases hS; exact ss_wk _ w' (h s' rfl)
        · subst e1; exact ⟨m, Nat.lt_succ_self _, s', hS, w'⟩
    · subst z
      rw [if_neg Bool.false_ne_true] at hS
      cases hS
      exact ss_wk _ w (h s rfl)
structure Cal (Γ : Gd) (n : Str) (R : Rel) (lc : Nat) (dds : List D) : Prop where
  ex : ∃ f fd ps dvs dus, FnOk Γ.P Γ.w Γ.K Γ.mg Γ.base CX0 lc f fd ps (FnSp Γ.K R) ∧ Γ.mg n = some (.ref f) ∧ PySem.W.keepIn Γ.K (.ref f) = true ∧ Binds Γ.K fd ps dus ∧ Vals dvs dus ∧ ∀ B : Hp, Reps Γ.K B dds dvs
theorem Cal.ev (C : Cal Γ n R lc dds) (A : At X Γ N sc lv) (S : Sc N sc vl ll gl) (j : Nat) (hg : gl[j]? = some n) (hl : lc ≤ lv) (ha : EA X env (e :: es) ds ka) (hk : ka = .cln ∨ ka = .brw ∨ ka = .drt) (hkr : kk = .own ∨ kk = .cln ∨ kk = .brw)
    (he : starEach (e :: es) X.env = (false, eval e X.env) :: starEach es X.env) (hpl : (backTo pos (starEach es X.env)).any (·.1) = false) (hR : R (ds ++ dds) d kk) : Ev X env (.Call (.Name n p) (e :: es) [] pos) d (retK ka kk) := by
  obtain ⟨f, fd, ps, dvs, dus, h1, h2, h3, h4, h5, h6⟩ := C.ex
  have eP := A.eP; have eW := A.eW; have eK := A.eK; have eM := A.eM; have eB := A.eB
  rw [← eP, ← eW, ← eK, ← eM, ← eB] at h1
  rw [← eM] at h2
  rw [← eK] at h3 h4 h6
  exact ev_call h1 (A.room.mono hl) (glo A S j hg) h2 h3 h4 h5 h6 ha hR hk hkr (plainB_ok (S.glo hg).2).1 he hpl
theorem Cal.mk' {P : Program} {w : World} {K : PySem.W.Frag} {mg : Str → Option Value} {base : Heap} {x qual : Str} {params : Arguments} {body : List Stmt} {scope : Scope} {dvs : List V} {dus : List Value} {kdv : List V} {kws : List (Str × V)} {f : Addr} {fd : FuncData} {N ps : List Str} {lv : Nat} {R : Rel} {dds : List D}
    (Fd : FunD K x qual params body scope kdv kws f fd) (hm : mg n = some (.ref f)) (bd : Binds K fd ps dus) (hv : Vals dvs dus) (hd : ∀ B : Hp, Reps K B dds dvs) (S : FnScope N ps scope) (hl : ∀ ds d k, R ds d k → ds.length = ps.length) (hn : ps.length ≤ N.length)
    (hb : ∀ X : Cx, At X ⟨P, w, K, mg, base⟩ N scope lv → ∀ ds d k, R ds d k → SS X (env0 N.length ds) body { rt := fun d' k' => d' = d ∧ Fits k' k d, nx := fun _ => d = .non ∧ k = .cln }) : Cal ⟨P, w, K, mg, base⟩ n R (lv + 1) dds :=
  ⟨f, fd, ps, dvs, dus, def_ok Fd S hl hn fun X c => hb X c.at_, hm, Fd.kp, bd, hv, hd⟩
theorem app_ {α : Type} {en : α → D} {xs ys : List α} {x : α} (A : At X Γ N sc lv) (S : Sc N sc vl ll gl) (i : Nat) (hN : N[i]? = some n) (hv : vl.contains i = true) (he : env[i]? = some (some (.own (.lst (xs.map en))))) (ha : Ev X env e (en x) k1) (hk : heldOf k1 (en x) = .cln) (hG : appG xs x = some ys)
    (mx : Mx X (.Name n np) "append" [e] apos cpos) (hs : starEach [e] X.env = [(false, eval e X.env)]) (hsw : swapsWith (.Call (.Attribute (.Name n np) "append" apos) [e] [] cpos) none pos.line X.env = pure false)
    (h : SS X (env.set i (some (.own (.lst (ys.map en))))) rest Φ) : SS X env (.Expr (.Call (.Attribute (.Name n np) "append" apos) [e] [] cpos) pos :: rest) Φ := by
  obtain ⟨h1, e⟩ := iteO hG; subst e
  rw [List.map_append] at h
  exact append_ A S i hN hv he ha hk (by rw [List.length_map, line_eq]; exact h1) mx hs hsw h
theorem setL_ {α : Type} {en : α → D} {xs ys : List α} {x : α} {ap : Pos} {j : Int} (A : At X Γ N sc lv) (S : Sc N sc vl ll gl) (i : Nat) (hN : N[i]? = some n) (hv : vl.contains i = true) (he : env[i]? = some (some (.own (.lst (xs.map en))))) (ha : Ev X env e (en x) k1) (hk : heldOf k1 (en x) = .cln) (hb : Ev X env b (.int j) k2) (hG : setG xs j x = some ys)
    (hsub : ∀ v, assign (.Subscript (.Name n np) b ap) X.env v = (do
      let ov ← holding [v] (eval (.Name n np) X.env)
      let iv ← holding [v, ov] (eval b X.env)
      standAt ap
      holding [v, ov, iv] (setItem ov iv v)
      release [v, ov, iv] []))
    (hs : swapsWithSole [.Subscript (.Name n np) b ap] e pos.line X.env = pure false) (hw : swappedStores [.Subscript (.Name n np) b ap] e X.env = pure none)
    (h1 : (assignEach [.Subscript (.Name n np) b ap] X.env).map (·.2) = [assign (.Subscript (.Name n np) b ap) X.env])
    (h : SS X (env.set i (some (.own (.lst (ys.map en))))) rest Φ) : SS X env (.Assign [.Subscript (.Name n np) b ap] e pos :: rest) Φ := by
  obtain ⟨v1, v2⟩ := S.vis hv hN
  obtain ⟨p1, p2, _⟩ := plainB_ok v2
  unfold setG at hG
  cases q : ixN xs.length j with
  | none => rw [q] at hG; cases hG
  | some m =>
    rw [q] at hG
    cases hG
    rw [List.map_set] at h
    exact ss_cons (s1_setL i (by rw [A.eN]; exact hN) (A.eS.vis v1) he ha hk hb (by rw [List.length_map]; exact q) hsub hs hw h1 p1 p2 h)
theorem rev_ {α : Type} {en : α → D} {xs : List α} (A : At X Γ N sc lv) (S : Sc N sc vl ll gl) (i : Nat) (hN : N[i]? = some n) (hv : vl.contains i = true) (he : env[i]? = some (some (.own (.lst (xs.map en)))))
    (hb : attributeBase (.Name n np) "reverse" X.env (eval (.Name n np) X.env) = eval (.Name n np) X.env) (hl : (apos.endLine == cpos.line) = true) (hsw : swapsWith (.Call (.Attribute (.Name n np) "reverse" apos) [] [] cpos) none pos.line X.env = pure false)
    (h : SS X (env.set i (some (.own (.lst (xs.reverse.map en))))) rest Φ) : SS X env (.Expr (.Call (.Attribute (.Name n np) "reverse" apos) [] [] cpos) pos :: rest) Φ := by
  obtain ⟨v1, v2⟩ := S.vis hv hN
  obtain ⟨p1, p2, _⟩ := plainB_ok v2
  rw [List.map_reverse] at h
  exact ss_cons (s1_reverse i (by rw [A.eN]; exact hN) (A.eS.vis v1) he hb hl hsw p1 p2 h)
theorem asg_ {env' : DEnv} {kz : K2} (he : Ev X env e d kz.k) (ht : TgOk X tg t) (hb : bnd kz t d env = some env') (hs : swapsWithSole [tg] e pos.line X.env = pure false) (hw : swappedStores [tg] e X.env = pure none)
    (h1 : (assignEach [tg] X.env).map (·.2) = [assign tg X.env]) (h : SS X env' rest Φ) : SS X env (.Assign [tg] e pos :: rest) Φ := ss_cons (s1_asg he ht hb hs hw h1 h)
end
section
variable {X : Cx} {Γ : Gd} {N : List Str} {sc : Scope} {lv : Nat} {vl ll : List Nat} {gl : List Str} {env : DEnv} {n : Str} {d : D} {pos : Pos}
theorem nmO (A : At X Γ N sc lv) (S : Sc N sc vl ll gl) (i : Nat) (hN : N[i]? = some n) (hv : vl.contains i = true) (he : env[i]? = some (some (.own d))) : Ev X env (.Name n pos) d .shl := nm A S i hN hv he
theorem nmF (A : At X Γ N sc lv) (S : Sc N sc vl ll gl) (i : Nat) (hN : N[i]? = some n) (hv : vl.contains i = true) (he : env[i]? = some (some (.frz d))) : Ev X env (.Name n pos) d .cln := nm A S i hN hv he
theorem nmB (A : At X Γ N sc lv) (S : Sc N sc vl ll gl) (i : Nat) (hN : N[i]? = some n) (hv : vl.contains i = true) (he : env[i]? = some (some (.bor d))) : Ev X env (.Name n pos) d .brw := nm A S i hN hv he
end
end DL
namespace DL
open PySem PySem.Spec L2
open PyProof.Rows hiding St
inductive Nd where
  | s (x : Stmt) | e (x : Expr)
def compKids (c : Comprehension) : List Nd := Nd.e c.target :: Nd.e c.iter :: c.ifs.map Nd.e
def optKid : Option Expr → List Nd
  | some e => [.e e] | none => []
def Nd.kids : Nd → List Nd
  | .s (.FunctionDef _ _ b _ _ _ _ _ _ _) => b.map .s
  | .s (.ClassDef _ _ _ b _ _ _ _ _ _ _) => b.map .s
  | .s (.Return v _) => optKid v
  | .s (.Assign ts v _) => ts.map .e ++ [.e v]
  | .s (.AugAssign t _ v _) => [.e t, .e v]
  | .s (.For t i b o _) => .e t :: .e i :: (b.map .s ++ o.map .s)
  | .s (.While t b o _) => .e t :: (b.map .s ++ o.map .s)
  | .s (.If t b o _) => .e t :: (b.map .s ++ o.map .s)
  | .s (.Raise x _ _) => optKid x
  | .s (.Try b _ o f _) => b.map .s ++ o.map .s ++ f.map .s
  | .s (.Expr x _) => [.e x]
  | .e (.BoolOp _ vs _) => vs.map .e
  | .e (.BinOp a _ b _) => [.e a, .e b]
  | .e (.UnaryOp _ a _) => [.e a]
  | .e (.IfExp a b c _) => [.e a, .e b, .e c]
  | .e (.Dict ks vs _) => (ks.filterMap id).map .e ++ vs.map .e
  | .e (.ListComp x cs _ _) => .e x :: cs.flatMap compKids
  | .e (.SetComp x cs _ _) => .e x :: cs.flatMap compKids
  | .e (.GeneratorExp x cs _ _) => .e x :: cs.flatMap compKids
  | .e (.DictComp k v cs _ _) => .e k :: .e v :: cs.flatMap compKids
  | .e (.Compare a _ bs _) => .e a :: bs.map .e
  | .e (.Call f as ks _) => .e f :: (as.map .e ++ ks.map fun k => .e k.value)
  | .e (.Attribute a _ _) => [.e a]
  | .e (.Subscript a b _) => [.e a, .e b]
  | .e (.Starred a _) => [.e a]
  | .e (.List es _) => es.map .e
  | .e (.Tuple es _ _) => es.map .e
  | .e (.Slice a b c _) => optKid a ++ (optKid b ++ optKid c)
  | _ => []
def Nd.go : Nd → List Nat → Nd
  | n, [] => n
  | n, i :: is => (n.kids.getD i (.e (.Constant .none 0 ⟨0, 0, 0, 0⟩))).go is
def Nd.scope : Nd → Scope
  | .e (.ListComp _ _ sc _) => sc
  | .e (.SetComp _ _ sc _) => sc
  | .e (.DictComp _ _ _ sc _) => sc
  | .e (.GeneratorExp _ _ sc _) => sc
  | .e (.Lambda _ _ sc _) => sc
  | _ => ⟨.function, [], false, false, []⟩
def compScope (s : Stmt) (is : List Nat) : Scope := ((Nd.s s).go is).scope
theorem bt_len : bootBuiltins "len" = some (.builtin "len") := by decide +kernel
theorem bt_abs : bootBuiltins "abs" = some (.builtin "abs") := by decide +kernel
theorem bt_max : bootBuiltins "max" = some (.builtin "max") := by decide +kernel
theorem bt_min : bootBuiltins "min" = some (.builtin "min") := by decide +kernel
theorem bt_sum : bootBuiltins "sum" = some (.builtin "sum") := by decide +kernel
theorem bt_all : bootBuiltins "all" = some (.builtin "all") := by decide +kernel
theorem bt_any : bootBuiltins "any" = some (.builtin "any") := by decide +kernel
theorem bt_sorted : bootBuiltins "sorted" = some (.builtin "sorted") := by decide +kernel
theorem bt_isinstance : bootBuiltins "isinstance" = some (.builtin "isinstance") := by decide +kernel
theorem bt_int : bootBuiltins "int" = some (.type "int") := by decide +kernel
theorem bt_str : bootBuiltins "str" = some (.type "str") := by decide +kernel
theorem bt_bool : bootBuiltins "bool" = some (.type "bool") := by decide +kernel
theorem bt_list : bootBuiltins "list" = some (.type "list") := by decide +kernel
theorem bt_tuple : bootBuiltins "tuple" = some (.type "tuple") := by decide +kernel
theorem bt_dict : bootBuiltins "dict" = some (.type "dict") := by decide +kernel
theorem bt_set : bootBuiltins "set" = some (.type "set") := by decide +kernel
theorem bt_enumerate : bootBuiltins "enumerate" = some (.type "enumerate") := by decide +kernel
theorem bt_zip : bootBuiltins "zip" = some (.type "zip") := by decide +kernel
theorem wk0 : Wk [] [] := trivial
theorem wkn {a : Option Slot} {r s : DEnv} (h : Wk r s) : Wk (a :: r) (none :: s) := ⟨.inl rfl, h⟩
theorem wkr {a : Option Slot} {r s : DEnv} (h : Wk r s) : Wk (a :: r) (a :: s) := ⟨.inr rfl, h⟩
theorem le_line {n : Nat} (h : Nat.ble n 4096 = true) : n ≤ sizeLine := by rw [line_eq]; exact Nat.le_trans (Nat.le_of_ble_eq_true h) (by decide)
section
variable {X : Cx} {env : DEnv} {Φ : Outs} {rest : List Stmt} {e a b : Expr} {d : D} {k k1 k2 : Kd} {pos : Pos} {s t : Str} {i : Int} {x y : D} {p : Bool}
theorem s1_ex (he : Ev X env e d k) (hs : swapsWith e none pos.line X.env = pure false) (h : Φ.nx env) : S1 X env (.Expr e pos) Φ :=
  ⟨(ps_expr he.pe hs).mono fun Dd σ H ⟨F, B, G, E, P⟩ => ⟨F, B, E.e, fun v H' F' B' g r => P.nx _ _ _ F' B' (g.gs E.gh) (E.grow g) h⟩⟩
theorem ss_ex (he : Ev X env e d k) (hs : swapsWith e none pos.line X.env = pure false) (h : SS X env rest Φ) : SS X env (.Expr e pos :: rest) Φ := ss_cons (s1_ex he hs h)
theorem flat_ints : ∀ ns : List Int, (ns.map V.int).all flatV = true
  | [] => rfl
  | _ :: ns => flat_ints ns
theorem flat_strs : ∀ ns : List Str, (ns.map V.str).all flatV = true
  | [] => rfl
  | _ :: ns => flat_strs ns
theorem inV_ints (i : Int) : ∀ ns : List Int, inV (.int i) (ns.map V.int) = decide (i ∈ ns)
  | [] => by simp [inV]
  | n :: ns => by
    have h := inV_ints i ns
    unfold inV at h ⊢
    rw [List.map_cons, List.any_cons, h]
    show (decide (n = i) || _) = _
    by_cases e : n = i
    · simp [e]
    · simp [e, Ne.symm e]
theorem inV_strs (i : Str) : ∀ ns : List Str, inV (.str i) (ns.map V.str) = decide (i ∈ ns)
  | [] => by simp [inV]
  | n :: ns => by
    have h := inV_strs i ns
    unfold inV at h ⊢
    rw [List.map_cons, List.any_cons, h]
    show (decide (n = i) || _) = _
    by_cases e : n = i
    · simp [e]
    · simp [e, Ne.symm e]
def inStr (s t : Str) : Bool := !(Builtin.Str.occurrences t s 0 t.length 1).isEmpty
def eqG (x y : D) : Option Bool := if x.pyo && (y.pyo && (decide (x.py.depth ≤ 64) && decide (y.py.depth ≤ 64))) then some (PyData.eqv x.py y.py) else none
theorem eqG_ok (h : eqG x y = some p) : x.pyo = true ∧ y.pyo = true ∧ x.shal ∧ y.shal ∧ PyData.eqv x.py y.py = p := by
  obtain ⟨h1, e⟩ := iteO h
  simp only [Bool.and_eq_true, decide_eq_true_eq] at h1
  exact ⟨h1.1, h1.2.1, h1.2.2.1, h1.2.2.2, e⟩
theorem ev_inLI {i : Int} {ns : List Int} (ha : Ev X env a (.int i) k1) (hb : Ev X env b (.lst (ns.map D.int)) k2) (hm : behindInMarks .In b = false := by rfl) : Ev X env (.Compare a [.In] [b] pos) (.bl (decide (i ∈ ns))) .cln :=
  ev_cmp2 op_in_seq ha hb hm fun F B H v u Q hs r1 r2 q => by
    obtain ⟨p, vs, rfl, h1, r⟩ := r2.lst hs
    obtain rfl := reps_ints (r.reps hs)
    rw [r1.int hs]
    exact ⟨p, _, rfl, .inl (SqL.of h1), rfl, flat_ints _, by rw [inV_ints]; exact fin_bl hs q⟩
theorem ev_inLS {i : Str} {ns : List Str} (ha : Ev X env a (.str i) k1) (hb : Ev X env b (.lst (ns.map D.str)) k2) (hm : behindInMarks .In b = false := by rfl) : Ev X env (.Compare a [.In] [b] pos) (.bl (decide (i ∈ ns))) .cln :=
  ev_cmp2 op_in_seq ha hb hm fun F B H v u Q hs r1 r2 q => by
    obtain ⟨p, vs, rfl, h1, r⟩ := r2.lst hs
    obtain rfl := reps_strs (r.reps hs)
    rw [r1.str hs]
    exact ⟨p, _, rfl, .inl (SqL.of h1), rfl, flat_strs _, by rw [inV_strs]; exact fin_bl hs q⟩
theorem ev_inTI {i : Int} {ns : List Int} (ha : Ev X env a (.int i) k1) (hb : Ev X env b (.tup (ns.map D.int)) k2) (hm : behindInMarks .In b = false := by rfl) : Ev X env (.Compare a [.In] [b] pos) (.bl (decide (i ∈ ns))) .cln :=
  ev_cmp2 op_in_seq ha hb hm fun F B H v u Q hs r1 r2 q => by
    obtain ⟨p, vs, rfl, h1, r⟩ := r2.tup hs
    obtain rfl := reps_ints (r.reps hs)
    rw [r1.int hs]
    exact ⟨p, _, rfl, .inr h1, rfl, flat_ints _, by rw [inV_ints]; exact fin_bl hs q⟩
theorem ev_inTS {i : Str} {ns : List Str} (ha : Ev X env a (.str i) k1) (hb : Ev X env b (.tup (ns.map D.str)) k2) (hm : behindInMarks .In b = false := by rfl) : Ev X env (.Compare a [.In] [b] pos) (.bl (decide (i ∈ ns))) .cln :=
  ev_cmp2 op_in_seq ha hb hm fun F B H v u Q hs r1 r2 q => by
    obtain ⟨p, vs, rfl, h1, r⟩ := r2.tup hs
    obtain rfl := reps_strs (r.reps hs)
    rw [r1.str hs]
    exact ⟨p, _, rfl, .inr h1, rfl, flat_strs _, by rw [inV_strs]; exact fin_bl hs q⟩
theorem ev_inStr (ha : Ev X env a (.str s) k1) (hb : Ev X env b (.str t) k2) (hm : behindInMarks .In b = false := by rfl) : Ev X env (.Compare a [.In] [b] pos) (.bl (inStr s t)) .cln :=
  ev_cmp2 op_in_str ha hb hm fun F B H v u Q hs r1 r2 q => ⟨s, t, r1.str hs, r2.str hs, fin_bl hs q⟩
theorem ev_eqG (hu : X.A.units + 64 < cLine) (ha : Ev X env a x k1) (hb : Ev X env b y k2) (h : eqG x y = some p) : Ev X env (.Compare a [.Eq] [b] pos) (.bl p) .cln := by
  obtain ⟨h1, h2, h3, h4, h5⟩ := eqG_ok h
  exact ev_eqD hu ha hb h1 h2 h3 h4 h5
theorem ev_neG (hu : X.A.units + 64 < cLine) (ha : Ev X env a x k1) (hb : Ev X env b y k2) (h : eqG x y = some p) : Ev X env (.Compare a [.NotEq] [b] pos) (.bl (!p)) .cln := by
  obtain ⟨h1, h2, h3, h4, h5⟩ := eqG_ok h
  exact ev_neD hu ha hb h1 h2 h3 h4 h5
theorem ev_ninLI {i : Int} {ns : List Int} (ha : Ev X env a (.int i) k1) (hb : Ev X env b (.lst (ns.map D.int)) k2) (hm : behindInMarks .NotIn b = false := by rfl) : Ev X env (.Compare a [.NotIn] [b] pos) (.bl ((!decide (i ∈ ns)))) .cln :=
  ev_cmp2 op_notIn_seq ha hb hm fun F B H v u Q hs r1 r2 q => by
    obtain ⟨p, vs, rfl, h1, r⟩ := r2.lst hs
    obtain rfl := reps_ints (r.reps hs)
    rw [r1.int hs]
    exact ⟨p, _, rfl, .inl (SqL.of h1), rfl, flat_ints _, by rw [inV_ints]; exact fin_bl hs q⟩
theorem ev_ninLS {i : Str} {ns : List Str} (ha : Ev X env a (.str i) k1) (hb : Ev X env b (.lst (ns.map D.str)) k2) (hm : behindInMarks .NotIn b = false := by rfl) : Ev X env (.Compare a [.NotIn] [b] pos) (.bl ((!decide (i ∈ ns)))) .cln :=
  ev_cmp2 op_notIn_seq ha hb hm fun F B H v u Q hs r1 r2 q => by
    obtain ⟨p, vs, rfl, h1, r⟩ := r2.lst hs
    obtain rfl := reps_strs (r.reps hs)
    rw [r1.str hs]
    exact ⟨p, _, rfl, .inl (SqL.of h1), rfl, flat_strs _, by rw [inV_strs]; exact fin_bl hs q⟩
theorem ev_ninTI {i : Int} {ns : List Int} (ha : Ev X env a (.int i) k1) (hb : Ev X env b (.tup (ns.map D.int)) k2) (hm : behindInMarks .NotIn b = false := by rfl) : Ev X env (.Compare a [.NotIn] [b] pos) (.bl ((!decide (i ∈ ns)))) .cln :=
  ev_cmp2 op_notIn_seq ha hb hm fun F B H v u Q hs r1 r2 q => by
    obtain ⟨p, vs, rfl, h1, r⟩ := r2.tup hs
    obtain rfl := reps_ints (r.reps hs)
    rw [r1.int hs]
    exact ⟨p, _, rfl, .inr h1, rfl, flat_ints _, by rw [inV_ints]; exact fin_bl hs q⟩
theorem ev_ninTS {i : Str} {ns : List Str} (ha : Ev X env a (.str i) k1) (hb : Ev X env b (.tup (ns.map D.str)) k2) (hm : behindInMarks .NotIn b = false := by rfl) : Ev X env (.Compare a [.NotIn] [b] pos) (.bl ((!decide (i ∈ ns)))) .cln :=
  ev_cmp2 op_notIn_seq ha hb hm fun F B H v u Q hs r1 r2 q => by
    obtain ⟨p, vs, rfl, h1, r⟩ := r2.tup hs
    obtain rfl := reps_strs (r.reps hs)
    rw [r1.str hs]
    exact ⟨p, _, rfl, .inr h1, rfl, flat_strs _, by rw [inV_strs]; exact fin_bl hs q⟩
theorem ev_ninStr (ha : Ev X env a (.str s) k1) (hb : Ev X env b (.str t) k2) (hm : behindInMarks .NotIn b = false := by rfl) : Ev X env (.Compare a [.NotIn] [b] pos) (.bl ((!inStr s t))) .cln :=
  ev_cmp2 op_notin_str ha hb hm fun F B H v u Q hs r1 r2 q => ⟨s, t, r1.str hs, r2.str hs, fin_bl hs q⟩
theorem et_inLI {i : Int} {ns : List Int} (ha : Ev X env a (.int i) k1) (hb : Ev X env b (.lst (ns.map D.int)) k2) (hm : behindInMarks .In b = false := by rfl) : Et X env (.Compare a [.In] [b] pos) (decide (i ∈ ns)) :=
  et_cmp2 op_in_seq ha hb hm fun F B H v u Q hs r1 r2 q => by
    obtain ⟨p, vs, rfl, h1, r⟩ := r2.lst hs
    obtain rfl := reps_ints (r.reps hs)
    rw [r1.int hs]
    exact ⟨p, _, rfl, .inl (SqL.of h1), rfl, flat_ints _, by rw [inV_ints]; exact fin_bl hs q⟩
theorem et_inLS {i : Str} {ns : List Str} (ha : Ev X env a (.str i) k1) (hb : Ev X env b (.lst (ns.map D.str)) k2) (hm : behindInMarks .In b = false := by rfl) : Et X env (.Compare a [.In] [b] pos) (decide (i ∈ ns)) :=
  et_cmp2 op_in_seq ha hb hm fun F B H v u Q hs r1 r2 q => by
    obtain ⟨p, vs, rfl, h1, r⟩ := r2.lst hs
    obtain rfl := reps_strs (r.reps hs)
    rw [r1.str hs]
    exact ⟨p, _, rfl, .inl (SqL.of h1), rfl, flat_strs _, by rw [inV_strs]; exact fin_bl hs q⟩
theorem et_inTI {i : Int} {ns : List Int} (ha : Ev X env a (.int i) k1) (hb : Ev X env b (.tup (ns.map D.int)) k2) (hm : behindInMarks .In b = false := by rfl) : Et X env (.Compare a [.In] [b] pos) (decide (i ∈ ns)) :=
  et_cmp2 op_in_seq ha hb hm fun F B H v u Q hs r1 r2 q => by
    obtain ⟨p, vs, rfl, h1, r⟩ := r2.tup hs
    obtain rfl := reps_ints (r.reps hs)
    rw [r1.int hs]
    exact ⟨p, _, rfl, .inr h1, rfl, flat_ints _, by rw [inV_ints]; exact fin_bl hs q⟩
theorem et_inTS {i : Str} {ns : List Str} (ha : Ev X env a (.str i) k1) (hb : Ev X env b (.tup (ns.map D.str)) k2) (hm : behindInMarks .In b = false := by rfl) : Et X env (.Compare a [.In] [b] pos) (decide (i ∈ ns)) :=
  et_cmp2 op_in_seq ha hb hm fun F B H v u Q hs r1 r2 q => by
    obtain ⟨p, vs, rfl, h1, r⟩ := r2.tup hs
    obtain rfl := reps_strs (r.reps hs)
    rw [r1.str hs]
    exact ⟨p, _, rfl, .inr h1, rfl, flat_strs _, by rw [inV_strs]; exact fin_bl hs q⟩
theorem et_inStr (ha : Ev X env a (.str s) k1) (hb : Ev X env b (.str t) k2) (hm : behindInMarks .In b = false := by rfl) : Et X env (.Compare a [.In] [b] pos) (inStr s t) :=
  et_cmp2 op_in_str ha hb hm fun F B H v u Q hs r1 r2 q => ⟨s, t, r1.str hs, r2.str hs, fin_bl hs q⟩
theorem et_eqG (hu : X.A.units + 64 < cLine) (ha : Ev X env a x k1) (hb : Ev X env b y k2) (h : eqG x y = some p) : Et X env (.Compare a [.Eq] [b] pos) p := by
  obtain ⟨h1, h2, h3, h4, h5⟩ := eqG_ok h
  exact et_eqD hu ha hb h1 h2 h3 h4 h5
theorem et_neG (hu : X.A.units + 64 < cLine) (ha : Ev X env a x k1) (hb : Ev X env b y k2) (h : eqG x y = some p) : Et X env (.Compare a [.NotEq] [b] pos) (!p) := by
  obtain ⟨h1, h2, h3, h4, h5⟩ := eqG_ok h
  exact et_neD hu ha hb h1 h2 h3 h4 h5
theorem et_ninLI {i : Int} {ns : List Int} (ha : Ev X env a (.int i) k1) (hb : Ev X env b (.lst (ns.map D.int)) k2) (hm : behindInMarks .NotIn b = false := by rfl) : Et X env (.Compare a [.NotIn] [b] pos) ((!decide (i ∈ ns))) :=
  et_cmp2 op_notIn_seq ha hb hm fun F B H v u Q hs r1 r2 q => by
    obtain ⟨p, vs, rfl, h1, r⟩ := r2.lst hs
    obtain rfl := reps_ints (r.reps hs)
    rw [r1.int hs]
    exact ⟨p, _, rfl, .inl (SqL.of h1), rfl, flat_ints _, by rw [inV_ints]; exact fin_bl hs q⟩
theorem et_ninLS {i : Str} {ns : List Str} (ha : Ev X env a (.str i) k1) (hb : Ev X env b (.lst (ns.map D.str)) k2) (hm : behindInMarks .NotIn b = false := by rfl) : Et X env (.Compare a [.NotIn] [b] pos) ((!decide (i ∈ ns))) :=
  et_cmp2 op_notIn_seq ha hb hm fun F B H v u Q hs r1 r2 q => by
    obtain ⟨p, vs, rfl, h1, r⟩ := r2.lst hs
    obtain rfl := reps_strs (r.reps hs)
    rw [r1.str hs]
    exact ⟨p, _, rfl, .inl (SqL.of h1), rfl, flat_strs _, by rw [inV_strs]; exact fin_bl hs q⟩
theorem et_ninTI {i : Int} {ns : List Int} (ha : Ev X env a (.int i) k1) (hb : Ev X env b (.tup (ns.map D.int)) k2) (hm : behindInMarks .NotIn b = false := by rfl) : Et X env (.Compare a [.NotIn] [b] pos) ((!decide (i ∈ ns))) :=
  et_cmp2 op_notIn_seq ha hb hm fun F B H v u Q hs r1 r2 q => by
    obtain ⟨p, vs, rfl, h1, r⟩ := r2.tup hs
    obtain rfl := reps_ints (r.reps hs)
    rw [r1.int hs]
    exact ⟨p, _, rfl, .inr h1, rfl, flat_ints _, by rw [inV_ints]; exact fin_bl hs q⟩
theorem et_ninTS {i : Str} {ns : List Str} (ha : Ev X env a (.str i) k1) (hb : Ev X env b (.tup (ns.map D.str)) k2) (hm : behindInMarks .NotIn b = false := by rfl) : Et X env (.Compare a [.NotIn] [b] pos) ((!decide (i ∈ ns))) :=
  et_cmp2 op_notIn_seq ha hb hm fun F B H v u Q hs r1 r2 q => by
    obtain ⟨p, vs, rfl, h1, r⟩ := r2.tup hs
    obtain rfl := reps_strs (r.reps hs)
    rw [r1.str hs]
    exact ⟨p, _, rfl, .inr h1, rfl, flat_strs _, by rw [inV_strs]; exact fin_bl hs q⟩
theorem et_ninStr (ha : Ev X env a (.str s) k1) (hb : Ev X env b (.str t) k2) (hm : behindInMarks .NotIn b = false := by rfl) : Et X env (.Compare a [.NotIn] [b] pos) ((!inStr s t)) :=
  et_cmp2 op_notin_str ha hb hm fun F B H v u Q hs r1 r2 q => ⟨s, t, r1.str hs, r2.str hs, fin_bl hs q⟩
theorem ss_ifM {c : Expr} {A Bs : List Stmt} (env' : DEnv) (hc : Et X env c p) (h : SS X env' rest Φ) (ha : p = true → SS X env A { Φ with nx := fun e => Wk e env' }) (hb : p = false → SS X env Bs { Φ with nx := fun e => Wk e env' }) : SS X env (.If c A Bs pos :: rest) Φ :=
  ss_cons (s1_if hc (fun z => (ha z).imp (fun e w => ss_wk _ w h) (fun _ _ w => w) (fun _ w => w) fun _ w => w) fun z => (hb z).imp (fun e w => ss_wk _ w h) (fun _ _ w => w) (fun _ w => w) fun _ w => w)
end
end DL
namespace DL
open PySem PySem.Spec L2
open PyProof.Rows hiding St
def enO {α : Type} (f : α → D) : Option α → D
  | some x => f x
  | none => .non
section
variable {X : Cx} {Γ : Gd} {N : List Str} {sc : Scope} {lv : Nat} {vl ll : List Nat} {gl : List Str} {env : DEnv} {Φ : Outs} {rest : List Stmt} {e a b : Expr} {es : List Expr} {ds : List D} {d : D} {k k1 k2 : Kd} {pos pn : Pos} {s t n : Str} {i : Int} {x y : D} {p : Bool} {kz : K2}
theorem Ev.getO {α : Type} {f : α → D} {o : Option α} {x : α} (h : Ev X env e (enO f o) k) (e' : o = some x) : Ev X env e (f x) k := by subst e'; exact h
theorem Ev.scO {α : Type} {f : α → D} {o : Option α} (h : Ev X env e (enO f o) k) (hf : ∀ x, (f x).sc = true) : Ev X env e (enO f o) .cln := h.scal (by cases o with | none => rfl | some x => exact hf x)
theorem Ev.toB (h : Ev X env e d .cln) : Ev X env e d .brw := h.cln_brw
theorem isN_enO {α : Type} {f : α → D} {o : Option α} (hf : ∀ x, (f x).isN = false) : (enO f o).isN = o.isNone := by cases o with
  | none => rfl
  | some x => exact hf x
theorem slot2_cases (kz : K2) (d : D) : (slot2 kz d = .frz d ∧ (d.sc = true ∨ kz = .c)) ∨ (slot2 kz d = .bor d ∧ kz = .b) := by
  cases d <;> cases kz <;> first | exact .inl ⟨rfl, .inl rfl⟩ | exact .inl ⟨rfl, .inr rfl⟩ | exact .inr ⟨rfl, rfl⟩
theorem nm2 (A : At X Γ N sc lv) (S : Sc N sc vl ll gl) (i : Nat) {kz : K2} (hN : N[i]? = some n) (hv : vl.contains i = true) (he : env[i]? = some (some (slot2 kz d))) : Ev X env (.Name n pos) d kz.k := by
  rcases slot2_cases kz d with ⟨h, q⟩ | ⟨h, q⟩ <;> rw [h] at he
  · have h1 := nmF (pos := pos) A S i hN hv he
    cases kz with
    | c => exact h1
    | b => exact h1.cln_brw
  · subst q; exact nmB A S i hN hv he
theorem EnvS.re {K : PySem.W.Frag} {F B G H : Hp} {σ : St} {i : Nat} {s s' : Slot} (E : EnvS K F B G H env σ) (he : env[i]? = some (some s)) (hs : ∀ v, SlotS K F B G H s v → SlotS K F B G H s' v) (no : ∀ d, s' ≠ .own d) : EnvS K F B G H (env.set i (some s')) σ := by
  obtain ⟨v, h1, h2⟩ := E.at_ i s he
  refine ⟨E.hs, E.gh, by rw [List.length_set]; exact E.len, fun j t e => ?_, fun j m d1 d2 q e1 e2 e3 e4 => ?_⟩
  · rcases get_set e with ⟨z, y, hl⟩ | ⟨z, y⟩
    · cases y
      rw [z]
      exact ⟨v, h1, hs v h2⟩
    · exact E.at_ j t y
  · rcases get_set e1 with ⟨z1, y1, l1⟩ | ⟨z1, y1⟩
    · cases y1; exact absurd rfl (no _)
    · rcases get_set e2 with ⟨z2, y2, l2⟩ | ⟨z2, y2⟩
      · cases y2; exact absurd rfl (no _)
      · exact E.dis j m d1 d2 q y1 y2 e3 e4
theorem ss_bor (i : Nat) {A : List Stmt} (he : env[i]? = some (some (.frz d))) (h : SS X (env.set i (some (.bor d))) A Φ) : SS X env A Φ := ⟨h.ps.mono fun Dd σ H ⟨F, B, G, E, P⟩ => ⟨F, B, G, E.re he (fun v r => Rep.mono E.hs.fb r) (fun _ z => nomatch z), P⟩⟩
theorem ss_s2 (i : Nat) {A : List Stmt} (he : env[i]? = some (some (slot2 kz d))) (h : SS X (env.set i (some (.bor d))) A Φ) : SS X env A Φ := by
  rcases slot2_cases kz d with ⟨q, _⟩ | ⟨q, _⟩ <;> rw [q] at he
  · exact ss_bor i he h
  · have : env.set i (some (.bor d)) = env := by
      apply List.ext_getElem?
      intro j
      by_cases z : i = j
      · subst z; rw [List.getElem?_set_self (List.getElem?_eq_some_iff.mp he).1, he]
      · rw [List.getElem?_set_ne z]
    rw [this] at h; exact h
theorem heldOf_c {d : D} : heldOf .cln d = .cln := by unfold heldOf; split <;> rfl
theorem ea_consH (ha : Ev X env a d k1) (hr : EA X env es ds k2) (h2 : k2 = .cln ∨ k2 = .brw ∨ k2 = .drt) (hs : starEach (a :: es) X.env = (false, eval a X.env) :: starEach es X.env) : EA X env (a :: es) (d :: ds) (k1.held.join k2) :=
  ⟨(pa_cons ha.held.pe hr.pa hs).mono fun σ H Q ⟨F, B, E, q⟩ => ⟨F, B, E, fun v H1 F1 B1 g1 r1 => ⟨F1, B1, E.grow g1, fun vs H2 F2 B2 g2 r2 => by
    have h1 : k1.held = .cln ∨ k1.held = .brw ∨ k1.held = .drt := by cases k1 <;> simp [Kd.held]
    refine q _ _ _ _ (g1.trans g2) (repsK_cons (join_cases _ _) (repsK.up g2.hs h1 h2 (repsK.grow g2 (repK_one h1 r1))) ?_)
    rw [join_comm]
    exact repsK.up g2.hs h2 h1 r2⟩⟩⟩
def D.isT (q : Bool) : D → Bool
  | .bl b => decide (b = q)
  | _ => false
def rIsT (K : PySem.W.Frag) (neg : Bool) : R2 := fun x y H Q => ∃ (d : D) (q : Bool), Rep K H d x ∧ y = .bl q ∧ Q (.bl (if neg then !d.isT q else d.isT q)) H
theorem isT_ne {K : PySem.W.Frag} {H : Hp} {d : D} {x : V} {v : Value} {q : Bool} (r : Rep K H d x) (rx : RelV x v) : (d.isT q = true ∧ v = .bool q) ∨ (d.isT q = false ∧ v ≠ .bool q ∧ plainIs v (.bool q) = true) := by
  cases r with
  | bl b =>
    cases (show v = Value.bool b from rx)
    by_cases e : b = q
    · subst e; exact .inl ⟨by simp [D.isT], rfl⟩
    · exact .inr ⟨by simp [D.isT, e], fun z => e (Value.bool.inj z), rfl⟩
  | non => cases (show v = Value.none from rx); exact .inr ⟨rfl, fun z => (nomatch z), rfl⟩
  | int i => obtain ⟨t, h⟩ := (show ∃ t, v = Value.int i t from rx); subst h; exact .inr ⟨rfl, fun z => (nomatch z), rfl⟩
  | str i => obtain ⟨t, h⟩ := (show ∃ t, v = Value.str i t from rx); subst h; exact .inr ⟨rfl, fun z => (nomatch z), rfl⟩
  | lst h1 h2 => cases rx; exact .inr ⟨rfl, fun z => (nomatch z), rfl⟩
  | tup h1 h2 => cases rx; exact .inr ⟨rfl, fun z => (nomatch z), rfl⟩
  | dK h1 h2 => cases rx; exact .inr ⟨rfl, fun z => (nomatch z), rfl⟩
  | dT h1 h2 => cases rx; exact .inr ⟨rfl, fun z => (nomatch z), rfl⟩
  | obj h1 h2 => cases rx; exact .inr ⟨rfl, fun z => (nomatch z), rfl⟩
  | scr h1 => cases rx; exact .inr ⟨rfl, fun z => (nomatch z), rfl⟩
theorem op_isT : OpR X (compareOp .Is) (rIsT X.K false) := by
  intro pins s σ H x y v u Q I rx ry h
  obtain ⟨d, q, r, rfl, w⟩ := h
  cases (show u = Value.bool q from ry)
  rcases isT_ne (q := q) r rx with ⟨e, z⟩ | ⟨e, z, pl⟩
  · subst z; rw [e] at w; exact wpAny_is_self rfl ⟨.bl true, H, I, rfl, w⟩
  · rw [e] at w; exact wpAny_is_other pl z ⟨.bl false, H, I, rfl, w⟩
theorem op_nisT : OpR X (compareOp .IsNot) (rIsT X.K true) := by
  intro pins s σ H x y v u Q I rx ry h
  obtain ⟨d, q, r, rfl, w⟩ := h
  cases (show u = Value.bool q from ry)
  rcases isT_ne (q := q) r rx with ⟨e, z⟩ | ⟨e, z, pl⟩
  · subst z; rw [e] at w; exact wpAny_isNot_self rfl ⟨.bl false, H, I, rfl, w⟩
  · rw [e] at w; exact wpAny_isNot_other pl z ⟨.bl true, H, I, rfl, w⟩
theorem ev_isT {q : Bool} {j' : Nat} {pos' : Pos} (ha : Ev X env a x k1) (hp : x.isT q = p) : Ev X env (.Compare a [.Is] [.Constant (.bool q) j' pos'] pos) (.bl p) .cln :=
  ev_cmp2 op_isT ha (ev_bl (b := q)) rfl fun F B H v u Q hs r1 r2 w => ⟨x, q, r1.rep hs, r2.bl hs, by rw [hp]; exact fin_bl hs w⟩
theorem ev_nisT {q : Bool} {j' : Nat} {pos' : Pos} (ha : Ev X env a x k1) (hp : (!x.isT q) = p) : Ev X env (.Compare a [.IsNot] [.Constant (.bool q) j' pos'] pos) (.bl p) .cln :=
  ev_cmp2 op_nisT ha (ev_bl (b := q)) rfl fun F B H v u Q hs r1 r2 w => ⟨x, q, r1.rep hs, r2.bl hs, by show Q (.bl (!x.isT q)) H; rw [hp]; exact fin_bl hs w⟩
def D.ty : D → Option String
  | .non => some "NoneType" | .bl _ => some "bool" | .int _ => some "int" | .str _ => some "str" | .lst _ => some "list" | .tup _ => some "tuple" | .dK _ => some "dict" | .dT _ => some "dict" | .scr _ => some "list" | .obj _ _ => none
def D.isi (T : String) (d : D) : Bool := match d with
  | .non => T == "NoneType" | .bl _ => T == "bool" || T == "int" | .int _ => T == "int" | .str _ => T == "str" | .lst _ => T == "list" | .tup _ => T == "tuple" | .dK _ => T == "dict" | .dT _ => T == "dict" | .scr _ => T == "list" | .obj _ _ => false
theorem rep_ty {K : PySem.W.Frag} {H : Hp} {v : V} {T : String} (r : Rep K H d v) (h : d.ty = some T) : TyX K H v (.type T) := by
  cases r with
  | non => cases h; exact .base .non
  | bl b => cases h; exact .base (.bl b)
  | int b => cases h; exact .base (.int b)
  | str b => cases h; exact .base (.str b)
  | lst h1 h2 => cases h; exact .base (.lst h1)
  | tup h1 h2 =>
    cases h
    rcases h1 with (h1 | ⟨o, h1⟩) | ⟨o, its, m, h1, h3, _⟩
    · exact .base (.tup h1)
    · exact .fTuple h1
    · exact .kTuple h1 h3
  | dK h1 h2 => cases h; exact .base (.dK h1)
  | dT h1 h2 => cases h; exact .base (.dT h1)
  | obj h1 h2 => cases h
  | scr h1 =>
    cases h
    rcases h1 with (h1 | ⟨o, h1⟩) | ⟨o, its, m, h1, h3, _⟩
    · exact .base (.lst h1)
    · exact .base (.frz h1)
    · exact .kList h1 h3
def isiT (T : String) : Bool := (["NoneType", "bool", "int", "str", "list", "tuple", "dict"].all fun t => kitB t T == some (t == T || (t == "bool" && T == "int")))
theorem isi_of {T t : String} (h : isiT T = true) (ht : d.ty = some t) : kitB t T = some (d.isi T) := by
  unfold isiT at h
  simp only [List.all_cons, List.all_nil, Bool.and_true, Bool.and_eq_true, beq_iff_eq] at h
  obtain ⟨h1, h2, h3, h4, h5, h6, h7⟩ := h
  have sw : ∀ x : String, (x == T) = (T == x) := fun x => by
    by_cases e : x = T
    · subst e; rfl
    · rw [beq_eq_false_iff_ne.mpr e, beq_eq_false_iff_ne.mpr (Ne.symm e)]
  cases d <;> cases ht <;> first | (rw [h1]) | (rw [h2]) | (rw [h3]) | (rw [h4]) | (rw [h5]) | (rw [h6]) | (rw [h7])
  all_goals (simp only [D.isi, sw]; simp)
theorem isi_ {nT : Str} {T : String} {pT : Pos} (bn : Bn X "isinstance" (.builtin "isinstance")) (ha : Ev X env a x k1) (bT : Bn X nT (.type T)) (he : starEach [a, .Name nT pT] X.env = [(false, eval a X.env), (false, eval (.Name nT pT) X.env)]) (hk : isiT T = true) (hx : (x.ty.isSome && decide (x.isi T = p)) = true) :
    Ev X env (.Call (.Name "isinstance" pn) [a, .Name nT pT] [] pos) (.bl p) .cln := by
  obtain ⟨h1, h2⟩ := Bool.and_eq_true_iff.mp hx
  obtain ⟨t, ht⟩ := Option.isSome_iff_exists.mp h1
  have h2 := of_decide_eq_true h2
  have hT : PE X (.Name nT pT) (tC (.ty T)) := pe_bltn bT.gl bT.mg bT.bt rfl bT.nn bT.db
  refine ⟨(pe_callB call_isi bn.gl bn.mg bn.bt (pa_cons ha.st.pe (pa_cons hT pa_nil rfl) he) bn.nn bn.db he rfl).mono fun σ H Q ⟨F, B, E, q⟩ => ⟨F, B, E, fun v H1 F1 B1 g1 r1 => ?_⟩⟩
  refine ⟨v, .ty T, .type t, .type T, p, rfl, .ty T, rep_ty (r1.rep g1.hs) ht, kit_ty (by rw [← h2]; exact isi_of hk ht), ?_⟩
  exact q _ _ _ _ g1 (.bl p)
end
end DL
namespace DL
open PySem PySem.Spec L2
open PyProof.Rows hiding St
section
variable {X : Cx} {env : DEnv} {a b : Expr} {k1 : Kd} {pos pn : Pos} {x : D} {p : Bool}
def isiG (T : String) (d : D) : Option Bool := if d.ty.isSome = true then some (d.isi T) else none
theorem isiG_ {nT : Str} {T : String} {pT : Pos} (bn : Bn X "isinstance" (.builtin "isinstance")) (ha : Ev X env a x k1) (bT : Bn X nT (.type T)) (he : starEach [a, .Name nT pT] X.env = [(false, eval a X.env), (false, eval (.Name nT pT) X.env)]) (hk : isiT T = true) (h : isiG T x = some p) :
    Ev X env (.Call (.Name "isinstance" pn) [a, .Name nT pT] [] pos) (.bl p) .cln := by
  obtain ⟨h1, e⟩ := iteO h
  exact isi_ bn ha bT he hk (by rw [h1, e]; simp)
end
end DL
namespace DL
open PySem PySem.Spec L2
open PyProof.Rows hiding St
section
variable {X : Cx} {env : DEnv} {a b : Expr} {k1 : Kd} {pos pn : Pos} {x : D} {p : Bool}
theorem et_of {te : TE} {r : V → Hp → VK → Prop} (ht : PT X b (tB (te))) (hte : ∀ σ H Q, tEv X.K env (.bl p) .cln σ H Q → te σ H Q) : Et X env b p :=
  ⟨ht.mono fun σ H Q ⟨F, B, E, q⟩ => hte σ H _ ⟨F, B, E, fun v H' F' B' g r => by
    cases (show Rep X.K F' (.bl p) v from r)
    exact ⟨_, rfl, q H' F' B' g⟩⟩⟩
theorem et_isN {j' pos'} (ha : Ev X env a x k1) (hp : x.isN = p) : Et X env (.Compare a [.Is] [.Constant .none j' pos'] pos) p :=
  et_of (r := fun _ _ _ => True) (pt_cmp (pc_isN ha.st.pe)) (one_te (te := tIsN) (r := fun x H Q => Q (.bl (decide (x = .non))) H) (fun _ _ _ _ h => h) ha fun F B H v Q hs r1 q => by rw [rep_isN (r1.rep hs), hp]; exact fin_bl hs q)
theorem et_notN {j' pos'} (ha : Ev X env a x k1) (hp : x.isN = p) : Et X env (.Compare a [.IsNot] [.Constant .none j' pos'] pos) (!p) :=
  et_of (r := fun _ _ _ => True) (pt_cmp (pc_notN ha.st.pe)) (one_te (te := tNotN) (r := fun x H Q => Q (.bl (!decide (x = .non))) H) (fun _ _ _ _ h => h) ha fun F B H v Q hs r1 q => by rw [rep_isN (r1.rep hs), hp]; exact fin_bl hs q)
theorem et_isT {q : Bool} {j' : Nat} {pos' : Pos} (ha : Ev X env a x k1) (hp : x.isT q = p) : Et X env (.Compare a [.Is] [.Constant (.bool q) j' pos'] pos) p :=
  et_cmp2 op_isT ha (ev_bl (b := q)) rfl fun F B H v u Q hs r1 r2 w => ⟨x, q, r1.rep hs, r2.bl hs, by rw [hp]; exact fin_bl hs w⟩
theorem et_nisT {q : Bool} {j' : Nat} {pos' : Pos} (ha : Ev X env a x k1) (hp : (!x.isT q) = p) : Et X env (.Compare a [.IsNot] [.Constant (.bool q) j' pos'] pos) p :=
  et_cmp2 op_nisT ha (ev_bl (b := q)) rfl fun F B H v u Q hs r1 r2 w => ⟨x, q, r1.rep hs, r2.bl hs, by show Q (.bl (!x.isT q)) H; rw [hp]; exact fin_bl hs w⟩
end
end DL
namespace DL
open PySem PySem.Spec L2
open PyProof.Rows hiding St
section
variable {X : Cx} {Γ : Gd} {N : List Str} {sc : Scope} {lv : Nat} {vl ll : List Nat} {gl : List Str} {env env' : DEnv} {Φ : Outs} {rest : List Stmt} {tg e a b : Expr} {es : List Expr} {ds : List D} {d : D} {k k1 k2 : Kd} {pos pn np apos cpos : Pos} {s t n : Str} {i j : Int} {x y : D} {p : Bool} {kz : K2}
def lenDG : D → Option Int
  | .lst ds => some ds.length
  | .tup ds => some ds.length
  | .str s => if s.length ≤ line then some s.length else none
  | _ => none
theorem lenD_ {v : Int} (bn : Bn X "len" (.builtin "len")) (ha : Ev X env a d k1) (h : lenDG d = some v) (he : starEach [a] X.env = [(false, eval a X.env)]) : Ev X env (.Call (.Name "len" pn) [a] [] pos) (.int v) .cln := by
  cases d <;> try cases h
  · obtain ⟨h1, e⟩ := iteO h; subst e
    exact len_ bn ha (.str (by rw [line_eq]; exact h1)) he
  · exact len_ bn ha .lst he
  · exact len_ bn ha .tup he
def idxDG (d : D) (i : Int) : Option D := match d with
  | .lst ds => atI ds i
  | .tup ds => atI ds i
  | _ => none
theorem ixD_ {v : D} (ha : Ev X env a d k1) (hb : Ev X env b (.int i) k2) (h : idxDG d i = some v) (hs : PlainIx b) : Ev X env (.Subscript a b pos) v k1.kid := by
  cases d <;> try cases h
  · exact ix_ ha hb (.lst h) hs
  · exact ix_ ha hb (.tup h) hs
def fndG {α : Type} [DecidableEq α] (xs : List α) (x : α) : Option Int := Option.map (fun n : Nat => (n : Int)) (xs.findIdx? (fun y => decide (y = x)))
theorem fnd_ok {α : Type} [DecidableEq α] {xs : List α} {x : α} {v : Int} (h : fndG xs x = some v) : ∃ n : Nat, v = n ∧ xs[n]? = some x ∧ ∀ m, m < n → xs[m]? ≠ some x := by
  obtain ⟨n, h1, h2⟩ := Option.map_eq_some_iff.mp h
  rw [List.findIdx?_eq_some_iff_getElem] at h1
  obtain ⟨hl, hp, hn⟩ := h1
  refine ⟨n, h2.symm, by rw [List.getElem?_eq_getElem hl, of_decide_eq_true hp], fun m hm e => ?_⟩
  have hm' : m < xs.length := by omega
  rw [List.getElem?_eq_getElem hm'] at e
  exact hn m hm (decide_eq_true (Option.some.inj e))
theorem indexLI_ {ns : List Int} {v : Int} (ha : Ev X env a (.lst (ns.map D.int)) k1) (hb : Ev X env b (.int i) k2) (h : fndG ns i = some v) (mx : Mx X a "index" [b] apos cpos) (hs : starEach [b] X.env = [(false, eval b X.env)] := by rfl) :
    Ev X env (.Call (.Attribute a "index" apos) [b] [] cpos) (.int v) .cln := by
  obtain ⟨m, e, h1, h2⟩ := fnd_ok h
  subst e
  refine ⟨(pe_bm PySem.F.plainAttrs_list PySem.F.slot_list_index PySem.F.type_list_index mt_index ha.st.pe (pa_cons hb.st.pe pa_nil hs) mx.base mx.few mx.line hs rfl).mono fun σ H Q ⟨F, B, E, q⟩ => ⟨F, B, E, fun v H1 F1 B1 g1 r1 => ?_⟩⟩
  obtain ⟨q1, vs, rfl, e2, r⟩ := RepS.lst g1.hs (RepK.any0 r1)
  refine ⟨.inl ⟨rfl, _, SqL.of e2⟩, F1, B1, E.grow g1, fun u H2 F2 B2 g2 r2 => ?_⟩
  have ei := RepS.int g2.hs (RepK.any0 r2)
  subst ei
  have ev := reps_ints (r.reps g1.hs)
  subst ev
  refine ⟨q1, ns.map V.int, .int i, m, .int i, rfl, rfl, SqL.of (g2.h _ _ e2), rfl, flat_ints ns, by rw [List.getElem?_map, h1]; rfl, by simp [eqV], fun m' z hm hz => ?_, q _ _ _ _ (g1.trans g2) (.int _)⟩
  rw [List.getElem?_map] at hz
  obtain ⟨w, hw, e⟩ := Option.map_eq_some_iff.mp hz
  subst e
  have := h2 m' hm
  rw [hw] at this
  show (w == i) = false
  exact beq_eq_false_iff_ne.mpr fun z => this (by rw [z])
theorem indexLS_ {ns : List Str} {i : Str} {v : Int} (ha : Ev X env a (.lst (ns.map D.str)) k1) (hb : Ev X env b (.str i) k2) (h : fndG ns i = some v) (mx : Mx X a "index" [b] apos cpos) (hs : starEach [b] X.env = [(false, eval b X.env)] := by rfl) :
    Ev X env (.Call (.Attribute a "index" apos) [b] [] cpos) (.int v) .cln := by
  obtain ⟨m, e, h1, h2⟩ := fnd_ok h
  subst e
  refine ⟨(pe_bm PySem.F.plainAttrs_list PySem.F.slot_list_index PySem.F.type_list_index mt_index ha.st.pe (pa_cons hb.st.pe pa_nil hs) mx.base mx.few mx.line hs rfl).mono fun σ H Q ⟨F, B, E, q⟩ => ⟨F, B, E, fun v H1 F1 B1 g1 r1 => ?_⟩⟩
  obtain ⟨q1, vs, rfl, e2, r⟩ := RepS.lst g1.hs (RepK.any0 r1)
  refine ⟨.inl ⟨rfl, _, SqL.of e2⟩, F1, B1, E.grow g1, fun u H2 F2 B2 g2 r2 => ?_⟩
  have ei := RepS.str g2.hs (RepK.any0 r2)
  subst ei
  have ev := reps_strs (r.reps g1.hs)
  subst ev
  refine ⟨q1, ns.map V.str, .str i, m, .str i, rfl, rfl, SqL.of (g2.h _ _ e2), rfl, DL.flat_strs ns, by rw [List.getElem?_map, h1]; rfl, by simp [eqV], fun m' z hm hz => ?_, q _ _ _ _ (g1.trans g2) (.int _)⟩
  rw [List.getElem?_map] at hz
  obtain ⟨w, hw, e⟩ := Option.map_eq_some_iff.mp hz
  subst e
  have := h2 m' hm
  rw [hw] at this
  show (w == i) = false
  exact beq_eq_false_iff_ne.mpr fun z => this (by rw [z])
theorem eraseIdx_map' {α β : Type} (f : α → β) : ∀ (xs : List α) (m : Nat), (xs.eraseIdx m).map f = (xs.map f).eraseIdx m
  | [], _ => rfl
  | _ :: _, 0 => rfl
  | x :: xs, m + 1 => congrArg (f x :: ·) (eraseIdx_map' f xs m)
structure Em (X : Cx) (env env' : DEnv) (e : Expr) (d : D) : Prop where
  pe : PE X e (fun σ H Q => ∃ F B G, EnvS X.K F B G H env σ ∧ ∀ v H' F' B', GS F B G F' B' → EnvS X.K F' B' G H' env' σ → Rep X.K F' d v → Q v H')
def popG {α : Type} (xs : List α) (i : Int) : Option (α × List α) :=
  if decide (-9223372036854775808 ≤ i) && decide (i < 9223372036854775808) then (match seqIndex? i xs.length with
    | some m => match xs[m]? with
      | some x => some (x, xs.eraseIdx m)
      | none => none
    | none => none) else none
theorem popG_ok {α : Type} {xs : List α} {i : Int} {r : α × List α} (h : popG xs i = some r) : -(2 ^ 63) ≤ i ∧ i < 2 ^ 63 ∧ ∃ m, seqIndex? i xs.length = some m ∧ xs[m]? = some r.1 ∧ r.2 = xs.eraseIdx m := by
  unfold popG at h
  split at h
  · next c =>
    simp only [Bool.and_eq_true, decide_eq_true_eq] at c
    cases e : seqIndex? i xs.length with
    | none => rw [e] at h; cases h
    | some m =>
      rw [e] at h
      cases e2 : xs[m]? with
      | none => simp only [e2] at h; cases h
      | some x => simp only [e2] at h; cases h; exact ⟨c.1, c.2, m, rfl, e2, rfl⟩
  · cases h
theorem popI_ {α : Type} {f : α → D} {xs : List α} {r : α × List α} (A : At X Γ N sc lv) (S : Sc N sc vl ll gl) (i : Nat) (hN : N[i]? = some n) (hv : vl.contains i = true) (he : env[i]? = some (some (.own (.lst (xs.map f))))) (hb : Ev X env b (.int j) k2) (h : popG xs j = some r) (hs : starEach [b] X.env = [(false, eval b X.env)]) (mx : Mx X (.Name n np) "pop" [b] apos cpos) :
    Em X env (env.set i (some (.own (.lst (r.2.map f))))) (.Call (.Attribute (.Name n np) "pop" apos) [b] [] cpos) (f r.1) := by
  obtain ⟨v1, v2⟩ := S.vis hv hN
  obtain ⟨p1, p2, _⟩ := plainB_ok v2
  obtain ⟨c1, c2, m, h1, h2, h3⟩ := popG_ok h
  refine ⟨(pe_bm PySem.F.plainAttrs_list PySem.F.slot_list_pop PySem.F.type_list_pop (fun pins s σ H x xs v us Q I r r2 h => mt_popAt pins s σ H x xs v us Q I r r2 h) (pe_var (by rw [A.eN]; exact hN) (A.eS.vis v1) p1 p2) (pa_cons hb.st.pe pa_nil hs) mx.base mx.few mx.line hs rfl).mono fun σ H Q ⟨F, B, G, E, q⟩ => ?_⟩
  obtain ⟨q1, vs, e1, e2, e3⟩ := E.own he
  refine ⟨_, e1, .inl ⟨rfl, vs, SqL.of e2⟩, F, B, E.e, fun u H2 F2 B2 g2 r2 => ?_⟩
  have ei := RepS.int g2.hs (RepK.any0 r2)
  subst ei
  have E' := E.grow g2
  have hl := e3.length
  rw [List.length_map] at hl
  obtain ⟨y, hy, ry⟩ := e3.get (i := m) (d := f r.1) (by rw [List.getElem?_map, h2]; rfl)
  refine ⟨q1, vs, j, m, y, rfl, rfl, g2.h _ _ e2, c1, c2, by rw [hl]; exact h1, hy, ?_⟩
  refine q _ _ F2 B2 (g2.gs E.gh) (E'.mut (d' := .lst (r.2.map f)) he e1 rfl ⟨_, upd_same, ?_⟩) (Rep.mono g2.f ry)
  rw [h3, show (xs.eraseIdx m).map f = (xs.map f).eraseIdx m from eraseIdx_map' f xs m]
  exact (e3.mono g2.f).eraseIdx m
def popE {α : Type} (xs : List α) : Option (α × List α) := match xs[xs.length - 1]? with
  | some x => some (x, xs.dropLast)
  | none => none
theorem popE_ {α : Type} {f : α → D} {xs : List α} {r : α × List α} (A : At X Γ N sc lv) (S : Sc N sc vl ll gl) (i : Nat) (hN : N[i]? = some n) (hv : vl.contains i = true) (he : env[i]? = some (some (.own (.lst (xs.map f))))) (h : popE xs = some r)
    (hb : attributeBase (.Name n np) "pop" X.env (eval (.Name n np) X.env) = eval (.Name n np) X.env) (hl : (apos.endLine == cpos.line) = true) :
    Em X env (env.set i (some (.own (.lst (r.2.map f))))) (.Call (.Attribute (.Name n np) "pop" apos) [] [] cpos) (f r.1) := by
  obtain ⟨v1, v2⟩ := S.vis hv hN
  obtain ⟨p1, p2, _⟩ := plainB_ok v2
  have h12 : xs[xs.length - 1]? = some r.1 ∧ r.2 = xs.dropLast := by
    unfold popE at h
    split at h
    · next x e => cases h; exact ⟨e, rfl⟩
    · cases h
  refine ⟨(pe_bm0 PySem.F.plainAttrs_list PySem.F.slot_list_pop PySem.F.type_list_pop (fun pins s σ H x xs v us Q I r r2 h => mt_pop pins s σ H x xs v us Q I r r2 h) (pe_var (by rw [A.eN]; exact hN) (A.eS.vis v1) p1 p2) hb hl).mono fun σ H Q ⟨F, B, G, E, q⟩ => ?_⟩
  obtain ⟨q1, vs, e1, e2, e3⟩ := E.own he
  have hl := e3.length
  rw [List.length_map] at hl
  obtain ⟨y, hy, ry⟩ := e3.get (i := xs.length - 1) (d := f r.1) (by rw [List.getElem?_map, h12.1]; rfl)
  refine ⟨_, e1, .inl ⟨rfl, vs, SqL.of e2⟩, q1, vs, y, rfl, rfl, e2, by rw [hl]; exact hy, ?_⟩
  refine q _ _ F B .refl (E.mut (d' := .lst (r.2.map f)) he e1 rfl ⟨_, upd_same, ?_⟩) ry
  rw [h12.2, List.map_dropLast]
  exact e3.dropLast
theorem setE_ (A : At X Γ N sc lv) (S : Sc N sc vl ll gl) (i : Nat) {pos' : Pos} (hN : N[i]? = some n) (hl : ll.contains i = true) (he : Em X env env' e d) (hs : swapsWith e (some (.Name n pos')) pos.line X.env = pure false)
    (h : SS X (env'.set i (some (.frz d))) rest Φ) : SS X env (.Assign [.Name n pos'] e pos :: rest) Φ :=
  ss_cons ⟨(ps_set (by rw [A.eN]; exact S.nd) (by rw [A.eN]; exact hN) (A.eS.loc (S.loc hl hN)) he.pe hs (A.fnl (S.loc hl hN))).mono fun Dd σ H ⟨F, B, G, E, P⟩ => ⟨F, B, G, E, fun v H' F' B' g E' r => P.nx _ _ _ F' B' g (E'.set (s := .frz d) r fun d' p es => nomatch es) h⟩⟩
theorem appE_ {α : Type} {en : α → D} {xs ys : List α} {x : α} (A : At X Γ N sc lv) (S : Sc N sc vl ll gl) (i : Nat) (hN : N[i]? = some n) (hv : vl.contains i = true) (he : env'[i]? = some (some (.own (.lst (xs.map en))))) (ha : Em X env env' e (en x)) (hk : heldOf .cln (en x) = .cln) (hG : appG xs x = some ys)
    (mx : Mx X (.Name n np) "append" [e] apos cpos) (hs : starEach [e] X.env = [(false, eval e X.env)]) (hsw : swapsWith (.Call (.Attribute (.Name n np) "append" apos) [e] [] cpos) none pos.line X.env = pure false) (heO : ∃ d0, env[i]? = some (some (.own (.lst d0))))
    (h : SS X (env'.set i (some (.own (.lst (ys.map en))))) rest Φ) : SS X env (.Expr (.Call (.Attribute (.Name n np) "append" apos) [e] [] cpos) pos :: rest) Φ := by
  obtain ⟨v1, v2⟩ := S.vis hv hN
  obtain ⟨p1, p2, _⟩ := plainB_ok v2
  obtain ⟨c1, e0⟩ := iteO hG
  subst e0
  obtain ⟨d0, heO⟩ := heO
  refine ss_cons ⟨(ps_expr (pe_bm PySem.F.plainAttrs_list PySem.F.slot_list_append PySem.F.type_list_append (fun pins s σ H x xs v us Q I r r2 h => mt_append pins s σ H x xs v us Q I r r2 h) (pe_var (by rw [A.eN]; exact hN) (A.eS.vis v1) p1 p2) (pa_cons ha.pe pa_nil hs) mx.base mx.few mx.line hs rfl) hsw).mono fun Dd σ H ⟨F, B, G, E, P⟩ => ?_⟩
  obtain ⟨q0, vs0, f1, f2, f3⟩ := E.own heO
  refine ⟨_, f1, .inl ⟨rfl, vs0, SqL.of f2⟩, F, B, G, E, fun v H' F' B' g E' r => ?_⟩
  obtain ⟨q, vs, h1, h2, h3⟩ := E'.own he
  rw [f1] at h1; cases h1
  refine ⟨q0, vs, v, rfl, rfl, h2, by rw [h3.length, List.length_map, line_eq]; exact c1, ?_⟩
  refine P.nx _ _ _ F' B' g (E'.mut (d' := .lst ((xs ++ [x]).map en)) he f1 rfl ⟨_, upd_same, ?_⟩) h
  rw [List.map_append]
  exact Reps.append h3 (.one r)
def strL (s : Str) : List Str := s.cps.toList.map fun c => ⟨#[c]⟩
theorem its_ok {K : PySem.W.Frag} {P F B : Hp} {s : Str} : ItOk K P F B (Its s) .c ((strL s).map D.str) := by
  have at_ : ∀ (i : Nat) d, ((strL s).map D.str)[i]? = some d → ∃ c, s.cps[i]? = some c ∧ d = .str ⟨#[c]⟩ := fun i d e => by
    unfold strL at e
    rw [List.getElem?_map, List.getElem?_map] at e
    cases q : s.cps.toList[i]? with
    | none => rw [q] at e; cases e
    | some c => rw [q] at e; cases e; exact ⟨c, by rw [← Array.getElem?_toList]; exact q, rfl⟩
  refine ⟨fun i d H _ e => ?_, fun i d H x H' _ e y => .inl ?_, fun H _ => ?_⟩
  · obtain ⟨c, h1, _⟩ := at_ i d e
    exact (Array.getElem?_eq_some_iff.mp h1).1
  · obtain ⟨c, h1, h2⟩ := at_ i d e
    obtain ⟨z, c', h3, h4⟩ := y
    rw [h1] at h3; cases h3
    subst h2 h4
    exact ⟨z, .str _⟩
  · show s.cps.size ≤ _
    unfold strL
    rw [List.length_map, List.length_map, Array.length_toList]
    exact Nat.le_refl _
theorem iterS_ (ha : Ev X env a (.str s) k1) : EI X env tg a ((strL s).map D.str) .c true :=
  ⟨(pi_str ha.st.pe).mono fun σ H R ⟨F, B, E, q⟩ => ⟨F, B, E, fun v H1 F1 B1 g r => ⟨s, RepS.str g.hs (RepK.any0 r), q _ H1 F1 B1 g its_ok⟩⟩⟩
def enumL {α : Type} (xs : List α) : List (Int × α) := xs.zipIdx.map fun p => ((p.2 : Int), p.1)
theorem enumL_get {α : Type} {xs : List α} {i : Nat} : (enumL xs)[i]? = xs[i]?.map fun x => ((i : Int), x) := by
  unfold enumL
  rw [List.getElem?_map, List.getElem?_zipIdx]
  cases xs[i]? with
  | none => rfl
  | some x => simp
theorem enumL_len {α : Type} (xs : List α) : (enumL xs).length = xs.length := by unfold enumL; rw [List.length_map, List.length_zipIdx]
theorem ite_ok {α : Type} {f : α → D} {xs : List α} {K : PySem.W.Frag} {P F B : Hp} {l : Addr} {vs : List V} {k : K2} (h : P l = some (.lst vs)) (r : repsK K F B P k.k (xs.map f) vs) : ItOk K P F B (Ite K l) k ((enumL xs).map fun x => .tup [.int x.1, f x.2]) := by
  have at_ : ∀ (i : Nat) d, ((enumL xs).map fun x => D.tup [.int x.1, f x.2])[i]? = some d → ∃ x, (xs.map f)[i]? = some (f x) ∧ d = .tup [.int (i : Int), f x] := fun i d e => by
    rw [List.getElem?_map, enumL_get] at e
    cases q : xs[i]? with
    | none => rw [q] at e; cases e
    | some x => rw [q] at e; cases e; exact ⟨x, by rw [List.getElem?_map, q]; rfl, rfl⟩
  refine ⟨fun i d H s e => ?_, fun i d H x H' s e y => .inr ?_, fun H s => ⟨vs, SqL.of (s _ _ h), by rw [r.len, List.length_map, List.length_map, enumL_len]; exact Nat.le_refl _⟩⟩
  · obtain ⟨x, e1, _⟩ := at_ i d e
    obtain ⟨u, e2, _⟩ := repsK.get (by cases k <;> simp) r e1
    exact ⟨vs, u, SqL.of (s _ _ h), e2⟩
  · obtain ⟨x0, e1, e3⟩ := at_ i d e
    obtain ⟨u, e2, r2⟩ := repsK.get (by cases k <;> simp) r e1
    obtain ⟨T, w, z1, z2, z3, z4⟩ := y
    have := z4 vs (SqL.of (s _ _ h))
    rw [e2] at this; cases this
    refine ⟨T, [.int (i : Nat), u], [.int (i : Int), f x0], z2, z3, z1, e3, ?_⟩
    cases k with
    | c => exact .cons (.int _) (.cons r2 .nil)
    | b => exact .cons (.int _) (.cons r2 .nil)
theorem enumLC_ {α : Type} {f : α → D} {xs : List α} {elts : List Expr} {kk : Nat} {tpos : Pos} (hg : Gl X "enumerate") (hm : X.mg "enumerate" = none) (ha : Ev X env a (.lst (xs.map f)) .cln) (hs : starEach [a] X.env = [(false, eval a X.env)]) :
    EI X env (.Tuple elts kk tpos) (.Call (.Name "enumerate" pn) [a] [] pos) ((enumL xs).map fun x => .tup [.int x.1, f x.2]) .c true :=
  ⟨(pi_enum hg hm (pa_cons ha.pe pa_nil hs) hs).mono fun σ H R ⟨F, B, E, q⟩ => ⟨F, B, E, fun v H1 F1 B1 g r => by
    cases (show Rep X.K F1 (.lst (xs.map f)) v from r) with
    | lst s t => exact ⟨_, _, rfl, SqL.of (g.hs.fh _ _ s), q _ H1 F1 B1 g (ite_ok (g.hs.fb _ _ s) t)⟩⟩⟩
theorem enumLB_ {α : Type} {f : α → D} {xs : List α} {elts : List Expr} {kk : Nat} {tpos : Pos} (hg : Gl X "enumerate") (hm : X.mg "enumerate" = none) (ha : Ev X env a (.lst (xs.map f)) .brw) (hs : starEach [a] X.env = [(false, eval a X.env)]) :
    EI X env (.Tuple elts kk tpos) (.Call (.Name "enumerate" pn) [a] [] pos) ((enumL xs).map fun x => .tup [.int x.1, f x.2]) .b true :=
  ⟨(pi_enum hg hm (pa_cons ha.pe pa_nil hs) hs).mono fun σ H R ⟨F, B, E, q⟩ => ⟨F, B, E, fun v H1 F1 B1 g r => by
    cases (show Rep X.K B1 (.lst (xs.map f)) v from r) with
    | lst s t => exact ⟨_, _, rfl, SqL.of (g.hs.bh _ _ s), q _ H1 F1 B1 g (ite_ok s t)⟩⟩⟩
end
end DL
namespace DL
open PySem PySem.Spec L2
open PyProof.Rows hiding St
open RZ
abbrev lexP (x y : Int × Int) : Bool := SrtO.lexB x y
def srtP (xs : List (Int × Int)) : List (Int × Int) := xs.mergeSort fun a b => !lexP b a
def srtG (xs : List (Int × Int)) : Option (List (Int × Int)) := some (srtP xs)
theorem lexP_total (a b : Int × Int) : ((!lexP b a) || (!lexP a b)) = true := by
  cases h : lexP b a with
  | false => rfl
  | true =>
    have := SrtO.lexB_iff.mp h
    rw [show lexP a b = false from SrtO.lexB_no.mpr (by omega)]; rfl
theorem lexP_trans (a b c : Int × Int) (h1 : (!lexP b a) = true) (h2 : (!lexP c b) = true) : (!lexP c a) = true := by
  have a1 := SrtO.lexB_no.mp (show SrtO.lexB b a = false by simpa using h1)
  have a2 := SrtO.lexB_no.mp (show SrtO.lexB c b = false by simpa using h2)
  rw [show lexP c a = false from SrtO.lexB_no.mpr (by omega)]; rfl
theorem srtP_perm (xs : List (Int × Int)) : (srtP xs).Perm xs := List.mergeSort_perm ..
theorem srtP_srt (xs : List (Int × Int)) : (srtP xs).Pairwise fun a b => SrtO.lexB b a = false := by
  have := List.pairwise_mergeSort (le := fun a b => !lexP b a) lexP_trans lexP_total xs
  exact this.imp fun h => by simpa using h
theorem srt_uniq {xs ys : List (Int × Int)} (hp : xs.Perm ys) (h1 : xs.Pairwise fun a b => SrtO.lexB b a = false) (h2 : ys.Pairwise fun a b => SrtO.lexB b a = false) : xs = ys := by
  refine List.Perm.eq_of_pairwise (le := fun a b => SrtO.lexB b a = false) (fun a b _ _ c1 c2 => ?_) h1 h2 hp
  have a1 := SrtO.lexB_no.mp c1
  have a2 := SrtO.lexB_no.mp c2
  exact Prod.ext (by omega) (by omega)
abbrev prD (p : Int × Int) : D := .tup [.int p.1, .int p.2]
theorem cr_sortedPD {X : Cx} : CallR X (.builtin "sorted") (fun vs H Q => ∃ (a : Addr) (xs : List V) (k : V → Int × Int), vs = [V.ref a] ∧ SqL X.K H a xs ∧ (∀ x ∈ xs, ∃ t, x = V.ref t ∧ SqT X.K H t [.int (k x).1, .int (k x).2]) ∧
    ∀ ys p, SrtO.Srtd (ltP k) ys → SrtO.Stb (ltP k) ys xs → H p = none → Q (.ref p) (upd H p (.lst ys))) := by
  intro pins s σ H vs us Q I r h
  obtain ⟨a, xs, k, rfl, hs, hx, q⟩ := h
  obtain ⟨its, rv, hl, hz⟩ := I.list hs
  obtain ⟨u, rfl, ru⟩ := vals1 r
  obtain rfl : u = Value.ref a := ru
  obtain ⟨e1, e2⟩ := refs_back rv fun x m => by
    obtain ⟨t, e, _⟩ := hx x m
    exact ⟨t, e⟩
  refine SrtO.sorted_pairsO (k := fun u => k (backV u)) hl.isList (by rw [← rv.length]; exact hz) (fun v hv => ?_) fun h' d out h1 h2 kp hd hn => ?_
  · obtain ⟨t, rfl⟩ := e2 v hv
    have hm : V.ref t ∈ xs := by rw [e1]; exact List.mem_map.mpr ⟨_, hv, rfl⟩
    obtain ⟨t', e, ht⟩ := hx _ hm
    cases e
    obtain ⟨its2, r2, ⟨o, ho, hc, n, hd⟩, _⟩ := I.tuple ht
    obtain ⟨u1, u2, rfl, ri, rj⟩ := vals2 r2
    obtain ⟨t1, rfl⟩ := ri
    obtain ⟨t2, rfl⟩ := rj
    exact ⟨t, o, t1, t2, n, rfl, ho, hc, hd⟩
  · have h3 : ∀ u ∈ out, ∃ a, u = Value.ref a := fun u hu => e2 u (h2.perm.mem_iff.mp hu)
    obtain ⟨n, hn⟩ := hn
    have hb : SrtO.Stb (ltP k) (out.map backV) xs := by
      rw [e1]
      exact SrtO.Stb.map (ltP_swo k) backV h2
    refine ⟨.ref d, upd H d (.lst (out.map backV)), I.laid (t' := s.toks) kp hd ⟨?_, out, n, vals_back h3, hn⟩, rfl, q _ d (SrtO.srtd_map h1) hb (I.hok.fresh hd)⟩
    rw [hb.len]
    exact hz
theorem rep_pr {X : Cx} {pins : List (Addr × Obj)} {σ : L2.St} {H : Hp} {s : Shared} {v : V} {p q : Int × Int} (I : Inv X pins σ H s) (h1 : Rep X.K H (prD p) v) (h2 : Rep X.K H (prD q) v) : p = q := by
  cases h1 with
  | tup a1 b1 =>
    cases h2 with
    | tup a2 b2 =>
      have e := I.tuple_inj a1 a2
      subst e
      cases b1 with
      | cons c1 d1 =>
        cases b2 with
        | cons c2 d2 =>
          cases d1 with
          | cons e1 f1 =>
            cases d2 with
            | cons e2 f2 =>
              have z1 : p.1 = q.1 := by generalize p.1 = x1 at c1; generalize q.1 = x2 at c2; cases c1; cases c2; rfl
              have z2 : p.2 = q.2 := by generalize p.2 = x1 at e1; generalize q.2 = x2 at e2; cases e1; cases e2; rfl
              exact Prod.ext z1 z2
theorem reps_mem {K : PySem.W.Frag} {Z : Hp} {k : V → Int × Int} : ∀ {ps : List (Int × Int)} {xs : List V}, Reps K Z (ps.map prD) xs → (∀ p v, Rep K Z (prD p) v → k v = p) → xs.map k = ps ∧ ∀ x ∈ xs, Rep K Z (prD (k x)) x
  | [], _, .nil, _ => ⟨rfl, fun x hx => nomatch hx⟩
  | p :: ps, _, .cons r t, h => by
    obtain ⟨h1, h2⟩ := reps_mem t h
    have e := h _ _ r
    refine ⟨by rw [List.map_cons, h1, e], fun x hx => ?_⟩
    rcases List.mem_cons.mp hx with z | z
    · subst z; rw [e]; exact r
    · exact h2 x z
theorem reps_of {K : PySem.W.Frag} {Z : Hp} {k : V → Int × Int} : ∀ {ys : List V}, (∀ y ∈ ys, Rep K Z (prD (k y)) y) → Reps K Z ((ys.map k).map prD) ys
  | [], _ => .nil
  | y :: ys, h => .cons (h y (List.mem_cons_self ..)) (reps_of fun z hz => h z (List.mem_cons_of_mem _ hz))
theorem cr_srtP {X : Cx} : CallR X (.builtin "sorted") (fun vs H Q => ∃ (a : Addr) (xs : List V) (ps : List (Int × Int)), vs = [V.ref a] ∧ SqL X.K H a xs ∧ Reps X.K H (ps.map prD) xs ∧
    ∀ ys p, (∀ Z : Hp, Same Z H → Reps X.K Z (ps.map prD) xs → Reps X.K Z ((srtP ps).map prD) ys) → H p = none → Q (.ref p) (upd H p (.lst ys))) := by
  intro pins s σ H vs us Q I r h
  obtain ⟨a, xs, ps, rfl, hs, hx, q⟩ := h
  classical
  let k : V → Int × Int := fun v => if h : ∃ p, Rep X.K H (prD p) v then Classical.choose h else (0, 0)
  have hk : ∀ p v, Rep X.K H (prD p) v → k v = p := fun p v r => by
    have ex : ∃ p, Rep X.K H (prD p) v := ⟨p, r⟩
    show (if h : ∃ p, Rep X.K H (prD p) v then Classical.choose h else (0, 0)) = p
    rw [dif_pos ex]
    exact rep_pr I (Classical.choose_spec ex) r
  obtain ⟨k1, k2⟩ := reps_mem hx hk
  refine cr_sortedPD pins s σ H _ us Q I r ⟨a, xs, k, rfl, hs, fun x hm => ?_, fun ys p h1 h2 hp => ?_⟩
  · cases k2 x hm with
    | tup a1 b1 =>
      cases b1 with
      | cons c1 d1 =>
        cases d1 with
        | cons e1 f1 => cases c1; cases e1; cases f1; exact ⟨_, rfl, a1⟩
  · refine q ys p (fun Z sz rz => ?_) hp
    have hkz : ∀ p v, Rep X.K Z (prD p) v → k v = p := fun p v r => hk p v (Rep.mono sz r)
    obtain ⟨m1, m2⟩ := reps_mem rz hkz
    have e : ys.map k = srtP ps := by
      refine srt_uniq ?_ (List.pairwise_map.mpr h1) (srtP_srt ps)
      exact ((h2.perm.map k).trans (by rw [m1])).trans (srtP_perm ps).symm
    rw [← e]
    exact reps_of fun y hy => m2 y (h2.perm.mem_iff.mp hy)
section
variable {X : Cx} {Γ : Gd} {N : List Str} {sc : Scope} {lv : Nat} {vl ll : List Nat} {gl : List Str} {env env' : DEnv} {Φ : Outs} {rest : List Stmt} {tg e a b : Expr} {es : List Expr} {ds : List D} {d : D} {k k1 k2 : Kd} {pos pn np apos cpos : Pos} {s t n : Str} {i j : Int} {x y : D} {p : Bool} {kz : K2}
theorem srtPL_ {ps qs : List (Int × Int)} (bn : Bn X "sorted" (.builtin "sorted")) (ha : Ev X env a (.lst (ps.map prD)) k1) (h : srtG ps = some qs) (he : starEach [a] X.env = [(false, eval a X.env)]) : Ev X env (.Call (.Name "sorted" pn) [a] [] pos) (.lst (qs.map prD)) k1.kid.mk := by
  cases h
  exact ev_call1 cr_srtP bn ha (fun F B H v Q s r1 q => by
    obtain ⟨a, vs, rfl, e2, r⟩ := r1.lst s
    refine ⟨a, vs, ps, rfl, SqL.of e2, r.reps s, fun ys p hy hp => ?_⟩
    have r2 : repsK X.K F B H k1.kid ((srtP ps).map prD) ys := by
      cases k1 with
      | drt => exact hy H (.refl _) r
      | brw => exact hy B s.bh r
      | own => exact hy F s.fh r
      | cln => exact hy F s.fh r
      | shl => exact hy F s.fh r
    exact new_lst (kid_cases _) s r2 (fun w H2 F2 B2 g2 r2 => q w H2 F2 B2 g2 (by rw [mk_eq (kid_cases _)] at r2; exact r2)) p hp) he
theorem itzL_ok {α β : Type} {f : α → D} {g : β → D} {xs : List α} {ys : List β} {K : PySem.W.Frag} {P F B : Hp} {l1 l2 : Addr} {vs us : List V} {k : K2} (h1 : P l1 = some (.lst vs)) (h2 : P l2 = some (.lst us)) (r1 : repsK K F B P k.k (xs.map f) vs) (r2 : repsK K F B P k.k (ys.map g) us) : ItOk K P F B (Itz K l1 l2) k ((List.zip xs ys).map fun x => .tup [f x.1, g x.2]) := by
  have at_ : ∀ (i : Nat) d, ((List.zip xs ys).map fun x => D.tup [f x.1, g x.2])[i]? = some d → ∃ x y, (xs.map f)[i]? = some (f x) ∧ (ys.map g)[i]? = some (g y) ∧ d = .tup [f x, g y] := fun i d e => by
    rw [List.getElem?_map] at e
    cases q : (List.zip xs ys)[i]? with
    | none => rw [q] at e; cases e
    | some x =>
      rw [q] at e; cases e
      rw [List.getElem?_zip_eq_some] at q
      exact ⟨x.1, x.2, by rw [List.getElem?_map, q.1]; rfl, by rw [List.getElem?_map, q.2]; rfl, rfl⟩
  refine ⟨fun i d H s e => ?_, fun i d H x H' s e y => .inr ?_, fun H s => ⟨vs, us, SqL.of (s _ _ h1), SqL.of (s _ _ h2), by rw [r1.len, r2.len, List.length_map, List.length_map, List.length_map, List.length_zip]; omega⟩⟩
  · obtain ⟨x, y, e1, e2, _⟩ := at_ i d e
    obtain ⟨u, c1, _⟩ := repsK.get (by cases k <;> simp) r1 e1
    obtain ⟨w, c2, _⟩ := repsK.get (by cases k <;> simp) r2 e2
    exact ⟨vs, us, u, w, SqL.of (s _ _ h1), SqL.of (s _ _ h2), c1, c2⟩
  · obtain ⟨x0, y0, e1, e2, e3⟩ := at_ i d e
    obtain ⟨u, c1, q1⟩ := repsK.get (by cases k <;> simp) r1 e1
    obtain ⟨w, c2, q2⟩ := repsK.get (by cases k <;> simp) r2 e2
    obtain ⟨T, a1, a2, z1, z2, z3, z4, z5⟩ := y
    have m1 := z4 vs (SqL.of (s _ _ h1))
    have m2 := z5 us (SqL.of (s _ _ h2))
    rw [c1] at m1; cases m1
    rw [c2] at m2; cases m2
    refine ⟨T, [u, w], [f x0, g y0], z2, z3, z1, e3, ?_⟩
    cases k with
    | c => exact .cons q1 (.cons q2 .nil)
    | b => exact .cons q1 (.cons q2 .nil)
theorem zipLC_ {α β : Type} {f : α → D} {g : β → D} {xs : List α} {ys : List β} {elts : List Expr} {kk : Nat} {tpos : Pos} (hg : Gl X "zip") (hm : X.mg "zip" = none) (ha : Ev X env a (.lst (xs.map f)) .cln) (hb : Ev X env b (.lst (ys.map g)) .cln) (hs : starEach [a, b] X.env = (false, eval a X.env) :: starEach [b] X.env) (hs2 : starEach [b] X.env = (false, eval b X.env) :: starEach [] X.env) :
    EI X env (.Tuple elts kk tpos) (.Call (.Name "zip" pn) [a, b] [] pos) ((List.zip xs ys).map fun x => .tup [f x.1, g x.2]) .c true :=
  ⟨(pi_zipA hg hm (pa_cons ha.pe (pa_cons hb.pe pa_nil hs2) hs) hs (by rw [hs2]; rfl)).mono fun σ H R ⟨F, B, E, q⟩ => ⟨F, B, E, fun v H1 F1 B1 g r => ⟨F1, B1, E.grow g, fun u H2 F2 B2 g2 r2 => by
    cases (show Rep X.K F1 (.lst (xs.map f)) v from r) with
    | lst s1 t1 =>
      cases (show Rep X.K F2 (.lst (ys.map _)) u from r2) with
      | lst s2 t2 =>
        have s1' := g2.f _ _ s1
        have t1' := Reps.mono g2.f t1
        have g := g.trans g2
        exact ⟨_, _, _, _, rfl, .inl ⟨SqL.of (g.hs.fh _ _ s1'), SqL.of (g.hs.fh _ _ s2), q _ H2 F2 B2 g (itzL_ok (g.hs.fb _ _ s1') (g.hs.fb _ _ s2) t1' t2)⟩⟩⟩⟩⟩
theorem zipLB_ {α β : Type} {f : α → D} {g : β → D} {xs : List α} {ys : List β} {elts : List Expr} {kk : Nat} {tpos : Pos} (hg : Gl X "zip") (hm : X.mg "zip" = none) (ha : Ev X env a (.lst (xs.map f)) .brw) (hb : Ev X env b (.lst (ys.map g)) .brw) (hs : starEach [a, b] X.env = (false, eval a X.env) :: starEach [b] X.env) (hs2 : starEach [b] X.env = (false, eval b X.env) :: starEach [] X.env) :
    EI X env (.Tuple elts kk tpos) (.Call (.Name "zip" pn) [a, b] [] pos) ((List.zip xs ys).map fun x => .tup [f x.1, g x.2]) .b true :=
  ⟨(pi_zipA hg hm (pa_cons ha.pe (pa_cons hb.pe pa_nil hs2) hs) hs (by rw [hs2]; rfl)).mono fun σ H R ⟨F, B, E, q⟩ => ⟨F, B, E, fun v H1 F1 B1 g r => ⟨F1, B1, E.grow g, fun u H2 F2 B2 g2 r2 => by
    cases (show Rep X.K B1 (.lst (xs.map f)) v from r) with
    | lst s1 t1 =>
      cases (show Rep X.K B2 (.lst (ys.map _)) u from r2) with
      | lst s2 t2 =>
        have s1' := g2.b _ _ s1
        have t1' := Reps.mono g2.b t1
        have g := g.trans g2
        exact ⟨_, _, _, _, rfl, .inl ⟨SqL.of (g.hs.bh _ _ s1'), SqL.of (g.hs.bh _ _ s2), q _ H2 F2 B2 g (itzL_ok (s1') (s2) t1' t2)⟩⟩⟩⟩⟩
theorem itzT_ok {α β : Type} {f : α → D} {g : β → D} {xs : List α} {ys : List β} {K : PySem.W.Frag} {P F B : Hp} {l1 l2 : Addr} {vs us : List V} {k : K2} (h1 : SqT K P l1 vs) (h2 : SqT K P l2 us) (r1 : repsK K F B P k.k (xs.map f) vs) (r2 : repsK K F B P k.k (ys.map g) us) : ItOk K P F B (ItzT K l1 l2) k ((List.zip xs ys).map fun x => .tup [f x.1, g x.2]) := by
  have at_ : ∀ (i : Nat) d, ((List.zip xs ys).map fun x => D.tup [f x.1, g x.2])[i]? = some d → ∃ x y, (xs.map f)[i]? = some (f x) ∧ (ys.map g)[i]? = some (g y) ∧ d = .tup [f x, g y] := fun i d e => by
    rw [List.getElem?_map] at e
    cases q : (List.zip xs ys)[i]? with
    | none => rw [q] at e; cases e
    | some x =>
      rw [q] at e; cases e
      rw [List.getElem?_zip_eq_some] at q
      exact ⟨x.1, x.2, by rw [List.getElem?_map, q.1]; rfl, by rw [List.getElem?_map, q.2]; rfl, rfl⟩
  refine ⟨fun i d H s e => ?_, fun i d H x H' s e y => .inr ?_, fun H s => ⟨vs, us, Same.seqT s h1, Same.seqT s h2, by rw [r1.len, r2.len, List.length_map, List.length_map, List.length_map, List.length_zip]; omega⟩⟩
  · obtain ⟨x, y, e1, e2, _⟩ := at_ i d e
    obtain ⟨u, c1, _⟩ := repsK.get (by cases k <;> simp) r1 e1
    obtain ⟨w, c2, _⟩ := repsK.get (by cases k <;> simp) r2 e2
    exact ⟨vs, us, u, w, Same.seqT s h1, Same.seqT s h2, c1, c2⟩
  · obtain ⟨x0, y0, e1, e2, e3⟩ := at_ i d e
    obtain ⟨u, c1, q1⟩ := repsK.get (by cases k <;> simp) r1 e1
    obtain ⟨w, c2, q2⟩ := repsK.get (by cases k <;> simp) r2 e2
    obtain ⟨T, a1, a2, z1, z2, z3, z4, z5⟩ := y
    have m1 := z4 vs (Same.seqT s h1)
    have m2 := z5 us (Same.seqT s h2)
    rw [c1] at m1; cases m1
    rw [c2] at m2; cases m2
    refine ⟨T, [u, w], [f x0, g y0], z2, z3, z1, e3, ?_⟩
    cases k with
    | c => exact .cons q1 (.cons q2 .nil)
    | b => exact .cons q1 (.cons q2 .nil)
theorem zipTC_ {α β : Type} {f : α → D} {g : β → D} {xs : List α} {ys : List β} {elts : List Expr} {kk : Nat} {tpos : Pos} (hg : Gl X "zip") (hm : X.mg "zip" = none) (ha : Ev X env a (.tup (xs.map f)) .cln) (hb : Ev X env b (.tup (ys.map g)) .cln) (hs : starEach [a, b] X.env = (false, eval a X.env) :: starEach [b] X.env) (hs2 : starEach [b] X.env = (false, eval b X.env) :: starEach [] X.env) :
    EI X env (.Tuple elts kk tpos) (.Call (.Name "zip" pn) [a, b] [] pos) ((List.zip xs ys).map fun x => .tup [f x.1, g x.2]) .c true :=
  ⟨(pi_zipA hg hm (pa_cons ha.pe (pa_cons hb.pe pa_nil hs2) hs) hs (by rw [hs2]; rfl)).mono fun σ H R ⟨F, B, E, q⟩ => ⟨F, B, E, fun v H1 F1 B1 g r => ⟨F1, B1, E.grow g, fun u H2 F2 B2 g2 r2 => by
    cases (show Rep X.K F1 (.tup (xs.map f)) v from r) with
    | tup s1 t1 =>
      cases (show Rep X.K F2 (.tup (ys.map _)) u from r2) with
      | tup s2 t2 =>
        have s1' := Same.seqT g2.f s1
        have t1' := Reps.mono g2.f t1
        have g := g.trans g2
        exact ⟨_, _, _, _, rfl, .inr ⟨Same.seqT g.hs.fh s1', Same.seqT g.hs.fh s2, q _ H2 F2 B2 g (itzT_ok (Same.seqT g.hs.fb s1') (Same.seqT g.hs.fb s2) t1' t2)⟩⟩⟩⟩⟩
theorem zipTB_ {α β : Type} {f : α → D} {g : β → D} {xs : List α} {ys : List β} {elts : List Expr} {kk : Nat} {tpos : Pos} (hg : Gl X "zip") (hm : X.mg "zip" = none) (ha : Ev X env a (.tup (xs.map f)) .brw) (hb : Ev X env b (.tup (ys.map g)) .brw) (hs : starEach [a, b] X.env = (false, eval a X.env) :: starEach [b] X.env) (hs2 : starEach [b] X.env = (false, eval b X.env) :: starEach [] X.env) :
    EI X env (.Tuple elts kk tpos) (.Call (.Name "zip" pn) [a, b] [] pos) ((List.zip xs ys).map fun x => .tup [f x.1, g x.2]) .b true :=
  ⟨(pi_zipA hg hm (pa_cons ha.pe (pa_cons hb.pe pa_nil hs2) hs) hs (by rw [hs2]; rfl)).mono fun σ H R ⟨F, B, E, q⟩ => ⟨F, B, E, fun v H1 F1 B1 g r => ⟨F1, B1, E.grow g, fun u H2 F2 B2 g2 r2 => by
    cases (show Rep X.K B1 (.tup (xs.map f)) v from r) with
    | tup s1 t1 =>
      cases (show Rep X.K B2 (.tup (ys.map _)) u from r2) with
      | tup s2 t2 =>
        have s1' := Same.seqT g2.b s1
        have t1' := Reps.mono g2.b t1
        have g := g.trans g2
        exact ⟨_, _, _, _, rfl, .inr ⟨Same.seqT g.hs.bh s1', Same.seqT g.hs.bh s2, q _ H2 F2 B2 g (itzT_ok (s1') (s2) t1' t2)⟩⟩⟩⟩⟩
def srtI (xs : List Int) : List Int := xs.mergeSort fun a b => decide (a ≤ b)
theorem srtIL_ {ns : List Int} (bn : Bn X "sorted" (.builtin "sorted")) (ha : Ev X env a (.lst (ns.map D.int)) k1) (he : starEach [a] X.env = [(false, eval a X.env)]) : Ev X env (.Call (.Name "sorted" pn) [a] [] pos) (.lst ((srtI ns).map D.int)) .own := by
  exact ev_call1 cr_sortedI bn ha (fun F B H v Q s r1 q => by
    obtain ⟨a, vs, rfl, e2, r⟩ := r1.lst s
    have ev := reps_ints (r.reps s)
    subst ev
    refine ⟨a, ns, rfl, SqL.of e2, fun ns' p hp hs hn => ?_⟩
    have e : ns' = srtI ns := by
      refine List.Perm.eq_of_pairwise (le := (· ≤ ·)) (fun a b _ _ c1 c2 => Int.le_antisymm c1 c2) hs ?_ (hp.trans (List.mergeSort_perm ..).symm)
      have := List.pairwise_mergeSort (le := fun a b : Int => decide (a ≤ b)) (fun a b c h1 h2 => decide_eq_true (Int.le_trans (of_decide_eq_true h1) (of_decide_eq_true h2))) (fun a b => by
        by_cases h : a ≤ b
        · simp [h]
        · simp [h]; omega) ns
      exact this.imp fun h => of_decide_eq_true h
    subst e
    have rr : ∀ ms : List Int, Reps X.K F (ms.map D.int) (ms.map V.int) := fun ms => by
      induction ms with
      | nil => exact .nil
      | cons m ms ih => exact .cons (.int m) ih
    exact new_lst (kk := .cln) (.inl rfl) s (rr _) (fun w H2 F2 B2 g2 r2 => q w H2 F2 B2 g2 r2) p hn) he
end
section
variable {prog : Program} {w : World} {A : Around} {E : Value → Shared → Prop} {s : Shared}
theorem sliceApplied_rev {sl : Addr} {vl vu vs : Value} {n : Nat} {Q : Int × Int × Nat → Shared → Prop} (hs : s.heap.IsSliceOf sl vl vu vs) (pl : IsPart vl none) (pu : IsPart vu none) (ps : IsPart vs (some (-1)))
    (h : Q (((n : Int) - 1), -1, n) s) : wpAny (model prog w) A (Builtin.Slice.sliceApplied (.ref sl) (pure (n : Int))) Q E s := by
  obtain ⟨os, hos, hcs, hds⟩ := id hs
  unfold Builtin.Slice.sliceApplied Builtin.Slice.sliceFields
  refine wpAny_bind (wpAny_bind (wpAny_field hos hds (x := vl) rfl (wpAny_bind (wpAny_field hos hds (x := vu) rfl (wpAny_bind (wpAny_field hos hds (x := vs) rfl (wpAny_pure ?_)))))))
  refine wpAny_bind (HT.slicePart_ ps ?_)
  show wpAny _ _ (if ((-1 : Int) == 0) = true then _ else _) _ _ s
  rw [if_neg (by decide)]
  refine wpAny_bind (HT.slicePart_ pl (wpAny_bind (HT.slicePart_ pu (wpAny_bind (wpAny_pure ?_)))))
  show wpAny _ _ (match Builtin.Slice.sliceAdjust none none (-1) (n : Int) with | (lo, hi) => pure (lo, (-1 : Int), Builtin.Slice.slicePlaces lo hi (-1))) _ _ s
  rw [show Builtin.Slice.sliceAdjust none none (-1) (n : Int) = ((n : Int) - 1, -1) by
    unfold Builtin.Slice.sliceAdjust
    simp]
  show wpAny _ _ (pure (((n : Int) - 1), (-1 : Int), Builtin.Slice.slicePlaces ((n : Int) - 1) (-1) (-1))) _ _ s
  rw [show Builtin.Slice.slicePlaces ((n : Int) - 1) (-1) (-1) = n by
    unfold Builtin.Slice.slicePlaces
    simp
    omega]
  exact wpAny_pure h
theorem pick_rev (xs : Array Value) : ((List.range xs.size).filterMap fun (m : Nat) => xs[((xs.size : Int) - 1 + (m : Int) * -1).toNat]?) = xs.toList.reverse := by
  apply List.ext_getElem?
  intro i
  have e : ((List.range xs.size).filterMap fun (m : Nat) => xs[((xs.size : Int) - 1 + (m : Int) * -1).toNat]?) = (List.range xs.size).map fun m => xs.getD (xs.size - 1 - m) .none := by
    have : ∀ l : List Nat, (∀ m ∈ l, m < xs.size) → (l.filterMap fun (m : Nat) => xs[((xs.size : Int) - 1 + (m : Int) * -1).toNat]?) = l.map fun m => xs.getD (xs.size - 1 - m) .none := by
      intro l
      induction l with
      | nil => intro _; rfl
      | cons m l ih =>
        intro h
        have hm := h m (List.mem_cons_self ..)
        have e1 : ((xs.size : Int) - 1 + (m : Int) * -1).toNat = xs.size - 1 - m := by omega
        rw [List.filterMap_cons, e1, Array.getElem?_eq_getElem (by omega), List.map_cons, ih fun z hz => h z (List.mem_cons_of_mem _ hz)]
        show _ :: _ = _
        rw [Array.getD_eq_getD_getElem?, Array.getElem?_eq_getElem (by omega)]; rfl
    exact this _ fun m hm => List.mem_range.mp hm
  rw [e, List.getElem?_map]
  by_cases hi : i < xs.size
  · rw [List.getElem?_range hi, List.getElem?_reverse (by simpa using hi)]
    show some (xs.getD (xs.size - 1 - i) .none) = _
    rw [Array.getD_eq_getD_getElem?, Array.getElem?_eq_getElem (by omega), Array.length_toList, List.getElem?_eq_getElem (by rw [Array.length_toList]; omega)]
    simp
  · rw [List.getElem?_eq_none (by rw [List.length_range]; omega), List.getElem?_eq_none (by rw [List.length_reverse, Array.length_toList]; omega)]; rfl
theorem getItem_tuple_rev {t sl : Addr} {items : Array Value} {vl vu vs : Value} {Q : Value → Shared → Prop} (ht : IsTup s.heap t items) (hs : s.heap.IsSliceOf sl vl vu vs) (pl : IsPart vl none) (pu : IsPart vu none) (ps : IsPart vs (some (-1)))
    (h : Q (.ref s.heap.objs.size) { s with heap := s.heap.push { cls := .type "tuple", data := .seq items.toList.reverse.toArray } })
    (hsz : items.size ≤ sizeLine) : wpAny (model prog w) A (getItem (.ref t) (.ref sl)) Q E s := by
  have htake : sizeOk (.seq items.toList.reverse.toArray) := by
    show items.toList.reverse.toArray.size ≤ sizeLine
    rw [List.size_toArray, List.length_reverse, Array.length_toList]
    omega
  obtain ⟨os, hos, hcs, hds⟩ := id hs
  have hTs : s.TypeIs (.ref sl) "slice" := ⟨os, hos, hcs⟩
  unfold getItem
  try with_reducible refine wpAny_holding ?_
  first | refine wpAny_bind (wpAny_pure ?_) | skip
  refine wpAny_bind (wpAny_sequenceKey ht.typeIs (by decide) ?_)
  refine wpAny_bind (wpAny_callSpecial?_slot (name := Str.ofString "__getitem__") ht.typeIs PyProof.Rows.slot_tuple_getitem
    (wpAny_call_entry PyProof.Rows.slot_tuple_getitem ht.typeIs entry_tuple_getitem ?_ (args_tuple_getitem _ _)))
  show wpAny _ _ (Builtin.Tuple.tupleItemsOf (.ref t) >>= _) _ _ s
  refine wpAny_bind (tupleItemsOf_ ht ?_)
  refine wpAny_bind (wpAny_typeOf hTs ?_)
  rw [if_pos (by decide)]
  refine wpAny_bind (sliceApplied_rev hs pl pu ps ?_)
  show wpAny _ _ (if ((((items.size : Int) - 1) == 0) && (-1 : Int) == 1 && (items.size == items.size)) = true then _ else _) _ _ s
  rw [if_neg (by simp), pick_rev]
  first
    | exact wpAny_bind (m := Builtin.Tuple.tupleExact _) (wpAny_newObj_type (wpAny_pure ⟨_, rfl, wpAny_pure h⟩) htake)
    | exact wpAny_bind (m := Builtin.Tuple.tupleExact _) (wpAny_newObj_type (wpAny_bind (wpAny_pure (wpAny_pure ⟨_, rfl, wpAny_pure h⟩))) htake)
    | exact wpAny_bind (wpAny_bind (m := Builtin.Tuple.tupleExact _) (wpAny_newObj_type (wpAny_pure (wpAny_pure ⟨_, rfl, wpAny_pure h⟩)) htake))
    | exact wpAny_bind (wpAny_bind (m := Builtin.Tuple.tupleExact _) (wpAny_newObj_type (wpAny_pure ⟨_, rfl, wpAny_pure h⟩) htake))
end
def tRevT (K : PySem.W.Frag) (te : TE) : TE := fun σ H Q => te σ H fun x H1 => ∃ a xs, x = .ref a ∧ SqT K H1 a xs ∧ ∀ p, H1 p = none → Q (.ref p) (upd H1 p (.tup xs.reverse))
theorem pe_revT {X : Cx} {e : Expr} {te : TE} {k : Nat} {p1 p2 p3 pos : Pos} (he : PE X e te) : PE X (.Subscript e (.Slice none none (some (.UnaryOp .USub (.Constant (.int 1) k p1) p2)) p3) pos) (tRevT X.K te) := by
  refine ⟨fun pins s σ H Q I h => ?_⟩
  refine Subscript_ (thn (he.run pins s σ H _ I h) fun v s1 ⟨x, H1, I1, r1, q1⟩ => ?_)
  obtain ⟨a, xs, ex, hx, q⟩ := q1
  subst ex
  cases r1
  have hst : PO X (some (.UnaryOp .USub (.Constant (.int 1) k p1) p2)) (tPart (tUn (rU fun i => .int (-i)) (tC (.int 1)))) := po_some (pe_un un_neg pe_int)
  refine wpAny_Slice (thn (po_none.run pins s1 σ H1 (fun o H2 => o = none ∧ H2 = H1) I1 ⟨rfl, rfl⟩) fun vl s2 ⟨l, H2, I2, pl, el, e2⟩ => ?_)
  subst el e2
  refine thn (po_none.run pins s2 σ H2 (fun o H3 => o = none ∧ H3 = H2) I2 ⟨rfl, rfl⟩) fun vu s3 ⟨u, H3, I3, pu, eu, e3⟩ => ?_
  subst eu e3
  refine thn (hst.run pins s3 σ H3 (fun o H4 => o = some (-1) ∧ H4 = H3) I3 ⟨1, rfl, -1, rfl, rfl, rfl⟩) fun vs s4 ⟨o, H4, I4, ps, eo, e4⟩ => ?_
  subst eo e4
  have I5 : Inv X pins σ H4 { s4 with heap := s4.heap.push { cls := .type "slice", data := .fields #[vl, vu, vs] } } := I4.kept (t' := s4.toks) fun b ob q => Heap.get?_push_of_some _ q
  obtain ⟨its, r, ht, hz⟩ := I5.tuple hx
  have hlen := r.length
  show wpAny (model X.prog X.w) X.A (subscriptTail e (.Slice none none (some (.UnaryOp .USub (.Constant (.int 1) k p1) p2)) p3) (.ref a) (.ref s4.heap.objs.size)) (EP X pins σ Q) X.xe { s4 with heap := s4.heap.push { cls := .type "slice", data := .fields #[vl, vu, vs] } }
  refine tail_any (ops := [.ref a, .ref s4.heap.objs.size]) ht.typeIs PyProof.Rows.slot_tuple_getitem.lookup ?_ (by with_unfolding_all rfl)
  refine getItem_tuple_rev ht (Heap.IsSliceOf.new _ vl vu vs) pl pu ps ?_ (by rw [List.size_toArray]; omega)
  refine ⟨.ref _, _, I5.laid (t' := s4.toks) (o := .tup xs.reverse) (fun b ob q => Heap.get?_push_of_some _ q) (Nat.le_refl _) ?_, rfl, q _ (I5.hok.fresh (Nat.le_refl _))⟩
  have rv : ∀ {xs : List V} {us : List Value}, Vals xs us → Vals xs.reverse us.reverse := fun {xs us} r => by
    induction r with
    | nil => exact .nil
    | cons a t ih => rw [List.reverse_cons, List.reverse_cons]; exact Vals.append ih (.cons a .nil)
  exact ⟨by rw [List.length_reverse]; exact hz, _, rv r, IsTup.new _ _⟩
section
variable {X : Cx} {env : DEnv} {a : Expr} {k1 : Kd} {pos : Pos}
theorem revT_ {α : Type} {f : α → D} {xs : List α} {kk : Nat} {p1 p2 p3 : Pos} (ha : Ev X env a (.tup (xs.map f)) k1) : Ev X env (.Subscript a (.Slice none none (some (.UnaryOp .USub (.Constant (.int 1) kk p1) p2)) p3) pos) (.tup (xs.reverse.map f)) k1.kid := by
  rw [List.map_reverse]
  refine ⟨(pe_revT ha.st.pe).mono fun σ H Q ⟨F, B, E, q⟩ => ⟨F, B, E, fun v H1 F1 B1 g r1 => ?_⟩⟩
  obtain ⟨a, vs, e1, e2, r⟩ := RepS.tup g.hs (RepK.any0 r1)
  refine ⟨a, vs, e1, e2, new_tup (kid_cases _) g.hs (?_ : repsK _ _ _ _ k1.kid (xs.map f).reverse _) fun w H2 F2 B2 g2 r2 => q w H2 F2 B2 (g.trans g2) (RepK.back g.h r2)⟩
  cases k1 <;> exact Reps.reverse r
end
end DL
namespace DL
open PySem PySem.Spec L2
open PyProof.Rows hiding St
section
variable {X : Cx} {Γ : Gd} {N : List Str} {sc : Scope} {lv lc : Nat} {vl ll : List Nat} {gl : List Str} {env env' : DEnv} {e : Expr} {es : List Expr} {ds zs dds : List D} {d : D} {ka kb kk k1 k2 : Kd} {pos p kpos : Pos} {n : Str} {R : Rel} {kws : List Keyword} {nm : Option Str}
theorem Cal.ev0 (C : Cal Γ n R lc dds) (A : At X Γ N sc lv) (S : Sc N sc vl ll gl) (j : Nat) (hg : gl[j]? = some n) (hl : lc ≤ lv) (hkr : kk = .own ∨ kk = .cln ∨ kk = .brw) (hR : R dds d kk) : Ev X env (.Call (.Name n p) [] [] pos) d (retK .cln kk) := by
  obtain ⟨f, fd, ps, dvs, dus, h1, h2, h3, h4, h5, h6⟩ := C.ex
  have eP := A.eP; have eW := A.eW; have eK := A.eK; have eM := A.eM; have eB := A.eB
  rw [← eP, ← eW, ← eK, ← eM, ← eB] at h1
  rw [← eM] at h2
  rw [← eK] at h3 h4 h6
  exact ev_call0 h1 (A.room.mono hl) (glo A S j hg) h2 h3 h4 h5 h6 hR hkr (plainB_ok (S.glo hg).2).1
structure EK (X : Cx) (env : DEnv) (kws : List Keyword) (ds : List D) (k : Kd) : Prop where
  pk : PK X kws (tEA X.K env ds k)
theorem _root_.L2.PK.mono {X : Cx} {e : List Keyword} {t t' : TA} (h : PK X e t) (m : ∀ σ H Q, t' σ H Q → t σ H Q) : PK X e t' := ⟨fun pos pins s σ H Q I q => h.run pos pins s σ H Q I (m σ H Q q)⟩
theorem ek_nil : EK X env [] [] .cln := ⟨pk_nil.mono fun σ H Q ⟨F, B, E, q⟩ => q [] H F B (.refl E.hs) .nil⟩
theorem ek_cons (ha : Ev X env e d k1) (hr : EK X env kws ds k2) (h2 : k2 = .cln ∨ k2 = .brw ∨ k2 = .drt) : EK X env (⟨nm, e, kpos⟩ :: kws) (d :: ds) ((heldOf k1 d).join k2) :=
  ⟨(pk_cons ha.heldOf.pe hr.pk).mono fun σ H Q ⟨F, B, E, q⟩ => ⟨F, B, E, fun v H1 F1 B1 g1 r1 => ⟨F1, B1, E.grow g1, fun vs H2 F2 B2 g2 r2 => by
    have h1 := held_cases k1 d
    refine q _ _ _ _ (g1.trans g2) (repsK_cons (join_cases _ _) (repsK.up g2.hs h1 h2 (repsK.grow g2 (repK_one h1 r1))) ?_)
    rw [join_comm]
    exact repsK.up g2.hs h2 h1 r2⟩⟩⟩
theorem ek_consH (ha : Ev X env e d k1) (hr : EK X env kws ds k2) (h2 : k2 = .cln ∨ k2 = .brw ∨ k2 = .drt) : EK X env (⟨nm, e, kpos⟩ :: kws) (d :: ds) (k1.held.join k2) :=
  ⟨(pk_cons ha.held.pe hr.pk).mono fun σ H Q ⟨F, B, E, q⟩ => ⟨F, B, E, fun v H1 F1 B1 g1 r1 => ⟨F1, B1, E.grow g1, fun vs H2 F2 B2 g2 r2 => by
    have h1 : k1.held = .cln ∨ k1.held = .brw ∨ k1.held = .drt := by cases k1 <;> simp [Kd.held]
    refine q _ _ _ _ (g1.trans g2) (repsK_cons (join_cases _ _) (repsK.up g2.hs h1 h2 (repsK.grow g2 (repK_one h1 r1))) ?_)
    rw [join_comm]
    exact repsK.up g2.hs h2 h1 r2⟩⟩⟩
structure CalK (Γ : Gd) (n : Str) (R : Rel) (lc np : Nat) (ks : List Str) (ord : List D → List D → List D) : Prop where
  ex : ∃ f fd ps g gV, FnOk Γ.P Γ.w Γ.K Γ.mg Γ.base CX0 lc f fd ps (FnSp Γ.K R) ∧ Γ.mg n = some (.ref f) ∧ PySem.W.keepIn Γ.K (.ref f) = true ∧ KBn Γ.K fd ps np ks g gV ∧
    ∀ (B : Hp) ds zs vs us, ds.length = np → zs.length = ks.length → Reps Γ.K B ds vs → Reps Γ.K B zs us → Reps Γ.K B (ord ds zs) (gV vs us)
theorem reps_ord {K : PySem.W.Frag} {F B H : Hp} {vs us : List V} {ord : List D → List D → List D} {gV : List V → List V → List V} {k : Kd} (hs : Hs F B H) (h : ∀ (B : Hp), Reps K B ds vs → Reps K B zs us → Reps K B (ord ds zs) (gV vs us)) (r1 : repsK K F B H k ds vs) (r2 : repsK K F B H k zs us) : repsK K F B H k (ord ds zs) (gV vs us) := by
  cases k with
  | drt => exact h H r1 r2
  | brw => exact h B r1 r2
  | own => exact h F r1 r2
  | cln => exact h F r1 r2
  | shl => exact h F r1 r2
theorem CalK.ev {np : Nat} {ks : List Str} {ord : List D → List D → List D} (C : CalK Γ n R lc np ks ord) (A : At X Γ N sc lv) (S : Sc N sc vl ll gl) (j : Nat) (hg : gl[j]? = some n) (hl : lc ≤ lv) (ha : EA X env (e :: es) ds ka) (hk : ka = .cln ∨ ka = .brw ∨ ka = .drt) (hz : EK X env kws zs kb) (hk2 : kb = .cln ∨ kb = .brw ∨ kb = .drt) (hkr : kk = .own ∨ kk = .cln ∨ kk = .brw)
    (l1 : ds.length = np) (l2 : zs.length = ks.length) (hall : (backToKw pos (keywordEach kws X.env)).all (·.1.isSome) = true) (hks : (backToKw pos (keywordEach kws X.env)).filterMap (·.1) = ks) (he : starEach (e :: es) X.env = (false, eval e X.env) :: starEach es X.env)
    (hpl : ((backTo pos (starEach (e :: es) X.env)).any (·.1) || (backToKw pos (keywordEach kws X.env)).any (·.1.isNone)) = false) (hR : R (ord ds zs) d kk) : Ev X env (.Call (.Name n p) (e :: es) kws pos) d (retK (ka.join kb) kk) := by
  obtain ⟨f, fd, ps, g, gV, h1, h2, h3, h4, h5⟩ := C.ex
  have eP := A.eP; have eW := A.eW; have eK := A.eK; have eM := A.eM; have eB := A.eB
  rw [← eP, ← eW, ← eK, ← eM, ← eB] at h1
  rw [← eM] at h2
  rw [← eK] at h3 h4 h5
  refine ⟨(pe_callN h1 (A.room.mono hl) (glo A S j hg) h2 h3 h4 pass0 ha.pa hz.pk hall hks (plainB_ok (S.glo hg).2).1 he hpl).mono fun σ H Q ⟨F, B, E, q⟩ => ⟨F, B, E, fun vs H1 F1 B1 g1 r1 => ⟨F1, B1, E.grow g1, fun us H2 F2 B2 g2 r2 => ?_⟩⟩⟩
  have r1' := repsK.grow g2 r1
  refine ⟨by rw [r1'.len, l1], by rw [r2.len, l2], call_rel g2.hs (join_cases _ _) hkr (reps_ord g2.hs (fun B q1 q2 => h5 B _ _ _ _ l1 l2 q1 q2) (repsK.up g2.hs hk hk2 r1') (by rw [join_comm]; exact repsK.up g2.hs hk2 hk r2)) hR fun w H3 F3 B3 g3 r3 => ?_⟩
  exact q w H3 F3 B3 ((g1.trans g2).trans g3) (RepK.back (g1.trans g2).h r3)
theorem CalK.ev0 {ks : List Str} {ord : List D → List D → List D} (C : CalK Γ n R lc 0 ks ord) (A : At X Γ N sc lv) (S : Sc N sc vl ll gl) (j : Nat) (hg : gl[j]? = some n) (hl : lc ≤ lv) (hz : EK X env kws zs kb) (hk2 : kb = .cln ∨ kb = .brw ∨ kb = .drt) (hkr : kk = .own ∨ kk = .cln ∨ kk = .brw)
    (l2 : zs.length = ks.length) (hall : (backToKw pos (keywordEach kws X.env)).all (·.1.isSome) = true) (hks : (backToKw pos (keywordEach kws X.env)).filterMap (·.1) = ks)
    (hpl : ((backTo pos (starEach [] X.env)).any (·.1) || (backToKw pos (keywordEach kws X.env)).any (·.1.isNone)) = false) (hR : R (ord [] zs) d kk) : Ev X env (.Call (.Name n p) [] kws pos) d (retK kb kk) := by
  obtain ⟨f, fd, ps, g, gV, h1, h2, h3, h4, h5⟩ := C.ex
  have eP := A.eP; have eW := A.eW; have eK := A.eK; have eM := A.eM; have eB := A.eB
  rw [← eP, ← eW, ← eK, ← eM, ← eB] at h1
  rw [← eM] at h2
  rw [← eK] at h3 h4 h5
  have hdb := (plainB_ok (S.glo hg).2).1
  have hgl := glo A S j hg
  have hr := A.room.mono hl
  refine ⟨PE.mono (t := fun σ H Q => tEA X.K env zs kb σ H fun us H2 => us.length = ks.length ∧ FnSp X.K R (gV [] us) H2 Q E0) ⟨fun pins s σ H Q I h => ?_⟩ fun σ H Q ⟨F, B, E, q⟩ => ⟨F, B, E, fun us H2 F2 B2 g2 r2 => ?_⟩⟩
  · refine wpAny_Call_Name_kw (ld_glob I hgl h2 ?_ hdb)
    refine PySem.W.callWith_KW0 (h₀ := X.base) I.ok.mod.kin h3 hall (thn (hz.pk.run pos pins s σ H _ I h) fun ws s2 ⟨zs, H2, I2, rz, l2, q2⟩ => ⟨I2.kIn, ?_⟩) hpl
    rw [hks]
    exact run_fnN (us := []) (vs := []) h1 hr h4 pass0 I2 .nil rz rfl l2 q2
  · have nk : ∀ {k : Kd}, repsK X.K F2 B2 H2 k [] [] := fun {k} => by cases k <;> exact .nil
    refine ⟨by rw [r2.len, l2], call_rel g2.hs hk2 hkr (reps_ord (ds := []) (vs := []) g2.hs (fun B q1 q2 => h5 B _ _ _ _ rfl l2 q1 q2) nk r2) hR fun w H3 F3 B3 g3 r3 => ?_⟩
    exact q w H3 F3 B3 (g2.trans g3) (RepK.back g2.h r3)
end
end DL
namespace PySem
open Sem (wp)
open AutoSeq1 (wpAny_loadPart')
theorem dl_meets_enumT (l : Addr) (items : Array Value) (n : Nat) (dct : Option Addr) (sl : Array (Option Value)) :
    Meets (Builtin.«enumerate.__new__» ⟨[.type "enumerate", .ref l], []⟩) (fun _ R s => s.heap.get? l = some { cls := .type "tuple", dict := dct, data := .seq items n, slots := sl } ∧
      R (.ok (.ret (.ref (s.heap.push { cls := .type "tuple_iterator", data := .fields #[.ref l, .int 0 0] }).objs.size)))
        { s with heap := (s.heap.push { cls := .type "tuple_iterator", data := .fields #[.ref l, .int 0 0] }).push { cls := .type "enumerate", data := .fields #[.none, .bool false, .ref s.heap.objs.size, rawInt 0, .none, .none] } }) :=
  .of_wp fun prog w A R s h => by
    obtain ⟨hp, g, d, tk, os⟩ := s; obtain ⟨hl, h⟩ := h
    have hsub := sub_enumerate
    have hL : Heap.IsTuple (Shared.heap ⟨hp, g, d, tk, os⟩) l items := ⟨_, hl, rfl, n, rfl⟩
    wp_walk using wpAny_loadPart' hl
    refine wpAny_stack_any fun st => wpAny_pure ?_
    split
    · rename_i c _ _ _ _ _
      cases (c == Value.type "enumerate")
      · wp_walk using wpAny_loadPart' hl, wpAny_pyIter_tuple hL
        exact ⟨_, rfl, h⟩
      · wp_walk using wpAny_loadPart' hl, wpAny_pyIter_tuple hL
        exact ⟨_, rfl, h⟩
    · wp_walk using wpAny_loadPart' hl, wpAny_pyIter_tuple hL
      exact ⟨_, rfl, h⟩
section
variable {prog : Program} {w : World} {A : Around} {E : Value → Shared → Prop} {s : Shared}
theorem dl_call_enumT {l : Addr} {items : Array Value} {Q : Value → Shared → Prop} (hL : s.heap.IsTuple l items)
    (h : ∀ h', IsEnum h' (s.heap.objs.size + 1) s.heap.objs.size 0 .none → h'.IsTupleIter s.heap.objs.size l 0 → h'.objs.size = s.heap.objs.size + 2 →
      (∀ b o, s.heap.get? b = some o → h'.get? b = some o) → Q (.ref (s.heap.objs.size + 1)) { s with heap := h' }) :
    wpAny (model prog w) A (call (.type "enumerate") [.ref l]) Q E s := by
  obtain ⟨⟨c, dct, dt, sl⟩, hl, hc, n, hd⟩ := hL
  replace hc : c = .type "tuple" := hc
  replace hd : dt = .seq items n := hd
  subst hc hd
  refine callType_new F.called_enumerate (by decide) (F.typeCall_enumerate_1 _) (F.newCall_enumerate_1 _) (fun obj => F.args_object_init_2 obj _) F.entry_enumerate_new
    (dl_meets_enumT l items n dct sl) ⟨hl, ?_⟩
  have hz : (s.heap.push { cls := .type "tuple_iterator", data := .fields #[.ref l, .int 0 0] }).objs.size = s.heap.objs.size + 1 := Heap.size_push ..
  show _ ∧ _
  rw [hz]
  have he : IsEnum ((s.heap.push { cls := .type "tuple_iterator", data := .fields #[.ref l, .int 0 0] }).push
      { cls := .type "enumerate", data := .fields #[.none, .bool false, .ref s.heap.objs.size, rawInt 0, .none, .none] }) (s.heap.objs.size + 1) s.heap.objs.size 0 .none := by
    have := Heap.get?_push_size (s.heap.push { cls := .type "tuple_iterator", data := .fields #[.ref l, .int 0 0] })
      (o := { cls := .type "enumerate", data := .fields #[.none, .bool false, .ref s.heap.objs.size, rawInt 0, .none, .none] }) rfl
    rw [hz] at this; exact this
  refine ⟨⟨_, he, rfl⟩, h _ he ⟨_, Heap.get?_push_of_some _ (Heap.get?_push_size _ rfl), rfl, rfl⟩ (by rw [Heap.size_push, hz]) fun b o x => Heap.get?_push_of_some _ (Heap.get?_push_of_some _ x)⟩
theorem dl_enumT_end {e it l : Addr} {i : Nat} {items : Array Value} {old : Value} {Q : Option Value → Shared → Prop} (hh : A.in1.handled = none)
    (he : IsEnum s.heap e it i old) (hit : s.heap.IsTupleIter it l i) (hl : s.heap.IsTuple l items) (hx : items[i]? = none)
    (hQ : ∀ h', Heap.ExtBut it s.heap h' → Q none { s with heap := h' }) : wpAny (model prog w) A (pyNext (.ref e)) Q E s := by
  have hT : s.TypeIs (.ref e) "enumerate" := ⟨_, he, rfl⟩
  unfold pyNext
  refine wpAny_bind (wpAny_attempt (wpAny_callSpecial?_slot (name := Str.ofString "__next__") hT F.slot_enumerate_next
    (wpAny_call_entry F.slot_enumerate_next hT F.entry_enumerate_next ?_ (F.args_enumerate_next_1 _))))
  show wpAny _ _ (field (.ref e) 2 >>= _) _ _ _
  refine wpAny_bind (wpAny_field he rfl (x := .ref it) rfl ?_)
  refine wpAny_bind (wpAny_nextOf_tuple_end hh hit hl hx fun h' x he' hx' => ?_)
  obtain ⟨o, ho, hc⟩ := hx'
  refine wpAny_bind (wpAny_isInstance (T := "StopIteration") (b := true) ⟨o, ho, hc⟩ isSubtype_stop ?_)
  exact wpAny_pure (hQ _ he')
end
end PySem
namespace L2
open PySem PySem.Spec PyProof.Rows
def dlIteT (K : PySem.W.Frag) (a : Addr) : It :=
  ⟨fun i H => ∃ (xs : List V) (x : V), SqT K H a xs ∧ xs[i]? = some x, fun i H v H' => ∃ T x, v = .ref T ∧ H T = none ∧ H' = upd H T (.tup [.int (i : Nat), x]) ∧ ∀ xs, SqT K H a xs → xs[i]? = some x, fun i H => ∃ xs : List V, SqT K H a xs ∧ xs.length ≤ i⟩
theorem dl_turn_enumT {P : Program} {w : World} {K : PySem.W.Frag} {elts : List Expr} {kk : Nat} {tpos : Pos} (a e it : Addr) (ha : a ≠ it) (ha2 : e ≠ a) :
    Turn P w K (.Tuple elts kk tpos) (dlIteT K a) [e, it] e (fun i h => (∃ old, IsEnum h e it ((i : Nat) : Int) old) ∧ h.IsTupleIter it a i ∧ e ≠ it) where
  mem := by simp
  obj := fun i h st b hb => by
    obtain ⟨⟨old, he⟩, ⟨o, ho, hc, hd⟩, _⟩ := st
    have e' : b = e ∨ b = it := by simpa using hb
    rcases e' with z | z
    · rw [z]; exact ⟨_, he, fun v q => nomatch q⟩
    · rw [z]; exact ⟨o, ho, fun v q => by rw [hd] at q; cases q⟩
  keep := fun i h h' st k => let ⟨⟨old, he⟩, ⟨o, ho, r⟩, hne⟩ := st; ⟨⟨old, k e (by simp) _ he⟩, ⟨o, k it (by simp) o ho, r⟩, hne⟩
  item := by
    intro X hP hw hK hc i pins s σ H E I hf st hg
    subst hP hw hK
    obtain ⟨⟨old, he⟩, hit, hne⟩ := st
    obtain ⟨xs, x, hq, hx⟩ := hg
    obtain ⟨its, rv, p, hz⟩ := I.tuple hq
    obtain ⟨u, hu, ru⟩ := rv.get hx
    have hel : e < s.heap.objs.size := Heap.lt_size he
    have hil : it < s.heap.objs.size := by obtain ⟨_, q, _⟩ := hit; exact Heap.lt_size q
    have hi : i < its.toArray.size := by
      rw [List.size_toArray]
      exact (List.getElem?_eq_some_iff.mp hu).1
    refine wpAny_pyNext_enum_itemD (Draws.tuple (prog := X.prog) (w := X.w) (A := X.A.in1) (I.ok.hd hc) it a ha its.toArray) he ⟨hit, p⟩ hi hne (by simp [hne, ha2]) fun y h' tk hP ho hit' hT hsz hk => ?_
    have hy : y = u := by
      have : its.toArray[i]? = some y := hP
      rw [show its.toArray[i]? = its[i]? by simp, hu] at this
      exact (Option.some.inj this).symm
    subst hy
    obtain ⟨hit', _⟩ := hit'
    refine ⟨_, rfl, wpAny_letOwnedTupleGo_enum (s := { s with heap := h', toks := tk + 1 }) ho fun h'' he' sb => ?_⟩
    have hT2 : h''.get? s.heap.objs.size = some { cls := .type "tuple", data := .seq #[.int i tk, y] } := (sb.2 _ (Nat.ne_of_gt hel)).trans hT
    have new : ObjOk X.prog X.w (upd H s.heap.objs.size (.tup [.int (i : Nat), x])) h'' s.heap.objs.size (.tup [.int (i : Nat), x]) :=
      ⟨by show 2 ≤ sizeLine; decide, [.int i tk, y], .cons ⟨_, rfl⟩ (.cons ru .nil), ⟨_, hT2, rfl, _, rfl⟩⟩
    have I1 : Inv X pins σ (upd H s.heap.objs.size (.tup [.int (i : Nat), x])) { s with heap := h'', toks := tk + 1 } :=
      I.turnedNew (ch := [e, it]) (fun b ob hb q => (sb.2 b (fun z => hb (by simp [z]))).trans (hk b ob (fun z => hb (by simp [z])) (fun z => hb (by simp [z])) q)) hf (Nat.le_refl _) new
    refine ⟨.ref s.heap.objs.size, _, I1, rfl, ⟨_, x, rfl, I.hok.fresh (Nat.le_refl _), rfl, fun ys hy => by rw [I.tuple_inj hy hq]; exact hx⟩, ⟨⟨y, ?_⟩, ?_, hne⟩, fun b hb => ?_⟩
    · have e1 : ((i + 1 : Nat) : Int) = (i : Int) + 1 := by omega
      rw [e1]; exact he'
    · obtain ⟨o, ho, r⟩ := hit'
      exact ⟨o, (sb.2 it (Ne.symm hne)).trans ho, r⟩
    · have hb' : b < s.heap.objs.size := by
        have e' : b = e ∨ b = it := by simpa using hb
        rcases e' with z | z
        · rw [z]; exact hel
        · rw [z]; exact hil
      rw [upd_ne (Nat.ne_of_lt hb')]
      exact (hf b hb).1
  done := by
    intro X hP hw hK hc i pins s σ H E I hf st hg
    subst hP hw hK
    obtain ⟨⟨old, he⟩, hit, hne⟩ := st
    obtain ⟨xs, hq, hx⟩ := hg
    obtain ⟨its, rv, p, hz⟩ := I.tuple hq
    obtain ⟨f0, f1, f2, f3, f4, f5⟩ := hf it (by simp)
    have hl := rv.length
    exact dl_enumT_end (I.ok.hd hc) he hit p (by simp; omega) fun h' eb => ⟨rfl, I.turned (t' := s.toks) (fun b o hb q => eb b o hb q) f0 f1 f3 f4 f5⟩
  self := fun A i s Q E st h => let ⟨⟨_, he⟩, _⟩ := st; wpAny_pyIter_enum he h
theorem dl_pi_enumT {X : Cx} {e : Expr} {ta : TA} {p pos tpos : Pos} {elts : List Expr} {kk : Nat} (hg : Gl X "enumerate") (hm : X.mg "enumerate" = none) (ha : PA X [e] ta) (hs : starEach [e] X.env = [(false, eval e X.env)] := by rfl) :
    PI X (.Tuple elts kk tpos) (.Call (.Name "enumerate" p) [e] [] pos) (fun σ H R => ta σ H fun vs H1 => ∃ a xs, vs = [.ref a] ∧ SqT X.K H1 a xs ∧ R (dlIteT X.K a) H1) := by
  refine ⟨fun pins s σ H R I h => ?_⟩
  refine Call_ (ld_blt I hg hm boot_enumerate (PyProof.Rows.callWith_type1 (thn (ha.run pos pins s σ H _ I h) fun us s1 ⟨vs, H1, I1, r1, q1⟩ => ?_) hs rfl))
  obtain ⟨a, xs, ex, hq, q⟩ := q1
  subst ex
  cases r1 with
  | cons r rr =>
    cases rr
    cases r
    obtain ⟨its, rv, p', hz⟩ := I1.tuple hq
    have hla : a < s1.heap.objs.size := by obtain ⟨o, ho, _⟩ := id p'; exact Heap.lt_size ho
    refine dl_call_enumT p' fun h' he hit hsz hk => wpAny_pyIter_enum he ?_
    have I2 : Inv X pins σ H1 { s1 with heap := h' } := I1.kept (t' := s1.toks) hk
    refine ⟨s1.heap.objs.size + 1, [s1.heap.objs.size + 1, s1.heap.objs.size], _, _, H1, rfl, I2, dl_turn_enumT a (s1.heap.objs.size + 1) s1.heap.objs.size (Nat.ne_of_lt hla) (Nat.ne_of_gt (Nat.lt_succ_of_lt hla)), ⟨⟨.none, he⟩, hit, Nat.succ_ne_self _⟩, fun b hb => ?_, q⟩
    have e' : b = s1.heap.objs.size + 1 ∨ b = s1.heap.objs.size := by simpa using hb
    have hle : s1.heap.objs.size ≤ b := by
      rcases e' with z | z
      · rw [z]; exact Nat.le_add_right _ _
      · rw [z]; exact Nat.le_refl _
    exact I1.fpOk hle (I1.hok.fresh hle)
end L2
namespace DL
open PySem PySem.Spec L2
open PyProof.Rows hiding St
section
variable {X : Cx} {env : DEnv} {a : Expr} {pn pos : Pos}
theorem iteT_ok {α : Type} {f : α → D} {xs : List α} {K : PySem.W.Frag} {P F B : Hp} {l : Addr} {vs : List V} {k : K2} (h : SqT K P l vs) (r : repsK K F B P k.k (xs.map f) vs) : ItOk K P F B (dlIteT K l) k ((enumL xs).map fun x => .tup [.int x.1, f x.2]) := by
  have at_ : ∀ (i : Nat) d, ((enumL xs).map fun x => D.tup [.int x.1, f x.2])[i]? = some d → ∃ x, (xs.map f)[i]? = some (f x) ∧ d = .tup [.int (i : Int), f x] := fun i d e => by
    rw [List.getElem?_map, enumL_get] at e
    cases q : xs[i]? with
    | none => rw [q] at e; cases e
    | some x => rw [q] at e; cases e; exact ⟨x, by rw [List.getElem?_map, q]; rfl, rfl⟩
  refine ⟨fun i d H s e => ?_, fun i d H x H' s e y => .inr ?_, fun H s => ⟨vs, Same.seqT s h, by rw [r.len, List.length_map, List.length_map, enumL_len]; exact Nat.le_refl _⟩⟩
  · obtain ⟨x, e1, _⟩ := at_ i d e
    obtain ⟨u, e2, _⟩ := repsK.get (by cases k <;> simp) r e1
    exact ⟨vs, u, Same.seqT s h, e2⟩
  · obtain ⟨x0, e1, e3⟩ := at_ i d e
    obtain ⟨u, e2, r2⟩ := repsK.get (by cases k <;> simp) r e1
    obtain ⟨T, w, z1, z2, z3, z4⟩ := y
    have := z4 vs (Same.seqT s h)
    rw [e2] at this; cases this
    refine ⟨T, [.int (i : Nat), u], [.int (i : Int), f x0], z2, z3, z1, e3, ?_⟩
    cases k with
    | c => exact .cons (.int _) (.cons r2 .nil)
    | b => exact .cons (.int _) (.cons r2 .nil)
theorem enumTC_ {α : Type} {f : α → D} {xs : List α} {elts : List Expr} {kk : Nat} {tpos : Pos} (hg : Gl X "enumerate") (hm : X.mg "enumerate" = none) (ha : Ev X env a (.tup (xs.map f)) .cln) (hs : starEach [a] X.env = [(false, eval a X.env)]) :
    EI X env (.Tuple elts kk tpos) (.Call (.Name "enumerate" pn) [a] [] pos) ((enumL xs).map fun x => .tup [.int x.1, f x.2]) .c true :=
  ⟨(dl_pi_enumT hg hm (pa_cons ha.pe pa_nil hs) hs).mono fun σ H R ⟨F, B, E, q⟩ => ⟨F, B, E, fun v H1 F1 B1 g r => by
    cases (show Rep X.K F1 (.tup (xs.map f)) v from r) with
    | tup s t => exact ⟨_, _, rfl, Same.seqT g.hs.fh s, q _ H1 F1 B1 g (iteT_ok (Same.seqT g.hs.fb s) t)⟩⟩⟩
theorem enumTB_ {α : Type} {f : α → D} {xs : List α} {elts : List Expr} {kk : Nat} {tpos : Pos} (hg : Gl X "enumerate") (hm : X.mg "enumerate" = none) (ha : Ev X env a (.tup (xs.map f)) .brw) (hs : starEach [a] X.env = [(false, eval a X.env)]) :
    EI X env (.Tuple elts kk tpos) (.Call (.Name "enumerate" pn) [a] [] pos) ((enumL xs).map fun x => .tup [.int x.1, f x.2]) .b true :=
  ⟨(dl_pi_enumT hg hm (pa_cons ha.pe pa_nil hs) hs).mono fun σ H R ⟨F, B, E, q⟩ => ⟨F, B, E, fun v H1 F1 B1 g r => by
    cases (show Rep X.K B1 (.tup (xs.map f)) v from r) with
    | tup s t => exact ⟨_, _, rfl, Same.seqT g.hs.bh s, q _ H1 F1 B1 g (iteT_ok s t)⟩⟩⟩
end
end DL
namespace DL
open PySem PySem.Spec L2
open PyProof.Rows hiding St
inductive Src where
  | p (i : Nat) | k (i : Nat) | m (i : Nat) | d (i : Nat)
def pick {α : Type} (us ds mv ws : List α) : List Src → List α
  | [] => []
  | .p i :: r => us[i]?.toList ++ pick us ds mv ws r
  | .k i :: r => ws[i]?.toList ++ pick us ds mv ws r
  | .m i :: r => mv[i]?.toList ++ pick us ds mv ws r
  | .d i :: r => ds[i]?.toList ++ pick us ds mv ws r
theorem vals_at : ∀ {xs : List V} {us : List Value} (i : Nat), Vals xs us → Vals xs[i]?.toList us[i]?.toList
  | _, _, _, .nil => .nil
  | _, _, 0, .cons r _ => .cons r .nil
  | _, _, i + 1, .cons _ t => by rw [List.getElem?_cons_succ, List.getElem?_cons_succ]; exact vals_at i t
theorem reps_at {K : PySem.W.Frag} {B : Hp} : ∀ {xs : List D} {us : List V} (i : Nat), Reps K B xs us → Reps K B xs[i]?.toList us[i]?.toList
  | _, _, _, .nil => .nil
  | _, _, 0, .cons r _ => .cons r .nil
  | _, _, i + 1, .cons _ t => by rw [List.getElem?_cons_succ, List.getElem?_cons_succ]; exact reps_at i t
theorem vals_pick {us ds mv ws : List V} {us' ds' mv' ws' : List Value} (h1 : Vals us us') (h2 : Vals ds ds') (h3 : Vals mv mv') (h4 : Vals ws ws') : ∀ srcs : List Src, Vals (pick us ds mv ws srcs) (pick us' ds' mv' ws' srcs)
  | [] => .nil
  | .p i :: r => Vals.append (vals_at i h1) (vals_pick h1 h2 h3 h4 r)
  | .k i :: r => Vals.append (vals_at i h4) (vals_pick h1 h2 h3 h4 r)
  | .m i :: r => Vals.append (vals_at i h3) (vals_pick h1 h2 h3 h4 r)
  | .d i :: r => Vals.append (vals_at i h2) (vals_pick h1 h2 h3 h4 r)
theorem reps_pick {K : PySem.W.Frag} {B : Hp} {us ds mv ws : List D} {us' ds' mv' ws' : List V} (h1 : Reps K B us us') (h2 : Reps K B ds ds') (h3 : Reps K B mv mv') (h4 : Reps K B ws ws') : ∀ srcs : List Src, Reps K B (pick us ds mv ws srcs) (pick us' ds' mv' ws' srcs)
  | [] => .nil
  | .p i :: r => Reps.append (reps_at i h1) (reps_pick h1 h2 h3 h4 r)
  | .k i :: r => Reps.append (reps_at i h4) (reps_pick h1 h2 h3 h4 r)
  | .m i :: r => Reps.append (reps_at i h3) (reps_pick h1 h2 h3 h4 r)
  | .d i :: r => Reps.append (reps_at i h2) (reps_pick h1 h2 h3 h4 r)
section
variable {P : Program} {w : World} {K : PySem.W.Frag} {mg : Str → Option Value} {base : Heap} {x qual n : Str} {params : Arguments} {body : List Stmt} {scope : Scope} {dvs : List V} {kws : List (Str × V)} {f : Addr} {fd : FuncData} {N ps : List Str} {lv : Nat} {R : Rel} {dds mds : List D}
theorem CalK.of (G : FnOk P w K mg base CX0 (lv + 1) f fd ps (FnSp K R)) (kp : PySem.W.keepIn K (.ref f) = true) (hm : mg n = some (.ref f)) {np : Nat} {ks : List Str} {srcs : List Src} {its mv : List Value} {mz : List V} (hb : KBn K fd ps np ks (fun us ws => pick us its mv ws srcs) (fun vs zs => pick vs dvs mz zs srcs)) (hd : ∀ B : Hp, Reps K B dds dvs) (hz : ∀ B : Hp, Reps K B mds mz) :
    CalK ⟨P, w, K, mg, base⟩ n R (lv + 1) np ks (fun a b => pick a dds mds b srcs) :=
  ⟨f, fd, ps, _, _, G, hm, kp, hb, fun B ds zs vs us _ _ r1 r2 => reps_pick r1 (hd B) (hz B) r2 srcs⟩
theorem kb_n (F : FunD K x qual params body scope [] kws f fd) (np : Nat) (ks : List Str) (srcs : List Src)
    (h : ∀ (kV doc pm : Value) (an : Option Addr) (cdv ct : Value) (us ws : List Value), us.length = np → ws.length = ks.length → bindArgs (PySem.W.fnOf x qual params body scope .none kV doc pm an cdv ct) ⟨us, ks.zip ws⟩ = pure (ps.zip (pick us [] [] ws srcs))) :
    KBn K fd ps np ks (fun us ws => pick us [] [] ws srcs) (fun vs zs => pick vs [] [] zs srcs) := by
  obtain ⟨oc, od, dV, kV, doc, pm, an, cdv, ct, osl, rfl, lk, hcd, hD, hK⟩ := F.ex
  rcases hD with ⟨_, rfl⟩ | ⟨e, _⟩
  · exact ⟨fun s us ws X l1 l2 => BindsTo.of_eq (h kV doc pm an cdv ct us ws l1 l2), fun r1 r2 => vals_pick r1 .nil .nil r2 srcs⟩
  · exact absurd rfl e
theorem kb_0 (F : FunD K x qual params body scope [] kws f fd) (np : Nat) (ks : List Str) (ms : List (Str × V)) (srcs : List Src) (hk : kws ≠ []) (hms : ∀ q ∈ ms, q ∈ kws)
    (h : ∀ (D : Addr) (doc pm : Value) (an : Option Addr) (cdv ct : Value) (us mv ws : List Value), us.length = np → mv.length = ms.length → ws.length = ks.length →
      KwChain D ((ms.map (·.1)).zip mv) (bindArgs (PySem.W.fnOf x qual params body scope .none (.ref D) doc pm an cdv ct) ⟨us, ks.zip ws⟩) (ps.zip (pick us [] mv ws srcs))) :
    ∃ mv : List Value, KBn K fd ps np ks (fun us ws => pick us [] mv ws srcs) (fun vs zs => pick vs [] (ms.map (·.2)) zs srcs) := by
  obtain ⟨oc, od, dV, kV, doc, pm, an, cdv, ct, osl, rfl, lk, hcd, hD, hK⟩ := F.ex
  rcases hD with ⟨_, rfl⟩ | ⟨e, _⟩
  · rcases hK with e | ⟨D, rfl, hq⟩
    · exact absurd e hk
    · obtain ⟨mv, hl, rk, hks⟩ := kwd_vals (ms := ms) fun q hm => hq q (hms q hm)
      exact ⟨mv, ⟨fun s us ws X l1 l2 => BindsTo.of_looks fun M => KwChain.looks X hks (h D doc pm an cdv ct us mv ws l1 hl l2), fun r1 r2 => vals_pick r1 .nil rk r2 srcs⟩⟩
  · exact absurd rfl e
theorem kb_d (F : FunD K x qual params body scope dvs kws f fd) (np : Nat) (ks : List Str) (srcs : List Src) (hd : dvs ≠ [])
    (h : ∀ (T : Addr) (kV doc pm : Value) (an : Option Addr) (cdv ct : Value) (us its ws : List Value), us.length = np → its.length = dvs.length → ws.length = ks.length →
      ∃ k, bindArgs (PySem.W.fnOf x qual params body scope (.ref T) kV doc pm an cdv ct) ⟨us, ks.zip ws⟩ = seqItems? (.ref T) >>= k ∧ k (some its.toArray) = pure (ps.zip (pick us its [] ws srcs))) :
    ∃ its : List Value, KBn K fd ps np ks (fun us ws => pick us its [] ws srcs) (fun vs zs => pick vs dvs [] zs srcs) := by
  obtain ⟨oc, od, dV, kV, doc, pm, an, cdv, ct, osl, rfl, lk, hcd, hD, hK⟩ := F.ex
  rcases hD with ⟨e, _⟩ | ⟨_, T, o, its, m, rfl, lT, oT, rT⟩
  · exact absurd e hd
  · refine ⟨its, ⟨fun s us ws X l1 l2 => ?_, fun r1 r2 => vals_pick r1 rT .nil r2 srcs⟩⟩
    obtain ⟨k, e1, e2⟩ := h T kV doc pm an cdv ct us its ws l1 rT.length.symm l2
    refine BindsTo.of_looks fun M => ?_
    rw [e1]
    exact looks_items X lT oT (.of_pure e2)
theorem Cal.absurd (Fd : FunD K x qual params body scope dvs kws f fd) (hm : mg n = some (.ref f)) {dus : List Value} (bd : Binds K fd ps dus) {dv2 : List V} (hv : Vals dv2 dus) (hd : ∀ B : Hp, Reps K B dds dv2) (S : FnScope N ps scope) (hn : ps.length ≤ N.length) (h : ∀ ds d k, ¬ R ds d k) : Cal ⟨P, w, K, mg, base⟩ n R (lv + 1) dds :=
  Cal.mk' Fd hm bd hv hd S (fun ds d k r => (h ds d k r).elim) hn fun X A ds d k r => (h ds d k r).elim
end
theorem sp_law {K : PySem.W.Frag} {R : Rel} {H : Hp} {a : Addr} {ns : List Int} (hS : SqL K H a (ns.map V.int)) (hR : R [.scr ns] (.bl true) .cln) : FnSp K R [.ref a] H (fun v _ => v = .bl true) fun _ _ _ => False :=
  ⟨H, H, [.scr ns], .bl true, .cln, ⟨.refl _, .refl _, fun _ _ h => h⟩, .cons (.scr hS) .nil, hR, fun v H' F' B' g r => by
    cases (show Rep K F' (.bl true) v from r); rfl⟩
end DL
namespace Hd
open PySem PySem.Spec PyProof.Rows L2
def top (i : Nat) : Stmt := PySem.Challenge.pw_turnkeepers_k14_ladder_and_raises.main.body.getD i (.Pass ⟨0, 0, 0, 0⟩)
abbrev s_is_name : Stmt := top 10
def d_is_name : He.DefD := ⟨("is_name", none), "is_name", "is_name", defArgs s_is_name, defBody s_is_name, defScope s_is_name, [], []⟩
abbrev s_check_known : Stmt := top 11
def d_check_known : He.DefD := ⟨("check_known", none), "check_known", "check_known", defArgs s_check_known, defBody s_check_known, defScope s_check_known, [], []⟩
abbrev s_check_bidders : Stmt := top 18
def d_check_bidders : He.DefD := ⟨("check_bidders", none), "check_bidders", "check_bidders", defArgs s_check_bidders, defBody s_check_bidders, defScope s_check_bidders, [], []⟩
abbrev s_check_hours : Stmt := top 19
def d_check_hours : He.DefD := ⟨("check_hours", none), "check_hours", "check_hours", defArgs s_check_hours, defBody s_check_hours, defScope s_check_hours, [], []⟩
abbrev s_check_floor : Stmt := top 20
def d_check_floor : He.DefD := ⟨("check_floor", none), "check_floor", "check_floor", defArgs s_check_floor, defBody s_check_floor, defScope s_check_floor, [], []⟩
abbrev s_names_of : Stmt := top 21
def d_names_of : He.DefD := ⟨("names_of", none), "names_of", "names_of", defArgs s_names_of, defBody s_names_of, defScope s_names_of, [], []⟩
abbrev s_strengths_of : Stmt := top 22
def d_strengths_of : He.DefD := ⟨("strengths_of", none), "strengths_of", "strengths_of", defArgs s_strengths_of, defBody s_strengths_of, defScope s_strengths_of, [], []⟩
abbrev s_ranking : Stmt := top 23
def d_ranking : He.DefD := ⟨("ranking", none), "ranking", "ranking", defArgs s_ranking, defBody s_ranking, defScope s_ranking, [], []⟩
abbrev s_ladder : Stmt := top 24
def d_ladder : He.DefD := ⟨("ladder", none), "ladder", "ladder", defArgs s_ladder, defBody s_ladder, defScope s_ladder, [], [("hours", .int (1)), ("floor", .int (0))]⟩
abbrev s_least_raises : Stmt := top 25
def d_least_raises : He.DefD := ⟨("least_raises", none), "least_raises", "least_raises", defArgs s_least_raises, defBody s_least_raises, defScope s_least_raises, [], []⟩
abbrev s_raises_for : Stmt := top 26
def d_raises_for : He.DefD := ⟨("raises_for", none), "raises_for", "raises_for", defArgs s_raises_for, defBody s_raises_for, defScope s_raises_for, [], [("hours", .int (1)), ("floor", .int (0))]⟩
abbrev s_law_cell : Stmt := top 28
def d_law_cell : He.DefD := ⟨("_law_cell", none), "_law_cell", "_law_cell", defArgs s_law_cell, defBody s_law_cell, defScope s_law_cell, [], []⟩
abbrev s_law_mixed : Stmt := top 29
def d_law_mixed : He.DefD := ⟨("_law_mixed", none), "_law_mixed", "_law_mixed", defArgs s_law_mixed, defBody s_law_mixed, defScope s_law_mixed, [], []⟩
abbrev s_law_pool : Stmt := top 30
def d_law_pool : He.DefD := ⟨("_law_pool", none), "_law_pool", "_law_pool", defArgs s_law_pool, defBody s_law_pool, defScope s_law_pool, [], []⟩
abbrev s_law_part : Stmt := top 31
def d_law_part : He.DefD := ⟨("_law_part", none), "_law_part", "_law_part", defArgs s_law_part, defBody s_law_part, defScope s_law_part, [], []⟩
abbrev s_law_names : Stmt := top 32
def d_law_names : He.DefD := ⟨("_law_names", none), "_law_names", "_law_names", defArgs s_law_names, defBody s_law_names, defScope s_law_names, [], []⟩
abbrev s_law_far : Stmt := top 33
def d_law_far : He.DefD := ⟨("_law_far", none), "_law_far", "_law_far", defArgs s_law_far, defBody s_law_far, defScope s_law_far, [], []⟩
abbrev s_law_chosen : Stmt := top 34
def d_law_chosen : He.DefD := ⟨("_law_chosen", none), "_law_chosen", "_law_chosen", defArgs s_law_chosen, defBody s_law_chosen, defScope s_law_chosen, [], []⟩
abbrev s_law_bidders : Stmt := top 35
def d_law_bidders : He.DefD := ⟨("_law_bidders", none), "_law_bidders", "_law_bidders", defArgs s_law_bidders, defBody s_law_bidders, defScope s_law_bidders, [], []⟩
abbrev s_law_sill : Stmt := top 36
def d_law_sill : He.DefD := ⟨("_law_sill", none), "_law_sill", "_law_sill", defArgs s_law_sill, defBody s_law_sill, defScope s_law_sill, [], []⟩
abbrev s_law_ladder : Stmt := top 37
def d_law_ladder : He.DefD := ⟨("_law_ladder", none), "_law_ladder", "_law_ladder", defArgs s_law_ladder, defBody s_law_ladder, defScope s_law_ladder, [], []⟩
abbrev s_law_integer : Stmt := top 38
def d_law_integer : He.DefD := ⟨("_law_integer", none), "_law_integer", "_law_integer", defArgs s_law_integer, defBody s_law_integer, defScope s_law_integer, [], []⟩
abbrev s_law_same : Stmt := top 39
def d_law_same : He.DefD := ⟨("_law_same", none), "_law_same", "_law_same", defArgs s_law_same, defBody s_law_same, defScope s_law_same, [], []⟩
abbrev s_law_wished : Stmt := top 40
def d_law_wished : He.DefD := ⟨("_law_wished", none), "_law_wished", "_law_wished", defArgs s_law_wished, defBody s_law_wished, defScope s_law_wished, [], []⟩
abbrev s_law_raised : Stmt := top 41
def d_law_raised : He.DefD := ⟨("_law_raised", none), "_law_raised", "_law_raised", defArgs s_law_raised, defBody s_law_raised, defScope s_law_raised, [], []⟩
abbrev s_law_brings : Stmt := top 42
def d_law_brings : He.DefD := ⟨("_law_brings", none), "_law_brings", "_law_brings", defArgs s_law_brings, defBody s_law_brings, defScope s_law_brings, [], []⟩
abbrev s_law_one_half : Stmt := top 43
def d_law_one_half : He.DefD := ⟨("_law_one_half", none), "_law_one_half", "_law_one_half", defArgs s_law_one_half, defBody s_law_one_half, defScope s_law_one_half, [], []⟩
abbrev s_law_other_half : Stmt := top 44
def d_law_other_half : He.DefD := ⟨("_law_other_half", none), "_law_other_half", "_law_other_half", defArgs s_law_other_half, defBody s_law_other_half, defScope s_law_other_half, [], []⟩
abbrev s_law : Stmt := top 45
def d_law : He.DefD := ⟨("law", none), "law", "law", defArgs s_law, defBody s_law, defScope s_law, [], []⟩
def fn : List He.DefD := [d_is_name, d_check_known, d_check_bidders, d_check_hours, d_check_floor, d_names_of, d_strengths_of, d_ranking, d_ladder, d_least_raises, d_raises_for, d_law_cell, d_law_mixed, d_law_pool, d_law_part, d_law_names, d_law_far, d_law_chosen, d_law_bidders, d_law_sill, d_law_ladder, d_law_integer, d_law_same, d_law_wished, d_law_raised, d_law_brings, d_law_one_half, d_law_other_half, d_law]
def fa : List He.Fa := [.glo "HouseError", .glo "BadName", .glo "DoubledName", .glo "UnknownName", .glo "BadNumber", .glo "BadCount", .str "LETTERS" "abcdefghijklmnopqrstuvwxyz", .int "MOST_LETTERS" (8), .glo "is_name", .glo "check_known", .int "MOST_BIDDERS" (6), .int "LARGEST_WEIGHT" (1000), .int "LARGEST_BID" (1000000000), .int "MOST_HOURS" (3), .int "LARGEST_FLOOR" (1000000000000), .glo "check_bidders", .glo "check_hours", .glo "check_floor", .glo "names_of", .glo "strengths_of", .glo "ranking", .glo "ladder", .glo "least_raises", .glo "raises_for", .glo "_law_cell", .glo "_law_mixed", .glo "_law_pool", .glo "_law_part", .glo "_law_names", .glo "_law_far", .glo "_law_chosen", .glo "_law_bidders", .glo "_law_sill", .glo "_law_ladder", .glo "_law_integer", .glo "_law_same", .glo "_law_wished", .glo "_law_raised", .glo "_law_brings", .glo "_law_one_half", .glo "_law_other_half", .glo "law", .free "ValueError", .free "abs", .free "all", .free "bool", .free "enumerate", .free "int", .free "isinstance", .free "len", .free "list", .free "max", .free "min", .free "range", .free "sorted", .free "str", .free "super", .free "tuple"]
def nm0 : List Str := [("HouseError" : Str), ("BadName" : Str), ("DoubledName" : Str), ("UnknownName" : Str), ("BadNumber" : Str), ("BadCount" : Str), ("LETTERS" : Str), ("MOST_LETTERS" : Str), ("is_name" : Str), ("check_known" : Str), ("MOST_BIDDERS" : Str), ("LARGEST_WEIGHT" : Str), ("LARGEST_BID" : Str), ("MOST_HOURS" : Str), ("LARGEST_FLOOR" : Str), ("check_bidders" : Str), ("check_hours" : Str), ("check_floor" : Str), ("names_of" : Str), ("strengths_of" : Str), ("ranking" : Str), ("ladder" : Str), ("least_raises" : Str), ("raises_for" : Str), ("_law_cell" : Str), ("_law_mixed" : Str), ("_law_pool" : Str), ("_law_part" : Str), ("_law_names" : Str), ("_law_far" : Str), ("_law_chosen" : Str), ("_law_bidders" : Str), ("_law_sill" : Str), ("_law_ladder" : Str), ("_law_integer" : Str), ("_law_same" : Str), ("_law_wished" : Str), ("_law_raised" : Str), ("_law_brings" : Str), ("_law_one_half" : Str)]
def nm1 : List Str := [("_law_other_half" : Str)]
def names : List Str := nm0 ++ nm1
abbrev R : PySem.W.OpenRow := PySem.W.OpenLaw.row PySem.Challenge.rw_turnkeepers_k14_ladder_and_raises
abbrev hk : PySem.W.Hook := He.hookD 5 fa fn
def ob (s : PySem.W.SharedT) : He.AlD := He.obsDG 5 fa fn (HandSHeadRun.getT s)
theorem ob_eq (s : PySem.W.SharedT) : ob s = hk.obs s.abs := He.obsDG_eq (HandSHeadRun.getT_eq s)
theorem run (w : World) : HandSHeadRun.RunEq R (PySem.W.view R.prog [45]) hk ob 40000 names w := by
  intro os
  kernel_rfl
end Hd
namespace DL
open PySem L2
def Sm {α : Type} (o : Option α) (P : α → Prop) : Prop := ∃ a, o = some a ∧ P a
section
variable {α β S : Type} {P Q : α → Prop} {o o' : Option α}
theorem Sm.mono (h : Sm o P) (m : ∀ a, P a → Q a) : Sm o Q := let ⟨a, e, p⟩ := h; ⟨a, e, m a p⟩
theorem Sm.some {a : α} (h : P a) : Sm (some a) P := ⟨a, rfl, h⟩
theorem Sm.eq {a : α} (e : o = Option.some a) (h : P a) : Sm o P := ⟨a, e, h⟩
theorem Sm.bind {f : α → Option β} {R : β → Prop} (h : Sm o P) (k : ∀ a, P a → Sm (f a) R) : Sm (o.bind f) R := by
  obtain ⟨a, e, p⟩ := h
  subst e; exact k a p
theorem Sm.bindE {f : α → Option β} {R : β → Prop} {a : α} (h : o = Option.some a) (k : Sm (f a) R) : Sm (o.bind f) R := by subst h; exact k
theorem Sm.ite {c : Bool} (h1 : c = true → Sm o P) (h2 : c = false → Sm o' P) : Sm (if c = true then o else o') P := by
  cases c with
  | true => exact h1 rfl
  | false => exact h2 rfl
theorem Sm.fold {f : S → α → Option S} (I : List α → S → Prop) : ∀ {xs pre : List α} {s0 : S}, I pre s0 → (∀ p x q s, pre ++ xs = p ++ x :: q → I p s → Sm (f s x) (I (p ++ [x]))) → Sm (xs.foldlM f s0) (I (pre ++ xs))
  | [], pre, s0, h0, _ => ⟨s0, rfl, by rw [List.append_nil]; exact h0⟩
  | x :: xs, pre, s0, h0, hs => by
    rw [List.foldlM_cons]
    refine Sm.bind (hs pre x xs s0 rfl h0) fun s hI => ?_
    have := Sm.fold (f := f) I (xs := xs) (pre := pre ++ [x]) hI fun p y q s e hp => hs p y q s (by rw [← e]; simp) hp
    rw [List.append_assoc] at this
    exact this
theorem rngI_length (lo : Int) (n : Nat) : (rngI lo n).length = n := by unfold rngI; rw [List.length_map, List.length_range]
theorem rngI_get {lo : Int} {n i : Nat} (h : i < n) : (rngI lo n)[i]? = Option.some (lo + (i : Int)) := by
  unfold rngI; rw [List.getElem?_map, List.getElem?_range h]; rfl
theorem Sm.foldN {f : S → Int → Option S} {lo : Int} {n : Nat} {s0 : S} (I : Nat → S → Prop) (h0 : I 0 s0) (hs : ∀ i s, i < n → I i s → Sm (f s (lo + (i : Int))) (I (i + 1))) : Sm ((rngI lo n).foldlM f s0) (I n) := by
  have := Sm.fold (f := f) (fun p s => I p.length s) (xs := rngI lo n) (pre := []) (s0 := s0) h0 fun p x q s e hp => by
    rw [List.nil_append] at e
    have hl : p.length < n := by
      have := congrArg List.length e
      rw [rngI_length, List.length_append, List.length_cons] at this; omega
    have hx : (rngI lo n)[p.length]? = Option.some x := by rw [e]; simp
    rw [rngI_get hl] at hx
    cases hx
    rw [List.length_append]
    exact hs p.length s hl hp
  rw [List.nil_append, rngI_length] at this
  exact this
theorem rng1G_eq {n : Nat} (h : n ≤ 1000000) : rng1G (n : Int) = Option.some (rngI 0 n) := by
  unfold rng1G
  rw [if_pos (by simp only [Bool.and_eq_true, decide_eq_true_eq]; omega), Int.toNat_natCast]
theorem idxG_nat {xs : List α} {i : Nat} {x : α} (h : xs[i]? = Option.some x) : idxG xs (i : Int) = Option.some x := by
  have hl := (List.getElem?_eq_some_iff.mp h).1
  unfold idxG atI ixN
  rw [if_pos (by omega), if_pos (by omega), Int.toNat_natCast]
  exact h
theorem idxG_in {xs : List α} {i : Int} (h0 : 0 ≤ i) (h1 : i < xs.length) : ∃ x, xs[i.toNat]? = Option.some x ∧ idxG xs i = Option.some x := by
  have hl : i.toNat < xs.length := by omega
  refine ⟨xs[i.toNat], List.getElem?_eq_getElem hl, ?_⟩
  have := idxG_nat (List.getElem?_eq_getElem hl)
  rw [Int.toNat_of_nonneg h0] at this
  exact this
theorem idxG_getD {xs : List α} {i : Int} (d : α) (h0 : 0 ≤ i) (h1 : i < xs.length) : idxG xs i = Option.some (xs.getD i.toNat d) := by
  obtain ⟨x, e1, e2⟩ := idxG_in h0 h1
  rw [e2, List.getD_eq_getElem?_getD, e1]; rfl
theorem appG_eq {xs : List α} {x : α} (h : xs.length < 1000000) : appG xs x = Option.some (xs ++ [x]) := by unfold appG line; rw [if_pos (by omega)]
theorem catG_eq {xs ys : List α} (h : xs.length + ys.length ≤ 1000000) : catG xs ys = Option.some (xs ++ ys) := by unfold catG line; rw [if_pos (by omega)]
theorem lcG_eq {xs : List α} (h : xs.length ≤ 1000000) : lcG xs = Option.some xs := by unfold lcG line; rw [if_pos (by omega)]
theorem mulG_l {i j : Int} (h0 : -18446744073709551616 < i) (h1 : i < 18446744073709551616) : mulG i j = Option.some (i * j) := by
  unfold mulG cmulB; rw [if_pos (by simp [h0, h1])]
theorem mulG_r {i j : Int} (h0 : -18446744073709551616 < j) (h1 : j < 18446744073709551616) : mulG i j = Option.some (i * j) := by
  unfold mulG cmulB; rw [if_pos (by simp [h0, h1])]
theorem divG_eq {i j : Int} (h0 : 0 < j) (h1 : j < 1073741824) : divG i j = Option.some (i / j) := by
  unfold divG; rw [if_pos (by simp [h0, h1])]
theorem modG_eq {i j : Int} (h0 : 0 < j) : modG i j = Option.some (i % j) := by
  unfold modG; rw [if_pos (by simp [h0])]
theorem lcM_eq {p : α → Option Bool} {f : α → Option β} (pd : α → Bool) (g : α → β) : ∀ {xs : List α}, (∀ x ∈ xs, p x = Option.some (pd x) ∧ (pd x = true → f x = Option.some (g x))) → lcM p f xs = Option.some ((xs.filter pd).map g)
  | [], _ => rfl
  | x :: xs, h => by
    obtain ⟨h1, h2⟩ := h x (List.mem_cons_self ..)
    have ih := lcM_eq (p := p) (f := f) pd g (xs := xs) fun y hy => h y (List.mem_cons_of_mem _ hy)
    unfold lcM
    rw [h1]
    show (if pd x = true then _ else _) = _
    cases e : pd x with
    | true => rw [if_pos rfl, h2 e, ih]; simp [e]
    | false => rw [if_neg Bool.false_ne_true, ih]; simp [e]
theorem setG_eq {xs : List α} {i : Int} {x : α} (h0 : 0 ≤ i) (h1 : i < xs.length) : setG xs i x = Option.some (xs.set i.toNat x) := by
  unfold setG ixN; rw [if_pos h0, if_pos h1]
theorem loopM_nx {R : Type} {f : S → α → Option (Ctl S R)} : ∀ {xs : List α} {s0 : S} (g : S → α → S), (∀ s x, x ∈ xs → f s x = Option.some (.nx (g s x))) → loopM f s0 xs = Option.some (.nx (xs.foldl g s0))
  | [], s0, g, _ => rfl
  | x :: xs, s0, g, h => by
    unfold loopM
    rw [h s0 x (List.mem_cons_self ..)]
    exact loopM_nx g fun s y hy => h s y (List.mem_cons_of_mem _ hy)
theorem foldlM_unit {f : Unit → α → Option Unit} : ∀ {xs : List α}, (∀ x ∈ xs, f () x = Option.some ()) → xs.foldlM f () = Option.some ()
  | [], _ => rfl
  | x :: xs, h => by
    rw [List.foldlM_cons, h x (List.mem_cons_self ..)]
    exact foldlM_unit fun y hy => h y (List.mem_cons_of_mem _ hy)
end
def Sl (l : List Nat) : Str := ⟨l.toArray⟩
theorem Sl_inj {a b : List Nat} (h : Sl a = Sl b) : a = b := by
  have := congrArg (fun s : Str => s.cps.toList) h
  simpa [Sl] using this
theorem Sl_len (l : List Nat) : (Sl l).length = l.length := by show l.toArray.size = _; simp
theorem addSG_eq {a b : List Nat} (h : a.length + b.length ≤ 1000000) : addSG (Sl a) (Sl b) = some (Sl (a ++ b)) := by
  unfold addSG line
  rw [Sl_len, Sl_len, if_pos (by omega)]
  congr 1
  exact Str.ext' (by show a.toArray ++ b.toArray = (a ++ b).toArray; simp)
theorem sIx_nn {n d : Nat} {v : Int} (h : 0 ≤ v) : HT.sIx n d (some v) = min v.toNat n := by
  show (if v < 0 then (v + (n : Int)).toNat else min v.toNat n) = _
  rw [if_neg (by omega)]
theorem slSG_take {a : List Nat} {r : Int} (h : a.length ≤ 1000000) (h0 : 0 ≤ r) : slSG (Sl a) none (some r) = some (Sl (a.take r.toNat)) := by
  unfold slSG line
  rw [Sl_len, if_pos (by omega)]
  congr 1
  unfold cutS
  rw [Sl_len, sIx_nn h0]
  apply Str.ext'
  show (List.take (min r.toNat a.length - HT.sIx a.length 0 none) (List.drop (HT.sIx a.length 0 none) a.toArray.toList)).toArray = (a.take r.toNat).toArray
  show (List.take (min r.toNat a.length - 0) (List.drop 0 a.toArray.toList)).toArray = _
  congr 1
  simp [List.take_eq_take_iff]
theorem slSG_drop {a : List Nat} {r : Int} (h : a.length ≤ 1000000) (h0 : 0 ≤ r) : slSG (Sl a) (some r) none = some (Sl (a.drop r.toNat)) := by
  unfold slSG line
  rw [Sl_len, if_pos (by omega)]
  congr 1
  unfold cutS
  rw [Sl_len, sIx_nn h0]
  apply Str.ext'
  show (List.take (a.length - min r.toNat a.length) (List.drop (min r.toNat a.length) a.toArray.toList)).toArray = (a.drop r.toNat).toArray
  congr 1
  by_cases e : r.toNat ≤ a.length
  · rw [Nat.min_eq_left e, List.take_of_length_le (by simp)]
  · rw [Nat.min_eq_right (by omega), List.drop_eq_nil_of_le (by omega : a.length ≤ r.toNat)]
    simp
theorem idxSG_eq {a : List Nat} {i : Int} (h : a.length ≤ 1000000) (h0 : 0 ≤ i) (h1 : i < a.length) : idxSG (Sl a) i = some (Sl [a.getD i.toNat 0]) := by
  unfold idxSG line
  rw [Sl_len, if_pos (by omega)]
  have e := idxG_getD (xs := a) (i := i) 0 h0 h1
  unfold idxG at e
  show Option.map _ (atI a.toArray.toList i) = _
  rw [show a.toArray.toList = a from rfl, e]; rfl
theorem lenSG_eq {a : List Nat} (h : a.length ≤ 1000000) : lenSG (Sl a) = some (a.length : Int) := by
  unfold lenSG line
  rw [Sl_len, if_pos (by omega)]
theorem strL_eq (a : List Nat) : strL (Sl a) = a.map fun c => Sl [c] := rfl
def abc : List Nat := [97, 98, 99, 100, 101, 102, 103, 104, 105, 106, 107, 108, 109, 110, 111, 112, 113, 114, 115, 116, 117, 118, 119, 120, 121, 122]
theorem abc_eq : (Str.ofString "abcdefghijklmnopqrstuvwxyz") = Sl abc := by decide +kernel
theorem abc_in : ∀ c ∈ abc, inStr (Sl [c]) (Sl abc) = true := by decide +kernel
theorem abc_get {i : Nat} (h : i < 26) : abc.getD i 0 ∈ abc := by
  rw [List.getD_eq_getElem?_getD, List.getElem?_eq_getElem (by exact h)]
  exact List.getElem_mem _
theorem abc_at : ∀ i < 26, abc.getD i 0 = 97 + i := by decide +kernel
def NameOk (s : Str) : Prop := ∃ l : List Nat, s = Sl l ∧ 1 ≤ l.length ∧ l.length ≤ 8 ∧ ∀ c ∈ l, c ∈ abc
mutual
theorem D.eqv_self : ∀ d : D, PyData.eqv d.py d.py = true
  | .non => by simp [D.py, PyData.eqv]
  | .bl _ => by simp [D.py, PyData.eqv]
  | .int _ => by simp [D.py, PyData.eqv]
  | .str _ => by simp [D.py, PyData.eqv]
  | .lst ds => by simp only [D.py, PyData.eqv]; exact D.eqvs_self ds
  | .tup ds => by simp only [D.py, PyData.eqv]; exact D.eqvs_self ds
  | .dK _ => by simp [D.py, PyData.eqv]
  | .dT _ => by simp [D.py, PyData.eqv]
  | .obj _ _ => by simp [D.py, PyData.eqv]
  | .scr _ => by simp [D.py, PyData.eqv]
theorem D.eqvs_self : ∀ ds : List D, PyData.eqvAll (D.pys ds) (D.pys ds) = true
  | [] => by simp [D.pys, PyData.eqvAll]
  | d :: ds => by simp only [D.pys, PyData.eqvAll]; rw [D.eqv_self d, D.eqvs_self ds]; rfl
end
mutual
def D.gd : Nat → D → Bool
  | _, .non => true | _, .bl _ => true | _, .int _ => true | _, .str x => PyData.strOk x
  | k + 1, .lst ds => decide (ds.length ≤ 1000000) && D.gds k ds
  | k + 1, .tup ds => decide (ds.length ≤ 1000000) && D.gds k ds
  | _, _ => false
def D.gds : Nat → List D → Bool
  | _, [] => true
  | k, d :: ds => D.gd k d && D.gds k ds
end
mutual
theorem D.gd_pyo : ∀ {k : Nat} {d : D}, D.gd k d = true → d.pyo = true ∧ d.py.depth ≤ k
  | _, .non, _ => ⟨rfl, by simp [D.py, PyData.depth]⟩
  | _, .bl _, _ => ⟨rfl, by simp [D.py, PyData.depth]⟩
  | _, .int _, _ => ⟨rfl, by simp [D.py, PyData.depth]⟩
  | _, .str x, h => ⟨by simpa [D.gd, D.pyo] using h, by simp [D.py, PyData.depth]⟩
  | 0, .lst _, h => by simp [D.gd] at h
  | 0, .tup _, h => by simp [D.gd] at h
  | k + 1, .lst ds, h => by
    simp only [D.gd, Bool.and_eq_true] at h
    obtain ⟨h1, h2⟩ := D.gds_pyo h.2
    exact ⟨h1, by simp only [D.py, PyData.depth]; omega⟩
  | k + 1, .tup ds, h => by
    simp only [D.gd, Bool.and_eq_true] at h
    obtain ⟨h1, h2⟩ := D.gds_pyo h.2
    exact ⟨h1, by simp only [D.py, PyData.depth]; omega⟩
  | _, .dK _, h => by simp [D.gd] at h
  | _, .dT _, h => by simp [D.gd] at h
  | _, .obj _ _, h => by simp [D.gd] at h
  | _, .scr _, h => by simp [D.gd] at h
theorem D.gds_pyo : ∀ {k : Nat} {ds : List D}, D.gds k ds = true → D.pyos ds = true ∧ PyData.depthAll (D.pys ds) ≤ k
  | _, [], _ => ⟨rfl, by simp [D.pys, PyData.depthAll]⟩
  | k, d :: ds, h => by
    simp only [D.gds, Bool.and_eq_true] at h
    obtain ⟨h1, h2⟩ := D.gd_pyo h.1
    obtain ⟨h3, h4⟩ := D.gds_pyo h.2
    exact ⟨by simp [D.pyos, h1, h3], by simp only [D.pys, PyData.depthAll]; omega⟩
end
theorem D.gds_mem {k : Nat} : ∀ {ds : List D}, (∀ d ∈ ds, D.gd k d = true) → D.gds k ds = true
  | [], _ => rfl
  | d :: ds, h => by rw [D.gds, h d (List.mem_cons_self ..), D.gds_mem fun x hx => h x (List.mem_cons_of_mem _ hx)]; rfl
theorem D.gds_at {k : Nat} : ∀ {ds : List D} {d : D}, D.gds k ds = true → d ∈ ds → D.gd k d = true
  | e :: ds, d, h, hd => by
    rw [D.gds, Bool.and_eq_true] at h
    rcases List.mem_cons.mp hd with z | z
    · subst z; exact h.1
    · exact D.gds_at h.2 z
theorem eqG_self {k : Nat} {d : D} (h : D.gd k d = true) (hk : k ≤ 64) : eqG d d = some true := by
  obtain ⟨h1, h2⟩ := D.gd_pyo h
  unfold eqG
  rw [if_pos (by simp only [h1, Bool.true_and, Bool.and_eq_true, decide_eq_true_eq]; omega), D.eqv_self]
theorem eqG_nil {k : Nat} {ds : List D} (h : D.gd k (.lst ds) = true) (hk : k ≤ 64) : eqG (.lst ds) (.lst []) = some ds.isEmpty := by
  obtain ⟨h1, h2⟩ := D.gd_pyo h
  unfold eqG
  rw [if_pos (by
    have e : (D.lst []).py.depth ≤ 64 := by simp [D.py, D.pys, PyData.depth, PyData.depthAll]
    have e2 : (D.lst []).pyo = true := rfl
    rw [h1, e2, decide_eq_true e]; simp only [Bool.true_and, Bool.and_true, decide_eq_true_eq]; omega)]
  cases ds with
  | nil => simp [D.py, D.pys, PyData.eqv, PyData.eqvAll]
  | cons d ds => simp [D.py, D.pys, PyData.eqv, PyData.eqvAll]
theorem NameOk.strOk {s : Str} (h : NameOk s) : PyData.strOk s = true := by
  obtain ⟨l, e, _, _, h⟩ := h
  subst e
  unfold PyData.strOk Sl
  simp only [List.all_toArray, List.all_eq_true, decide_eq_true_eq]
  intro c hc
  have : ∀ c ∈ abc, c < 1114112 := by decide
  exact this c (h c hc)
theorem cutX_take {α : Type} {xs : List α} {r : Int} (h0 : 0 ≤ r) : cutX xs none (some r) = xs.take r.toNat := by
  unfold cutX
  rw [sIx_nn h0]
  show List.take (min r.toNat xs.length - 0) (List.drop 0 xs) = _
  rw [Nat.sub_zero, List.drop_zero]
  simp [List.take_eq_take_iff]
theorem enumL_mem {α : Type} {xs : List α} {z : Int × α} (h : z ∈ enumL xs) : ∃ i : Nat, xs[i]? = some z.2 ∧ z.1 = (i : Int) := by
  obtain ⟨n, hn⟩ := List.mem_iff_getElem?.mp h
  rw [enumL_get] at hn
  cases q : xs[n]? with
  | none => rw [q] at hn; cases hn
  | some x => rw [q] at hn; cases hn; exact ⟨n, q, rfl⟩
theorem Sm.foldTo {α S : Type} {xs : List α} {s0 : S} {f : S → α → Option S} {P : S → Prop} (I : List α → S → Prop) (h0 : I [] s0) (hs : ∀ p x q s, xs = p ++ x :: q → I p s → Sm (f s x) (I (p ++ [x]))) (he : ∀ s, I xs s → P s) : Sm (xs.foldlM f s0) P := by
  have := Sm.fold (f := f) I (xs := xs) (pre := []) h0 fun p x q s e hp => hs p x q s (by rw [← e]; rfl) hp
  rw [List.nil_append] at this
  exact this.mono he
end DL
namespace K14
open PySem PySem.Spec L2 DL Hd
open PyProof.Rows hiding St
def m_law_cell (a_script : (List Int)) (a_k : Int) : Option Int :=
  (if (decide (a_k < (a_script.length : Int))) = true then ((idxG a_script a_k).bind fun x_1 => some x_1) else ((some ((7919 : Int) * (a_k + (1 : Int)))).bind fun far_2 => ((rng1G (a_script.length : Int)).bind fun r_3 => ((List.foldlM (fun (s_4 : (Int)) (z_5 : Int) => ((idxG a_script z_5).bind fun x_7 => ((mulG (z_5 + (3 : Int)) ((if x_7 < 0 then -x_7 else x_7 : Int) % (1000003 : Int))).bind fun n_8 => ((some ((s_4 + (n_8 * (31 : Int))) % (1000003 : Int))).bind fun far_9 => some far_9)))) far_2 r_3).bind fun s_6 => some s_6))))
def R_law_cell : Rel := fun ds d k => ∃ (a_script : (List Int)) (a_k : Int) (r : Int), ds = [(D.scr a_script), (D.int a_k)] ∧ m_law_cell a_script a_k = some r ∧ d = D.int r ∧ k = .cln
abbrev N_law_cell : List Str := ["script", "k", "far", "j"]
theorem fs_law_cell : FnScope N_law_cell ["script", "k"] (defScope s_law_cell) := ⟨rfl, rfl, rfl, by decide +kernel, rfl, by decide +kernel, by decide +kernel⟩
theorem sc_law_cell : Sc N_law_cell (defScope s_law_cell) [0, 1, 2, 3] [2, 3] ["len", "range", "abs"] := ⟨fs_law_cell.nd, by decide +kernel⟩
theorem b_law_cell {X : Cx} {Γ : Gd} (A : At X Γ N_law_cell (defScope s_law_cell) 0) (g_abs : Γ.mg "abs" = none) (g_len : Γ.mg "len" = none) (g_range : Γ.mg "range" = none) {ds : List D} {d : D} {k : Kd} (hR : R_law_cell ds d k) :
    SS X (env0 4 ds) (defBody s_law_cell) { rt := fun d' k' => d' = d ∧ Fits k' k d, nx := fun _ => d = .non ∧ k = .cln } := by
  obtain ⟨a_script, a_k, r, rfl, H, rfl, rfl⟩ := hR
  unfold m_law_cell at H
  refine ss_if (et_cI (nmF A sc_law_cell 1 rfl rfl rfl) (lenC_ (bn A sc_law_cell 0 rfl g_len bt_len) (nmB A sc_law_cell 0 rfl rfl rfl) rfl) .lt) (fun hc => ?_) (fun hc => ?_)
  · replace H := ifT H hc
    obtain ⟨x_1, hx_1, H⟩ := bindO H
    exact ss_ret (ixC_ (nmB A sc_law_cell 0 rfl rfl rfl) (nmF A sc_law_cell 1 rfl rfl rfl) hx_1 (fun _ _ => rfl)) (⟨(congrArg D.int (Option.some.inj H)), .int⟩)
  · replace H := ifF H hc
    refine ss_nil ?_
    show SS X _ _ _
    obtain ⟨far_2, hfar_2, H⟩ := bindO H
    refine set_ A sc_law_cell 2 rfl rfl (Ev.cv (ev_mul ev_int (ev_add (nmF A sc_law_cell 1 rfl rfl rfl) ev_int) (.inl ⟨by decide, by decide⟩)) (congrArg D.int (Option.some.inj hfar_2))) .int rfl ?_
    obtain ⟨r_3, hr_3, H⟩ := bindO H
    obtain ⟨s_6, hs_6, H⟩ := bindO H
    refine forM_ (en := D.int) (fun s_4 : (Int) => [some (.bor (D.scr a_script)), some (.frz (D.int a_k)), some (.frz (D.int s_4)), none]) A (rng1_ (glo A sc_law_cell 1 rfl) (by rw [A.eM]; exact g_range) (lenC_ (bn A sc_law_cell 0 rfl g_len bt_len) (nmB A sc_law_cell 0 rfl rfl rfl) rfl) hr_3 rfl) (tg A sc_law_cell 3 rfl rfl) (fun _ => rfl) hs_6 ?_ ?_ ?_
    · exact (wkr (wkr (wkr (wkn wk0))))
    · intro s_4 z_5 s' hx H
      refine ⟨_, rfl, ?_⟩
      obtain ⟨x_7, hx_7, H⟩ := bindO H
      obtain ⟨n_8, hn_8, H⟩ := bindO H
      obtain ⟨far_9, hfar_9, H⟩ := bindO H
      refine set_ A sc_law_cell 2 rfl rfl (Ev.cv (ev_mod (ev_add (nmF A sc_law_cell 2 rfl rfl rfl) (ev_mul (mul_ (ev_add (nmF A sc_law_cell 3 rfl rfl rfl) ev_int) (ev_mod (ev_abs (bn A sc_law_cell 2 rfl g_abs bt_abs) (ixC_ (nmB A sc_law_cell 0 rfl rfl rfl) (nmF A sc_law_cell 3 rfl rfl rfl) hx_7 (fun _ _ => rfl)) rfl) ev_int (by decide)) hn_8) ev_int (.inr ⟨by decide, by decide⟩))) ev_int (by decide)) (congrArg D.int (Option.some.inj hfar_9))) .int rfl ?_
      obtain rfl := Option.some.inj H
      refine ss_nil ?_
      exact (wkr (wkr (wkr (wkn wk0))))
    exact ss_ret (nmF A sc_law_cell 2 rfl rfl rfl) (⟨(congrArg D.int (Option.some.inj H)), .int⟩)
def m_law_mixed (a_cell : Int) (a_k : Int) : Option Int :=
  ((some (((((if a_cell < 0 then -a_cell else a_cell : Int) % (2147483647 : Int)) * (48271 : Int)) + ((a_k + (1 : Int)) * (69621 : Int))) % (2147483647 : Int))).bind fun x_1 => ((mulG x_1 ((x_1 % (46337 : Int)) + (16807 : Int))).bind fun n_2 => ((some ((n_2 + ((a_k + (7 : Int)) * (7919 : Int))) % (2147483629 : Int))).bind fun x_3 => ((mulG x_3 ((x_3 % (32749 : Int)) + (48271 : Int))).bind fun n_4 => ((some (n_4 % (2147483647 : Int))).bind fun x_5 => some (x_5 / (11 : Int)))))))
def R_law_mixed : Rel := fun ds d k => ∃ (a_cell : Int) (a_k : Int) (r : Int), ds = [(D.int a_cell), (D.int a_k)] ∧ m_law_mixed a_cell a_k = some r ∧ d = D.int r ∧ k = .cln
abbrev N_law_mixed : List Str := ["cell", "k", "x"]
theorem fs_law_mixed : FnScope N_law_mixed ["cell", "k"] (defScope s_law_mixed) := ⟨rfl, rfl, rfl, by decide +kernel, rfl, by decide +kernel, by decide +kernel⟩
theorem sc_law_mixed : Sc N_law_mixed (defScope s_law_mixed) [0, 1, 2] [2] ["abs"] := ⟨fs_law_mixed.nd, by decide +kernel⟩
theorem b_law_mixed {X : Cx} {Γ : Gd} (A : At X Γ N_law_mixed (defScope s_law_mixed) 0) (g_abs : Γ.mg "abs" = none) {ds : List D} {d : D} {k : Kd} (hR : R_law_mixed ds d k) :
    SS X (env0 3 ds) (defBody s_law_mixed) { rt := fun d' k' => d' = d ∧ Fits k' k d, nx := fun _ => d = .non ∧ k = .cln } := by
  obtain ⟨a_cell, a_k, r, rfl, H, rfl, rfl⟩ := hR
  unfold m_law_mixed at H
  obtain ⟨x_1, hx_1, H⟩ := bindO H
  refine set_ A sc_law_mixed 2 rfl rfl (Ev.cv (ev_mod (ev_add (ev_mul (ev_mod (ev_abs (bn A sc_law_mixed 0 rfl g_abs bt_abs) (nmF A sc_law_mixed 0 rfl rfl rfl) rfl) ev_int (by decide)) ev_int (.inr ⟨by decide, by decide⟩)) (ev_mul (ev_add (nmF A sc_law_mixed 1 rfl rfl rfl) ev_int) ev_int (.inr ⟨by decide, by decide⟩))) ev_int (by decide)) (congrArg D.int (Option.some.inj hx_1))) .int rfl ?_
  obtain ⟨n_2, hn_2, H⟩ := bindO H
  obtain ⟨x_3, hx_3, H⟩ := bindO H
  refine set_ A sc_law_mixed 2 rfl rfl (Ev.cv (ev_mod (ev_add (mul_ (nmF A sc_law_mixed 2 rfl rfl rfl) (ev_add (ev_mod (nmF A sc_law_mixed 2 rfl rfl rfl) ev_int (by decide)) ev_int) hn_2) (ev_mul (ev_add (nmF A sc_law_mixed 1 rfl rfl rfl) ev_int) ev_int (.inr ⟨by decide, by decide⟩))) ev_int (by decide)) (congrArg D.int (Option.some.inj hx_3))) .int rfl ?_
  obtain ⟨n_4, hn_4, H⟩ := bindO H
  obtain ⟨x_5, hx_5, H⟩ := bindO H
  refine set_ A sc_law_mixed 2 rfl rfl (Ev.cv (ev_mod (mul_ (nmF A sc_law_mixed 2 rfl rfl rfl) (ev_add (ev_mod (nmF A sc_law_mixed 2 rfl rfl rfl) ev_int (by decide)) ev_int) hn_4) ev_int (by decide)) (congrArg D.int (Option.some.inj hx_5))) .int rfl ?_
  exact ss_ret (ev_fdiv (nmF A sc_law_mixed 2 rfl rfl rfl) ev_int ⟨by decide, by decide⟩) (⟨(congrArg D.int (Option.some.inj H)), .int⟩)
def m_law_pool (a_cell : Int) (a_number : Int) : Option (List Int) :=
  ((some (if a_cell < 0 then -a_cell else a_cell : Int)).bind fun rest_1 => ((some (decide ((1000000000000000000 : Int) ≤ rest_1))).bind fun deep_2 => ((some ([] : (List Int))).bind fun pool_3 => ((rng1G a_number).bind fun r_4 => ((List.foldlM (fun (s_5 : (Int × (List Int))) (z_6 : Int) => ((if (deep_2 && (decide ((0 : Int) < s_5.1))) = true then ((appG s_5.2 (s_5.1 % (5040 : Int))).bind fun pool_9 => ((some (s_5.1 / (5040 : Int))).bind fun rest_10 => some (rest_10, pool_9))) else ((m_law_mixed a_cell z_6).bind fun r_11 => ((appG s_5.2 r_11).bind fun pool_12 => some (s_5.1, pool_12))) : Option (Int × (List Int))).bind fun s_8 => some (s_8.1, s_8.2))) (rest_1, pool_3) r_4).bind fun s_7 => some s_7.2)))))
def R_law_pool : Rel := fun ds d k => ∃ (a_cell : Int) (a_number : Int) (r : (List Int)), ds = [(D.int a_cell), (D.int a_number)] ∧ m_law_pool a_cell a_number = some r ∧ d = (fun x : (List Int) => (D.lst (List.map D.int x))) r ∧ k = .own
abbrev N_law_pool : List Str := ["cell", "number", "rest", "deep", "pool", "k"]
theorem fs_law_pool : FnScope N_law_pool ["cell", "number"] (defScope s_law_pool) := ⟨rfl, rfl, rfl, by decide +kernel, rfl, by decide +kernel, by decide +kernel⟩
theorem sc_law_pool : Sc N_law_pool (defScope s_law_pool) [0, 1, 2, 3, 4, 5] [2, 3, 4, 5] ["abs", "range", "_law_mixed"] := ⟨fs_law_pool.nd, by decide +kernel⟩
theorem b_law_pool {X : Cx} {Γ : Gd} (A : At X Γ N_law_pool (defScope s_law_pool) 1) (g_abs : Γ.mg "abs" = none) (g_range : Γ.mg "range" = none) (C_law_mixed : Cal Γ "_law_mixed" R_law_mixed 1 []) {ds : List D} {d : D} {k : Kd} (hR : R_law_pool ds d k) :
    SS X (env0 6 ds) (defBody s_law_pool) { rt := fun d' k' => d' = d ∧ Fits k' k d, nx := fun _ => d = .non ∧ k = .cln } := by
  obtain ⟨a_cell, a_number, r, rfl, H, rfl, rfl⟩ := hR
  unfold m_law_pool at H
  obtain ⟨rest_1, hrest_1, H⟩ := bindO H
  refine set_ A sc_law_pool 2 rfl rfl (Ev.cv (ev_abs (bn A sc_law_pool 0 rfl g_abs bt_abs) (nmF A sc_law_pool 0 rfl rfl rfl) rfl) (congrArg D.int (Option.some.inj hrest_1))) .int rfl ?_
  obtain ⟨deep_2, hdeep_2, H⟩ := bindO H
  refine set_ A sc_law_pool 3 rfl rfl (Ev.cv (ev_cI (nmF A sc_law_pool 2 rfl rfl rfl) (Ev.cv (ev_pow ev_int ev_int ⟨by decide, by decide, by decide⟩) (congrArg D.int (by decide))) .ge) (congrArg D.bl (Option.some.inj hdeep_2))) .bl rfl ?_
  obtain ⟨pool_3, hpool_3, H⟩ := bindO H
  refine set_ A sc_law_pool 4 rfl rfl (Ev.cv (ev_list ea_nil (.inl rfl) (le_line rfl)) (congrArg (fun x : (List Int) => (D.lst (List.map D.int x))) (Option.some.inj hpool_3))) .own rfl ?_
  obtain ⟨r_4, hr_4, H⟩ := bindO H
  obtain ⟨s_7, hs_7, H⟩ := bindO H
  refine forM_ (en := D.int) (fun s_5 : (Int × (List Int)) => [some (.frz (D.int a_cell)), some (.frz (D.int a_number)), some (.frz (D.int s_5.1)), some (.frz (D.bl deep_2)), some (.own (D.lst (List.map D.int s_5.2))), none]) A (rng1_ (glo A sc_law_pool 1 rfl) (by rw [A.eM]; exact g_range) (nmF A sc_law_pool 1 rfl rfl rfl) hr_4 rfl) (tg A sc_law_pool 5 rfl rfl) (fun _ => rfl) hs_7 ?_ ?_ ?_
  · exact (wkr (wkr (wkr (wkr (wkr (wkn wk0))))))
  · intro s_5 z_6 s' hx H
    refine ⟨_, rfl, ?_⟩
    obtain ⟨s_8, hs_8, H⟩ := bindO H
    refine ss_ifM [some (.frz (D.int a_cell)), some (.frz (D.int a_number)), some (.frz (D.int s_8.1)), some (.frz (D.bl deep_2)), some (.own (D.lst (List.map D.int s_8.2))), some (.frz (D.int z_6))] (Ew.et (ew_and (Ev.et (nmF A sc_law_pool 3 rfl rfl rfl) fun _ => rfl) fun _ => (ew_and1 (et_cI (nmF A sc_law_pool 2 rfl rfl rfl) ev_int .gt)))) ?_ (fun hc => ?_) (fun hc => ?_)
    · skip
      obtain rfl := Option.some.inj H
      refine ss_nil ?_
      exact (wkr (wkr (wkr (wkr (wkr (wkn wk0))))))
    · replace H := ifT hs_8 hc
      obtain ⟨pool_9, hpool_9, H⟩ := bindO H
      refine app_ (en := D.int) (x := (s_5.1 % (5040 : Int))) A sc_law_pool 4 rfl rfl rfl (ev_mod (nmF A sc_law_pool 2 rfl rfl rfl) ev_int (by decide)) rfl hpool_9 ⟨rfl, rfl, rfl⟩ rfl rfl ?_
      obtain ⟨rest_10, hrest_10, H⟩ := bindO H
      refine set_ A sc_law_pool 2 rfl rfl (Ev.cv (ev_fdiv (nmF A sc_law_pool 2 rfl rfl rfl) ev_int ⟨by decide, by decide⟩) (congrArg D.int (Option.some.inj hrest_10))) .int rfl ?_
      obtain rfl := Option.some.inj H
      refine ss_nil ?_
      exact (wkr (wkr (wkr (wkr (wkr (wkr wk0))))))
    · replace H := ifF hs_8 hc
      obtain ⟨r_11, hr_11, H⟩ := bindO H
      obtain ⟨pool_12, hpool_12, H⟩ := bindO H
      refine app_ (en := D.int) (x := r_11) A sc_law_pool 4 rfl rfl rfl (Cal.ev C_law_mixed A sc_law_pool 2 rfl (by decide) (ea_cons (nmF A sc_law_pool 0 rfl rfl rfl) (ea_cons (nmF A sc_law_pool 5 rfl rfl rfl) ea_nil (.inl rfl) rfl) (.inl rfl) rfl) (.inl rfl) (.inr (.inl rfl)) rfl rfl ⟨a_cell, z_6, r_11, rfl, hr_11, rfl, rfl⟩) rfl hpool_12 ⟨rfl, rfl, rfl⟩ rfl rfl ?_
      obtain rfl := Option.some.inj H
      refine ss_nil ?_
      exact (wkr (wkr (wkr (wkr (wkr (wkr wk0))))))
  exact retO A sc_law_pool 4 rfl rfl rfl (⟨(congrArg (fun x : (List Int) => (D.lst (List.map D.int x))) (Option.some.inj H)), .refl⟩)
def m_law_part (a_pool : (List Int)) (a_spot : Int) (a_under : Int) (a_size : Int) : Option Int :=
  ((idxG a_pool a_spot).bind fun x_1 => ((divG x_1 a_under).bind fun n_2 => ((modG n_2 a_size).bind fun n_3 => some n_3)))
def R_law_part : Rel := fun ds d k => ∃ (a_pool : (List Int)) (a_spot : Int) (a_under : Int) (a_size : Int) (r : Int), ds = [(D.lst (List.map D.int a_pool)), (D.int a_spot), (D.int a_under), (D.int a_size)] ∧ m_law_part a_pool a_spot a_under a_size = some r ∧ d = D.int r ∧ k = .cln
abbrev N_law_part : List Str := ["pool", "spot", "under", "size"]
theorem fs_law_part : FnScope N_law_part ["pool", "spot", "under", "size"] (defScope s_law_part) := ⟨rfl, rfl, rfl, by decide +kernel, rfl, by decide +kernel, by decide +kernel⟩
theorem sc_law_part : Sc N_law_part (defScope s_law_part) [0, 1, 2, 3] [] ["int"] := ⟨fs_law_part.nd, by decide +kernel⟩
theorem b_law_part {X : Cx} {Γ : Gd} (A : At X Γ N_law_part (defScope s_law_part) 0) (g_int : Γ.mg "int" = none) {ds : List D} {d : D} {k : Kd} (hR : R_law_part ds d k) :
    SS X (env0 4 ds) (defBody s_law_part) { rt := fun d' k' => d' = d ∧ Fits k' k d, nx := fun _ => d = .non ∧ k = .cln } := by
  obtain ⟨a_pool, a_spot, a_under, a_size, r, rfl, H, rfl, rfl⟩ := hR
  unfold m_law_part at H
  obtain ⟨x_1, hx_1, H⟩ := bindO H
  obtain ⟨n_2, hn_2, H⟩ := bindO H
  obtain ⟨n_3, hn_3, H⟩ := bindO H
  exact ss_ret (mod_ (div_ (int_ (bn A sc_law_part 0 rfl g_int bt_int) (ixL_ (f := D.int) (nmB A sc_law_part 0 rfl rfl rfl) (nmF A sc_law_part 1 rfl rfl rfl) hx_1 (fun _ _ => rfl)) .int rfl) (nmF A sc_law_part 2 rfl rfl rfl) hn_2) (nmF A sc_law_part 3 rfl rfl rfl) hn_3) (⟨(congrArg D.int (Option.some.inj H)), .int⟩)
def m_law_names (a_pool : (List Int)) (a_spot : Int) (a_number : Int) : Option (List Str) :=
  ((some ("abcdefghijklmnopqrstuvwxyz" : Str)).bind fun letters_1 => ((some ("" : Str)).bind fun stem_2 => ((rng1G (3 : Int)).bind fun r_3 => ((List.foldlM (fun (s_4 : (Str)) (z_5 : Int) => ((m_law_part a_pool (a_spot + z_5) (1 : Int) (26 : Int)).bind fun r_7 => ((idxSG letters_1 r_7).bind fun t_8 => ((addSG s_4 t_8).bind fun t_9 => ((m_law_part a_pool (a_spot + z_5) (26 : Int) (26 : Int)).bind fun r_10 => ((idxSG letters_1 r_10).bind fun t_11 => ((addSG t_9 t_11).bind fun t_12 => ((some t_12).bind fun stem_13 => some stem_13)))))))) stem_2 r_3).bind fun s_6 => ((m_law_part a_pool (a_spot + (3 : Int)) (1 : Int) (6 : Int)).bind fun r_14 => ((some r_14).bind fun turn_15 => ((m_law_part a_pool (a_spot + (3 : Int)) (6 : Int) (7 : Int)).bind fun r_16 => ((some r_16).bind fun cut_17 => ((m_law_part a_pool (a_spot + (3 : Int)) (42 : Int) (26 : Int)).bind fun r_18 => ((some r_18).bind fun first_19 => ((m_law_part a_pool (a_spot + (4 : Int)) (4 : Int) (7 : Int)).bind fun r_20 => ((slSG s_6 none (some r_20)).bind fun t_21 => ((some t_21).bind fun short_22 => ((m_law_part a_pool (a_spot + (4 : Int)) (2 : Int) (2 : Int)).bind fun r_23 => ((slSG s_6 none (some r_23)).bind fun t_24 => ((some t_24).bind fun tail_25 => ((some ([] : (List Str))).bind fun names_26 => ((rng1G a_number).bind fun r_27 => ((List.foldlM (fun (s_28 : ((List Str))) (z_29 : Int) => ((some ((z_29 + turn_15) % (6 : Int))).bind fun mark_31 => ((m_law_part a_pool (a_spot + (4 : Int)) (1 : Int) (2 : Int)).bind fun r_32 => ((if (decide (r_32 = (0 : Int))) = true then ((slSG short_22 none (some cut_17)).bind fun t_34 => ((idxSG letters_1 ((first_19 + ((7 : Int) * mark_31)) % (26 : Int))).bind fun t_35 => ((addSG t_34 t_35).bind fun t_36 => ((slSG short_22 (some cut_17) none).bind fun t_37 => ((addSG t_36 t_37).bind fun t_38 => ((addSG t_38 tail_25).bind fun t_39 => ((appG s_28 t_39).bind fun names_40 => some names_40))))))) else ((slSG s_6 none (some (mark_31 + (1 : Int)))).bind fun t_41 => ((appG s_28 t_41).bind fun names_42 => some names_42)) : Option ((List Str))).bind fun s_33 => some s_33)))) names_26 r_27).bind fun s_30 => some s_30)))))))))))))))))))
def R_law_names : Rel := fun ds d k => ∃ (a_pool : (List Int)) (a_spot : Int) (a_number : Int) (r : (List Str)), ds = [(D.lst (List.map D.int a_pool)), (D.int a_spot), (D.int a_number)] ∧ m_law_names a_pool a_spot a_number = some r ∧ d = (fun x : (List Str) => (D.lst (List.map D.str x))) r ∧ k = .own
abbrev N_law_names : List Str := ["pool", "spot", "number", "letters", "stem", "k", "turn", "cut", "first", "short", "tail", "names", "mark"]
theorem fs_law_names : FnScope N_law_names ["pool", "spot", "number"] (defScope s_law_names) := ⟨rfl, rfl, rfl, by decide +kernel, rfl, by decide +kernel, by decide +kernel⟩
theorem sc_law_names : Sc N_law_names (defScope s_law_names) [0, 1, 2, 3, 4, 5, 6, 7, 8, 9, 10, 11, 12] [3, 4, 5, 6, 7, 8, 9, 10, 11, 12] ["range", "_law_part", "int"] := ⟨fs_law_names.nd, by decide +kernel⟩
theorem b_law_names {X : Cx} {Γ : Gd} (A : At X Γ N_law_names (defScope s_law_names) 1) (g_int : Γ.mg "int" = none) (g_range : Γ.mg "range" = none) (C_law_part : Cal Γ "_law_part" R_law_part 1 []) {ds : List D} {d : D} {k : Kd} (hR : R_law_names ds d k) :
    SS X (env0 13 ds) (defBody s_law_names) { rt := fun d' k' => d' = d ∧ Fits k' k d, nx := fun _ => d = .non ∧ k = .cln } := by
  obtain ⟨a_pool, a_spot, a_number, r, rfl, H, rfl, rfl⟩ := hR
  unfold m_law_names at H
  obtain ⟨letters_1, hletters_1, H⟩ := bindO H
  refine set_ A sc_law_names 3 rfl rfl (Ev.cv ev_str (congrArg D.str (Option.some.inj hletters_1))) .str rfl ?_
  obtain ⟨stem_2, hstem_2, H⟩ := bindO H
  refine set_ A sc_law_names 4 rfl rfl (Ev.cv ev_str (congrArg D.str (Option.some.inj hstem_2))) .str rfl ?_
  obtain ⟨r_3, hr_3, H⟩ := bindO H
  obtain ⟨s_6, hs_6, H⟩ := bindO H
  refine forM_ (en := D.int) (fun s_4 : (Str) => [some (.bor (D.lst (List.map D.int a_pool))), some (.frz (D.int a_spot)), some (.frz (D.int a_number)), some (.frz (D.str letters_1)), some (.frz (D.str s_4)), none, none, none, none, none, none, none, none]) A (rng1_ (glo A sc_law_names 0 rfl) (by rw [A.eM]; exact g_range) ev_int hr_3 rfl) (tg A sc_law_names 5 rfl rfl) (fun _ => rfl) hs_6 ?_ ?_ ?_
  · exact (wkr (wkr (wkr (wkr (wkr (wkn (wkn (wkn (wkn (wkn (wkn (wkn (wkn wk0)))))))))))))
  · intro s_4 z_5 s' hx H
    refine ⟨_, rfl, ?_⟩
    obtain ⟨r_7, hr_7, H⟩ := bindO H
    obtain ⟨t_8, ht_8, H⟩ := bindO H
    obtain ⟨t_9, ht_9, H⟩ := bindO H
    obtain ⟨r_10, hr_10, H⟩ := bindO H
    obtain ⟨t_11, ht_11, H⟩ := bindO H
    obtain ⟨t_12, ht_12, H⟩ := bindO H
    obtain ⟨stem_13, hstem_13, H⟩ := bindO H
    refine set_ A sc_law_names 4 rfl rfl (Ev.cv (addS_ (addS_ (nmF A sc_law_names 4 rfl rfl rfl) (ixS_ (nmF A sc_law_names 3 rfl rfl rfl) (Cal.ev C_law_part A sc_law_names 1 rfl (by decide) (ea_cons (nmB A sc_law_names 0 rfl rfl rfl) (ea_cons (ev_add (nmF A sc_law_names 1 rfl rfl rfl) (nmF A sc_law_names 5 rfl rfl rfl)) (ea_cons ev_int (ea_cons ev_int ea_nil (.inl rfl) rfl) (.inl rfl) rfl) (.inl rfl) rfl) (.inl rfl) rfl) (.inr (.inl rfl)) (.inr (.inl rfl)) rfl rfl ⟨a_pool, (a_spot + z_5), (1 : Int), (26 : Int), r_7, rfl, hr_7, rfl, rfl⟩) ht_8 (fun _ _ => rfl)) ht_9) (ixS_ (nmF A sc_law_names 3 rfl rfl rfl) (Cal.ev C_law_part A sc_law_names 1 rfl (by decide) (ea_cons (nmB A sc_law_names 0 rfl rfl rfl) (ea_cons (ev_add (nmF A sc_law_names 1 rfl rfl rfl) (nmF A sc_law_names 5 rfl rfl rfl)) (ea_cons ev_int (ea_cons ev_int ea_nil (.inl rfl) rfl) (.inl rfl) rfl) (.inl rfl) rfl) (.inl rfl) rfl) (.inr (.inl rfl)) (.inr (.inl rfl)) rfl rfl ⟨a_pool, (a_spot + z_5), (26 : Int), (26 : Int), r_10, rfl, hr_10, rfl, rfl⟩) ht_11 (fun _ _ => rfl)) ht_12) (congrArg D.str (Option.some.inj hstem_13))) .str rfl ?_
    obtain rfl := Option.some.inj H
    refine ss_nil ?_
    exact (wkr (wkr (wkr (wkr (wkr (wkn (wkn (wkn (wkn (wkn (wkn (wkn (wkn wk0)))))))))))))
  obtain ⟨r_14, hr_14, H⟩ := bindO H
  obtain ⟨turn_15, hturn_15, H⟩ := bindO H
  refine set_ A sc_law_names 6 rfl rfl (Ev.cv (Cal.ev C_law_part A sc_law_names 1 rfl (by decide) (ea_cons (nmB A sc_law_names 0 rfl rfl rfl) (ea_cons (ev_add (nmF A sc_law_names 1 rfl rfl rfl) ev_int) (ea_cons ev_int (ea_cons ev_int ea_nil (.inl rfl) rfl) (.inl rfl) rfl) (.inl rfl) rfl) (.inl rfl) rfl) (.inr (.inl rfl)) (.inr (.inl rfl)) rfl rfl ⟨a_pool, (a_spot + (3 : Int)), (1 : Int), (6 : Int), r_14, rfl, hr_14, rfl, rfl⟩) (congrArg D.int (Option.some.inj hturn_15))) .int rfl ?_
  obtain ⟨r_16, hr_16, H⟩ := bindO H
  obtain ⟨cut_17, hcut_17, H⟩ := bindO H
  refine set_ A sc_law_names 7 rfl rfl (Ev.cv (Cal.ev C_law_part A sc_law_names 1 rfl (by decide) (ea_cons (nmB A sc_law_names 0 rfl rfl rfl) (ea_cons (ev_add (nmF A sc_law_names 1 rfl rfl rfl) ev_int) (ea_cons ev_int (ea_cons ev_int ea_nil (.inl rfl) rfl) (.inl rfl) rfl) (.inl rfl) rfl) (.inl rfl) rfl) (.inr (.inl rfl)) (.inr (.inl rfl)) rfl rfl ⟨a_pool, (a_spot + (3 : Int)), (6 : Int), (7 : Int), r_16, rfl, hr_16, rfl, rfl⟩) (congrArg D.int (Option.some.inj hcut_17))) .int rfl ?_
  obtain ⟨r_18, hr_18, H⟩ := bindO H
  obtain ⟨first_19, hfirst_19, H⟩ := bindO H
  refine set_ A sc_law_names 8 rfl rfl (Ev.cv (Cal.ev C_law_part A sc_law_names 1 rfl (by decide) (ea_cons (nmB A sc_law_names 0 rfl rfl rfl) (ea_cons (ev_add (nmF A sc_law_names 1 rfl rfl rfl) ev_int) (ea_cons ev_int (ea_cons ev_int ea_nil (.inl rfl) rfl) (.inl rfl) rfl) (.inl rfl) rfl) (.inl rfl) rfl) (.inr (.inl rfl)) (.inr (.inl rfl)) rfl rfl ⟨a_pool, (a_spot + (3 : Int)), (42 : Int), (26 : Int), r_18, rfl, hr_18, rfl, rfl⟩) (congrArg D.int (Option.some.inj hfirst_19))) .int rfl ?_
  obtain ⟨r_20, hr_20, H⟩ := bindO H
  obtain ⟨t_21, ht_21, H⟩ := bindO H
  obtain ⟨short_22, hshort_22, H⟩ := bindO H
  refine set_ A sc_law_names 9 rfl rfl (Ev.cv (slS_ (nmF A sc_law_names 4 rfl rfl rfl) eo_none (eo_some (Cal.ev C_law_part A sc_law_names 1 rfl (by decide) (ea_cons (nmB A sc_law_names 0 rfl rfl rfl) (ea_cons (ev_add (nmF A sc_law_names 1 rfl rfl rfl) ev_int) (ea_cons ev_int (ea_cons ev_int ea_nil (.inl rfl) rfl) (.inl rfl) rfl) (.inl rfl) rfl) (.inl rfl) rfl) (.inr (.inl rfl)) (.inr (.inl rfl)) rfl rfl ⟨a_pool, (a_spot + (4 : Int)), (4 : Int), (7 : Int), r_20, rfl, hr_20, rfl, rfl⟩)) ht_21) (congrArg D.str (Option.some.inj hshort_22))) .str rfl ?_
  obtain ⟨r_23, hr_23, H⟩ := bindO H
  obtain ⟨t_24, ht_24, H⟩ := bindO H
  obtain ⟨tail_25, htail_25, H⟩ := bindO H
  refine set_ A sc_law_names 10 rfl rfl (Ev.cv (slS_ (nmF A sc_law_names 4 rfl rfl rfl) eo_none (eo_some (Cal.ev C_law_part A sc_law_names 1 rfl (by decide) (ea_cons (nmB A sc_law_names 0 rfl rfl rfl) (ea_cons (ev_add (nmF A sc_law_names 1 rfl rfl rfl) ev_int) (ea_cons ev_int (ea_cons ev_int ea_nil (.inl rfl) rfl) (.inl rfl) rfl) (.inl rfl) rfl) (.inl rfl) rfl) (.inr (.inl rfl)) (.inr (.inl rfl)) rfl rfl ⟨a_pool, (a_spot + (4 : Int)), (2 : Int), (2 : Int), r_23, rfl, hr_23, rfl, rfl⟩)) ht_24) (congrArg D.str (Option.some.inj htail_25))) .str rfl ?_
  obtain ⟨names_26, hnames_26, H⟩ := bindO H
  refine set_ A sc_law_names 11 rfl rfl (Ev.cv (ev_list ea_nil (.inl rfl) (le_line rfl)) (congrArg (fun x : (List Str) => (D.lst (List.map D.str x))) (Option.some.inj hnames_26))) .own rfl ?_
  obtain ⟨r_27, hr_27, H⟩ := bindO H
  obtain ⟨s_30, hs_30, H⟩ := bindO H
  refine forM_ (en := D.int) (fun s_28 : ((List Str)) => [some (.bor (D.lst (List.map D.int a_pool))), some (.frz (D.int a_spot)), some (.frz (D.int a_number)), some (.frz (D.str letters_1)), some (.frz (D.str s_6)), none, some (.frz (D.int turn_15)), some (.frz (D.int cut_17)), some (.frz (D.int first_19)), some (.frz (D.str short_22)), some (.frz (D.str tail_25)), some (.own (D.lst (List.map D.str s_28))), none]) A (rng1_ (glo A sc_law_names 0 rfl) (by rw [A.eM]; exact g_range) (nmF A sc_law_names 2 rfl rfl rfl) hr_27 rfl) (tg A sc_law_names 5 rfl rfl) (fun _ => rfl) hs_30 ?_ ?_ ?_
  · exact (wkr (wkr (wkr (wkr (wkr (wkn (wkr (wkr (wkr (wkr (wkr (wkr (wkn wk0)))))))))))))
  · intro s_28 z_29 s' hx H
    refine ⟨_, rfl, ?_⟩
    obtain ⟨mark_31, hmark_31, H⟩ := bindO H
    refine set_ A sc_law_names 12 rfl rfl (Ev.cv (ev_mod (int_ (bn A sc_law_names 2 rfl g_int bt_int) (ev_add (nmF A sc_law_names 5 rfl rfl rfl) (nmF A sc_law_names 6 rfl rfl rfl)) .int rfl) ev_int (by decide)) (congrArg D.int (Option.some.inj hmark_31))) .int rfl ?_
    obtain ⟨r_32, hr_32, H⟩ := bindO H
    obtain ⟨s_33, hs_33, H⟩ := bindO H
    refine ss_ifM [some (.bor (D.lst (List.map D.int a_pool))), some (.frz (D.int a_spot)), some (.frz (D.int a_number)), some (.frz (D.str letters_1)), some (.frz (D.str s_6)), some (.frz (D.int z_29)), some (.frz (D.int turn_15)), some (.frz (D.int cut_17)), some (.frz (D.int first_19)), some (.frz (D.str short_22)), some (.frz (D.str tail_25)), some (.own (D.lst (List.map D.str s_33))), some (.frz (D.int mark_31))] (et_cI (Cal.ev C_law_part A sc_law_names 1 rfl (by decide) (ea_cons (nmB A sc_law_names 0 rfl rfl rfl) (ea_cons (ev_add (nmF A sc_law_names 1 rfl rfl rfl) ev_int) (ea_cons ev_int (ea_cons ev_int ea_nil (.inl rfl) rfl) (.inl rfl) rfl) (.inl rfl) rfl) (.inl rfl) rfl) (.inr (.inl rfl)) (.inr (.inl rfl)) rfl rfl ⟨a_pool, (a_spot + (4 : Int)), (1 : Int), (2 : Int), r_32, rfl, hr_32, rfl, rfl⟩) ev_int .eq) ?_ (fun hc => ?_) (fun hc => ?_)
    · skip
      obtain rfl := Option.some.inj H
      refine ss_nil ?_
      exact (wkr (wkr (wkr (wkr (wkr (wkn (wkr (wkr (wkr (wkr (wkr (wkr (wkn wk0)))))))))))))
    · replace H := ifT hs_33 hc
      obtain ⟨t_34, ht_34, H⟩ := bindO H
      obtain ⟨t_35, ht_35, H⟩ := bindO H
      obtain ⟨t_36, ht_36, H⟩ := bindO H
      obtain ⟨t_37, ht_37, H⟩ := bindO H
      obtain ⟨t_38, ht_38, H⟩ := bindO H
      obtain ⟨t_39, ht_39, H⟩ := bindO H
      obtain ⟨names_40, hnames_40, H⟩ := bindO H
      refine app_ (en := D.str) (x := t_39) A sc_law_names 11 rfl rfl rfl (addS_ (addS_ (addS_ (slS_ (nmF A sc_law_names 9 rfl rfl rfl) eo_none (eo_some (nmF A sc_law_names 7 rfl rfl rfl)) ht_34) (ixS_ (nmF A sc_law_names 3 rfl rfl rfl) (ev_mod (int_ (bn A sc_law_names 2 rfl g_int bt_int) (ev_add (nmF A sc_law_names 8 rfl rfl rfl) (ev_mul ev_int (nmF A sc_law_names 12 rfl rfl rfl) (.inl ⟨by decide, by decide⟩))) .int rfl) ev_int (by decide)) ht_35 (fun _ _ => rfl)) ht_36) (slS_ (nmF A sc_law_names 9 rfl rfl rfl) (eo_some (nmF A sc_law_names 7 rfl rfl rfl)) eo_none ht_37) ht_38) (nmF A sc_law_names 10 rfl rfl rfl) ht_39) rfl hnames_40 ⟨rfl, rfl, rfl⟩ rfl rfl ?_
      obtain rfl := Option.some.inj H
      refine ss_nil ?_
      exact (wkr (wkr (wkr (wkr (wkr (wkr (wkr (wkr (wkr (wkr (wkr (wkr (wkr wk0)))))))))))))
    · replace H := ifF hs_33 hc
      obtain ⟨t_41, ht_41, H⟩ := bindO H
      obtain ⟨names_42, hnames_42, H⟩ := bindO H
      refine app_ (en := D.str) (x := t_41) A sc_law_names 11 rfl rfl rfl (slS_ (nmF A sc_law_names 4 rfl rfl rfl) eo_none (eo_some (ev_add (nmF A sc_law_names 12 rfl rfl rfl) ev_int)) ht_41) rfl hnames_42 ⟨rfl, rfl, rfl⟩ rfl rfl ?_
      obtain rfl := Option.some.inj H
      refine ss_nil ?_
      exact (wkr (wkr (wkr (wkr (wkr (wkr (wkr (wkr (wkr (wkr (wkr (wkr (wkr wk0)))))))))))))
  exact retO A sc_law_names 11 rfl rfl rfl (⟨(congrArg (fun x : (List Str) => (D.lst (List.map D.str x))) (Option.some.inj H)), .refl⟩)
def m_law_far (a_pool : (List Int)) (a_spot : Int) (a_number : Int) : Option Int :=
  ((some (0 : Int)).bind fun far_1 => ((rng1G a_number).bind fun r_2 => ((List.foldlM (fun (s_3 : (Int)) (z_4 : Int) => ((idxG a_pool (a_spot + z_4)).bind fun x_6 => ((some ((s_3 * (5040 : Int)) + (x_6 % (5040 : Int)))).bind fun far_7 => some far_7))) far_1 r_2).bind fun s_5 => some s_5)))
def R_law_far : Rel := fun ds d k => ∃ (a_pool : (List Int)) (a_spot : Int) (a_number : Int) (r : Int), ds = [(D.lst (List.map D.int a_pool)), (D.int a_spot), (D.int a_number)] ∧ m_law_far a_pool a_spot a_number = some r ∧ d = D.int r ∧ k = .cln
abbrev N_law_far : List Str := ["pool", "spot", "number", "far", "k"]
theorem fs_law_far : FnScope N_law_far ["pool", "spot", "number"] (defScope s_law_far) := ⟨rfl, rfl, rfl, by decide +kernel, rfl, by decide +kernel, by decide +kernel⟩
theorem sc_law_far : Sc N_law_far (defScope s_law_far) [0, 1, 2, 3, 4] [3, 4] ["range", "int"] := ⟨fs_law_far.nd, by decide +kernel⟩
theorem b_law_far {X : Cx} {Γ : Gd} (A : At X Γ N_law_far (defScope s_law_far) 0) (g_int : Γ.mg "int" = none) (g_range : Γ.mg "range" = none) {ds : List D} {d : D} {k : Kd} (hR : R_law_far ds d k) :
    SS X (env0 5 ds) (defBody s_law_far) { rt := fun d' k' => d' = d ∧ Fits k' k d, nx := fun _ => d = .non ∧ k = .cln } := by
  obtain ⟨a_pool, a_spot, a_number, r, rfl, H, rfl, rfl⟩ := hR
  unfold m_law_far at H
  obtain ⟨far_1, hfar_1, H⟩ := bindO H
  refine set_ A sc_law_far 3 rfl rfl (Ev.cv ev_int (congrArg D.int (Option.some.inj hfar_1))) .int rfl ?_
  obtain ⟨r_2, hr_2, H⟩ := bindO H
  obtain ⟨s_5, hs_5, H⟩ := bindO H
  refine forM_ (en := D.int) (fun s_3 : (Int) => [some (.bor (D.lst (List.map D.int a_pool))), some (.frz (D.int a_spot)), some (.frz (D.int a_number)), some (.frz (D.int s_3)), none]) A (rng1_ (glo A sc_law_far 0 rfl) (by rw [A.eM]; exact g_range) (nmF A sc_law_far 2 rfl rfl rfl) hr_2 rfl) (tg A sc_law_far 4 rfl rfl) (fun _ => rfl) hs_5 ?_ ?_ ?_
  · exact (wkr (wkr (wkr (wkr (wkn wk0)))))
  · intro s_3 z_4 s' hx H
    refine ⟨_, rfl, ?_⟩
    obtain ⟨x_6, hx_6, H⟩ := bindO H
    obtain ⟨far_7, hfar_7, H⟩ := bindO H
    refine set_ A sc_law_far 3 rfl rfl (Ev.cv (ev_add (ev_mul (nmF A sc_law_far 3 rfl rfl rfl) ev_int (.inr ⟨by decide, by decide⟩)) (ev_mod (int_ (bn A sc_law_far 1 rfl g_int bt_int) (ixL_ (f := D.int) (nmB A sc_law_far 0 rfl rfl rfl) (ev_add (nmF A sc_law_far 1 rfl rfl rfl) (nmF A sc_law_far 4 rfl rfl rfl)) hx_6 (fun _ _ => rfl)) .int rfl) ev_int (by decide))) (congrArg D.int (Option.some.inj hfar_7))) .int rfl ?_
    obtain rfl := Option.some.inj H
    refine ss_nil ?_
    exact (wkr (wkr (wkr (wkr (wkn wk0)))))
  exact ss_ret (nmF A sc_law_far 3 rfl rfl rfl) (⟨(congrArg D.int (Option.some.inj H)), .int⟩)
def m_law_chosen (a_pool : (List Int)) (a_spot : Int) (a_under : Int) (a_small : Int) (a_crest : Int) (a_whole : Int) : Option Int :=
  ((m_law_part a_pool a_spot a_under (10 : Int)).bind fun r_1 => ((some r_1).bind fun way_2 => ((m_law_part a_pool a_spot ((10 : Int) * a_under) a_small).bind fun r_3 => ((some r_3).bind fun near_4 => (if (decide (way_2 = (8 : Int))) = true then some (a_crest - near_4) else (if (decide (way_2 = (9 : Int))) = true then ((modG a_whole (a_crest + (1 : Int))).bind fun n_5 => some n_5) else some near_4))))))
def R_law_chosen : Rel := fun ds d k => ∃ (a_pool : (List Int)) (a_spot : Int) (a_under : Int) (a_small : Int) (a_crest : Int) (a_whole : Int) (r : Int), ds = [(D.lst (List.map D.int a_pool)), (D.int a_spot), (D.int a_under), (D.int a_small), (D.int a_crest), (D.int a_whole)] ∧ m_law_chosen a_pool a_spot a_under a_small a_crest a_whole = some r ∧ d = D.int r ∧ k = .cln
abbrev N_law_chosen : List Str := ["pool", "spot", "under", "small", "crest", "whole", "way", "near"]
theorem fs_law_chosen : FnScope N_law_chosen ["pool", "spot", "under", "small", "crest", "whole"] (defScope s_law_chosen) := ⟨rfl, rfl, rfl, by decide +kernel, rfl, by decide +kernel, by decide +kernel⟩
theorem sc_law_chosen : Sc N_law_chosen (defScope s_law_chosen) [0, 1, 2, 3, 4, 5, 6, 7] [6, 7] ["_law_part", "int"] := ⟨fs_law_chosen.nd, by decide +kernel⟩
theorem b_law_chosen {X : Cx} {Γ : Gd} (A : At X Γ N_law_chosen (defScope s_law_chosen) 1) (g_int : Γ.mg "int" = none) (C_law_part : Cal Γ "_law_part" R_law_part 1 []) {ds : List D} {d : D} {k : Kd} (hR : R_law_chosen ds d k) :
    SS X (env0 8 ds) (defBody s_law_chosen) { rt := fun d' k' => d' = d ∧ Fits k' k d, nx := fun _ => d = .non ∧ k = .cln } := by
  obtain ⟨a_pool, a_spot, a_under, a_small, a_crest, a_whole, r, rfl, H, rfl, rfl⟩ := hR
  unfold m_law_chosen at H
  obtain ⟨r_1, hr_1, H⟩ := bindO H
  obtain ⟨way_2, hway_2, H⟩ := bindO H
  refine set_ A sc_law_chosen 6 rfl rfl (Ev.cv (Cal.ev C_law_part A sc_law_chosen 0 rfl (by decide) (ea_cons (nmB A sc_law_chosen 0 rfl rfl rfl) (ea_cons (nmF A sc_law_chosen 1 rfl rfl rfl) (ea_cons (nmF A sc_law_chosen 2 rfl rfl rfl) (ea_cons ev_int ea_nil (.inl rfl) rfl) (.inl rfl) rfl) (.inl rfl) rfl) (.inl rfl) rfl) (.inr (.inl rfl)) (.inr (.inl rfl)) rfl rfl ⟨a_pool, a_spot, a_under, (10 : Int), r_1, rfl, hr_1, rfl, rfl⟩) (congrArg D.int (Option.some.inj hway_2))) .int rfl ?_
  obtain ⟨r_3, hr_3, H⟩ := bindO H
  obtain ⟨near_4, hnear_4, H⟩ := bindO H
  refine set_ A sc_law_chosen 7 rfl rfl (Ev.cv (Cal.ev C_law_part A sc_law_chosen 0 rfl (by decide) (ea_cons (nmB A sc_law_chosen 0 rfl rfl rfl) (ea_cons (nmF A sc_law_chosen 1 rfl rfl rfl) (ea_cons (ev_mul ev_int (nmF A sc_law_chosen 2 rfl rfl rfl) (.inl ⟨by decide, by decide⟩)) (ea_cons (nmF A sc_law_chosen 3 rfl rfl rfl) ea_nil (.inl rfl) rfl) (.inl rfl) rfl) (.inl rfl) rfl) (.inl rfl) rfl) (.inr (.inl rfl)) (.inr (.inl rfl)) rfl rfl ⟨a_pool, a_spot, ((10 : Int) * a_under), a_small, r_3, rfl, hr_3, rfl, rfl⟩) (congrArg D.int (Option.some.inj hnear_4))) .int rfl ?_
  refine ss_if (et_cI (nmF A sc_law_chosen 6 rfl rfl rfl) ev_int .eq) (fun hc => ?_) (fun hc => ?_)
  · replace H := ifT H hc
    exact ss_ret (ev_sub (nmF A sc_law_chosen 4 rfl rfl rfl) (nmF A sc_law_chosen 7 rfl rfl rfl)) (⟨(congrArg D.int (Option.some.inj H)), .int⟩)
  · replace H := ifF H hc
    refine ss_nil ?_
    show SS X _ _ _
    refine ss_if (et_cI (nmF A sc_law_chosen 6 rfl rfl rfl) ev_int .eq) (fun hc => ?_) (fun hc => ?_)
    · replace H := ifT H hc
      obtain ⟨n_5, hn_5, H⟩ := bindO H
      exact ss_ret (mod_ (int_ (bn A sc_law_chosen 1 rfl g_int bt_int) (nmF A sc_law_chosen 5 rfl rfl rfl) .int rfl) (ev_add (nmF A sc_law_chosen 4 rfl rfl rfl) ev_int) hn_5) (⟨(congrArg D.int (Option.some.inj H)), .int⟩)
    · replace H := ifF H hc
      refine ss_nil ?_
      show SS X _ _ _
      exact ss_ret (nmF A sc_law_chosen 7 rfl rfl rfl) (⟨(congrArg D.int (Option.some.inj H)), .int⟩)
def m_law_bidders (a_pool : (List Int)) (a_spot : Int) (a_number : Int) : Option (List (Str × Int × Int)) :=
  ((m_law_names a_pool a_spot a_number).bind fun r_1 => ((some r_1).bind fun names_2 => ((some ([] : (List (Str × Int × Int)))).bind fun crew_3 => ((rng1G a_number).bind fun r_4 => ((List.foldlM (fun (s_5 : ((List (Str × Int × Int)))) (z_6 : Int) => ((some ((a_spot + (5 : Int)) + ((5 : Int) * z_6))).bind fun place_8 => ((m_law_far a_pool (place_8 + (1 : Int)) (1 : Int)).bind fun r_9 => ((m_law_chosen a_pool place_8 (1 : Int) (4 : Int) (999 : Int) r_9).bind fun r_10 => ((some ((1 : Int) + r_10)).bind fun weight_11 => ((m_law_far a_pool (place_8 + (2 : Int)) (3 : Int)).bind fun r_12 => ((m_law_chosen a_pool place_8 (40 : Int) (9 : Int) (1000000000 : Int) r_12).bind fun r_13 => ((some r_13).bind fun bid_14 => ((m_law_part a_pool (a_spot + (4 : Int)) (28 : Int) (2 : Int)).bind fun r_15 => ((if (decide (r_15 = (0 : Int))) = true then ((some ((1 : Int) + ((weight_11 - (1 : Int)) % (4 : Int)))).bind fun weight_17 => ((some (bid_14 % (9 : Int))).bind fun bid_18 => some (weight_17, bid_18))) else some (weight_11, bid_14) : Option (Int × Int)).bind fun s_16 => ((if (decide (s_16.1 ≤ (4 : Int))) = true then ((m_law_part a_pool (place_8 + (1 : Int)) (1000 : Int) (5 : Int)).bind fun r_19 => some (decide (r_19 < (2 : Int)))) else some false).bind fun q_20 => ((if q_20 = true then ((divG (12 : Int) s_16.1).bind fun n_22 => ((some n_22).bind fun bid_23 => some bid_23)) else some s_16.2 : Option (Int)).bind fun s_21 => ((idxG names_2 z_6).bind fun x_24 => ((appG s_5 (x_24, s_16.1, s_21)).bind fun crew_25 => some crew_25)))))))))))))) crew_3 r_4).bind fun s_7 => some s_7)))))
def R_law_bidders : Rel := fun ds d k => ∃ (a_pool : (List Int)) (a_spot : Int) (a_number : Int) (r : (List (Str × Int × Int))), ds = [(D.lst (List.map D.int a_pool)), (D.int a_spot), (D.int a_number)] ∧ m_law_bidders a_pool a_spot a_number = some r ∧ d = (fun x : (List (Str × Int × Int)) => (D.lst (List.map (fun x : (Str × Int × Int) => (D.tup [(D.str x.1), (D.int x.2.1), (D.int x.2.2)])) x))) r ∧ k = .own
abbrev N_law_bidders : List Str := ["pool", "spot", "number", "names", "crew", "k", "place", "weight", "bid"]
theorem fs_law_bidders : FnScope N_law_bidders ["pool", "spot", "number"] (defScope s_law_bidders) := ⟨rfl, rfl, rfl, by decide +kernel, rfl, by decide +kernel, by decide +kernel⟩
theorem sc_law_bidders : Sc N_law_bidders (defScope s_law_bidders) [0, 1, 2, 3, 4, 5, 6, 7, 8] [3, 4, 5, 6, 7, 8] ["_law_names", "range", "_law_far", "_law_chosen", "_law_part", "int"] := ⟨fs_law_bidders.nd, by decide +kernel⟩
theorem b_law_bidders {X : Cx} {Γ : Gd} (A : At X Γ N_law_bidders (defScope s_law_bidders) 2) (g_int : Γ.mg "int" = none) (g_range : Γ.mg "range" = none) (C_law_chosen : Cal Γ "_law_chosen" R_law_chosen 2 []) (C_law_far : Cal Γ "_law_far" R_law_far 1 []) (C_law_names : Cal Γ "_law_names" R_law_names 2 []) (C_law_part : Cal Γ "_law_part" R_law_part 1 []) {ds : List D} {d : D} {k : Kd} (hR : R_law_bidders ds d k) :
    SS X (env0 9 ds) (defBody s_law_bidders) { rt := fun d' k' => d' = d ∧ Fits k' k d, nx := fun _ => d = .non ∧ k = .cln } := by
  obtain ⟨a_pool, a_spot, a_number, r, rfl, H, rfl, rfl⟩ := hR
  unfold m_law_bidders at H
  obtain ⟨r_1, hr_1, H⟩ := bindO H
  obtain ⟨names_2, hnames_2, H⟩ := bindO H
  refine set_ A sc_law_bidders 3 rfl rfl (Ev.cv (Cal.ev C_law_names A sc_law_bidders 0 rfl (by decide) (ea_cons (nmB A sc_law_bidders 0 rfl rfl rfl) (ea_cons (nmF A sc_law_bidders 1 rfl rfl rfl) (ea_cons (nmF A sc_law_bidders 2 rfl rfl rfl) ea_nil (.inl rfl) rfl) (.inl rfl) rfl) (.inl rfl) rfl) (.inr (.inl rfl)) (.inl rfl) rfl rfl ⟨a_pool, a_spot, a_number, r_1, rfl, hr_1, rfl, rfl⟩) (congrArg (fun x : (List Str) => (D.lst (List.map D.str x))) (Option.some.inj hnames_2))) .own rfl ?_
  obtain ⟨crew_3, hcrew_3, H⟩ := bindO H
  refine set_ A sc_law_bidders 4 rfl rfl (Ev.cv (ev_list ea_nil (.inl rfl) (le_line rfl)) (congrArg (fun x : (List (Str × Int × Int)) => (D.lst (List.map (fun x : (Str × Int × Int) => (D.tup [(D.str x.1), (D.int x.2.1), (D.int x.2.2)])) x))) (Option.some.inj hcrew_3))) .own rfl ?_
  obtain ⟨r_4, hr_4, H⟩ := bindO H
  obtain ⟨s_7, hs_7, H⟩ := bindO H
  refine forM_ (en := D.int) (fun s_5 : ((List (Str × Int × Int))) => [some (.bor (D.lst (List.map D.int a_pool))), some (.frz (D.int a_spot)), some (.frz (D.int a_number)), some (.own (D.lst (List.map D.str names_2))), some (.own (D.lst (List.map (fun x : (Str × Int × Int) => (D.tup [(D.str x.1), (D.int x.2.1), (D.int x.2.2)])) s_5))), none, none, none, none]) A (rng1_ (glo A sc_law_bidders 1 rfl) (by rw [A.eM]; exact g_range) (nmF A sc_law_bidders 2 rfl rfl rfl) hr_4 rfl) (tg A sc_law_bidders 5 rfl rfl) (fun _ => rfl) hs_7 ?_ ?_ ?_
  · exact (wkr (wkr (wkr (wkr (wkr (wkn (wkn (wkn (wkn wk0)))))))))
  · intro s_5 z_6 s' hx H
    refine ⟨_, rfl, ?_⟩
    obtain ⟨place_8, hplace_8, H⟩ := bindO H
    refine set_ A sc_law_bidders 6 rfl rfl (Ev.cv (ev_add (ev_add (nmF A sc_law_bidders 1 rfl rfl rfl) ev_int) (ev_mul ev_int (nmF A sc_law_bidders 5 rfl rfl rfl) (.inl ⟨by decide, by decide⟩))) (congrArg D.int (Option.some.inj hplace_8))) .int rfl ?_
    obtain ⟨r_9, hr_9, H⟩ := bindO H
    obtain ⟨r_10, hr_10, H⟩ := bindO H
    obtain ⟨weight_11, hweight_11, H⟩ := bindO H
    refine set_ A sc_law_bidders 7 rfl rfl (Ev.cv (ev_add ev_int (Cal.ev C_law_chosen A sc_law_bidders 3 rfl (by decide) (ea_cons (nmB A sc_law_bidders 0 rfl rfl rfl) (ea_cons (nmF A sc_law_bidders 6 rfl rfl rfl) (ea_cons ev_int (ea_cons ev_int (ea_cons ev_int (ea_cons (Cal.ev C_law_far A sc_law_bidders 2 rfl (by decide) (ea_cons (nmB A sc_law_bidders 0 rfl rfl rfl) (ea_cons (ev_add (nmF A sc_law_bidders 6 rfl rfl rfl) ev_int) (ea_cons ev_int ea_nil (.inl rfl) rfl) (.inl rfl) rfl) (.inl rfl) rfl) (.inr (.inl rfl)) (.inr (.inl rfl)) rfl rfl ⟨a_pool, (place_8 + (1 : Int)), (1 : Int), r_9, rfl, hr_9, rfl, rfl⟩) ea_nil (.inl rfl) rfl) (.inl rfl) rfl) (.inl rfl) rfl) (.inl rfl) rfl) (.inl rfl) rfl) (.inl rfl) rfl) (.inr (.inl rfl)) (.inr (.inl rfl)) rfl rfl ⟨a_pool, place_8, (1 : Int), (4 : Int), (999 : Int), r_9, r_10, rfl, hr_10, rfl, rfl⟩)) (congrArg D.int (Option.some.inj hweight_11))) .int rfl ?_
    obtain ⟨r_12, hr_12, H⟩ := bindO H
    obtain ⟨r_13, hr_13, H⟩ := bindO H
    obtain ⟨bid_14, hbid_14, H⟩ := bindO H
    refine set_ A sc_law_bidders 8 rfl rfl (Ev.cv (Cal.ev C_law_chosen A sc_law_bidders 3 rfl (by decide) (ea_cons (nmB A sc_law_bidders 0 rfl rfl rfl) (ea_cons (nmF A sc_law_bidders 6 rfl rfl rfl) (ea_cons ev_int (ea_cons ev_int (ea_cons (Ev.cv (ev_pow ev_int ev_int ⟨by decide, by decide, by decide⟩) (congrArg D.int (by decide))) (ea_cons (Cal.ev C_law_far A sc_law_bidders 2 rfl (by decide) (ea_cons (nmB A sc_law_bidders 0 rfl rfl rfl) (ea_cons (ev_add (nmF A sc_law_bidders 6 rfl rfl rfl) ev_int) (ea_cons ev_int ea_nil (.inl rfl) rfl) (.inl rfl) rfl) (.inl rfl) rfl) (.inr (.inl rfl)) (.inr (.inl rfl)) rfl rfl ⟨a_pool, (place_8 + (2 : Int)), (3 : Int), r_12, rfl, hr_12, rfl, rfl⟩) ea_nil (.inl rfl) rfl) (.inl rfl) rfl) (.inl rfl) rfl) (.inl rfl) rfl) (.inl rfl) rfl) (.inl rfl) rfl) (.inr (.inl rfl)) (.inr (.inl rfl)) rfl rfl ⟨a_pool, place_8, (40 : Int), (9 : Int), (1000000000 : Int), r_12, r_13, rfl, hr_13, rfl, rfl⟩) (congrArg D.int (Option.some.inj hbid_14))) .int rfl ?_
    obtain ⟨r_15, hr_15, H⟩ := bindO H
    obtain ⟨s_16, hs_16, H⟩ := bindO H
    refine ss_ifM [some (.bor (D.lst (List.map D.int a_pool))), some (.frz (D.int a_spot)), some (.frz (D.int a_number)), some (.own (D.lst (List.map D.str names_2))), some (.own (D.lst (List.map (fun x : (Str × Int × Int) => (D.tup [(D.str x.1), (D.int x.2.1), (D.int x.2.2)])) s_5))), some (.frz (D.int z_6)), some (.frz (D.int place_8)), some (.frz (D.int s_16.1)), some (.frz (D.int s_16.2))] (et_cI (Cal.ev C_law_part A sc_law_bidders 4 rfl (by decide) (ea_cons (nmB A sc_law_bidders 0 rfl rfl rfl) (ea_cons (ev_add (nmF A sc_law_bidders 1 rfl rfl rfl) ev_int) (ea_cons ev_int (ea_cons ev_int ea_nil (.inl rfl) rfl) (.inl rfl) rfl) (.inl rfl) rfl) (.inl rfl) rfl) (.inr (.inl rfl)) (.inr (.inl rfl)) rfl rfl ⟨a_pool, (a_spot + (4 : Int)), (28 : Int), (2 : Int), r_15, rfl, hr_15, rfl, rfl⟩) ev_int .eq) ?_ (fun hc => ?_) (fun hc => ?_)
    · skip
      obtain ⟨q_20, hq_20, H⟩ := bindO H
      obtain ⟨s_21, hs_21, H⟩ := bindO H
      refine ss_ifM [some (.bor (D.lst (List.map D.int a_pool))), some (.frz (D.int a_spot)), some (.frz (D.int a_number)), some (.own (D.lst (List.map D.str names_2))), some (.own (D.lst (List.map (fun x : (Str × Int × Int) => (D.tup [(D.str x.1), (D.int x.2.1), (D.int x.2.2)])) s_5))), some (.frz (D.int z_6)), some (.frz (D.int place_8)), some (.frz (D.int s_16.1)), some (.frz (D.int s_21))] (Ew.et (ew_andM (et_cI (nmF A sc_law_bidders 7 rfl rfl rfl) ev_int .le) hq_20 fun H => by obtain ⟨r_19, hr_19, H⟩ := bindO H; obtain rfl := Option.some.inj H; exact (ew_and1 (et_cI (Cal.ev C_law_part A sc_law_bidders 4 rfl (by decide) (ea_cons (nmB A sc_law_bidders 0 rfl rfl rfl) (ea_cons (ev_add (nmF A sc_law_bidders 6 rfl rfl rfl) ev_int) (ea_cons ev_int (ea_cons ev_int ea_nil (.inl rfl) rfl) (.inl rfl) rfl) (.inl rfl) rfl) (.inl rfl) rfl) (.inr (.inl rfl)) (.inr (.inl rfl)) rfl rfl ⟨a_pool, (place_8 + (1 : Int)), (1000 : Int), (5 : Int), r_19, rfl, hr_19, rfl, rfl⟩) ev_int .lt)))) ?_ (fun hc => ?_) (fun hc => ?_)
      · skip
        obtain ⟨x_24, hx_24, H⟩ := bindO H
        obtain ⟨crew_25, hcrew_25, H⟩ := bindO H
        refine app_ (en := (fun x : (Str × Int × Int) => (D.tup [(D.str x.1), (D.int x.2.1), (D.int x.2.2)]))) (x := (x_24, s_16.1, s_21)) A sc_law_bidders 4 rfl rfl rfl (ev_tup (ea_cons (ixL_ (f := D.str) (nmO A sc_law_bidders 3 rfl rfl rfl) (nmF A sc_law_bidders 5 rfl rfl rfl) hx_24 (fun _ _ => rfl)) (ea_cons (nmF A sc_law_bidders 7 rfl rfl rfl) (ea_cons (nmF A sc_law_bidders 8 rfl rfl rfl) ea_nil (.inl rfl) rfl) (.inl rfl) rfl) (.inl rfl) rfl) (.inl rfl) (le_line rfl)) rfl hcrew_25 ⟨rfl, rfl, rfl⟩ rfl rfl ?_
        obtain rfl := Option.some.inj H
        refine ss_nil ?_
        exact (wkr (wkr (wkr (wkr (wkr (wkn (wkn (wkn (wkn wk0)))))))))
      · replace H := ifT hs_21 hc
        obtain ⟨n_22, hn_22, H⟩ := bindO H
        obtain ⟨bid_23, hbid_23, H⟩ := bindO H
        refine set_ A sc_law_bidders 8 rfl rfl (Ev.cv (div_ ev_int (nmF A sc_law_bidders 7 rfl rfl rfl) hn_22) (congrArg D.int (Option.some.inj hbid_23))) .int rfl ?_
        obtain rfl := Option.some.inj H
        refine ss_nil ?_
        exact (wkr (wkr (wkr (wkr (wkr (wkr (wkr (wkr (wkr wk0)))))))))
      · replace H := ifF hs_21 hc
        obtain rfl := Option.some.inj H
        refine ss_nil ?_
        exact (wkr (wkr (wkr (wkr (wkr (wkr (wkr (wkr (wkr wk0)))))))))
    · replace H := ifT hs_16 hc
      obtain ⟨weight_17, hweight_17, H⟩ := bindO H
      refine set_ A sc_law_bidders 7 rfl rfl (Ev.cv (ev_add ev_int (ev_mod (int_ (bn A sc_law_bidders 5 rfl g_int bt_int) (ev_sub (nmF A sc_law_bidders 7 rfl rfl rfl) ev_int) .int rfl) ev_int (by decide))) (congrArg D.int (Option.some.inj hweight_17))) .int rfl ?_
      obtain ⟨bid_18, hbid_18, H⟩ := bindO H
      refine set_ A sc_law_bidders 8 rfl rfl (Ev.cv (ev_mod (int_ (bn A sc_law_bidders 5 rfl g_int bt_int) (nmF A sc_law_bidders 8 rfl rfl rfl) .int rfl) ev_int (by decide)) (congrArg D.int (Option.some.inj hbid_18))) .int rfl ?_
      obtain rfl := Option.some.inj H
      refine ss_nil ?_
      exact (wkr (wkr (wkr (wkr (wkr (wkr (wkr (wkr (wkr wk0)))))))))
    · replace H := ifF hs_16 hc
      obtain rfl := Option.some.inj H
      refine ss_nil ?_
      exact (wkr (wkr (wkr (wkr (wkr (wkr (wkr (wkr (wkr wk0)))))))))
  exact retO A sc_law_bidders 4 rfl rfl rfl (⟨(congrArg (fun x : (List (Str × Int × Int)) => (D.lst (List.map (fun x : (Str × Int × Int) => (D.tup [(D.str x.1), (D.int x.2.1), (D.int x.2.2)])) x))) (Option.some.inj H)), .refl⟩)
def m_law_sill (a_pool : (List Int)) (a_spot : Int) (a_crew : (List (Str × Int × Int))) : Option Int :=
  ((m_law_part a_pool a_spot (1 : Int) (8 : Int)).bind fun r_1 => ((some r_1).bind fun way_2 => ((m_law_part a_pool a_spot (8 : Int) (60 : Int)).bind fun r_3 => ((some r_3).bind fun near_4 => (if (decide (way_2 < (2 : Int))) = true then some (0 : Int) else ((if (decide (way_2 < (6 : Int))) = true then ((eqG (D.lst (List.map (fun x : (Str × Int × Int) => (D.tup [(D.str x.1), (D.int x.2.1), (D.int x.2.2)])) a_crew)) (D.lst (List.map D.int []))).bind fun q_5 => some (!q_5)) else some false).bind fun q_6 => (if q_6 = true then ((modG near_4 (a_crew.length : Int)).bind fun n_7 => ((idxG a_crew n_7).bind fun x_8 => ((some x_8).bind fun p_9 => ((mulG p_9.2.1 p_9.2.2).bind fun n_10 => ((idxG [(0 : Int), (0 : Int), (1 : Int), (-(1 : Int))] (way_2 - (2 : Int))).bind fun x_11 => some (if (1000000000000 : Int) < (if (n_10 + x_11) > (0 : Int) then (n_10 + x_11) else (0 : Int) : Int) then (1000000000000 : Int) else (if (n_10 + x_11) > (0 : Int) then (n_10 + x_11) else (0 : Int) : Int) : Int)))))) else (if (decide (way_2 = (6 : Int))) = true then some near_4 else ((m_law_far a_pool (a_spot + (1 : Int)) (4 : Int)).bind fun r_12 => ((modG r_12 ((1000000000000 : Int) + (1 : Int))).bind fun n_13 => some n_13))))))))))
def R_law_sill : Rel := fun ds d k => ∃ (a_pool : (List Int)) (a_spot : Int) (a_crew : (List (Str × Int × Int))) (r : Int), ds = [(D.lst (List.map D.int a_pool)), (D.int a_spot), (D.lst (List.map (fun x : (Str × Int × Int) => (D.tup [(D.str x.1), (D.int x.2.1), (D.int x.2.2)])) a_crew))] ∧ m_law_sill a_pool a_spot a_crew = some r ∧ d = D.int r ∧ k = .cln
abbrev N_law_sill : List Str := ["pool", "spot", "crew", "way", "near", "name", "weight", "bid"]
theorem fs_law_sill : FnScope N_law_sill ["pool", "spot", "crew"] (defScope s_law_sill) := ⟨rfl, rfl, rfl, by decide +kernel, rfl, by decide +kernel, by decide +kernel⟩
theorem sc_law_sill : Sc N_law_sill (defScope s_law_sill) [0, 1, 2, 3, 4, 6, 7] [3, 4, 5, 6, 7] ["_law_part", "int", "len", "max", "min", "_law_far"] := ⟨fs_law_sill.nd, by decide +kernel⟩
theorem b_law_sill {X : Cx} {Γ : Gd} (A : At X Γ N_law_sill (defScope s_law_sill) 1) (g_int : Γ.mg "int" = none) (g_len : Γ.mg "len" = none) (g_max : Γ.mg "max" = none) (g_min : Γ.mg "min" = none) (C_law_far : Cal Γ "_law_far" R_law_far 1 []) (C_law_part : Cal Γ "_law_part" R_law_part 1 []) {ds : List D} {d : D} {k : Kd} (hR : R_law_sill ds d k) :
    SS X (env0 8 ds) (defBody s_law_sill) { rt := fun d' k' => d' = d ∧ Fits k' k d, nx := fun _ => d = .non ∧ k = .cln } := by
  obtain ⟨a_pool, a_spot, a_crew, r, rfl, H, rfl, rfl⟩ := hR
  unfold m_law_sill at H
  obtain ⟨r_1, hr_1, H⟩ := bindO H
  obtain ⟨way_2, hway_2, H⟩ := bindO H
  refine set_ A sc_law_sill 3 rfl rfl (Ev.cv (Cal.ev C_law_part A sc_law_sill 0 rfl (by decide) (ea_cons (nmB A sc_law_sill 0 rfl rfl rfl) (ea_cons (nmF A sc_law_sill 1 rfl rfl rfl) (ea_cons ev_int (ea_cons ev_int ea_nil (.inl rfl) rfl) (.inl rfl) rfl) (.inl rfl) rfl) (.inl rfl) rfl) (.inr (.inl rfl)) (.inr (.inl rfl)) rfl rfl ⟨a_pool, a_spot, (1 : Int), (8 : Int), r_1, rfl, hr_1, rfl, rfl⟩) (congrArg D.int (Option.some.inj hway_2))) .int rfl ?_
  obtain ⟨r_3, hr_3, H⟩ := bindO H
  obtain ⟨near_4, hnear_4, H⟩ := bindO H
  refine set_ A sc_law_sill 4 rfl rfl (Ev.cv (Cal.ev C_law_part A sc_law_sill 0 rfl (by decide) (ea_cons (nmB A sc_law_sill 0 rfl rfl rfl) (ea_cons (nmF A sc_law_sill 1 rfl rfl rfl) (ea_cons ev_int (ea_cons ev_int ea_nil (.inl rfl) rfl) (.inl rfl) rfl) (.inl rfl) rfl) (.inl rfl) rfl) (.inr (.inl rfl)) (.inr (.inl rfl)) rfl rfl ⟨a_pool, a_spot, (8 : Int), (60 : Int), r_3, rfl, hr_3, rfl, rfl⟩) (congrArg D.int (Option.some.inj hnear_4))) .int rfl ?_
  refine ss_if (et_cI (nmF A sc_law_sill 3 rfl rfl rfl) ev_int .lt) (fun hc => ?_) (fun hc => ?_)
  · replace H := ifT H hc
    exact ss_ret ev_int (⟨(congrArg D.int (Option.some.inj H)), .int⟩)
  · replace H := ifF H hc
    refine ss_nil ?_
    show SS X _ _ _
    obtain ⟨q_6, hq_6, H⟩ := bindO H
    refine ss_if (Ew.et (ew_andM (et_cI (nmF A sc_law_sill 3 rfl rfl rfl) ev_int .lt) hq_6 fun H => by obtain ⟨q_5, hq_5, H⟩ := bindO H; obtain rfl := Option.some.inj H; exact (ew_and1 (et_neG A.room.units (nmB A sc_law_sill 2 rfl rfl rfl) (ev_list ea_nil (.inl rfl) (le_line rfl)) hq_5)))) (fun hc => ?_) (fun hc => ?_)
    · replace H := ifT H hc
      obtain ⟨n_7, hn_7, H⟩ := bindO H
      obtain ⟨x_8, hx_8, H⟩ := bindO H
      obtain ⟨p_9, hp_9, H⟩ := bindO H
      refine asg_ (kz := .b) (Ev.cv (ixL_ (f := (fun x : (Str × Int × Int) => (D.tup [(D.str x.1), (D.int x.2.1), (D.int x.2.2)]))) (nmB A sc_law_sill 2 rfl rfl rfl) (mod_ (int_ (bn A sc_law_sill 1 rfl g_int bt_int) (nmF A sc_law_sill 4 rfl rfl rfl) .int rfl) (lenL_ (bn A sc_law_sill 2 rfl g_len bt_len) (nmB A sc_law_sill 2 rfl rfl rfl) rfl) hn_7) hx_8 (fun _ _ => rfl)) (congrArg (fun x : (Str × Int × Int) => (D.tup [(D.str x.1), (D.int x.2.1), (D.int x.2.2)])) (Option.some.inj hp_9))) (tg_tp A.calm (tgs_cons (tg A sc_law_sill 5 rfl rfl) (tgs_cons (tg A sc_law_sill 6 rfl rfl) (tgs_cons (tg A sc_law_sill 7 rfl rfl) tgs_nil rfl) rfl) rfl) rfl rfl) rfl rfl rfl rfl ?_
      obtain ⟨n_10, hn_10, H⟩ := bindO H
      obtain ⟨x_11, hx_11, H⟩ := bindO H
      exact ss_ret (ev_min2 A.calm (bn A sc_law_sill 4 rfl g_min bt_min) (ev_max2 A.calm (bn A sc_law_sill 3 rfl g_max bt_max) ev_int (ev_add (mul_ (nmF A sc_law_sill 6 rfl rfl rfl) (nmF A sc_law_sill 7 rfl rfl rfl) hn_10) (ixL_ (f := D.int) (Ev.cv (ev_list (ea_cons ev_int (ea_cons ev_int (ea_cons ev_int (ea_cons (ev_neg ev_int) ea_nil (.inl rfl) rfl) (.inl rfl) rfl) (.inl rfl) rfl) (.inl rfl) rfl) (.inl rfl) (le_line rfl)) rfl) (ev_sub (nmF A sc_law_sill 3 rfl rfl rfl) ev_int) hx_11 (fun _ _ => rfl))) rfl rfl) (Ev.cv (ev_pow ev_int ev_int ⟨by decide, by decide, by decide⟩) (congrArg D.int (by decide))) rfl rfl) (⟨(congrArg D.int (Option.some.inj H)), .int⟩)
    · replace H := ifF H hc
      refine ss_nil ?_
      show SS X _ _ _
      refine ss_if (et_cI (nmF A sc_law_sill 3 rfl rfl rfl) ev_int .eq) (fun hc => ?_) (fun hc => ?_)
      · replace H := ifT H hc
        exact ss_ret (nmF A sc_law_sill 4 rfl rfl rfl) (⟨(congrArg D.int (Option.some.inj H)), .int⟩)
      · replace H := ifF H hc
        refine ss_nil ?_
        show SS X _ _ _
        obtain ⟨r_12, hr_12, H⟩ := bindO H
        obtain ⟨n_13, hn_13, H⟩ := bindO H
        exact ss_ret (mod_ (int_ (bn A sc_law_sill 1 rfl g_int bt_int) (Cal.ev C_law_far A sc_law_sill 5 rfl (by decide) (ea_cons (nmB A sc_law_sill 0 rfl rfl rfl) (ea_cons (ev_add (nmF A sc_law_sill 1 rfl rfl rfl) ev_int) (ea_cons ev_int ea_nil (.inl rfl) rfl) (.inl rfl) rfl) (.inl rfl) rfl) (.inr (.inl rfl)) (.inr (.inl rfl)) rfl rfl ⟨a_pool, (a_spot + (1 : Int)), (4 : Int), r_12, rfl, hr_12, rfl, rfl⟩) .int rfl) (ev_add (Ev.cv (ev_pow ev_int ev_int ⟨by decide, by decide, by decide⟩) (congrArg D.int (by decide))) ev_int) hn_13) (⟨(congrArg D.int (Option.some.inj H)), .int⟩)
def m_law_ladder (a_crew : (List (Str × Int × Int))) (a_slots : Int) (a_sill : Int) : Option (List Str) :=
  ((lcG a_crew).bind fun ys_1 => ((lcM (fun z_2 : (Str × Int × Int) => some true) (fun z_2 : (Str × Int × Int) => ((mulG z_2.2.1 z_2.2.2).bind fun n_3 => some n_3)) ys_1).bind fun zs_4 => ((some zs_4).bind fun loads_5 => ((some ([] : (List Str))).bind fun names_6 => ((rng1G a_slots).bind fun r_7 => ((List.foldlM (fun (s_8 : ((List Str))) (z_9 : Int) => ((rng1G (a_crew.length : Int)).bind fun r_11 => ((List.foldlM (fun (s_12 : ((List Str))) (z_13 : Int) => ((rng1G (a_crew.length : Int)).bind fun r_15 => ((lcG r_15).bind fun ys_16 => ((lcM (fun z_17 : Int => ((idxG loads_5 z_17).bind fun x_18 => ((idxG loads_5 z_13).bind fun x_19 => ((if (decide (x_19 < x_18)) = true then some true else ((idxG loads_5 z_17).bind fun x_20 => ((idxG loads_5 z_13).bind fun x_21 => some ((decide (x_20 = x_21)) && (decide (z_17 < z_13)))))).bind fun q_22 => some q_22)))) (fun z_17 : Int => some z_17) ys_16).bind fun zs_23 => ((some zs_23).bind fun ahead_24 => ((if (decide ((ahead_24.length : Int) = z_9)) = true then ((idxG loads_5 z_13).bind fun x_25 => some (decide (a_sill ≤ x_25))) else some false).bind fun q_26 => ((if q_26 = true then ((idxG a_crew z_13).bind fun x_28 => ((appG s_12 x_28.1).bind fun names_29 => some names_29)) else some s_12 : Option ((List Str))).bind fun s_27 => some s_27))))))) s_8 r_11).bind fun s_14 => some s_14))) names_6 r_7).bind fun s_10 => some s_10))))))
def R_law_ladder : Rel := fun ds d k => ∃ (a_crew : (List (Str × Int × Int))) (a_slots : Int) (a_sill : Int) (r : (List Str)), ds = [(D.lst (List.map (fun x : (Str × Int × Int) => (D.tup [(D.str x.1), (D.int x.2.1), (D.int x.2.2)])) a_crew)), (D.int a_slots), (D.int a_sill)] ∧ m_law_ladder a_crew a_slots a_sill = some r ∧ d = (fun x : (List Str) => (D.tup (List.map D.str x))) r ∧ k = .cln
abbrev N_law_ladder : List Str := ["crew", "slots", "sill", "loads", "name", "weight", "bid", "names", "rank", "k", "ahead", "j"]
theorem fs_law_ladder : FnScope N_law_ladder ["crew", "slots", "sill"] (defScope s_law_ladder) := ⟨rfl, rfl, rfl, by decide +kernel, rfl, by decide +kernel, by decide +kernel⟩
theorem sc_law_ladder : Sc N_law_ladder (defScope s_law_ladder) [0, 1, 2, 3, 7, 8, 9, 10] [3, 7, 8, 9, 10] ["range", "len", "tuple"] := ⟨fs_law_ladder.nd, by decide +kernel⟩
abbrev cs_law_ladder_c1 : Scope := compScope (s_law_ladder) [0, 1]
theorem sc_law_ladder_c1 : Sc N_law_ladder cs_law_ladder_c1 [5, 6] [4, 5, 6] [] := ⟨fs_law_ladder.nd, by decide +kernel⟩
abbrev cs_law_ladder_c2 : Scope := compScope (s_law_ladder) [2, 2, 2, 1]
theorem sc_law_ladder_c2 : Sc N_law_ladder cs_law_ladder_c2 [3, 9, 11] [11] [] := ⟨fs_law_ladder.nd, by decide +kernel⟩
theorem b_law_ladder {X : Cx} {Γ : Gd} (A : At X Γ N_law_ladder (defScope s_law_ladder) 0) (g_len : Γ.mg "len" = none) (g_range : Γ.mg "range" = none) (g_tuple : Γ.mg "tuple" = none) {ds : List D} {d : D} {k : Kd} (hR : R_law_ladder ds d k) :
    SS X (env0 12 ds) (defBody s_law_ladder) { rt := fun d' k' => d' = d ∧ Fits k' k d, nx := fun _ => d = .non ∧ k = .cln } := by
  obtain ⟨a_crew, a_slots, a_sill, r, rfl, H, rfl, rfl⟩ := hR
  unfold m_law_ladder at H
  obtain ⟨ys_1, hys_1, H⟩ := bindO H
  obtain ⟨zs_4, hzs_4, H⟩ := bindO H
  obtain ⟨loads_5, hloads_5, H⟩ := bindO H
  refine setLcC_ A sc_law_ladder 3 rfl (by decide +kernel) rfl (Ec.cv (lcM_ (en := (fun x : (Str × Int × Int) => (D.tup [(D.str x.1), (D.int x.2.1), (D.int x.2.2)]))) D.int [("name", 4), ("weight", 5), ("bid", 6)] .c A sc_law_ladder (by decide +kernel) (iter_ (nmB A sc_law_ladder 0 rfl rfl rfl) .lstB) hys_1 hzs_4 (Clear_of rfl) (fun Y AY => (tg_tp AY.calm (tgs_cons (tg AY sc_law_ladder_c1 4 rfl rfl) (tgs_cons (tg AY sc_law_ladder_c1 5 rfl rfl) (tgs_cons (tg AY sc_law_ladder_c1 6 rfl rfl) tgs_nil rfl) rfl) rfl) rfl rfl)) (by decide) (fun _ => rfl) (fun z_2 _ => ⟨_, rfl, fun b H Y AY => by obtain rfl := Option.some.inj H; exact ets_nil, fun y _ H => by obtain ⟨n_3, hn_3, H⟩ := bindO H; obtain rfl := Option.some.inj H; exact ⟨_, rfl, fun Y AY => (mul_ (nmF AY sc_law_ladder_c1 5 rfl rfl rfl) (nmF AY sc_law_ladder_c1 6 rfl rfl rfl) hn_3)⟩⟩)) (congrArg (fun x : (List Int) => (D.lst (List.map D.int x))) (Option.some.inj hloads_5))) .own ?_
  obtain ⟨names_6, hnames_6, H⟩ := bindO H
  refine set_ A sc_law_ladder 7 rfl rfl (Ev.cv (ev_list ea_nil (.inl rfl) (le_line rfl)) (congrArg (fun x : (List Str) => (D.lst (List.map D.str x))) (Option.some.inj hnames_6))) .own rfl ?_
  obtain ⟨r_7, hr_7, H⟩ := bindO H
  obtain ⟨s_10, hs_10, H⟩ := bindO H
  refine forM_ (en := D.int) (fun s_8 : ((List Str)) => [some (.bor (D.lst (List.map (fun x : (Str × Int × Int) => (D.tup [(D.str x.1), (D.int x.2.1), (D.int x.2.2)])) a_crew))), some (.frz (D.int a_slots)), some (.frz (D.int a_sill)), some (.own (D.lst (List.map D.int loads_5))), none, none, none, some (.own (D.lst (List.map D.str s_8))), none, none, none, none]) A (rng1_ (glo A sc_law_ladder 0 rfl) (by rw [A.eM]; exact g_range) (nmF A sc_law_ladder 1 rfl rfl rfl) hr_7 rfl) (tg A sc_law_ladder 8 rfl rfl) (fun _ => rfl) hs_10 ?_ ?_ ?_
  · exact (wkr (wkr (wkr (wkr (wkn (wkn (wkn (wkr (wkn (wkn (wkn (wkn wk0))))))))))))
  · intro s_8 z_9 s' hx H
    refine ⟨_, rfl, ?_⟩
    obtain ⟨r_11, hr_11, H⟩ := bindO H
    obtain ⟨s_14, hs_14, H⟩ := bindO H
    refine forM_ (en := D.int) (fun s_12 : ((List Str)) => [some (.bor (D.lst (List.map (fun x : (Str × Int × Int) => (D.tup [(D.str x.1), (D.int x.2.1), (D.int x.2.2)])) a_crew))), some (.frz (D.int a_slots)), some (.frz (D.int a_sill)), some (.own (D.lst (List.map D.int loads_5))), none, none, none, some (.own (D.lst (List.map D.str s_12))), some (.frz (D.int z_9)), none, none, none]) A (rng1_ (glo A sc_law_ladder 0 rfl) (by rw [A.eM]; exact g_range) (lenL_ (bn A sc_law_ladder 1 rfl g_len bt_len) (nmB A sc_law_ladder 0 rfl rfl rfl) rfl) hr_11 rfl) (tg A sc_law_ladder 9 rfl rfl) (fun _ => rfl) hs_14 ?_ ?_ ?_
    · exact (wkr (wkr (wkr (wkr (wkn (wkn (wkn (wkr (wkr (wkn (wkn (wkn wk0))))))))))))
    · intro s_12 z_13 s' hx H
      refine ⟨_, rfl, ?_⟩
      obtain ⟨r_15, hr_15, H⟩ := bindO H
      obtain ⟨ys_16, hys_16, H⟩ := bindO H
      obtain ⟨zs_23, hzs_23, H⟩ := bindO H
      obtain ⟨ahead_24, hahead_24, H⟩ := bindO H
      refine setLc_ A sc_law_ladder 10 rfl (by decide +kernel) (by decide +kernel) rfl (by decide +kernel) (Ec.cv (lcM_ (en := D.int) D.int [("j", 11)] .c A sc_law_ladder (by decide +kernel) (rng1_ (glo A sc_law_ladder 0 rfl) (by rw [A.eM]; exact g_range) (lenL_ (bn A sc_law_ladder 1 rfl g_len bt_len) (nmB A sc_law_ladder 0 rfl rfl rfl) rfl) hr_15 rfl) hys_16 hzs_23 (Clear_of rfl) (fun Y AY => (tg AY sc_law_ladder_c2 11 rfl rfl)) (by decide) (fun _ => rfl) (fun z_17 _ => ⟨_, rfl, fun b H Y AY => by obtain ⟨x_18, hx_18, H⟩ := bindO H; obtain ⟨x_19, hx_19, H⟩ := bindO H; obtain ⟨q_22, hq_22, H⟩ := bindO H; obtain rfl := Option.some.inj H; exact (ets_one (Ew.et (ew_orM (et_cI (ixL_ (f := D.int) (nmO AY sc_law_ladder_c2 3 rfl rfl rfl) (nmF AY sc_law_ladder_c2 11 rfl rfl rfl) hx_18 (fun _ _ => rfl)) (ixL_ (f := D.int) (nmO AY sc_law_ladder_c2 3 rfl rfl rfl) (nmF AY sc_law_ladder_c2 9 rfl rfl rfl) hx_19 (fun _ _ => rfl)) .gt) hq_22 fun H => by obtain ⟨x_20, hx_20, H⟩ := bindO H; obtain ⟨x_21, hx_21, H⟩ := bindO H; obtain rfl := Option.some.inj H; exact (ew_or1 (Ew.et (ew_and (et_cI (ixL_ (f := D.int) (nmO AY sc_law_ladder_c2 3 rfl rfl rfl) (nmF AY sc_law_ladder_c2 11 rfl rfl rfl) hx_20 (fun _ _ => rfl)) (ixL_ (f := D.int) (nmO AY sc_law_ladder_c2 3 rfl rfl rfl) (nmF AY sc_law_ladder_c2 9 rfl rfl rfl) hx_21 (fun _ _ => rfl)) .eq) fun _ => (ew_and1 (et_cI (nmF AY sc_law_ladder_c2 11 rfl rfl rfl) (nmF AY sc_law_ladder_c2 9 rfl rfl rfl) .lt)))))))), fun y _ H => by obtain rfl := Option.some.inj H; exact ⟨_, rfl, fun Y AY => (nmF AY sc_law_ladder_c2 11 rfl rfl rfl)⟩⟩)) (congrArg (fun x : (List Int) => (D.lst (List.map D.int x))) (Option.some.inj hahead_24))) .own ?_
      obtain ⟨q_26, hq_26, H⟩ := bindO H
      obtain ⟨s_27, hs_27, H⟩ := bindO H
      refine ss_ifM [some (.bor (D.lst (List.map (fun x : (Str × Int × Int) => (D.tup [(D.str x.1), (D.int x.2.1), (D.int x.2.2)])) a_crew))), some (.frz (D.int a_slots)), some (.frz (D.int a_sill)), some (.own (D.lst (List.map D.int loads_5))), none, none, none, some (.own (D.lst (List.map D.str s_27))), some (.frz (D.int z_9)), some (.frz (D.int z_13)), some (.own (D.lst (List.map D.int ahead_24))), none] (Ew.et (ew_andM (et_cI (lenL_ (bn A sc_law_ladder 1 rfl g_len bt_len) (nmO A sc_law_ladder 10 rfl rfl rfl) rfl) (nmF A sc_law_ladder 8 rfl rfl rfl) .eq) hq_26 fun H => by obtain ⟨x_25, hx_25, H⟩ := bindO H; obtain rfl := Option.some.inj H; exact (ew_and1 (et_cI (ixL_ (f := D.int) (nmO A sc_law_ladder 3 rfl rfl rfl) (nmF A sc_law_ladder 9 rfl rfl rfl) hx_25 (fun _ _ => rfl)) (nmF A sc_law_ladder 2 rfl rfl rfl) .ge)))) ?_ (fun hc => ?_) (fun hc => ?_)
      · skip
        obtain rfl := Option.some.inj H
        refine ss_nil ?_
        exact (wkr (wkr (wkr (wkr (wkn (wkn (wkn (wkr (wkr (wkn (wkn (wkn wk0))))))))))))
      · replace H := ifT hs_27 hc
        obtain ⟨x_28, hx_28, H⟩ := bindO H
        obtain ⟨names_29, hnames_29, H⟩ := bindO H
        refine app_ (en := D.str) (x := x_28.1) A sc_law_ladder 7 rfl rfl rfl (ix_ (ixL_ (f := (fun x : (Str × Int × Int) => (D.tup [(D.str x.1), (D.int x.2.1), (D.int x.2.2)]))) (nmB A sc_law_ladder 0 rfl rfl rfl) (nmF A sc_law_ladder 9 rfl rfl rfl) hx_28 (fun _ _ => rfl)) ev_int (.tup rfl) (fun _ _ => rfl)) rfl hnames_29 ⟨rfl, rfl, rfl⟩ rfl rfl ?_
        obtain rfl := Option.some.inj H
        refine ss_nil ?_
        exact (wkr (wkr (wkr (wkr (wkn (wkn (wkn (wkr (wkr (wkr (wkr (wkn wk0))))))))))))
      · replace H := ifF hs_27 hc
        obtain rfl := Option.some.inj H
        refine ss_nil ?_
        exact (wkr (wkr (wkr (wkr (wkn (wkn (wkn (wkr (wkr (wkr (wkr (wkn wk0))))))))))))
    obtain rfl := Option.some.inj H
    refine ss_nil ?_
    exact (wkr (wkr (wkr (wkr (wkn (wkn (wkn (wkr (wkn (wkn (wkn (wkn wk0))))))))))))
  exact ss_ret (tuple_ (bn A sc_law_ladder 2 rfl g_tuple bt_tuple) (nmO A sc_law_ladder 7 rfl rfl rfl) .lst rfl) (⟨(congrArg (fun x : (List Str) => (D.tup (List.map D.str x))) (Option.some.inj H)), .refl⟩)
def m_is_name (a_word : Str) : Option Bool :=
  ((lenSG a_word).bind fun n_1 => (if (!((decide ((1 : Int) ≤ n_1)) && (decide (n_1 ≤ (8 : Int))))) = true then some false else ((lcG (strL a_word)).bind fun ys_2 => some ((ys_2.map (fun z_3 : Str => (inStr z_3 ("abcdefghijklmnopqrstuvwxyz" : Str)))).all id))))
def R_is_name : Rel := fun ds d k => ∃ (a_word : Str) (r : Bool), ds = [(D.str a_word)] ∧ m_is_name a_word = some r ∧ d = D.bl r ∧ k = .cln
abbrev N_is_name : List Str := ["word", "letter"]
theorem fs_is_name : FnScope N_is_name ["word"] (defScope s_is_name) := ⟨rfl, rfl, rfl, by decide +kernel, rfl, by decide +kernel, by decide +kernel⟩
theorem sc_is_name : Sc N_is_name (defScope s_is_name) [0] [] ["len", "MOST_LETTERS", "all"] := ⟨fs_is_name.nd, by decide +kernel⟩
abbrev cs_is_name_c1 : Scope := compScope (s_is_name) [1, 0, 1]
theorem sc_is_name_c1 : Sc N_is_name cs_is_name_c1 [1] [1] ["LETTERS"] := ⟨fs_is_name.nd, by decide +kernel⟩
theorem b_is_name {X : Cx} {Γ : Gd} (A : At X Γ N_is_name (defScope s_is_name) 0) (g_LETTERS : ∃ t, Γ.mg "LETTERS" = some (.str "abcdefghijklmnopqrstuvwxyz" t)) (g_MOST_LETTERS : ∃ t, Γ.mg "MOST_LETTERS" = some (.int 8 t)) (g_all : Γ.mg "all" = none) (g_len : Γ.mg "len" = none) {ds : List D} {d : D} {k : Kd} (hR : R_is_name ds d k) :
    SS X (env0 2 ds) (defBody s_is_name) { rt := fun d' k' => d' = d ∧ Fits k' k d, nx := fun _ => d = .non ∧ k = .cln } := by
  obtain ⟨a_word, r, rfl, H, rfl, rfl⟩ := hR
  unfold m_is_name at H
  obtain ⟨n_1, hn_1, H⟩ := bindO H
  refine ss_if (et_not (et_chain ev_int (lenS_ (bn A sc_is_name 0 rfl g_len bt_len) (nmF A sc_is_name 0 rfl rfl rfl) hn_1 rfl) (gI A sc_is_name 1 rfl g_MOST_LETTERS) .le .le (by with_unfolding_all rfl))) (fun hc => ?_) (fun hc => ?_)
  · replace H := ifT H hc
    exact ss_ret ev_bl (⟨(congrArg D.bl (Option.some.inj H)), .bl⟩)
  · replace H := ifF H hc
    refine ss_nil ?_
    show SS X _ _ _
    obtain ⟨ys_2, hys_2, H⟩ := bindO H
    exact ss_ret (ev_allL A.calm (bn A sc_is_name 2 rfl g_all bt_all) (Ec.ev (Ec.cv (lcP_ (en := D.str) D.bl [("letter", 1)] (fun z_3 : Str => true) (fun z_3 : Str => (inStr z_3 ("abcdefghijklmnopqrstuvwxyz" : Str))) .c A sc_is_name (by decide +kernel) (iterS_ (nmF A sc_is_name 0 rfl rfl rfl)) hys_2 (Clear_of rfl) (fun Y AY => (tg AY sc_is_name_c1 1 rfl rfl)) (by decide) (fun _ => rfl) (fun z_3 _ => ⟨_, rfl, fun Y AY => ets_nil, fun _ => ⟨_, rfl, fun Y AY => (ev_inStr (nmF AY sc_is_name_c1 1 rfl rfl rfl) (gS AY sc_is_name_c1 0 rfl g_LETTERS))⟩⟩)) (by rw [List.filter_eq_self.mpr (fun _ _ => rfl)]))) rfl) (⟨(congrArg D.bl (Option.some.inj H)), .bl⟩)
def m_names_of (a_bidders : (List (Str × Int × Int))) : Option (List Str) :=
  ((lcG a_bidders).bind fun ys_1 => some (ys_1.map (fun z_2 : (Str × Int × Int) => z_2.1)))
def R_names_of : Rel := fun ds d k => ∃ (a_bidders : (List (Str × Int × Int))) (r : (List Str)), ds = [(D.lst (List.map (fun x : (Str × Int × Int) => (D.tup [(D.str x.1), (D.int x.2.1), (D.int x.2.2)])) a_bidders))] ∧ m_names_of a_bidders = some r ∧ d = (fun x : (List Str) => (D.lst (List.map D.str x))) r ∧ k = .own
abbrev N_names_of : List Str := ["bidders", "name", "weight", "bid"]
theorem fs_names_of : FnScope N_names_of ["bidders"] (defScope s_names_of) := ⟨rfl, rfl, rfl, by decide +kernel, rfl, by decide +kernel, by decide +kernel⟩
theorem sc_names_of : Sc N_names_of (defScope s_names_of) [0] [] [] := ⟨fs_names_of.nd, by decide +kernel⟩
abbrev cs_names_of_c1 : Scope := compScope (s_names_of) [0, 0]
theorem sc_names_of_c1 : Sc N_names_of cs_names_of_c1 [1] [1, 2, 3] [] := ⟨fs_names_of.nd, by decide +kernel⟩
theorem b_names_of {X : Cx} {Γ : Gd} (A : At X Γ N_names_of (defScope s_names_of) 0)  {ds : List D} {d : D} {k : Kd} (hR : R_names_of ds d k) :
    SS X (env0 4 ds) (defBody s_names_of) { rt := fun d' k' => d' = d ∧ Fits k' k d, nx := fun _ => d = .non ∧ k = .cln } := by
  obtain ⟨a_bidders, r, rfl, H, rfl, rfl⟩ := hR
  unfold m_names_of at H
  obtain ⟨ys_1, hys_1, H⟩ := bindO H
  exact ss_ret (Ec.ev (Ec.cv (lcP_ (en := (fun x : (Str × Int × Int) => (D.tup [(D.str x.1), (D.int x.2.1), (D.int x.2.2)]))) D.str [("name", 1), ("weight", 2), ("bid", 3)] (fun z_2 : (Str × Int × Int) => true) (fun z_2 : (Str × Int × Int) => z_2.1) .c A sc_names_of (by decide +kernel) (iter_ (nmB A sc_names_of 0 rfl rfl rfl) .lstB) hys_1 (Clear_of rfl) (fun Y AY => (tg_tp AY.calm (tgs_cons (tg AY sc_names_of_c1 1 rfl rfl) (tgs_cons (tg AY sc_names_of_c1 2 rfl rfl) (tgs_cons (tg AY sc_names_of_c1 3 rfl rfl) tgs_nil rfl) rfl) rfl) rfl rfl)) (by decide) (fun _ => rfl) (fun z_2 _ => ⟨_, rfl, fun Y AY => ets_nil, fun _ => ⟨_, rfl, fun Y AY => (nmF AY sc_names_of_c1 1 rfl rfl rfl)⟩⟩)) (by rw [List.filter_eq_self.mpr (fun _ _ => rfl)]))) (⟨(congrArg (fun x : (List Str) => (D.lst (List.map D.str x))) (Option.some.inj H)), .refl⟩)
def m_check_bidders (a_bidders : (List (Str × Int × Int))) : Option Unit :=
  (if (decide ((6 : Int) < (a_bidders.length : Int))) = true then none else ((List.foldlM (fun (s_1 : Unit) (z_2 : (Int × (Str × Int × Int))) => ((m_is_name z_2.2.1).bind fun r_4 => (if (!r_4) = true then none else ((m_names_of (cutX a_bidders none (some z_2.1))).bind fun r_5 => (if (decide (z_2.2.1 ∈ r_5)) = true then none else (if (!((decide ((1 : Int) ≤ z_2.2.2.1)) && (decide (z_2.2.2.1 ≤ (1000 : Int))))) = true then none else (if (!((decide ((0 : Int) ≤ z_2.2.2.2)) && (decide (z_2.2.2.2 ≤ (1000000000 : Int))))) = true then none else some ()))))))) () (enumL a_bidders)).bind fun s_3 => some ()))
def R_check_bidders : Rel := fun ds d k => ∃ (a_bidders : (List (Str × Int × Int))) (r : Unit), ds = [(D.lst (List.map (fun x : (Str × Int × Int) => (D.tup [(D.str x.1), (D.int x.2.1), (D.int x.2.2)])) a_bidders))] ∧ m_check_bidders a_bidders = some r ∧ d = (fun _ => D.non) r ∧ k = .cln
abbrev N_check_bidders : List Str := ["bidders", "at", "name", "weight", "bid"]
theorem fs_check_bidders : FnScope N_check_bidders ["bidders"] (defScope s_check_bidders) := ⟨rfl, rfl, rfl, by decide +kernel, rfl, by decide +kernel, by decide +kernel⟩
theorem sc_check_bidders : Sc N_check_bidders (defScope s_check_bidders) [0, 1, 2, 3, 4] [1, 2, 3, 4] ["len", "MOST_BIDDERS", "enumerate", "is_name", "names_of", "LARGEST_WEIGHT", "LARGEST_BID"] := ⟨fs_check_bidders.nd, by decide +kernel⟩
theorem b_check_bidders {X : Cx} {Γ : Gd} (A : At X Γ N_check_bidders (defScope s_check_bidders) 1) (g_LARGEST_BID : ∃ t, Γ.mg "LARGEST_BID" = some (.int 1000000000 t)) (g_LARGEST_WEIGHT : ∃ t, Γ.mg "LARGEST_WEIGHT" = some (.int 1000 t)) (g_MOST_BIDDERS : ∃ t, Γ.mg "MOST_BIDDERS" = some (.int 6 t)) (g_enumerate : Γ.mg "enumerate" = none) (g_len : Γ.mg "len" = none) (C_is_name : Cal Γ "is_name" R_is_name 1 []) (C_names_of : Cal Γ "names_of" R_names_of 1 []) {ds : List D} {d : D} {k : Kd} (hR : R_check_bidders ds d k) :
    SS X (env0 5 ds) (defBody s_check_bidders) { rt := fun d' k' => d' = d ∧ Fits k' k d, nx := fun _ => d = .non ∧ k = .cln } := by
  obtain ⟨a_bidders, r, rfl, H, rfl, rfl⟩ := hR
  unfold m_check_bidders at H
  refine ss_if (et_cI (lenL_ (bn A sc_check_bidders 0 rfl g_len bt_len) (nmB A sc_check_bidders 0 rfl rfl rfl) rfl) (gI A sc_check_bidders 1 rfl g_MOST_BIDDERS) .gt) (fun hc => ?_) (fun hc => ?_)
  · replace H := ifT H hc
    cases H
  · replace H := ifF H hc
    refine ss_nil ?_
    show SS X _ _ _
    obtain ⟨s_3, hs_3, H⟩ := bindO H
    refine forM_ (en := (fun x : (Int × (Str × Int × Int)) => (D.tup [(D.int x.1), (D.tup [(D.str x.2.1), (D.int x.2.2.1), (D.int x.2.2.2)])]))) (fun s_1 : Unit => [some (.bor (D.lst (List.map (fun x : (Str × Int × Int) => (D.tup [(D.str x.1), (D.int x.2.1), (D.int x.2.2)])) a_bidders))), none, none, none, none]) A (enumLB_ (f := (fun x : (Str × Int × Int) => (D.tup [(D.str x.1), (D.int x.2.1), (D.int x.2.2)]))) (glo A sc_check_bidders 2 rfl) (by rw [A.eM]; exact g_enumerate) (nmB A sc_check_bidders 0 rfl rfl rfl) rfl) (tg_tp A.calm (tgs_cons (tg A sc_check_bidders 1 rfl rfl) (tgs_cons (tg_tp A.calm (tgs_cons (tg A sc_check_bidders 2 rfl rfl) (tgs_cons (tg A sc_check_bidders 3 rfl rfl) (tgs_cons (tg A sc_check_bidders 4 rfl rfl) tgs_nil rfl) rfl) rfl) rfl rfl) tgs_nil rfl) rfl) rfl rfl) (fun _ => rfl) hs_3 ?_ ?_ ?_
    · exact (wkr (wkn (wkn (wkn (wkn wk0)))))
    · intro s_1 z_2 s' hx H
      refine ⟨_, rfl, ?_⟩
      obtain ⟨r_4, hr_4, H⟩ := bindO H
      refine ss_if (et_not (Ev.et (Cal.ev C_is_name A sc_check_bidders 3 rfl (by decide) (ea_cons (nmF A sc_check_bidders 2 rfl rfl rfl) ea_nil (.inl rfl) rfl) (.inl rfl) (.inr (.inl rfl)) rfl rfl ⟨z_2.2.1, r_4, rfl, hr_4, rfl, rfl⟩) fun _ => rfl)) (fun hc => ?_) (fun hc => ?_)
      · replace H := ifT H hc
        cases H
      · replace H := ifF H hc
        refine ss_nil ?_
        show SS X _ _ _
        obtain ⟨r_5, hr_5, H⟩ := bindO H
        refine ss_if (et_inLS (nmF A sc_check_bidders 2 rfl rfl rfl) (Cal.ev C_names_of A sc_check_bidders 4 rfl (by decide) (ea_cons (slL_ (nmB A sc_check_bidders 0 rfl rfl rfl) eo_none (eo_some (nmF A sc_check_bidders 1 rfl rfl rfl))) ea_nil (.inl rfl) rfl) (.inr (.inl rfl)) (.inl rfl) rfl rfl ⟨(cutX a_bidders none (some z_2.1)), r_5, rfl, hr_5, rfl, rfl⟩)) (fun hc => ?_) (fun hc => ?_)
        · replace H := ifT H hc
          cases H
        · replace H := ifF H hc
          refine ss_nil ?_
          show SS X _ _ _
          refine ss_if (et_not (et_chain ev_int (nmF A sc_check_bidders 3 rfl rfl rfl) (gI A sc_check_bidders 5 rfl g_LARGEST_WEIGHT) .le .le (by with_unfolding_all rfl))) (fun hc => ?_) (fun hc => ?_)
          · replace H := ifT H hc
            cases H
          · replace H := ifF H hc
            refine ss_nil ?_
            show SS X _ _ _
            refine ss_if (et_not (et_chain ev_int (nmF A sc_check_bidders 4 rfl rfl rfl) (gI A sc_check_bidders 6 rfl g_LARGEST_BID) .le .le (by with_unfolding_all rfl))) (fun hc => ?_) (fun hc => ?_)
            · replace H := ifT H hc
              cases H
            · replace H := ifF H hc
              refine ss_nil ?_
              show SS X _ _ _
              obtain rfl := Option.some.inj H
              refine ss_nil ?_
              exact (wkr (wkn (wkn (wkn (wkn wk0)))))
    exact ss_nil ⟨rfl, rfl⟩
def m_check_hours (a_hours : Int) : Option Unit :=
  (if (!((decide ((1 : Int) ≤ a_hours)) && (decide (a_hours ≤ (3 : Int))))) = true then none else some ())
def R_check_hours : Rel := fun ds d k => ∃ (a_hours : Int) (r : Unit), ds = [(D.int a_hours)] ∧ m_check_hours a_hours = some r ∧ d = (fun _ => D.non) r ∧ k = .cln
abbrev N_check_hours : List Str := ["hours"]
theorem fs_check_hours : FnScope N_check_hours ["hours"] (defScope s_check_hours) := ⟨rfl, rfl, rfl, by decide +kernel, rfl, by decide +kernel, by decide +kernel⟩
theorem sc_check_hours : Sc N_check_hours (defScope s_check_hours) [0] [] ["MOST_HOURS"] := ⟨fs_check_hours.nd, by decide +kernel⟩
theorem b_check_hours {X : Cx} {Γ : Gd} (A : At X Γ N_check_hours (defScope s_check_hours) 0) (g_MOST_HOURS : ∃ t, Γ.mg "MOST_HOURS" = some (.int 3 t)) {ds : List D} {d : D} {k : Kd} (hR : R_check_hours ds d k) :
    SS X (env0 1 ds) (defBody s_check_hours) { rt := fun d' k' => d' = d ∧ Fits k' k d, nx := fun _ => d = .non ∧ k = .cln } := by
  obtain ⟨a_hours, r, rfl, H, rfl, rfl⟩ := hR
  unfold m_check_hours at H
  refine ss_if (et_not (et_chain ev_int (nmF A sc_check_hours 0 rfl rfl rfl) (gI A sc_check_hours 0 rfl g_MOST_HOURS) .le .le (by with_unfolding_all rfl))) (fun hc => ?_) (fun hc => ?_)
  · replace H := ifT H hc
    cases H
  · replace H := ifF H hc
    refine ss_nil ?_
    show SS X _ _ _
    exact ss_nil ⟨rfl, rfl⟩
def m_check_floor (a_floor : Int) : Option Unit :=
  (if (!((decide ((0 : Int) ≤ a_floor)) && (decide (a_floor ≤ (1000000000000 : Int))))) = true then none else some ())
def R_check_floor : Rel := fun ds d k => ∃ (a_floor : Int) (r : Unit), ds = [(D.int a_floor)] ∧ m_check_floor a_floor = some r ∧ d = (fun _ => D.non) r ∧ k = .cln
abbrev N_check_floor : List Str := ["floor"]
theorem fs_check_floor : FnScope N_check_floor ["floor"] (defScope s_check_floor) := ⟨rfl, rfl, rfl, by decide +kernel, rfl, by decide +kernel, by decide +kernel⟩
theorem sc_check_floor : Sc N_check_floor (defScope s_check_floor) [0] [] ["LARGEST_FLOOR"] := ⟨fs_check_floor.nd, by decide +kernel⟩
theorem b_check_floor {X : Cx} {Γ : Gd} (A : At X Γ N_check_floor (defScope s_check_floor) 0) (g_LARGEST_FLOOR : ∃ t, Γ.mg "LARGEST_FLOOR" = some (.int 1000000000000 t)) {ds : List D} {d : D} {k : Kd} (hR : R_check_floor ds d k) :
    SS X (env0 1 ds) (defBody s_check_floor) { rt := fun d' k' => d' = d ∧ Fits k' k d, nx := fun _ => d = .non ∧ k = .cln } := by
  obtain ⟨a_floor, r, rfl, H, rfl, rfl⟩ := hR
  unfold m_check_floor at H
  refine ss_if (et_not (et_chain ev_int (nmF A sc_check_floor 0 rfl rfl rfl) (gI A sc_check_floor 0 rfl g_LARGEST_FLOOR) .le .le (by with_unfolding_all rfl))) (fun hc => ?_) (fun hc => ?_)
  · replace H := ifT H hc
    cases H
  · replace H := ifF H hc
    refine ss_nil ?_
    show SS X _ _ _
    exact ss_nil ⟨rfl, rfl⟩
def m_strengths_of (a_bidders : (List (Str × Int × Int))) : Option (List Int) :=
  ((lcG a_bidders).bind fun ys_1 => ((lcM (fun z_2 : (Str × Int × Int) => some true) (fun z_2 : (Str × Int × Int) => ((mulG z_2.2.1 z_2.2.2).bind fun n_3 => some n_3)) ys_1).bind fun zs_4 => some zs_4))
def R_strengths_of : Rel := fun ds d k => ∃ (a_bidders : (List (Str × Int × Int))) (r : (List Int)), ds = [(D.lst (List.map (fun x : (Str × Int × Int) => (D.tup [(D.str x.1), (D.int x.2.1), (D.int x.2.2)])) a_bidders))] ∧ m_strengths_of a_bidders = some r ∧ d = (fun x : (List Int) => (D.lst (List.map D.int x))) r ∧ k = .own
abbrev N_strengths_of : List Str := ["bidders", "name", "weight", "bid"]
theorem fs_strengths_of : FnScope N_strengths_of ["bidders"] (defScope s_strengths_of) := ⟨rfl, rfl, rfl, by decide +kernel, rfl, by decide +kernel, by decide +kernel⟩
theorem sc_strengths_of : Sc N_strengths_of (defScope s_strengths_of) [0] [] [] := ⟨fs_strengths_of.nd, by decide +kernel⟩
abbrev cs_strengths_of_c1 : Scope := compScope (s_strengths_of) [0, 0]
theorem sc_strengths_of_c1 : Sc N_strengths_of cs_strengths_of_c1 [2, 3] [1, 2, 3] [] := ⟨fs_strengths_of.nd, by decide +kernel⟩
theorem b_strengths_of {X : Cx} {Γ : Gd} (A : At X Γ N_strengths_of (defScope s_strengths_of) 0)  {ds : List D} {d : D} {k : Kd} (hR : R_strengths_of ds d k) :
    SS X (env0 4 ds) (defBody s_strengths_of) { rt := fun d' k' => d' = d ∧ Fits k' k d, nx := fun _ => d = .non ∧ k = .cln } := by
  obtain ⟨a_bidders, r, rfl, H, rfl, rfl⟩ := hR
  unfold m_strengths_of at H
  obtain ⟨ys_1, hys_1, H⟩ := bindO H
  obtain ⟨zs_4, hzs_4, H⟩ := bindO H
  exact ss_ret (Ec.ev (lcM_ (en := (fun x : (Str × Int × Int) => (D.tup [(D.str x.1), (D.int x.2.1), (D.int x.2.2)]))) D.int [("name", 1), ("weight", 2), ("bid", 3)] .c A sc_strengths_of (by decide +kernel) (iter_ (nmB A sc_strengths_of 0 rfl rfl rfl) .lstB) hys_1 hzs_4 (Clear_of rfl) (fun Y AY => (tg_tp AY.calm (tgs_cons (tg AY sc_strengths_of_c1 1 rfl rfl) (tgs_cons (tg AY sc_strengths_of_c1 2 rfl rfl) (tgs_cons (tg AY sc_strengths_of_c1 3 rfl rfl) tgs_nil rfl) rfl) rfl) rfl rfl)) (by decide) (fun _ => rfl) (fun z_2 _ => ⟨_, rfl, fun b H Y AY => by obtain rfl := Option.some.inj H; exact ets_nil, fun y _ H => by obtain ⟨n_3, hn_3, H⟩ := bindO H; obtain rfl := Option.some.inj H; exact ⟨_, rfl, fun Y AY => (mul_ (nmF AY sc_strengths_of_c1 2 rfl rfl rfl) (nmF AY sc_strengths_of_c1 3 rfl rfl rfl) hn_3)⟩⟩))) (⟨(congrArg (fun x : (List Int) => (D.lst (List.map D.int x))) (Option.some.inj H)), .refl⟩)
def m_ranking (a_bidders : (List (Str × Int × Int))) : Option (List Int) :=
  ((m_strengths_of a_bidders).bind fun r_1 => ((lcG (enumL r_1)).bind fun ys_2 => ((srtG (ys_2.map (fun z_3 : (Int × Int) => ((-z_3.2), z_3.1)))).bind fun so_4 => ((lcG so_4).bind fun ys_5 => some (ys_5.map (fun z_6 : (Int × Int) => z_6.2))))))
def R_ranking : Rel := fun ds d k => ∃ (a_bidders : (List (Str × Int × Int))) (r : (List Int)), ds = [(D.lst (List.map (fun x : (Str × Int × Int) => (D.tup [(D.str x.1), (D.int x.2.1), (D.int x.2.2)])) a_bidders))] ∧ m_ranking a_bidders = some r ∧ d = (fun x : (List Int) => (D.lst (List.map D.int x))) r ∧ k = .own
abbrev N_ranking : List Str := ["bidders", "_", "place", "own"]
theorem fs_ranking : FnScope N_ranking ["bidders"] (defScope s_ranking) := ⟨rfl, rfl, rfl, by decide +kernel, rfl, by decide +kernel, by decide +kernel⟩
theorem sc_ranking : Sc N_ranking (defScope s_ranking) [0] [] ["enumerate", "strengths_of", "sorted"] := ⟨fs_ranking.nd, by decide +kernel⟩
abbrev cs_ranking_c1 : Scope := compScope (s_ranking) [0, 0, 2, 1]
theorem sc_ranking_c1 : Sc N_ranking cs_ranking_c1 [2, 3] [2, 3] [] := ⟨fs_ranking.nd, by decide +kernel⟩
abbrev cs_ranking_c2 : Scope := compScope (s_ranking) [0, 0]
theorem sc_ranking_c2 : Sc N_ranking cs_ranking_c2 [2] [1, 2] [] := ⟨fs_ranking.nd, by decide +kernel⟩
theorem b_ranking {X : Cx} {Γ : Gd} (A : At X Γ N_ranking (defScope s_ranking) 1) (g_enumerate : Γ.mg "enumerate" = none) (g_sorted : Γ.mg "sorted" = none) (C_strengths_of : Cal Γ "strengths_of" R_strengths_of 1 []) {ds : List D} {d : D} {k : Kd} (hR : R_ranking ds d k) :
    SS X (env0 4 ds) (defBody s_ranking) { rt := fun d' k' => d' = d ∧ Fits k' k d, nx := fun _ => d = .non ∧ k = .cln } := by
  obtain ⟨a_bidders, r, rfl, H, rfl, rfl⟩ := hR
  unfold m_ranking at H
  obtain ⟨r_1, hr_1, H⟩ := bindO H
  obtain ⟨ys_2, hys_2, H⟩ := bindO H
  obtain ⟨so_4, hso_4, H⟩ := bindO H
  obtain ⟨ys_5, hys_5, H⟩ := bindO H
  exact ss_ret (Ec.ev (Ec.cv (lcP_ (en := (fun x : (Int × Int) => (D.tup [(D.int x.1), (D.int x.2)]))) D.int [("_", 1), ("place", 2)] (fun z_6 : (Int × Int) => true) (fun z_6 : (Int × Int) => z_6.2) .c A sc_ranking (by decide +kernel) (iter_ (srtPL_ (bn A sc_ranking 2 rfl g_sorted bt_sorted) (Ec.ev (Ec.cv (lcP_ (en := (fun x : (Int × Int) => (D.tup [(D.int x.1), (D.int x.2)]))) (fun x : (Int × Int) => (D.tup [(D.int x.1), (D.int x.2)])) [("place", 2), ("own", 3)] (fun z_3 : (Int × Int) => true) (fun z_3 : (Int × Int) => ((-z_3.2), z_3.1)) .c A sc_ranking (by decide +kernel) (enumLC_ (f := D.int) (glo A sc_ranking 0 rfl) (by rw [A.eM]; exact g_enumerate) (Ev.own_cln (Cal.ev C_strengths_of A sc_ranking 1 rfl (by decide) (ea_cons (nmB A sc_ranking 0 rfl rfl rfl) ea_nil (.inl rfl) rfl) (.inr (.inl rfl)) (.inl rfl) rfl rfl ⟨a_bidders, r_1, rfl, hr_1, rfl, rfl⟩)) rfl) hys_2 (Clear_of rfl) (fun Y AY => (tg_tp AY.calm (tgs_cons (tg AY sc_ranking_c1 2 rfl rfl) (tgs_cons (tg AY sc_ranking_c1 3 rfl rfl) tgs_nil rfl) rfl) rfl rfl)) (by decide) (fun _ => rfl) (fun z_3 _ => ⟨_, rfl, fun Y AY => ets_nil, fun _ => ⟨_, rfl, fun Y AY => (ev_tup (ea_cons (ev_neg (nmF AY sc_ranking_c1 3 rfl rfl rfl)) (ea_cons (nmF AY sc_ranking_c1 2 rfl rfl rfl) ea_nil (.inl rfl) rfl) (.inl rfl) rfl) (.inl rfl) (le_line rfl))⟩⟩)) (by rw [List.filter_eq_self.mpr (fun _ _ => rfl)]))) hso_4 rfl) .lstO) hys_5 (Clear_of rfl) (fun Y AY => (tg_tp AY.calm (tgs_cons (tg AY sc_ranking_c2 1 rfl rfl) (tgs_cons (tg AY sc_ranking_c2 2 rfl rfl) tgs_nil rfl) rfl) rfl rfl)) (by decide) (fun _ => rfl) (fun z_6 _ => ⟨_, rfl, fun Y AY => ets_nil, fun _ => ⟨_, rfl, fun Y AY => (nmF AY sc_ranking_c2 2 rfl rfl rfl)⟩⟩)) (by rw [List.filter_eq_self.mpr (fun _ _ => rfl)]))) (⟨(congrArg (fun x : (List Int) => (D.lst (List.map D.int x))) (Option.some.inj H)), .refl⟩)
def m_ladder (a_bidders : (List (Str × Int × Int))) (a_hours : Int) (a_floor : Int) : Option (List Str) :=
  ((m_check_bidders a_bidders).bind fun r_1 => ((m_check_hours a_hours).bind fun r_2 => ((m_check_floor a_floor).bind fun r_3 => ((m_strengths_of a_bidders).bind fun r_4 => ((some r_4).bind fun strengths_5 => ((m_ranking a_bidders).bind fun r_6 => ((lcG r_6).bind fun ys_7 => ((lcM (fun z_8 : Int => ((idxG strengths_5 z_8).bind fun x_9 => some (decide (a_floor ≤ x_9)))) (fun z_8 : Int => some z_8) ys_7).bind fun zs_10 => ((some zs_10).bind fun places_11 => ((lcG (cutX places_11 none (some a_hours))).bind fun ys_12 => ((lcM (fun z_13 : Int => some true) (fun z_13 : Int => ((idxG a_bidders z_13).bind fun x_14 => some x_14.1)) ys_12).bind fun zs_15 => some zs_15)))))))))))
def R_ladder : Rel := fun ds d k => ∃ (a_bidders : (List (Str × Int × Int))) (a_hours : Int) (a_floor : Int) (r : (List Str)), ds = [(D.lst (List.map (fun x : (Str × Int × Int) => (D.tup [(D.str x.1), (D.int x.2.1), (D.int x.2.2)])) a_bidders)), (D.int a_hours), (D.int a_floor)] ∧ m_ladder a_bidders a_hours a_floor = some r ∧ d = (fun x : (List Str) => (D.tup (List.map D.str x))) r ∧ k = .cln
abbrev N_ladder : List Str := ["bidders", "hours", "floor", "strengths", "places", "place"]
theorem fs_ladder : FnScope N_ladder ["bidders", "hours", "floor"] (defScope s_ladder) := ⟨rfl, rfl, rfl, by decide +kernel, rfl, by decide +kernel, by decide +kernel⟩
theorem sc_ladder : Sc N_ladder (defScope s_ladder) [0, 1, 2, 4] [3, 4] ["check_bidders", "check_hours", "check_floor", "strengths_of", "ranking", "tuple"] := ⟨fs_ladder.nd, by decide +kernel⟩
abbrev cs_ladder_c1 : Scope := compScope (s_ladder) [4, 1]
theorem sc_ladder_c1 : Sc N_ladder cs_ladder_c1 [2, 3, 5] [5] [] := ⟨fs_ladder.nd, by decide +kernel⟩
abbrev cs_ladder_c2 : Scope := compScope (s_ladder) [5, 0, 1]
theorem sc_ladder_c2 : Sc N_ladder cs_ladder_c2 [0, 5] [5] [] := ⟨fs_ladder.nd, by decide +kernel⟩
theorem b_ladder {X : Cx} {Γ : Gd} (A : At X Γ N_ladder (defScope s_ladder) 2) (g_tuple : Γ.mg "tuple" = none) (C_check_bidders : Cal Γ "check_bidders" R_check_bidders 2 []) (C_check_floor : Cal Γ "check_floor" R_check_floor 1 []) (C_check_hours : Cal Γ "check_hours" R_check_hours 1 []) (C_ranking : Cal Γ "ranking" R_ranking 2 []) (C_strengths_of : Cal Γ "strengths_of" R_strengths_of 1 []) {ds : List D} {d : D} {k : Kd} (hR : R_ladder ds d k) :
    SS X (env0 6 ds) (defBody s_ladder) { rt := fun d' k' => d' = d ∧ Fits k' k d, nx := fun _ => d = .non ∧ k = .cln } := by
  obtain ⟨a_bidders, a_hours, a_floor, r, rfl, H, rfl, rfl⟩ := hR
  unfold m_ladder at H
  obtain ⟨r_1, hr_1, H⟩ := bindO H
  refine ss_ex (Cal.ev C_check_bidders A sc_ladder 0 rfl (by decide) (ea_cons (nmB A sc_ladder 0 rfl rfl rfl) ea_nil (.inl rfl) rfl) (.inr (.inl rfl)) (.inr (.inl rfl)) rfl rfl ⟨a_bidders, r_1, rfl, hr_1, rfl, rfl⟩) rfl ?_
  obtain ⟨r_2, hr_2, H⟩ := bindO H
  refine ss_ex (Cal.ev C_check_hours A sc_ladder 1 rfl (by decide) (ea_cons (nmF A sc_ladder 1 rfl rfl rfl) ea_nil (.inl rfl) rfl) (.inl rfl) (.inr (.inl rfl)) rfl rfl ⟨a_hours, r_2, rfl, hr_2, rfl, rfl⟩) rfl ?_
  obtain ⟨r_3, hr_3, H⟩ := bindO H
  refine ss_ex (Cal.ev C_check_floor A sc_ladder 2 rfl (by decide) (ea_cons (nmF A sc_ladder 2 rfl rfl rfl) ea_nil (.inl rfl) rfl) (.inl rfl) (.inr (.inl rfl)) rfl rfl ⟨a_floor, r_3, rfl, hr_3, rfl, rfl⟩) rfl ?_
  obtain ⟨r_4, hr_4, H⟩ := bindO H
  obtain ⟨strengths_5, hstrengths_5, H⟩ := bindO H
  refine set_ A sc_ladder 3 rfl rfl (Ev.cv (Cal.ev C_strengths_of A sc_ladder 3 rfl (by decide) (ea_cons (nmB A sc_ladder 0 rfl rfl rfl) ea_nil (.inl rfl) rfl) (.inr (.inl rfl)) (.inl rfl) rfl rfl ⟨a_bidders, r_4, rfl, hr_4, rfl, rfl⟩) (congrArg (fun x : (List Int) => (D.lst (List.map D.int x))) (Option.some.inj hstrengths_5))) .own rfl ?_
  obtain ⟨r_6, hr_6, H⟩ := bindO H
  obtain ⟨ys_7, hys_7, H⟩ := bindO H
  obtain ⟨zs_10, hzs_10, H⟩ := bindO H
  obtain ⟨places_11, hplaces_11, H⟩ := bindO H
  refine setLc_ A sc_ladder 4 rfl (by decide +kernel) (by decide +kernel) rfl (by decide +kernel) (Ec.cv (lcM_ (en := D.int) D.int [("place", 5)] .c A sc_ladder (by decide +kernel) (iter_ (Cal.ev C_ranking A sc_ladder 4 rfl (by decide) (ea_cons (nmB A sc_ladder 0 rfl rfl rfl) ea_nil (.inl rfl) rfl) (.inr (.inl rfl)) (.inl rfl) rfl rfl ⟨a_bidders, r_6, rfl, hr_6, rfl, rfl⟩) .lstO) hys_7 hzs_10 (Clear_of rfl) (fun Y AY => (tg AY sc_ladder_c1 5 rfl rfl)) (by decide) (fun _ => rfl) (fun z_8 _ => ⟨_, rfl, fun b H Y AY => by obtain ⟨x_9, hx_9, H⟩ := bindO H; obtain rfl := Option.some.inj H; exact (ets_one (et_cI (ixL_ (f := D.int) (nmO AY sc_ladder_c1 3 rfl rfl rfl) (nmF AY sc_ladder_c1 5 rfl rfl rfl) hx_9 (fun _ _ => rfl)) (nmF AY sc_ladder_c1 2 rfl rfl rfl) .ge)), fun y _ H => by obtain rfl := Option.some.inj H; exact ⟨_, rfl, fun Y AY => (nmF AY sc_ladder_c1 5 rfl rfl rfl)⟩⟩)) (congrArg (fun x : (List Int) => (D.lst (List.map D.int x))) (Option.some.inj hplaces_11))) .own ?_
  obtain ⟨ys_12, hys_12, H⟩ := bindO H
  obtain ⟨zs_15, hzs_15, H⟩ := bindO H
  exact ss_ret (tuple_ (bn A sc_ladder 5 rfl g_tuple bt_tuple) (Ec.ev (lcM_ (en := D.int) D.str [("place", 5)] .c A sc_ladder (by decide +kernel) (iter_ (slL_ (nmO A sc_ladder 4 rfl rfl rfl) eo_none (eo_some (nmF A sc_ladder 1 rfl rfl rfl))) .lstO) hys_12 hzs_15 (Clear_of rfl) (fun Y AY => (tg AY sc_ladder_c2 5 rfl rfl)) (by decide) (fun _ => rfl) (fun z_13 _ => ⟨_, rfl, fun b H Y AY => by obtain rfl := Option.some.inj H; exact ets_nil, fun y _ H => by obtain ⟨x_14, hx_14, H⟩ := bindO H; obtain rfl := Option.some.inj H; exact ⟨_, rfl, fun Y AY => (ix_ (ixL_ (f := (fun x : (Str × Int × Int) => (D.tup [(D.str x.1), (D.int x.2.1), (D.int x.2.2)]))) (nmB AY sc_ladder_c2 0 rfl rfl rfl) (nmF AY sc_ladder_c2 5 rfl rfl rfl) hx_14 (fun _ _ => rfl)) ev_int (.tup rfl) (fun _ _ => rfl))⟩⟩))) .lst rfl) (⟨(congrArg (fun x : (List Str) => (D.tup (List.map D.str x))) (Option.some.inj H)), .refl⟩)
def m_law_integer (a_got : D) : Option Bool :=
  ((isiG "int" a_got).bind fun q_1 => ((if q_1 = true then ((isiG "bool" a_got).bind fun q_2 => some (!q_2)) else some false).bind fun q_3 => some q_3))
def R_law_integer : Rel := fun ds d k => ∃ (a_got : D) (r : Bool), ds = [a_got] ∧ m_law_integer a_got = some r ∧ d = D.bl r ∧ k = .cln
abbrev N_law_integer : List Str := ["got"]
theorem fs_law_integer : FnScope N_law_integer ["got"] (defScope s_law_integer) := ⟨rfl, rfl, rfl, by decide +kernel, rfl, by decide +kernel, by decide +kernel⟩
theorem sc_law_integer : Sc N_law_integer (defScope s_law_integer) [0] [] ["isinstance", "int", "bool"] := ⟨fs_law_integer.nd, by decide +kernel⟩
theorem b_law_integer {X : Cx} {Γ : Gd} (A : At X Γ N_law_integer (defScope s_law_integer) 0) (g_bool : Γ.mg "bool" = none) (g_int : Γ.mg "int" = none) (g_isinstance : Γ.mg "isinstance" = none) {ds : List D} {d : D} {k : Kd} (hR : R_law_integer ds d k) :
    SS X (env0 1 ds) (defBody s_law_integer) { rt := fun d' k' => d' = d ∧ Fits k' k d, nx := fun _ => d = .non ∧ k = .cln } := by
  obtain ⟨a_got, r, rfl, H, rfl, rfl⟩ := hR
  unfold m_law_integer at H
  obtain ⟨q_1, hq_1, H⟩ := bindO H
  obtain ⟨q_3, hq_3, H⟩ := bindO H
  exact ss_ret (ev_andM (isiG_ (bn A sc_law_integer 0 rfl g_isinstance bt_isinstance) (nm2 A sc_law_integer 0 rfl rfl rfl) (bn A sc_law_integer 1 rfl g_int bt_int) rfl rfl hq_1) hq_3 fun H => by obtain ⟨q_2, hq_2, H⟩ := bindO H; obtain rfl := Option.some.inj H; exact (ev_one (ev_not (isiG_ (bn A sc_law_integer 0 rfl g_isinstance bt_isinstance) (nm2 A sc_law_integer 0 rfl rfl rfl) (bn A sc_law_integer 2 rfl g_bool bt_bool) rfl rfl hq_2)))) (⟨(congrArg D.bl (Option.some.inj H)), .bl⟩)
def m_law_same : Nat → D → D → Option Bool
  | 0, _, _ => none
  | n + 1, a_got, a_wanted =>
  (if (D.isN a_wanted) = true then some (D.isN a_got) else (if (D.isT true a_wanted) = true then some (D.isT true a_got) else (if (D.isT false a_wanted) = true then some (D.isT false a_got) else ((isiG "int" a_wanted).bind fun q_1 => (if q_1 = true then ((m_law_integer a_got).bind fun r_2 => ((if r_2 = true then ((eqG a_got a_wanted).bind fun q_3 => some q_3) else some false).bind fun q_4 => some q_4)) else ((isiG "str" a_wanted).bind fun q_5 => (if q_5 = true then ((isiG "str" a_got).bind fun q_6 => ((if q_6 = true then ((eqG a_got a_wanted).bind fun q_7 => some q_7) else some false).bind fun q_8 => some q_8)) else ((isiG "tuple" a_wanted).bind fun q_9 => ((if q_9 = true then ((isiG "tuple" a_got).bind fun q_10 => some (!q_10)) else some false).bind fun q_11 => (if q_11 = true then some false else ((isiG "list" a_wanted).bind fun q_12 => ((if q_12 = true then ((isiG "list" a_got).bind fun q_13 => some (!q_13)) else some false).bind fun q_14 => (if q_14 = true then some false else ((lenDG a_got).bind fun n_15 => ((lenDG a_wanted).bind fun n_16 => (if (!decide (n_15 = n_16)) = true then some false else ((lenDG a_wanted).bind fun n_17 => ((rng1G n_17).bind fun r_18 => ((loopM (fun (s_19 : Unit) (z_20 : Int) => (((idxDG a_got z_20).bind fun x_22 => ((idxDG a_wanted z_20).bind fun x_23 => ((m_law_same n x_22 x_23).bind fun r_24 => (if (!r_24) = true then some (Ctl.ret false) else some (Ctl.nx ()))))) : Option (Ctl Unit Bool))) () r_18).bind fun s_21 => match s_21 with | .nx s_211 => some true | .ret r_25 => some r_25 | .brk _ => none)))))))))))))))))))
def R_law_same (n : Nat) : Rel := fun ds d k => ∃ (a_got : D) (a_wanted : D) (r : Bool), ds = [a_got, a_wanted] ∧ m_law_same n a_got a_wanted = some r ∧ d = D.bl r ∧ k = .cln
abbrev N_law_same : List Str := ["got", "wanted", "k"]
theorem fs_law_same : FnScope N_law_same ["got", "wanted"] (defScope s_law_same) := ⟨rfl, rfl, rfl, by decide +kernel, rfl, by decide +kernel, by decide +kernel⟩
theorem sc_law_same : Sc N_law_same (defScope s_law_same) [0, 1, 2] [2] ["isinstance", "int", "_law_integer", "str", "tuple", "list", "len", "range", "_law_same"] := ⟨fs_law_same.nd, by decide +kernel⟩
theorem b_law_same {X : Cx} {Γ : Gd} {n : Nat} (A : At X Γ N_law_same (defScope s_law_same) (2 + n)) (g_int : Γ.mg "int" = none) (g_isinstance : Γ.mg "isinstance" = none) (g_len : Γ.mg "len" = none) (g_list : Γ.mg "list" = none) (g_range : Γ.mg "range" = none) (g_str : Γ.mg "str" = none) (g_tuple : Γ.mg "tuple" = none) (C_law_integer : Cal Γ "_law_integer" R_law_integer 1 []) (C_law_same : Cal Γ "_law_same" (R_law_same n) (2 + n) []) {ds : List D} {d : D} {k : Kd} (hR : R_law_same (n + 1) ds d k) :
    SS X (env0 3 ds) (defBody s_law_same) { rt := fun d' k' => d' = d ∧ Fits k' k d, nx := fun _ => d = .non ∧ k = .cln } := by
  obtain ⟨a_got, a_wanted, r, rfl, H, rfl, rfl⟩ := hR
  unfold m_law_same at H
  refine ss_if (et_isN (nm2 A sc_law_same 1 rfl rfl rfl) rfl) (fun hc => ?_) (fun hc => ?_)
  · replace H := ifT H hc
    exact ss_ret (ev_isN (nm2 A sc_law_same 0 rfl rfl rfl) rfl) (⟨(congrArg D.bl (Option.some.inj H)), .bl⟩)
  · replace H := ifF H hc
    refine ss_nil ?_
    show SS X _ _ _
    refine ss_if (et_isT (nm2 A sc_law_same 1 rfl rfl rfl) rfl) (fun hc => ?_) (fun hc => ?_)
    · replace H := ifT H hc
      exact ss_ret (ev_isT (nm2 A sc_law_same 0 rfl rfl rfl) rfl) (⟨(congrArg D.bl (Option.some.inj H)), .bl⟩)
    · replace H := ifF H hc
      refine ss_nil ?_
      show SS X _ _ _
      refine ss_if (et_isT (nm2 A sc_law_same 1 rfl rfl rfl) rfl) (fun hc => ?_) (fun hc => ?_)
      · replace H := ifT H hc
        exact ss_ret (ev_isT (nm2 A sc_law_same 0 rfl rfl rfl) rfl) (⟨(congrArg D.bl (Option.some.inj H)), .bl⟩)
      · replace H := ifF H hc
        refine ss_nil ?_
        show SS X _ _ _
        obtain ⟨q_1, hq_1, H⟩ := bindO H
        refine ss_if (Ev.et (isiG_ (bn A sc_law_same 0 rfl g_isinstance bt_isinstance) (nm2 A sc_law_same 1 rfl rfl rfl) (bn A sc_law_same 1 rfl g_int bt_int) rfl rfl hq_1) fun _ => rfl) (fun hc => ?_) (fun hc => ?_)
        · replace H := ifT H hc
          obtain ⟨r_2, hr_2, H⟩ := bindO H
          obtain ⟨q_4, hq_4, H⟩ := bindO H
          exact ss_ret (ev_andM (Cal.ev C_law_integer A sc_law_same 2 rfl (by omega) (ea_consH (nm2 A sc_law_same 0 rfl rfl rfl) ea_nil (.inl rfl) rfl) (.inr (.inl rfl)) (.inr (.inl rfl)) rfl rfl ⟨a_got, r_2, rfl, hr_2, rfl, rfl⟩) hq_4 fun H => by obtain ⟨q_3, hq_3, H⟩ := bindO H; obtain rfl := Option.some.inj H; exact (ev_one (ev_eqG A.room.units (nm2 A sc_law_same 0 rfl rfl rfl) (nm2 A sc_law_same 1 rfl rfl rfl) hq_3))) (⟨(congrArg D.bl (Option.some.inj H)), .bl⟩)
        · replace H := ifF H hc
          refine ss_nil ?_
          show SS X _ _ _
          obtain ⟨q_5, hq_5, H⟩ := bindO H
          refine ss_if (Ev.et (isiG_ (bn A sc_law_same 0 rfl g_isinstance bt_isinstance) (nm2 A sc_law_same 1 rfl rfl rfl) (bn A sc_law_same 3 rfl g_str bt_str) rfl rfl hq_5) fun _ => rfl) (fun hc => ?_) (fun hc => ?_)
          · replace H := ifT H hc
            obtain ⟨q_6, hq_6, H⟩ := bindO H
            obtain ⟨q_8, hq_8, H⟩ := bindO H
            exact ss_ret (ev_andM (isiG_ (bn A sc_law_same 0 rfl g_isinstance bt_isinstance) (nm2 A sc_law_same 0 rfl rfl rfl) (bn A sc_law_same 3 rfl g_str bt_str) rfl rfl hq_6) hq_8 fun H => by obtain ⟨q_7, hq_7, H⟩ := bindO H; obtain rfl := Option.some.inj H; exact (ev_one (ev_eqG A.room.units (nm2 A sc_law_same 0 rfl rfl rfl) (nm2 A sc_law_same 1 rfl rfl rfl) hq_7))) (⟨(congrArg D.bl (Option.some.inj H)), .bl⟩)
          · replace H := ifF H hc
            refine ss_nil ?_
            show SS X _ _ _
            obtain ⟨q_9, hq_9, H⟩ := bindO H
            obtain ⟨q_11, hq_11, H⟩ := bindO H
            refine ss_if (Ew.et (ew_andM (Ev.et (isiG_ (bn A sc_law_same 0 rfl g_isinstance bt_isinstance) (nm2 A sc_law_same 1 rfl rfl rfl) (bn A sc_law_same 4 rfl g_tuple bt_tuple) rfl rfl hq_9) fun _ => rfl) hq_11 fun H => by obtain ⟨q_10, hq_10, H⟩ := bindO H; obtain rfl := Option.some.inj H; exact (ew_and1 (et_not (Ev.et (isiG_ (bn A sc_law_same 0 rfl g_isinstance bt_isinstance) (nm2 A sc_law_same 0 rfl rfl rfl) (bn A sc_law_same 4 rfl g_tuple bt_tuple) rfl rfl hq_10) fun _ => rfl))))) (fun hc => ?_) (fun hc => ?_)
            · replace H := ifT H hc
              exact ss_ret ev_bl (⟨(congrArg D.bl (Option.some.inj H)), .bl⟩)
            · replace H := ifF H hc
              refine ss_nil ?_
              show SS X _ _ _
              obtain ⟨q_12, hq_12, H⟩ := bindO H
              obtain ⟨q_14, hq_14, H⟩ := bindO H
              refine ss_if (Ew.et (ew_andM (Ev.et (isiG_ (bn A sc_law_same 0 rfl g_isinstance bt_isinstance) (nm2 A sc_law_same 1 rfl rfl rfl) (bn A sc_law_same 5 rfl g_list bt_list) rfl rfl hq_12) fun _ => rfl) hq_14 fun H => by obtain ⟨q_13, hq_13, H⟩ := bindO H; obtain rfl := Option.some.inj H; exact (ew_and1 (et_not (Ev.et (isiG_ (bn A sc_law_same 0 rfl g_isinstance bt_isinstance) (nm2 A sc_law_same 0 rfl rfl rfl) (bn A sc_law_same 5 rfl g_list bt_list) rfl rfl hq_13) fun _ => rfl))))) (fun hc => ?_) (fun hc => ?_)
              · replace H := ifT H hc
                exact ss_ret ev_bl (⟨(congrArg D.bl (Option.some.inj H)), .bl⟩)
              · replace H := ifF H hc
                refine ss_nil ?_
                show SS X _ _ _
                obtain ⟨n_15, hn_15, H⟩ := bindO H
                obtain ⟨n_16, hn_16, H⟩ := bindO H
                refine ss_if (et_cI (lenD_ (bn A sc_law_same 6 rfl g_len bt_len) (nm2 A sc_law_same 0 rfl rfl rfl) hn_15 rfl) (lenD_ (bn A sc_law_same 6 rfl g_len bt_len) (nm2 A sc_law_same 1 rfl rfl rfl) hn_16 rfl) .ne) (fun hc => ?_) (fun hc => ?_)
                · replace H := ifT H hc
                  exact ss_ret ev_bl (⟨(congrArg D.bl (Option.some.inj H)), .bl⟩)
                · replace H := ifF H hc
                  refine ss_nil ?_
                  show SS X _ _ _
                  obtain ⟨n_17, hn_17, H⟩ := bindO H
                  obtain ⟨r_18, hr_18, H⟩ := bindO H
                  obtain ⟨s_21, hs_21, H⟩ := bindO H
                  refine forR_ (en := D.int) (fun s_19 : Unit => [some (slot2 .b a_got), some (slot2 .b a_wanted), none]) (fun r d k => d = D.bl r ∧ Fits k .cln (D.bl r)) A (rng1_ (glo A sc_law_same 7 rfl) (by rw [A.eM]; exact g_range) (lenD_ (bn A sc_law_same 6 rfl g_len bt_len) (nm2 A sc_law_same 1 rfl rfl rfl) hn_17 rfl) hr_18 rfl) (tg A sc_law_same 2 rfl rfl) (fun _ => rfl) hs_21 ?_ ?_ ?_ ?_
                  · exact (wkr (wkr (wkn wk0)))
                  · intro s_19 z_20 c' hx H
                    refine ⟨_, rfl, ?_⟩
                    obtain ⟨x_22, hx_22, H⟩ := bindO H
                    obtain ⟨x_23, hx_23, H⟩ := bindO H
                    obtain ⟨r_24, hr_24, H⟩ := bindO H
                    refine ss_if (et_not (Ev.et (Cal.ev C_law_same A sc_law_same 8 rfl (by omega) (ea_consH (ixD_ (nm2 A sc_law_same 0 rfl rfl rfl) (nmF A sc_law_same 2 rfl rfl rfl) hx_22 (fun _ _ => rfl)) (ea_consH (ixD_ (nm2 A sc_law_same 1 rfl rfl rfl) (nmF A sc_law_same 2 rfl rfl rfl) hx_23 (fun _ _ => rfl)) ea_nil (.inl rfl) rfl) (.inr (.inl rfl)) rfl) (.inr (.inl rfl)) (.inr (.inl rfl)) rfl rfl ⟨x_22, x_23, r_24, rfl, hr_24, rfl, rfl⟩) fun _ => rfl)) (fun hc => ?_) (fun hc => ?_)
                    · replace H := ifT H hc
                      exact ss_ret ev_bl (⟨_, (Option.some.inj H).symm, rfl, .bl⟩)
                    · replace H := ifF H hc
                      refine ss_nil ?_
                      show SS X _ _ _
                      obtain rfl := Option.some.inj H
                      refine ss_nil ⟨_, rfl, ?_⟩
                      exact (wkr (wkr (wkn wk0)))
                  · intro r_25 d k e ⟨hd, hf⟩
                    subst e
                    subst hd
                    exact ⟨(congrArg D.bl (Option.some.inj H)), (Option.some.inj H) ▸ hf⟩
                  · intro s_211 e
                    subst e
                    exact ss_ret ev_bl (⟨(congrArg D.bl (Option.some.inj H)), .bl⟩)
def m_names_of_2 (a_bidders : (List (Str × Int × Int))) : Option (List Str) :=
  ((lcG a_bidders).bind fun ys_1 => some (ys_1.map (fun z_2 : (Str × Int × Int) => z_2.1)))
def R_names_of_2 : Rel := fun ds d k => ∃ (a_bidders : (List (Str × Int × Int))) (r : (List Str)), ds = [(D.tup (List.map (fun x : (Str × Int × Int) => (D.tup [(D.str x.1), (D.int x.2.1), (D.int x.2.2)])) a_bidders))] ∧ m_names_of_2 a_bidders = some r ∧ d = (fun x : (List Str) => (D.lst (List.map D.str x))) r ∧ k = .own
abbrev N_names_of_2 : List Str := ["bidders", "name", "weight", "bid"]
theorem fs_names_of_2 : FnScope N_names_of_2 ["bidders"] (defScope s_names_of) := ⟨rfl, rfl, rfl, by decide +kernel, rfl, by decide +kernel, by decide +kernel⟩
theorem sc_names_of_2 : Sc N_names_of_2 (defScope s_names_of) [0] [] [] := ⟨fs_names_of_2.nd, by decide +kernel⟩
abbrev cs_names_of_2_c1 : Scope := compScope (s_names_of) [0, 0]
theorem sc_names_of_2_c1 : Sc N_names_of_2 cs_names_of_2_c1 [1] [1, 2, 3] [] := ⟨fs_names_of_2.nd, by decide +kernel⟩
theorem b_names_of_2 {X : Cx} {Γ : Gd} (A : At X Γ N_names_of_2 (defScope s_names_of) 0)  {ds : List D} {d : D} {k : Kd} (hR : R_names_of_2 ds d k) :
    SS X (env0 4 ds) (defBody s_names_of) { rt := fun d' k' => d' = d ∧ Fits k' k d, nx := fun _ => d = .non ∧ k = .cln } := by
  obtain ⟨a_bidders, r, rfl, H, rfl, rfl⟩ := hR
  unfold m_names_of_2 at H
  obtain ⟨ys_1, hys_1, H⟩ := bindO H
  exact ss_ret (Ec.ev (Ec.cv (lcP_ (en := (fun x : (Str × Int × Int) => (D.tup [(D.str x.1), (D.int x.2.1), (D.int x.2.2)]))) D.str [("name", 1), ("weight", 2), ("bid", 3)] (fun z_2 : (Str × Int × Int) => true) (fun z_2 : (Str × Int × Int) => z_2.1) .c A sc_names_of_2 (by decide +kernel) (iter_ (nmB A sc_names_of_2 0 rfl rfl rfl) .tupB) hys_1 (Clear_of rfl) (fun Y AY => (tg_tp AY.calm (tgs_cons (tg AY sc_names_of_2_c1 1 rfl rfl) (tgs_cons (tg AY sc_names_of_2_c1 2 rfl rfl) (tgs_cons (tg AY sc_names_of_2_c1 3 rfl rfl) tgs_nil rfl) rfl) rfl) rfl rfl)) (by decide) (fun _ => rfl) (fun z_2 _ => ⟨_, rfl, fun Y AY => ets_nil, fun _ => ⟨_, rfl, fun Y AY => (nmF AY sc_names_of_2_c1 1 rfl rfl rfl)⟩⟩)) (by rw [List.filter_eq_self.mpr (fun _ _ => rfl)]))) (⟨(congrArg (fun x : (List Str) => (D.lst (List.map D.str x))) (Option.some.inj H)), .refl⟩)
def m_check_bidders_2 (a_bidders : (List (Str × Int × Int))) : Option Unit :=
  (if (decide ((6 : Int) < (a_bidders.length : Int))) = true then none else ((List.foldlM (fun (s_1 : Unit) (z_2 : (Int × (Str × Int × Int))) => ((m_is_name z_2.2.1).bind fun r_4 => (if (!r_4) = true then none else ((m_names_of_2 (cutX a_bidders none (some z_2.1))).bind fun r_5 => (if (decide (z_2.2.1 ∈ r_5)) = true then none else (if (!((decide ((1 : Int) ≤ z_2.2.2.1)) && (decide (z_2.2.2.1 ≤ (1000 : Int))))) = true then none else (if (!((decide ((0 : Int) ≤ z_2.2.2.2)) && (decide (z_2.2.2.2 ≤ (1000000000 : Int))))) = true then none else some ()))))))) () (enumL a_bidders)).bind fun s_3 => some ()))
def R_check_bidders_2 : Rel := fun ds d k => ∃ (a_bidders : (List (Str × Int × Int))) (r : Unit), ds = [(D.tup (List.map (fun x : (Str × Int × Int) => (D.tup [(D.str x.1), (D.int x.2.1), (D.int x.2.2)])) a_bidders))] ∧ m_check_bidders_2 a_bidders = some r ∧ d = (fun _ => D.non) r ∧ k = .cln
abbrev N_check_bidders_2 : List Str := ["bidders", "at", "name", "weight", "bid"]
theorem fs_check_bidders_2 : FnScope N_check_bidders_2 ["bidders"] (defScope s_check_bidders) := ⟨rfl, rfl, rfl, by decide +kernel, rfl, by decide +kernel, by decide +kernel⟩
theorem sc_check_bidders_2 : Sc N_check_bidders_2 (defScope s_check_bidders) [0, 1, 2, 3, 4] [1, 2, 3, 4] ["len", "MOST_BIDDERS", "enumerate", "is_name", "names_of", "LARGEST_WEIGHT", "LARGEST_BID"] := ⟨fs_check_bidders_2.nd, by decide +kernel⟩
theorem b_check_bidders_2 {X : Cx} {Γ : Gd} (A : At X Γ N_check_bidders_2 (defScope s_check_bidders) 1) (g_LARGEST_BID : ∃ t, Γ.mg "LARGEST_BID" = some (.int 1000000000 t)) (g_LARGEST_WEIGHT : ∃ t, Γ.mg "LARGEST_WEIGHT" = some (.int 1000 t)) (g_MOST_BIDDERS : ∃ t, Γ.mg "MOST_BIDDERS" = some (.int 6 t)) (g_enumerate : Γ.mg "enumerate" = none) (g_len : Γ.mg "len" = none) (C_is_name : Cal Γ "is_name" R_is_name 1 []) (C_names_of_2 : Cal Γ "names_of" R_names_of_2 1 []) {ds : List D} {d : D} {k : Kd} (hR : R_check_bidders_2 ds d k) :
    SS X (env0 5 ds) (defBody s_check_bidders) { rt := fun d' k' => d' = d ∧ Fits k' k d, nx := fun _ => d = .non ∧ k = .cln } := by
  obtain ⟨a_bidders, r, rfl, H, rfl, rfl⟩ := hR
  unfold m_check_bidders_2 at H
  refine ss_if (et_cI (lenT_ (bn A sc_check_bidders_2 0 rfl g_len bt_len) (nmB A sc_check_bidders_2 0 rfl rfl rfl) rfl) (gI A sc_check_bidders_2 1 rfl g_MOST_BIDDERS) .gt) (fun hc => ?_) (fun hc => ?_)
  · replace H := ifT H hc
    cases H
  · replace H := ifF H hc
    refine ss_nil ?_
    show SS X _ _ _
    obtain ⟨s_3, hs_3, H⟩ := bindO H
    refine forM_ (en := (fun x : (Int × (Str × Int × Int)) => (D.tup [(D.int x.1), (D.tup [(D.str x.2.1), (D.int x.2.2.1), (D.int x.2.2.2)])]))) (fun s_1 : Unit => [some (.bor (D.tup (List.map (fun x : (Str × Int × Int) => (D.tup [(D.str x.1), (D.int x.2.1), (D.int x.2.2)])) a_bidders))), none, none, none, none]) A (enumTB_ (f := (fun x : (Str × Int × Int) => (D.tup [(D.str x.1), (D.int x.2.1), (D.int x.2.2)]))) (glo A sc_check_bidders_2 2 rfl) (by rw [A.eM]; exact g_enumerate) (nmB A sc_check_bidders_2 0 rfl rfl rfl) rfl) (tg_tp A.calm (tgs_cons (tg A sc_check_bidders_2 1 rfl rfl) (tgs_cons (tg_tp A.calm (tgs_cons (tg A sc_check_bidders_2 2 rfl rfl) (tgs_cons (tg A sc_check_bidders_2 3 rfl rfl) (tgs_cons (tg A sc_check_bidders_2 4 rfl rfl) tgs_nil rfl) rfl) rfl) rfl rfl) tgs_nil rfl) rfl) rfl rfl) (fun _ => rfl) hs_3 ?_ ?_ ?_
    · exact (wkr (wkn (wkn (wkn (wkn wk0)))))
    · intro s_1 z_2 s' hx H
      refine ⟨_, rfl, ?_⟩
      obtain ⟨r_4, hr_4, H⟩ := bindO H
      refine ss_if (et_not (Ev.et (Cal.ev C_is_name A sc_check_bidders_2 3 rfl (by decide) (ea_cons (nmF A sc_check_bidders_2 2 rfl rfl rfl) ea_nil (.inl rfl) rfl) (.inl rfl) (.inr (.inl rfl)) rfl rfl ⟨z_2.2.1, r_4, rfl, hr_4, rfl, rfl⟩) fun _ => rfl)) (fun hc => ?_) (fun hc => ?_)
      · replace H := ifT H hc
        cases H
      · replace H := ifF H hc
        refine ss_nil ?_
        show SS X _ _ _
        obtain ⟨r_5, hr_5, H⟩ := bindO H
        refine ss_if (et_inLS (nmF A sc_check_bidders_2 2 rfl rfl rfl) (Cal.ev C_names_of_2 A sc_check_bidders_2 4 rfl (by decide) (ea_cons (slT_ (nmB A sc_check_bidders_2 0 rfl rfl rfl) eo_none (eo_some (nmF A sc_check_bidders_2 1 rfl rfl rfl))) ea_nil (.inl rfl) rfl) (.inr (.inl rfl)) (.inl rfl) rfl rfl ⟨(cutX a_bidders none (some z_2.1)), r_5, rfl, hr_5, rfl, rfl⟩)) (fun hc => ?_) (fun hc => ?_)
        · replace H := ifT H hc
          cases H
        · replace H := ifF H hc
          refine ss_nil ?_
          show SS X _ _ _
          refine ss_if (et_not (et_chain ev_int (nmF A sc_check_bidders_2 3 rfl rfl rfl) (gI A sc_check_bidders_2 5 rfl g_LARGEST_WEIGHT) .le .le (by with_unfolding_all rfl))) (fun hc => ?_) (fun hc => ?_)
          · replace H := ifT H hc
            cases H
          · replace H := ifF H hc
            refine ss_nil ?_
            show SS X _ _ _
            refine ss_if (et_not (et_chain ev_int (nmF A sc_check_bidders_2 4 rfl rfl rfl) (gI A sc_check_bidders_2 6 rfl g_LARGEST_BID) .le .le (by with_unfolding_all rfl))) (fun hc => ?_) (fun hc => ?_)
            · replace H := ifT H hc
              cases H
            · replace H := ifF H hc
              refine ss_nil ?_
              show SS X _ _ _
              obtain rfl := Option.some.inj H
              refine ss_nil ?_
              exact (wkr (wkn (wkn (wkn (wkn wk0)))))
    exact ss_nil ⟨rfl, rfl⟩
def m_strengths_of_2 (a_bidders : (List (Str × Int × Int))) : Option (List Int) :=
  ((lcG a_bidders).bind fun ys_1 => ((lcM (fun z_2 : (Str × Int × Int) => some true) (fun z_2 : (Str × Int × Int) => ((mulG z_2.2.1 z_2.2.2).bind fun n_3 => some n_3)) ys_1).bind fun zs_4 => some zs_4))
def R_strengths_of_2 : Rel := fun ds d k => ∃ (a_bidders : (List (Str × Int × Int))) (r : (List Int)), ds = [(D.tup (List.map (fun x : (Str × Int × Int) => (D.tup [(D.str x.1), (D.int x.2.1), (D.int x.2.2)])) a_bidders))] ∧ m_strengths_of_2 a_bidders = some r ∧ d = (fun x : (List Int) => (D.lst (List.map D.int x))) r ∧ k = .own
abbrev N_strengths_of_2 : List Str := ["bidders", "name", "weight", "bid"]
theorem fs_strengths_of_2 : FnScope N_strengths_of_2 ["bidders"] (defScope s_strengths_of) := ⟨rfl, rfl, rfl, by decide +kernel, rfl, by decide +kernel, by decide +kernel⟩
theorem sc_strengths_of_2 : Sc N_strengths_of_2 (defScope s_strengths_of) [0] [] [] := ⟨fs_strengths_of_2.nd, by decide +kernel⟩
abbrev cs_strengths_of_2_c1 : Scope := compScope (s_strengths_of) [0, 0]
theorem sc_strengths_of_2_c1 : Sc N_strengths_of_2 cs_strengths_of_2_c1 [2, 3] [1, 2, 3] [] := ⟨fs_strengths_of_2.nd, by decide +kernel⟩
theorem b_strengths_of_2 {X : Cx} {Γ : Gd} (A : At X Γ N_strengths_of_2 (defScope s_strengths_of) 0)  {ds : List D} {d : D} {k : Kd} (hR : R_strengths_of_2 ds d k) :
    SS X (env0 4 ds) (defBody s_strengths_of) { rt := fun d' k' => d' = d ∧ Fits k' k d, nx := fun _ => d = .non ∧ k = .cln } := by
  obtain ⟨a_bidders, r, rfl, H, rfl, rfl⟩ := hR
  unfold m_strengths_of_2 at H
  obtain ⟨ys_1, hys_1, H⟩ := bindO H
  obtain ⟨zs_4, hzs_4, H⟩ := bindO H
  exact ss_ret (Ec.ev (lcM_ (en := (fun x : (Str × Int × Int) => (D.tup [(D.str x.1), (D.int x.2.1), (D.int x.2.2)]))) D.int [("name", 1), ("weight", 2), ("bid", 3)] .c A sc_strengths_of_2 (by decide +kernel) (iter_ (nmB A sc_strengths_of_2 0 rfl rfl rfl) .tupB) hys_1 hzs_4 (Clear_of rfl) (fun Y AY => (tg_tp AY.calm (tgs_cons (tg AY sc_strengths_of_2_c1 1 rfl rfl) (tgs_cons (tg AY sc_strengths_of_2_c1 2 rfl rfl) (tgs_cons (tg AY sc_strengths_of_2_c1 3 rfl rfl) tgs_nil rfl) rfl) rfl) rfl rfl)) (by decide) (fun _ => rfl) (fun z_2 _ => ⟨_, rfl, fun b H Y AY => by obtain rfl := Option.some.inj H; exact ets_nil, fun y _ H => by obtain ⟨n_3, hn_3, H⟩ := bindO H; obtain rfl := Option.some.inj H; exact ⟨_, rfl, fun Y AY => (mul_ (nmF AY sc_strengths_of_2_c1 2 rfl rfl rfl) (nmF AY sc_strengths_of_2_c1 3 rfl rfl rfl) hn_3)⟩⟩))) (⟨(congrArg (fun x : (List Int) => (D.lst (List.map D.int x))) (Option.some.inj H)), .refl⟩)
def m_ranking_2 (a_bidders : (List (Str × Int × Int))) : Option (List Int) :=
  ((m_strengths_of_2 a_bidders).bind fun r_1 => ((lcG (enumL r_1)).bind fun ys_2 => ((srtG (ys_2.map (fun z_3 : (Int × Int) => ((-z_3.2), z_3.1)))).bind fun so_4 => ((lcG so_4).bind fun ys_5 => some (ys_5.map (fun z_6 : (Int × Int) => z_6.2))))))
def R_ranking_2 : Rel := fun ds d k => ∃ (a_bidders : (List (Str × Int × Int))) (r : (List Int)), ds = [(D.tup (List.map (fun x : (Str × Int × Int) => (D.tup [(D.str x.1), (D.int x.2.1), (D.int x.2.2)])) a_bidders))] ∧ m_ranking_2 a_bidders = some r ∧ d = (fun x : (List Int) => (D.lst (List.map D.int x))) r ∧ k = .own
abbrev N_ranking_2 : List Str := ["bidders", "_", "place", "own"]
theorem fs_ranking_2 : FnScope N_ranking_2 ["bidders"] (defScope s_ranking) := ⟨rfl, rfl, rfl, by decide +kernel, rfl, by decide +kernel, by decide +kernel⟩
theorem sc_ranking_2 : Sc N_ranking_2 (defScope s_ranking) [0] [] ["enumerate", "strengths_of", "sorted"] := ⟨fs_ranking_2.nd, by decide +kernel⟩
abbrev cs_ranking_2_c1 : Scope := compScope (s_ranking) [0, 0, 2, 1]
theorem sc_ranking_2_c1 : Sc N_ranking_2 cs_ranking_2_c1 [2, 3] [2, 3] [] := ⟨fs_ranking_2.nd, by decide +kernel⟩
abbrev cs_ranking_2_c2 : Scope := compScope (s_ranking) [0, 0]
theorem sc_ranking_2_c2 : Sc N_ranking_2 cs_ranking_2_c2 [2] [1, 2] [] := ⟨fs_ranking_2.nd, by decide +kernel⟩
theorem b_ranking_2 {X : Cx} {Γ : Gd} (A : At X Γ N_ranking_2 (defScope s_ranking) 1) (g_enumerate : Γ.mg "enumerate" = none) (g_sorted : Γ.mg "sorted" = none) (C_strengths_of_2 : Cal Γ "strengths_of" R_strengths_of_2 1 []) {ds : List D} {d : D} {k : Kd} (hR : R_ranking_2 ds d k) :
    SS X (env0 4 ds) (defBody s_ranking) { rt := fun d' k' => d' = d ∧ Fits k' k d, nx := fun _ => d = .non ∧ k = .cln } := by
  obtain ⟨a_bidders, r, rfl, H, rfl, rfl⟩ := hR
  unfold m_ranking_2 at H
  obtain ⟨r_1, hr_1, H⟩ := bindO H
  obtain ⟨ys_2, hys_2, H⟩ := bindO H
  obtain ⟨so_4, hso_4, H⟩ := bindO H
  obtain ⟨ys_5, hys_5, H⟩ := bindO H
  exact ss_ret (Ec.ev (Ec.cv (lcP_ (en := (fun x : (Int × Int) => (D.tup [(D.int x.1), (D.int x.2)]))) D.int [("_", 1), ("place", 2)] (fun z_6 : (Int × Int) => true) (fun z_6 : (Int × Int) => z_6.2) .c A sc_ranking_2 (by decide +kernel) (iter_ (srtPL_ (bn A sc_ranking_2 2 rfl g_sorted bt_sorted) (Ec.ev (Ec.cv (lcP_ (en := (fun x : (Int × Int) => (D.tup [(D.int x.1), (D.int x.2)]))) (fun x : (Int × Int) => (D.tup [(D.int x.1), (D.int x.2)])) [("place", 2), ("own", 3)] (fun z_3 : (Int × Int) => true) (fun z_3 : (Int × Int) => ((-z_3.2), z_3.1)) .c A sc_ranking_2 (by decide +kernel) (enumLC_ (f := D.int) (glo A sc_ranking_2 0 rfl) (by rw [A.eM]; exact g_enumerate) (Ev.own_cln (Cal.ev C_strengths_of_2 A sc_ranking_2 1 rfl (by decide) (ea_cons (nmB A sc_ranking_2 0 rfl rfl rfl) ea_nil (.inl rfl) rfl) (.inr (.inl rfl)) (.inl rfl) rfl rfl ⟨a_bidders, r_1, rfl, hr_1, rfl, rfl⟩)) rfl) hys_2 (Clear_of rfl) (fun Y AY => (tg_tp AY.calm (tgs_cons (tg AY sc_ranking_2_c1 2 rfl rfl) (tgs_cons (tg AY sc_ranking_2_c1 3 rfl rfl) tgs_nil rfl) rfl) rfl rfl)) (by decide) (fun _ => rfl) (fun z_3 _ => ⟨_, rfl, fun Y AY => ets_nil, fun _ => ⟨_, rfl, fun Y AY => (ev_tup (ea_cons (ev_neg (nmF AY sc_ranking_2_c1 3 rfl rfl rfl)) (ea_cons (nmF AY sc_ranking_2_c1 2 rfl rfl rfl) ea_nil (.inl rfl) rfl) (.inl rfl) rfl) (.inl rfl) (le_line rfl))⟩⟩)) (by rw [List.filter_eq_self.mpr (fun _ _ => rfl)]))) hso_4 rfl) .lstO) hys_5 (Clear_of rfl) (fun Y AY => (tg_tp AY.calm (tgs_cons (tg AY sc_ranking_2_c2 1 rfl rfl) (tgs_cons (tg AY sc_ranking_2_c2 2 rfl rfl) tgs_nil rfl) rfl) rfl rfl)) (by decide) (fun _ => rfl) (fun z_6 _ => ⟨_, rfl, fun Y AY => ets_nil, fun _ => ⟨_, rfl, fun Y AY => (nmF AY sc_ranking_2_c2 2 rfl rfl rfl)⟩⟩)) (by rw [List.filter_eq_self.mpr (fun _ _ => rfl)]))) (⟨(congrArg (fun x : (List Int) => (D.lst (List.map D.int x))) (Option.some.inj H)), .refl⟩)
def m_ladder_2 (a_bidders : (List (Str × Int × Int))) (a_hours : Int) (a_floor : Int) : Option (List Str) :=
  ((m_check_bidders_2 a_bidders).bind fun r_1 => ((m_check_hours a_hours).bind fun r_2 => ((m_check_floor a_floor).bind fun r_3 => ((m_strengths_of_2 a_bidders).bind fun r_4 => ((some r_4).bind fun strengths_5 => ((m_ranking_2 a_bidders).bind fun r_6 => ((lcG r_6).bind fun ys_7 => ((lcM (fun z_8 : Int => ((idxG strengths_5 z_8).bind fun x_9 => some (decide (a_floor ≤ x_9)))) (fun z_8 : Int => some z_8) ys_7).bind fun zs_10 => ((some zs_10).bind fun places_11 => ((lcG (cutX places_11 none (some a_hours))).bind fun ys_12 => ((lcM (fun z_13 : Int => some true) (fun z_13 : Int => ((idxG a_bidders z_13).bind fun x_14 => some x_14.1)) ys_12).bind fun zs_15 => some zs_15)))))))))))
def R_ladder_2 : Rel := fun ds d k => ∃ (a_bidders : (List (Str × Int × Int))) (a_hours : Int) (a_floor : Int) (r : (List Str)), ds = [(D.tup (List.map (fun x : (Str × Int × Int) => (D.tup [(D.str x.1), (D.int x.2.1), (D.int x.2.2)])) a_bidders)), (D.int a_hours), (D.int a_floor)] ∧ m_ladder_2 a_bidders a_hours a_floor = some r ∧ d = (fun x : (List Str) => (D.tup (List.map D.str x))) r ∧ k = .cln
abbrev N_ladder_2 : List Str := ["bidders", "hours", "floor", "strengths", "places", "place"]
theorem fs_ladder_2 : FnScope N_ladder_2 ["bidders", "hours", "floor"] (defScope s_ladder) := ⟨rfl, rfl, rfl, by decide +kernel, rfl, by decide +kernel, by decide +kernel⟩
theorem sc_ladder_2 : Sc N_ladder_2 (defScope s_ladder) [0, 1, 2, 4] [3, 4] ["check_bidders", "check_hours", "check_floor", "strengths_of", "ranking", "tuple"] := ⟨fs_ladder_2.nd, by decide +kernel⟩
abbrev cs_ladder_2_c1 : Scope := compScope (s_ladder) [4, 1]
theorem sc_ladder_2_c1 : Sc N_ladder_2 cs_ladder_2_c1 [2, 3, 5] [5] [] := ⟨fs_ladder_2.nd, by decide +kernel⟩
abbrev cs_ladder_2_c2 : Scope := compScope (s_ladder) [5, 0, 1]
theorem sc_ladder_2_c2 : Sc N_ladder_2 cs_ladder_2_c2 [0, 5] [5] [] := ⟨fs_ladder_2.nd, by decide +kernel⟩
theorem b_ladder_2 {X : Cx} {Γ : Gd} (A : At X Γ N_ladder_2 (defScope s_ladder) 2) (g_tuple : Γ.mg "tuple" = none) (C_check_bidders_2 : Cal Γ "check_bidders" R_check_bidders_2 2 []) (C_check_floor : Cal Γ "check_floor" R_check_floor 1 []) (C_check_hours : Cal Γ "check_hours" R_check_hours 1 []) (C_ranking_2 : Cal Γ "ranking" R_ranking_2 2 []) (C_strengths_of_2 : Cal Γ "strengths_of" R_strengths_of_2 1 []) {ds : List D} {d : D} {k : Kd} (hR : R_ladder_2 ds d k) :
    SS X (env0 6 ds) (defBody s_ladder) { rt := fun d' k' => d' = d ∧ Fits k' k d, nx := fun _ => d = .non ∧ k = .cln } := by
  obtain ⟨a_bidders, a_hours, a_floor, r, rfl, H, rfl, rfl⟩ := hR
  unfold m_ladder_2 at H
  obtain ⟨r_1, hr_1, H⟩ := bindO H
  refine ss_ex (Cal.ev C_check_bidders_2 A sc_ladder_2 0 rfl (by decide) (ea_cons (nmB A sc_ladder_2 0 rfl rfl rfl) ea_nil (.inl rfl) rfl) (.inr (.inl rfl)) (.inr (.inl rfl)) rfl rfl ⟨a_bidders, r_1, rfl, hr_1, rfl, rfl⟩) rfl ?_
  obtain ⟨r_2, hr_2, H⟩ := bindO H
  refine ss_ex (Cal.ev C_check_hours A sc_ladder_2 1 rfl (by decide) (ea_cons (nmF A sc_ladder_2 1 rfl rfl rfl) ea_nil (.inl rfl) rfl) (.inl rfl) (.inr (.inl rfl)) rfl rfl ⟨a_hours, r_2, rfl, hr_2, rfl, rfl⟩) rfl ?_
  obtain ⟨r_3, hr_3, H⟩ := bindO H
  refine ss_ex (Cal.ev C_check_floor A sc_ladder_2 2 rfl (by decide) (ea_cons (nmF A sc_ladder_2 2 rfl rfl rfl) ea_nil (.inl rfl) rfl) (.inl rfl) (.inr (.inl rfl)) rfl rfl ⟨a_floor, r_3, rfl, hr_3, rfl, rfl⟩) rfl ?_
  obtain ⟨r_4, hr_4, H⟩ := bindO H
  obtain ⟨strengths_5, hstrengths_5, H⟩ := bindO H
  refine set_ A sc_ladder_2 3 rfl rfl (Ev.cv (Cal.ev C_strengths_of_2 A sc_ladder_2 3 rfl (by decide) (ea_cons (nmB A sc_ladder_2 0 rfl rfl rfl) ea_nil (.inl rfl) rfl) (.inr (.inl rfl)) (.inl rfl) rfl rfl ⟨a_bidders, r_4, rfl, hr_4, rfl, rfl⟩) (congrArg (fun x : (List Int) => (D.lst (List.map D.int x))) (Option.some.inj hstrengths_5))) .own rfl ?_
  obtain ⟨r_6, hr_6, H⟩ := bindO H
  obtain ⟨ys_7, hys_7, H⟩ := bindO H
  obtain ⟨zs_10, hzs_10, H⟩ := bindO H
  obtain ⟨places_11, hplaces_11, H⟩ := bindO H
  refine setLc_ A sc_ladder_2 4 rfl (by decide +kernel) (by decide +kernel) rfl (by decide +kernel) (Ec.cv (lcM_ (en := D.int) D.int [("place", 5)] .c A sc_ladder_2 (by decide +kernel) (iter_ (Cal.ev C_ranking_2 A sc_ladder_2 4 rfl (by decide) (ea_cons (nmB A sc_ladder_2 0 rfl rfl rfl) ea_nil (.inl rfl) rfl) (.inr (.inl rfl)) (.inl rfl) rfl rfl ⟨a_bidders, r_6, rfl, hr_6, rfl, rfl⟩) .lstO) hys_7 hzs_10 (Clear_of rfl) (fun Y AY => (tg AY sc_ladder_2_c1 5 rfl rfl)) (by decide) (fun _ => rfl) (fun z_8 _ => ⟨_, rfl, fun b H Y AY => by obtain ⟨x_9, hx_9, H⟩ := bindO H; obtain rfl := Option.some.inj H; exact (ets_one (et_cI (ixL_ (f := D.int) (nmO AY sc_ladder_2_c1 3 rfl rfl rfl) (nmF AY sc_ladder_2_c1 5 rfl rfl rfl) hx_9 (fun _ _ => rfl)) (nmF AY sc_ladder_2_c1 2 rfl rfl rfl) .ge)), fun y _ H => by obtain rfl := Option.some.inj H; exact ⟨_, rfl, fun Y AY => (nmF AY sc_ladder_2_c1 5 rfl rfl rfl)⟩⟩)) (congrArg (fun x : (List Int) => (D.lst (List.map D.int x))) (Option.some.inj hplaces_11))) .own ?_
  obtain ⟨ys_12, hys_12, H⟩ := bindO H
  obtain ⟨zs_15, hzs_15, H⟩ := bindO H
  exact ss_ret (tuple_ (bn A sc_ladder_2 5 rfl g_tuple bt_tuple) (Ec.ev (lcM_ (en := D.int) D.str [("place", 5)] .c A sc_ladder_2 (by decide +kernel) (iter_ (slL_ (nmO A sc_ladder_2 4 rfl rfl rfl) eo_none (eo_some (nmF A sc_ladder_2 1 rfl rfl rfl))) .lstO) hys_12 hzs_15 (Clear_of rfl) (fun Y AY => (tg AY sc_ladder_2_c2 5 rfl rfl)) (by decide) (fun _ => rfl) (fun z_13 _ => ⟨_, rfl, fun b H Y AY => by obtain rfl := Option.some.inj H; exact ets_nil, fun y _ H => by obtain ⟨x_14, hx_14, H⟩ := bindO H; obtain rfl := Option.some.inj H; exact ⟨_, rfl, fun Y AY => (ix_ (ixT_ (f := (fun x : (Str × Int × Int) => (D.tup [(D.str x.1), (D.int x.2.1), (D.int x.2.2)]))) (nmB AY sc_ladder_2_c2 0 rfl rfl rfl) (nmF AY sc_ladder_2_c2 5 rfl rfl rfl) hx_14 (fun _ _ => rfl)) ev_int (.tup rfl) (fun _ _ => rfl))⟩⟩))) .lst rfl) (⟨(congrArg (fun x : (List Str) => (D.tup (List.map D.str x))) (Option.some.inj H)), .refl⟩)
def m_law_one_half (a_script : (List Int)) : Option Bool :=
  ((m_law_cell a_script (1 : Int)).bind fun r_1 => ((m_law_pool r_1 (6 : Int)).bind fun r_2 => ((some r_2).bind fun rest_3 => ((m_law_cell a_script (0 : Int)).bind fun r_4 => ((m_law_pool r_4 (35 : Int)).bind fun r_5 => ((m_law_part rest_3 (0 : Int) (1 : Int) (7 : Int)).bind fun r_6 => ((m_law_bidders r_5 (0 : Int) r_6).bind fun r_7 => ((some r_7).bind fun crew_8 => ((m_law_part rest_3 (0 : Int) (7 : Int) (3 : Int)).bind fun r_9 => ((some ((1 : Int) + r_9)).bind fun slots_10 => ((m_law_sill rest_3 (1 : Int) crew_8).bind fun r_11 => ((some r_11).bind fun sill_12 => ((m_law_ladder crew_8 slots_10 sill_12).bind fun r_13 => ((some r_13).bind fun wanted_14 => ((some crew_8).bind fun given_15 => ((m_ladder given_15 slots_10 sill_12).bind fun r_16 => ((m_law_same 8 (D.tup (List.map D.str r_16)) (D.tup (List.map D.str wanted_14))).bind fun r_17 => ((if (!r_17) = true then some true else ((m_law_same 8 (D.lst (List.map (fun x : (Str × Int × Int) => (D.tup [(D.str x.1), (D.int x.2.1), (D.int x.2.2)])) given_15)) (D.lst (List.map (fun x : (Str × Int × Int) => (D.tup [(D.str x.1), (D.int x.2.1), (D.int x.2.2)])) crew_8))).bind fun r_18 => some (!r_18))).bind fun q_19 => (if q_19 = true then some false else ((m_ladder_2 crew_8 slots_10 (0 : Int)).bind fun r_20 => ((m_law_ladder crew_8 slots_10 (0 : Int)).bind fun r_21 => ((m_law_same 8 (D.tup (List.map D.str r_20)) (D.tup (List.map D.str r_21))).bind fun r_22 => (if (!r_22) = true then some false else ((m_ladder given_15 (1 : Int) sill_12).bind fun r_23 => ((m_law_ladder crew_8 (1 : Int) sill_12).bind fun r_24 => ((m_law_same 8 (D.tup (List.map D.str r_23)) (D.tup (List.map D.str r_24))).bind fun r_25 => (if (!r_25) = true then some false else ((m_ladder given_15 (1 : Int) (0 : Int)).bind fun r_26 => ((m_law_ladder crew_8 (1 : Int) (0 : Int)).bind fun r_27 => ((m_law_same 8 (D.tup (List.map D.str r_26)) (D.tup (List.map D.str r_27))).bind fun r_28 => (if (!r_28) = true then some false else ((m_ladder (given_15.reverse) slots_10 sill_12).bind fun r_29 => ((m_law_ladder (crew_8.reverse) slots_10 sill_12).bind fun r_30 => ((m_law_same 8 (D.tup (List.map D.str r_29)) (D.tup (List.map D.str r_30))).bind fun r_31 => (if (!r_31) = true then some false else ((m_ladder crew_8 slots_10 sill_12).bind fun r_32 => ((m_law_same 8 (D.tup (List.map D.str r_32)) (D.tup (List.map D.str wanted_14))).bind fun r_33 => some r_33)))))))))))))))))))))))))))))))))))))
def R_law_one_half : Rel := fun ds d k => ∃ (a_script : (List Int)) (r : Bool), ds = [(D.scr a_script)] ∧ m_law_one_half a_script = some r ∧ d = D.bl r ∧ k = .cln
abbrev N_law_one_half : List Str := ["script", "rest", "crew", "slots", "sill", "wanted", "given"]
theorem fs_law_one_half : FnScope N_law_one_half ["script"] (defScope s_law_one_half) := ⟨rfl, rfl, rfl, by decide +kernel, rfl, by decide +kernel, by decide +kernel⟩
theorem sc_law_one_half : Sc N_law_one_half (defScope s_law_one_half) [0, 1, 2, 3, 4, 5, 6] [1, 2, 3, 4, 5, 6] ["_law_cell", "_law_pool", "_law_part", "_law_bidders", "_law_sill", "_law_ladder", "list", "ladder", "_law_same", "tuple"] := ⟨fs_law_one_half.nd, by decide +kernel⟩
theorem b_law_one_half {X : Cx} {Γ : Gd} (A : At X Γ N_law_one_half (defScope s_law_one_half) 10) (g_list : Γ.mg "list" = none) (g_tuple : Γ.mg "tuple" = none) (C_ladder_2_k1_hours : CalK Γ "ladder" R_ladder_2 3 1 ["hours"] (fun a b => pick a [] [(D.int (0 : Int))] b [.p 0, .k 0, .m 0])) (C_ladder_k0_bidders : CalK Γ "ladder" R_ladder 3 0 ["bidders"] (fun a b => pick a [] [(D.int (1 : Int)), (D.int (0 : Int))] b [.k 0, .m 0, .m 1])) (C_ladder_k1_floor : CalK Γ "ladder" R_ladder 3 1 ["floor"] (fun a b => pick a [] [(D.int (1 : Int))] b [.p 0, .m 0, .k 0])) (C_ladder_k1_hours_floor : CalK Γ "ladder" R_ladder 3 1 ["hours", "floor"] (fun a b => pick a [] [] b [.p 0, .k 0, .k 1])) (C_law_bidders : Cal Γ "_law_bidders" R_law_bidders 3 []) (C_law_cell : Cal Γ "_law_cell" R_law_cell 1 []) (C_law_ladder : Cal Γ "_law_ladder" R_law_ladder 1 []) (C_law_part : Cal Γ "_law_part" R_law_part 1 []) (C_law_pool : Cal Γ "_law_pool" R_law_pool 2 []) (C_law_same : Cal Γ "_law_same" (R_law_same 8) (2 + 8) []) (C_law_sill : Cal Γ "_law_sill" R_law_sill 2 []) {ds : List D} {d : D} {k : Kd} (hR : R_law_one_half ds d k) :
    SS X (env0 7 ds) (defBody s_law_one_half) { rt := fun d' k' => d' = d ∧ Fits k' k d, nx := fun _ => d = .non ∧ k = .cln } := by
  obtain ⟨a_script, r, rfl, H, rfl, rfl⟩ := hR
  unfold m_law_one_half at H
  obtain ⟨r_1, hr_1, H⟩ := bindO H
  obtain ⟨r_2, hr_2, H⟩ := bindO H
  obtain ⟨rest_3, hrest_3, H⟩ := bindO H
  refine set_ A sc_law_one_half 1 rfl rfl (Ev.cv (Cal.ev C_law_pool A sc_law_one_half 1 rfl (by decide) (ea_cons (Cal.ev C_law_cell A sc_law_one_half 0 rfl (by decide) (ea_cons (nmB A sc_law_one_half 0 rfl rfl rfl) (ea_cons ev_int ea_nil (.inl rfl) rfl) (.inl rfl) rfl) (.inr (.inl rfl)) (.inr (.inl rfl)) rfl rfl ⟨a_script, (1 : Int), r_1, rfl, hr_1, rfl, rfl⟩) (ea_cons ev_int ea_nil (.inl rfl) rfl) (.inl rfl) rfl) (.inl rfl) (.inl rfl) rfl rfl ⟨r_1, (6 : Int), r_2, rfl, hr_2, rfl, rfl⟩) (congrArg (fun x : (List Int) => (D.lst (List.map D.int x))) (Option.some.inj hrest_3))) .own rfl ?_
  obtain ⟨r_4, hr_4, H⟩ := bindO H
  obtain ⟨r_5, hr_5, H⟩ := bindO H
  obtain ⟨r_6, hr_6, H⟩ := bindO H
  obtain ⟨r_7, hr_7, H⟩ := bindO H
  obtain ⟨crew_8, hcrew_8, H⟩ := bindO H
  refine set_ A sc_law_one_half 2 rfl rfl (Ev.cv (Cal.ev C_law_bidders A sc_law_one_half 3 rfl (by decide) (ea_cons (Cal.ev C_law_pool A sc_law_one_half 1 rfl (by decide) (ea_cons (Cal.ev C_law_cell A sc_law_one_half 0 rfl (by decide) (ea_cons (nmB A sc_law_one_half 0 rfl rfl rfl) (ea_cons ev_int ea_nil (.inl rfl) rfl) (.inl rfl) rfl) (.inr (.inl rfl)) (.inr (.inl rfl)) rfl rfl ⟨a_script, (0 : Int), r_4, rfl, hr_4, rfl, rfl⟩) (ea_cons ev_int ea_nil (.inl rfl) rfl) (.inl rfl) rfl) (.inl rfl) (.inl rfl) rfl rfl ⟨r_4, (35 : Int), r_5, rfl, hr_5, rfl, rfl⟩) (ea_cons ev_int (ea_cons (Cal.ev C_law_part A sc_law_one_half 2 rfl (by decide) (ea_cons (nmO A sc_law_one_half 1 rfl rfl rfl) (ea_cons ev_int (ea_cons ev_int (ea_cons ev_int ea_nil (.inl rfl) rfl) (.inl rfl) rfl) (.inl rfl) rfl) (.inl rfl) rfl) (.inr (.inr rfl)) (.inr (.inl rfl)) rfl rfl ⟨rest_3, (0 : Int), (1 : Int), (7 : Int), r_6, rfl, hr_6, rfl, rfl⟩) ea_nil (.inl rfl) rfl) (.inl rfl) rfl) (.inl rfl) rfl) (.inl rfl) (.inl rfl) rfl rfl ⟨r_5, (0 : Int), r_6, r_7, rfl, hr_7, rfl, rfl⟩) (congrArg (fun x : (List (Str × Int × Int)) => (D.lst (List.map (fun x : (Str × Int × Int) => (D.tup [(D.str x.1), (D.int x.2.1), (D.int x.2.2)])) x))) (Option.some.inj hcrew_8))) .own rfl ?_
  obtain ⟨r_9, hr_9, H⟩ := bindO H
  obtain ⟨slots_10, hslots_10, H⟩ := bindO H
  refine set_ A sc_law_one_half 3 rfl rfl (Ev.cv (ev_add ev_int (Cal.ev C_law_part A sc_law_one_half 2 rfl (by decide) (ea_cons (nmO A sc_law_one_half 1 rfl rfl rfl) (ea_cons ev_int (ea_cons ev_int (ea_cons ev_int ea_nil (.inl rfl) rfl) (.inl rfl) rfl) (.inl rfl) rfl) (.inl rfl) rfl) (.inr (.inr rfl)) (.inr (.inl rfl)) rfl rfl ⟨rest_3, (0 : Int), (7 : Int), (3 : Int), r_9, rfl, hr_9, rfl, rfl⟩)) (congrArg D.int (Option.some.inj hslots_10))) .int rfl ?_
  obtain ⟨r_11, hr_11, H⟩ := bindO H
  obtain ⟨sill_12, hsill_12, H⟩ := bindO H
  refine set_ A sc_law_one_half 4 rfl rfl (Ev.cv (Cal.ev C_law_sill A sc_law_one_half 4 rfl (by decide) (ea_cons (nmO A sc_law_one_half 1 rfl rfl rfl) (ea_cons ev_int (ea_cons (nmO A sc_law_one_half 2 rfl rfl rfl) ea_nil (.inl rfl) rfl) (.inr (.inr rfl)) rfl) (.inr (.inr rfl)) rfl) (.inr (.inr rfl)) (.inr (.inl rfl)) rfl rfl ⟨rest_3, (1 : Int), crew_8, r_11, rfl, hr_11, rfl, rfl⟩) (congrArg D.int (Option.some.inj hsill_12))) .int rfl ?_
  obtain ⟨r_13, hr_13, H⟩ := bindO H
  obtain ⟨wanted_14, hwanted_14, H⟩ := bindO H
  refine set_ A sc_law_one_half 5 rfl rfl (Ev.cv (Cal.ev C_law_ladder A sc_law_one_half 5 rfl (by decide) (ea_cons (nmO A sc_law_one_half 2 rfl rfl rfl) (ea_cons (nmF A sc_law_one_half 3 rfl rfl rfl) (ea_cons (nmF A sc_law_one_half 4 rfl rfl rfl) ea_nil (.inl rfl) rfl) (.inl rfl) rfl) (.inl rfl) rfl) (.inr (.inr rfl)) (.inr (.inl rfl)) rfl rfl ⟨crew_8, slots_10, sill_12, r_13, rfl, hr_13, rfl, rfl⟩) (congrArg (fun x : (List Str) => (D.tup (List.map D.str x))) (Option.some.inj hwanted_14))) .cln rfl ?_
  obtain ⟨given_15, hgiven_15, H⟩ := bindO H
  refine set_ A sc_law_one_half 6 rfl rfl (Ev.cv (list_ (bn A sc_law_one_half 6 rfl g_list bt_list) (nmO A sc_law_one_half 2 rfl rfl rfl) .lst rfl) (congrArg (fun x : (List (Str × Int × Int)) => (D.lst (List.map (fun x : (Str × Int × Int) => (D.tup [(D.str x.1), (D.int x.2.1), (D.int x.2.2)])) x))) (Option.some.inj hgiven_15))) .own rfl ?_
  obtain ⟨r_16, hr_16, H⟩ := bindO H
  obtain ⟨r_17, hr_17, H⟩ := bindO H
  obtain ⟨q_19, hq_19, H⟩ := bindO H
  refine ss_if (Ew.et (ew_orM (et_not (Ev.et (Cal.ev C_law_same A sc_law_one_half 8 rfl (by decide) (ea_consH (CalK.ev C_ladder_k1_hours_floor A sc_law_one_half 7 rfl (by decide) (ea_cons (nmO A sc_law_one_half 6 rfl rfl rfl) ea_nil (.inl rfl) rfl) (.inr (.inr rfl)) (ek_cons (nmF A sc_law_one_half 3 rfl rfl rfl) (ek_cons (nmF A sc_law_one_half 4 rfl rfl rfl) ek_nil (.inl rfl)) (.inl rfl)) (.inl rfl) (.inr (.inl rfl)) rfl rfl rfl rfl rfl rfl ⟨given_15, slots_10, sill_12, r_16, rfl, hr_16, rfl, rfl⟩) (ea_consH (nmF A sc_law_one_half 5 rfl rfl rfl) ea_nil (.inl rfl) rfl) (.inl rfl) rfl) (.inl rfl) (.inr (.inl rfl)) rfl rfl ⟨(D.tup (List.map D.str r_16)), (D.tup (List.map D.str wanted_14)), r_17, rfl, hr_17, rfl, rfl⟩) fun _ => rfl)) hq_19 fun H => by obtain ⟨r_18, hr_18, H⟩ := bindO H; obtain rfl := Option.some.inj H; exact (ew_or1 (et_not (Ev.et (Cal.ev C_law_same A sc_law_one_half 8 rfl (by decide) (ea_consH (nmO A sc_law_one_half 6 rfl rfl rfl) (ea_consH (nmO A sc_law_one_half 2 rfl rfl rfl) ea_nil (.inl rfl) rfl) (.inr (.inr rfl)) rfl) (.inr (.inr rfl)) (.inr (.inl rfl)) rfl rfl ⟨(D.lst (List.map (fun x : (Str × Int × Int) => (D.tup [(D.str x.1), (D.int x.2.1), (D.int x.2.2)])) given_15)), (D.lst (List.map (fun x : (Str × Int × Int) => (D.tup [(D.str x.1), (D.int x.2.1), (D.int x.2.2)])) crew_8)), r_18, rfl, hr_18, rfl, rfl⟩) fun _ => rfl))))) (fun hc => ?_) (fun hc => ?_)
  · replace H := ifT H hc
    exact ss_ret ev_bl (⟨(congrArg D.bl (Option.some.inj H)), .bl⟩)
  · replace H := ifF H hc
    refine ss_nil ?_
    show SS X _ _ _
    obtain ⟨r_20, hr_20, H⟩ := bindO H
    obtain ⟨r_21, hr_21, H⟩ := bindO H
    obtain ⟨r_22, hr_22, H⟩ := bindO H
    refine ss_if (et_not (Ev.et (Cal.ev C_law_same A sc_law_one_half 8 rfl (by decide) (ea_consH (CalK.ev C_ladder_2_k1_hours A sc_law_one_half 7 rfl (by decide) (ea_cons (tuple_ (bn A sc_law_one_half 9 rfl g_tuple bt_tuple) (nmO A sc_law_one_half 2 rfl rfl rfl) .lst rfl) ea_nil (.inl rfl) rfl) (.inl rfl) (ek_cons (nmF A sc_law_one_half 3 rfl rfl rfl) ek_nil (.inl rfl)) (.inl rfl) (.inr (.inl rfl)) rfl rfl rfl rfl rfl rfl ⟨crew_8, slots_10, (0 : Int), r_20, rfl, hr_20, rfl, rfl⟩) (ea_consH (Cal.ev C_law_ladder A sc_law_one_half 5 rfl (by decide) (ea_cons (nmO A sc_law_one_half 2 rfl rfl rfl) (ea_cons (nmF A sc_law_one_half 3 rfl rfl rfl) (ea_cons ev_int ea_nil (.inl rfl) rfl) (.inl rfl) rfl) (.inl rfl) rfl) (.inr (.inr rfl)) (.inr (.inl rfl)) rfl rfl ⟨crew_8, slots_10, (0 : Int), r_21, rfl, hr_21, rfl, rfl⟩) ea_nil (.inl rfl) rfl) (.inl rfl) rfl) (.inl rfl) (.inr (.inl rfl)) rfl rfl ⟨(D.tup (List.map D.str r_20)), (D.tup (List.map D.str r_21)), r_22, rfl, hr_22, rfl, rfl⟩) fun _ => rfl)) (fun hc => ?_) (fun hc => ?_)
    · replace H := ifT H hc
      exact ss_ret ev_bl (⟨(congrArg D.bl (Option.some.inj H)), .bl⟩)
    · replace H := ifF H hc
      refine ss_nil ?_
      show SS X _ _ _
      obtain ⟨r_23, hr_23, H⟩ := bindO H
      obtain ⟨r_24, hr_24, H⟩ := bindO H
      obtain ⟨r_25, hr_25, H⟩ := bindO H
      refine ss_if (et_not (Ev.et (Cal.ev C_law_same A sc_law_one_half 8 rfl (by decide) (ea_consH (CalK.ev C_ladder_k1_floor A sc_law_one_half 7 rfl (by decide) (ea_cons (nmO A sc_law_one_half 6 rfl rfl rfl) ea_nil (.inl rfl) rfl) (.inr (.inr rfl)) (ek_cons (nmF A sc_law_one_half 4 rfl rfl rfl) ek_nil (.inl rfl)) (.inl rfl) (.inr (.inl rfl)) rfl rfl rfl rfl rfl rfl ⟨given_15, (1 : Int), sill_12, r_23, rfl, hr_23, rfl, rfl⟩) (ea_consH (Cal.ev C_law_ladder A sc_law_one_half 5 rfl (by decide) (ea_cons (nmO A sc_law_one_half 2 rfl rfl rfl) (ea_cons ev_int (ea_cons (nmF A sc_law_one_half 4 rfl rfl rfl) ea_nil (.inl rfl) rfl) (.inl rfl) rfl) (.inl rfl) rfl) (.inr (.inr rfl)) (.inr (.inl rfl)) rfl rfl ⟨crew_8, (1 : Int), sill_12, r_24, rfl, hr_24, rfl, rfl⟩) ea_nil (.inl rfl) rfl) (.inl rfl) rfl) (.inl rfl) (.inr (.inl rfl)) rfl rfl ⟨(D.tup (List.map D.str r_23)), (D.tup (List.map D.str r_24)), r_25, rfl, hr_25, rfl, rfl⟩) fun _ => rfl)) (fun hc => ?_) (fun hc => ?_)
      · replace H := ifT H hc
        exact ss_ret ev_bl (⟨(congrArg D.bl (Option.some.inj H)), .bl⟩)
      · replace H := ifF H hc
        refine ss_nil ?_
        show SS X _ _ _
        obtain ⟨r_26, hr_26, H⟩ := bindO H
        obtain ⟨r_27, hr_27, H⟩ := bindO H
        obtain ⟨r_28, hr_28, H⟩ := bindO H
        refine ss_if (et_not (Ev.et (Cal.ev C_law_same A sc_law_one_half 8 rfl (by decide) (ea_consH (CalK.ev0 C_ladder_k0_bidders A sc_law_one_half 7 rfl (by decide) (ek_cons (nmO A sc_law_one_half 6 rfl rfl rfl) ek_nil (.inl rfl)) (.inr (.inr rfl)) (.inr (.inl rfl)) rfl rfl rfl rfl ⟨given_15, (1 : Int), (0 : Int), r_26, rfl, hr_26, rfl, rfl⟩) (ea_consH (Cal.ev C_law_ladder A sc_law_one_half 5 rfl (by decide) (ea_cons (nmO A sc_law_one_half 2 rfl rfl rfl) (ea_cons ev_int (ea_cons ev_int ea_nil (.inl rfl) rfl) (.inl rfl) rfl) (.inl rfl) rfl) (.inr (.inr rfl)) (.inr (.inl rfl)) rfl rfl ⟨crew_8, (1 : Int), (0 : Int), r_27, rfl, hr_27, rfl, rfl⟩) ea_nil (.inl rfl) rfl) (.inl rfl) rfl) (.inl rfl) (.inr (.inl rfl)) rfl rfl ⟨(D.tup (List.map D.str r_26)), (D.tup (List.map D.str r_27)), r_28, rfl, hr_28, rfl, rfl⟩) fun _ => rfl)) (fun hc => ?_) (fun hc => ?_)
        · replace H := ifT H hc
          exact ss_ret ev_bl (⟨(congrArg D.bl (Option.some.inj H)), .bl⟩)
        · replace H := ifF H hc
          refine ss_nil ?_
          show SS X _ _ _
          refine rev_ (en := (fun x : (Str × Int × Int) => (D.tup [(D.str x.1), (D.int x.2.1), (D.int x.2.2)]))) A sc_law_one_half 6 rfl rfl rfl rfl rfl rfl ?_
          obtain ⟨r_29, hr_29, H⟩ := bindO H
          obtain ⟨r_30, hr_30, H⟩ := bindO H
          obtain ⟨r_31, hr_31, H⟩ := bindO H
          refine ss_if (et_not (Ev.et (Cal.ev C_law_same A sc_law_one_half 8 rfl (by decide) (ea_consH (CalK.ev C_ladder_k1_hours_floor A sc_law_one_half 7 rfl (by decide) (ea_cons (nmO A sc_law_one_half 6 rfl rfl rfl) ea_nil (.inl rfl) rfl) (.inr (.inr rfl)) (ek_cons (nmF A sc_law_one_half 3 rfl rfl rfl) (ek_cons (nmF A sc_law_one_half 4 rfl rfl rfl) ek_nil (.inl rfl)) (.inl rfl)) (.inl rfl) (.inr (.inl rfl)) rfl rfl rfl rfl rfl rfl ⟨(given_15.reverse), slots_10, sill_12, r_29, rfl, hr_29, rfl, rfl⟩) (ea_consH (Cal.ev C_law_ladder A sc_law_one_half 5 rfl (by decide) (ea_cons (revL_ (nmO A sc_law_one_half 2 rfl rfl rfl)) (ea_cons (nmF A sc_law_one_half 3 rfl rfl rfl) (ea_cons (nmF A sc_law_one_half 4 rfl rfl rfl) ea_nil (.inl rfl) rfl) (.inl rfl) rfl) (.inl rfl) rfl) (.inl rfl) (.inr (.inl rfl)) rfl rfl ⟨(crew_8.reverse), slots_10, sill_12, r_30, rfl, hr_30, rfl, rfl⟩) ea_nil (.inl rfl) rfl) (.inl rfl) rfl) (.inl rfl) (.inr (.inl rfl)) rfl rfl ⟨(D.tup (List.map D.str r_29)), (D.tup (List.map D.str r_30)), r_31, rfl, hr_31, rfl, rfl⟩) fun _ => rfl)) (fun hc => ?_) (fun hc => ?_)
          · replace H := ifT H hc
            exact ss_ret ev_bl (⟨(congrArg D.bl (Option.some.inj H)), .bl⟩)
          · replace H := ifF H hc
            refine ss_nil ?_
            show SS X _ _ _
            obtain ⟨r_32, hr_32, H⟩ := bindO H
            obtain ⟨r_33, hr_33, H⟩ := bindO H
            exact ss_ret (Cal.ev C_law_same A sc_law_one_half 8 rfl (by decide) (ea_consH (CalK.ev C_ladder_k1_hours_floor A sc_law_one_half 7 rfl (by decide) (ea_cons (list_ (bn A sc_law_one_half 6 rfl g_list bt_list) (nmO A sc_law_one_half 2 rfl rfl rfl) .lst rfl) ea_nil (.inl rfl) rfl) (.inl rfl) (ek_cons (nmF A sc_law_one_half 3 rfl rfl rfl) (ek_cons (nmF A sc_law_one_half 4 rfl rfl rfl) ek_nil (.inl rfl)) (.inl rfl)) (.inl rfl) (.inr (.inl rfl)) rfl rfl rfl rfl rfl rfl ⟨crew_8, slots_10, sill_12, r_32, rfl, hr_32, rfl, rfl⟩) (ea_consH (nmF A sc_law_one_half 5 rfl rfl rfl) ea_nil (.inl rfl) rfl) (.inl rfl) rfl) (.inl rfl) (.inr (.inl rfl)) rfl rfl ⟨(D.tup (List.map D.str r_32)), (D.tup (List.map D.str wanted_14)), r_33, rfl, hr_33, rfl, rfl⟩) (⟨(congrArg D.bl (Option.some.inj H)), .bl⟩)
def m_law_wished (a_pool : (List Int)) (a_spot : Int) (a_crew : (List (Str × Int × Int))) (a_number : Int) : Option (List Str) :=
  ((lcG a_crew).bind fun ys_1 => ((some (ys_1.map (fun z_2 : (Str × Int × Int) => z_2.1))).bind fun left_3 => ((some ([] : (List Str))).bind fun wished_4 => ((rng1G a_number).bind fun r_5 => ((List.foldlM (fun (s_6 : ((List Str) × (List Str))) (z_7 : Int) => ((eqG (D.lst (List.map D.str s_6.1)) (D.lst (List.map D.int []))).bind fun q_9 => ((if (!q_9) = true then ((m_law_part a_pool (a_spot + z_7) (1 : Int) (60 : Int)).bind fun r_11 => ((modG r_11 (s_6.1.length : Int)).bind fun n_12 => ((popG s_6.1 n_12).bind fun pp_13 => ((appG s_6.2 pp_13.1).bind fun wished_14 => some (pp_13.2, wished_14))))) else some (s_6.1, s_6.2) : Option ((List Str) × (List Str))).bind fun s_10 => some (s_10.1, s_10.2)))) (left_3, wished_4) r_5).bind fun s_8 => some s_8.2)))))
def R_law_wished : Rel := fun ds d k => ∃ (a_pool : (List Int)) (a_spot : Int) (a_crew : (List (Str × Int × Int))) (a_number : Int) (r : (List Str)), ds = [(D.lst (List.map D.int a_pool)), (D.int a_spot), (D.lst (List.map (fun x : (Str × Int × Int) => (D.tup [(D.str x.1), (D.int x.2.1), (D.int x.2.2)])) a_crew)), (D.int a_number)] ∧ m_law_wished a_pool a_spot a_crew a_number = some r ∧ d = (fun x : (List Str) => (D.tup (List.map D.str x))) r ∧ k = .cln
abbrev N_law_wished : List Str := ["pool", "spot", "crew", "number", "left", "name", "weight", "bid", "wished", "k"]
theorem fs_law_wished : FnScope N_law_wished ["pool", "spot", "crew", "number"] (defScope s_law_wished) := ⟨rfl, rfl, rfl, by decide +kernel, rfl, by decide +kernel, by decide +kernel⟩
theorem sc_law_wished : Sc N_law_wished (defScope s_law_wished) [0, 1, 2, 3, 4, 8, 9] [4, 8, 9] ["range", "_law_part", "int", "len", "tuple"] := ⟨fs_law_wished.nd, by decide +kernel⟩
abbrev cs_law_wished_c1 : Scope := compScope (s_law_wished) [0, 1]
theorem sc_law_wished_c1 : Sc N_law_wished cs_law_wished_c1 [5] [5, 6, 7] [] := ⟨fs_law_wished.nd, by decide +kernel⟩
theorem b_law_wished {X : Cx} {Γ : Gd} (A : At X Γ N_law_wished (defScope s_law_wished) 1) (g_int : Γ.mg "int" = none) (g_len : Γ.mg "len" = none) (g_range : Γ.mg "range" = none) (g_tuple : Γ.mg "tuple" = none) (C_law_part : Cal Γ "_law_part" R_law_part 1 []) {ds : List D} {d : D} {k : Kd} (hR : R_law_wished ds d k) :
    SS X (env0 10 ds) (defBody s_law_wished) { rt := fun d' k' => d' = d ∧ Fits k' k d, nx := fun _ => d = .non ∧ k = .cln } := by
  obtain ⟨a_pool, a_spot, a_crew, a_number, r, rfl, H, rfl, rfl⟩ := hR
  unfold m_law_wished at H
  obtain ⟨ys_1, hys_1, H⟩ := bindO H
  obtain ⟨left_3, hleft_3, H⟩ := bindO H
  refine setLc_ A sc_law_wished 4 rfl (by decide +kernel) (by decide +kernel) rfl (by decide +kernel) (Ec.cv (Ec.cv (lcP_ (en := (fun x : (Str × Int × Int) => (D.tup [(D.str x.1), (D.int x.2.1), (D.int x.2.2)]))) D.str [("name", 5), ("weight", 6), ("bid", 7)] (fun z_2 : (Str × Int × Int) => true) (fun z_2 : (Str × Int × Int) => z_2.1) .c A sc_law_wished (by decide +kernel) (iter_ (nmB A sc_law_wished 2 rfl rfl rfl) .lstB) hys_1 (Clear_of rfl) (fun Y AY => (tg_tp AY.calm (tgs_cons (tg AY sc_law_wished_c1 5 rfl rfl) (tgs_cons (tg AY sc_law_wished_c1 6 rfl rfl) (tgs_cons (tg AY sc_law_wished_c1 7 rfl rfl) tgs_nil rfl) rfl) rfl) rfl rfl)) (by decide) (fun _ => rfl) (fun z_2 _ => ⟨_, rfl, fun Y AY => ets_nil, fun _ => ⟨_, rfl, fun Y AY => (nmF AY sc_law_wished_c1 5 rfl rfl rfl)⟩⟩)) (by rw [List.filter_eq_self.mpr (fun _ _ => rfl)])) (congrArg (fun x : (List Str) => (D.lst (List.map D.str x))) (Option.some.inj hleft_3))) .own ?_
  obtain ⟨wished_4, hwished_4, H⟩ := bindO H
  refine set_ A sc_law_wished 8 rfl rfl (Ev.cv (ev_list ea_nil (.inl rfl) (le_line rfl)) (congrArg (fun x : (List Str) => (D.lst (List.map D.str x))) (Option.some.inj hwished_4))) .own rfl ?_
  obtain ⟨r_5, hr_5, H⟩ := bindO H
  obtain ⟨s_8, hs_8, H⟩ := bindO H
  refine forM_ (en := D.int) (fun s_6 : ((List Str) × (List Str)) => [some (.bor (D.lst (List.map D.int a_pool))), some (.frz (D.int a_spot)), some (.bor (D.lst (List.map (fun x : (Str × Int × Int) => (D.tup [(D.str x.1), (D.int x.2.1), (D.int x.2.2)])) a_crew))), some (.frz (D.int a_number)), some (.own (D.lst (List.map D.str s_6.1))), none, none, none, some (.own (D.lst (List.map D.str s_6.2))), none]) A (rng1_ (glo A sc_law_wished 0 rfl) (by rw [A.eM]; exact g_range) (nmF A sc_law_wished 3 rfl rfl rfl) hr_5 rfl) (tg A sc_law_wished 9 rfl rfl) (fun _ => rfl) hs_8 ?_ ?_ ?_
  · exact (wkr (wkr (wkr (wkr (wkr (wkn (wkn (wkn (wkr (wkn wk0))))))))))
  · intro s_6 z_7 s' hx H
    refine ⟨_, rfl, ?_⟩
    obtain ⟨q_9, hq_9, H⟩ := bindO H
    obtain ⟨s_10, hs_10, H⟩ := bindO H
    refine ss_ifM [some (.bor (D.lst (List.map D.int a_pool))), some (.frz (D.int a_spot)), some (.bor (D.lst (List.map (fun x : (Str × Int × Int) => (D.tup [(D.str x.1), (D.int x.2.1), (D.int x.2.2)])) a_crew))), some (.frz (D.int a_number)), some (.own (D.lst (List.map D.str s_10.1))), none, none, none, some (.own (D.lst (List.map D.str s_10.2))), some (.frz (D.int z_7))] (et_neG A.room.units (nmO A sc_law_wished 4 rfl rfl rfl) (ev_list ea_nil (.inl rfl) (le_line rfl)) hq_9) ?_ (fun hc => ?_) (fun hc => ?_)
    · skip
      obtain rfl := Option.some.inj H
      refine ss_nil ?_
      exact (wkr (wkr (wkr (wkr (wkr (wkn (wkn (wkn (wkr (wkn wk0))))))))))
    · replace H := ifT hs_10 hc
      obtain ⟨r_11, hr_11, H⟩ := bindO H
      obtain ⟨n_12, hn_12, H⟩ := bindO H
      obtain ⟨pp_13, hpp_13, H⟩ := bindO H
      obtain ⟨wished_14, hwished_14, H⟩ := bindO H
      refine appE_ (en := D.str) (x := pp_13.1) A sc_law_wished 8 rfl rfl rfl (popI_ (f := D.str) A sc_law_wished 4 rfl rfl rfl (mod_ (int_ (bn A sc_law_wished 2 rfl g_int bt_int) (Cal.ev C_law_part A sc_law_wished 1 rfl (by decide) (ea_cons (nmB A sc_law_wished 0 rfl rfl rfl) (ea_cons (ev_add (nmF A sc_law_wished 1 rfl rfl rfl) (nmF A sc_law_wished 9 rfl rfl rfl)) (ea_cons ev_int (ea_cons ev_int ea_nil (.inl rfl) rfl) (.inl rfl) rfl) (.inl rfl) rfl) (.inl rfl) rfl) (.inr (.inl rfl)) (.inr (.inl rfl)) rfl rfl ⟨a_pool, (a_spot + z_7), (1 : Int), (60 : Int), r_11, rfl, hr_11, rfl, rfl⟩) .int rfl) (lenL_ (bn A sc_law_wished 3 rfl g_len bt_len) (nmO A sc_law_wished 4 rfl rfl rfl) rfl) hn_12) hpp_13 rfl ⟨rfl, rfl, rfl⟩) rfl hwished_14 ⟨rfl, rfl, rfl⟩ rfl rfl ⟨_, rfl⟩ ?_
      obtain rfl := Option.some.inj H
      refine ss_nil ?_
      exact (wkr (wkr (wkr (wkr (wkr (wkn (wkn (wkn (wkr (wkr wk0))))))))))
    · replace H := ifF hs_10 hc
      obtain rfl := Option.some.inj H
      refine ss_nil ?_
      exact (wkr (wkr (wkr (wkr (wkr (wkn (wkn (wkn (wkr (wkr wk0))))))))))
  exact ss_ret (tuple_ (bn A sc_law_wished 4 rfl g_tuple bt_tuple) (nmO A sc_law_wished 8 rfl rfl rfl) .lst rfl) (⟨(congrArg (fun x : (List Str) => (D.tup (List.map D.str x))) (Option.some.inj H)), .refl⟩)
def m_check_known (a_names : (List Str)) (a_asked : (List Str)) : Option Unit :=
  ((List.foldlM (fun (s_1 : Unit) (z_2 : Str) => (if (!(decide (z_2 ∈ a_names))) = true then none else some ())) () a_asked).bind fun s_3 => some ())
def R_check_known : Rel := fun ds d k => ∃ (a_names : (List Str)) (a_asked : (List Str)) (r : Unit), ds = [(D.lst (List.map D.str a_names)), (D.lst (List.map D.str a_asked))] ∧ m_check_known a_names a_asked = some r ∧ d = (fun _ => D.non) r ∧ k = .cln
abbrev N_check_known : List Str := ["names", "asked", "name"]
theorem fs_check_known : FnScope N_check_known ["names", "asked"] (defScope s_check_known) := ⟨rfl, rfl, rfl, by decide +kernel, rfl, by decide +kernel, by decide +kernel⟩
theorem sc_check_known : Sc N_check_known (defScope s_check_known) [0, 1, 2] [2] [] := ⟨fs_check_known.nd, by decide +kernel⟩
theorem b_check_known {X : Cx} {Γ : Gd} (A : At X Γ N_check_known (defScope s_check_known) 0)  {ds : List D} {d : D} {k : Kd} (hR : R_check_known ds d k) :
    SS X (env0 3 ds) (defBody s_check_known) { rt := fun d' k' => d' = d ∧ Fits k' k d, nx := fun _ => d = .non ∧ k = .cln } := by
  obtain ⟨a_names, a_asked, r, rfl, H, rfl, rfl⟩ := hR
  unfold m_check_known at H
  obtain ⟨s_3, hs_3, H⟩ := bindO H
  refine forM_ (en := D.str) (fun s_1 : Unit => [some (.bor (D.lst (List.map D.str a_names))), some (.bor (D.lst (List.map D.str a_asked))), none]) A (iter_ (nmB A sc_check_known 1 rfl rfl rfl) .lstB) (tg A sc_check_known 2 rfl rfl) (fun _ => rfl) hs_3 ?_ ?_ ?_
  · exact (wkr (wkr (wkn wk0)))
  · intro s_1 z_2 s' hx H
    refine ⟨_, rfl, ?_⟩
    refine ss_if (et_ninLS (nmF A sc_check_known 2 rfl rfl rfl) (nmB A sc_check_known 0 rfl rfl rfl)) (fun hc => ?_) (fun hc => ?_)
    · replace H := ifT H hc
      cases H
    · replace H := ifF H hc
      refine ss_nil ?_
      show SS X _ _ _
      obtain rfl := Option.some.inj H
      refine ss_nil ?_
      exact (wkr (wkr (wkn wk0)))
  exact ss_nil ⟨rfl, rfl⟩
def m_least_raises (a_bidders : (List (Str × Int × Int))) (a_places : (List Int)) (a_hours : Int) (a_floor : Int) : Option (Option (List Int)) :=
  ((m_strengths_of a_bidders).bind fun r_1 => ((some r_1).bind fun strengths_2 => ((rng1G (a_bidders.length : Int)).bind fun r_3 => ((lcG r_3).bind fun ys_4 => ((lcM (fun z_5 : Int => ((if (!(decide (z_5 ∈ a_places))) = true then ((idxG strengths_2 z_5).bind fun x_6 => some (decide (a_floor ≤ x_6))) else some false).bind fun q_7 => some q_7)) (fun z_5 : Int => some z_5) ys_4).bind fun zs_8 => ((some zs_8).bind fun behind_9 => (if ((decide (a_hours < (a_places.length : Int))) || ((decide ((a_places.length : Int) < a_hours)) && (decide ((0 : Int) < (behind_9.length : Int))))) = true then some (none : (Option (List Int))) else ((lcG a_bidders).bind fun ys_10 => ((some (ys_10.map (fun z_11 : (Str × Int × Int) => (0 : Int)))).bind fun raises_12 => ((List.foldlM (fun (s_13 : ((List Int) × (List Int) × (List Int))) (z_14 : Int) => ((lcG s_13.2.1).bind fun ys_16 => ((lcM (fun z_17 : Int => some true) (fun z_17 : Int => ((idxG s_13.1 z_17).bind fun x_18 => some (x_18 + (if (decide (z_17 < z_14)) = true then (1 : Int) else (0 : Int))))) ys_16).bind fun zs_19 => ((catG [a_floor] zs_19).bind fun xs_20 => ((maxG xs_20).bind fun n_21 => ((some n_21).bind fun needed_22 => ((idxG a_bidders z_14).bind fun x_23 => ((some x_23).bind fun p_24 => ((divG (-needed_22) p_24.2.1).bind fun n_25 => ((setG s_13.2.2 z_14 (if ((-n_25) - p_24.2.2) > (0 : Int) then ((-n_25) - p_24.2.2) else (0 : Int) : Int)).bind fun raises_26 => ((idxG raises_26 z_14).bind fun x_27 => ((mulG p_24.2.1 (p_24.2.2 + x_27)).bind fun n_28 => ((setG s_13.1 z_14 n_28).bind fun strengths_29 => ((some [z_14]).bind fun behind_30 => some (strengths_29, behind_30, raises_26))))))))))))))) (strengths_2, behind_9, raises_12) (a_places.reverse)).bind fun s_15 => some (some s_15.2.2)))))))))))
def R_least_raises : Rel := fun ds d k => ∃ (a_bidders : (List (Str × Int × Int))) (a_places : (List Int)) (a_hours : Int) (a_floor : Int) (r : (Option (List Int))), ds = [(D.lst (List.map (fun x : (Str × Int × Int) => (D.tup [(D.str x.1), (D.int x.2.1), (D.int x.2.2)])) a_bidders)), (D.lst (List.map D.int a_places)), (D.int a_hours), (D.int a_floor)] ∧ m_least_raises a_bidders a_places a_hours a_floor = some r ∧ d = (enO (fun x : (List Int) => (D.tup (List.map D.int x)))) r ∧ k = .cln
abbrev N_least_raises : List Str := ["bidders", "places", "hours", "floor", "strengths", "behind", "place", "raises", "_", "needed", "other", "weight", "bid"]
theorem fs_least_raises : FnScope N_least_raises ["bidders", "places", "hours", "floor"] (defScope s_least_raises) := ⟨rfl, rfl, rfl, by decide +kernel, rfl, by decide +kernel, by decide +kernel⟩
theorem sc_least_raises : Sc N_least_raises (defScope s_least_raises) [0, 1, 2, 3, 4, 5, 6, 7, 9, 11, 12] [4, 5, 6, 7, 8, 9, 11, 12] ["strengths_of", "range", "len", "max", "tuple"] := ⟨fs_least_raises.nd, by decide +kernel⟩
abbrev cs_least_raises_c1 : Scope := compScope (s_least_raises) [1, 1]
theorem sc_least_raises_c1 : Sc N_least_raises cs_least_raises_c1 [1, 3, 4, 6] [6] [] := ⟨fs_least_raises.nd, by decide +kernel⟩
abbrev cs_least_raises_c2 : Scope := compScope (s_least_raises) [3, 1]
theorem sc_least_raises_c2 : Sc N_least_raises cs_least_raises_c2 [] [8] [] := ⟨fs_least_raises.nd, by decide +kernel⟩
abbrev cs_least_raises_c3 : Scope := compScope (s_least_raises) [4, 2, 1, 1, 1]
theorem sc_least_raises_c3 : Sc N_least_raises cs_least_raises_c3 [4, 6, 10] [10] [] := ⟨fs_least_raises.nd, by decide +kernel⟩
theorem b_least_raises {X : Cx} {Γ : Gd} (A : At X Γ N_least_raises (defScope s_least_raises) 1) (g_len : Γ.mg "len" = none) (g_max : Γ.mg "max" = none) (g_range : Γ.mg "range" = none) (g_tuple : Γ.mg "tuple" = none) (C_strengths_of : Cal Γ "strengths_of" R_strengths_of 1 []) {ds : List D} {d : D} {k : Kd} (hR : R_least_raises ds d k) :
    SS X (env0 13 ds) (defBody s_least_raises) { rt := fun d' k' => d' = d ∧ Fits k' k d, nx := fun _ => d = .non ∧ k = .cln } := by
  obtain ⟨a_bidders, a_places, a_hours, a_floor, r, rfl, H, rfl, rfl⟩ := hR
  unfold m_least_raises at H
  obtain ⟨r_1, hr_1, H⟩ := bindO H
  obtain ⟨strengths_2, hstrengths_2, H⟩ := bindO H
  refine set_ A sc_least_raises 4 rfl rfl (Ev.cv (Cal.ev C_strengths_of A sc_least_raises 0 rfl (by decide) (ea_cons (nmB A sc_least_raises 0 rfl rfl rfl) ea_nil (.inl rfl) rfl) (.inr (.inl rfl)) (.inl rfl) rfl rfl ⟨a_bidders, r_1, rfl, hr_1, rfl, rfl⟩) (congrArg (fun x : (List Int) => (D.lst (List.map D.int x))) (Option.some.inj hstrengths_2))) .own rfl ?_
  obtain ⟨r_3, hr_3, H⟩ := bindO H
  obtain ⟨ys_4, hys_4, H⟩ := bindO H
  obtain ⟨zs_8, hzs_8, H⟩ := bindO H
  obtain ⟨behind_9, hbehind_9, H⟩ := bindO H
  refine setLc_ A sc_least_raises 5 rfl (by decide +kernel) (by decide +kernel) rfl (by decide +kernel) (Ec.cv (lcM_ (en := D.int) D.int [("place", 6)] .c A sc_least_raises (by decide +kernel) (rng1_ (glo A sc_least_raises 1 rfl) (by rw [A.eM]; exact g_range) (lenL_ (bn A sc_least_raises 2 rfl g_len bt_len) (nmB A sc_least_raises 0 rfl rfl rfl) rfl) hr_3 rfl) hys_4 hzs_8 (Clear_of rfl) (fun Y AY => (tg AY sc_least_raises_c1 6 rfl rfl)) (by decide) (fun _ => rfl) (fun z_5 _ => ⟨_, rfl, fun b H Y AY => by obtain ⟨q_7, hq_7, H⟩ := bindO H; obtain rfl := Option.some.inj H; exact (ets_one (Ew.et (ew_andM (et_ninLI (nmF AY sc_least_raises_c1 6 rfl rfl rfl) (nmB AY sc_least_raises_c1 1 rfl rfl rfl)) hq_7 fun H => by obtain ⟨x_6, hx_6, H⟩ := bindO H; obtain rfl := Option.some.inj H; exact (ew_and1 (et_cI (ixL_ (f := D.int) (nmO AY sc_least_raises_c1 4 rfl rfl rfl) (nmF AY sc_least_raises_c1 6 rfl rfl rfl) hx_6 (fun _ _ => rfl)) (nmF AY sc_least_raises_c1 3 rfl rfl rfl) .ge))))), fun y _ H => by obtain rfl := Option.some.inj H; exact ⟨_, rfl, fun Y AY => (nmF AY sc_least_raises_c1 6 rfl rfl rfl)⟩⟩)) (congrArg (fun x : (List Int) => (D.lst (List.map D.int x))) (Option.some.inj hbehind_9))) .own ?_
  refine ss_if (Ew.et (ew_or (et_cI (lenL_ (bn A sc_least_raises 2 rfl g_len bt_len) (nmB A sc_least_raises 1 rfl rfl rfl) rfl) (nmF A sc_least_raises 2 rfl rfl rfl) .gt) fun _ => (ew_or1 (Ew.et (ew_and (et_cI (lenL_ (bn A sc_least_raises 2 rfl g_len bt_len) (nmB A sc_least_raises 1 rfl rfl rfl) rfl) (nmF A sc_least_raises 2 rfl rfl rfl) .lt) fun _ => (ew_and1 (et_cI (lenL_ (bn A sc_least_raises 2 rfl g_len bt_len) (nmO A sc_least_raises 5 rfl rfl rfl) rfl) ev_int .gt))))))) (fun hc => ?_) (fun hc => ?_)
  · replace H := ifT H hc
    exact ss_ret (Ev.cv ev_non rfl) (⟨(congrArg (enO (fun x : (List Int) => (D.tup (List.map D.int x)))) (Option.some.inj H)), .refl⟩)
  · replace H := ifF H hc
    refine ss_nil ?_
    show SS X _ _ _
    obtain ⟨ys_10, hys_10, H⟩ := bindO H
    obtain ⟨raises_12, hraises_12, H⟩ := bindO H
    refine setLc_ A sc_least_raises 7 rfl (by decide +kernel) (by decide +kernel) rfl (by decide +kernel) (Ec.cv (Ec.cv (lcP_ (en := (fun x : (Str × Int × Int) => (D.tup [(D.str x.1), (D.int x.2.1), (D.int x.2.2)]))) D.int [("_", 8)] (fun z_11 : (Str × Int × Int) => true) (fun z_11 : (Str × Int × Int) => (0 : Int)) .c A sc_least_raises (by decide +kernel) (iter_ (nmB A sc_least_raises 0 rfl rfl rfl) .lstB) hys_10 (Clear_of rfl) (fun Y AY => (tg AY sc_least_raises_c2 8 rfl rfl)) (by decide) (fun _ => rfl) (fun z_11 _ => ⟨_, rfl, fun Y AY => ets_nil, fun _ => ⟨_, rfl, fun Y AY => ev_int⟩⟩)) (by rw [List.filter_eq_self.mpr (fun _ _ => rfl)])) (congrArg (fun x : (List Int) => (D.lst (List.map D.int x))) (Option.some.inj hraises_12))) .own ?_
    obtain ⟨s_15, hs_15, H⟩ := bindO H
    refine forM_ (en := D.int) (fun s_13 : ((List Int) × (List Int) × (List Int)) => [some (.bor (D.lst (List.map (fun x : (Str × Int × Int) => (D.tup [(D.str x.1), (D.int x.2.1), (D.int x.2.2)])) a_bidders))), some (.bor (D.lst (List.map D.int a_places))), some (.frz (D.int a_hours)), some (.frz (D.int a_floor)), some (.own (D.lst (List.map D.int s_13.1))), some (.own (D.lst (List.map D.int s_13.2.1))), none, some (.own (D.lst (List.map D.int s_13.2.2))), none, none, none, none, none]) A (iter_ (revL_ (nmB A sc_least_raises 1 rfl rfl rfl)) .lstB) (tg A sc_least_raises 6 rfl rfl) (fun _ => rfl) hs_15 ?_ ?_ ?_
    · exact (wkr (wkr (wkr (wkr (wkr (wkr (wkn (wkr (wkn (wkn (wkn (wkn (wkn wk0)))))))))))))
    · intro s_13 z_14 s' hx H
      refine ⟨_, rfl, ?_⟩
      obtain ⟨ys_16, hys_16, H⟩ := bindO H
      obtain ⟨zs_19, hzs_19, H⟩ := bindO H
      obtain ⟨xs_20, hxs_20, H⟩ := bindO H
      obtain ⟨n_21, hn_21, H⟩ := bindO H
      obtain ⟨needed_22, hneeded_22, H⟩ := bindO H
      refine set_ A sc_least_raises 9 rfl rfl (Ev.cv (maxL_ A.calm (bn A sc_least_raises 3 rfl g_max bt_max) (catL_ (f := D.int) (Ev.cv (ev_list (ea_cons (nmF A sc_least_raises 3 rfl rfl rfl) ea_nil (.inl rfl) rfl) (.inl rfl) (le_line rfl)) rfl) (Ec.ev (lcM_ (en := D.int) D.int [("other", 10)] .c A sc_least_raises (by decide +kernel) (iter_ (nmO A sc_least_raises 5 rfl rfl rfl) .lstS) hys_16 hzs_19 (Clear_of rfl) (fun Y AY => (tg AY sc_least_raises_c3 10 rfl rfl)) (by decide) (fun _ => rfl) (fun z_17 _ => ⟨_, rfl, fun b H Y AY => by obtain rfl := Option.some.inj H; exact ets_nil, fun y _ H => by obtain ⟨x_18, hx_18, H⟩ := bindO H; obtain rfl := Option.some.inj H; exact ⟨_, rfl, fun Y AY => (ev_add (ixL_ (f := D.int) (nmO AY sc_least_raises_c3 4 rfl rfl rfl) (nmF AY sc_least_raises_c3 10 rfl rfl rfl) hx_18 (fun _ _ => rfl)) (ev_ifP (en := D.int) (et_cI (nmF AY sc_least_raises_c3 10 rfl rfl rfl) (nmF AY sc_least_raises_c3 6 rfl rfl rfl) .lt) ev_int ev_int))⟩⟩))) hxs_20) hn_21 rfl) (congrArg D.int (Option.some.inj hneeded_22))) .int rfl ?_
      obtain ⟨x_23, hx_23, H⟩ := bindO H
      obtain ⟨p_24, hp_24, H⟩ := bindO H
      refine asg_ (kz := .b) (Ev.cv (ixL_ (f := (fun x : (Str × Int × Int) => (D.tup [(D.str x.1), (D.int x.2.1), (D.int x.2.2)]))) (nmB A sc_least_raises 0 rfl rfl rfl) (nmF A sc_least_raises 6 rfl rfl rfl) hx_23 (fun _ _ => rfl)) (congrArg (fun x : (Str × Int × Int) => (D.tup [(D.str x.1), (D.int x.2.1), (D.int x.2.2)])) (Option.some.inj hp_24))) (tg_tp A.calm (tgs_cons (tg A sc_least_raises 8 rfl rfl) (tgs_cons (tg A sc_least_raises 11 rfl rfl) (tgs_cons (tg A sc_least_raises 12 rfl rfl) tgs_nil rfl) rfl) rfl) rfl rfl) rfl rfl rfl rfl ?_
      obtain ⟨n_25, hn_25, H⟩ := bindO H
      obtain ⟨raises_26, hraises_26, H⟩ := bindO H
      refine setL_ (en := D.int) (x := (if ((-n_25) - p_24.2.2) > (0 : Int) then ((-n_25) - p_24.2.2) else (0 : Int) : Int)) A sc_least_raises 7 rfl rfl rfl (ev_max2 A.calm (bn A sc_least_raises 3 rfl g_max bt_max) ev_int (ev_sub (ev_neg (div_ (ev_neg (nmF A sc_least_raises 9 rfl rfl rfl)) (nmF A sc_least_raises 11 rfl rfl rfl) hn_25)) (nmF A sc_least_raises 12 rfl rfl rfl)) rfl rfl) rfl (nmF A sc_least_raises 6 rfl rfl rfl) hraises_26 (fun _ => rfl) rfl rfl rfl ?_
      obtain ⟨x_27, hx_27, H⟩ := bindO H
      obtain ⟨n_28, hn_28, H⟩ := bindO H
      obtain ⟨strengths_29, hstrengths_29, H⟩ := bindO H
      refine setL_ (en := D.int) (x := n_28) A sc_least_raises 4 rfl rfl rfl (mul_ (nmF A sc_least_raises 11 rfl rfl rfl) (ev_add (nmF A sc_least_raises 12 rfl rfl rfl) (ixL_ (f := D.int) (nmO A sc_least_raises 7 rfl rfl rfl) (nmF A sc_least_raises 6 rfl rfl rfl) hx_27 (fun _ _ => rfl))) hn_28) rfl (nmF A sc_least_raises 6 rfl rfl rfl) hstrengths_29 (fun _ => rfl) rfl rfl rfl ?_
      obtain ⟨behind_30, hbehind_30, H⟩ := bindO H
      refine set_ A sc_least_raises 5 rfl rfl (Ev.cv (Ev.cv (ev_list (ea_cons (nmF A sc_least_raises 6 rfl rfl rfl) ea_nil (.inl rfl) rfl) (.inl rfl) (le_line rfl)) rfl) (congrArg (fun x : (List Int) => (D.lst (List.map D.int x))) (Option.some.inj hbehind_30))) .own rfl ?_
      obtain rfl := Option.some.inj H
      refine ss_nil ?_
      exact (wkr (wkr (wkr (wkr (wkr (wkr (wkn (wkr (wkn (wkn (wkn (wkn (wkn wk0)))))))))))))
    exact ss_ret (Ev.cv (tuple_ (bn A sc_least_raises 4 rfl g_tuple bt_tuple) (nmO A sc_least_raises 7 rfl rfl rfl) .lst rfl) rfl) (⟨(congrArg (enO (fun x : (List Int) => (D.tup (List.map D.int x)))) (Option.some.inj H)), .refl⟩)
def m_raises_for (a_bidders : (List (Str × Int × Int))) (a_names : (List Str)) (a_hours : Int) (a_floor : Int) : Option (Option (List Int)) :=
  ((m_check_bidders a_bidders).bind fun r_1 => ((m_check_hours a_hours).bind fun r_2 => ((m_check_floor a_floor).bind fun r_3 => ((m_names_of a_bidders).bind fun r_4 => ((some r_4).bind fun known_5 => ((List.foldlM (fun (s_6 : Unit) (z_7 : (Int × Str)) => ((m_check_known known_5 [z_7.2]).bind fun r_9 => (if (decide (z_7.2 ∈ (cutX a_names none (some z_7.1)))) = true then none else some ()))) () (enumL a_names)).bind fun s_8 => ((lcG a_names).bind fun ys_10 => ((lcM (fun z_11 : Str => some true) (fun z_11 : Str => ((fndG known_5 z_11).bind fun i_12 => some i_12)) ys_10).bind fun zs_13 => ((m_least_raises a_bidders zs_13 a_hours a_floor).bind fun r_14 => some r_14)))))))))
def R_raises_for : Rel := fun ds d k => ∃ (a_bidders : (List (Str × Int × Int))) (a_names : (List Str)) (a_hours : Int) (a_floor : Int) (r : (Option (List Int))), ds = [(D.lst (List.map (fun x : (Str × Int × Int) => (D.tup [(D.str x.1), (D.int x.2.1), (D.int x.2.2)])) a_bidders)), (D.tup (List.map D.str a_names)), (D.int a_hours), (D.int a_floor)] ∧ m_raises_for a_bidders a_names a_hours a_floor = some r ∧ d = (enO (fun x : (List Int) => (D.tup (List.map D.int x)))) r ∧ k = .cln
abbrev N_raises_for : List Str := ["bidders", "names", "hours", "floor", "known", "at", "name"]
theorem fs_raises_for : FnScope N_raises_for ["bidders", "names", "hours", "floor"] (defScope s_raises_for) := ⟨rfl, rfl, rfl, by decide +kernel, rfl, by decide +kernel, by decide +kernel⟩
theorem sc_raises_for : Sc N_raises_for (defScope s_raises_for) [0, 1, 2, 3, 4, 5, 6] [4, 5, 6] ["check_bidders", "check_hours", "check_floor", "names_of", "enumerate", "check_known", "least_raises"] := ⟨fs_raises_for.nd, by decide +kernel⟩
abbrev cs_raises_for_c1 : Scope := compScope (s_raises_for) [5, 0, 2]
theorem sc_raises_for_c1 : Sc N_raises_for cs_raises_for_c1 [4, 6] [6] [] := ⟨fs_raises_for.nd, by decide +kernel⟩
theorem b_raises_for {X : Cx} {Γ : Gd} (A : At X Γ N_raises_for (defScope s_raises_for) 2) (g_enumerate : Γ.mg "enumerate" = none) (C_check_bidders : Cal Γ "check_bidders" R_check_bidders 2 []) (C_check_floor : Cal Γ "check_floor" R_check_floor 1 []) (C_check_hours : Cal Γ "check_hours" R_check_hours 1 []) (C_check_known : Cal Γ "check_known" R_check_known 1 []) (C_least_raises : Cal Γ "least_raises" R_least_raises 2 []) (C_names_of : Cal Γ "names_of" R_names_of 1 []) {ds : List D} {d : D} {k : Kd} (hR : R_raises_for ds d k) :
    SS X (env0 7 ds) (defBody s_raises_for) { rt := fun d' k' => d' = d ∧ Fits k' k d, nx := fun _ => d = .non ∧ k = .cln } := by
  obtain ⟨a_bidders, a_names, a_hours, a_floor, r, rfl, H, rfl, rfl⟩ := hR
  unfold m_raises_for at H
  obtain ⟨r_1, hr_1, H⟩ := bindO H
  refine ss_ex (Cal.ev C_check_bidders A sc_raises_for 0 rfl (by decide) (ea_cons (nmB A sc_raises_for 0 rfl rfl rfl) ea_nil (.inl rfl) rfl) (.inr (.inl rfl)) (.inr (.inl rfl)) rfl rfl ⟨a_bidders, r_1, rfl, hr_1, rfl, rfl⟩) rfl ?_
  obtain ⟨r_2, hr_2, H⟩ := bindO H
  refine ss_ex (Cal.ev C_check_hours A sc_raises_for 1 rfl (by decide) (ea_cons (nmF A sc_raises_for 2 rfl rfl rfl) ea_nil (.inl rfl) rfl) (.inl rfl) (.inr (.inl rfl)) rfl rfl ⟨a_hours, r_2, rfl, hr_2, rfl, rfl⟩) rfl ?_
  obtain ⟨r_3, hr_3, H⟩ := bindO H
  refine ss_ex (Cal.ev C_check_floor A sc_raises_for 2 rfl (by decide) (ea_cons (nmF A sc_raises_for 3 rfl rfl rfl) ea_nil (.inl rfl) rfl) (.inl rfl) (.inr (.inl rfl)) rfl rfl ⟨a_floor, r_3, rfl, hr_3, rfl, rfl⟩) rfl ?_
  obtain ⟨r_4, hr_4, H⟩ := bindO H
  obtain ⟨known_5, hknown_5, H⟩ := bindO H
  refine set_ A sc_raises_for 4 rfl rfl (Ev.cv (Cal.ev C_names_of A sc_raises_for 3 rfl (by decide) (ea_cons (nmB A sc_raises_for 0 rfl rfl rfl) ea_nil (.inl rfl) rfl) (.inr (.inl rfl)) (.inl rfl) rfl rfl ⟨a_bidders, r_4, rfl, hr_4, rfl, rfl⟩) (congrArg (fun x : (List Str) => (D.lst (List.map D.str x))) (Option.some.inj hknown_5))) .own rfl ?_
  obtain ⟨s_8, hs_8, H⟩ := bindO H
  refine forM_ (en := (fun x : (Int × Str) => (D.tup [(D.int x.1), (D.str x.2)]))) (fun s_6 : Unit => [some (.bor (D.lst (List.map (fun x : (Str × Int × Int) => (D.tup [(D.str x.1), (D.int x.2.1), (D.int x.2.2)])) a_bidders))), some (.bor (D.tup (List.map D.str a_names))), some (.frz (D.int a_hours)), some (.frz (D.int a_floor)), some (.own (D.lst (List.map D.str known_5))), none, none]) A (enumTB_ (f := D.str) (glo A sc_raises_for 4 rfl) (by rw [A.eM]; exact g_enumerate) (nmB A sc_raises_for 1 rfl rfl rfl) rfl) (tg_tp A.calm (tgs_cons (tg A sc_raises_for 5 rfl rfl) (tgs_cons (tg A sc_raises_for 6 rfl rfl) tgs_nil rfl) rfl) rfl rfl) (fun _ => rfl) hs_8 ?_ ?_ ?_
  · exact (wkr (wkr (wkr (wkr (wkr (wkn (wkn wk0)))))))
  · intro s_6 z_7 s' hx H
    refine ⟨_, rfl, ?_⟩
    obtain ⟨r_9, hr_9, H⟩ := bindO H
    refine ss_ex (Cal.ev C_check_known A sc_raises_for 5 rfl (by decide) (ea_cons (nmO A sc_raises_for 4 rfl rfl rfl) (ea_cons (Ev.cv (ev_list (ea_cons (nmF A sc_raises_for 6 rfl rfl rfl) ea_nil (.inl rfl) rfl) (.inl rfl) (le_line rfl)) rfl) ea_nil (.inl rfl) rfl) (.inl rfl) rfl) (.inr (.inr rfl)) (.inr (.inl rfl)) rfl rfl ⟨known_5, [z_7.2], r_9, rfl, hr_9, rfl, rfl⟩) rfl ?_
    refine ss_if (et_inTS (nmF A sc_raises_for 6 rfl rfl rfl) (slT_ (nmB A sc_raises_for 1 rfl rfl rfl) eo_none (eo_some (nmF A sc_raises_for 5 rfl rfl rfl)))) (fun hc => ?_) (fun hc => ?_)
    · replace H := ifT H hc
      cases H
    · replace H := ifF H hc
      refine ss_nil ?_
      show SS X _ _ _
      obtain rfl := Option.some.inj H
      refine ss_nil ?_
      exact (wkr (wkr (wkr (wkr (wkr (wkn (wkn wk0)))))))
  obtain ⟨ys_10, hys_10, H⟩ := bindO H
  obtain ⟨zs_13, hzs_13, H⟩ := bindO H
  obtain ⟨r_14, hr_14, H⟩ := bindO H
  exact ss_ret (Cal.ev C_least_raises A sc_raises_for 6 rfl (by decide) (ea_cons (nmB A sc_raises_for 0 rfl rfl rfl) (ea_cons (Ec.ev (lcM_ (en := D.str) D.int [("name", 6)] .c A sc_raises_for (by decide +kernel) (iter_ (nmB A sc_raises_for 1 rfl rfl rfl) .tupB) hys_10 hzs_13 (Clear_of rfl) (fun Y AY => (tg AY sc_raises_for_c1 6 rfl rfl)) (by decide) (fun _ => rfl) (fun z_11 _ => ⟨_, rfl, fun b H Y AY => by obtain rfl := Option.some.inj H; exact ets_nil, fun y _ H => by obtain ⟨i_12, hi_12, H⟩ := bindO H; obtain rfl := Option.some.inj H; exact ⟨_, rfl, fun Y AY => (indexLS_ (nmO AY sc_raises_for_c1 4 rfl rfl rfl) (nmF AY sc_raises_for_c1 6 rfl rfl rfl) hi_12 ⟨rfl, rfl, rfl⟩)⟩⟩))) (ea_cons (nmF A sc_raises_for 2 rfl rfl rfl) (ea_cons (nmF A sc_raises_for 3 rfl rfl rfl) ea_nil (.inl rfl) rfl) (.inl rfl) rfl) (.inl rfl) rfl) (.inl rfl) rfl) (.inr (.inl rfl)) (.inr (.inl rfl)) rfl rfl ⟨a_bidders, zs_13, a_hours, a_floor, r_14, rfl, hr_14, rfl, rfl⟩) (⟨(congrArg (enO (fun x : (List Int) => (D.tup (List.map D.int x)))) (Option.some.inj H)), .refl⟩)
def m_law_integer_2 (a_got : Int) : Option Bool :=
  some true
def R_law_integer_2 : Rel := fun ds d k => ∃ (a_got : Int) (r : Bool), ds = [(D.int a_got)] ∧ m_law_integer_2 a_got = some r ∧ d = D.bl r ∧ k = .cln
abbrev N_law_integer_2 : List Str := ["got"]
theorem fs_law_integer_2 : FnScope N_law_integer_2 ["got"] (defScope s_law_integer) := ⟨rfl, rfl, rfl, by decide +kernel, rfl, by decide +kernel, by decide +kernel⟩
theorem sc_law_integer_2 : Sc N_law_integer_2 (defScope s_law_integer) [0] [] ["isinstance", "int", "bool"] := ⟨fs_law_integer_2.nd, by decide +kernel⟩
theorem b_law_integer_2 {X : Cx} {Γ : Gd} (A : At X Γ N_law_integer_2 (defScope s_law_integer) 0) (g_bool : Γ.mg "bool" = none) (g_int : Γ.mg "int" = none) (g_isinstance : Γ.mg "isinstance" = none) {ds : List D} {d : D} {k : Kd} (hR : R_law_integer_2 ds d k) :
    SS X (env0 1 ds) (defBody s_law_integer) { rt := fun d' k' => d' = d ∧ Fits k' k d, nx := fun _ => d = .non ∧ k = .cln } := by
  obtain ⟨a_got, r, rfl, H, rfl, rfl⟩ := hR
  unfold m_law_integer_2 at H
  exact ss_ret (ev_and (isi_ (p := true) (bn A sc_law_integer_2 0 rfl g_isinstance bt_isinstance) (nmF A sc_law_integer_2 0 rfl rfl rfl) (bn A sc_law_integer_2 1 rfl g_int bt_int) rfl rfl (by rfl)) fun _ => (ev_one (ev_not (isi_ (p := false) (bn A sc_law_integer_2 0 rfl g_isinstance bt_isinstance) (nmF A sc_law_integer_2 0 rfl rfl rfl) (bn A sc_law_integer_2 2 rfl g_bool bt_bool) rfl rfl (by rfl))))) (⟨(congrArg D.bl (Option.some.inj H)), .bl⟩)
def m_law_raised (a_crew : (List (Str × Int × Int))) (a_more : (Option (List Int))) : Option (List (Str × Int × Int)) :=
  ((some ([] : (List (Str × Int × Int)))).bind fun raised_1 => ((rng1G (a_crew.length : Int)).bind fun r_2 => ((List.foldlM (fun (s_3 : ((List (Str × Int × Int)))) (z_4 : Int) => ((idxG a_crew z_4).bind fun x_6 => ((some x_6).bind fun p_7 => ((a_more).bind fun v_8 => ((idxG v_8 z_4).bind fun x_9 => ((appG s_3 (p_7.1, p_7.2.1, (p_7.2.2 + x_9))).bind fun raised_10 => some raised_10)))))) raised_1 r_2).bind fun s_5 => some s_5)))
def R_law_raised : Rel := fun ds d k => ∃ (a_crew : (List (Str × Int × Int))) (a_more : (Option (List Int))) (r : (List (Str × Int × Int))), ds = [(D.lst (List.map (fun x : (Str × Int × Int) => (D.tup [(D.str x.1), (D.int x.2.1), (D.int x.2.2)])) a_crew)), (enO (fun x : (List Int) => (D.tup (List.map D.int x))) a_more)] ∧ m_law_raised a_crew a_more = some r ∧ d = (fun x : (List (Str × Int × Int)) => (D.lst (List.map (fun x : (Str × Int × Int) => (D.tup [(D.str x.1), (D.int x.2.1), (D.int x.2.2)])) x))) r ∧ k = .own
abbrev N_law_raised : List Str := ["crew", "more", "raised", "k", "name", "weight", "bid"]
theorem fs_law_raised : FnScope N_law_raised ["crew", "more"] (defScope s_law_raised) := ⟨rfl, rfl, rfl, by decide +kernel, rfl, by decide +kernel, by decide +kernel⟩
theorem sc_law_raised : Sc N_law_raised (defScope s_law_raised) [0, 1, 2, 3, 4, 5, 6] [2, 3, 4, 5, 6] ["range", "len"] := ⟨fs_law_raised.nd, by decide +kernel⟩
theorem b_law_raised {X : Cx} {Γ : Gd} (A : At X Γ N_law_raised (defScope s_law_raised) 0) (g_len : Γ.mg "len" = none) (g_range : Γ.mg "range" = none) {ds : List D} {d : D} {k : Kd} (hR : R_law_raised ds d k) :
    SS X (env0 7 ds) (defBody s_law_raised) { rt := fun d' k' => d' = d ∧ Fits k' k d, nx := fun _ => d = .non ∧ k = .cln } := by
  obtain ⟨a_crew, a_more, r, rfl, H, rfl, rfl⟩ := hR
  unfold m_law_raised at H
  obtain ⟨raised_1, hraised_1, H⟩ := bindO H
  refine set_ A sc_law_raised 2 rfl rfl (Ev.cv (ev_list ea_nil (.inl rfl) (le_line rfl)) (congrArg (fun x : (List (Str × Int × Int)) => (D.lst (List.map (fun x : (Str × Int × Int) => (D.tup [(D.str x.1), (D.int x.2.1), (D.int x.2.2)])) x))) (Option.some.inj hraised_1))) .own rfl ?_
  obtain ⟨r_2, hr_2, H⟩ := bindO H
  obtain ⟨s_5, hs_5, H⟩ := bindO H
  refine forM_ (en := D.int) (fun s_3 : ((List (Str × Int × Int))) => [some (.bor (D.lst (List.map (fun x : (Str × Int × Int) => (D.tup [(D.str x.1), (D.int x.2.1), (D.int x.2.2)])) a_crew))), some (slot2 .b (enO (fun x : (List Int) => (D.tup (List.map D.int x))) a_more)), some (.own (D.lst (List.map (fun x : (Str × Int × Int) => (D.tup [(D.str x.1), (D.int x.2.1), (D.int x.2.2)])) s_3))), none, none, none, none]) A (rng1_ (glo A sc_law_raised 0 rfl) (by rw [A.eM]; exact g_range) (lenL_ (bn A sc_law_raised 1 rfl g_len bt_len) (nmB A sc_law_raised 0 rfl rfl rfl) rfl) hr_2 rfl) (tg A sc_law_raised 3 rfl rfl) (fun _ => rfl) hs_5 ?_ ?_ ?_
  · exact (wkr (wkr (wkr (wkn (wkn (wkn (wkn wk0)))))))
  · intro s_3 z_4 s' hx H
    refine ⟨_, rfl, ?_⟩
    obtain ⟨x_6, hx_6, H⟩ := bindO H
    obtain ⟨p_7, hp_7, H⟩ := bindO H
    refine asg_ (kz := .b) (Ev.cv (ixL_ (f := (fun x : (Str × Int × Int) => (D.tup [(D.str x.1), (D.int x.2.1), (D.int x.2.2)]))) (nmB A sc_law_raised 0 rfl rfl rfl) (nmF A sc_law_raised 3 rfl rfl rfl) hx_6 (fun _ _ => rfl)) (congrArg (fun x : (Str × Int × Int) => (D.tup [(D.str x.1), (D.int x.2.1), (D.int x.2.2)])) (Option.some.inj hp_7))) (tg_tp A.calm (tgs_cons (tg A sc_law_raised 4 rfl rfl) (tgs_cons (tg A sc_law_raised 5 rfl rfl) (tgs_cons (tg A sc_law_raised 6 rfl rfl) tgs_nil rfl) rfl) rfl) rfl rfl) rfl rfl rfl rfl ?_
    obtain ⟨v_8, hv_8, H⟩ := bindO H
    obtain ⟨x_9, hx_9, H⟩ := bindO H
    obtain ⟨raised_10, hraised_10, H⟩ := bindO H
    refine app_ (en := (fun x : (Str × Int × Int) => (D.tup [(D.str x.1), (D.int x.2.1), (D.int x.2.2)]))) (x := (p_7.1, p_7.2.1, (p_7.2.2 + x_9))) A sc_law_raised 2 rfl rfl rfl (ev_tup (ea_cons (nmF A sc_law_raised 4 rfl rfl rfl) (ea_cons (nmF A sc_law_raised 5 rfl rfl rfl) (ea_cons (ev_add (nmF A sc_law_raised 6 rfl rfl rfl) (ixT_ (f := D.int) (Ev.getO (f := (fun x : (List Int) => (D.tup (List.map D.int x)))) (nm2 A sc_law_raised 1 rfl rfl rfl) hv_8) (nmF A sc_law_raised 3 rfl rfl rfl) hx_9 (fun _ _ => rfl))) ea_nil (.inl rfl) rfl) (.inl rfl) rfl) (.inl rfl) rfl) (.inl rfl) (le_line rfl)) rfl hraised_10 ⟨rfl, rfl, rfl⟩ rfl rfl ?_
    obtain rfl := Option.some.inj H
    refine ss_nil ?_
    exact (wkr (wkr (wkr (wkn (wkn (wkn (wkn wk0)))))))
  exact retO A sc_law_raised 2 rfl rfl rfl (⟨(congrArg (fun x : (List (Str × Int × Int)) => (D.lst (List.map (fun x : (Str × Int × Int) => (D.tup [(D.str x.1), (D.int x.2.1), (D.int x.2.2)])) x))) (Option.some.inj H)), .refl⟩)
def m_law_brings (a_crew : (List (Str × Int × Int))) (a_got : (Option (List Int))) (a_wished : (List Str)) (a_slots : Int) (a_sill : Int) : Option Bool :=
  ((lcG a_crew).bind fun ys_1 => ((lcM (fun z_2 : (Str × Int × Int) => ((if (!(decide (z_2.1 ∈ a_wished))) = true then ((mulG z_2.2.1 z_2.2.2).bind fun n_3 => some (decide (a_sill ≤ n_3))) else some false).bind fun q_4 => some q_4)) (fun z_2 : (Str × Int × Int) => some z_2.1) ys_1).bind fun zs_5 => ((some zs_5).bind fun rivals_6 => ((if (decide (a_slots < (a_wished.length : Int))) = true then some true else ((if (decide ((a_wished.length : Int) < a_slots)) = true then ((eqG (D.lst (List.map D.str rivals_6)) (D.lst (List.map D.int []))).bind fun q_7 => some (!q_7)) else some false).bind fun q_8 => some q_8)).bind fun q_9 => (if q_9 = true then some a_got.isNone else ((isiG "tuple" (enO (fun x : (List Int) => (D.tup (List.map D.int x))) a_got)).bind fun q_10 => ((if (!q_10) = true then some true else ((a_got).bind fun v_11 => some (!decide ((v_11.length : Int) = (a_crew.length : Int))))).bind fun q_12 => (if q_12 = true then some false else ((rng1G (a_crew.length : Int)).bind fun r_13 => ((loopM (fun (s_14 : Unit) (z_15 : Int) => (((a_got).bind fun v_17 => ((idxG v_17 z_15).bind fun x_18 => ((m_law_integer_2 x_18).bind fun r_19 => ((if (!r_19) = true then some true else ((a_got).bind fun v_20 => ((idxG v_20 z_15).bind fun x_21 => ((if (decide (x_21 < (0 : Int))) = true then some true else ((idxG a_crew z_15).bind fun x_22 => ((if (!(decide (x_22.1 ∈ a_wished))) = true then ((a_got).bind fun v_23 => ((idxG v_23 z_15).bind fun x_24 => some (decide ((0 : Int) < x_24)))) else some false).bind fun q_25 => some q_25))).bind fun q_26 => some q_26)))).bind fun q_27 => (if q_27 = true then some (Ctl.ret false) else some (Ctl.nx ())))))) : Option (Ctl Unit Bool))) () r_13).bind fun s_16 => match s_16 with | .nx s_161 => ((m_law_raised a_crew a_got).bind fun r_28 => ((some r_28).bind fun raised_29 => ((m_law_ladder raised_29 a_slots a_sill).bind fun r_30 => ((eqG (D.tup (List.map D.str r_30)) (D.tup (List.map D.str a_wished))).bind fun q_31 => (if (!q_31) = true then some false else ((lcG raised_29).bind fun ys_32 => ((eqG (D.lst (List.map D.int ((List.filter (fun z_33 : (Str × Int × Int) => (decide ((1000000000 : Int) < z_33.2.2))) ys_32).map (fun z_33 : (Str × Int × Int) => z_33.2.2)))) (D.lst (List.map D.int []))).bind fun q_34 => (if (!q_34) = true then some true else ((m_ladder raised_29 a_slots a_sill).bind fun r_35 => ((m_law_same 8 (D.tup (List.map D.str r_35)) (D.tup (List.map D.str a_wished))).bind fun r_36 => some r_36)))))))))) | .ret r_37 => some r_37 | .brk _ => none))))))))))
def R_law_brings : Rel := fun ds d k => ∃ (a_crew : (List (Str × Int × Int))) (a_got : (Option (List Int))) (a_wished : (List Str)) (a_slots : Int) (a_sill : Int) (r : Bool), ds = [(D.lst (List.map (fun x : (Str × Int × Int) => (D.tup [(D.str x.1), (D.int x.2.1), (D.int x.2.2)])) a_crew)), (enO (fun x : (List Int) => (D.tup (List.map D.int x))) a_got), (D.tup (List.map D.str a_wished)), (D.int a_slots), (D.int a_sill)] ∧ m_law_brings a_crew a_got a_wished a_slots a_sill = some r ∧ d = D.bl r ∧ k = .cln
abbrev N_law_brings : List Str := ["crew", "got", "wished", "slots", "sill", "rivals", "name", "weight", "bid", "k", "raised"]
theorem fs_law_brings : FnScope N_law_brings ["crew", "got", "wished", "slots", "sill"] (defScope s_law_brings) := ⟨rfl, rfl, rfl, by decide +kernel, rfl, by decide +kernel, by decide +kernel⟩
theorem sc_law_brings : Sc N_law_brings (defScope s_law_brings) [0, 1, 2, 3, 4, 5, 9, 10] [5, 9, 10] ["len", "isinstance", "tuple", "range", "_law_integer", "_law_raised", "_law_ladder", "ladder", "_law_same"] := ⟨fs_law_brings.nd, by decide +kernel⟩
abbrev cs_law_brings_c1 : Scope := compScope (s_law_brings) [0, 1]
theorem sc_law_brings_c1 : Sc N_law_brings cs_law_brings_c1 [2, 4, 6, 7, 8] [6, 7, 8] [] := ⟨fs_law_brings.nd, by decide +kernel⟩
abbrev cs_law_brings_c2 : Scope := compScope (s_law_brings) [6, 0, 0]
theorem sc_law_brings_c2 : Sc N_law_brings cs_law_brings_c2 [8] [6, 7, 8] [] := ⟨fs_law_brings.nd, by decide +kernel⟩
theorem b_law_brings {X : Cx} {Γ : Gd} (A : At X Γ N_law_brings (defScope s_law_brings) 10) (g_isinstance : Γ.mg "isinstance" = none) (g_len : Γ.mg "len" = none) (g_range : Γ.mg "range" = none) (g_tuple : Γ.mg "tuple" = none) (C_ladder_k1_hours_floor : CalK Γ "ladder" R_ladder 3 1 ["hours", "floor"] (fun a b => pick a [] [] b [.p 0, .k 0, .k 1])) (C_law_integer_2 : Cal Γ "_law_integer" R_law_integer_2 1 []) (C_law_ladder : Cal Γ "_law_ladder" R_law_ladder 1 []) (C_law_raised : Cal Γ "_law_raised" R_law_raised 1 []) (C_law_same : Cal Γ "_law_same" (R_law_same 8) (2 + 8) []) {ds : List D} {d : D} {k : Kd} (hR : R_law_brings ds d k) :
    SS X (env0 11 ds) (defBody s_law_brings) { rt := fun d' k' => d' = d ∧ Fits k' k d, nx := fun _ => d = .non ∧ k = .cln } := by
  obtain ⟨a_crew, a_got, a_wished, a_slots, a_sill, r, rfl, H, rfl, rfl⟩ := hR
  unfold m_law_brings at H
  obtain ⟨ys_1, hys_1, H⟩ := bindO H
  obtain ⟨zs_5, hzs_5, H⟩ := bindO H
  obtain ⟨rivals_6, hrivals_6, H⟩ := bindO H
  refine setLc_ A sc_law_brings 5 rfl (by decide +kernel) (by decide +kernel) rfl (by decide +kernel) (Ec.cv (lcM_ (en := (fun x : (Str × Int × Int) => (D.tup [(D.str x.1), (D.int x.2.1), (D.int x.2.2)]))) D.str [("name", 6), ("weight", 7), ("bid", 8)] .c A sc_law_brings (by decide +kernel) (iter_ (nmB A sc_law_brings 0 rfl rfl rfl) .lstB) hys_1 hzs_5 (Clear_of rfl) (fun Y AY => (tg_tp AY.calm (tgs_cons (tg AY sc_law_brings_c1 6 rfl rfl) (tgs_cons (tg AY sc_law_brings_c1 7 rfl rfl) (tgs_cons (tg AY sc_law_brings_c1 8 rfl rfl) tgs_nil rfl) rfl) rfl) rfl rfl)) (by decide) (fun _ => rfl) (fun z_2 _ => ⟨_, rfl, fun b H Y AY => by obtain ⟨q_4, hq_4, H⟩ := bindO H; obtain rfl := Option.some.inj H; exact (ets_one (Ew.et (ew_andM (et_ninTS (nmF AY sc_law_brings_c1 6 rfl rfl rfl) (nmB AY sc_law_brings_c1 2 rfl rfl rfl)) hq_4 fun H => by obtain ⟨n_3, hn_3, H⟩ := bindO H; obtain rfl := Option.some.inj H; exact (ew_and1 (et_cI (mul_ (nmF AY sc_law_brings_c1 7 rfl rfl rfl) (nmF AY sc_law_brings_c1 8 rfl rfl rfl) hn_3) (nmF AY sc_law_brings_c1 4 rfl rfl rfl) .ge))))), fun y _ H => by obtain rfl := Option.some.inj H; exact ⟨_, rfl, fun Y AY => (nmF AY sc_law_brings_c1 6 rfl rfl rfl)⟩⟩)) (congrArg (fun x : (List Str) => (D.lst (List.map D.str x))) (Option.some.inj hrivals_6))) .own ?_
  obtain ⟨q_9, hq_9, H⟩ := bindO H
  refine ss_if (Ew.et (ew_orM (et_cI (lenT_ (bn A sc_law_brings 0 rfl g_len bt_len) (nmB A sc_law_brings 2 rfl rfl rfl) rfl) (nmF A sc_law_brings 3 rfl rfl rfl) .gt) hq_9 fun H => by obtain ⟨q_8, hq_8, H⟩ := bindO H; obtain rfl := Option.some.inj H; exact (ew_or1 (Ew.et (ew_andM (et_cI (lenT_ (bn A sc_law_brings 0 rfl g_len bt_len) (nmB A sc_law_brings 2 rfl rfl rfl) rfl) (nmF A sc_law_brings 3 rfl rfl rfl) .lt) hq_8 fun H => by obtain ⟨q_7, hq_7, H⟩ := bindO H; obtain rfl := Option.some.inj H; exact (ew_and1 (et_neG A.room.units (nmO A sc_law_brings 5 rfl rfl rfl) (ev_list ea_nil (.inl rfl) (le_line rfl)) hq_7))))))) (fun hc => ?_) (fun hc => ?_)
  · replace H := ifT H hc
    exact ss_ret (ev_isN (nm2 A sc_law_brings 1 rfl rfl rfl) (isN_enO (fun _ => rfl))) (⟨(congrArg D.bl (Option.some.inj H)), .bl⟩)
  · replace H := ifF H hc
    refine ss_nil ?_
    show SS X _ _ _
    obtain ⟨q_10, hq_10, H⟩ := bindO H
    obtain ⟨q_12, hq_12, H⟩ := bindO H
    refine ss_if (Ew.et (ew_orM (et_not (Ev.et (isiG_ (bn A sc_law_brings 1 rfl g_isinstance bt_isinstance) (nm2 A sc_law_brings 1 rfl rfl rfl) (bn A sc_law_brings 2 rfl g_tuple bt_tuple) rfl rfl hq_10) fun _ => rfl)) hq_12 fun H => by obtain ⟨v_11, hv_11, H⟩ := bindO H; obtain rfl := Option.some.inj H; exact (ew_or1 (et_cI (lenT_ (bn A sc_law_brings 0 rfl g_len bt_len) (Ev.getO (f := (fun x : (List Int) => (D.tup (List.map D.int x)))) (nm2 A sc_law_brings 1 rfl rfl rfl) hv_11) rfl) (lenL_ (bn A sc_law_brings 0 rfl g_len bt_len) (nmB A sc_law_brings 0 rfl rfl rfl) rfl) .ne)))) (fun hc => ?_) (fun hc => ?_)
    · replace H := ifT H hc
      exact ss_ret ev_bl (⟨(congrArg D.bl (Option.some.inj H)), .bl⟩)
    · replace H := ifF H hc
      refine ss_nil ?_
      show SS X _ _ _
      obtain ⟨r_13, hr_13, H⟩ := bindO H
      obtain ⟨s_16, hs_16, H⟩ := bindO H
      refine forR_ (en := D.int) (fun s_14 : Unit => [some (.bor (D.lst (List.map (fun x : (Str × Int × Int) => (D.tup [(D.str x.1), (D.int x.2.1), (D.int x.2.2)])) a_crew))), some (slot2 .b (enO (fun x : (List Int) => (D.tup (List.map D.int x))) a_got)), some (.bor (D.tup (List.map D.str a_wished))), some (.frz (D.int a_slots)), some (.frz (D.int a_sill)), some (.own (D.lst (List.map D.str rivals_6))), none, none, none, none, none]) (fun r d k => d = D.bl r ∧ Fits k .cln (D.bl r)) A (rng1_ (glo A sc_law_brings 3 rfl) (by rw [A.eM]; exact g_range) (lenL_ (bn A sc_law_brings 0 rfl g_len bt_len) (nmB A sc_law_brings 0 rfl rfl rfl) rfl) hr_13 rfl) (tg A sc_law_brings 9 rfl rfl) (fun _ => rfl) hs_16 ?_ ?_ ?_ ?_
      · exact (wkr (wkr (wkr (wkr (wkr (wkr (wkn (wkn (wkn (wkn (wkn wk0)))))))))))
      · intro s_14 z_15 c' hx H
        refine ⟨_, rfl, ?_⟩
        obtain ⟨v_17, hv_17, H⟩ := bindO H
        obtain ⟨x_18, hx_18, H⟩ := bindO H
        obtain ⟨r_19, hr_19, H⟩ := bindO H
        obtain ⟨q_27, hq_27, H⟩ := bindO H
        refine ss_if (Ew.et (ew_orM (et_not (Ev.et (Cal.ev C_law_integer_2 A sc_law_brings 4 rfl (by decide) (ea_cons (ixT_ (f := D.int) (Ev.getO (f := (fun x : (List Int) => (D.tup (List.map D.int x)))) (nm2 A sc_law_brings 1 rfl rfl rfl) hv_17) (nmF A sc_law_brings 9 rfl rfl rfl) hx_18 (fun _ _ => rfl)) ea_nil (.inl rfl) rfl) (.inl rfl) (.inr (.inl rfl)) rfl rfl ⟨x_18, r_19, rfl, hr_19, rfl, rfl⟩) fun _ => rfl)) hq_27 fun H => by obtain ⟨v_20, hv_20, H⟩ := bindO H; obtain ⟨x_21, hx_21, H⟩ := bindO H; obtain ⟨q_26, hq_26, H⟩ := bindO H; obtain rfl := Option.some.inj H; exact (ew_orM (et_cI (ixT_ (f := D.int) (Ev.getO (f := (fun x : (List Int) => (D.tup (List.map D.int x)))) (nm2 A sc_law_brings 1 rfl rfl rfl) hv_20) (nmF A sc_law_brings 9 rfl rfl rfl) hx_21 (fun _ _ => rfl)) ev_int .lt) hq_26 fun H => by obtain ⟨x_22, hx_22, H⟩ := bindO H; obtain ⟨q_25, hq_25, H⟩ := bindO H; obtain rfl := Option.some.inj H; exact (ew_or1 (Ew.et (ew_andM (et_ninTS (ix_ (ixL_ (f := (fun x : (Str × Int × Int) => (D.tup [(D.str x.1), (D.int x.2.1), (D.int x.2.2)]))) (nmB A sc_law_brings 0 rfl rfl rfl) (nmF A sc_law_brings 9 rfl rfl rfl) hx_22 (fun _ _ => rfl)) ev_int (.tup rfl) (fun _ _ => rfl)) (nmB A sc_law_brings 2 rfl rfl rfl)) hq_25 fun H => by obtain ⟨v_23, hv_23, H⟩ := bindO H; obtain ⟨x_24, hx_24, H⟩ := bindO H; obtain rfl := Option.some.inj H; exact (ew_and1 (et_cI (ixT_ (f := D.int) (Ev.getO (f := (fun x : (List Int) => (D.tup (List.map D.int x)))) (nm2 A sc_law_brings 1 rfl rfl rfl) hv_23) (nmF A sc_law_brings 9 rfl rfl rfl) hx_24 (fun _ _ => rfl)) ev_int .gt)))))))) (fun hc => ?_) (fun hc => ?_)
        · replace H := ifT H hc
          exact ss_ret ev_bl (⟨_, (Option.some.inj H).symm, rfl, .bl⟩)
        · replace H := ifF H hc
          refine ss_nil ?_
          show SS X _ _ _
          obtain rfl := Option.some.inj H
          refine ss_nil ⟨_, rfl, ?_⟩
          exact (wkr (wkr (wkr (wkr (wkr (wkr (wkn (wkn (wkn (wkn (wkn wk0)))))))))))
      · intro r_37 d k e ⟨hd, hf⟩
        subst e
        subst hd
        exact ⟨(congrArg D.bl (Option.some.inj H)), (Option.some.inj H) ▸ hf⟩
      · intro s_161 e
        subst e
        obtain ⟨r_28, hr_28, H⟩ := bindO H
        obtain ⟨raised_29, hraised_29, H⟩ := bindO H
        refine set_ A sc_law_brings 10 rfl rfl (Ev.cv (Cal.ev C_law_raised A sc_law_brings 5 rfl (by decide) (ea_cons (nmB A sc_law_brings 0 rfl rfl rfl) (ea_consH (nm2 A sc_law_brings 1 rfl rfl rfl) ea_nil (.inl rfl) rfl) (.inr (.inl rfl)) rfl) (.inr (.inl rfl)) (.inl rfl) rfl rfl ⟨a_crew, a_got, r_28, rfl, hr_28, rfl, rfl⟩) (congrArg (fun x : (List (Str × Int × Int)) => (D.lst (List.map (fun x : (Str × Int × Int) => (D.tup [(D.str x.1), (D.int x.2.1), (D.int x.2.2)])) x))) (Option.some.inj hraised_29))) .own rfl ?_
        obtain ⟨r_30, hr_30, H⟩ := bindO H
        obtain ⟨q_31, hq_31, H⟩ := bindO H
        refine ss_if (et_neG A.room.units (Cal.ev C_law_ladder A sc_law_brings 6 rfl (by decide) (ea_cons (nmO A sc_law_brings 10 rfl rfl rfl) (ea_cons (nmF A sc_law_brings 3 rfl rfl rfl) (ea_cons (nmF A sc_law_brings 4 rfl rfl rfl) ea_nil (.inl rfl) rfl) (.inl rfl) rfl) (.inl rfl) rfl) (.inr (.inr rfl)) (.inr (.inl rfl)) rfl rfl ⟨raised_29, a_slots, a_sill, r_30, rfl, hr_30, rfl, rfl⟩) (nmB A sc_law_brings 2 rfl rfl rfl) hq_31) (fun hc => ?_) (fun hc => ?_)
        · replace H := ifT H hc
          exact ss_ret ev_bl (⟨(congrArg D.bl (Option.some.inj H)), .bl⟩)
        · replace H := ifF H hc
          refine ss_nil ?_
          show SS X _ _ _
          obtain ⟨ys_32, hys_32, H⟩ := bindO H
          obtain ⟨q_34, hq_34, H⟩ := bindO H
          refine ss_if (et_neG A.room.units (Ec.ev (lcP_ (en := (fun x : (Str × Int × Int) => (D.tup [(D.str x.1), (D.int x.2.1), (D.int x.2.2)]))) D.int [("name", 6), ("weight", 7), ("bid", 8)] (fun z_33 : (Str × Int × Int) => (decide ((1000000000 : Int) < z_33.2.2))) (fun z_33 : (Str × Int × Int) => z_33.2.2) .c A sc_law_brings (by decide +kernel) (iter_ (nmO A sc_law_brings 10 rfl rfl rfl) .lstS) hys_32 (Clear_of rfl) (fun Y AY => (tg_tp AY.calm (tgs_cons (tg AY sc_law_brings_c2 6 rfl rfl) (tgs_cons (tg AY sc_law_brings_c2 7 rfl rfl) (tgs_cons (tg AY sc_law_brings_c2 8 rfl rfl) tgs_nil rfl) rfl) rfl) rfl rfl)) (by decide) (fun _ => rfl) (fun z_33 _ => ⟨_, rfl, fun Y AY => (ets_one (et_cI (nmF AY sc_law_brings_c2 8 rfl rfl rfl) (Ev.cv (ev_pow ev_int ev_int ⟨by decide, by decide, by decide⟩) (congrArg D.int (by decide))) .gt)), fun _ => ⟨_, rfl, fun Y AY => (nmF AY sc_law_brings_c2 8 rfl rfl rfl)⟩⟩))) (ev_list ea_nil (.inl rfl) (le_line rfl)) hq_34) (fun hc => ?_) (fun hc => ?_)
          · replace H := ifT H hc
            exact ss_ret ev_bl (⟨(congrArg D.bl (Option.some.inj H)), .bl⟩)
          · replace H := ifF H hc
            refine ss_nil ?_
            show SS X _ _ _
            obtain ⟨r_35, hr_35, H⟩ := bindO H
            obtain ⟨r_36, hr_36, H⟩ := bindO H
            exact ss_ret (Cal.ev C_law_same A sc_law_brings 8 rfl (by decide) (ea_consH (CalK.ev C_ladder_k1_hours_floor A sc_law_brings 7 rfl (by decide) (ea_cons (nmO A sc_law_brings 10 rfl rfl rfl) ea_nil (.inl rfl) rfl) (.inr (.inr rfl)) (ek_cons (nmF A sc_law_brings 3 rfl rfl rfl) (ek_cons (nmF A sc_law_brings 4 rfl rfl rfl) ek_nil (.inl rfl)) (.inl rfl)) (.inl rfl) (.inr (.inl rfl)) rfl rfl rfl rfl rfl rfl ⟨raised_29, a_slots, a_sill, r_35, rfl, hr_35, rfl, rfl⟩) (ea_consH (nmB A sc_law_brings 2 rfl rfl rfl) ea_nil (.inl rfl) rfl) (.inr (.inl rfl)) rfl) (.inr (.inl rfl)) (.inr (.inl rfl)) rfl rfl ⟨(D.tup (List.map D.str r_35)), (D.tup (List.map D.str a_wished)), r_36, rfl, hr_36, rfl, rfl⟩) (⟨(congrArg D.bl (Option.some.inj H)), .bl⟩)
def m_least_raises_2 (a_bidders : (List (Str × Int × Int))) (a_places : (List Int)) (a_hours : Int) (a_floor : Int) : Option (Option (List Int)) :=
  ((m_strengths_of_2 a_bidders).bind fun r_1 => ((some r_1).bind fun strengths_2 => ((rng1G (a_bidders.length : Int)).bind fun r_3 => ((lcG r_3).bind fun ys_4 => ((lcM (fun z_5 : Int => ((if (!(decide (z_5 ∈ a_places))) = true then ((idxG strengths_2 z_5).bind fun x_6 => some (decide (a_floor ≤ x_6))) else some false).bind fun q_7 => some q_7)) (fun z_5 : Int => some z_5) ys_4).bind fun zs_8 => ((some zs_8).bind fun behind_9 => (if ((decide (a_hours < (a_places.length : Int))) || ((decide ((a_places.length : Int) < a_hours)) && (decide ((0 : Int) < (behind_9.length : Int))))) = true then some (none : (Option (List Int))) else ((lcG a_bidders).bind fun ys_10 => ((some (ys_10.map (fun z_11 : (Str × Int × Int) => (0 : Int)))).bind fun raises_12 => ((List.foldlM (fun (s_13 : ((List Int) × (List Int) × (List Int))) (z_14 : Int) => ((lcG s_13.2.1).bind fun ys_16 => ((lcM (fun z_17 : Int => some true) (fun z_17 : Int => ((idxG s_13.1 z_17).bind fun x_18 => some (x_18 + (if (decide (z_17 < z_14)) = true then (1 : Int) else (0 : Int))))) ys_16).bind fun zs_19 => ((catG [a_floor] zs_19).bind fun xs_20 => ((maxG xs_20).bind fun n_21 => ((some n_21).bind fun needed_22 => ((idxG a_bidders z_14).bind fun x_23 => ((some x_23).bind fun p_24 => ((divG (-needed_22) p_24.2.1).bind fun n_25 => ((setG s_13.2.2 z_14 (if ((-n_25) - p_24.2.2) > (0 : Int) then ((-n_25) - p_24.2.2) else (0 : Int) : Int)).bind fun raises_26 => ((idxG raises_26 z_14).bind fun x_27 => ((mulG p_24.2.1 (p_24.2.2 + x_27)).bind fun n_28 => ((setG s_13.1 z_14 n_28).bind fun strengths_29 => ((some [z_14]).bind fun behind_30 => some (strengths_29, behind_30, raises_26))))))))))))))) (strengths_2, behind_9, raises_12) (a_places.reverse)).bind fun s_15 => some (some s_15.2.2)))))))))))
def R_least_raises_2 : Rel := fun ds d k => ∃ (a_bidders : (List (Str × Int × Int))) (a_places : (List Int)) (a_hours : Int) (a_floor : Int) (r : (Option (List Int))), ds = [(D.tup (List.map (fun x : (Str × Int × Int) => (D.tup [(D.str x.1), (D.int x.2.1), (D.int x.2.2)])) a_bidders)), (D.lst (List.map D.int a_places)), (D.int a_hours), (D.int a_floor)] ∧ m_least_raises_2 a_bidders a_places a_hours a_floor = some r ∧ d = (enO (fun x : (List Int) => (D.tup (List.map D.int x)))) r ∧ k = .cln
abbrev N_least_raises_2 : List Str := ["bidders", "places", "hours", "floor", "strengths", "behind", "place", "raises", "_", "needed", "other", "weight", "bid"]
theorem fs_least_raises_2 : FnScope N_least_raises_2 ["bidders", "places", "hours", "floor"] (defScope s_least_raises) := ⟨rfl, rfl, rfl, by decide +kernel, rfl, by decide +kernel, by decide +kernel⟩
theorem sc_least_raises_2 : Sc N_least_raises_2 (defScope s_least_raises) [0, 1, 2, 3, 4, 5, 6, 7, 9, 11, 12] [4, 5, 6, 7, 8, 9, 11, 12] ["strengths_of", "range", "len", "max", "tuple"] := ⟨fs_least_raises_2.nd, by decide +kernel⟩
abbrev cs_least_raises_2_c1 : Scope := compScope (s_least_raises) [1, 1]
theorem sc_least_raises_2_c1 : Sc N_least_raises_2 cs_least_raises_2_c1 [1, 3, 4, 6] [6] [] := ⟨fs_least_raises_2.nd, by decide +kernel⟩
abbrev cs_least_raises_2_c2 : Scope := compScope (s_least_raises) [3, 1]
theorem sc_least_raises_2_c2 : Sc N_least_raises_2 cs_least_raises_2_c2 [] [8] [] := ⟨fs_least_raises_2.nd, by decide +kernel⟩
abbrev cs_least_raises_2_c3 : Scope := compScope (s_least_raises) [4, 2, 1, 1, 1]
theorem sc_least_raises_2_c3 : Sc N_least_raises_2 cs_least_raises_2_c3 [4, 6, 10] [10] [] := ⟨fs_least_raises_2.nd, by decide +kernel⟩
theorem b_least_raises_2 {X : Cx} {Γ : Gd} (A : At X Γ N_least_raises_2 (defScope s_least_raises) 1) (g_len : Γ.mg "len" = none) (g_max : Γ.mg "max" = none) (g_range : Γ.mg "range" = none) (g_tuple : Γ.mg "tuple" = none) (C_strengths_of_2 : Cal Γ "strengths_of" R_strengths_of_2 1 []) {ds : List D} {d : D} {k : Kd} (hR : R_least_raises_2 ds d k) :
    SS X (env0 13 ds) (defBody s_least_raises) { rt := fun d' k' => d' = d ∧ Fits k' k d, nx := fun _ => d = .non ∧ k = .cln } := by
  obtain ⟨a_bidders, a_places, a_hours, a_floor, r, rfl, H, rfl, rfl⟩ := hR
  unfold m_least_raises_2 at H
  obtain ⟨r_1, hr_1, H⟩ := bindO H
  obtain ⟨strengths_2, hstrengths_2, H⟩ := bindO H
  refine set_ A sc_least_raises_2 4 rfl rfl (Ev.cv (Cal.ev C_strengths_of_2 A sc_least_raises_2 0 rfl (by decide) (ea_cons (nmB A sc_least_raises_2 0 rfl rfl rfl) ea_nil (.inl rfl) rfl) (.inr (.inl rfl)) (.inl rfl) rfl rfl ⟨a_bidders, r_1, rfl, hr_1, rfl, rfl⟩) (congrArg (fun x : (List Int) => (D.lst (List.map D.int x))) (Option.some.inj hstrengths_2))) .own rfl ?_
  obtain ⟨r_3, hr_3, H⟩ := bindO H
  obtain ⟨ys_4, hys_4, H⟩ := bindO H
  obtain ⟨zs_8, hzs_8, H⟩ := bindO H
  obtain ⟨behind_9, hbehind_9, H⟩ := bindO H
  refine setLc_ A sc_least_raises_2 5 rfl (by decide +kernel) (by decide +kernel) rfl (by decide +kernel) (Ec.cv (lcM_ (en := D.int) D.int [("place", 6)] .c A sc_least_raises_2 (by decide +kernel) (rng1_ (glo A sc_least_raises_2 1 rfl) (by rw [A.eM]; exact g_range) (lenT_ (bn A sc_least_raises_2 2 rfl g_len bt_len) (nmB A sc_least_raises_2 0 rfl rfl rfl) rfl) hr_3 rfl) hys_4 hzs_8 (Clear_of rfl) (fun Y AY => (tg AY sc_least_raises_2_c1 6 rfl rfl)) (by decide) (fun _ => rfl) (fun z_5 _ => ⟨_, rfl, fun b H Y AY => by obtain ⟨q_7, hq_7, H⟩ := bindO H; obtain rfl := Option.some.inj H; exact (ets_one (Ew.et (ew_andM (et_ninLI (nmF AY sc_least_raises_2_c1 6 rfl rfl rfl) (nmB AY sc_least_raises_2_c1 1 rfl rfl rfl)) hq_7 fun H => by obtain ⟨x_6, hx_6, H⟩ := bindO H; obtain rfl := Option.some.inj H; exact (ew_and1 (et_cI (ixL_ (f := D.int) (nmO AY sc_least_raises_2_c1 4 rfl rfl rfl) (nmF AY sc_least_raises_2_c1 6 rfl rfl rfl) hx_6 (fun _ _ => rfl)) (nmF AY sc_least_raises_2_c1 3 rfl rfl rfl) .ge))))), fun y _ H => by obtain rfl := Option.some.inj H; exact ⟨_, rfl, fun Y AY => (nmF AY sc_least_raises_2_c1 6 rfl rfl rfl)⟩⟩)) (congrArg (fun x : (List Int) => (D.lst (List.map D.int x))) (Option.some.inj hbehind_9))) .own ?_
  refine ss_if (Ew.et (ew_or (et_cI (lenL_ (bn A sc_least_raises_2 2 rfl g_len bt_len) (nmB A sc_least_raises_2 1 rfl rfl rfl) rfl) (nmF A sc_least_raises_2 2 rfl rfl rfl) .gt) fun _ => (ew_or1 (Ew.et (ew_and (et_cI (lenL_ (bn A sc_least_raises_2 2 rfl g_len bt_len) (nmB A sc_least_raises_2 1 rfl rfl rfl) rfl) (nmF A sc_least_raises_2 2 rfl rfl rfl) .lt) fun _ => (ew_and1 (et_cI (lenL_ (bn A sc_least_raises_2 2 rfl g_len bt_len) (nmO A sc_least_raises_2 5 rfl rfl rfl) rfl) ev_int .gt))))))) (fun hc => ?_) (fun hc => ?_)
  · replace H := ifT H hc
    exact ss_ret (Ev.cv ev_non rfl) (⟨(congrArg (enO (fun x : (List Int) => (D.tup (List.map D.int x)))) (Option.some.inj H)), .refl⟩)
  · replace H := ifF H hc
    refine ss_nil ?_
    show SS X _ _ _
    obtain ⟨ys_10, hys_10, H⟩ := bindO H
    obtain ⟨raises_12, hraises_12, H⟩ := bindO H
    refine setLc_ A sc_least_raises_2 7 rfl (by decide +kernel) (by decide +kernel) rfl (by decide +kernel) (Ec.cv (Ec.cv (lcP_ (en := (fun x : (Str × Int × Int) => (D.tup [(D.str x.1), (D.int x.2.1), (D.int x.2.2)]))) D.int [("_", 8)] (fun z_11 : (Str × Int × Int) => true) (fun z_11 : (Str × Int × Int) => (0 : Int)) .c A sc_least_raises_2 (by decide +kernel) (iter_ (nmB A sc_least_raises_2 0 rfl rfl rfl) .tupB) hys_10 (Clear_of rfl) (fun Y AY => (tg AY sc_least_raises_2_c2 8 rfl rfl)) (by decide) (fun _ => rfl) (fun z_11 _ => ⟨_, rfl, fun Y AY => ets_nil, fun _ => ⟨_, rfl, fun Y AY => ev_int⟩⟩)) (by rw [List.filter_eq_self.mpr (fun _ _ => rfl)])) (congrArg (fun x : (List Int) => (D.lst (List.map D.int x))) (Option.some.inj hraises_12))) .own ?_
    obtain ⟨s_15, hs_15, H⟩ := bindO H
    refine forM_ (en := D.int) (fun s_13 : ((List Int) × (List Int) × (List Int)) => [some (.bor (D.tup (List.map (fun x : (Str × Int × Int) => (D.tup [(D.str x.1), (D.int x.2.1), (D.int x.2.2)])) a_bidders))), some (.bor (D.lst (List.map D.int a_places))), some (.frz (D.int a_hours)), some (.frz (D.int a_floor)), some (.own (D.lst (List.map D.int s_13.1))), some (.own (D.lst (List.map D.int s_13.2.1))), none, some (.own (D.lst (List.map D.int s_13.2.2))), none, none, none, none, none]) A (iter_ (revL_ (nmB A sc_least_raises_2 1 rfl rfl rfl)) .lstB) (tg A sc_least_raises_2 6 rfl rfl) (fun _ => rfl) hs_15 ?_ ?_ ?_
    · exact (wkr (wkr (wkr (wkr (wkr (wkr (wkn (wkr (wkn (wkn (wkn (wkn (wkn wk0)))))))))))))
    · intro s_13 z_14 s' hx H
      refine ⟨_, rfl, ?_⟩
      obtain ⟨ys_16, hys_16, H⟩ := bindO H
      obtain ⟨zs_19, hzs_19, H⟩ := bindO H
      obtain ⟨xs_20, hxs_20, H⟩ := bindO H
      obtain ⟨n_21, hn_21, H⟩ := bindO H
      obtain ⟨needed_22, hneeded_22, H⟩ := bindO H
      refine set_ A sc_least_raises_2 9 rfl rfl (Ev.cv (maxL_ A.calm (bn A sc_least_raises_2 3 rfl g_max bt_max) (catL_ (f := D.int) (Ev.cv (ev_list (ea_cons (nmF A sc_least_raises_2 3 rfl rfl rfl) ea_nil (.inl rfl) rfl) (.inl rfl) (le_line rfl)) rfl) (Ec.ev (lcM_ (en := D.int) D.int [("other", 10)] .c A sc_least_raises_2 (by decide +kernel) (iter_ (nmO A sc_least_raises_2 5 rfl rfl rfl) .lstS) hys_16 hzs_19 (Clear_of rfl) (fun Y AY => (tg AY sc_least_raises_2_c3 10 rfl rfl)) (by decide) (fun _ => rfl) (fun z_17 _ => ⟨_, rfl, fun b H Y AY => by obtain rfl := Option.some.inj H; exact ets_nil, fun y _ H => by obtain ⟨x_18, hx_18, H⟩ := bindO H; obtain rfl := Option.some.inj H; exact ⟨_, rfl, fun Y AY => (ev_add (ixL_ (f := D.int) (nmO AY sc_least_raises_2_c3 4 rfl rfl rfl) (nmF AY sc_least_raises_2_c3 10 rfl rfl rfl) hx_18 (fun _ _ => rfl)) (ev_ifP (en := D.int) (et_cI (nmF AY sc_least_raises_2_c3 10 rfl rfl rfl) (nmF AY sc_least_raises_2_c3 6 rfl rfl rfl) .lt) ev_int ev_int))⟩⟩))) hxs_20) hn_21 rfl) (congrArg D.int (Option.some.inj hneeded_22))) .int rfl ?_
      obtain ⟨x_23, hx_23, H⟩ := bindO H
      obtain ⟨p_24, hp_24, H⟩ := bindO H
      refine asg_ (kz := .b) (Ev.cv (ixT_ (f := (fun x : (Str × Int × Int) => (D.tup [(D.str x.1), (D.int x.2.1), (D.int x.2.2)]))) (nmB A sc_least_raises_2 0 rfl rfl rfl) (nmF A sc_least_raises_2 6 rfl rfl rfl) hx_23 (fun _ _ => rfl)) (congrArg (fun x : (Str × Int × Int) => (D.tup [(D.str x.1), (D.int x.2.1), (D.int x.2.2)])) (Option.some.inj hp_24))) (tg_tp A.calm (tgs_cons (tg A sc_least_raises_2 8 rfl rfl) (tgs_cons (tg A sc_least_raises_2 11 rfl rfl) (tgs_cons (tg A sc_least_raises_2 12 rfl rfl) tgs_nil rfl) rfl) rfl) rfl rfl) rfl rfl rfl rfl ?_
      obtain ⟨n_25, hn_25, H⟩ := bindO H
      obtain ⟨raises_26, hraises_26, H⟩ := bindO H
      refine setL_ (en := D.int) (x := (if ((-n_25) - p_24.2.2) > (0 : Int) then ((-n_25) - p_24.2.2) else (0 : Int) : Int)) A sc_least_raises_2 7 rfl rfl rfl (ev_max2 A.calm (bn A sc_least_raises_2 3 rfl g_max bt_max) ev_int (ev_sub (ev_neg (div_ (ev_neg (nmF A sc_least_raises_2 9 rfl rfl rfl)) (nmF A sc_least_raises_2 11 rfl rfl rfl) hn_25)) (nmF A sc_least_raises_2 12 rfl rfl rfl)) rfl rfl) rfl (nmF A sc_least_raises_2 6 rfl rfl rfl) hraises_26 (fun _ => rfl) rfl rfl rfl ?_
      obtain ⟨x_27, hx_27, H⟩ := bindO H
      obtain ⟨n_28, hn_28, H⟩ := bindO H
      obtain ⟨strengths_29, hstrengths_29, H⟩ := bindO H
      refine setL_ (en := D.int) (x := n_28) A sc_least_raises_2 4 rfl rfl rfl (mul_ (nmF A sc_least_raises_2 11 rfl rfl rfl) (ev_add (nmF A sc_least_raises_2 12 rfl rfl rfl) (ixL_ (f := D.int) (nmO A sc_least_raises_2 7 rfl rfl rfl) (nmF A sc_least_raises_2 6 rfl rfl rfl) hx_27 (fun _ _ => rfl))) hn_28) rfl (nmF A sc_least_raises_2 6 rfl rfl rfl) hstrengths_29 (fun _ => rfl) rfl rfl rfl ?_
      obtain ⟨behind_30, hbehind_30, H⟩ := bindO H
      refine set_ A sc_least_raises_2 5 rfl rfl (Ev.cv (Ev.cv (ev_list (ea_cons (nmF A sc_least_raises_2 6 rfl rfl rfl) ea_nil (.inl rfl) rfl) (.inl rfl) (le_line rfl)) rfl) (congrArg (fun x : (List Int) => (D.lst (List.map D.int x))) (Option.some.inj hbehind_30))) .own rfl ?_
      obtain rfl := Option.some.inj H
      refine ss_nil ?_
      exact (wkr (wkr (wkr (wkr (wkr (wkr (wkn (wkr (wkn (wkn (wkn (wkn (wkn wk0)))))))))))))
    exact ss_ret (Ev.cv (tuple_ (bn A sc_least_raises_2 4 rfl g_tuple bt_tuple) (nmO A sc_least_raises_2 7 rfl rfl rfl) .lst rfl) rfl) (⟨(congrArg (enO (fun x : (List Int) => (D.tup (List.map D.int x)))) (Option.some.inj H)), .refl⟩)
def m_raises_for_2 (a_bidders : (List (Str × Int × Int))) (a_names : (List Str)) (a_hours : Int) (a_floor : Int) : Option (Option (List Int)) :=
  ((m_check_bidders_2 a_bidders).bind fun r_1 => ((m_check_hours a_hours).bind fun r_2 => ((m_check_floor a_floor).bind fun r_3 => ((m_names_of_2 a_bidders).bind fun r_4 => ((some r_4).bind fun known_5 => ((List.foldlM (fun (s_6 : Unit) (z_7 : (Int × Str)) => ((m_check_known known_5 [z_7.2]).bind fun r_9 => (if (decide (z_7.2 ∈ (cutX a_names none (some z_7.1)))) = true then none else some ()))) () (enumL a_names)).bind fun s_8 => ((lcG a_names).bind fun ys_10 => ((lcM (fun z_11 : Str => some true) (fun z_11 : Str => ((fndG known_5 z_11).bind fun i_12 => some i_12)) ys_10).bind fun zs_13 => ((m_least_raises_2 a_bidders zs_13 a_hours a_floor).bind fun r_14 => some r_14)))))))))
def R_raises_for_2 : Rel := fun ds d k => ∃ (a_bidders : (List (Str × Int × Int))) (a_names : (List Str)) (a_hours : Int) (a_floor : Int) (r : (Option (List Int))), ds = [(D.tup (List.map (fun x : (Str × Int × Int) => (D.tup [(D.str x.1), (D.int x.2.1), (D.int x.2.2)])) a_bidders)), (D.tup (List.map D.str a_names)), (D.int a_hours), (D.int a_floor)] ∧ m_raises_for_2 a_bidders a_names a_hours a_floor = some r ∧ d = (enO (fun x : (List Int) => (D.tup (List.map D.int x)))) r ∧ k = .cln
abbrev N_raises_for_2 : List Str := ["bidders", "names", "hours", "floor", "known", "at", "name"]
theorem fs_raises_for_2 : FnScope N_raises_for_2 ["bidders", "names", "hours", "floor"] (defScope s_raises_for) := ⟨rfl, rfl, rfl, by decide +kernel, rfl, by decide +kernel, by decide +kernel⟩
theorem sc_raises_for_2 : Sc N_raises_for_2 (defScope s_raises_for) [0, 1, 2, 3, 4, 5, 6] [4, 5, 6] ["check_bidders", "check_hours", "check_floor", "names_of", "enumerate", "check_known", "least_raises"] := ⟨fs_raises_for_2.nd, by decide +kernel⟩
abbrev cs_raises_for_2_c1 : Scope := compScope (s_raises_for) [5, 0, 2]
theorem sc_raises_for_2_c1 : Sc N_raises_for_2 cs_raises_for_2_c1 [4, 6] [6] [] := ⟨fs_raises_for_2.nd, by decide +kernel⟩
theorem b_raises_for_2 {X : Cx} {Γ : Gd} (A : At X Γ N_raises_for_2 (defScope s_raises_for) 2) (g_enumerate : Γ.mg "enumerate" = none) (C_check_bidders_2 : Cal Γ "check_bidders" R_check_bidders_2 2 []) (C_check_floor : Cal Γ "check_floor" R_check_floor 1 []) (C_check_hours : Cal Γ "check_hours" R_check_hours 1 []) (C_check_known : Cal Γ "check_known" R_check_known 1 []) (C_least_raises_2 : Cal Γ "least_raises" R_least_raises_2 2 []) (C_names_of_2 : Cal Γ "names_of" R_names_of_2 1 []) {ds : List D} {d : D} {k : Kd} (hR : R_raises_for_2 ds d k) :
    SS X (env0 7 ds) (defBody s_raises_for) { rt := fun d' k' => d' = d ∧ Fits k' k d, nx := fun _ => d = .non ∧ k = .cln } := by
  obtain ⟨a_bidders, a_names, a_hours, a_floor, r, rfl, H, rfl, rfl⟩ := hR
  unfold m_raises_for_2 at H
  obtain ⟨r_1, hr_1, H⟩ := bindO H
  refine ss_ex (Cal.ev C_check_bidders_2 A sc_raises_for_2 0 rfl (by decide) (ea_cons (nmB A sc_raises_for_2 0 rfl rfl rfl) ea_nil (.inl rfl) rfl) (.inr (.inl rfl)) (.inr (.inl rfl)) rfl rfl ⟨a_bidders, r_1, rfl, hr_1, rfl, rfl⟩) rfl ?_
  obtain ⟨r_2, hr_2, H⟩ := bindO H
  refine ss_ex (Cal.ev C_check_hours A sc_raises_for_2 1 rfl (by decide) (ea_cons (nmF A sc_raises_for_2 2 rfl rfl rfl) ea_nil (.inl rfl) rfl) (.inl rfl) (.inr (.inl rfl)) rfl rfl ⟨a_hours, r_2, rfl, hr_2, rfl, rfl⟩) rfl ?_
  obtain ⟨r_3, hr_3, H⟩ := bindO H
  refine ss_ex (Cal.ev C_check_floor A sc_raises_for_2 2 rfl (by decide) (ea_cons (nmF A sc_raises_for_2 3 rfl rfl rfl) ea_nil (.inl rfl) rfl) (.inl rfl) (.inr (.inl rfl)) rfl rfl ⟨a_floor, r_3, rfl, hr_3, rfl, rfl⟩) rfl ?_
  obtain ⟨r_4, hr_4, H⟩ := bindO H
  obtain ⟨known_5, hknown_5, H⟩ := bindO H
  refine set_ A sc_raises_for_2 4 rfl rfl (Ev.cv (Cal.ev C_names_of_2 A sc_raises_for_2 3 rfl (by decide) (ea_cons (nmB A sc_raises_for_2 0 rfl rfl rfl) ea_nil (.inl rfl) rfl) (.inr (.inl rfl)) (.inl rfl) rfl rfl ⟨a_bidders, r_4, rfl, hr_4, rfl, rfl⟩) (congrArg (fun x : (List Str) => (D.lst (List.map D.str x))) (Option.some.inj hknown_5))) .own rfl ?_
  obtain ⟨s_8, hs_8, H⟩ := bindO H
  refine forM_ (en := (fun x : (Int × Str) => (D.tup [(D.int x.1), (D.str x.2)]))) (fun s_6 : Unit => [some (.bor (D.tup (List.map (fun x : (Str × Int × Int) => (D.tup [(D.str x.1), (D.int x.2.1), (D.int x.2.2)])) a_bidders))), some (.bor (D.tup (List.map D.str a_names))), some (.frz (D.int a_hours)), some (.frz (D.int a_floor)), some (.own (D.lst (List.map D.str known_5))), none, none]) A (enumTB_ (f := D.str) (glo A sc_raises_for_2 4 rfl) (by rw [A.eM]; exact g_enumerate) (nmB A sc_raises_for_2 1 rfl rfl rfl) rfl) (tg_tp A.calm (tgs_cons (tg A sc_raises_for_2 5 rfl rfl) (tgs_cons (tg A sc_raises_for_2 6 rfl rfl) tgs_nil rfl) rfl) rfl rfl) (fun _ => rfl) hs_8 ?_ ?_ ?_
  · exact (wkr (wkr (wkr (wkr (wkr (wkn (wkn wk0)))))))
  · intro s_6 z_7 s' hx H
    refine ⟨_, rfl, ?_⟩
    obtain ⟨r_9, hr_9, H⟩ := bindO H
    refine ss_ex (Cal.ev C_check_known A sc_raises_for_2 5 rfl (by decide) (ea_cons (nmO A sc_raises_for_2 4 rfl rfl rfl) (ea_cons (Ev.cv (ev_list (ea_cons (nmF A sc_raises_for_2 6 rfl rfl rfl) ea_nil (.inl rfl) rfl) (.inl rfl) (le_line rfl)) rfl) ea_nil (.inl rfl) rfl) (.inl rfl) rfl) (.inr (.inr rfl)) (.inr (.inl rfl)) rfl rfl ⟨known_5, [z_7.2], r_9, rfl, hr_9, rfl, rfl⟩) rfl ?_
    refine ss_if (et_inTS (nmF A sc_raises_for_2 6 rfl rfl rfl) (slT_ (nmB A sc_raises_for_2 1 rfl rfl rfl) eo_none (eo_some (nmF A sc_raises_for_2 5 rfl rfl rfl)))) (fun hc => ?_) (fun hc => ?_)
    · replace H := ifT H hc
      cases H
    · replace H := ifF H hc
      refine ss_nil ?_
      show SS X _ _ _
      obtain rfl := Option.some.inj H
      refine ss_nil ?_
      exact (wkr (wkr (wkr (wkr (wkr (wkn (wkn wk0)))))))
  obtain ⟨ys_10, hys_10, H⟩ := bindO H
  obtain ⟨zs_13, hzs_13, H⟩ := bindO H
  obtain ⟨r_14, hr_14, H⟩ := bindO H
  exact ss_ret (Cal.ev C_least_raises_2 A sc_raises_for_2 6 rfl (by decide) (ea_cons (nmB A sc_raises_for_2 0 rfl rfl rfl) (ea_cons (Ec.ev (lcM_ (en := D.str) D.int [("name", 6)] .c A sc_raises_for_2 (by decide +kernel) (iter_ (nmB A sc_raises_for_2 1 rfl rfl rfl) .tupB) hys_10 hzs_13 (Clear_of rfl) (fun Y AY => (tg AY sc_raises_for_2_c1 6 rfl rfl)) (by decide) (fun _ => rfl) (fun z_11 _ => ⟨_, rfl, fun b H Y AY => by obtain rfl := Option.some.inj H; exact ets_nil, fun y _ H => by obtain ⟨i_12, hi_12, H⟩ := bindO H; obtain rfl := Option.some.inj H; exact ⟨_, rfl, fun Y AY => (indexLS_ (nmO AY sc_raises_for_2_c1 4 rfl rfl rfl) (nmF AY sc_raises_for_2_c1 6 rfl rfl rfl) hi_12 ⟨rfl, rfl, rfl⟩)⟩⟩))) (ea_cons (nmF A sc_raises_for_2 2 rfl rfl rfl) (ea_cons (nmF A sc_raises_for_2 3 rfl rfl rfl) ea_nil (.inl rfl) rfl) (.inl rfl) rfl) (.inl rfl) rfl) (.inl rfl) rfl) (.inr (.inl rfl)) (.inr (.inl rfl)) rfl rfl ⟨a_bidders, zs_13, a_hours, a_floor, r_14, rfl, hr_14, rfl, rfl⟩) (⟨(congrArg (enO (fun x : (List Int) => (D.tup (List.map D.int x)))) (Option.some.inj H)), .refl⟩)
def m_law_other_half (a_script : (List Int)) : Option Bool :=
  ((m_law_cell a_script (1 : Int)).bind fun r_1 => ((m_law_pool r_1 (10 : Int)).bind fun r_2 => ((some r_2).bind fun rest_3 => ((m_law_cell a_script (0 : Int)).bind fun r_4 => ((m_law_pool r_4 (35 : Int)).bind fun r_5 => ((m_law_part rest_3 (0 : Int) (1 : Int) (7 : Int)).bind fun r_6 => ((m_law_bidders r_5 (0 : Int) r_6).bind fun r_7 => ((some r_7).bind fun crew_8 => ((m_law_part rest_3 (0 : Int) (7 : Int) (3 : Int)).bind fun r_9 => ((some ((1 : Int) + r_9)).bind fun slots_10 => ((m_law_sill rest_3 (1 : Int) crew_8).bind fun r_11 => ((some r_11).bind fun sill_12 => ((m_law_part rest_3 (0 : Int) (42 : Int) (5 : Int)).bind fun r_13 => ((some r_13).bind fun number_14 => ((m_law_part rest_3 (0 : Int) (21 : Int) (2 : Int)).bind fun r_15 => ((if (decide (r_15 = (0 : Int))) = true then ((some slots_10).bind fun number_17 => some number_17) else some number_14 : Option (Int)).bind fun s_16 => ((m_law_wished rest_3 (6 : Int) crew_8 s_16).bind fun r_18 => ((some r_18).bind fun wished_19 => ((some crew_8).bind fun given_20 => ((m_raises_for given_20 wished_19 slots_10 sill_12).bind fun r_21 => ((some r_21).bind fun got_22 => ((m_law_brings crew_8 got_22 wished_19 slots_10 sill_12).bind fun r_23 => ((if (!r_23) = true then some true else ((m_law_same 8 (D.lst (List.map (fun x : (Str × Int × Int) => (D.tup [(D.str x.1), (D.int x.2.1), (D.int x.2.2)])) given_20)) (D.lst (List.map (fun x : (Str × Int × Int) => (D.tup [(D.str x.1), (D.int x.2.1), (D.int x.2.2)])) crew_8))).bind fun r_24 => some (!r_24))).bind fun q_25 => (if q_25 = true then some false else ((m_raises_for_2 crew_8 (wished_19.reverse) slots_10 (0 : Int)).bind fun r_26 => ((m_law_brings crew_8 r_26 (wished_19.reverse) slots_10 (0 : Int)).bind fun r_27 => (if (!r_27) = true then some false else ((m_raises_for given_20 wished_19 (1 : Int) sill_12).bind fun r_28 => ((m_law_brings crew_8 r_28 wished_19 (1 : Int) sill_12).bind fun r_29 => (if (!r_29) = true then some false else ((m_raises_for given_20 wished_19 (1 : Int) (0 : Int)).bind fun r_30 => ((m_law_brings crew_8 r_30 wished_19 (1 : Int) (0 : Int)).bind fun r_31 => (if (!r_31) = true then some false else ((m_raises_for crew_8 wished_19 slots_10 sill_12).bind fun r_32 => ((m_law_same 8 (enO (fun x : (List Int) => (D.tup (List.map D.int x))) r_32) (enO (fun x : (List Int) => (D.tup (List.map D.int x))) got_22)).bind fun r_33 => ((if r_33 = true then ((m_law_same 8 (D.lst (List.map (fun x : (Str × Int × Int) => (D.tup [(D.str x.1), (D.int x.2.1), (D.int x.2.2)])) given_20)) (D.lst (List.map (fun x : (Str × Int × Int) => (D.tup [(D.str x.1), (D.int x.2.1), (D.int x.2.2)])) crew_8))).bind fun r_34 => some r_34) else some false).bind fun q_35 => some q_35))))))))))))))))))))))))))))))))))))
def R_law_other_half : Rel := fun ds d k => ∃ (a_script : (List Int)) (r : Bool), ds = [(D.scr a_script)] ∧ m_law_other_half a_script = some r ∧ d = D.bl r ∧ k = .cln
abbrev N_law_other_half : List Str := ["script", "rest", "crew", "slots", "sill", "number", "wished", "given", "got"]
theorem fs_law_other_half : FnScope N_law_other_half ["script"] (defScope s_law_other_half) := ⟨rfl, rfl, rfl, by decide +kernel, rfl, by decide +kernel, by decide +kernel⟩
theorem sc_law_other_half : Sc N_law_other_half (defScope s_law_other_half) [0, 1, 2, 3, 4, 5, 6, 7, 8] [1, 2, 3, 4, 5, 6, 7, 8] ["_law_cell", "_law_pool", "_law_part", "_law_bidders", "_law_sill", "_law_wished", "list", "raises_for", "_law_brings", "_law_same", "tuple"] := ⟨fs_law_other_half.nd, by decide +kernel⟩
theorem b_law_other_half {X : Cx} {Γ : Gd} (A : At X Γ N_law_other_half (defScope s_law_other_half) 11) (g_list : Γ.mg "list" = none) (g_tuple : Γ.mg "tuple" = none) (C_law_bidders : Cal Γ "_law_bidders" R_law_bidders 3 []) (C_law_brings : Cal Γ "_law_brings" R_law_brings 11 []) (C_law_cell : Cal Γ "_law_cell" R_law_cell 1 []) (C_law_part : Cal Γ "_law_part" R_law_part 1 []) (C_law_pool : Cal Γ "_law_pool" R_law_pool 2 []) (C_law_same : Cal Γ "_law_same" (R_law_same 8) (2 + 8) []) (C_law_sill : Cal Γ "_law_sill" R_law_sill 2 []) (C_law_wished : Cal Γ "_law_wished" R_law_wished 2 []) (C_raises_for_2_k2_hours : CalK Γ "raises_for" R_raises_for_2 3 2 ["hours"] (fun a b => pick a [] [(D.int (0 : Int))] b [.p 0, .p 1, .k 0, .m 0])) (C_raises_for_k2_floor : CalK Γ "raises_for" R_raises_for 3 2 ["floor"] (fun a b => pick a [] [(D.int (1 : Int))] b [.p 0, .p 1, .m 0, .k 0])) (C_raises_for_k2_hours_floor : CalK Γ "raises_for" R_raises_for 3 2 ["hours", "floor"] (fun a b => pick a [] [] b [.p 0, .p 1, .k 0, .k 1])) (C_raises_for_p2 : Cal Γ "raises_for" R_raises_for 3 [(D.int (1 : Int)), (D.int (0 : Int))]) {ds : List D} {d : D} {k : Kd} (hR : R_law_other_half ds d k) :
    SS X (env0 9 ds) (defBody s_law_other_half) { rt := fun d' k' => d' = d ∧ Fits k' k d, nx := fun _ => d = .non ∧ k = .cln } := by
  obtain ⟨a_script, r, rfl, H, rfl, rfl⟩ := hR
  unfold m_law_other_half at H
  obtain ⟨r_1, hr_1, H⟩ := bindO H
  obtain ⟨r_2, hr_2, H⟩ := bindO H
  obtain ⟨rest_3, hrest_3, H⟩ := bindO H
  refine set_ A sc_law_other_half 1 rfl rfl (Ev.cv (Cal.ev C_law_pool A sc_law_other_half 1 rfl (by decide) (ea_cons (Cal.ev C_law_cell A sc_law_other_half 0 rfl (by decide) (ea_cons (nmB A sc_law_other_half 0 rfl rfl rfl) (ea_cons ev_int ea_nil (.inl rfl) rfl) (.inl rfl) rfl) (.inr (.inl rfl)) (.inr (.inl rfl)) rfl rfl ⟨a_script, (1 : Int), r_1, rfl, hr_1, rfl, rfl⟩) (ea_cons ev_int ea_nil (.inl rfl) rfl) (.inl rfl) rfl) (.inl rfl) (.inl rfl) rfl rfl ⟨r_1, (10 : Int), r_2, rfl, hr_2, rfl, rfl⟩) (congrArg (fun x : (List Int) => (D.lst (List.map D.int x))) (Option.some.inj hrest_3))) .own rfl ?_
  obtain ⟨r_4, hr_4, H⟩ := bindO H
  obtain ⟨r_5, hr_5, H⟩ := bindO H
  obtain ⟨r_6, hr_6, H⟩ := bindO H
  obtain ⟨r_7, hr_7, H⟩ := bindO H
  obtain ⟨crew_8, hcrew_8, H⟩ := bindO H
  refine set_ A sc_law_other_half 2 rfl rfl (Ev.cv (Cal.ev C_law_bidders A sc_law_other_half 3 rfl (by decide) (ea_cons (Cal.ev C_law_pool A sc_law_other_half 1 rfl (by decide) (ea_cons (Cal.ev C_law_cell A sc_law_other_half 0 rfl (by decide) (ea_cons (nmB A sc_law_other_half 0 rfl rfl rfl) (ea_cons ev_int ea_nil (.inl rfl) rfl) (.inl rfl) rfl) (.inr (.inl rfl)) (.inr (.inl rfl)) rfl rfl ⟨a_script, (0 : Int), r_4, rfl, hr_4, rfl, rfl⟩) (ea_cons ev_int ea_nil (.inl rfl) rfl) (.inl rfl) rfl) (.inl rfl) (.inl rfl) rfl rfl ⟨r_4, (35 : Int), r_5, rfl, hr_5, rfl, rfl⟩) (ea_cons ev_int (ea_cons (Cal.ev C_law_part A sc_law_other_half 2 rfl (by decide) (ea_cons (nmO A sc_law_other_half 1 rfl rfl rfl) (ea_cons ev_int (ea_cons ev_int (ea_cons ev_int ea_nil (.inl rfl) rfl) (.inl rfl) rfl) (.inl rfl) rfl) (.inl rfl) rfl) (.inr (.inr rfl)) (.inr (.inl rfl)) rfl rfl ⟨rest_3, (0 : Int), (1 : Int), (7 : Int), r_6, rfl, hr_6, rfl, rfl⟩) ea_nil (.inl rfl) rfl) (.inl rfl) rfl) (.inl rfl) rfl) (.inl rfl) (.inl rfl) rfl rfl ⟨r_5, (0 : Int), r_6, r_7, rfl, hr_7, rfl, rfl⟩) (congrArg (fun x : (List (Str × Int × Int)) => (D.lst (List.map (fun x : (Str × Int × Int) => (D.tup [(D.str x.1), (D.int x.2.1), (D.int x.2.2)])) x))) (Option.some.inj hcrew_8))) .own rfl ?_
  obtain ⟨r_9, hr_9, H⟩ := bindO H
  obtain ⟨slots_10, hslots_10, H⟩ := bindO H
  refine set_ A sc_law_other_half 3 rfl rfl (Ev.cv (ev_add ev_int (Cal.ev C_law_part A sc_law_other_half 2 rfl (by decide) (ea_cons (nmO A sc_law_other_half 1 rfl rfl rfl) (ea_cons ev_int (ea_cons ev_int (ea_cons ev_int ea_nil (.inl rfl) rfl) (.inl rfl) rfl) (.inl rfl) rfl) (.inl rfl) rfl) (.inr (.inr rfl)) (.inr (.inl rfl)) rfl rfl ⟨rest_3, (0 : Int), (7 : Int), (3 : Int), r_9, rfl, hr_9, rfl, rfl⟩)) (congrArg D.int (Option.some.inj hslots_10))) .int rfl ?_
  obtain ⟨r_11, hr_11, H⟩ := bindO H
  obtain ⟨sill_12, hsill_12, H⟩ := bindO H
  refine set_ A sc_law_other_half 4 rfl rfl (Ev.cv (Cal.ev C_law_sill A sc_law_other_half 4 rfl (by decide) (ea_cons (nmO A sc_law_other_half 1 rfl rfl rfl) (ea_cons ev_int (ea_cons (nmO A sc_law_other_half 2 rfl rfl rfl) ea_nil (.inl rfl) rfl) (.inr (.inr rfl)) rfl) (.inr (.inr rfl)) rfl) (.inr (.inr rfl)) (.inr (.inl rfl)) rfl rfl ⟨rest_3, (1 : Int), crew_8, r_11, rfl, hr_11, rfl, rfl⟩) (congrArg D.int (Option.some.inj hsill_12))) .int rfl ?_
  obtain ⟨r_13, hr_13, H⟩ := bindO H
  obtain ⟨number_14, hnumber_14, H⟩ := bindO H
  refine set_ A sc_law_other_half 5 rfl rfl (Ev.cv (Cal.ev C_law_part A sc_law_other_half 2 rfl (by decide) (ea_cons (nmO A sc_law_other_half 1 rfl rfl rfl) (ea_cons ev_int (ea_cons ev_int (ea_cons ev_int ea_nil (.inl rfl) rfl) (.inl rfl) rfl) (.inl rfl) rfl) (.inl rfl) rfl) (.inr (.inr rfl)) (.inr (.inl rfl)) rfl rfl ⟨rest_3, (0 : Int), (42 : Int), (5 : Int), r_13, rfl, hr_13, rfl, rfl⟩) (congrArg D.int (Option.some.inj hnumber_14))) .int rfl ?_
  obtain ⟨r_15, hr_15, H⟩ := bindO H
  obtain ⟨s_16, hs_16, H⟩ := bindO H
  refine ss_ifM [some (.bor (D.scr a_script)), some (.own (D.lst (List.map D.int rest_3))), some (.own (D.lst (List.map (fun x : (Str × Int × Int) => (D.tup [(D.str x.1), (D.int x.2.1), (D.int x.2.2)])) crew_8))), some (.frz (D.int slots_10)), some (.frz (D.int sill_12)), some (.frz (D.int s_16)), none, none, none] (et_cI (Cal.ev C_law_part A sc_law_other_half 2 rfl (by decide) (ea_cons (nmO A sc_law_other_half 1 rfl rfl rfl) (ea_cons ev_int (ea_cons ev_int (ea_cons ev_int ea_nil (.inl rfl) rfl) (.inl rfl) rfl) (.inl rfl) rfl) (.inl rfl) rfl) (.inr (.inr rfl)) (.inr (.inl rfl)) rfl rfl ⟨rest_3, (0 : Int), (21 : Int), (2 : Int), r_15, rfl, hr_15, rfl, rfl⟩) ev_int .eq) ?_ (fun hc => ?_) (fun hc => ?_)
  · skip
    obtain ⟨r_18, hr_18, H⟩ := bindO H
    obtain ⟨wished_19, hwished_19, H⟩ := bindO H
    refine set_ A sc_law_other_half 6 rfl rfl (Ev.cv (Cal.ev C_law_wished A sc_law_other_half 5 rfl (by decide) (ea_cons (nmO A sc_law_other_half 1 rfl rfl rfl) (ea_cons ev_int (ea_cons (nmO A sc_law_other_half 2 rfl rfl rfl) (ea_cons (nmF A sc_law_other_half 5 rfl rfl rfl) ea_nil (.inl rfl) rfl) (.inl rfl) rfl) (.inr (.inr rfl)) rfl) (.inr (.inr rfl)) rfl) (.inr (.inr rfl)) (.inr (.inl rfl)) rfl rfl ⟨rest_3, (6 : Int), crew_8, s_16, r_18, rfl, hr_18, rfl, rfl⟩) (congrArg (fun x : (List Str) => (D.tup (List.map D.str x))) (Option.some.inj hwished_19))) .cln rfl ?_
    obtain ⟨given_20, hgiven_20, H⟩ := bindO H
    refine set_ A sc_law_other_half 7 rfl rfl (Ev.cv (list_ (bn A sc_law_other_half 6 rfl g_list bt_list) (nmO A sc_law_other_half 2 rfl rfl rfl) .lst rfl) (congrArg (fun x : (List (Str × Int × Int)) => (D.lst (List.map (fun x : (Str × Int × Int) => (D.tup [(D.str x.1), (D.int x.2.1), (D.int x.2.2)])) x))) (Option.some.inj hgiven_20))) .own rfl ?_
    obtain ⟨r_21, hr_21, H⟩ := bindO H
    obtain ⟨got_22, hgot_22, H⟩ := bindO H
    refine set_ A sc_law_other_half 8 rfl rfl (Ev.cv (CalK.ev C_raises_for_k2_hours_floor A sc_law_other_half 7 rfl (by decide) (ea_cons (nmO A sc_law_other_half 7 rfl rfl rfl) (ea_cons (nmF A sc_law_other_half 6 rfl rfl rfl) ea_nil (.inl rfl) rfl) (.inl rfl) rfl) (.inr (.inr rfl)) (ek_cons (nmF A sc_law_other_half 3 rfl rfl rfl) (ek_cons (nmF A sc_law_other_half 4 rfl rfl rfl) ek_nil (.inl rfl)) (.inl rfl)) (.inl rfl) (.inr (.inl rfl)) rfl rfl rfl rfl rfl rfl ⟨given_20, wished_19, slots_10, sill_12, r_21, rfl, hr_21, rfl, rfl⟩) (congrArg (enO (fun x : (List Int) => (D.tup (List.map D.int x)))) (Option.some.inj hgot_22))) .cln rfl ?_
    obtain ⟨r_23, hr_23, H⟩ := bindO H
    obtain ⟨q_25, hq_25, H⟩ := bindO H
    refine ss_if (Ew.et (ew_orM (et_not (Ev.et (Cal.ev C_law_brings A sc_law_other_half 8 rfl (by decide) (ea_cons (nmO A sc_law_other_half 2 rfl rfl rfl) (ea_consH (nmF A sc_law_other_half 8 rfl rfl rfl) (ea_cons (nmF A sc_law_other_half 6 rfl rfl rfl) (ea_cons (nmF A sc_law_other_half 3 rfl rfl rfl) (ea_cons (nmF A sc_law_other_half 4 rfl rfl rfl) ea_nil (.inl rfl) rfl) (.inl rfl) rfl) (.inl rfl) rfl) (.inl rfl) rfl) (.inl rfl) rfl) (.inr (.inr rfl)) (.inr (.inl rfl)) rfl rfl ⟨crew_8, got_22, wished_19, slots_10, sill_12, r_23, rfl, hr_23, rfl, rfl⟩) fun _ => rfl)) hq_25 fun H => by obtain ⟨r_24, hr_24, H⟩ := bindO H; obtain rfl := Option.some.inj H; exact (ew_or1 (et_not (Ev.et (Cal.ev C_law_same A sc_law_other_half 9 rfl (by decide) (ea_consH (nmO A sc_law_other_half 7 rfl rfl rfl) (ea_consH (nmO A sc_law_other_half 2 rfl rfl rfl) ea_nil (.inl rfl) rfl) (.inr (.inr rfl)) rfl) (.inr (.inr rfl)) (.inr (.inl rfl)) rfl rfl ⟨(D.lst (List.map (fun x : (Str × Int × Int) => (D.tup [(D.str x.1), (D.int x.2.1), (D.int x.2.2)])) given_20)), (D.lst (List.map (fun x : (Str × Int × Int) => (D.tup [(D.str x.1), (D.int x.2.1), (D.int x.2.2)])) crew_8)), r_24, rfl, hr_24, rfl, rfl⟩) fun _ => rfl))))) (fun hc => ?_) (fun hc => ?_)
    · replace H := ifT H hc
      exact ss_ret ev_bl (⟨(congrArg D.bl (Option.some.inj H)), .bl⟩)
    · replace H := ifF H hc
      refine ss_nil ?_
      show SS X _ _ _
      obtain ⟨r_26, hr_26, H⟩ := bindO H
      obtain ⟨r_27, hr_27, H⟩ := bindO H
      refine ss_if (et_not (Ev.et (Cal.ev C_law_brings A sc_law_other_half 8 rfl (by decide) (ea_cons (nmO A sc_law_other_half 2 rfl rfl rfl) (ea_consH (CalK.ev C_raises_for_2_k2_hours A sc_law_other_half 7 rfl (by decide) (ea_cons (tuple_ (bn A sc_law_other_half 10 rfl g_tuple bt_tuple) (nmO A sc_law_other_half 2 rfl rfl rfl) .lst rfl) (ea_cons (revT_ (nmF A sc_law_other_half 6 rfl rfl rfl)) ea_nil (.inl rfl) rfl) (.inl rfl) rfl) (.inl rfl) (ek_cons (nmF A sc_law_other_half 3 rfl rfl rfl) ek_nil (.inl rfl)) (.inl rfl) (.inr (.inl rfl)) rfl rfl rfl rfl rfl rfl ⟨crew_8, (wished_19.reverse), slots_10, (0 : Int), r_26, rfl, hr_26, rfl, rfl⟩) (ea_cons (revT_ (nmF A sc_law_other_half 6 rfl rfl rfl)) (ea_cons (nmF A sc_law_other_half 3 rfl rfl rfl) (ea_cons ev_int ea_nil (.inl rfl) rfl) (.inl rfl) rfl) (.inl rfl) rfl) (.inl rfl) rfl) (.inl rfl) rfl) (.inr (.inr rfl)) (.inr (.inl rfl)) rfl rfl ⟨crew_8, r_26, (wished_19.reverse), slots_10, (0 : Int), r_27, rfl, hr_27, rfl, rfl⟩) fun _ => rfl)) (fun hc => ?_) (fun hc => ?_)
      · replace H := ifT H hc
        exact ss_ret ev_bl (⟨(congrArg D.bl (Option.some.inj H)), .bl⟩)
      · replace H := ifF H hc
        refine ss_nil ?_
        show SS X _ _ _
        obtain ⟨r_28, hr_28, H⟩ := bindO H
        obtain ⟨r_29, hr_29, H⟩ := bindO H
        refine ss_if (et_not (Ev.et (Cal.ev C_law_brings A sc_law_other_half 8 rfl (by decide) (ea_cons (nmO A sc_law_other_half 2 rfl rfl rfl) (ea_consH (CalK.ev C_raises_for_k2_floor A sc_law_other_half 7 rfl (by decide) (ea_cons (nmO A sc_law_other_half 7 rfl rfl rfl) (ea_cons (nmF A sc_law_other_half 6 rfl rfl rfl) ea_nil (.inl rfl) rfl) (.inl rfl) rfl) (.inr (.inr rfl)) (ek_cons (nmF A sc_law_other_half 4 rfl rfl rfl) ek_nil (.inl rfl)) (.inl rfl) (.inr (.inl rfl)) rfl rfl rfl rfl rfl rfl ⟨given_20, wished_19, (1 : Int), sill_12, r_28, rfl, hr_28, rfl, rfl⟩) (ea_cons (nmF A sc_law_other_half 6 rfl rfl rfl) (ea_cons ev_int (ea_cons (nmF A sc_law_other_half 4 rfl rfl rfl) ea_nil (.inl rfl) rfl) (.inl rfl) rfl) (.inl rfl) rfl) (.inl rfl) rfl) (.inl rfl) rfl) (.inr (.inr rfl)) (.inr (.inl rfl)) rfl rfl ⟨crew_8, r_28, wished_19, (1 : Int), sill_12, r_29, rfl, hr_29, rfl, rfl⟩) fun _ => rfl)) (fun hc => ?_) (fun hc => ?_)
        · replace H := ifT H hc
          exact ss_ret ev_bl (⟨(congrArg D.bl (Option.some.inj H)), .bl⟩)
        · replace H := ifF H hc
          refine ss_nil ?_
          show SS X _ _ _
          obtain ⟨r_30, hr_30, H⟩ := bindO H
          obtain ⟨r_31, hr_31, H⟩ := bindO H
          refine ss_if (et_not (Ev.et (Cal.ev C_law_brings A sc_law_other_half 8 rfl (by decide) (ea_cons (nmO A sc_law_other_half 2 rfl rfl rfl) (ea_consH (Cal.ev C_raises_for_p2 A sc_law_other_half 7 rfl (by decide) (ea_cons (nmO A sc_law_other_half 7 rfl rfl rfl) (ea_cons (nmF A sc_law_other_half 6 rfl rfl rfl) ea_nil (.inl rfl) rfl) (.inl rfl) rfl) (.inr (.inr rfl)) (.inr (.inl rfl)) rfl rfl ⟨given_20, wished_19, (1 : Int), (0 : Int), r_30, rfl, hr_30, rfl, rfl⟩) (ea_cons (nmF A sc_law_other_half 6 rfl rfl rfl) (ea_cons ev_int (ea_cons ev_int ea_nil (.inl rfl) rfl) (.inl rfl) rfl) (.inl rfl) rfl) (.inl rfl) rfl) (.inl rfl) rfl) (.inr (.inr rfl)) (.inr (.inl rfl)) rfl rfl ⟨crew_8, r_30, wished_19, (1 : Int), (0 : Int), r_31, rfl, hr_31, rfl, rfl⟩) fun _ => rfl)) (fun hc => ?_) (fun hc => ?_)
          · replace H := ifT H hc
            exact ss_ret ev_bl (⟨(congrArg D.bl (Option.some.inj H)), .bl⟩)
          · replace H := ifF H hc
            refine ss_nil ?_
            show SS X _ _ _
            obtain ⟨r_32, hr_32, H⟩ := bindO H
            obtain ⟨r_33, hr_33, H⟩ := bindO H
            obtain ⟨q_35, hq_35, H⟩ := bindO H
            exact ss_ret (ev_andM (Cal.ev C_law_same A sc_law_other_half 9 rfl (by decide) (ea_consH (CalK.ev C_raises_for_k2_hours_floor A sc_law_other_half 7 rfl (by decide) (ea_cons (list_ (bn A sc_law_other_half 6 rfl g_list bt_list) (nmO A sc_law_other_half 2 rfl rfl rfl) .lst rfl) (ea_cons (nmF A sc_law_other_half 6 rfl rfl rfl) ea_nil (.inl rfl) rfl) (.inl rfl) rfl) (.inl rfl) (ek_cons (nmF A sc_law_other_half 3 rfl rfl rfl) (ek_cons (nmF A sc_law_other_half 4 rfl rfl rfl) ek_nil (.inl rfl)) (.inl rfl)) (.inl rfl) (.inr (.inl rfl)) rfl rfl rfl rfl rfl rfl ⟨crew_8, wished_19, slots_10, sill_12, r_32, rfl, hr_32, rfl, rfl⟩) (ea_consH (nmF A sc_law_other_half 8 rfl rfl rfl) ea_nil (.inl rfl) rfl) (.inl rfl) rfl) (.inl rfl) (.inr (.inl rfl)) rfl rfl ⟨(enO (fun x : (List Int) => (D.tup (List.map D.int x))) r_32), (enO (fun x : (List Int) => (D.tup (List.map D.int x))) got_22), r_33, rfl, hr_33, rfl, rfl⟩) hq_35 fun H => by obtain ⟨r_34, hr_34, H⟩ := bindO H; obtain rfl := Option.some.inj H; exact (ev_one (Cal.ev C_law_same A sc_law_other_half 9 rfl (by decide) (ea_consH (nmO A sc_law_other_half 7 rfl rfl rfl) (ea_consH (nmO A sc_law_other_half 2 rfl rfl rfl) ea_nil (.inl rfl) rfl) (.inr (.inr rfl)) rfl) (.inr (.inr rfl)) (.inr (.inl rfl)) rfl rfl ⟨(D.lst (List.map (fun x : (Str × Int × Int) => (D.tup [(D.str x.1), (D.int x.2.1), (D.int x.2.2)])) given_20)), (D.lst (List.map (fun x : (Str × Int × Int) => (D.tup [(D.str x.1), (D.int x.2.1), (D.int x.2.2)])) crew_8)), r_34, rfl, hr_34, rfl, rfl⟩))) (⟨(congrArg D.bl (Option.some.inj H)), .bl⟩)
  · replace H := ifT hs_16 hc
    obtain ⟨number_17, hnumber_17, H⟩ := bindO H
    refine set_ A sc_law_other_half 5 rfl rfl (Ev.cv (nmF A sc_law_other_half 3 rfl rfl rfl) (congrArg D.int (Option.some.inj hnumber_17))) .int rfl ?_
    obtain rfl := Option.some.inj H
    refine ss_nil ?_
    exact (wkr (wkr (wkr (wkr (wkr (wkr (wkn (wkn (wkn wk0)))))))))
  · replace H := ifF hs_16 hc
    obtain rfl := Option.some.inj H
    refine ss_nil ?_
    exact (wkr (wkr (wkr (wkr (wkr (wkr (wkn (wkn (wkn wk0)))))))))
def m_law (a_script : (List Int)) : Option Bool :=
  ((m_law_one_half a_script).bind fun r_1 => ((if r_1 = true then ((m_law_other_half a_script).bind fun r_2 => some r_2) else some false).bind fun q_3 => some q_3))
def R_law : Rel := fun ds d k => ∃ (a_script : (List Int)) (r : Bool), ds = [(D.scr a_script)] ∧ m_law a_script = some r ∧ d = D.bl r ∧ k = .cln
abbrev N_law : List Str := ["script"]
theorem fs_law : FnScope N_law ["script"] (defScope s_law) := ⟨rfl, rfl, rfl, by decide +kernel, rfl, by decide +kernel, by decide +kernel⟩
theorem sc_law : Sc N_law (defScope s_law) [0] [] ["_law_one_half", "_law_other_half"] := ⟨fs_law.nd, by decide +kernel⟩
theorem b_law {X : Cx} {Γ : Gd} (A : At X Γ N_law (defScope s_law) 12) (C_law_one_half : Cal Γ "_law_one_half" R_law_one_half 11 []) (C_law_other_half : Cal Γ "_law_other_half" R_law_other_half 12 []) {ds : List D} {d : D} {k : Kd} (hR : R_law ds d k) :
    SS X (env0 1 ds) (defBody s_law) { rt := fun d' k' => d' = d ∧ Fits k' k d, nx := fun _ => d = .non ∧ k = .cln } := by
  obtain ⟨a_script, r, rfl, H, rfl, rfl⟩ := hR
  unfold m_law at H
  obtain ⟨r_1, hr_1, H⟩ := bindO H
  obtain ⟨q_3, hq_3, H⟩ := bindO H
  exact ss_ret (ev_andM (Cal.ev C_law_one_half A sc_law 0 rfl (by decide) (ea_cons (nmB A sc_law 0 rfl rfl rfl) ea_nil (.inl rfl) rfl) (.inr (.inl rfl)) (.inr (.inl rfl)) rfl rfl ⟨a_script, r_1, rfl, hr_1, rfl, rfl⟩) hq_3 fun H => by obtain ⟨r_2, hr_2, H⟩ := bindO H; obtain rfl := Option.some.inj H; exact (ev_one (Cal.ev C_law_other_half A sc_law 1 rfl (by decide) (ea_cons (nmB A sc_law 0 rfl rfl rfl) ea_nil (.inl rfl) rfl) (.inr (.inl rfl)) (.inr (.inl rfl)) rfl rfl ⟨a_script, r_2, rfl, hr_2, rfl, rfl⟩))) (⟨(congrArg D.bl (Option.some.inj H)), .bl⟩)
end K14
namespace K14
open PySem L2 DL
theorem cell_ok (s : List Int) (k : Nat) (h : s.length ≤ 1000) : ∃ r, m_law_cell s k = some r := by
  have : Sm (m_law_cell s k) fun _ => True := by
    unfold m_law_cell
    refine Sm.ite (fun c => ?_) fun c => ?_
    · have c := of_decide_eq_true c
      obtain ⟨x, _, e⟩ := idxG_in (xs := s) (i := k) (by omega) c
      exact Sm.bindE e (Sm.some trivial)
    · refine Sm.bindE rfl (Sm.bindE (rng1G_eq (by omega)) (Sm.bind (Sm.foldN (fun _ _ => True) trivial fun i t hi _ => ?_) fun _ _ => Sm.some trivial))
      obtain ⟨x, _, e⟩ := idxG_in (xs := s) (i := 0 + (i : Int)) (by omega) (by omega)
      exact Sm.bindE e (Sm.bindE (mulG_l (by omega) (by omega)) (Sm.bindE rfl (Sm.some trivial)))
  obtain ⟨r, e, _⟩ := this
  exact ⟨r, e⟩
theorem mixed_ok (c : Int) (k : Nat) (h : k < 100000) : ∃ r, m_law_mixed c k = some r ∧ 0 ≤ r := by
  have : Sm (m_law_mixed c k) fun r => 0 ≤ r := by
    unfold m_law_mixed
    refine Sm.bindE rfl (Sm.bindE (mulG_l (by omega) (by omega)) (Sm.bindE rfl (Sm.bindE (mulG_l (by omega) (by omega)) (Sm.bindE rfl (Sm.some ?_)))))
    omega
  exact this
theorem pool_ok (c : Int) (n : Nat) (h : n ≤ 1000) : ∃ r, m_law_pool c n = some r ∧ r.length = n ∧ ∀ x ∈ r, 0 ≤ x := by
  have : Sm (m_law_pool c n) fun r => r.length = n ∧ ∀ x ∈ r, 0 ≤ x := by
    unfold m_law_pool
    refine Sm.bindE rfl (Sm.bindE rfl (Sm.bindE rfl (Sm.bindE (rng1G_eq (by omega)) (Sm.bind (Sm.foldN (fun i s => s.2.length = i ∧ (∀ x ∈ s.2, 0 ≤ x)) ⟨rfl, fun x hx => nomatch hx⟩ fun i s hi ⟨h1, h2⟩ => ?_) fun s hs => Sm.some hs))))
    have app : ∀ y : Int, 0 ≤ y → (s.2 ++ [y]).length = i + 1 ∧ ∀ x ∈ s.2 ++ [y], 0 ≤ x := fun y hy => ⟨by simp [h1], fun x hx => by
      rcases List.mem_append.mp hx with z | z
      · exact h2 x z
      · rw [List.mem_singleton.mp z]; exact hy⟩
    refine Sm.bind (P := fun s' => s'.2.length = i + 1 ∧ ∀ x ∈ s'.2, 0 ≤ x) (Sm.ite (fun _ => ?_) fun _ => ?_) fun s' hs' => Sm.some hs'
    · exact Sm.bindE (appG_eq (by omega)) (Sm.bindE rfl (Sm.some (app _ (by omega))))
    · obtain ⟨r, e1, e2⟩ := mixed_ok c i (by omega)
      have e1 : m_law_mixed c (0 + (i : Int)) = some r := by rw [Int.zero_add]; exact e1
      exact Sm.bindE e1 (Sm.bindE (appG_eq (by omega)) (Sm.some (app _ e2)))
  exact this
def part (pool : List Int) (spot : Nat) (under size : Int) : Int := pool.getD spot 0 / under % size
theorem part_eq {pool : List Int} {spot under size : Int} (h0 : 0 ≤ spot) (h1 : spot < pool.length) (u0 : 0 < under) (u1 : under < 1073741824) (z : 0 < size) : m_law_part pool spot under size = some (part pool spot.toNat under size) := by
  unfold m_law_part
  rw [idxG_getD 0 h0 h1]
  show ((divG _ under).bind _) = _
  rw [divG_eq u0 u1]
  show ((modG _ size).bind _) = _
  rw [modG_eq z]; rfl
theorem part_in (pool : List Int) (spot : Nat) (under size : Int) (z : 0 < size) : 0 ≤ part pool spot under size ∧ part pool spot under size < size := ⟨Int.emod_nonneg _ (by omega), Int.emod_lt_of_pos _ z⟩
theorem part_sm {pool : List Int} {spot under size : Int} (h0 : 0 ≤ spot) (h1 : spot < pool.length) (u0 : 0 < under) (u1 : under < 1073741824) (z : 0 < size) : Sm (m_law_part pool spot under size) fun r => 0 ≤ r ∧ r < size :=
  Sm.eq (part_eq h0 h1 u0 u1 z) (part_in _ _ _ _ z)
theorem far_ok {pool : List Int} {spot : Int} {n : Nat} (h0 : 0 ≤ spot) (h1 : spot + n ≤ pool.length) (hn : n ≤ 1000) : Sm (m_law_far pool spot n) fun r => 0 ≤ r := by
  unfold m_law_far
  refine Sm.bindE rfl (Sm.bindE (rng1G_eq (by omega)) (Sm.bind (Sm.foldN (fun _ s => 0 ≤ s) (by omega) fun i s hi hs => ?_) fun s hs => Sm.some hs))
  obtain ⟨x, _, e⟩ := idxG_in (xs := pool) (i := spot + (0 + (i : Int))) (by omega) (by omega)
  refine Sm.bindE e (Sm.bindE rfl (Sm.some ?_))
  omega
theorem chosen_ok {pool : List Int} {spot under small crest whole : Int} (h0 : 0 ≤ spot) (h1 : spot < pool.length) (u0 : 0 < under) (u1 : under < 100000000) (z : 0 < small) (zc : small ≤ crest + 1) : Sm (m_law_chosen pool spot under small crest whole) fun r => 0 ≤ r ∧ r ≤ crest := by
  unfold m_law_chosen
  refine Sm.bind (part_sm h0 h1 u0 (by omega) (by omega)) fun r1 _ => Sm.bindE rfl (Sm.bind (part_sm h0 h1 (by omega) (by omega) z) fun r2 hr => Sm.bindE rfl (Sm.ite (fun _ => Sm.some (by omega)) fun _ => Sm.ite (fun _ => ?_) fun _ => Sm.some (by omega)))
  have hc : 0 < crest + 1 := by omega
  have a1 := Int.emod_nonneg whole (b := crest + 1) (by omega)
  have a2 := Int.emod_lt_of_pos whole hc
  exact Sm.bindE (modG_eq hc) (Sm.some (by omega))
end K14
namespace K14
open PySem L2 DL
theorem mark_ne {t : Int} {i j : Nat} (ht : 0 ≤ t) (h1 : i < 6) (h2 : j < 6) (h : ((i : Int) + t) % 6 = ((j : Int) + t) % 6) : i = j := by omega
theorem letter_ne {f m n : Int} (hm : 0 ≤ m) (hm6 : m < 6) (hn : 0 ≤ n) (hn6 : n < 6) (h : (f + 7 * m) % 26 = (f + 7 * n) % 26) : m = n := by omega
theorem letter_ne' {f m n : Int} (hm : 0 ≤ m) (hm6 : m < 6) (hn : 0 ≤ n) (hn6 : n < 6) (h : 97 + ((f + 7 * m) % 26).toNat = 97 + ((f + 7 * n) % 26).toNat) : m = n := by omega
theorem names_ok {pool : List Int} {n : Nat} (hp : 5 ≤ pool.length) (hn : n ≤ 6) : Sm (m_law_names pool 0 n) fun r => r.length = n ∧ r.Nodup ∧ ∀ x ∈ r, NameOk x := by
  unfold m_law_names
  rw [abc_eq]
  refine Sm.bindE rfl (Sm.bindE rfl ?_)
  rw [show (Str.ofString "") = Sl [] by decide +kernel]
  refine Sm.bindE (rng1G_eq (n := 3) (by omega)) (Sm.bind (Sm.foldN (fun i s => ∃ l : List Nat, s = Sl l ∧ l.length = 2 * i ∧ ∀ c ∈ l, c ∈ abc) ⟨[], rfl, rfl, fun c hc => nomatch hc⟩ fun i s hi ⟨l, e, hl, ha⟩ => ?_) fun s ⟨l, e, hl, ha⟩ => ?_)
  · subst e
    refine Sm.bind (part_sm (by omega) (by omega) (by omega) (by omega) (by omega)) fun r1 ⟨a1, a2⟩ => Sm.bindE (idxSG_eq (by decide) a1 a2) (Sm.bindE (addSG_eq (by simp; omega)) ?_)
    refine Sm.bind (part_sm (by omega) (by omega) (by omega) (by omega) (by omega)) fun r2 ⟨b1, b2⟩ => Sm.bindE (idxSG_eq (by decide) b1 b2) (Sm.bindE (addSG_eq (by simp; omega)) (Sm.bindE rfl (Sm.some ⟨_, rfl, by simp; omega, fun c hc => ?_⟩)))
    rcases List.mem_append.mp hc with hc | hc
    · rcases List.mem_append.mp hc with hc | hc
      · exact ha c hc
      · rw [List.mem_singleton.mp hc]; exact abc_get (by omega)
    · rw [List.mem_singleton.mp hc]; exact abc_get (by omega)
  · subst e
    refine Sm.bind (part_sm (by omega) (by omega) (by omega) (by omega) (by omega)) fun turn ⟨t1, t2⟩ => Sm.bindE rfl ?_
    refine Sm.bind (part_sm (by omega) (by omega) (by omega) (by omega) (by omega)) fun cut ⟨c1, c2⟩ => Sm.bindE rfl ?_
    refine Sm.bind (part_sm (by omega) (by omega) (by omega) (by omega) (by omega)) fun first ⟨f1, f2⟩ => Sm.bindE rfl ?_
    refine Sm.bind (part_sm (by omega) (by omega) (by omega) (by omega) (by omega)) fun sh ⟨s1, s2⟩ => Sm.bindE (slSG_take (by omega) s1) (Sm.bindE rfl ?_)
    refine Sm.bind (part_sm (by omega) (by omega) (by omega) (by omega) (by omega)) fun ta ⟨ta1, ta2⟩ => Sm.bindE (slSG_take (by omega) ta1) (Sm.bindE rfl (Sm.bindE rfl ?_))
    have hq : m_law_part pool (0 + 4) 1 2 = some (part pool 4 1 2) := part_eq (by omega) (by omega) (by omega) (by omega) (by omega)
    let sl := l.take sh.toNat
    let tl := l.take ta.toNat
    have hsl : sl.length ≤ 6 := by show (l.take _).length ≤ 6; rw [List.length_take]; omega
    have htl : tl.length ≤ 1 := by show (l.take _).length ≤ 1; rw [List.length_take]; omega
    have asl : ∀ c ∈ sl, c ∈ abc := fun c hc => ha c (List.mem_of_mem_take hc)
    have atl : ∀ c ∈ tl, c ∈ abc := fun c hc => ha c (List.mem_of_mem_take hc)
    let mk : Nat → Int := fun k => ((k : Int) + turn) % 6
    have mk0 : ∀ k, 0 ≤ mk k ∧ mk k < 6 := fun k => ⟨Int.emod_nonneg _ (by decide), Int.emod_lt_of_pos _ (by decide)⟩
    let nm : Nat → List Nat := fun k => if part pool 4 1 2 = 0 then sl.take cut.toNat ++ ([abc.getD ((first + 7 * mk k) % 26).toNat 0] ++ (sl.drop cut.toNat ++ tl)) else l.take ((mk k).toNat + 1)
    have ok : ∀ k, NameOk (Sl (nm k)) := fun k => by
      refine ⟨_, rfl, ?_⟩
      by_cases z : part pool 4 1 2 = 0
      · rw [show nm k = sl.take cut.toNat ++ ([abc.getD ((first + 7 * mk k) % 26).toNat 0] ++ (sl.drop cut.toNat ++ tl)) from if_pos z]
        refine ⟨by simp; omega, by simp; omega, fun c hc => ?_⟩
        simp only [List.mem_append, List.mem_singleton] at hc
        rcases hc with hc | hc | hc | hc
        · exact asl c (List.mem_of_mem_take hc)
        · rw [hc]; exact abc_get (by omega)
        · exact asl c (List.mem_of_mem_drop hc)
        · exact atl c hc
      · rw [show nm k = l.take ((mk k).toNat + 1) from if_neg z]
        have := mk0 k
        refine ⟨by rw [List.length_take]; omega, by rw [List.length_take]; omega, fun c hc => ha c (List.mem_of_mem_take hc)⟩
    have inj : ∀ i j, i < 6 → j < 6 → nm i = nm j → i = j := fun i j hi hj e => by
      by_cases z : part pool 4 1 2 = 0
      · rw [show nm i = _ from if_pos z, show nm j = _ from if_pos z] at e
        have e := List.append_cancel_left e
        rw [List.singleton_append, List.singleton_append] at e
        have e := (List.cons.inj e).1
        have w : ∀ k, (((first + 7 * mk k) % 26).toNat : Nat) < 26 := fun k => by omega
        rw [abc_at _ (w i), abc_at _ (w j)] at e
        exact mark_ne t1 hi hj (letter_ne' (f := first) (mk0 i).1 (mk0 i).2 (mk0 j).1 (mk0 j).2 e)
      · rw [show nm i = _ from if_neg z, show nm j = _ from if_neg z] at e
        have e := congrArg List.length e
        rw [List.length_take, List.length_take] at e
        have := mk0 i
        have := mk0 j
        refine mark_ne (t := turn) t1 hi hj ?_
        show mk i = mk j
        omega
    refine Sm.bindE (rng1G_eq (by omega)) (Sm.bind (Sm.foldN (fun i s => s = (List.range i).map fun k => Sl (nm k)) rfl fun i s hi e => ?_) fun s e => Sm.some ?_)
    · have hi : i < n := hi
      have hm : ((0 + (i : Int)) + turn) % 6 = mk i := by show _ = ((i : Int) + turn) % 6; rw [Int.zero_add]
      refine Sm.bindE rfl (Sm.bindE hq ?_)
      rw [hm]
      refine Sm.bind (P := fun s' => s' = (List.range (i + 1)).map fun k => Sl (nm k)) ?_ fun s' h' => Sm.some h'
      have hs : s.length < 1000000 := by rw [e]; simp; omega
      refine Sm.ite (fun c => ?_) fun c => ?_
      · have z : part pool 4 1 2 = 0 := of_decide_eq_true c
        refine Sm.bindE (slSG_take (a := sl) (by omega) c1) (Sm.bindE (idxSG_eq (by decide) (by omega) (show _ < ((26 : Nat) : Int) by omega)) (Sm.bindE (addSG_eq (by simp; omega)) (Sm.bindE (slSG_drop (a := sl) (by omega) c1) (Sm.bindE (addSG_eq (by simp; omega)) (Sm.bindE (addSG_eq (a := _) (b := tl) (by simp; omega)) (Sm.bindE (appG_eq hs) (Sm.some ?_)))))))
        rw [e, List.range_succ, List.map_append]
        congr 1
        show [_] = [Sl (nm i)]
        rw [show nm i = _ from if_pos z]
        simp
      · have z : ¬ part pool 4 1 2 = 0 := of_decide_eq_false c
        have := mk0 i
        refine Sm.bindE (slSG_take (by omega) (by omega)) (Sm.bindE (appG_eq hs) (Sm.some ?_))
        rw [e, List.range_succ, List.map_append]
        congr 1
        show [_] = [Sl (nm i)]
        rw [show nm i = _ from if_neg z, show (mk i + 1).toNat = (mk i).toNat + 1 by omega]
    · subst e
      refine ⟨by simp, ?_, fun x hx => ?_⟩
      · refine List.pairwise_map.mpr (List.nodup_range.imp_of_mem fun {a b} h1 h2 h3 e => ?_)
        have h1 := List.mem_range.mp h1
        have h2 := List.mem_range.mp h2
        exact h3 (inj a b (by omega) (by omega) (Sl_inj e))
      · obtain ⟨k, _, e⟩ := List.mem_map.mp hx
        rw [← e]; exact ok k
end K14
namespace K14
open PySem L2 DL
theorem same_seq {k : Nat} (ih : ∀ {d : D}, D.gd k d = true → m_law_same (k + 1) d d = some true) (ds : List D) (h1 : D.gds k ds = true) :
    loopM (fun (s_19 : Unit) (z_20 : Int) => (((atI ds z_20).bind fun x_22 => ((atI ds z_20).bind fun x_23 => ((m_law_same (k + 1) x_22 x_23).bind fun r_24 => (if (!r_24) = true then some (Ctl.ret false) else some (Ctl.nx ()))))) : Option (Ctl Unit Bool))) () (rngI 0 ds.length) = some (.nx ()) := by
  refine loopM_nx (R := Bool) (fun _ _ => ()) fun s x hx => ?_
  obtain ⟨i, hi, e⟩ := List.mem_map.mp hx
  have hi := List.mem_range.mp hi
  subst e
  have e1 : atI ds (0 + (i : Int)) = some ds[i] := by rw [Int.zero_add]; exact idxG_nat (List.getElem?_eq_getElem hi)
  have e2 := ih (D.gds_at h1 (List.getElem_mem hi))
  show ((atI ds (0 + (i : Int))).bind _) = _
  rw [e1]
  show ((m_law_same (k + 1) ds[i] ds[i]).bind _) = _
  rw [e2]; rfl
theorem same_int (n : Nat) (i : Int) : m_law_same (n + 1) (.int i) (.int i) = some true := by
  have := eqG_self (k := 0) (d := .int i) rfl (by omega)
  rw [m_law_same]
  simp [D.isN, D.isT, isiG, D.ty, D.isi, m_law_integer, this]
theorem same_str (n : Nat) (s : Str) (h : PyData.strOk s = true) : m_law_same (n + 1) (.str s) (.str s) = some true := by
  have := eqG_self (k := 0) (d := .str s) (by simpa [D.gd] using h) (by omega)
  rw [m_law_same]
  simp [D.isN, D.isT, isiG, D.ty, D.isi, m_law_integer, this]
theorem iG {T : String} {d : D} {b : Bool} (h1 : d.ty.isSome = true) (h2 : d.isi T = b) : isiG T d = some b := by unfold isiG; rw [if_pos h1, h2]
theorem same_lst {k : Nat} (ih : ∀ {d : D}, D.gd k d = true → m_law_same (k + 1) d d = some true) (ds : List D) (h1 : D.gds k ds = true) (h : ds.length ≤ 1000000) : m_law_same (k + 1 + 1) (.lst ds) (.lst ds) = some true := by
  have e := same_seq ih ds h1
  have n1 : (D.lst ds).isN = false := rfl
  have n2 : D.isT true (D.lst ds) = false := rfl
  have n3 : D.isT false (D.lst ds) = false := rfl
  rw [m_law_same, n1, n2, n3, if_neg Bool.false_ne_true, if_neg Bool.false_ne_true, if_neg Bool.false_ne_true, iG (b := false) rfl (by simp [D.isi])]
  rw [Option.bind_some, if_neg Bool.false_ne_true, iG (b := false) rfl (by simp [D.isi])]
  rw [Option.bind_some, if_neg Bool.false_ne_true, iG (T := "tuple") (b := false) rfl (by simp [D.isi])]
  rw [Option.bind_some, if_neg Bool.false_ne_true, Option.bind_some, if_neg Bool.false_ne_true, iG (T := "list") (b := true) rfl (by simp [D.isi])]
  rw [Option.bind_some, if_pos rfl, Option.bind_some, Option.bind_some, Bool.not_true, if_neg Bool.false_ne_true]
  have e0 : lenDG (.lst ds) = some (ds.length : Int) := rfl
  rw [e0, Option.bind_some, Option.bind_some, Option.bind_some, rng1G_eq h, Option.bind_some]
  have e1 : decide ((ds.length : Int) = (ds.length : Int)) = true := decide_eq_true rfl
  rw [e1, if_neg (by decide)]
  have e2 : idxDG (.lst ds) = atI ds := rfl
  rw [e2, e]; rfl
theorem same_tup {k : Nat} (ih : ∀ {d : D}, D.gd k d = true → m_law_same (k + 1) d d = some true) (ds : List D) (h1 : D.gds k ds = true) (h : ds.length ≤ 1000000) : m_law_same (k + 1 + 1) (.tup ds) (.tup ds) = some true := by
  have e := same_seq ih ds h1
  have n1 : (D.tup ds).isN = false := rfl
  have n2 : D.isT true (D.tup ds) = false := rfl
  have n3 : D.isT false (D.tup ds) = false := rfl
  rw [m_law_same, n1, n2, n3, if_neg Bool.false_ne_true, if_neg Bool.false_ne_true, if_neg Bool.false_ne_true, iG (b := false) rfl (by simp [D.isi])]
  rw [Option.bind_some, if_neg Bool.false_ne_true, iG (b := false) rfl (by simp [D.isi])]
  rw [Option.bind_some, if_neg Bool.false_ne_true, iG (T := "tuple") (b := true) rfl (by simp [D.isi])]
  rw [Option.bind_some, if_pos rfl, Option.bind_some, Option.bind_some, Bool.not_true, if_neg Bool.false_ne_true, iG (T := "list") (b := false) rfl (by simp [D.isi])]
  rw [Option.bind_some, if_neg Bool.false_ne_true, Option.bind_some, if_neg Bool.false_ne_true]
  have e0 : lenDG (.tup ds) = some (ds.length : Int) := rfl
  rw [e0, Option.bind_some, Option.bind_some, Option.bind_some, rng1G_eq h, Option.bind_some]
  have e1 : decide ((ds.length : Int) = (ds.length : Int)) = true := decide_eq_true rfl
  rw [e1, if_neg (by decide)]
  have e2 : idxDG (.tup ds) = atI ds := rfl
  rw [e2, e]; rfl
theorem same_self : ∀ {k : Nat} {d : D}, D.gd k d = true → m_law_same (k + 1) d d = some true := by
  intro k
  induction k with
  | zero =>
    intro d h
    cases d with
    | non => simp [m_law_same, D.isN]
    | bl b => cases b <;> simp [m_law_same, D.isN, D.isT]
    | int i => exact same_int 0 i
    | str s => exact same_str 0 s (by simpa [D.gd] using h)
    | _ => simp [D.gd] at h
  | succ k ih =>
    intro d h
    cases d with
    | non => simp [m_law_same, D.isN]
    | bl b => cases b <;> simp [m_law_same, D.isN, D.isT]
    | int i => exact same_int _ i
    | str s => exact same_str _ s (by simpa [D.gd] using h)
    | lst ds =>
      rw [D.gd, Bool.and_eq_true] at h
      exact same_lst ih ds h.2 (of_decide_eq_true h.1)
    | tup ds =>
      rw [D.gd, Bool.and_eq_true] at h
      exact same_tup ih ds h.2 (of_decide_eq_true h.1)
    | _ => simp [D.gd] at h
end K14
namespace K14
open PySem L2 DL
abbrev Crew := List (Str × Int × Int)
def One (x : Str × Int × Int) : Prop := NameOk x.1 ∧ (1 ≤ x.2.1 ∧ x.2.1 ≤ 1000) ∧ (0 ≤ x.2.2 ∧ x.2.2 ≤ 1000000000)
structure CrewOk (c : Crew) : Prop where
  len : c.length ≤ 6
  nd : (c.map (·.1)).Nodup
  one : ∀ x ∈ c, One x
theorem div12 {w : Int} (h1 : 1 ≤ w) (h2 : w ≤ 4) : 0 ≤ (12 : Int) / w ∧ (12 : Int) / w ≤ 12 := by
  have : w = 1 ∨ w = 2 ∨ w = 3 ∨ w = 4 := by omega
  rcases this with e | e | e | e <;> subst e <;> decide
theorem bidders_ok {pool : List Int} {n : Nat} (hp : pool.length = 35) (hn : n ≤ 6) : Sm (m_law_bidders pool 0 n) CrewOk := by
  unfold m_law_bidders
  refine Sm.bind (names_ok (by omega) hn) fun names ⟨n1, n2, n3⟩ => Sm.bindE rfl (Sm.bindE rfl (Sm.bindE (rng1G_eq (by omega)) (Sm.bind (Sm.foldN (fun i s => s.map (·.1) = names.take i ∧ ∀ x ∈ s, One x) ⟨rfl, fun x hx => nomatch hx⟩ fun i s hi ⟨h1, h2⟩ => ?_) fun s ⟨h1, h2⟩ => Sm.some ?_)))
  · have hq : m_law_part pool (0 + 4) 28 2 = some (part pool 4 28 2) := part_eq (by omega) (by omega) (by omega) (by omega) (by omega)
    have hlen : s.length = i := by
      have := congrArg List.length h1
      rw [List.length_map, List.length_take] at this; omega
    refine Sm.bindE rfl (Sm.bind (far_ok (n := 1) (by omega) (by omega) (by omega)) fun f1 _ => ?_)
    refine Sm.bind (chosen_ok (by omega) (by omega) (by omega) (by omega) (by omega) (by omega)) fun w ⟨w1, w2⟩ => Sm.bindE rfl ?_
    refine Sm.bind (far_ok (n := 3) (by omega) (by omega) (by omega)) fun f2 _ => ?_
    refine Sm.bind (chosen_ok (by omega) (by omega) (by omega) (by omega) (by omega) (by omega)) fun b ⟨b1, b2⟩ => Sm.bindE rfl (Sm.bindE hq ?_)
    refine Sm.bind (P := fun p : Int × Int => (1 ≤ p.1 ∧ p.1 ≤ 1000) ∧ 0 ≤ p.2 ∧ p.2 ≤ 1000000000) (Sm.ite (fun _ => Sm.bindE rfl (Sm.bindE rfl (Sm.some ?_))) fun _ => Sm.some ?_) fun p ⟨p1, p2⟩ => ?_
    · dsimp only; omega
    · dsimp only; omega
    · refine Sm.bind (P := fun q : Bool => q = true → p.1 ≤ 4) (Sm.ite (fun c => Sm.bind (part_sm (by omega) (by omega) (by omega) (by omega) (by omega)) fun _ _ => Sm.some fun _ => of_decide_eq_true c) fun _ => Sm.some fun z => nomatch z) fun q hq => ?_
      refine Sm.bind (P := fun v : Int => 0 ≤ v ∧ v ≤ 1000000000) (Sm.ite (fun c => ?_) fun _ => Sm.some p2) fun v hv => ?_
      · have h4 := hq c
        have := div12 p1.1 h4
        exact Sm.bindE (divG_eq (by omega) (by omega)) (Sm.bindE rfl (Sm.some (by omega)))
      · have hin : i < names.length := by omega
        have e : idxG names (0 + (i : Int)) = some names[i] := by rw [Int.zero_add]; exact idxG_nat (List.getElem?_eq_getElem hin)
        refine Sm.bindE e (Sm.bindE (appG_eq (by omega)) (Sm.some ⟨?_, fun x hx => ?_⟩))
        · rw [List.map_append, h1]
          show names.take i ++ [names[i]] = names.take (i + 1)
          rw [List.take_append_getElem]
        · rcases List.mem_append.mp hx with z | z
          · exact h2 x z
          · rw [List.mem_singleton.mp z]
            exact ⟨n3 _ (List.getElem_mem hin), p1, hv⟩
  · rw [← n1, List.take_length] at h1
    have hlen : s.length = n := by
      have := congrArg List.length h1
      rw [List.length_map] at this; omega
    exact ⟨by omega, by rw [h1]; exact n2, h2⟩
abbrev crD (x : Str × Int × Int) : D := .tup [.str x.1, .int x.2.1, .int x.2.2]
theorem crew_gd {c : Crew} (h : CrewOk c) : D.gd 7 (.lst (c.map crD)) = true := by
  have hl := h.len
  rw [D.gd, Bool.and_eq_true]
  refine ⟨decide_eq_true (by rw [List.length_map]; omega), D.gds_mem fun d hd => ?_⟩
  obtain ⟨x, hx, e⟩ := List.mem_map.mp hd
  subst e
  rw [D.gd, Bool.and_eq_true]
  refine ⟨decide_eq_true (by simp), D.gds_mem fun d hd => ?_⟩
  simp only [List.mem_cons, List.not_mem_nil, or_false] at hd
  rcases hd with e | e | e
  · subst e; rw [D.gd]; exact (h.one x hx).1.strOk
  · subst e; rw [D.gd]
  · subst e; rw [D.gd]
theorem strs_gd {ns : List Str} (hl : ns.length ≤ 1000000) (h : ∀ s ∈ ns, NameOk s) : D.gd 7 (.tup (ns.map D.str)) = true := by
  rw [D.gd, Bool.and_eq_true]
  refine ⟨decide_eq_true (by rw [List.length_map]; exact hl), D.gds_mem fun d hd => ?_⟩
  obtain ⟨x, hx, e⟩ := List.mem_map.mp hd
  subst e; rw [D.gd]; exact (h x hx).strOk
theorem strs_gdL {ns : List Str} (hl : ns.length ≤ 1000000) (h : ∀ s ∈ ns, NameOk s) : D.gd 7 (.lst (ns.map D.str)) = true := by
  rw [D.gd, Bool.and_eq_true]
  refine ⟨decide_eq_true (by rw [List.length_map]; exact hl), D.gds_mem fun d hd => ?_⟩
  obtain ⟨x, hx, e⟩ := List.mem_map.mp hd
  subst e; rw [D.gd]; exact (h x hx).strOk
theorem ints_gd {ns : List Int} (hl : ns.length ≤ 1000000) : D.gd 7 (.tup (ns.map D.int)) = true := by
  rw [D.gd, Bool.and_eq_true]
  refine ⟨decide_eq_true (by rw [List.length_map]; exact hl), D.gds_mem fun d hd => ?_⟩
  obtain ⟨x, hx, e⟩ := List.mem_map.mp hd
  subst e; rw [D.gd]
theorem ints_gdL {ns : List Int} (hl : ns.length ≤ 1000000) : D.gd 7 (.lst (ns.map D.int)) = true := by
  rw [D.gd, Bool.and_eq_true]
  refine ⟨decide_eq_true (by rw [List.length_map]; exact hl), D.gds_mem fun d hd => ?_⟩
  obtain ⟨x, hx, e⟩ := List.mem_map.mp hd
  subst e; rw [D.gd]
theorem sill_ok {pool : List Int} {c : Crew} (hp : 6 ≤ pool.length) (h : CrewOk c) : Sm (m_law_sill pool 1 c) fun r => 0 ≤ r ∧ r ≤ 1000000000000 := by
  unfold m_law_sill
  have hl := h.len
  refine Sm.bind (part_sm (by omega) (by omega) (by omega) (by omega) (by omega)) fun way ⟨w1, w2⟩ => Sm.bindE rfl (Sm.bind (part_sm (by omega) (by omega) (by omega) (by omega) (by omega)) fun near ⟨a1, a2⟩ => Sm.bindE rfl (Sm.ite (fun _ => Sm.some (by omega)) fun c1 => ?_))
  have c1 := of_decide_eq_false c1
  refine Sm.bind (P := fun q : Bool => q = true → way < 6 ∧ c ≠ []) (Sm.ite (fun c2 => Sm.bindE (eqG_nil (crew_gd h) (by omega)) (Sm.some fun z => ⟨of_decide_eq_true c2, fun e => by subst e; cases z⟩)) fun _ => Sm.some fun z => nomatch z) fun q hq => Sm.ite (fun z => ?_) fun _ => ?_
  · obtain ⟨z1, z2⟩ := hq z
    have hpos : 0 < c.length := List.length_pos_iff.mpr z2
    have m1 := Int.emod_nonneg near (b := (c.length : Int)) (by omega)
    have m2 := Int.emod_lt_of_pos near (b := (c.length : Int)) (by omega)
    obtain ⟨x, x1, x2⟩ := idxG_in (xs := c) m1 m2
    obtain ⟨_, ⟨o1, o2⟩, _⟩ := h.one x (List.mem_of_getElem? x1)
    obtain ⟨y, _, y2⟩ := idxG_in (xs := [(0 : Int), (0 : Int), (1 : Int), (-(1 : Int))]) (i := way - 2) (by omega) (show _ < ((4 : Nat) : Int) by omega)
    refine Sm.bindE (modG_eq (by omega)) (Sm.bindE x2 (Sm.bindE rfl (Sm.bindE (mulG_l (by omega) (by omega)) (Sm.bindE y2 (Sm.some ?_)))))
    generalize x.2.1 * x.2.2 + y = v
    constructor
    · split
      · omega
      · split <;> omega
    · split
      · omega
      · split <;> omega
  · refine Sm.ite (fun _ => Sm.some (by omega)) fun _ => Sm.bind (far_ok (n := 4) (by omega) (by omega) (by omega)) fun r _ => Sm.bindE (modG_eq (by omega)) (Sm.some ?_)
    have := Int.emod_nonneg r (b := (1000000000000 : Int) + 1) (by omega)
    have := Int.emod_lt_of_pos r (b := (1000000000000 : Int) + 1) (by omega)
    omega
end K14
namespace K14
open PySem L2 DL
abbrev ld (L : List Int) (i : Nat) : Int := L.getD i 0
def bt (L : List Int) (i j : Nat) : Bool := decide (ld L j < ld L i) || (decide (ld L i = ld L j) && decide (i < j))
theorem bt_iff {L : List Int} {i j : Nat} : bt L i j = true ↔ (ld L j < ld L i ∨ (ld L i = ld L j ∧ i < j)) := by simp [bt]
theorem bt_irr {L : List Int} {i : Nat} : bt L i i = false := by simp [bt]
theorem bt_asymm {L : List Int} {i j : Nat} (h : bt L i j = true) : bt L j i = false := by
  rw [bt_iff] at h
  cases q : bt L j i with
  | false => rfl
  | true => rw [bt_iff] at q; omega
theorem bt_total {L : List Int} {i j : Nat} (h : i ≠ j) : bt L i j = true ∨ bt L j i = true := by
  rw [bt_iff, bt_iff]; omega
theorem bt_trans {L : List Int} {i j k : Nat} (h1 : bt L i j = true) (h2 : bt L j k = true) : bt L i k = true := by
  rw [bt_iff] at *; omega
def prs (L : List Int) : List (Int × Int) := (enumL L).map fun z => (-z.2, z.1)
def rkI (L : List Int) : List Int := (srtP (prs L)).map (·.2)
def rk (L : List Int) : List Nat := (rkI L).map Int.toNat
theorem prs_snd (L : List Int) : (prs L).map (·.2) = (List.range L.length).map fun i : Nat => (i : Int) := by
  apply List.ext_getElem?
  intro i
  unfold prs
  rw [List.map_map, List.getElem?_map, enumL_get, List.getElem?_map]
  by_cases h : i < L.length
  · rw [List.getElem?_eq_getElem h, List.getElem?_range h]; rfl
  · rw [List.getElem?_eq_none (by omega), List.getElem?_eq_none (by rw [List.length_range]; omega)]; rfl
theorem prs_mem {L : List Int} {p : Int × Int} (h : p ∈ prs L) : ∃ i : Nat, i < L.length ∧ p = (-(ld L i), (i : Int)) := by
  obtain ⟨n, hn⟩ := List.mem_iff_getElem?.mp h
  unfold prs at hn
  rw [List.getElem?_map, enumL_get] at hn
  cases q : L[n]? with
  | none => rw [q] at hn; cases hn
  | some x =>
    rw [q] at hn; cases hn
    refine ⟨n, (List.getElem?_eq_some_iff.mp q).1, ?_⟩
    show (-x, (n : Int)) = _
    rw [show ld L n = x by unfold ld; rw [List.getD_eq_getElem?_getD, q]; rfl]
theorem rkI_perm (L : List Int) : (rkI L).Perm ((List.range L.length).map fun i : Nat => (i : Int)) := by
  have := (srtP_perm (prs L)).map (·.2)
  rw [prs_snd] at this
  exact this
theorem rk_perm (L : List Int) : (rk L).Perm (List.range L.length) := by
  have := (rkI_perm L).map Int.toNat
  rw [List.map_map] at this
  have e : (Int.toNat ∘ fun i : Nat => (i : Int)) = id := funext fun i => Int.toNat_natCast i
  rw [e, List.map_id] at this
  exact this
theorem rkI_eq (L : List Int) : rkI L = (rk L).map fun i : Nat => (i : Int) := by
  unfold rk
  rw [List.map_map]
  refine (List.map_id _).symm.trans (List.map_congr_left fun x hx => ?_)
  have := (rkI_perm L).mem_iff.mp hx
  obtain ⟨i, _, e⟩ := List.mem_map.mp this
  subst e
  show (i : Int) = ((i : Int).toNat : Int)
  rw [Int.toNat_natCast]
theorem rk_nd (L : List Int) : (rk L).Nodup := (rk_perm L).nodup_iff.mpr List.nodup_range
theorem rk_lt {L : List Int} {i : Nat} (h : i ∈ rk L) : i < L.length := List.mem_range.mp ((rk_perm L).mem_iff.mp h)
theorem rk_mem {L : List Int} {i : Nat} (h : i < L.length) : i ∈ rk L := (rk_perm L).mem_iff.mpr (List.mem_range.mpr h)
theorem rk_len (L : List Int) : (rk L).length = L.length := by rw [(rk_perm L).length_eq, List.length_range]
theorem rk_srt (L : List Int) : (rk L).Pairwise fun i j => bt L i j = true := by
  have nd : (srtP (prs L)).Pairwise fun a b => a.2 ≠ b.2 := by
    have := (rkI_perm L).nodup_iff.mpr (List.pairwise_map.mpr (List.nodup_range.imp fun h e => h (by omega)))
    exact List.pairwise_map.mp this
  have := (srtP_srt (prs L)).and nd
  unfold rk rkI
  rw [List.map_map]
  refine List.pairwise_map.mpr (this.imp_of_mem fun {a b} ha hb ⟨h1, h2⟩ => ?_)
  obtain ⟨i, _, e1⟩ := prs_mem ((srtP_perm _).mem_iff.mp ha)
  obtain ⟨j, _, e2⟩ := prs_mem ((srtP_perm _).mem_iff.mp hb)
  subst e1 e2
  have h1 := SrtO.lexB_no.mp h1
  simp only [Function.comp, Int.toNat_natCast] at *
  rw [bt_iff]
  omega
def cnt (L : List Int) (k : Nat) : Nat := ((List.range L.length).filter fun j => bt L j k).length
theorem filter_srt {l : List Nat} {L : List Int} (h : l.Pairwise fun i j => bt L i j = true) : ∀ (i : Nat) (hi : i < l.length), (l.filter fun j => bt L j l[i]).length = i := by
  induction l with
  | nil => intro i hi; exact absurd hi (by simp)
  | cons x l ih =>
    obtain ⟨h1, h2⟩ := List.pairwise_cons.mp h
    intro i hi
    cases i with
    | zero =>
      have e : ((x :: l).filter fun j => bt L j x) = [] := List.filter_eq_nil_iff.mpr fun j hj => by
        rcases List.mem_cons.mp hj with z | z
        · subst z; simp [bt_irr]
        · rw [bt_asymm (h1 j z)]; simp
      show ((x :: l).filter fun j => bt L j x).length = 0
      rw [e]; rfl
    | succ i =>
      have hi' : i < l.length := by simpa using hi
      show ((x :: l).filter fun j => bt L j l[i]).length = i + 1
      rw [List.filter_cons, if_pos (h1 _ (List.getElem_mem hi')), List.length_cons, ih h2 i hi']
theorem cnt_rk {L : List Int} {i : Nat} (hi : i < (rk L).length) : cnt L (rk L)[i] = i := by
  unfold cnt
  rw [← ((rk_perm L).filter _).length_eq]
  exact filter_srt (rk_srt L) i hi
theorem filter_cnt (L : List Int) (r : Nat) (P : Nat → Bool) : ((List.range L.length).filter fun k => decide (cnt L k = r) && P k) = ((rk L)[r]?).toList.filter P := by
  have h1 : ((rk L).filter fun k => decide (cnt L k = r)) = ((rk L)[r]?).toList := by
    have gen : ∀ (l : List Nat) (s : Nat), (∀ i (hi : i < l.length), cnt L l[i] = s + i) → (l.filter fun k => decide (cnt L k = s + r)) = (l[r]?).toList := by
      intro l
      induction l generalizing r with
      | nil => intro s _; simp
      | cons x l ih =>
        intro s h
        have h0 : cnt L x = s := h 0 (by simp)
        cases r with
        | zero =>
          rw [List.filter_cons_of_pos (by simpa using h0)]
          have : (l.filter fun k => decide (cnt L k = s + 0)) = [] := List.filter_eq_nil_iff.mpr fun k hk => by
            obtain ⟨i, hi, e⟩ := List.mem_iff_getElem.mp hk
            have := h (i + 1) (by simpa using hi)
            simp only [List.getElem_cons_succ] at this
            rw [e] at this
            simp; omega
          rw [this]; rfl
        | succ r =>
          rw [List.filter_cons_of_neg (by simp; omega)]
          have := ih r (s + 1) fun i hi => by
            have := h (i + 1) (by simpa using hi)
            simp only [List.getElem_cons_succ] at this
            omega
          rw [show s + (r + 1) = s + 1 + r by omega, this]; rfl
    have := gen (rk L) 0 fun i hi => by rw [cnt_rk hi]; omega
    simpa using this
  have h2 : ((List.range L.length).filter fun k => decide (cnt L k = r) && P k).Perm (((rk L)[r]?).toList.filter P) := by
    rw [← h1, List.filter_filter]
    refine ((rk_perm L).symm.filter _).trans ?_
    rw [show (fun a => P a && decide (cnt L a = r)) = fun k => decide (cnt L k = r) && P k from funext fun a => Bool.and_comm _ _]
  cases e : (((rk L)[r]?).toList.filter P) with
  | nil => rw [e] at h2; exact h2.eq_nil
  | cons x l =>
    have hl : ((((rk L)[r]?).toList.filter P)).length ≤ 1 := Nat.le_trans (List.length_filter_le _ _) (by cases (rk L)[r]? <;> simp)
    rw [e] at hl h2
    have : l = [] := by
      cases l with
      | nil => rfl
      | cons y l => simp at hl
    subst this
    exact h2.eq_singleton
theorem take_filter {l : List Nat} {P : Nat → Bool} (h : l.Pairwise fun i j => P j = true → P i = true) : ∀ n, (l.filter P).take n = (l.take n).filter P := by
  induction l with
  | nil => intro n; simp
  | cons x l ih =>
    obtain ⟨h1, h2⟩ := List.pairwise_cons.mp h
    intro n
    cases n with
    | zero => simp
    | succ n =>
      cases e : P x with
      | true => rw [List.filter_cons_of_pos e, List.take_succ_cons, List.take_succ_cons, List.filter_cons_of_pos e, ih h2]
      | false =>
        have no : ∀ m : List Nat, (∀ y ∈ m, y ∈ l) → m.filter P = [] := fun m hm => List.filter_eq_nil_iff.mpr fun y hy q => by rw [h1 y (hm y hy) q] at e; cases e
        rw [List.filter_cons_of_neg (by rw [e]; simp), List.take_succ_cons, List.filter_cons_of_neg (by rw [e]; simp), no l fun _ h => h, no _ fun y hy => List.mem_of_mem_take hy]; simp
def tops (L : List Int) (n : Nat) (f : Int) : List Nat := ((rk L).take n).filter fun k => decide (f ≤ ld L k)
theorem top_eq (L : List Int) (n : Nat) (f : Int) : ((rk L).filter fun k => decide (f ≤ ld L k)).take n = tops L n f :=
  take_filter ((rk_srt L).imp fun {i j} h q => by
    have h := bt_iff.mp h
    have q := of_decide_eq_true q
    exact decide_eq_true (by omega)) n
theorem top_ranks (L : List Int) (f : Int) : ∀ n, ((List.range n).flatMap fun r => (List.range L.length).filter fun k => decide (cnt L k = r) && decide (f ≤ ld L k)) = tops L n f := by
  intro n
  unfold tops
  induction n with
  | zero => simp
  | succ n ih =>
    rw [List.range_succ, List.flatMap_append, ih, List.take_succ, List.filter_append]
    congr 1
    rw [List.flatMap_cons, List.flatMap_nil, List.append_nil]
    exact filter_cnt L n fun k => decide (f ≤ ld L k)
end K14
namespace K14
open PySem L2 DL
structure Wt (c : Crew) : Prop where
  len : c.length ≤ 6
  w : ∀ x ∈ c, 1 ≤ x.2.1 ∧ x.2.1 ≤ 1000
theorem CrewOk.wt {c : Crew} (h : CrewOk c) : Wt c := ⟨h.len, fun x hx => (h.one x hx).2.1⟩
def loads (c : Crew) : List Int := c.map fun x => x.2.1 * x.2.2
theorem loads_len (c : Crew) : (loads c).length = c.length := List.length_map ..
def nmOf (c : Crew) (i : Nat) : Str := (c.getD i (Sl [], 0, 0)).1
theorem getD_of {α : Type} {l : List α} {i : Nat} {x d : α} (h : l[i]? = some x) : l.getD i d = x := by rw [List.getD_eq_getElem?_getD, h]; rfl
theorem strengths_eq {c : Crew} (h : Wt c) : m_strengths_of c = some (loads c) := by
  unfold m_strengths_of
  have := h.len
  rw [lcG_eq (by omega), Option.bind_some, lcM_eq (fun _ => true) (fun z : Str × Int × Int => z.2.1 * z.2.2) (fun x hx => ⟨rfl, fun _ => by
    have := h.w x hx
    rw [mulG_l (by omega) (by omega)]; rfl⟩), Option.bind_some, List.filter_eq_self.mpr (fun _ _ => rfl)]
  rfl
theorem ranking_eq {c : Crew} (h : Wt c) : m_ranking c = some (rkI (loads c)) := by
  unfold m_ranking
  have := h.len
  have hl : (enumL (loads c)).length ≤ 1000000 := by rw [enumL_len, loads_len]; omega
  rw [strengths_eq h, Option.bind_some, lcG_eq hl, Option.bind_some]
  show ((srtG (prs (loads c))).bind _) = _
  unfold srtG
  rw [Option.bind_some, lcG_eq (by rw [(srtP_perm _).length_eq]; unfold prs; rw [List.length_map]; exact hl), Option.bind_some]
  rfl
theorem is_name_eq {s : Str} (h : NameOk s) : m_is_name s = some true := by
  obtain ⟨l, e, h1, h2, h3⟩ := h
  subst e
  unfold m_is_name
  rw [lenSG_eq (by omega), Option.bind_some, if_neg (by simp; omega), lcG_eq (by rw [strL_eq, List.length_map]; omega), Option.bind_some, abc_eq, strL_eq, List.map_map]
  congr 1
  rw [List.all_map]
  exact List.all_eq_true.mpr fun c hc => abc_in c (h3 c hc)
theorem names_of_eq {c : Crew} (h : c.length ≤ 1000000) : m_names_of c = some (c.map (·.1)) := by
  unfold m_names_of
  rw [lcG_eq h]; rfl
theorem check_eq {c : Crew} (h : CrewOk c) : m_check_bidders c = some () := by
  unfold m_check_bidders
  have hl := h.len
  rw [if_neg (by simp; omega), foldlM_unit, Option.bind_some]
  intro z hz
  obtain ⟨i, h1, h2⟩ := enumL_mem hz
  obtain ⟨o1, ⟨o2, o3⟩, o4, o5⟩ := h.one z.2 (List.mem_of_getElem? h1)
  rw [is_name_eq o1, Option.bind_some, if_neg (by decide), names_of_eq (by unfold cutX; rw [List.length_take, List.length_drop]; omega), Option.bind_some, h2, cutX_take (by omega), Int.toNat_natCast]
  have hn : ¬ z.2.1 ∈ (c.take i).map (·.1) := fun hm => by
    have hi := (List.getElem?_eq_some_iff.mp h1).1
    have nd := h.nd
    have e1 : c.map (·.1) = (c.take i).map (·.1) ++ (c.drop i).map (·.1) := by rw [← List.map_append, List.take_append_drop]
    rw [e1] at nd
    have e2 : z.2.1 ∈ (c.drop i).map (·.1) := by
      rw [List.drop_eq_getElem_cons hi]
      have : c[i] = z.2 := (List.getElem?_eq_some_iff.mp h1).2
      rw [this]; simp
    exact (List.nodup_append.mp nd).2.2 _ hm _ e2 rfl
  rw [if_neg (by simpa using hn), if_neg (by simp; omega), if_neg (by simp; omega)]
def climb (c : Crew) (n : Nat) (f : Int) : List Str := (tops (loads c) n f).map (nmOf c)
theorem tops_lt {L : List Int} {n : Nat} {f : Int} {i : Nat} (h : i ∈ tops L n f) : i < L.length := rk_lt (List.mem_of_mem_take (List.mem_filter.mp h).1)
theorem names_eq {c : Crew} (hl : c.length ≤ 6) {ps : List Nat} (hp : ∀ i ∈ ps, i < c.length) : lcM (fun z : Int => some true) (fun z : Int => ((idxG c z).bind fun x => some x.1)) (ps.map fun i : Nat => (i : Int)) = some (ps.map (nmOf c)) := by
  rw [lcM_eq (fun _ => true) (fun z : Int => nmOf c z.toNat) (fun x hx => ⟨rfl, fun _ => by
    obtain ⟨i, hi, e⟩ := List.mem_map.mp hx
    subst e
    have hi := hp i hi
    rw [idxG_nat (List.getElem?_eq_getElem hi), Option.bind_some, Int.toNat_natCast]
    unfold nmOf
    rw [getD_of (List.getElem?_eq_getElem hi)]⟩), List.filter_eq_self.mpr (fun _ _ => rfl), List.map_map]
  congr 1
theorem ladder_eq {c : Crew} (h : CrewOk c) {n : Nat} {f : Int} (n1 : 1 ≤ n) (n2 : n ≤ 3) (f1 : 0 ≤ f) (f2 : f ≤ 1000000000000) : m_ladder c n f = some (climb c n f) := by
  have hl := h.len
  have hL := loads_len c
  unfold m_ladder m_check_hours m_check_floor
  rw [check_eq h, Option.bind_some, if_neg (by simp; omega), Option.bind_some, if_neg (by simp; omega), Option.bind_some, strengths_eq h.wt, Option.bind_some, Option.bind_some, ranking_eq h.wt, Option.bind_some,
    lcG_eq (by rw [rkI_eq, List.length_map, rk_len]; omega), Option.bind_some]
  rw [lcM_eq (fun z : Int => decide (f ≤ ld (loads c) z.toNat)) (fun z : Int => z) (fun x hx => ⟨by
    rw [rkI_eq] at hx
    obtain ⟨i, hi, e⟩ := List.mem_map.mp hx
    subst e
    have hi := rk_lt hi
    rw [idxG_nat (List.getElem?_eq_getElem hi), Option.bind_some, Int.toNat_natCast]
    unfold ld
    rw [getD_of (List.getElem?_eq_getElem hi)], fun _ => rfl⟩), Option.bind_some, Option.bind_some, List.map_id', cutX_take (by omega), Int.toNat_natCast]
  have e : ((rkI (loads c)).filter fun z : Int => decide (f ≤ ld (loads c) z.toNat)).take n = (tops (loads c) n f).map fun i : Nat => (i : Int) := by
    rw [rkI_eq, List.filter_map, ← List.map_take, ← top_eq]
    congr 1
  rw [e, lcG_eq (by
    rw [List.length_map]
    have := List.length_filter_le (fun k => decide (f ≤ ld (loads c) k)) ((rk (loads c)).take n)
    have h2 : ((rk (loads c)).take n).length ≤ n := by rw [List.length_take]; omega
    show (tops (loads c) n f).length ≤ 1000000
    unfold tops; omega), Option.bind_some, names_eq hl fun i hi => by rw [← hL]; exact tops_lt hi]
  rfl
theorem ladder2_eq : m_ladder_2 = m_ladder := rfl
theorem law_ladder_eq {c : Crew} (h : Wt c) {n : Nat} {f : Int} (n2 : n ≤ 3) : m_law_ladder c n f = some (climb c n f) := by
  have hl := h.len
  have hL := loads_len c
  have : Sm (m_law_ladder c n f) fun r => r = climb c n f := by
    unfold m_law_ladder
    have e1 := strengths_eq h
    unfold m_strengths_of at e1
    refine Sm.bindE (lcG_eq (by omega)) ?_
    rw [lcG_eq (by omega), Option.bind_some] at e1
    obtain ⟨zs, e1, e2⟩ := bindO e1
    cases e2
    refine Sm.bindE e1 (Sm.bindE rfl (Sm.bindE rfl (Sm.bindE (rng1G_eq (by omega)) (Sm.bind (Sm.foldN (fun r s => s = (((List.range r).flatMap fun r => (List.range c.length).filter fun k => decide (cnt (loads c) k = r) && decide (f ≤ ld (loads c) k)).map (nmOf c))) rfl fun r s hr hs => ?_) fun s hs => Sm.some ?_))))
    · refine Sm.bindE (rng1G_eq (by omega)) (Sm.bind (Sm.foldN (fun k t => t = s ++ (((List.range k).filter fun k => decide (cnt (loads c) k = r) && decide (f ≤ ld (loads c) k)).map (nmOf c))) (by simp) fun k t hk ht => ?_) fun t ht => Sm.some ?_)
      · have hk : k < c.length := hk
        have hkL : k < (loads c).length := by omega
        have idx : ∀ j, j < (loads c).length → idxG (loads c) (0 + (j : Int)) = some (ld (loads c) j) := fun j hj => by
          rw [Int.zero_add, idxG_nat (List.getElem?_eq_getElem hj)]
          unfold ld; rw [getD_of (List.getElem?_eq_getElem hj)]
        refine Sm.bindE (rng1G_eq (by omega)) (Sm.bindE (lcG_eq (by rw [rngI_length]; omega)) (Sm.bindE (lcM_eq (fun z : Int => bt (loads c) z.toNat k) (fun z : Int => z) fun x hx => ⟨?_, fun _ => rfl⟩) (Sm.bindE rfl ?_)))
        · obtain ⟨j, hj, e⟩ := List.mem_map.mp hx
          subst e
          have hj := List.mem_range.mp hj
          rw [idx j (by omega), Option.bind_some, idx k hkL, Option.bind_some, Option.bind_some, Option.bind_some]
          unfold bt
          rw [show (0 + (j : Int)).toNat = j by omega]
          have e3 : decide ((0 : Int) + (j : Int) < 0 + (k : Int)) = decide (j < k) := by
            by_cases q : j < k
            · rw [decide_eq_true q]; exact decide_eq_true (by omega)
            · rw [decide_eq_false q]; exact decide_eq_false (by omega)
          rw [e3]
          cases decide (ld (loads c) k < ld (loads c) j) <;> rfl
        · have ec : (((rngI 0 c.length).filter fun z : Int => bt (loads c) z.toNat k).map fun z : Int => z).length = cnt (loads c) k := by
            rw [List.length_map]
            unfold cnt rngI
            rw [List.filter_map, List.length_map, hL]
            congr 1
            refine List.filter_congr fun j _ => ?_
            show bt (loads c) (0 + (j : Int)).toNat k = _
            rw [show (0 + (j : Int)).toNat = j by omega]
          rw [ec, idx k hkL]
          refine Sm.bind (P := fun q : Bool => q = (decide (cnt (loads c) k = r) && decide (f ≤ ld (loads c) k))) ?_ fun q hq => Sm.bind (P := fun t' => t' = s ++ (((List.range (k + 1)).filter fun k => decide (cnt (loads c) k = r) && decide (f ≤ ld (loads c) k)).map (nmOf c))) ?_ fun t' h' => Sm.some h'
          · refine Sm.ite (fun z => ?_) fun z => Sm.some ?_
            · have z := of_decide_eq_true z
              exact Sm.bindE rfl (Sm.some (by rw [show cnt (loads c) k = r by omega, decide_eq_true rfl]; rfl))
            · have z := of_decide_eq_false z
              rw [show decide (cnt (loads c) k = r) = false from decide_eq_false (by omega)]; rfl
          · rw [List.range_succ, List.filter_append, List.map_append]
            have ex : idxG c (0 + (k : Int)) = some c[k] := by rw [Int.zero_add, idxG_nat (List.getElem?_eq_getElem hk)]
            have en : nmOf c k = c[k].1 := by unfold nmOf; rw [getD_of (List.getElem?_eq_getElem hk)]
            refine Sm.ite (fun z => ?_) fun z => ?_
            · rw [z] at hq
              have tl : t.length < 1000000 := by
                rw [ht, List.length_append, List.length_map]
                have a1 := List.length_filter_le (fun k => decide (cnt (loads c) k = r) && decide (f ≤ ld (loads c) k)) (List.range k)
                rw [List.length_range] at a1
                have a2 : s.length ≤ 3 * 6 := by
                  rw [hs, List.length_map]
                  have gen : ∀ m, ((List.range m).flatMap fun r => (List.range c.length).filter fun k => decide (cnt (loads c) k = r) && decide (f ≤ ld (loads c) k)).length ≤ m * 6 := fun m => by
                    induction m with
                    | zero => simp
                    | succ m ih =>
                      rw [List.range_succ, List.flatMap_append, List.length_append, List.flatMap_cons, List.flatMap_nil, List.append_nil]
                      have b1 := List.length_filter_le (fun k => decide (cnt (loads c) k = m) && decide (f ≤ ld (loads c) k)) (List.range c.length)
                      rw [List.length_range] at b1
                      omega
                  have := gen r
                  omega
                omega
              refine Sm.bindE ex (Sm.bindE (appG_eq tl) (Sm.some ?_))
              rw [ht, List.append_assoc]
              congr 2
              rw [List.filter_cons_of_pos (by rw [← hq]), List.filter_nil, List.map_cons, List.map_nil, en]
            · rw [z] at hq
              refine Sm.some ?_
              rw [ht, List.filter_cons_of_neg (by rw [← hq]; simp), List.filter_nil, List.map_nil, List.append_nil]
      · rw [ht, hs, List.range_succ, List.flatMap_append, List.map_append, List.flatMap_cons, List.flatMap_nil, List.append_nil]
    · rw [hs]
      unfold climb
      rw [← top_ranks, hL]
  obtain ⟨r, e1, e2⟩ := this
  rw [e1, e2]
end K14
namespace K14
open PySem L2 DL
theorem CrewOk.rev {c : Crew} (h : CrewOk c) : CrewOk c.reverse :=
  ⟨by rw [List.length_reverse]; exact h.len, by rw [List.map_reverse]; exact List.pairwise_reverse.mpr (h.nd.imp Ne.symm), fun x hx => h.one x (List.mem_reverse.mp hx)⟩
theorem nmOf_mem {c : Crew} {i : Nat} (h : i < c.length) : ∃ x ∈ c, nmOf c i = x.1 := ⟨c[i], List.getElem_mem h, by unfold nmOf; rw [getD_of (List.getElem?_eq_getElem h)]⟩
theorem climb_gd {c : Crew} (h : CrewOk c) (n : Nat) (f : Int) : D.gd 7 (.tup ((climb c n f).map D.str)) = true := by
  have hl := h.len
  refine strs_gd ?_ fun s hs => ?_
  · unfold climb tops
    rw [List.length_map]
    have a1 := List.length_filter_le (fun k => decide (f ≤ ld (loads c) k)) ((rk (loads c)).take n)
    rw [List.length_take, rk_len, loads_len] at a1
    omega
  · unfold climb at hs
    obtain ⟨i, hi, e⟩ := List.mem_map.mp hs
    have hi := tops_lt hi
    rw [loads_len] at hi
    obtain ⟨x, hx, e2⟩ := nmOf_mem hi
    rw [← e, e2]
    exact (h.one x hx).1
theorem start_ok {β : Type} {s : List Int} (hs : s.length ≤ 63) (m : Nat) (hm : 6 ≤ m ∧ m ≤ 100) {f : List Int → Crew → Int → Int → Option β} {P : β → Prop}
    (k : ∀ (rest : List Int) (c : Crew) (n : Nat) (sill : Int), rest.length = m → CrewOk c → 1 ≤ n → n ≤ 3 → 0 ≤ sill → sill ≤ 1000000000000 → Sm (f rest c n sill) P) :
    Sm ((m_law_cell s (1 : Int)).bind fun r_1 => ((m_law_pool r_1 (m : Int)).bind fun r_2 => ((some r_2).bind fun rest_3 => ((m_law_cell s (0 : Int)).bind fun r_4 => ((m_law_pool r_4 (35 : Int)).bind fun r_5 => ((m_law_part rest_3 (0 : Int) (1 : Int) (7 : Int)).bind fun r_6 => ((m_law_bidders r_5 (0 : Int) r_6).bind fun r_7 => ((some r_7).bind fun crew_8 => ((m_law_part rest_3 (0 : Int) (7 : Int) (3 : Int)).bind fun r_9 => ((some ((1 : Int) + r_9)).bind fun slots_10 => ((m_law_sill rest_3 (1 : Int) crew_8).bind fun r_11 => ((some r_11).bind fun sill_12 => f rest_3 crew_8 slots_10 sill_12)))))))))))) P := by
  obtain ⟨c1, e1⟩ := cell_ok s 1 (by omega)
  obtain ⟨p1, e2, l1, _⟩ := pool_ok c1 m (by omega)
  obtain ⟨c0, e3⟩ := cell_ok s 0 (by omega)
  obtain ⟨p0, e4, l0, _⟩ := pool_ok c0 35 (by omega)
  refine Sm.bindE e1 (Sm.bindE e2 (Sm.bindE rfl (Sm.bindE e3 (Sm.bindE e4 (Sm.bind (part_sm (by omega) (by omega) (by omega) (by omega) (by omega)) fun r6 ⟨a1, a2⟩ => ?_)))))
  have hb := bidders_ok (pool := p0) (n := r6.toNat) l0 (by omega)
  rw [Int.toNat_of_nonneg a1] at hb
  refine Sm.bind hb fun c hc => Sm.bindE rfl (Sm.bind (part_sm (by omega) (by omega) (by omega) (by omega) (by omega)) fun r9 ⟨b1, b2⟩ => Sm.bindE rfl (Sm.bind (sill_ok (by omega) hc) fun sill ⟨s1, s2⟩ => Sm.bindE rfl ?_))
  have := k p1 c (1 + r9).toNat sill l1 hc (by omega) (by omega) s1 s2
  rw [Int.toNat_of_nonneg (by omega)] at this
  exact this
theorem one_half {s : List Int} (hs : s.length ≤ 63) : m_law_one_half s = some true := by
  have : Sm (m_law_one_half s) (· = true) := by
    unfold m_law_one_half
    refine start_ok hs 6 (by omega) fun rest c n sill hr hc n1 n2 s1 s2 => ?_
    have sm : ∀ m f, m_law_same 8 (D.tup ((climb c m f).map D.str)) (D.tup ((climb c m f).map D.str)) = some true := fun m f => same_self (climb_gd hc m f)
    have smr : ∀ m f, m_law_same 8 (D.tup ((climb c.reverse m f).map D.str)) (D.tup ((climb c.reverse m f).map D.str)) = some true := fun m f => same_self (climb_gd hc.rev m f)
    have smc : m_law_same 8 (D.lst (c.map crD)) (D.lst (c.map crD)) = some true := same_self (crew_gd hc)
    have one : ((1 : Nat) : Int) = 1 := rfl
    have L1 : m_ladder c n sill = some (climb c n sill) := ladder_eq hc n1 n2 s1 s2
    have W1 : m_law_ladder c n sill = some (climb c n sill) := law_ladder_eq hc.wt n2
    have L2' : m_ladder_2 c n 0 = some (climb c n 0) := by rw [ladder2_eq]; exact ladder_eq hc n1 n2 (by omega) (by omega)
    have W2 : m_law_ladder c n 0 = some (climb c n 0) := law_ladder_eq hc.wt n2
    have L3 : m_ladder c 1 sill = some (climb c 1 sill) := ladder_eq (n := 1) hc (by omega) (by omega) s1 s2
    have W3 : m_law_ladder c 1 sill = some (climb c 1 sill) := law_ladder_eq (n := 1) hc.wt (by omega)
    have L4 : m_ladder c 1 0 = some (climb c 1 0) := ladder_eq (n := 1) hc (by omega) (by omega) (by omega) (by omega)
    have W4 : m_law_ladder c 1 0 = some (climb c 1 0) := law_ladder_eq (n := 1) hc.wt (by omega)
    have L5 : m_ladder c.reverse n sill = some (climb c.reverse n sill) := ladder_eq hc.rev n1 n2 s1 s2
    have W5 : m_law_ladder c.reverse n sill = some (climb c.reverse n sill) := law_ladder_eq hc.rev.wt n2
    refine Sm.bindE W1 (Sm.bindE rfl (Sm.bindE rfl (Sm.bindE L1 (Sm.bindE (sm _ _) (Sm.bindE (a := false) ?_ ?_)))))
    · show ((m_law_same 8 _ _).bind fun r => some (!r)) = some false
      rw [smc]; rfl
    · show Sm ((m_ladder_2 c n 0).bind _) _
      refine Sm.bindE L2' (Sm.bindE W2 (Sm.bindE (sm _ _) ?_))
      show Sm ((m_ladder c 1 sill).bind _) _
      refine Sm.bindE L3 (Sm.bindE W3 (Sm.bindE (sm _ _) ?_))
      show Sm ((m_ladder c 1 0).bind _) _
      refine Sm.bindE L4 (Sm.bindE W4 (Sm.bindE (sm _ _) ?_))
      show Sm ((m_ladder c.reverse n sill).bind _) _
      refine Sm.bindE L5 (Sm.bindE W5 (Sm.bindE (smr _ _) ?_))
      show Sm ((m_ladder c n sill).bind _) _
      exact Sm.bindE L1 (Sm.bindE (sm _ _) (Sm.some rfl))
  obtain ⟨r, e1, e2⟩ := this
  rw [e1, e2]
end K14
namespace K14
open PySem L2 DL
theorem erase_perm {α : Type} {l : List α} {i : Nat} {x : α} (h : l[i]? = some x) : l.Perm (x :: l.eraseIdx i) := by
  induction l generalizing i with
  | nil => simp at h
  | cons y l ih =>
    cases i with
    | zero => cases h; exact .refl _
    | succ i =>
      rw [List.getElem?_cons_succ] at h
      rw [List.eraseIdx_cons_succ]
      exact ((ih h).cons y).trans (.swap ..)
theorem popG_eq {α : Type} {l : List α} {i : Int} (h0 : 0 ≤ i) (h1 : i < l.length) (hl : l.length ≤ 1000) : ∃ x, l[i.toNat]? = some x ∧ popG l i = some (x, l.eraseIdx i.toNat) := by
  have hi : i.toNat < l.length := by omega
  refine ⟨l[i.toNat], List.getElem?_eq_getElem hi, ?_⟩
  unfold popG
  have e : seqIndex? i l.length = some i.toNat := by
    unfold seqIndex?
    simp only [if_neg (show ¬ i < 0 by omega)]
    rw [if_pos (by simp; omega)]
  rw [if_pos (by simp; omega), e]
  show (match l[i.toNat]? with | some x => some (x, l.eraseIdx i.toNat) | none => none) = _
  rw [List.getElem?_eq_getElem hi]
theorem wished_ok {pool : List Int} {c : Crew} (hp : pool.length = 10) (h : CrewOk c) {m : Nat} (hm : m ≤ 4) : Sm (m_law_wished pool 6 c m) fun W => W.Nodup ∧ ∀ x ∈ W, x ∈ c.map (·.1) := by
  have hl := h.len
  unfold m_law_wished
  refine Sm.bindE (lcG_eq (by omega)) (Sm.bindE rfl (Sm.bindE rfl (Sm.bindE (rng1G_eq (by omega)) (Sm.bind (Sm.foldN (fun _ s => (s.1 ++ s.2).Perm (c.map (·.1))) (by simp) fun i s hi hs => ?_) fun s hs => Sm.some ?_))))
  · have hlen := hs.length_eq
    rw [List.length_append, List.length_map] at hlen
    have hok : ∀ x ∈ s.1, NameOk x := fun x hx => by
      obtain ⟨y, hy, e⟩ := List.mem_map.mp (hs.mem_iff.mp (List.mem_append_left _ hx))
      rw [← e]; exact (h.one y hy).1
    refine Sm.bindE (eqG_nil (strs_gdL (by omega) hok) (by omega)) (Sm.bind (P := fun s' => (s'.1 ++ s'.2).Perm (c.map (·.1))) (Sm.ite (fun z => ?_) fun _ => Sm.some hs) fun s' h' => Sm.some h')
    have hne : s.1 ≠ [] := fun e => by rw [e] at z; cases z
    have hpos : 0 < s.1.length := List.length_pos_iff.mpr hne
    refine Sm.bind (part_sm (by omega) (by omega) (by omega) (by omega) (by omega)) fun r ⟨r1, r2⟩ => Sm.bindE (modG_eq (by omega)) ?_
    obtain ⟨x, x1, x2⟩ := popG_eq (l := s.1) (i := r % (s.1.length : Int)) (Int.emod_nonneg _ (by omega)) (Int.emod_lt_of_pos _ (by omega)) (by omega)
    refine Sm.bindE x2 (Sm.bindE (appG_eq (by omega)) (Sm.some ?_))
    refine List.Perm.trans ?_ hs
    show (s.1.eraseIdx _ ++ (s.2 ++ [x])).Perm (s.1 ++ s.2)
    refine List.Perm.symm (((erase_perm x1).append_right s.2).trans ?_)
    rw [← List.append_assoc]
    exact List.perm_append_comm (l₁ := [x])
  · have nd : (s.1 ++ s.2).Nodup := hs.nodup_iff.mpr h.nd
    exact ⟨(List.nodup_append.mp nd).2.1, fun x hx => hs.mem_iff.mp (List.mem_append_right _ hx)⟩
def wt (c : Crew) (i : Nat) : Int := (c.getD i (Sl [], 0, 0)).2.1
def bd (c : Crew) (i : Nat) : Int := (c.getD i (Sl [], 0, 0)).2.2
theorem ld_loads {c : Crew} {i : Nat} (h : i < c.length) : ld (loads c) i = wt c i * bd c i := by
  unfold ld loads wt bd
  rw [getD_of (l := c) (List.getElem?_eq_getElem h), List.getD_eq_getElem?_getD, List.getElem?_map, List.getElem?_eq_getElem h]; rfl
def behindOf (c : Crew) (ps : List Nat) (f : Int) : List Nat := (List.range c.length).filter fun k => !decide (k ∈ ps) && decide (f ≤ ld (loads c) k)
def bhd (c : Crew) (ps : List Nat) (f : Int) : List Nat → List Nat
  | [] => behindOf c ps f
  | x :: _ => [x]
structure Inv (c : Crew) (ps : List Nat) (f : Int) (q : List Nat) (s : List Int × List Int × List Int) : Prop where
  l1 : s.1.length = c.length
  l2 : s.2.2.length = c.length
  eq : ∀ i, i < c.length → ld s.1 i = wt c i * (bd c i + s.2.2.getD i 0)
  nn : ∀ i, i < c.length → 0 ≤ s.2.2.getD i 0
  zr : ∀ i, i < c.length → i ∉ q → s.2.2.getD i 0 = 0
  bh : s.2.1 = (bhd c ps f q).map fun i : Nat => (i : Int)
  ch : q.Pairwise fun i j => bt s.1 i j = true
  fl : ∀ x ∈ q, f ≤ ld s.1 x
  rv : ∀ x ∈ q, ∀ k ∈ behindOf c ps f, bt s.1 x k = true
theorem set_getD {l : List Int} {i j : Nat} {v : Int} (hi : i < l.length) : (l.set i v).getD j 0 = if i = j then v else l.getD j 0 := by
  rw [List.getD_eq_getElem?_getD, List.getD_eq_getElem?_getD]
  by_cases e : i = j
  · subst e; rw [List.getElem?_set_self hi, if_pos rfl]; rfl
  · rw [List.getElem?_set_ne e, if_neg e]
theorem ceil_ok {w b need : Int} (hw : 1 ≤ w) : need ≤ w * (b + (if (-((-need) / w)) - b > 0 then (-((-need) / w)) - b else 0)) := by
  have h := Int.mul_ediv_self_le (x := -need) (k := w) (by omega)
  generalize (-need) / w = m at *
  have h2 : w * (-m) = -(w * m) := Int.mul_neg ..
  split
  · next c =>
    rw [show b + (-m - b) = -m by omega, h2]; omega
  · next c =>
    rw [Int.add_zero]
    have := Int.mul_le_mul_of_nonneg_left (c := w) (show -m ≤ b by omega) (by omega)
    omega
theorem bt_of {L : List Int} {i j : Nat} (hne : i ≠ j) (h : ld L j + (if j < i then 1 else 0) ≤ ld L i) : bt L i j = true := by
  rw [bt_iff]
  split at h <;> omega
theorem bt_set {L : List Int} {i j y : Nat} {v : Int} (hy : y < L.length) (h1 : i ≠ y) (h2 : j ≠ y) : bt (L.set y v) i j = bt L i j := by
  unfold bt ld
  rw [set_getD hy, set_getD hy, if_neg (Ne.symm h1), if_neg (Ne.symm h2)]
theorem least_step {c : Crew} (hw : Wt c) {ps : List Nat} (hn : ps.Nodup) (hp : ∀ p ∈ ps, p < c.length) {f : Int} (hlen : ps.length ≤ 6) {p q : List Int} {x : Int} {s : List Int × List Int × List Int}
    (e : (ps.map fun i : Nat => (i : Int)).reverse = p ++ x :: q) (hI : Inv c ps f ((p.map Int.toNat).reverse) s) :
    Sm ((lcG s.2.1).bind fun ys_16 => ((lcM (fun z_17 : Int => some true) (fun z_17 : Int => ((idxG s.1 z_17).bind fun x_18 => some (x_18 + (if (decide (z_17 < x)) = true then (1 : Int) else (0 : Int))))) ys_16).bind fun zs_19 => ((catG [f] zs_19).bind fun xs_20 => ((maxG xs_20).bind fun n_21 => ((some n_21).bind fun needed_22 => ((idxG c x).bind fun x_23 => ((some x_23).bind fun p_24 => ((divG (-needed_22) p_24.2.1).bind fun n_25 => ((setG s.2.2 x (if ((-n_25) - p_24.2.2) > (0 : Int) then ((-n_25) - p_24.2.2) else (0 : Int) : Int)).bind fun raises_26 => ((idxG raises_26 x).bind fun x_27 => ((mulG p_24.2.1 (p_24.2.2 + x_27)).bind fun n_28 => ((setG s.1 x n_28).bind fun strengths_29 => ((some [x]).bind fun behind_30 => some (strengths_29, behind_30, raises_26)))))))))))))) (fun s' => Inv c ps f (((p ++ [x]).map Int.toNat).reverse) s') := by
  have hl := hw.len
  have hL := loads_len c
  rw [List.map_append, List.reverse_append]
  show Sm _ (Inv c ps f (x.toNat :: (p.map Int.toNat).reverse))
  generalize hqq : (p.map Int.toNat).reverse = qq at *
  have e2 : ps = (q.map Int.toNat).reverse ++ x.toNat :: qq := by
    have := congrArg (fun l : List Int => (l.map Int.toNat).reverse) e
    simp only [List.map_reverse, List.reverse_reverse, List.map_map, List.map_append, List.reverse_append, List.map_cons, List.reverse_cons] at this
    have e' : (Int.toNat ∘ fun i : Nat => (i : Int)) = id := funext fun i => Int.toNat_natCast i
    rw [e', List.map_id] at this
    rw [this, ← hqq]; simp
  have hx0 : 0 ≤ x := by
    have : x ∈ (ps.map fun i : Nat => (i : Int)).reverse := by rw [e]; simp
    obtain ⟨i, _, e⟩ := List.mem_map.mp (List.mem_reverse.mp this)
    omega
  obtain ⟨y, hy⟩ : ∃ y : Nat, x = (y : Int) := ⟨x.toNat, by omega⟩
  subst hy
  rw [Int.toNat_natCast] at *
  have hyp : y ∈ ps := by rw [e2]; simp
  have hyn : y < c.length := hp y hyp
  have hyq : y ∉ qq := fun h => by
    rw [e2] at hn
    exact (List.nodup_cons.mp (List.nodup_append.mp hn).2.1).1 h
  have hqp : ∀ o ∈ qq, o ∈ ps := fun o ho => by rw [e2]; simp [ho]
  have hbn : ∀ k ∈ behindOf c ps f, k < c.length ∧ k ≠ y ∧ f ≤ ld (loads c) k := fun k hk => by
    obtain ⟨h1, h2⟩ := List.mem_filter.mp hk
    simp only [Bool.and_eq_true, Bool.not_eq_true', decide_eq_false_iff_not, decide_eq_true_eq] at h2
    exact ⟨List.mem_range.mp h1, fun z => h2.1 (z ▸ hyp), h2.2⟩
  obtain ⟨B, hB, hBl, hBm⟩ : ∃ B : List Nat, s.2.1 = B.map (fun i : Nat => (i : Int)) ∧ B.length ≤ 6 ∧ ∀ o ∈ B, o < c.length ∧ o ≠ y := by
    refine ⟨_, hI.bh, ?_, fun o ho => ?_⟩
    · cases qq with
      | nil =>
        show (behindOf c ps f).length ≤ 6
        have := List.length_filter_le (fun k => !decide (k ∈ ps) && decide (f ≤ ld (loads c) k)) (List.range c.length)
        rw [List.length_range] at this
        unfold behindOf; omega
      | cons z qq => show 1 ≤ 6; omega
    · cases qq with
      | nil => exact ⟨(hbn o ho).1, (hbn o ho).2.1⟩
      | cons z qq =>
        have : o = z := by simpa [bhd] using ho
        subst this
        exact ⟨hp o (hqp o (by simp)), fun e => hyq (by rw [← e]; simp)⟩
  have hbB : bhd c ps f qq = B := by
    have h1 := hI.bh
    rw [hB] at h1
    exact (List.map_inj_right (f := fun i : Nat => (i : Int)) (fun a b h => by omega)).mp h1.symm
  have idS : ∀ j, j < c.length → idxG s.1 (j : Int) = some (ld s.1 j) := fun j hj => by
    have hj : j < s.1.length := by rw [hI.l1]; exact hj
    rw [idxG_nat (List.getElem?_eq_getElem hj)]
    unfold ld; rw [getD_of (List.getElem?_eq_getElem hj)]
  refine Sm.bindE (lcG_eq (by rw [hB, List.length_map]; omega)) ?_
  rw [hB]
  refine Sm.bindE (lcM_eq (fun _ => true) (fun z : Int => ld s.1 z.toNat + (if z.toNat < y then 1 else 0)) fun z hz => ⟨rfl, fun _ => ?_⟩) ?_
  · obtain ⟨o, ho, e⟩ := List.mem_map.mp hz
    subst e
    rw [idS o (hBm o ho).1, Option.bind_some, Int.toNat_natCast]
    by_cases q : o < y
    · rw [if_pos q, decide_eq_true (show (o : Int) < (y : Int) by omega), if_pos rfl]
    · rw [if_neg q, decide_eq_false (show ¬ (o : Int) < (y : Int) by omega), if_neg Bool.false_ne_true]
  rw [List.filter_eq_self.mpr (fun _ _ => rfl), List.map_map]
  refine Sm.bindE (catG_eq (by simp; omega)) ?_
  obtain ⟨m, hm⟩ : ∃ m, maxG ([f] ++ B.map ((fun z : Int => ld s.1 z.toNat + (if z.toNat < y then 1 else 0)) ∘ fun i : Nat => (i : Int))) = some m := ⟨_, rfl⟩
  obtain ⟨_, hmax⟩ := maxG_ok hm
  have hmf : f ≤ m := hmax f (by simp)
  have hmB : ∀ o ∈ B, ld s.1 o + (if o < y then 1 else 0) ≤ m := fun o ho => by
    have := hmax _ (List.mem_append_right _ (List.mem_map.mpr ⟨o, ho, rfl⟩))
    simpa using this
  refine Sm.bindE hm (Sm.bindE rfl ?_)
  have hcy : idxG c (y : Int) = some c[y] := idxG_nat (List.getElem?_eq_getElem hyn)
  have ewt : c[y].2.1 = wt c y := by unfold wt; rw [getD_of (List.getElem?_eq_getElem hyn)]
  have ebd : c[y].2.2 = bd c y := by unfold bd; rw [getD_of (List.getElem?_eq_getElem hyn)]
  obtain ⟨w1, w2⟩ := hw.w c[y] (List.getElem_mem hyn)
  refine Sm.bindE hcy (Sm.bindE rfl (Sm.bindE (divG_eq (by omega) (by omega)) ?_))
  rw [ewt, ebd]
  rw [ewt] at w1 w2
  generalize hr : (if ((-((-m) / wt c y)) - bd c y) > (0 : Int) then ((-((-m) / wt c y)) - bd c y) else (0 : Int) : Int) = r
  have hr0 : 0 ≤ r := by rw [← hr]; split <;> omega
  have hceil : m ≤ wt c y * (bd c y + r) := by rw [← hr]; exact ceil_ok w1
  have hRl : y < s.2.2.length := by rw [hI.l2]; exact hyn
  have hSl : y < s.1.length := by rw [hI.l1]; exact hyn
  refine Sm.bindE (setG_eq (by omega) (by omega)) ?_
  rw [Int.toNat_natCast]
  refine Sm.bindE (idxG_nat (i := y) (x := r) (List.getElem?_set_self hRl)) (Sm.bindE (mulG_l (by omega) (by omega)) (Sm.bindE (setG_eq (by omega) (by omega)) (Sm.bindE rfl (Sm.some ?_))))
  rw [Int.toNat_natCast]
  have hv : ld (s.1.set y (wt c y * (bd c y + r))) y = wt c y * (bd c y + r) := by unfold ld; rw [set_getD hSl, if_pos rfl]
  have hvo : ∀ o, o ≠ y → ld (s.1.set y (wt c y * (bd c y + r))) o = ld s.1 o := fun o ho => by unfold ld; rw [set_getD hSl, if_neg (Ne.symm ho)]
  have front : ∀ o ∈ B, bt (s.1.set y (wt c y * (bd c y + r))) y o = true := fun o ho => by
    refine bt_of (Ne.symm (hBm o ho).2) ?_
    rw [hv, hvo o (hBm o ho).2]
    exact Int.le_trans (hmB o ho) hceil
  have hqne : ∀ o ∈ qq, o ≠ y := fun o ho z => hyq (z ▸ ho)
  have frontq : ∀ o ∈ qq, bt (s.1.set y (wt c y * (bd c y + r))) y o = true := fun o ho => by
    cases qq with
    | nil => cases ho
    | cons z qq =>
      have hz : bt (s.1.set y (wt c y * (bd c y + r))) y z = true := front z (by rw [← hbB]; simp [bhd])
      rcases List.mem_cons.mp ho with h | h
      · subst h; exact hz
      · refine bt_trans hz ?_
        rw [bt_set hSl (hqne z (by simp)) (hqne o ho)]
        exact (List.pairwise_cons.mp hI.ch).1 o h
  refine ⟨by rw [List.length_set]; exact hI.l1, by rw [List.length_set]; exact hI.l2, fun i hi => ?_, fun i hi => ?_, fun i hi hni => ?_, rfl, List.pairwise_cons.mpr ⟨frontq, hI.ch.imp_of_mem fun {a b} ha hb h => by rw [bt_set hSl (hqne a ha) (hqne b hb)]; exact h⟩, fun z hz => ?_, fun z hz k hk => ?_⟩
  · show ld (s.1.set y _) i = _
    by_cases q : i = y
    · subst q; rw [hv]; show _ = wt c i * (bd c i + (s.2.2.set i r).getD i 0); rw [set_getD hRl, if_pos rfl]
    · rw [hvo i q, hI.eq i hi]; show _ = wt c i * (bd c i + (s.2.2.set y r).getD i 0); rw [set_getD hRl, if_neg (Ne.symm q)]
  · show 0 ≤ (s.2.2.set y r).getD i 0
    rw [set_getD hRl]
    split
    · exact hr0
    · exact hI.nn i hi
  · show (s.2.2.set y r).getD i 0 = 0
    rw [set_getD hRl, if_neg (fun z => hni (by rw [z]; simp))]
    exact hI.zr i hi fun z => hni (List.mem_cons_of_mem _ z)
  · show f ≤ ld (s.1.set y _) z
    rcases List.mem_cons.mp hz with q | q
    · subst q; rw [hv]; exact Int.le_trans hmf hceil
    · rw [hvo z (hqne z q)]; exact hI.fl z q
  · show bt (s.1.set y _) z k = true
    have hkn := (hbn k hk).2.1
    have old : ∀ z ∈ qq, bt (s.1.set y (wt c y * (bd c y + r))) z k = true := fun z hz => by
      rw [bt_set hSl (hqne z hz) hkn]; exact hI.rv z hz k hk
    rcases List.mem_cons.mp hz with q | q
    · subst q
      cases qq with
      | nil => exact front k (by rw [← hbB]; exact hk)
      | cons a qq => exact bt_trans (front a (by rw [← hbB]; simp [bhd])) (old a (by simp))
    · exact old z q
theorem least_ok {c : Crew} (hw : Wt c) {ps : List Nat} (hn : ps.Nodup) (hp : ∀ p ∈ ps, p < c.length) {h : Nat} {f : Int} (hlen : ps.length ≤ 6) :
    (h < ps.length ∨ (ps.length < h ∧ behindOf c ps f ≠ []) → m_least_raises c (ps.map fun i : Nat => (i : Int)) h f = some none) ∧
    (¬ (h < ps.length ∨ (ps.length < h ∧ behindOf c ps f ≠ [])) → Sm (m_least_raises c (ps.map fun i : Nat => (i : Int)) h f) fun r => ∃ R S B, r = some R ∧ Inv c ps f ps (S, B, R)) := by
  have hl := hw.len
  have hL := loads_len c
  have idx : ∀ j, j < (loads c).length → idxG (loads c) (j : Int) = some (ld (loads c) j) := fun j hj => by
    rw [idxG_nat (List.getElem?_eq_getElem hj)]
    unfold ld; rw [getD_of (List.getElem?_eq_getElem hj)]
  have hbeh : lcM (fun z_5 : Int => ((if (!(decide (z_5 ∈ (ps.map fun i : Nat => (i : Int))))) = true then ((idxG (loads c) z_5).bind fun x_6 => some (decide (f ≤ x_6))) else some false).bind fun q_7 => some q_7)) (fun z_5 : Int => some z_5) (rngI 0 c.length) = some ((behindOf c ps f).map fun i : Nat => (i : Int)) := by
    rw [lcM_eq (fun z : Int => !decide (z.toNat ∈ ps) && decide (f ≤ ld (loads c) z.toNat)) (fun z : Int => z) fun x hx => ⟨?_, fun _ => rfl⟩]
    · rw [List.map_id']
      unfold rngI behindOf
      rw [List.filter_map]
      have e0 : (fun i : Nat => (0 : Int) + (i : Int)) = fun i : Nat => (i : Int) := funext fun i => Int.zero_add _
      rw [e0]
      congr 2
    · obtain ⟨j, hj, e⟩ := List.mem_map.mp hx
      subst e
      have hj := List.mem_range.mp hj
      rw [Int.zero_add, Int.toNat_natCast]
      have e1 : decide ((j : Int) ∈ (ps.map fun i : Nat => (i : Int))) = decide (j ∈ ps) := by
        by_cases q : j ∈ ps
        · rw [decide_eq_true q]; exact decide_eq_true (List.mem_map.mpr ⟨j, q, rfl⟩)
        · rw [decide_eq_false q]
          refine decide_eq_false fun z => q ?_
          obtain ⟨k, hk, e⟩ := List.mem_map.mp z
          rw [show j = k by omega]; exact hk
      rw [e1, idx j (by omega)]
      cases decide (j ∈ ps) <;> rfl
  unfold m_least_raises
  rw [strengths_eq hw, Option.bind_some, Option.bind_some, rng1G_eq (by omega), Option.bind_some, lcG_eq (by rw [rngI_length]; omega), Option.bind_some, hbeh, Option.bind_some, Option.bind_some, List.length_map, List.length_map]
  refine ⟨fun hc => ?_, fun hc => ?_⟩
  · rw [if_pos]
    rcases hc with hc | ⟨h1, h2⟩
    · rw [decide_eq_true (show (h : Int) < (ps.length : Int) by omega)]; rfl
    · have := List.length_pos_iff.mpr h2
      rw [decide_eq_true (show (ps.length : Int) < (h : Int) by omega), decide_eq_true (show (0 : Int) < ((behindOf c ps f).length : Int) by omega)]
      simp
  · refine Sm.ite (fun z => ?_) fun _ => ?_
    · refine absurd ?_ hc
      simp only [Bool.or_eq_true, Bool.and_eq_true, decide_eq_true_eq] at z
      rcases z with z | ⟨z1, z2⟩
      · exact .inl (by omega)
      · exact .inr ⟨by omega, fun e => by rw [e] at z2; simp at z2⟩
    · refine Sm.bindE (lcG_eq (by omega)) (Sm.bindE rfl (Sm.bind (P := fun s => Inv c ps f ps s) ?_ fun s hs => Sm.some ⟨s.2.2, s.1, s.2.1, rfl, hs⟩))
      refine Sm.foldTo (fun (pre : List Int) s => Inv c ps f ((pre.map Int.toNat).reverse) s) ?_ ?_ fun s hs => ?_
      · have z0 : ∀ i, (c.map fun _ => (0 : Int)).getD i 0 = 0 := fun i => by
          rw [List.getD_eq_getElem?_getD, List.getElem?_map]
          cases c[i]? <;> rfl
        refine ⟨hL, List.length_map .., fun i hi => ?_, fun i hi => (by rw [z0]; exact Int.le_refl _), fun i hi _ => z0 i, rfl, .nil, fun x hx => (nomatch hx), fun x hx => (nomatch hx)⟩
        show ld (loads c) i = _
        rw [ld_loads hi, z0, Int.add_zero]
      · intro p x q s e hI
        exact least_step hw hn hp hlen e hI
      · rw [List.map_reverse, List.reverse_reverse, List.map_map] at hs
        have e : (Int.toNat ∘ fun i : Nat => (i : Int)) = id := funext fun i => Int.toNat_natCast i
        rw [e, List.map_id] at hs
        exact hs
end K14
namespace K14
open PySem L2 DL
theorem tops_is {L : List Int} {ps : List Nat} {h : Nat} {f : Int} (nd : ps.Nodup) (lt : ∀ p ∈ ps, p < L.length) (ch : ps.Pairwise fun i j => bt L i j = true) (fl : ∀ x ∈ ps, f ≤ ld L x) (rv : ∀ k, k < L.length → k ∉ ps → f ≤ ld L k → ∀ x ∈ ps, bt L x k = true)
    (hh : ps.length = h ∨ (ps.length ≤ h ∧ ∀ k, k < L.length → k ∉ ps → ¬ f ≤ ld L k)) : tops L h f = ps := by
  let P : Nat → Bool := fun k => decide (f ≤ ld L k)
  let V := (rk L).filter fun k => P k && !decide (k ∈ ps)
  have hV : ∀ k, k ∈ V ↔ (k < L.length ∧ f ≤ ld L k ∧ k ∉ ps) := fun k => by
    show k ∈ (rk L).filter _ ↔ _
    rw [List.mem_filter]
    simp only [P, Bool.and_eq_true, decide_eq_true_eq, Bool.not_eq_true', decide_eq_false_iff_not]
    exact ⟨fun ⟨a, b, c⟩ => ⟨rk_lt a, b, c⟩, fun ⟨a, b, c⟩ => ⟨rk_mem a, b, c⟩⟩
  have e : (rk L).filter P = ps ++ V := by
    refine List.Perm.eq_of_pairwise (le := fun i j => bt L i j = true) (fun a b _ _ h1 h2 => by rw [bt_asymm h1] at h2; cases h2) ((rk_srt L).filter _) ?_ ?_
    · refine List.pairwise_append.mpr ⟨ch, (rk_srt L).filter _, fun a ha b hb => ?_⟩
      obtain ⟨b1, b2, b3⟩ := (hV b).mp hb
      exact rv b b1 b3 b2 a ha
    · refine (List.perm_ext_iff_of_nodup ((rk_nd L).filter _) (List.nodup_append.mpr ⟨nd, (rk_nd L).filter _, fun a ha b hb z => ?_⟩)).mpr fun k => ?_
      · subst z; exact ((hV _).mp hb).2.2 ha
      · rw [List.mem_append, hV, List.mem_filter]
        constructor
        · intro ⟨a, b⟩
          by_cases q : k ∈ ps
          · exact .inl q
          · exact .inr ⟨rk_lt a, of_decide_eq_true b, q⟩
        · rintro (q | ⟨a, b, c⟩)
          · exact ⟨rk_mem (lt k q), decide_eq_true (fl k q)⟩
          · exact ⟨rk_mem a, decide_eq_true b⟩
  rw [← top_eq]
  show ((rk L).filter P).take h = ps
  rw [e]
  rcases hh with hh | ⟨h1, h2⟩
  · rw [List.take_append_of_le_length (by omega), List.take_of_length_le (by omega)]
  · have : V = [] := List.eq_nil_iff_forall_not_mem.mpr fun k hk => by
      obtain ⟨a, b, c⟩ := (hV k).mp hk
      exact h2 k a c b
    rw [this, List.append_nil, List.take_of_length_le h1]
def rz (c : Crew) (R : List Int) : Crew := (List.range c.length).map fun k => (nmOf c k, wt c k, bd c k + R.getD k 0)
theorem at_eq {c : Crew} {k : Nat} (h : k < c.length) : c[k] = (nmOf c k, wt c k, bd c k) := by
  unfold nmOf wt bd
  rw [getD_of (List.getElem?_eq_getElem h)]
theorem rz_len (c : Crew) (R : List Int) : (rz c R).length = c.length := by unfold rz; rw [List.length_map, List.length_range]
theorem rz_at {c : Crew} {R : List Int} {k : Nat} (h : k < c.length) : (rz c R)[k]? = some (nmOf c k, wt c k, bd c k + R.getD k 0) := by
  unfold rz; rw [List.getElem?_map, List.getElem?_range h]; rfl
theorem rz_nm {c : Crew} {R : List Int} {k : Nat} (h : k < c.length) : nmOf (rz c R) k = nmOf c k := by
  rw [nmOf, getD_of (rz_at h)]
theorem rz_mem {c : Crew} {R : List Int} {x : Str × Int × Int} (h : x ∈ rz c R) : ∃ k, k < c.length ∧ x = (nmOf c k, wt c k, bd c k + R.getD k 0) := by
  obtain ⟨k, hk, e⟩ := List.mem_map.mp h
  exact ⟨k, List.mem_range.mp hk, e.symm⟩
theorem wt_in {c : Crew} (h : Wt c) {k : Nat} (hk : k < c.length) : 1 ≤ wt c k ∧ wt c k ≤ 1000 := by
  have := h.w _ (List.getElem_mem hk)
  rw [at_eq hk] at this
  exact this
theorem rz_wt {c : Crew} (h : Wt c) (R : List Int) : Wt (rz c R) := ⟨by rw [rz_len]; exact h.len, fun x hx => by
  obtain ⟨k, hk, e⟩ := rz_mem hx
  subst e
  exact wt_in h hk⟩
theorem rz_names (c : Crew) (R : List Int) : (rz c R).map (·.1) = c.map (·.1) := by
  apply List.ext_getElem?
  intro k
  rw [List.getElem?_map, List.getElem?_map]
  by_cases h : k < c.length
  · rw [rz_at h, List.getElem?_eq_getElem h, at_eq h]; rfl
  · rw [List.getElem?_eq_none (by rw [rz_len]; omega), List.getElem?_eq_none (by omega)]
theorem rz_loads {c : Crew} {ps q : List Nat} {f : Int} {S B R : List Int} (hI : Inv c ps f q (S, B, R)) : loads (rz c R) = S := by
  apply List.ext_getElem?
  intro k
  have l1 : S.length = c.length := hI.l1
  by_cases h : k < c.length
  · unfold loads
    rw [List.getElem?_map, rz_at h, List.getElem?_eq_getElem (by omega)]
    have := hI.eq k h
    unfold ld at this
    rw [getD_of (List.getElem?_eq_getElem (by show k < S.length; omega))] at this
    show some (wt c k * (bd c k + R.getD k 0)) = some S[k]
    rw [← this]
  · rw [List.getElem?_eq_none (by rw [loads_len, rz_len]; omega), List.getElem?_eq_none (by omega)]
theorem raised_eq {c : Crew} (hl : c.length ≤ 6) {R : List Int} (hR : R.length = c.length) : m_law_raised c (some R) = some (rz c R) := by
  have : Sm (m_law_raised c (some R)) fun r => r = rz c R := by
    unfold m_law_raised
    refine Sm.bindE rfl (Sm.bindE (rng1G_eq (by omega)) (Sm.bind (Sm.foldN (fun i s => s = (List.range i).map fun k => (nmOf c k, wt c k, bd c k + R.getD k 0)) rfl fun i s hi hs => ?_) fun s hs => Sm.some hs))
    have hi : i < c.length := hi
    have e1 : idxG c (0 + (i : Int)) = some c[i] := by rw [Int.zero_add]; exact idxG_nat (List.getElem?_eq_getElem hi)
    have e2 : idxG R (0 + (i : Int)) = some (R.getD i 0) := by
      rw [Int.zero_add, idxG_nat (List.getElem?_eq_getElem (by omega)), getD_of (List.getElem?_eq_getElem (by omega))]
    refine Sm.bindE e1 (Sm.bindE rfl (Sm.bindE rfl (Sm.bindE e2 (Sm.bindE (appG_eq (by rw [hs, List.length_map, List.length_range]; omega)) (Sm.some ?_)))))
    rw [hs, List.range_succ, List.map_append, at_eq hi]; rfl
  obtain ⟨r, e1, e2⟩ := this
  rw [e1, e2]
theorem rz_ok {c : Crew} (h : CrewOk c) {R : List Int} (h0 : ∀ k, k < c.length → 0 ≤ R.getD k 0) (h1 : ∀ x ∈ rz c R, x.2.2 ≤ 1000000000) : CrewOk (rz c R) :=
  ⟨by rw [rz_len]; exact h.len, by rw [rz_names]; exact h.nd, fun x hx => by
    have hb := h1 x hx
    obtain ⟨k, hk, e⟩ := rz_mem hx
    subst e
    have := h.one _ (List.getElem_mem hk)
    rw [at_eq hk] at this
    obtain ⟨a, b, c1, c2⟩ := this
    have := h0 k hk
    exact ⟨a, b, by show 0 ≤ bd c k + R.getD k 0; have : 0 ≤ bd c k := c1; omega, hb⟩⟩
theorem raises2_eq : m_raises_for_2 = m_raises_for := rfl
theorem fnd_some {names : List Str} {x : Str} (h : x ∈ names) : ∃ n : Nat, fndG names x = some (n : Int) ∧ names[n]? = some x := by
  unfold fndG
  cases e : names.findIdx? (fun y => decide (y = x)) with
  | none =>
    rw [List.findIdx?_eq_none_iff] at e
    have := e x h
    simp at this
  | some n =>
    refine ⟨n, rfl, ?_⟩
    rw [List.findIdx?_eq_some_iff_getElem] at e
    obtain ⟨hl, hp, _⟩ := e
    rw [List.getElem?_eq_getElem hl, of_decide_eq_true hp]
theorem bindId {α : Type} (o : Option α) : (o.bind fun r => some r) = o := by cases o <;> rfl
theorem nd_len {α : Type} [DecidableEq α] : ∀ {l m : List α}, l.Nodup → (∀ x ∈ l, x ∈ m) → l.length ≤ m.length
  | [], _, _, _ => Nat.zero_le _
  | x :: l, m, h, hs => by
    obtain ⟨h1, h2⟩ := List.nodup_cons.mp h
    have hx := hs x (List.mem_cons_self ..)
    have := nd_len (l := l) (m := m.erase x) h2 fun y hy => (List.mem_erase_of_ne (a := y) (b := x) (fun e => h1 (by rw [← e]; exact hy))).mpr (hs y (List.mem_cons_of_mem _ hy))
    rw [List.length_erase_of_mem hx] at this
    have hp := List.length_pos_of_mem hx
    rw [List.length_cons]; omega
theorem raises_eq {c : Crew} (hc : CrewOk c) {W : List Str} (wn : W.Nodup) (wm : ∀ x ∈ W, x ∈ c.map (·.1)) {h : Nat} {f : Int} (h1 : 1 ≤ h) (h2 : h ≤ 3) (f1 : 0 ≤ f) (f2 : f ≤ 1000000000000) :
    ∃ ps : List Nat, ps.Nodup ∧ (∀ p ∈ ps, p < c.length) ∧ ps.map (nmOf c) = W ∧ m_raises_for c W h f = m_least_raises c (ps.map fun i : Nat => (i : Int)) h f := by
  have hl := hc.len
  have wl : W.length ≤ 6 := by
    have := nd_len wn wm
    rw [List.length_map] at this; omega
  let ix : Str → Nat := fun x => ((fndG (c.map (·.1)) x).getD 0).toNat
  have hix : ∀ x ∈ W, fndG (c.map (·.1)) x = some ((ix x : Nat) : Int) ∧ (c.map (·.1))[ix x]? = some x := fun x hx => by
    obtain ⟨n, e1, e2⟩ := fnd_some (wm x hx)
    have : ix x = n := by show ((fndG (c.map (·.1)) x).getD 0).toNat = n; rw [e1]; rfl
    rw [this]; exact ⟨e1, e2⟩
  have hlt : ∀ x ∈ W, ix x < c.length := fun x hx => by
    have := (List.getElem?_eq_some_iff.mp (hix x hx).2).1
    rw [List.length_map] at this; exact this
  have hnm : ∀ x ∈ W, nmOf c (ix x) = x := fun x hx => by
    have := (hix x hx).2
    rw [List.getElem?_map, List.getElem?_eq_getElem (hlt x hx), at_eq (hlt x hx)] at this
    exact Option.some.inj this
  refine ⟨W.map ix, ?_, fun p hp => ?_, ?_, ?_⟩
  · refine List.pairwise_map.mpr (wn.imp_of_mem fun {a b} ha hb hne e => hne ?_)
    rw [← hnm a ha, ← hnm b hb, e]
  · obtain ⟨x, hx, e⟩ := List.mem_map.mp hp
    subst e; exact hlt x hx
  · rw [List.map_map]
    exact (List.map_congr_left fun x hx => hnm x hx).trans (List.map_id _)
  · unfold m_raises_for m_check_hours m_check_floor
    rw [check_eq hc, Option.bind_some, if_neg (by simp; omega), Option.bind_some, if_neg (by simp; omega), Option.bind_some, names_of_eq (by omega), Option.bind_some, Option.bind_some, foldlM_unit, Option.bind_some, lcG_eq (by omega), Option.bind_some,
      lcM_eq (fun _ => true) (fun x => ((ix x : Nat) : Int)) (fun x hx => ⟨rfl, fun _ => by rw [(hix x hx).1]; rfl⟩), Option.bind_some, List.filter_eq_self.mpr (fun _ _ => rfl), List.map_map, bindId]
    · rfl
    · intro z hz
      obtain ⟨i, e1, e2⟩ := enumL_mem hz
      have hzW : z.2 ∈ W := List.mem_of_getElem? e1
      have ck : m_check_known (c.map (·.1)) [z.2] = some () := by
        unfold m_check_known
        rw [foldlM_unit]
        · rfl
        · intro x hx
          rw [List.mem_singleton.mp hx, if_neg (by simp; simpa using wm _ hzW)]
      rw [ck, Option.bind_some, e2, cutX_take (by omega), Int.toNat_natCast, if_neg]
      have hn : ¬ z.2 ∈ W.take i := fun hm => by
        have hi := (List.getElem?_eq_some_iff.mp e1).1
        have nd := wn
        rw [← List.take_append_drop i W] at nd
        have e4 : z.2 ∈ W.drop i := by
          rw [List.drop_eq_getElem_cons hi, (List.getElem?_eq_some_iff.mp e1).2]; simp
        exact (List.nodup_append.mp nd).2.2 _ hm _ e4 rfl
      simpa using hn
end K14
namespace K14
open PySem L2 DL
theorem nd_inj {α : Type} {l : List α} (h : l.Nodup) {i j : Nat} {x : α} (h1 : l[i]? = some x) (h2 : l[j]? = some x) : i = j := by
  obtain ⟨a1, b1⟩ := List.getElem?_eq_some_iff.mp h1
  obtain ⟨a2, b2⟩ := List.getElem?_eq_some_iff.mp h2
  have nd := List.pairwise_iff_getElem.mp h
  rcases Nat.lt_trichotomy i j with z | z | z
  · exact absurd (b1.trans b2.symm) (nd i j a1 a2 z)
  · exact z
  · exact absurd (b2.trans b1.symm) (nd j i a2 a1 z)
theorem nm_in {c : Crew} (hc : CrewOk c) {ps : List Nat} (hp : ∀ p ∈ ps, p < c.length) {k : Nat} (hk : k < c.length) : nmOf c k ∈ ps.map (nmOf c) ↔ k ∈ ps := by
  constructor
  · intro h
    obtain ⟨p, hp', e⟩ := List.mem_map.mp h
    have hpl := hp p hp'
    have nd := hc.nd
    have e1 : (c.map (·.1))[p]? = some (nmOf c p) := by rw [List.getElem?_map, List.getElem?_eq_getElem hpl, at_eq hpl]; rfl
    have e2 : (c.map (·.1))[k]? = some (nmOf c k) := by rw [List.getElem?_map, List.getElem?_eq_getElem hk, at_eq hk]; rfl
    have : p = k := by
      refine nd_inj nd (x := nmOf c p) e1 (by rw [e2, e])
    rw [← this]; exact hp'
  · intro h; exact List.mem_map.mpr ⟨k, h, rfl⟩
theorem rivals_eq {c : Crew} (hc : CrewOk c) {ps : List Nat} (hp : ∀ p ∈ ps, p < c.length) {W : List Str} (hW : ps.map (nmOf c) = W) (f : Int) :
    ∃ rv : List Str, lcM (fun z_2 : (Str × Int × Int) => ((if (!(decide (z_2.1 ∈ W))) = true then ((mulG z_2.2.1 z_2.2.2).bind fun n_3 => some (decide (f ≤ n_3))) else some false).bind fun q_4 => some q_4)) (fun z_2 : (Str × Int × Int) => some z_2.1) c = some rv ∧ rv.isEmpty = (behindOf c ps f).isEmpty ∧ rv.length ≤ 6 ∧ ∀ x ∈ rv, NameOk x := by
  have hl := hc.len
  refine ⟨_, lcM_eq (fun z : Str × Int × Int => !decide (z.1 ∈ W) && decide (f ≤ z.2.1 * z.2.2)) (fun z => z.1) fun x hx => ⟨?_, fun _ => rfl⟩, ?_, ?_, ?_⟩
  · have := hc.wt.w x hx
    cases e : decide (x.1 ∈ W) with
    | true => rfl
    | false => show (((mulG x.2.1 x.2.2).bind _).bind _) = _; rw [mulG_l (by omega) (by omega)]; rfl
  · rw [Bool.eq_iff_iff, List.isEmpty_iff, List.isEmpty_iff, List.map_eq_nil_iff]
    unfold behindOf
    rw [List.filter_eq_nil_iff, List.filter_eq_nil_iff]
    have key : ∀ k (hk : k < c.length), ((!decide (c[k].1 ∈ W) && decide (f ≤ c[k].2.1 * c[k].2.2)) = (!decide (k ∈ ps) && decide (f ≤ ld (loads c) k))) := fun k hk => by
      rw [ld_loads hk, at_eq hk]
      show (!decide (nmOf c k ∈ W) && _) = _
      rw [← hW]
      congr 2
      by_cases q : k ∈ ps
      · rw [decide_eq_true q, decide_eq_true ((nm_in hc hp hk).mpr q)]
      · rw [decide_eq_false q, decide_eq_false fun z => q ((nm_in hc hp hk).mp z)]
    constructor
    · intro h k hk
      have hk := List.mem_range.mp hk
      rw [← key k hk]
      exact h _ (List.getElem_mem hk)
    · intro h x hx
      obtain ⟨k, hk, e⟩ := List.mem_iff_getElem.mp hx
      subst e
      rw [key k hk]
      exact h k (List.mem_range.mpr hk)
  · rw [List.length_map]
    have := List.length_filter_le (fun z : Str × Int × Int => !decide (z.1 ∈ W) && decide (f ≤ z.2.1 * z.2.2)) c
    omega
  · intro x hx
    obtain ⟨y, hy, e⟩ := List.mem_map.mp hx
    rw [← e]; exact (hc.one y (List.mem_filter.mp hy).1).1
theorem brings_none {c : Crew} (hc : CrewOk c) {ps : List Nat} (hp : ∀ p ∈ ps, p < c.length) {W : List Str} (hW : ps.map (nmOf c) = W) {h : Nat} {f : Int} (hh : h < ps.length ∨ (ps.length < h ∧ behindOf c ps f ≠ [])) : m_law_brings c none W h f = some true := by
  have hl := hc.len
  obtain ⟨rv, r1, r2, r3, r4⟩ := rivals_eq hc hp hW f
  have wl : W.length = ps.length := by rw [← hW, List.length_map]
  unfold m_law_brings
  rw [lcG_eq (by omega), Option.bind_some, r1, Option.bind_some, Option.bind_some, wl]
  rcases hh with hh | ⟨h1, h2⟩
  · rw [if_pos (by simpa using hh)]; rfl
  · rw [if_neg (by simp; omega), if_pos (by simpa using h1), show D.lst (List.map D.int []) = D.lst [] from rfl, eqG_nil (strs_gdL (by omega) r4) (by omega), show (rv.map D.str).isEmpty = rv.isEmpty by cases rv <;> rfl, r2]
    cases e : behindOf c ps f with
    | nil => exact absurd e h2
    | cons x l => rfl
theorem brings_some {c : Crew} (hc : CrewOk c) {ps : List Nat} (nd : ps.Nodup) (hp : ∀ p ∈ ps, p < c.length) {W : List Str} (hW : ps.map (nmOf c) = W) {h : Nat} {f : Int} (h1 : 1 ≤ h) (h2 : h ≤ 3) (f1 : 0 ≤ f) (f2 : f ≤ 1000000000000)
    (hh : ¬ (h < ps.length ∨ (ps.length < h ∧ behindOf c ps f ≠ []))) {S B R : List Int} (hI : Inv c ps f ps (S, B, R)) : m_law_brings c (some R) W h f = some true := by
  have hl := hc.len
  obtain ⟨rv, r1, r2, r3, r4⟩ := rivals_eq hc hp hW f
  have wl : W.length = ps.length := by rw [← hW, List.length_map]
  have hR : R.length = c.length := hI.l2
  have hS : S.length = c.length := hI.l1
  have pl : ps.length ≤ h := by
    rcases Nat.lt_or_ge h ps.length with z | z
    · exact absurd (.inl z) hh
    · exact z
  have wok : ∀ x ∈ W, NameOk x := fun x hx => by
    rw [← hW] at hx
    obtain ⟨p, hp', e⟩ := List.mem_map.mp hx
    obtain ⟨y, hy, e2⟩ := nmOf_mem (hp p hp')
    rw [← e, e2]; exact (hc.one y hy).1
  have wgd : D.gd 7 (.tup (W.map D.str)) = true := strs_gd (by omega) wok
  have hrz := rz_loads hI
  have tops' : tops S h f = ps := by
    refine tops_is nd (fun p hp' => by rw [hS]; exact hp p hp') hI.ch hI.fl (fun k hk hn hf x hx => ?_) ?_
    · rw [hS] at hk
      have hz := hI.zr k hk hn
      have he := hI.eq k hk
      have hf : f ≤ ld S k := hf
      have : ld S k = ld (loads c) k := by
        show ld S k = _
        have he : ld S k = wt c k * (bd c k + R.getD k 0) := he
        have hz : R.getD k 0 = 0 := hz
        rw [he, hz, Int.add_zero, ld_loads hk]
      rw [this] at hf
      exact hI.rv x hx k (List.mem_filter.mpr ⟨List.mem_range.mpr hk, by rw [decide_eq_false hn, decide_eq_true hf]; rfl⟩)
    · by_cases z : ps.length = h
      · exact .inl z
      · refine .inr ⟨pl, fun k hk hn hf => ?_⟩
        rw [hS] at hk
        have hz : R.getD k 0 = 0 := hI.zr k hk hn
        have he : ld S k = wt c k * (bd c k + R.getD k 0) := hI.eq k hk
        rw [he, hz, Int.add_zero, ← ld_loads hk] at hf
        refine hh (.inr ⟨by omega, fun e => ?_⟩)
        have : k ∈ behindOf c ps f := List.mem_filter.mpr ⟨List.mem_range.mpr hk, by rw [decide_eq_false hn, decide_eq_true hf]; rfl⟩
        rw [e] at this; cases this
  have cl : climb (rz c R) h f = W := by
    unfold climb
    rw [hrz, tops', ← hW]
    exact List.map_congr_left fun p hp' => rz_nm (hp p hp')
  unfold m_law_brings
  rw [lcG_eq (by omega), Option.bind_some, r1, Option.bind_some, Option.bind_some, wl, if_neg (by simp; omega)]
  have hq : ((if (decide ((ps.length : Int) < (h : Int))) = true then ((eqG (D.lst (List.map D.str rv)) (D.lst (List.map D.int []))).bind fun q_7 => some (!q_7)) else some false).bind fun q_8 => some q_8) = some false := by
    by_cases z : ps.length < h
    · rw [if_pos (by simpa using z), show D.lst (List.map D.int []) = D.lst [] from rfl, eqG_nil (strs_gdL (by omega) r4) (by omega), Option.bind_some, Option.bind_some]
      cases e : behindOf c ps f with
      | nil =>
        rw [e] at r2
        have : (rv.map D.str).isEmpty = rv.isEmpty := by cases rv <;> rfl
        rw [this, r2]; rfl
      | cons x l => exact absurd (.inr ⟨z, by rw [e]; exact fun z => nomatch z⟩) hh
    · rw [if_neg (by simpa using z)]; rfl
  rw [hq, Option.bind_some, if_neg Bool.false_ne_true]
  have hi : isiG "tuple" (enO (fun x : (List Int) => (D.tup (List.map D.int x))) (some R)) = some true := iG rfl (by simp [D.isi, enO])
  rw [hi, Option.bind_some, Bool.not_true, if_neg Bool.false_ne_true, Option.bind_some, Option.bind_some, hR, decide_eq_true rfl, Bool.not_true, if_neg Bool.false_ne_true, rng1G_eq (by omega), Option.bind_some]
  have body : ∀ k : Nat, k < c.length → (((some R).bind fun v_17 => ((idxG v_17 (k : Int)).bind fun x_18 => ((m_law_integer_2 x_18).bind fun r_19 => ((if (!r_19) = true then some true else ((some R).bind fun v_20 => ((idxG v_20 (k : Int)).bind fun x_21 => ((if (decide (x_21 < (0 : Int))) = true then some true else ((idxG c (k : Int)).bind fun x_22 => ((if (!(decide (x_22.1 ∈ W))) = true then ((some R).bind fun v_23 => ((idxG v_23 (k : Int)).bind fun x_24 => some (decide ((0 : Int) < x_24)))) else some false).bind fun q_25 => some q_25))).bind fun q_26 => some q_26)))).bind fun q_27 => (if q_27 = true then some (Ctl.ret false) else some (Ctl.nx ())))))) : Option (Ctl Unit Bool)) = some (.nx ()) := fun k hk => by
    have e2 : idxG R (k : Int) = some (R.getD k 0) := by
      rw [idxG_nat (List.getElem?_eq_getElem (by omega)), getD_of (List.getElem?_eq_getElem (by omega))]
    have e1 : idxG c (k : Int) = some c[k] := idxG_nat (List.getElem?_eq_getElem hk)
    have n0 : 0 ≤ R.getD k 0 := hI.nn k hk
    rw [Option.bind_some, e2, Option.bind_some]
    unfold m_law_integer_2
    rw [Option.bind_some, Bool.not_true, if_neg Bool.false_ne_true, Option.bind_some, e2, Option.bind_some, if_neg (by simpa using n0), e1, Option.bind_some, at_eq hk]
    by_cases q : k ∈ ps
    · rw [show decide ((nmOf c k, wt c k, bd c k).1 ∈ W) = true from decide_eq_true (by rw [← hW]; exact (nm_in hc hp hk).mpr q)]
      rfl
    · rw [show decide ((nmOf c k, wt c k, bd c k).1 ∈ W) = false from decide_eq_false (by rw [← hW]; exact fun z => q ((nm_in hc hp hk).mp z)), Bool.not_false, if_pos rfl, Option.bind_some, e2, Option.bind_some]
      have hz : R.getD k 0 = 0 := hI.zr k hk q
      rw [hz]; rfl
  rw [loopM_nx (R := Bool) (fun _ _ => ()) fun s x hx => by
    obtain ⟨k, hk, e⟩ := List.mem_map.mp hx
    have hk := List.mem_range.mp hk
    subst e
    rw [Int.zero_add]
    exact body k hk]
  rw [Option.bind_some]
  show ((m_law_raised c (some R)).bind _) = _
  rw [raised_eq hl hR, Option.bind_some, Option.bind_some, law_ladder_eq (rz_wt hc.wt R) h2, Option.bind_some, cl, eqG_self wgd (by omega), Option.bind_some, Bool.not_true, if_neg Bool.false_ne_true, lcG_eq (by rw [rz_len]; omega), Option.bind_some]
  have big := eqG_nil (ints_gdL (ns := ((List.filter (fun z_33 : (Str × Int × Int) => (decide ((1000000000 : Int) < z_33.2.2))) (rz c R)).map (fun z_33 : (Str × Int × Int) => z_33.2.2))) (by
    rw [List.length_map]
    have := List.length_filter_le (fun z_33 : (Str × Int × Int) => (decide ((1000000000 : Int) < z_33.2.2))) (rz c R)
    rw [rz_len] at this; omega)) (k := 7) (by omega)
  rw [show D.lst (List.map D.int []) = D.lst [] from rfl, big, Option.bind_some]
  cases e : (List.map D.int ((List.filter (fun z_33 : (Str × Int × Int) => (decide ((1000000000 : Int) < z_33.2.2))) (rz c R)).map (fun z_33 : (Str × Int × Int) => z_33.2.2))).isEmpty with
  | false => rfl
  | true =>
    rw [Bool.not_true, if_neg Bool.false_ne_true]
    rw [List.isEmpty_iff, List.map_eq_nil_iff, List.map_eq_nil_iff, List.filter_eq_nil_iff] at e
    have hok : CrewOk (rz c R) := rz_ok hc hI.nn fun x hx => by
      have := e x hx
      simpa using this
    rw [ladder_eq hok h1 h2 f1 f2, Option.bind_some, cl, show m_law_same 8 (D.tup (W.map D.str)) (D.tup (W.map D.str)) = some true from same_self wgd]
    rfl
theorem brings_ok {c : Crew} (hc : CrewOk c) {W : List Str} (wn : W.Nodup) (wm : ∀ x ∈ W, x ∈ c.map (·.1)) {h : Nat} {f : Int} (h1 : 1 ≤ h) (h2 : h ≤ 3) (f1 : 0 ≤ f) (f2 : f ≤ 1000000000000) :
    ∃ r, m_raises_for c W h f = some r ∧ m_law_brings c r W h f = some true ∧ D.gd 7 (enO (fun x : (List Int) => (D.tup (List.map D.int x))) r) = true := by
  have hl := hc.len
  obtain ⟨ps, p1, p2, p3, p4⟩ := raises_eq hc wn wm h1 h2 f1 f2
  have pl : ps.length ≤ 6 := by
    have := nd_len p1 (m := List.range c.length) fun p hp => List.mem_range.mpr (p2 p hp)
    rw [List.length_range] at this; omega
  obtain ⟨l1, l2⟩ := least_ok hc.wt p1 p2 (h := h) (f := f) pl
  rw [p4]
  by_cases z : h < ps.length ∨ (ps.length < h ∧ behindOf c ps f ≠ [])
  · exact ⟨none, l1 z, brings_none hc p2 p3 z, by rw [enO, D.gd]⟩
  · obtain ⟨r, e1, R, S, B, e2, hI⟩ := l2 z
    subst e2
    refine ⟨some R, e1, brings_some hc p1 p2 p3 h1 h2 f1 f2 z hI, ?_⟩
    have : R.length = c.length := hI.l2
    exact ints_gd (by omega)
end K14
namespace K14
open PySem L2 DL
theorem other_half {s : List Int} (hs : s.length ≤ 63) : m_law_other_half s = some true := by
  have : Sm (m_law_other_half s) (· = true) := by
    unfold m_law_other_half
    refine start_ok hs 10 (by omega) fun rest c n sill hr hc n1 n2 s1 s2 => ?_
    refine Sm.bind (part_sm (by omega) (by omega) (by omega) (by omega) (by omega)) fun num ⟨a1, a2⟩ => Sm.bindE rfl (Sm.bind (part_sm (by omega) (by omega) (by omega) (by omega) (by omega)) fun _ _ => ?_)
    refine Sm.bind (P := fun m : Int => 0 ≤ m ∧ m ≤ 4) (Sm.ite (fun _ => Sm.bindE rfl (Sm.some (by omega))) fun _ => Sm.some (by omega)) fun m ⟨m1, m2⟩ => ?_
    have hw := wished_ok (pool := rest) hr hc (m := m.toNat) (by omega)
    rw [Int.toNat_of_nonneg m1] at hw
    refine Sm.bind hw fun W ⟨w1, w2⟩ => Sm.bindE rfl (Sm.bindE rfl ?_)
    have smc : m_law_same 8 (D.lst (c.map crD)) (D.lst (c.map crD)) = some true := same_self (crew_gd hc)
    obtain ⟨r1, e1, b1, g1⟩ := brings_ok hc w1 w2 n1 n2 s1 s2
    have wr1 : W.reverse.Nodup := List.pairwise_reverse.mpr (w1.imp Ne.symm)
    have wr2 : ∀ x ∈ W.reverse, x ∈ c.map (·.1) := fun x hx => w2 x (List.mem_reverse.mp hx)
    obtain ⟨r2, e2, b2, g2⟩ := brings_ok hc wr1 wr2 n1 n2 (f := 0) (by omega) (by omega)
    obtain ⟨r3, e3, b3, g3⟩ := brings_ok hc w1 w2 (h := 1) (by omega) (by omega) s1 s2
    obtain ⟨r4, e4, b4, g4⟩ := brings_ok hc w1 w2 (h := 1) (f := 0) (by omega) (by omega) (by omega) (by omega)
    refine Sm.bindE e1 (Sm.bindE rfl (Sm.bindE b1 (Sm.bindE (a := false) ?_ ?_)))
    · show ((m_law_same 8 _ _).bind fun r => some (!r)) = some false
      rw [smc]; rfl
    · show Sm ((m_raises_for_2 c W.reverse n 0).bind _) _
      rw [raises2_eq]
      refine Sm.bindE e2 (Sm.bindE b2 ?_)
      show Sm ((m_raises_for c W (1 : Nat) sill).bind _) _
      refine Sm.bindE e3 (Sm.bindE b3 ?_)
      show Sm ((m_raises_for c W (1 : Nat) 0).bind _) _
      refine Sm.bindE e4 (Sm.bindE b4 ?_)
      show Sm ((m_raises_for c W n sill).bind _) _
      refine Sm.bindE e1 (Sm.bindE (same_self g1) ?_)
      show Sm (((m_law_same 8 (D.lst (c.map crD)) (D.lst (c.map crD))).bind _).bind _) _
      rw [smc]
      exact Sm.some rfl
  obtain ⟨r, e1, e2⟩ := this
  rw [e1, e2]
theorem Plain.main (ns : List Int) (h : ns.length ≤ 63) : m_law ns = some true := by
  unfold m_law
  rw [one_half h, Option.bind_some, if_pos rfl, other_half h]
  rfl
end K14
namespace K14
open PySem PySem.Spec L2 DL Hd
open PyProof.Rows hiding St
section
variable {P : Program} {w : World} {K : PySem.W.Frag} {h : Heap} {mg : Str → Option Value} {f : Addr}
theorem facts (X : K.In h) (G : h.Ns mainGlobals mg) (hfa : mg ("law" : Str) = some (.ref f)) (c : He.SaysD fa fn K) :
    ∃ fd : FuncData, (∀ (s : Shared) (v : Value), BindsTo s fd ⟨[v], []⟩ [("script", v)]) ∧ ∀ base : Heap, K.In base → base.Ns mainGlobals mg → FnOk P w K mg base CX0 13 f fd ["script"] (FnSp K R_law) := by
  obtain ⟨fd_law_cell, F0_law_cell⟩ := c.def_ 11 (d := d_law_cell) rfl
  have F_law_cell : FunD K "_law_cell" "_law_cell" (defArgs s_law_cell) (defBody s_law_cell) (defScope s_law_cell) [] [] _ fd_law_cell := F0_law_cell
  have m_law_cell := He.glo_ok X G (c.fact 24 (f := .glo "_law_cell") rfl)
  obtain ⟨fd_law_mixed, F0_law_mixed⟩ := c.def_ 12 (d := d_law_mixed) rfl
  have F_law_mixed : FunD K "_law_mixed" "_law_mixed" (defArgs s_law_mixed) (defBody s_law_mixed) (defScope s_law_mixed) [] [] _ fd_law_mixed := F0_law_mixed
  have m_law_mixed := He.glo_ok X G (c.fact 25 (f := .glo "_law_mixed") rfl)
  obtain ⟨fd_law_pool, F0_law_pool⟩ := c.def_ 13 (d := d_law_pool) rfl
  have F_law_pool : FunD K "_law_pool" "_law_pool" (defArgs s_law_pool) (defBody s_law_pool) (defScope s_law_pool) [] [] _ fd_law_pool := F0_law_pool
  have m_law_pool := He.glo_ok X G (c.fact 26 (f := .glo "_law_pool") rfl)
  obtain ⟨fd_law_part, F0_law_part⟩ := c.def_ 14 (d := d_law_part) rfl
  have F_law_part : FunD K "_law_part" "_law_part" (defArgs s_law_part) (defBody s_law_part) (defScope s_law_part) [] [] _ fd_law_part := F0_law_part
  have m_law_part := He.glo_ok X G (c.fact 27 (f := .glo "_law_part") rfl)
  obtain ⟨fd_law_names, F0_law_names⟩ := c.def_ 15 (d := d_law_names) rfl
  have F_law_names : FunD K "_law_names" "_law_names" (defArgs s_law_names) (defBody s_law_names) (defScope s_law_names) [] [] _ fd_law_names := F0_law_names
  have m_law_names := He.glo_ok X G (c.fact 28 (f := .glo "_law_names") rfl)
  obtain ⟨fd_law_far, F0_law_far⟩ := c.def_ 16 (d := d_law_far) rfl
  have F_law_far : FunD K "_law_far" "_law_far" (defArgs s_law_far) (defBody s_law_far) (defScope s_law_far) [] [] _ fd_law_far := F0_law_far
  have m_law_far := He.glo_ok X G (c.fact 29 (f := .glo "_law_far") rfl)
  obtain ⟨fd_law_chosen, F0_law_chosen⟩ := c.def_ 17 (d := d_law_chosen) rfl
  have F_law_chosen : FunD K "_law_chosen" "_law_chosen" (defArgs s_law_chosen) (defBody s_law_chosen) (defScope s_law_chosen) [] [] _ fd_law_chosen := F0_law_chosen
  have m_law_chosen := He.glo_ok X G (c.fact 30 (f := .glo "_law_chosen") rfl)
  obtain ⟨fd_law_bidders, F0_law_bidders⟩ := c.def_ 18 (d := d_law_bidders) rfl
  have F_law_bidders : FunD K "_law_bidders" "_law_bidders" (defArgs s_law_bidders) (defBody s_law_bidders) (defScope s_law_bidders) [] [] _ fd_law_bidders := F0_law_bidders
  have m_law_bidders := He.glo_ok X G (c.fact 31 (f := .glo "_law_bidders") rfl)
  obtain ⟨fd_law_sill, F0_law_sill⟩ := c.def_ 19 (d := d_law_sill) rfl
  have F_law_sill : FunD K "_law_sill" "_law_sill" (defArgs s_law_sill) (defBody s_law_sill) (defScope s_law_sill) [] [] _ fd_law_sill := F0_law_sill
  have m_law_sill := He.glo_ok X G (c.fact 32 (f := .glo "_law_sill") rfl)
  obtain ⟨fd_law_ladder, F0_law_ladder⟩ := c.def_ 20 (d := d_law_ladder) rfl
  have F_law_ladder : FunD K "_law_ladder" "_law_ladder" (defArgs s_law_ladder) (defBody s_law_ladder) (defScope s_law_ladder) [] [] _ fd_law_ladder := F0_law_ladder
  have m_law_ladder := He.glo_ok X G (c.fact 33 (f := .glo "_law_ladder") rfl)
  obtain ⟨fd_is_name, F0_is_name⟩ := c.def_ 0 (d := d_is_name) rfl
  have F_is_name : FunD K "is_name" "is_name" (defArgs s_is_name) (defBody s_is_name) (defScope s_is_name) [] [] _ fd_is_name := F0_is_name
  have m_is_name := He.glo_ok X G (c.fact 8 (f := .glo "is_name") rfl)
  obtain ⟨fd_names_of, F0_names_of⟩ := c.def_ 5 (d := d_names_of) rfl
  have F_names_of : FunD K "names_of" "names_of" (defArgs s_names_of) (defBody s_names_of) (defScope s_names_of) [] [] _ fd_names_of := F0_names_of
  have m_names_of := He.glo_ok X G (c.fact 18 (f := .glo "names_of") rfl)
  obtain ⟨fd_check_bidders, F0_check_bidders⟩ := c.def_ 2 (d := d_check_bidders) rfl
  have F_check_bidders : FunD K "check_bidders" "check_bidders" (defArgs s_check_bidders) (defBody s_check_bidders) (defScope s_check_bidders) [] [] _ fd_check_bidders := F0_check_bidders
  have m_check_bidders := He.glo_ok X G (c.fact 15 (f := .glo "check_bidders") rfl)
  obtain ⟨fd_check_hours, F0_check_hours⟩ := c.def_ 3 (d := d_check_hours) rfl
  have F_check_hours : FunD K "check_hours" "check_hours" (defArgs s_check_hours) (defBody s_check_hours) (defScope s_check_hours) [] [] _ fd_check_hours := F0_check_hours
  have m_check_hours := He.glo_ok X G (c.fact 16 (f := .glo "check_hours") rfl)
  obtain ⟨fd_check_floor, F0_check_floor⟩ := c.def_ 4 (d := d_check_floor) rfl
  have F_check_floor : FunD K "check_floor" "check_floor" (defArgs s_check_floor) (defBody s_check_floor) (defScope s_check_floor) [] [] _ fd_check_floor := F0_check_floor
  have m_check_floor := He.glo_ok X G (c.fact 17 (f := .glo "check_floor") rfl)
  obtain ⟨fd_strengths_of, F0_strengths_of⟩ := c.def_ 6 (d := d_strengths_of) rfl
  have F_strengths_of : FunD K "strengths_of" "strengths_of" (defArgs s_strengths_of) (defBody s_strengths_of) (defScope s_strengths_of) [] [] _ fd_strengths_of := F0_strengths_of
  have m_strengths_of := He.glo_ok X G (c.fact 19 (f := .glo "strengths_of") rfl)
  obtain ⟨fd_ranking, F0_ranking⟩ := c.def_ 7 (d := d_ranking) rfl
  have F_ranking : FunD K "ranking" "ranking" (defArgs s_ranking) (defBody s_ranking) (defScope s_ranking) [] [] _ fd_ranking := F0_ranking
  have m_ranking := He.glo_ok X G (c.fact 20 (f := .glo "ranking") rfl)
  obtain ⟨fd_ladder, F0_ladder⟩ := c.def_ 8 (d := d_ladder) rfl
  have F_ladder : FunD K "ladder" "ladder" (defArgs s_ladder) (defBody s_ladder) (defScope s_ladder) [] [("hours", .int (1)), ("floor", .int (0))] _ fd_ladder := F0_ladder
  have m_ladder := He.glo_ok X G (c.fact 21 (f := .glo "ladder") rfl)
  obtain ⟨fd_law_integer, F0_law_integer⟩ := c.def_ 21 (d := d_law_integer) rfl
  have F_law_integer : FunD K "_law_integer" "_law_integer" (defArgs s_law_integer) (defBody s_law_integer) (defScope s_law_integer) [] [] _ fd_law_integer := F0_law_integer
  have m_law_integer := He.glo_ok X G (c.fact 34 (f := .glo "_law_integer") rfl)
  obtain ⟨fd_law_same, F0_law_same⟩ := c.def_ 22 (d := d_law_same) rfl
  have F_law_same : FunD K "_law_same" "_law_same" (defArgs s_law_same) (defBody s_law_same) (defScope s_law_same) [] [] _ fd_law_same := F0_law_same
  have m_law_same := He.glo_ok X G (c.fact 35 (f := .glo "_law_same") rfl)
  obtain ⟨fd_law_one_half, F0_law_one_half⟩ := c.def_ 26 (d := d_law_one_half) rfl
  have F_law_one_half : FunD K "_law_one_half" "_law_one_half" (defArgs s_law_one_half) (defBody s_law_one_half) (defScope s_law_one_half) [] [] _ fd_law_one_half := F0_law_one_half
  have m_law_one_half := He.glo_ok X G (c.fact 39 (f := .glo "_law_one_half") rfl)
  obtain ⟨fd_law_wished, F0_law_wished⟩ := c.def_ 23 (d := d_law_wished) rfl
  have F_law_wished : FunD K "_law_wished" "_law_wished" (defArgs s_law_wished) (defBody s_law_wished) (defScope s_law_wished) [] [] _ fd_law_wished := F0_law_wished
  have m_law_wished := He.glo_ok X G (c.fact 36 (f := .glo "_law_wished") rfl)
  obtain ⟨fd_check_known, F0_check_known⟩ := c.def_ 1 (d := d_check_known) rfl
  have F_check_known : FunD K "check_known" "check_known" (defArgs s_check_known) (defBody s_check_known) (defScope s_check_known) [] [] _ fd_check_known := F0_check_known
  have m_check_known := He.glo_ok X G (c.fact 9 (f := .glo "check_known") rfl)
  obtain ⟨fd_least_raises, F0_least_raises⟩ := c.def_ 9 (d := d_least_raises) rfl
  have F_least_raises : FunD K "least_raises" "least_raises" (defArgs s_least_raises) (defBody s_least_raises) (defScope s_least_raises) [] [] _ fd_least_raises := F0_least_raises
  have m_least_raises := He.glo_ok X G (c.fact 22 (f := .glo "least_raises") rfl)
  obtain ⟨fd_raises_for, F0_raises_for⟩ := c.def_ 10 (d := d_raises_for) rfl
  have F_raises_for : FunD K "raises_for" "raises_for" (defArgs s_raises_for) (defBody s_raises_for) (defScope s_raises_for) [] [("hours", .int (1)), ("floor", .int (0))] _ fd_raises_for := F0_raises_for
  have m_raises_for := He.glo_ok X G (c.fact 23 (f := .glo "raises_for") rfl)
  obtain ⟨fd_law_raised, F0_law_raised⟩ := c.def_ 24 (d := d_law_raised) rfl
  have F_law_raised : FunD K "_law_raised" "_law_raised" (defArgs s_law_raised) (defBody s_law_raised) (defScope s_law_raised) [] [] _ fd_law_raised := F0_law_raised
  have m_law_raised := He.glo_ok X G (c.fact 37 (f := .glo "_law_raised") rfl)
  obtain ⟨fd_law_brings, F0_law_brings⟩ := c.def_ 25 (d := d_law_brings) rfl
  have F_law_brings : FunD K "_law_brings" "_law_brings" (defArgs s_law_brings) (defBody s_law_brings) (defScope s_law_brings) [] [] _ fd_law_brings := F0_law_brings
  have m_law_brings := He.glo_ok X G (c.fact 38 (f := .glo "_law_brings") rfl)
  obtain ⟨fd_law_other_half, F0_law_other_half⟩ := c.def_ 27 (d := d_law_other_half) rfl
  have F_law_other_half : FunD K "_law_other_half" "_law_other_half" (defArgs s_law_other_half) (defBody s_law_other_half) (defScope s_law_other_half) [] [] _ fd_law_other_half := F0_law_other_half
  have m_law_other_half := He.glo_ok X G (c.fact 40 (f := .glo "_law_other_half") rfl)
  obtain ⟨fd_law, F0_law⟩ := c.def_ 28 (d := d_law) rfl
  have F_law : FunD K "law" "law" (defArgs s_law) (defBody s_law) (defScope s_law) [] [] _ fd_law := F0_law
  have m_law := He.glo_ok X G (c.fact 41 (f := .glo "law") rfl)
  have g_LARGEST_BID := He.int_ok X G (c.fact 12 (f := .int "LARGEST_BID" (1000000000)) rfl)
  have g_LARGEST_FLOOR := He.int_ok X G (c.fact 14 (f := .int "LARGEST_FLOOR" (1000000000000)) rfl)
  have g_LARGEST_WEIGHT := He.int_ok X G (c.fact 11 (f := .int "LARGEST_WEIGHT" (1000)) rfl)
  have g_LETTERS := He.str_ok X G (c.fact 6 (f := .str "LETTERS" "abcdefghijklmnopqrstuvwxyz") rfl)
  have g_MOST_BIDDERS := He.int_ok X G (c.fact 10 (f := .int "MOST_BIDDERS" (6)) rfl)
  have g_MOST_HOURS := He.int_ok X G (c.fact 13 (f := .int "MOST_HOURS" (3)) rfl)
  have g_MOST_LETTERS := He.int_ok X G (c.fact 7 (f := .int "MOST_LETTERS" (8)) rfl)
  have g_abs : mg "abs" = none := He.free_ok X G (c.fact 43 (f := .free "abs") rfl)
  have g_all : mg "all" = none := He.free_ok X G (c.fact 44 (f := .free "all") rfl)
  have g_bool : mg "bool" = none := He.free_ok X G (c.fact 45 (f := .free "bool") rfl)
  have g_enumerate : mg "enumerate" = none := He.free_ok X G (c.fact 46 (f := .free "enumerate") rfl)
  have g_int : mg "int" = none := He.free_ok X G (c.fact 47 (f := .free "int") rfl)
  have g_isinstance : mg "isinstance" = none := He.free_ok X G (c.fact 48 (f := .free "isinstance") rfl)
  have g_len : mg "len" = none := He.free_ok X G (c.fact 49 (f := .free "len") rfl)
  have g_list : mg "list" = none := He.free_ok X G (c.fact 50 (f := .free "list") rfl)
  have g_max : mg "max" = none := He.free_ok X G (c.fact 51 (f := .free "max") rfl)
  have g_min : mg "min" = none := He.free_ok X G (c.fact 52 (f := .free "min") rfl)
  have g_range : mg "range" = none := He.free_ok X G (c.fact 53 (f := .free "range") rfl)
  have g_sorted : mg "sorted" = none := He.free_ok X G (c.fact 54 (f := .free "sorted") rfl)
  have g_str : mg "str" = none := He.free_ok X G (c.fact 55 (f := .free "str") rfl)
  have g_tuple : mg "tuple" = none := He.free_ok X G (c.fact 57 (f := .free "tuple") rfl)
  have e := hfa.symm.trans m_law
  cases e
  have bl := FunD.bindsA (ps := ["script"]) F_law fun _ _ _ _ _ _ us hl => match us, hl with | [_], _ => rfl
  refine ⟨fd_law, fun s v => bl s [v] rfl, fun base _ _ => ?_⟩
  have G_law_cell : ∀ X : Cx, At X ⟨P, w, K, mg, base⟩ N_law_cell (defScope s_law_cell) 0 → ∀ ds d k, R_law_cell ds d k → SS X (env0 4 ds) (defBody s_law_cell) { rt := fun d' k' => d' = d ∧ Fits k' k d, nx := fun _ => d = .non ∧ k = .cln } := fun X A ds d k hR => b_law_cell A g_abs g_len g_range hR
  have C_law_cell : Cal ⟨P, w, K, mg, base⟩ "_law_cell" R_law_cell 1 [] := Cal.mk' F_law_cell m_law_cell (F_law_cell.bindsN fun _ _ _ _ _ _ us hl => match us, hl with | [_, _], _ => rfl) .nil (fun _ => .nil) fs_law_cell (fun _ _ _ ⟨_, _, _, h, _⟩ => (congrArg List.length h).trans rfl) (Nat.le_of_ble_eq_true rfl) G_law_cell
  have G_law_mixed : ∀ X : Cx, At X ⟨P, w, K, mg, base⟩ N_law_mixed (defScope s_law_mixed) 0 → ∀ ds d k, R_law_mixed ds d k → SS X (env0 3 ds) (defBody s_law_mixed) { rt := fun d' k' => d' = d ∧ Fits k' k d, nx := fun _ => d = .non ∧ k = .cln } := fun X A ds d k hR => b_law_mixed A g_abs hR
  have C_law_mixed : Cal ⟨P, w, K, mg, base⟩ "_law_mixed" R_law_mixed 1 [] := Cal.mk' F_law_mixed m_law_mixed (F_law_mixed.bindsN fun _ _ _ _ _ _ us hl => match us, hl with | [_, _], _ => rfl) .nil (fun _ => .nil) fs_law_mixed (fun _ _ _ ⟨_, _, _, h, _⟩ => (congrArg List.length h).trans rfl) (Nat.le_of_ble_eq_true rfl) G_law_mixed
  have G_law_pool : ∀ X : Cx, At X ⟨P, w, K, mg, base⟩ N_law_pool (defScope s_law_pool) 1 → ∀ ds d k, R_law_pool ds d k → SS X (env0 6 ds) (defBody s_law_pool) { rt := fun d' k' => d' = d ∧ Fits k' k d, nx := fun _ => d = .non ∧ k = .cln } := fun X A ds d k hR => b_law_pool A g_abs g_range C_law_mixed hR
  have C_law_pool : Cal ⟨P, w, K, mg, base⟩ "_law_pool" R_law_pool 2 [] := Cal.mk' F_law_pool m_law_pool (F_law_pool.bindsN fun _ _ _ _ _ _ us hl => match us, hl with | [_, _], _ => rfl) .nil (fun _ => .nil) fs_law_pool (fun _ _ _ ⟨_, _, _, h, _⟩ => (congrArg List.length h).trans rfl) (Nat.le_of_ble_eq_true rfl) G_law_pool
  have G_law_part : ∀ X : Cx, At X ⟨P, w, K, mg, base⟩ N_law_part (defScope s_law_part) 0 → ∀ ds d k, R_law_part ds d k → SS X (env0 4 ds) (defBody s_law_part) { rt := fun d' k' => d' = d ∧ Fits k' k d, nx := fun _ => d = .non ∧ k = .cln } := fun X A ds d k hR => b_law_part A g_int hR
  have C_law_part : Cal ⟨P, w, K, mg, base⟩ "_law_part" R_law_part 1 [] := Cal.mk' F_law_part m_law_part (F_law_part.bindsN fun _ _ _ _ _ _ us hl => match us, hl with | [_, _, _, _], _ => rfl) .nil (fun _ => .nil) fs_law_part (fun _ _ _ ⟨_, _, _, _, _, h, _⟩ => (congrArg List.length h).trans rfl) (Nat.le_of_ble_eq_true rfl) G_law_part
  have G_law_names : ∀ X : Cx, At X ⟨P, w, K, mg, base⟩ N_law_names (defScope s_law_names) 1 → ∀ ds d k, R_law_names ds d k → SS X (env0 13 ds) (defBody s_law_names) { rt := fun d' k' => d' = d ∧ Fits k' k d, nx := fun _ => d = .non ∧ k = .cln } := fun X A ds d k hR => b_law_names A g_int g_range C_law_part hR
  have C_law_names : Cal ⟨P, w, K, mg, base⟩ "_law_names" R_law_names 2 [] := Cal.mk' F_law_names m_law_names (F_law_names.bindsN fun _ _ _ _ _ _ us hl => match us, hl with | [_, _, _], _ => rfl) .nil (fun _ => .nil) fs_law_names (fun _ _ _ ⟨_, _, _, _, h, _⟩ => (congrArg List.length h).trans rfl) (Nat.le_of_ble_eq_true rfl) G_law_names
  have G_law_far : ∀ X : Cx, At X ⟨P, w, K, mg, base⟩ N_law_far (defScope s_law_far) 0 → ∀ ds d k, R_law_far ds d k → SS X (env0 5 ds) (defBody s_law_far) { rt := fun d' k' => d' = d ∧ Fits k' k d, nx := fun _ => d = .non ∧ k = .cln } := fun X A ds d k hR => b_law_far A g_int g_range hR
  have C_law_far : Cal ⟨P, w, K, mg, base⟩ "_law_far" R_law_far 1 [] := Cal.mk' F_law_far m_law_far (F_law_far.bindsN fun _ _ _ _ _ _ us hl => match us, hl with | [_, _, _], _ => rfl) .nil (fun _ => .nil) fs_law_far (fun _ _ _ ⟨_, _, _, _, h, _⟩ => (congrArg List.length h).trans rfl) (Nat.le_of_ble_eq_true rfl) G_law_far
  have G_law_chosen : ∀ X : Cx, At X ⟨P, w, K, mg, base⟩ N_law_chosen (defScope s_law_chosen) 1 → ∀ ds d k, R_law_chosen ds d k → SS X (env0 8 ds) (defBody s_law_chosen) { rt := fun d' k' => d' = d ∧ Fits k' k d, nx := fun _ => d = .non ∧ k = .cln } := fun X A ds d k hR => b_law_chosen A g_int C_law_part hR
  have C_law_chosen : Cal ⟨P, w, K, mg, base⟩ "_law_chosen" R_law_chosen 2 [] := Cal.mk' F_law_chosen m_law_chosen (F_law_chosen.bindsN fun _ _ _ _ _ _ us hl => match us, hl with | [_, _, _, _, _, _], _ => rfl) .nil (fun _ => .nil) fs_law_chosen (fun _ _ _ ⟨_, _, _, _, _, _, _, h, _⟩ => (congrArg List.length h).trans rfl) (Nat.le_of_ble_eq_true rfl) G_law_chosen
  have G_law_bidders : ∀ X : Cx, At X ⟨P, w, K, mg, base⟩ N_law_bidders (defScope s_law_bidders) 2 → ∀ ds d k, R_law_bidders ds d k → SS X (env0 9 ds) (defBody s_law_bidders) { rt := fun d' k' => d' = d ∧ Fits k' k d, nx := fun _ => d = .non ∧ k = .cln } := fun X A ds d k hR => b_law_bidders A g_int g_range C_law_chosen C_law_far C_law_names C_law_part hR
  have C_law_bidders : Cal ⟨P, w, K, mg, base⟩ "_law_bidders" R_law_bidders 3 [] := Cal.mk' F_law_bidders m_law_bidders (F_law_bidders.bindsN fun _ _ _ _ _ _ us hl => match us, hl with | [_, _, _], _ => rfl) .nil (fun _ => .nil) fs_law_bidders (fun _ _ _ ⟨_, _, _, _, h, _⟩ => (congrArg List.length h).trans rfl) (Nat.le_of_ble_eq_true rfl) G_law_bidders
  have G_law_sill : ∀ X : Cx, At X ⟨P, w, K, mg, base⟩ N_law_sill (defScope s_law_sill) 1 → ∀ ds d k, R_law_sill ds d k → SS X (env0 8 ds) (defBody s_law_sill) { rt := fun d' k' => d' = d ∧ Fits k' k d, nx := fun _ => d = .non ∧ k = .cln } := fun X A ds d k hR => b_law_sill A g_int g_len g_max g_min C_law_far C_law_part hR
  have C_law_sill : Cal ⟨P, w, K, mg, base⟩ "_law_sill" R_law_sill 2 [] := Cal.mk' F_law_sill m_law_sill (F_law_sill.bindsN fun _ _ _ _ _ _ us hl => match us, hl with | [_, _, _], _ => rfl) .nil (fun _ => .nil) fs_law_sill (fun _ _ _ ⟨_, _, _, _, h, _⟩ => (congrArg List.length h).trans rfl) (Nat.le_of_ble_eq_true rfl) G_law_sill
  have G_law_ladder : ∀ X : Cx, At X ⟨P, w, K, mg, base⟩ N_law_ladder (defScope s_law_ladder) 0 → ∀ ds d k, R_law_ladder ds d k → SS X (env0 12 ds) (defBody s_law_ladder) { rt := fun d' k' => d' = d ∧ Fits k' k d, nx := fun _ => d = .non ∧ k = .cln } := fun X A ds d k hR => b_law_ladder A g_len g_range g_tuple hR
  have C_law_ladder : Cal ⟨P, w, K, mg, base⟩ "_law_ladder" R_law_ladder 1 [] := Cal.mk' F_law_ladder m_law_ladder (F_law_ladder.bindsN fun _ _ _ _ _ _ us hl => match us, hl with | [_, _, _], _ => rfl) .nil (fun _ => .nil) fs_law_ladder (fun _ _ _ ⟨_, _, _, _, h, _⟩ => (congrArg List.length h).trans rfl) (Nat.le_of_ble_eq_true rfl) G_law_ladder
  have G_is_name : ∀ X : Cx, At X ⟨P, w, K, mg, base⟩ N_is_name (defScope s_is_name) 0 → ∀ ds d k, R_is_name ds d k → SS X (env0 2 ds) (defBody s_is_name) { rt := fun d' k' => d' = d ∧ Fits k' k d, nx := fun _ => d = .non ∧ k = .cln } := fun X A ds d k hR => b_is_name A g_LETTERS g_MOST_LETTERS g_all g_len hR
  have C_is_name : Cal ⟨P, w, K, mg, base⟩ "is_name" R_is_name 1 [] := Cal.mk' F_is_name m_is_name (F_is_name.bindsN fun _ _ _ _ _ _ us hl => match us, hl with | [_], _ => rfl) .nil (fun _ => .nil) fs_is_name (fun _ _ _ ⟨_, _, h, _⟩ => (congrArg List.length h).trans rfl) (Nat.le_of_ble_eq_true rfl) G_is_name
  have G_names_of : ∀ X : Cx, At X ⟨P, w, K, mg, base⟩ N_names_of (defScope s_names_of) 0 → ∀ ds d k, R_names_of ds d k → SS X (env0 4 ds) (defBody s_names_of) { rt := fun d' k' => d' = d ∧ Fits k' k d, nx := fun _ => d = .non ∧ k = .cln } := fun X A ds d k hR => b_names_of A  hR
  have C_names_of : Cal ⟨P, w, K, mg, base⟩ "names_of" R_names_of 1 [] := Cal.mk' F_names_of m_names_of (F_names_of.bindsN fun _ _ _ _ _ _ us hl => match us, hl with | [_], _ => rfl) .nil (fun _ => .nil) fs_names_of (fun _ _ _ ⟨_, _, h, _⟩ => (congrArg List.length h).trans rfl) (Nat.le_of_ble_eq_true rfl) G_names_of
  have G_check_bidders : ∀ X : Cx, At X ⟨P, w, K, mg, base⟩ N_check_bidders (defScope s_check_bidders) 1 → ∀ ds d k, R_check_bidders ds d k → SS X (env0 5 ds) (defBody s_check_bidders) { rt := fun d' k' => d' = d ∧ Fits k' k d, nx := fun _ => d = .non ∧ k = .cln } := fun X A ds d k hR => b_check_bidders A g_LARGEST_BID g_LARGEST_WEIGHT g_MOST_BIDDERS g_enumerate g_len C_is_name C_names_of hR
  have C_check_bidders : Cal ⟨P, w, K, mg, base⟩ "check_bidders" R_check_bidders 2 [] := Cal.mk' F_check_bidders m_check_bidders (F_check_bidders.bindsN fun _ _ _ _ _ _ us hl => match us, hl with | [_], _ => rfl) .nil (fun _ => .nil) fs_check_bidders (fun _ _ _ ⟨_, _, h, _⟩ => (congrArg List.length h).trans rfl) (Nat.le_of_ble_eq_true rfl) G_check_bidders
  have G_check_hours : ∀ X : Cx, At X ⟨P, w, K, mg, base⟩ N_check_hours (defScope s_check_hours) 0 → ∀ ds d k, R_check_hours ds d k → SS X (env0 1 ds) (defBody s_check_hours) { rt := fun d' k' => d' = d ∧ Fits k' k d, nx := fun _ => d = .non ∧ k = .cln } := fun X A ds d k hR => b_check_hours A g_MOST_HOURS hR
  have C_check_hours : Cal ⟨P, w, K, mg, base⟩ "check_hours" R_check_hours 1 [] := Cal.mk' F_check_hours m_check_hours (F_check_hours.bindsN fun _ _ _ _ _ _ us hl => match us, hl with | [_], _ => rfl) .nil (fun _ => .nil) fs_check_hours (fun _ _ _ ⟨_, _, h, _⟩ => (congrArg List.length h).trans rfl) (Nat.le_of_ble_eq_true rfl) G_check_hours
  have G_check_floor : ∀ X : Cx, At X ⟨P, w, K, mg, base⟩ N_check_floor (defScope s_check_floor) 0 → ∀ ds d k, R_check_floor ds d k → SS X (env0 1 ds) (defBody s_check_floor) { rt := fun d' k' => d' = d ∧ Fits k' k d, nx := fun _ => d = .non ∧ k = .cln } := fun X A ds d k hR => b_check_floor A g_LARGEST_FLOOR hR
  have C_check_floor : Cal ⟨P, w, K, mg, base⟩ "check_floor" R_check_floor 1 [] := Cal.mk' F_check_floor m_check_floor (F_check_floor.bindsN fun _ _ _ _ _ _ us hl => match us, hl with | [_], _ => rfl) .nil (fun _ => .nil) fs_check_floor (fun _ _ _ ⟨_, _, h, _⟩ => (congrArg List.length h).trans rfl) (Nat.le_of_ble_eq_true rfl) G_check_floor
  have G_strengths_of : ∀ X : Cx, At X ⟨P, w, K, mg, base⟩ N_strengths_of (defScope s_strengths_of) 0 → ∀ ds d k, R_strengths_of ds d k → SS X (env0 4 ds) (defBody s_strengths_of) { rt := fun d' k' => d' = d ∧ Fits k' k d, nx := fun _ => d = .non ∧ k = .cln } := fun X A ds d k hR => b_strengths_of A  hR
  have C_strengths_of : Cal ⟨P, w, K, mg, base⟩ "strengths_of" R_strengths_of 1 [] := Cal.mk' F_strengths_of m_strengths_of (F_strengths_of.bindsN fun _ _ _ _ _ _ us hl => match us, hl with | [_], _ => rfl) .nil (fun _ => .nil) fs_strengths_of (fun _ _ _ ⟨_, _, h, _⟩ => (congrArg List.length h).trans rfl) (Nat.le_of_ble_eq_true rfl) G_strengths_of
  have G_ranking : ∀ X : Cx, At X ⟨P, w, K, mg, base⟩ N_ranking (defScope s_ranking) 1 → ∀ ds d k, R_ranking ds d k → SS X (env0 4 ds) (defBody s_ranking) { rt := fun d' k' => d' = d ∧ Fits k' k d, nx := fun _ => d = .non ∧ k = .cln } := fun X A ds d k hR => b_ranking A g_enumerate g_sorted C_strengths_of hR
  have C_ranking : Cal ⟨P, w, K, mg, base⟩ "ranking" R_ranking 2 [] := Cal.mk' F_ranking m_ranking (F_ranking.bindsN fun _ _ _ _ _ _ us hl => match us, hl with | [_], _ => rfl) .nil (fun _ => .nil) fs_ranking (fun _ _ _ ⟨_, _, h, _⟩ => (congrArg List.length h).trans rfl) (Nat.le_of_ble_eq_true rfl) G_ranking
  have G_ladder : ∀ X : Cx, At X ⟨P, w, K, mg, base⟩ N_ladder (defScope s_ladder) 2 → ∀ ds d k, R_ladder ds d k → SS X (env0 6 ds) (defBody s_ladder) { rt := fun d' k' => d' = d ∧ Fits k' k d, nx := fun _ => d = .non ∧ k = .cln } := fun X A ds d k hR => b_ladder A g_tuple C_check_bidders C_check_floor C_check_hours C_ranking C_strengths_of hR
  obtain ⟨mv_C_ladder_k0_bidders, kb_C_ladder_k0_bidders⟩ := kb_0 (ps := ["bidders", "hours", "floor"]) F_ladder 0 ["bidders"] [("hours", .int (1)), ("floor", .int (0))] [.k 0, .m 0, .m 1] (by simp) (by simp) fun D doc pm an cdv ct us mv ws h1 h2 h3 => match us, mv, ws, h1, h2, h3 with | [], [_, _], [_], _, _, _ => ⟨_, _, _, _, _, _, rfl, rfl, ⟨_, _, _, _, _, _, rfl, rfl, rfl⟩⟩
  have C_ladder_k0_bidders : CalK ⟨P, w, K, mg, base⟩ "ladder" R_ladder 3 0 ["bidders"] (fun a b => pick a [] [(D.int (1 : Int)), (D.int (0 : Int))] b [.k 0, .m 0, .m 1]) := CalK.of (def_ok F_ladder fs_ladder (fun _ _ _ ⟨_, _, _, _, h, _⟩ => (congrArg List.length h).trans rfl) (Nat.le_of_ble_eq_true rfl) fun X c => G_ladder X c.at_) F_ladder.kp m_ladder (its := []) (dvs := []) kb_C_ladder_k0_bidders (fun _ => .nil) (fun _ => .cons (.int _) (.cons (.int _) (.nil)))
  obtain ⟨mv_C_ladder_k1_floor, kb_C_ladder_k1_floor⟩ := kb_0 (ps := ["bidders", "hours", "floor"]) F_ladder 1 ["floor"] [("hours", .int (1))] [.p 0, .m 0, .k 0] (by simp) (by simp) fun D doc pm an cdv ct us mv ws h1 h2 h3 => match us, mv, ws, h1, h2, h3 with | [_], [_], [_], _, _, _ => ⟨_, _, _, _, _, _, rfl, rfl, rfl⟩
  have C_ladder_k1_floor : CalK ⟨P, w, K, mg, base⟩ "ladder" R_ladder 3 1 ["floor"] (fun a b => pick a [] [(D.int (1 : Int))] b [.p 0, .m 0, .k 0]) := CalK.of (def_ok F_ladder fs_ladder (fun _ _ _ ⟨_, _, _, _, h, _⟩ => (congrArg List.length h).trans rfl) (Nat.le_of_ble_eq_true rfl) fun X c => G_ladder X c.at_) F_ladder.kp m_ladder (its := []) (dvs := []) kb_C_ladder_k1_floor (fun _ => .nil) (fun _ => .cons (.int _) (.nil))
  have C_ladder_k1_hours_floor : CalK ⟨P, w, K, mg, base⟩ "ladder" R_ladder 3 1 ["hours", "floor"] (fun a b => pick a [] [] b [.p 0, .k 0, .k 1]) := CalK.of (def_ok F_ladder fs_ladder (fun _ _ _ ⟨_, _, _, _, h, _⟩ => (congrArg List.length h).trans rfl) (Nat.le_of_ble_eq_true rfl) fun X c => G_ladder X c.at_) F_ladder.kp m_ladder (its := []) (mv := []) (dvs := []) (mz := []) (kb_n F_ladder 1 ["hours", "floor"] [.p 0, .k 0, .k 1] fun kV doc pm an cdv ct us ws h1 h2 => match us, ws, h1, h2 with | [_], [_, _], _, _ => rfl) (fun _ => .nil) (fun _ => .nil)
  have G_law_integer : ∀ X : Cx, At X ⟨P, w, K, mg, base⟩ N_law_integer (defScope s_law_integer) 0 → ∀ ds d k, R_law_integer ds d k → SS X (env0 1 ds) (defBody s_law_integer) { rt := fun d' k' => d' = d ∧ Fits k' k d, nx := fun _ => d = .non ∧ k = .cln } := fun X A ds d k hR => b_law_integer A g_bool g_int g_isinstance hR
  have C_law_integer : Cal ⟨P, w, K, mg, base⟩ "_law_integer" R_law_integer 1 [] := Cal.mk' F_law_integer m_law_integer (F_law_integer.bindsN fun _ _ _ _ _ _ us hl => match us, hl with | [_], _ => rfl) .nil (fun _ => .nil) fs_law_integer (fun _ _ _ ⟨_, _, h, _⟩ => (congrArg List.length h).trans rfl) (Nat.le_of_ble_eq_true rfl) G_law_integer
  have A_law_same : ∀ n, Cal ⟨P, w, K, mg, base⟩ "_law_same" (R_law_same n) (2 + n) [] := fun n => by
    induction n with
    | zero => exact Cal.absurd (lv := 1) F_law_same m_law_same (F_law_same.bindsN fun _ _ _ _ _ _ us hl => match us, hl with | [_, _], _ => rfl) .nil (fun _ => .nil) fs_law_same (Nat.le_of_ble_eq_true rfl) (fun _ _ _ ⟨_, _, _, _, H, _⟩ => nomatch H)
    | succ n ih => exact Cal.mk' (lv := 2 + n) F_law_same m_law_same (F_law_same.bindsN fun _ _ _ _ _ _ us hl => match us, hl with | [_, _], _ => rfl) .nil (fun _ => .nil) fs_law_same (fun _ _ _ ⟨_, _, _, h, _⟩ => (congrArg List.length h).trans rfl) (Nat.le_of_ble_eq_true rfl) (fun X A ds d k hR => b_law_same A g_int g_isinstance g_len g_list g_range g_str g_tuple C_law_integer ih hR)
  have C_law_same := A_law_same 8
  have G_names_of_2 : ∀ X : Cx, At X ⟨P, w, K, mg, base⟩ N_names_of_2 (defScope s_names_of) 0 → ∀ ds d k, R_names_of_2 ds d k → SS X (env0 4 ds) (defBody s_names_of) { rt := fun d' k' => d' = d ∧ Fits k' k d, nx := fun _ => d = .non ∧ k = .cln } := fun X A ds d k hR => b_names_of_2 A  hR
  have C_names_of_2 : Cal ⟨P, w, K, mg, base⟩ "names_of" R_names_of_2 1 [] := Cal.mk' F_names_of m_names_of (F_names_of.bindsN fun _ _ _ _ _ _ us hl => match us, hl with | [_], _ => rfl) .nil (fun _ => .nil) fs_names_of_2 (fun _ _ _ ⟨_, _, h, _⟩ => (congrArg List.length h).trans rfl) (Nat.le_of_ble_eq_true rfl) G_names_of_2
  have G_check_bidders_2 : ∀ X : Cx, At X ⟨P, w, K, mg, base⟩ N_check_bidders_2 (defScope s_check_bidders) 1 → ∀ ds d k, R_check_bidders_2 ds d k → SS X (env0 5 ds) (defBody s_check_bidders) { rt := fun d' k' => d' = d ∧ Fits k' k d, nx := fun _ => d = .non ∧ k = .cln } := fun X A ds d k hR => b_check_bidders_2 A g_LARGEST_BID g_LARGEST_WEIGHT g_MOST_BIDDERS g_enumerate g_len C_is_name C_names_of_2 hR
  have C_check_bidders_2 : Cal ⟨P, w, K, mg, base⟩ "check_bidders" R_check_bidders_2 2 [] := Cal.mk' F_check_bidders m_check_bidders (F_check_bidders.bindsN fun _ _ _ _ _ _ us hl => match us, hl with | [_], _ => rfl) .nil (fun _ => .nil) fs_check_bidders_2 (fun _ _ _ ⟨_, _, h, _⟩ => (congrArg List.length h).trans rfl) (Nat.le_of_ble_eq_true rfl) G_check_bidders_2
  have G_strengths_of_2 : ∀ X : Cx, At X ⟨P, w, K, mg, base⟩ N_strengths_of_2 (defScope s_strengths_of) 0 → ∀ ds d k, R_strengths_of_2 ds d k → SS X (env0 4 ds) (defBody s_strengths_of) { rt := fun d' k' => d' = d ∧ Fits k' k d, nx := fun _ => d = .non ∧ k = .cln } := fun X A ds d k hR => b_strengths_of_2 A  hR
  have C_strengths_of_2 : Cal ⟨P, w, K, mg, base⟩ "strengths_of" R_strengths_of_2 1 [] := Cal.mk' F_strengths_of m_strengths_of (F_strengths_of.bindsN fun _ _ _ _ _ _ us hl => match us, hl with | [_], _ => rfl) .nil (fun _ => .nil) fs_strengths_of_2 (fun _ _ _ ⟨_, _, h, _⟩ => (congrArg List.length h).trans rfl) (Nat.le_of_ble_eq_true rfl) G_strengths_of_2
  have G_ranking_2 : ∀ X : Cx, At X ⟨P, w, K, mg, base⟩ N_ranking_2 (defScope s_ranking) 1 → ∀ ds d k, R_ranking_2 ds d k → SS X (env0 4 ds) (defBody s_ranking) { rt := fun d' k' => d' = d ∧ Fits k' k d, nx := fun _ => d = .non ∧ k = .cln } := fun X A ds d k hR => b_ranking_2 A g_enumerate g_sorted C_strengths_of_2 hR
  have C_ranking_2 : Cal ⟨P, w, K, mg, base⟩ "ranking" R_ranking_2 2 [] := Cal.mk' F_ranking m_ranking (F_ranking.bindsN fun _ _ _ _ _ _ us hl => match us, hl with | [_], _ => rfl) .nil (fun _ => .nil) fs_ranking_2 (fun _ _ _ ⟨_, _, h, _⟩ => (congrArg List.length h).trans rfl) (Nat.le_of_ble_eq_true rfl) G_ranking_2
  have G_ladder_2 : ∀ X : Cx, At X ⟨P, w, K, mg, base⟩ N_ladder_2 (defScope s_ladder) 2 → ∀ ds d k, R_ladder_2 ds d k → SS X (env0 6 ds) (defBody s_ladder) { rt := fun d' k' => d' = d ∧ Fits k' k d, nx := fun _ => d = .non ∧ k = .cln } := fun X A ds d k hR => b_ladder_2 A g_tuple C_check_bidders_2 C_check_floor C_check_hours C_ranking_2 C_strengths_of_2 hR
  obtain ⟨mv_C_ladder_2_k1_hours, kb_C_ladder_2_k1_hours⟩ := kb_0 (ps := ["bidders", "hours", "floor"]) F_ladder 1 ["hours"] [("floor", .int (0))] [.p 0, .k 0, .m 0] (by simp) (by simp) fun D doc pm an cdv ct us mv ws h1 h2 h3 => match us, mv, ws, h1, h2, h3 with | [_], [_], [_], _, _, _ => ⟨_, _, _, _, _, _, rfl, rfl, rfl⟩
  have C_ladder_2_k1_hours : CalK ⟨P, w, K, mg, base⟩ "ladder" R_ladder_2 3 1 ["hours"] (fun a b => pick a [] [(D.int (0 : Int))] b [.p 0, .k 0, .m 0]) := CalK.of (def_ok F_ladder fs_ladder_2 (fun _ _ _ ⟨_, _, _, _, h, _⟩ => (congrArg List.length h).trans rfl) (Nat.le_of_ble_eq_true rfl) fun X c => G_ladder_2 X c.at_) F_ladder.kp m_ladder (its := []) (dvs := []) kb_C_ladder_2_k1_hours (fun _ => .nil) (fun _ => .cons (.int _) (.nil))
  have G_law_one_half : ∀ X : Cx, At X ⟨P, w, K, mg, base⟩ N_law_one_half (defScope s_law_one_half) 10 → ∀ ds d k, R_law_one_half ds d k → SS X (env0 7 ds) (defBody s_law_one_half) { rt := fun d' k' => d' = d ∧ Fits k' k d, nx := fun _ => d = .non ∧ k = .cln } := fun X A ds d k hR => b_law_one_half A g_list g_tuple C_ladder_2_k1_hours C_ladder_k0_bidders C_ladder_k1_floor C_ladder_k1_hours_floor C_law_bidders C_law_cell C_law_ladder C_law_part C_law_pool C_law_same C_law_sill hR
  have C_law_one_half : Cal ⟨P, w, K, mg, base⟩ "_law_one_half" R_law_one_half 11 [] := Cal.mk' F_law_one_half m_law_one_half (F_law_one_half.bindsN fun _ _ _ _ _ _ us hl => match us, hl with | [_], _ => rfl) .nil (fun _ => .nil) fs_law_one_half (fun _ _ _ ⟨_, _, h, _⟩ => (congrArg List.length h).trans rfl) (Nat.le_of_ble_eq_true rfl) G_law_one_half
  have G_law_wished : ∀ X : Cx, At X ⟨P, w, K, mg, base⟩ N_law_wished (defScope s_law_wished) 1 → ∀ ds d k, R_law_wished ds d k → SS X (env0 10 ds) (defBody s_law_wished) { rt := fun d' k' => d' = d ∧ Fits k' k d, nx := fun _ => d = .non ∧ k = .cln } := fun X A ds d k hR => b_law_wished A g_int g_len g_range g_tuple C_law_part hR
  have C_law_wished : Cal ⟨P, w, K, mg, base⟩ "_law_wished" R_law_wished 2 [] := Cal.mk' F_law_wished m_law_wished (F_law_wished.bindsN fun _ _ _ _ _ _ us hl => match us, hl with | [_, _, _, _], _ => rfl) .nil (fun _ => .nil) fs_law_wished (fun _ _ _ ⟨_, _, _, _, _, h, _⟩ => (congrArg List.length h).trans rfl) (Nat.le_of_ble_eq_true rfl) G_law_wished
  have G_check_known : ∀ X : Cx, At X ⟨P, w, K, mg, base⟩ N_check_known (defScope s_check_known) 0 → ∀ ds d k, R_check_known ds d k → SS X (env0 3 ds) (defBody s_check_known) { rt := fun d' k' => d' = d ∧ Fits k' k d, nx := fun _ => d = .non ∧ k = .cln } := fun X A ds d k hR => b_check_known A  hR
  have C_check_known : Cal ⟨P, w, K, mg, base⟩ "check_known" R_check_known 1 [] := Cal.mk' F_check_known m_check_known (F_check_known.bindsN fun _ _ _ _ _ _ us hl => match us, hl with | [_, _], _ => rfl) .nil (fun _ => .nil) fs_check_known (fun _ _ _ ⟨_, _, _, h, _⟩ => (congrArg List.length h).trans rfl) (Nat.le_of_ble_eq_true rfl) G_check_known
  have G_least_raises : ∀ X : Cx, At X ⟨P, w, K, mg, base⟩ N_least_raises (defScope s_least_raises) 1 → ∀ ds d k, R_least_raises ds d k → SS X (env0 13 ds) (defBody s_least_raises) { rt := fun d' k' => d' = d ∧ Fits k' k d, nx := fun _ => d = .non ∧ k = .cln } := fun X A ds d k hR => b_least_raises A g_len g_max g_range g_tuple C_strengths_of hR
  have C_least_raises : Cal ⟨P, w, K, mg, base⟩ "least_raises" R_least_raises 2 [] := Cal.mk' F_least_raises m_least_raises (F_least_raises.bindsN fun _ _ _ _ _ _ us hl => match us, hl with | [_, _, _, _], _ => rfl) .nil (fun _ => .nil) fs_least_raises (fun _ _ _ ⟨_, _, _, _, _, h, _⟩ => (congrArg List.length h).trans rfl) (Nat.le_of_ble_eq_true rfl) G_least_raises
  have G_raises_for : ∀ X : Cx, At X ⟨P, w, K, mg, base⟩ N_raises_for (defScope s_raises_for) 2 → ∀ ds d k, R_raises_for ds d k → SS X (env0 7 ds) (defBody s_raises_for) { rt := fun d' k' => d' = d ∧ Fits k' k d, nx := fun _ => d = .non ∧ k = .cln } := fun X A ds d k hR => b_raises_for A g_enumerate C_check_bidders C_check_floor C_check_hours C_check_known C_least_raises C_names_of hR
  obtain ⟨mv_C_raises_for_k2_floor, kb_C_raises_for_k2_floor⟩ := kb_0 (ps := ["bidders", "names", "hours", "floor"]) F_raises_for 2 ["floor"] [("hours", .int (1))] [.p 0, .p 1, .m 0, .k 0] (by simp) (by simp) fun D doc pm an cdv ct us mv ws h1 h2 h3 => match us, mv, ws, h1, h2, h3 with | [_, _], [_], [_], _, _, _ => ⟨_, _, _, _, _, _, rfl, rfl, rfl⟩
  have C_raises_for_k2_floor : CalK ⟨P, w, K, mg, base⟩ "raises_for" R_raises_for 3 2 ["floor"] (fun a b => pick a [] [(D.int (1 : Int))] b [.p 0, .p 1, .m 0, .k 0]) := CalK.of (def_ok F_raises_for fs_raises_for (fun _ _ _ ⟨_, _, _, _, _, h, _⟩ => (congrArg List.length h).trans rfl) (Nat.le_of_ble_eq_true rfl) fun X c => G_raises_for X c.at_) F_raises_for.kp m_raises_for (its := []) (dvs := []) kb_C_raises_for_k2_floor (fun _ => .nil) (fun _ => .cons (.int _) (.nil))
  have C_raises_for_k2_hours_floor : CalK ⟨P, w, K, mg, base⟩ "raises_for" R_raises_for 3 2 ["hours", "floor"] (fun a b => pick a [] [] b [.p 0, .p 1, .k 0, .k 1]) := CalK.of (def_ok F_raises_for fs_raises_for (fun _ _ _ ⟨_, _, _, _, _, h, _⟩ => (congrArg List.length h).trans rfl) (Nat.le_of_ble_eq_true rfl) fun X c => G_raises_for X c.at_) F_raises_for.kp m_raises_for (its := []) (mv := []) (dvs := []) (mz := []) (kb_n F_raises_for 2 ["hours", "floor"] [.p 0, .p 1, .k 0, .k 1] fun kV doc pm an cdv ct us ws h1 h2 => match us, ws, h1, h2 with | [_, _], [_, _], _, _ => rfl) (fun _ => .nil) (fun _ => .nil)
  obtain ⟨dus_C_raises_for_p2, hv_C_raises_for_p2, bd_C_raises_for_p2⟩ := F_raises_for.binds0 (ps := ["bidders", "names", "hours", "floor"]) 2 (by simp) rfl fun D doc pm an cdv ct us ks h1 h2 => match us, ks, h1, h2 with | [_, _], [_, _], _, _ => ⟨_, _, _, _, _, _, rfl, rfl, ⟨_, _, _, _, _, _, rfl, rfl, rfl⟩⟩
  have C_raises_for_p2 : Cal ⟨P, w, K, mg, base⟩ "raises_for" R_raises_for 3 [(D.int (1 : Int)), (D.int (0 : Int))] := Cal.mk' F_raises_for m_raises_for bd_C_raises_for_p2 hv_C_raises_for_p2 (fun _ => .cons (.int _) (.cons (.int _) (.nil))) fs_raises_for (fun _ _ _ ⟨_, _, _, _, _, h, _⟩ => (congrArg List.length h).trans rfl) (Nat.le_of_ble_eq_true rfl) G_raises_for
  have G_law_integer_2 : ∀ X : Cx, At X ⟨P, w, K, mg, base⟩ N_law_integer_2 (defScope s_law_integer) 0 → ∀ ds d k, R_law_integer_2 ds d k → SS X (env0 1 ds) (defBody s_law_integer) { rt := fun d' k' => d' = d ∧ Fits k' k d, nx := fun _ => d = .non ∧ k = .cln } := fun X A ds d k hR => b_law_integer_2 A g_bool g_int g_isinstance hR
  have C_law_integer_2 : Cal ⟨P, w, K, mg, base⟩ "_law_integer" R_law_integer_2 1 [] := Cal.mk' F_law_integer m_law_integer (F_law_integer.bindsN fun _ _ _ _ _ _ us hl => match us, hl with | [_], _ => rfl) .nil (fun _ => .nil) fs_law_integer_2 (fun _ _ _ ⟨_, _, h, _⟩ => (congrArg List.length h).trans rfl) (Nat.le_of_ble_eq_true rfl) G_law_integer_2
  have G_law_raised : ∀ X : Cx, At X ⟨P, w, K, mg, base⟩ N_law_raised (defScope s_law_raised) 0 → ∀ ds d k, R_law_raised ds d k → SS X (env0 7 ds) (defBody s_law_raised) { rt := fun d' k' => d' = d ∧ Fits k' k d, nx := fun _ => d = .non ∧ k = .cln } := fun X A ds d k hR => b_law_raised A g_len g_range hR
  have C_law_raised : Cal ⟨P, w, K, mg, base⟩ "_law_raised" R_law_raised 1 [] := Cal.mk' F_law_raised m_law_raised (F_law_raised.bindsN fun _ _ _ _ _ _ us hl => match us, hl with | [_, _], _ => rfl) .nil (fun _ => .nil) fs_law_raised (fun _ _ _ ⟨_, _, _, h, _⟩ => (congrArg List.length h).trans rfl) (Nat.le_of_ble_eq_true rfl) G_law_raised
  have G_law_brings : ∀ X : Cx, At X ⟨P, w, K, mg, base⟩ N_law_brings (defScope s_law_brings) 10 → ∀ ds d k, R_law_brings ds d k → SS X (env0 11 ds) (defBody s_law_brings) { rt := fun d' k' => d' = d ∧ Fits k' k d, nx := fun _ => d = .non ∧ k = .cln } := fun X A ds d k hR => b_law_brings A g_isinstance g_len g_range g_tuple C_ladder_k1_hours_floor C_law_integer_2 C_law_ladder C_law_raised C_law_same hR
  have C_law_brings : Cal ⟨P, w, K, mg, base⟩ "_law_brings" R_law_brings 11 [] := Cal.mk' F_law_brings m_law_brings (F_law_brings.bindsN fun _ _ _ _ _ _ us hl => match us, hl with | [_, _, _, _, _], _ => rfl) .nil (fun _ => .nil) fs_law_brings (fun _ _ _ ⟨_, _, _, _, _, _, h, _⟩ => (congrArg List.length h).trans rfl) (Nat.le_of_ble_eq_true rfl) G_law_brings
  have G_least_raises_2 : ∀ X : Cx, At X ⟨P, w, K, mg, base⟩ N_least_raises_2 (defScope s_least_raises) 1 → ∀ ds d k, R_least_raises_2 ds d k → SS X (env0 13 ds) (defBody s_least_raises) { rt := fun d' k' => d' = d ∧ Fits k' k d, nx := fun _ => d = .non ∧ k = .cln } := fun X A ds d k hR => b_least_raises_2 A g_len g_max g_range g_tuple C_strengths_of_2 hR
  have C_least_raises_2 : Cal ⟨P, w, K, mg, base⟩ "least_raises" R_least_raises_2 2 [] := Cal.mk' F_least_raises m_least_raises (F_least_raises.bindsN fun _ _ _ _ _ _ us hl => match us, hl with | [_, _, _, _], _ => rfl) .nil (fun _ => .nil) fs_least_raises_2 (fun _ _ _ ⟨_, _, _, _, _, h, _⟩ => (congrArg List.length h).trans rfl) (Nat.le_of_ble_eq_true rfl) G_least_raises_2
  have G_raises_for_2 : ∀ X : Cx, At X ⟨P, w, K, mg, base⟩ N_raises_for_2 (defScope s_raises_for) 2 → ∀ ds d k, R_raises_for_2 ds d k → SS X (env0 7 ds) (defBody s_raises_for) { rt := fun d' k' => d' = d ∧ Fits k' k d, nx := fun _ => d = .non ∧ k = .cln } := fun X A ds d k hR => b_raises_for_2 A g_enumerate C_check_bidders_2 C_check_floor C_check_hours C_check_known C_least_raises_2 C_names_of_2 hR
  obtain ⟨mv_C_raises_for_2_k2_hours, kb_C_raises_for_2_k2_hours⟩ := kb_0 (ps := ["bidders", "names", "hours", "floor"]) F_raises_for 2 ["hours"] [("floor", .int (0))] [.p 0, .p 1, .k 0, .m 0] (by simp) (by simp) fun D doc pm an cdv ct us mv ws h1 h2 h3 => match us, mv, ws, h1, h2, h3 with | [_, _], [_], [_], _, _, _ => ⟨_, _, _, _, _, _, rfl, rfl, rfl⟩
  have C_raises_for_2_k2_hours : CalK ⟨P, w, K, mg, base⟩ "raises_for" R_raises_for_2 3 2 ["hours"] (fun a b => pick a [] [(D.int (0 : Int))] b [.p 0, .p 1, .k 0, .m 0]) := CalK.of (def_ok F_raises_for fs_raises_for_2 (fun _ _ _ ⟨_, _, _, _, _, h, _⟩ => (congrArg List.length h).trans rfl) (Nat.le_of_ble_eq_true rfl) fun X c => G_raises_for_2 X c.at_) F_raises_for.kp m_raises_for (its := []) (dvs := []) kb_C_raises_for_2_k2_hours (fun _ => .nil) (fun _ => .cons (.int _) (.nil))
  have G_law_other_half : ∀ X : Cx, At X ⟨P, w, K, mg, base⟩ N_law_other_half (defScope s_law_other_half) 11 → ∀ ds d k, R_law_other_half ds d k → SS X (env0 9 ds) (defBody s_law_other_half) { rt := fun d' k' => d' = d ∧ Fits k' k d, nx := fun _ => d = .non ∧ k = .cln } := fun X A ds d k hR => b_law_other_half A g_list g_tuple C_law_bidders C_law_brings C_law_cell C_law_part C_law_pool C_law_same C_law_sill C_law_wished C_raises_for_2_k2_hours C_raises_for_k2_floor C_raises_for_k2_hours_floor C_raises_for_p2 hR
  have C_law_other_half : Cal ⟨P, w, K, mg, base⟩ "_law_other_half" R_law_other_half 12 [] := Cal.mk' F_law_other_half m_law_other_half (F_law_other_half.bindsN fun _ _ _ _ _ _ us hl => match us, hl with | [_], _ => rfl) .nil (fun _ => .nil) fs_law_other_half (fun _ _ _ ⟨_, _, h, _⟩ => (congrArg List.length h).trans rfl) (Nat.le_of_ble_eq_true rfl) G_law_other_half
  have G_law : ∀ X : Cx, At X ⟨P, w, K, mg, base⟩ N_law (defScope s_law) 12 → ∀ ds d k, R_law ds d k → SS X (env0 1 ds) (defBody s_law) { rt := fun d' k' => d' = d ∧ Fits k' k d, nx := fun _ => d = .non ∧ k = .cln } := fun X A ds d k hR => b_law A C_law_one_half C_law_other_half hR
  exact def_ok F_law fs_law (fun _ _ _ ⟨_, _, h, _⟩ => (congrArg List.length h).trans rfl) (Nat.le_of_ble_eq_true rfl) fun X c => G_law X c.at_
end
end K14
open PySem PySem.W PySem.Calls PyProof.Rows
theorem PySem.Challenge.cw_turnkeepers_k14_ladder_and_raises_holds : PySem.Challenge.rw_turnkeepers_k14_ladder_and_raises.Holds := by
  w_on; o_law
  refine HandSHeadRun.head_any (r := OpenLaw.row PySem.Challenge.rw_turnkeepers_k14_ladder_and_raises) (q := view (OpenLaw.row PySem.Challenge.rw_turnkeepers_k14_ladder_and_raises).prog [45]) (H := Hd.hk) (ob := Hd.ob) (M := 40000) (loose := Hd.names) (d := HandSHeadRun.topDef (OpenLaw.row PySem.Challenge.rw_turnkeepers_k14_ladder_and_raises).prog 45) (kwd := []) Hd.ob_eq
    (by kernel_rfl) (fun s => by kernel_rfl) Hd.run (by kernel_rfl) (by kernel_rfl) (by kernel_rfl) (by rfl) (by first | assumption | decide +kernel) (by decide +kernel) ⟨rfl, rfl, rfl, rfl, rfl, by decide +kernel⟩ ?hw ?hc
  case hw => w_witness2
  case hc =>
    refine L2.walk_ofE (l := PySem.Challenge.rw_turnkeepers_k14_ladder_and_raises) (n := 63) (k := 13) (x := "script") (CX := L2.CX0) rfl (by decide) (by kernel_rfl) ⟨rfl, by decide, by decide⟩ ?F (fun _ _ _ _ z => z)
    intro w mg fa h Y G hmg0
    obtain ⟨K, KX, c⟩ := Y
    have hmg : mg ("law" : PySem.Str) = some (.ref fa) := by
      have e : (HandSHeadRun.topDef (OpenLaw.row PySem.Challenge.rw_turnkeepers_k14_ladder_and_raises).prog 45).name = ("law" : PySem.Str) := by kernel_rfl
      rw [← e]
      exact hmg0
    obtain ⟨fd, hb, hF⟩ := K14.facts (P := (PySem.Challenge.rw_turnkeepers_k14_ladder_and_raises).prog) (w := w) KX G hmg c
    exact ⟨K, fd, DL.FnSp K K14.R_law, KX, hb, fun H a ns hl _ hS => DL.sp_law hS ⟨ns, true, rfl, K14.Plain.main ns hl, rfl, rfl⟩, hF⟩
