import PyProof.Rows.All
import Wide.All
import OpenK.AllK
import Wide.FinOn
import HandS.ForMost
import HandS.Exc
import HandS.Defaults
import HandS.SortInts
import HandS.SortRule
import HandS.TupAny
import HandS.IsInst
import HandS.Style
import HandS.Iter
import HandS.Strs
import HandS.Zip
import KE.GoesMore
import HandS.SortKw
import HandS.MakeKw
import HandS.MakeKwOnly
import KE.KDictZip
import KE.KStateDown
import HandS.Base
import HandS.Call
import HandS.Ends
import HandS.More
import HandS.Words
import HandS.WordsExc
import HandS.Head0
import HandS.Head1
import HandS.Head2
import HandS.HeadEnd
import HandS.HeadHook1
import HandS.HeadHook2
import PySem.Challenge.RW_turnkeepers_k23_whole_passes_kept
set_option Elab.async false
set_option linter.all false
set_option maxRecDepth 100000
set_option maxHeartbeats 0
namespace DL
open PySem PySem.Spec L2
open PyProof.Rows hiding St
inductive D where
  | non | bl (b : Bool) | int (i : Int) | str (x : Str)
  | lst (xs : List D) | tup (xs : List D)
  | dK (kvs : List (Key × D)) | dT (kvs : List (List Key × D))
  | obj (C : Addr) (fs : List (Str × D))
    | scr (ns : List Int)
  | adr (a : Addr)
def D.sc : D → Bool
  | .non => true | .bl _ => true | .int _ => true | .str _ => true | _ => false
mutual
def D.imm : D → Bool
  | .non => true | .bl _ => true | .int _ => true | .str _ => true
  | .tup xs => D.imms xs
  | _ => false
def D.imms : List D → Bool
  | [] => true
  | d :: ds => D.imm d && D.imms ds
end
mutual
inductive Rep (K : PySem.W.Frag) (B : Hp) : D → V → Prop
  | non : Rep K B .non .non
  | bl (b : Bool) : Rep K B (.bl b) (.bl b)
  | int (i : Int) : Rep K B (.int i) (.int i)
  | str (x : Str) : Rep K B (.str x) (.str x)
  | lst {a : Addr} {vs : List V} {ds : List D} : B a = some (.lst vs) → Reps K B ds vs → Rep K B (.lst ds) (.ref a)
  | tup {a : Addr} {vs : List V} {ds : List D} : SqT K B a vs → Reps K B ds vs → Rep K B (.tup ds) (.ref a)
  | dK {a : Addr} {us : List (Key × V)} {kvs : List (Key × D)} : B a = some (.dK us) → RepP K B Key kvs us → Rep K B (.dK kvs) (.ref a)
  | dT {a : Addr} {us : List (List Key × V)} {kvs : List (List Key × D)} : B a = some (.dT us) → RepP K B (List Key) kvs us → Rep K B (.dT kvs) (.ref a)
  | obj {a C dx : Addr} {us : List (Str × V)} {fs : List (Str × D)} : B a = some (.ins C dx us) → RepP K B Str fs us → Rep K B (.obj C fs) (.ref a)
  | scr {a : Addr} {ns : List Int} : SqL K B a (ns.map V.int) → Rep K B (.scr ns) (.ref a)
  | adr {a : Addr} : Rep K B (.adr a) (.ref a)
inductive Reps (K : PySem.W.Frag) (B : Hp) : List D → List V → Prop
  | nil : Reps K B [] []
  | cons {d : D} {v : V} {ds : List D} {vs : List V} : Rep K B d v → Reps K B ds vs → Reps K B (d :: ds) (v :: vs)
inductive RepP (K : PySem.W.Frag) (B : Hp) : (κ : Type) → List (κ × D) → List (κ × V) → Prop
  | nil {κ : Type} : RepP K B κ [] []
  | cons {κ : Type} {k : κ} {d : D} {v : V} {ds : List (κ × D)} {vs : List (κ × V)} : Rep K B d v → RepP K B κ ds vs → RepP K B κ ((k, d) :: ds) ((k, v) :: vs)
end
theorem Same.rd {H H' : Hp} (e : Same H H') {a : Addr} {o : HO} (h : Rd H a o) : Rd H' a o := by
  rcases h with h | ⟨u, h⟩
  · exact .inl (e _ _ h)
  · exact .inr ⟨u, e _ _ h⟩
theorem Same.seqT {K : PySem.W.Frag} {H H' : Hp} {a : Addr} {xs : List V} (e : Same H H') (h : SqT K H a xs) : SqT K H' a xs := by
  rcases h with h | h
  · exact .inl (Same.rd e h)
  · exact .inr h
section
variable {K : PySem.W.Frag} {B B' F H : Hp}
mutual
theorem Rep.mono (e : Same B B') : ∀ {d : D} {v : V}, Rep K B d v → Rep K B' d v
  | _, _, .non => .non
  | _, _, .bl b => .bl b
  | _, _, .int b => .int b
  | _, _, .str b => .str b
  | _, _, .lst s r => .lst (e _ _ s) (Reps.mono e r)
  | _, _, .tup s r => .tup (Same.seqT e s) (Reps.mono e r)
  | _, _, .dK s r => .dK (e _ _ s) (RepP.mono e r)
  | _, _, .dT s r => .dT (e _ _ s) (RepP.mono e r)
  | _, _, .obj s r => .obj (e _ _ s) (RepP.mono e r)
  | _, _, .scr s => .scr (e.seq s)
  | _, _, .adr => .adr
theorem Reps.mono (e : Same B B') : ∀ {d : List D} {v : List V}, Reps K B d v → Reps K B' d v
  | _, _, .nil => .nil
  | _, _, .cons r t => .cons (Rep.mono e r) (Reps.mono e t)
theorem RepP.mono (e : Same B B') : ∀ {κ : Type} {d : List (κ × D)} {v : List (κ × V)}, RepP K B κ d v → RepP K B' κ d v
  | _, _, _, .nil => .nil
  | _, _, _, .cons r t => .cons (Rep.mono e r) (RepP.mono e t)
end
def TupOk (F H : Hp) : Prop := ∀ a xs, Rd H a (.tup xs) → Rd F a (.tup xs)
mutual
theorem Rep.immF (t : TupOk F H) : ∀ {d : D} {v : V}, d.imm = true → Rep K H d v → Rep K F d v
  | _, _, _, .non => .non
  | _, _, _, .bl b => .bl b
  | _, _, _, .int b => .int b
  | _, _, _, .str b => .str b
  | .tup ds, _, i, .tup s r => .tup (by
      rcases s with s | s
      · exact .inl (t _ _ s)
      · exact .inr s) (Reps.immF t i r)
  | .lst _, _, i, .lst _ _ => nomatch i
  | .dK _, _, i, .dK _ _ => nomatch i
  | .dT _, _, i, .dT _ _ => nomatch i
  | .obj _ _, _, i, .obj _ _ => nomatch i
  | .scr _, _, i, .scr _ => nomatch i
  | .adr _, _, i, .adr => nomatch i
theorem Reps.immF (t : TupOk F H) : ∀ {d : List D} {v : List V}, D.imms d = true → Reps K H d v → Reps K F d v
  | _, _, _, .nil => .nil
  | _ :: _, _, i, .cons r q => .cons (Rep.immF t (Bool.and_eq_true_iff.mp i).1 r) (Reps.immF t (Bool.and_eq_true_iff.mp i).2 q)
end
theorem Rep.scal {d : D} {v : V} (h : d.sc = true) (r : Rep K B d v) : Rep K B' d v := by
  cases r with
  | non => exact .non
  | bl b => exact .bl b
  | int b => exact .int b
  | str b => exact .str b
  | _ => cases h
theorem Reps.length : ∀ {ds : List D} {vs : List V}, Reps K B ds vs → vs.length = ds.length
  | _, _, .nil => rfl
  | _, _, .cons _ t => congrArg Nat.succ (Reps.length t)
theorem Reps.get : ∀ {ds : List D} {vs : List V} {i : Nat} {d : D}, Reps K B ds vs → ds[i]? = some d → ∃ v, vs[i]? = some v ∧ Rep K B d v
  | _, _, _, _, .nil, e => by simp at e
  | _, _, 0, d, .cons r _, e => by simp at e; subst e; exact ⟨_, rfl, r⟩
  | _, _, i + 1, d, .cons _ t, e => by
    obtain ⟨v, h1, h2⟩ := Reps.get (i := i) (d := d) t (by simpa using e)
    exact ⟨v, by simpa using h1, h2⟩
theorem Reps.getV : ∀ {ds : List D} {vs : List V} {i : Nat} {v : V}, Reps K B ds vs → vs[i]? = some v → ∃ d, ds[i]? = some d ∧ Rep K B d v
  | _, _, _, _, .nil, e => by simp at e
  | _, _, 0, d, .cons r _, e => by simp at e; subst e; exact ⟨_, rfl, r⟩
  | _, _, i + 1, d, .cons _ t, e => by
    obtain ⟨v, h1, h2⟩ := Reps.getV (i := i) (v := d) t (by simpa using e)
    exact ⟨v, by simpa using h1, h2⟩
theorem Reps.append : ∀ {ds es : List D} {vs us : List V}, Reps K B ds vs → Reps K B es us → Reps K B (ds ++ es) (vs ++ us)
  | _, _, _, _, .nil, s => s
  | _, _, _, _, .cons r t, s => .cons r (Reps.append t s)
theorem Reps.take : ∀ {ds : List D} {vs : List V} (n : Nat), Reps K B ds vs → Reps K B (ds.take n) (vs.take n)
  | _, _, 0, _ => .nil
  | _, _, _ + 1, .nil => .nil
  | _, _, n + 1, .cons r t => .cons r (Reps.take n t)
theorem Reps.drop : ∀ {ds : List D} {vs : List V} (n : Nat), Reps K B ds vs → Reps K B (ds.drop n) (vs.drop n)
  | _, _, 0, r => r
  | _, _, _ + 1, .nil => .nil
  | _, _, n + 1, .cons _ t => Reps.drop n t
theorem Reps.set {d : D} {v : V} (r : Rep K B d v) : ∀ {ds : List D} {vs : List V} (i : Nat), Reps K B ds vs → Reps K B (ds.set i d) (vs.set i v)
  | _, _, _, .nil => .nil
  | _, _, 0, .cons _ t => .cons r t
  | _, _, i + 1, .cons q t => .cons q (Reps.set r i t)
theorem Reps.one {d : D} {v : V} (r : Rep K B d v) : Reps K B [d] [v] := .cons r .nil
theorem Reps.reverse : ∀ {ds : List D} {vs : List V}, Reps K B ds vs → Reps K B ds.reverse vs.reverse
  | _, _, .nil => .nil
  | _, _, .cons r t => by rw [List.reverse_cons, List.reverse_cons]; exact Reps.append (Reps.reverse t) (.one r)
theorem Reps.eraseIdx : ∀ {ds : List D} {vs : List V} (i : Nat), Reps K B ds vs → Reps K B (ds.eraseIdx i) (vs.eraseIdx i)
  | _, _, _, .nil => .nil
  | _, _, 0, .cons _ t => t
  | _, _, i + 1, .cons q t => .cons q (Reps.eraseIdx i t)
theorem Reps.dropLast : ∀ {ds : List D} {vs : List V}, Reps K B ds vs → Reps K B ds.dropLast vs.dropLast
  | _, _, .nil => .nil
  | _, _, .cons _ .nil => .nil
  | _, _, .cons r (.cons q t) => .cons r (Reps.dropLast (.cons q t))
theorem RepP.lookup {κ : Type} [BEq κ] : ∀ {ds : List (κ × D)} {vs : List (κ × V)} {k : κ} {d : D}, RepP K B κ ds vs → ds.lookup k = some d → ∃ v, vs.lookup k = some v ∧ Rep K B d v
  | _, _, _, _, .nil, e => nomatch e
  | _, _, x, d, .cons (k := k) r t, e => by
    rw [List.lookup_cons] at e ⊢
    cases q : (x == k) with
    | true => rw [q] at e; exact ⟨_, rfl, by cases e; exact r⟩
    | false => rw [q] at e; exact RepP.lookup t e
theorem RepP.lookup_none {κ : Type} [BEq κ] : ∀ {ds : List (κ × D)} {vs : List (κ × V)} {k : κ}, RepP K B κ ds vs → ds.lookup k = none → vs.lookup k = none
  | _, _, _, .nil, e => rfl
  | _, _, x, .cons (k := k) r t, e => by
    rw [List.lookup_cons] at e ⊢
    cases q : (x == k) with
    | true => rw [q] at e; cases e
    | false => rw [q] at e; exact RepP.lookup_none t e
theorem RepP.length {κ : Type} : ∀ {ds : List (κ × D)} {vs : List (κ × V)}, RepP K B κ ds vs → vs.length = ds.length
  | _, _, .nil => rfl
  | _, _, .cons _ t => congrArg Nat.succ (RepP.length t)
end
inductive Kd where
  | own | cln | brw | shl | drt
  deriving DecidableEq
inductive Slot where
  | own (d : D) | frz (d : D) | bor (d : D)
abbrev DEnv := List (Option Slot)
def OwnRep (K : PySem.W.Frag) (F H : Hp) (p : Addr) : D → Prop
  | .lst ds => ∃ vs, H p = some (.lst vs) ∧ Reps K F ds vs
  | .dK kvs => ∃ us, H p = some (.dK us) ∧ RepP K F Key kvs us
  | .dT kvs => ∃ us, H p = some (.dT us) ∧ RepP K F (List Key) kvs us
  | .obj C fs => ∃ dx us, H p = some (.ins C dx us) ∧ RepP K F Str fs us
  | _ => False
def ShlRep (K : PySem.W.Frag) (F H : Hp) : D → V → Prop
  | .lst ds, v => ∃ a vs, v = .ref a ∧ H a = some (.lst vs) ∧ Reps K F ds vs
  | .dK kvs, v => ∃ a us, v = .ref a ∧ H a = some (.dK us) ∧ RepP K F Key kvs us
  | .dT kvs, v => ∃ a us, v = .ref a ∧ H a = some (.dT us) ∧ RepP K F (List Key) kvs us
  | .obj C fs, v => ∃ a dx us, v = .ref a ∧ H a = some (.ins C dx us) ∧ RepP K F Str fs us
  | d, v => Rep K F d v
def RepK (K : PySem.W.Frag) (F B H0 H : Hp) : Kd → D → V → Prop
  | .own, d, v => ∃ p, v = .ref p ∧ H0 p = none ∧ B p = none ∧ OwnRep K F H p d
  | .cln, d, v => Rep K F d v
  | .brw, d, v => Rep K B d v
  | .shl, d, v => ShlRep K F H d v
  | .drt, d, v => Rep K H d v
def SlotE (K : PySem.W.Frag) (F B H : Hp) : Slot → V → Prop
  | .own d, v => ∃ p, v = .ref p ∧ OwnRep K F H p d
  | .frz d, v => Rep K F d v
  | .bor d, v => Rep K B d v
structure Hs (F B H : Hp) : Prop where
  fb : Same F B
  bh : Same B H
  tup : TupOk F H
theorem Hs.fh {F B H : Hp} (s : Hs F B H) : Same F H := s.fb.trans s.bh
structure EnvE (K : PySem.W.Frag) (F B H : Hp) (env : DEnv) (σ : St) : Prop where
  hs : Hs F B H
  len : env.length = σ.length
  at_ : ∀ (i : Nat) s, env[i]? = some (some s) → ∃ v, σ[i]? = some (some v) ∧ SlotE K F B H s v
structure Grow (F B H F' B' H' : Hp) : Prop where
  f : Same F F'
  b : Same B B'
  h : Same H H'
  hs : Hs F' B' H'
  newF : ∀ p, H p ≠ none → F' p ≠ none → F p ≠ none
  newB : ∀ p, H p ≠ none → B' p ≠ none → B p ≠ none
theorem Grow.refl {F B H : Hp} (s : Hs F B H) : Grow F B H F B H := ⟨.refl _, .refl _, .refl _, s, fun _ _ h => h, fun _ _ h => h⟩
theorem ne_none_of_same {H H' : Hp} (e : Same H H') {p : Addr} (h : H p ≠ none) : H' p ≠ none := by
  cases q : H p with
  | none => exact absurd q h
  | some o => rw [e p o q]; exact fun z => nomatch z
theorem Grow.trans {F B H F1 B1 H1 F2 B2 H2 : Hp} (a : Grow F B H F1 B1 H1) (b : Grow F1 B1 H1 F2 B2 H2) : Grow F B H F2 B2 H2 :=
  ⟨a.f.trans b.f, a.b.trans b.b, a.h.trans b.h, b.hs, fun p h1 h2 => a.newF p h1 (b.newF p (ne_none_of_same a.h h1) h2), fun p h1 h2 => a.newB p h1 (b.newB p (ne_none_of_same a.h h1) h2)⟩
section
variable {K : PySem.W.Frag} {F B H F' B' H' H0 : Hp}
theorem OwnRep.grow (f : Same F F') (h : Same H H') {p : Addr} : ∀ {d : D}, OwnRep K F H p d → OwnRep K F' H' p d
  | .lst _, ⟨vs, e, r⟩ => ⟨vs, h _ _ e, r.mono f⟩
  | .dK _, ⟨vs, e, r⟩ => ⟨vs, h _ _ e, r.mono f⟩
  | .dT _, ⟨vs, e, r⟩ => ⟨vs, h _ _ e, r.mono f⟩
  | .obj _ _, ⟨dx, vs, e, r⟩ => ⟨dx, vs, h _ _ e, r.mono f⟩
theorem ShlRep.grow (f : Same F F') (h : Same H H') : ∀ {d : D} {v : V}, ShlRep K F H d v → ShlRep K F' H' d v
  | .lst _, _, ⟨a, vs, e, s, r⟩ => ⟨a, vs, e, h _ _ s, r.mono f⟩
  | .dK _, _, ⟨a, vs, e, s, r⟩ => ⟨a, vs, e, h _ _ s, r.mono f⟩
  | .dT _, _, ⟨a, vs, e, s, r⟩ => ⟨a, vs, e, h _ _ s, r.mono f⟩
  | .obj _ _, _, ⟨a, dx, vs, e, s, r⟩ => ⟨a, dx, vs, e, h _ _ s, r.mono f⟩
  | .non, _, r => Rep.mono f (show Rep K F _ _ from r)
  | .bl _, _, r => Rep.mono f (show Rep K F _ _ from r)
  | .int _, _, r => Rep.mono f (show Rep K F _ _ from r)
  | .str _, _, r => Rep.mono f (show Rep K F _ _ from r)
  | .tup _, _, r => Rep.mono f (show Rep K F _ _ from r)
  | .scr _, _, r => Rep.mono f (show Rep K F _ _ from r)
  | .adr _, _, r => Rep.mono f (show Rep K F _ _ from r)
theorem OwnRep.rep (f : Same F H) {p : Addr} : ∀ {d : D}, OwnRep K F H p d → Rep K H d (.ref p)
  | .lst _, ⟨vs, e, r⟩ => .lst e (r.mono f)
  | .dK _, ⟨vs, e, r⟩ => .dK e (r.mono f)
  | .dT _, ⟨vs, e, r⟩ => .dT e (r.mono f)
  | .obj _ _, ⟨dx, vs, e, r⟩ => .obj e (r.mono f)
theorem OwnRep.shl {p : Addr} : ∀ {d : D}, OwnRep K F H p d → ShlRep K F H d (.ref p)
  | .lst _, ⟨vs, e, r⟩ => ⟨_, _, rfl, e, r⟩
  | .dK _, ⟨vs, e, r⟩ => ⟨_, _, rfl, e, r⟩
  | .dT _, ⟨vs, e, r⟩ => ⟨_, _, rfl, e, r⟩
  | .obj _ _, ⟨dx, vs, e, r⟩ => ⟨_, _, _, rfl, e, r⟩
theorem ShlRep.rep (f : Same F H) : ∀ {d : D} {v : V}, ShlRep K F H d v → Rep K H d v
  | .lst _, _, ⟨a, vs, e, s, r⟩ => by subst e; exact .lst s (r.mono f)
  | .dK _, _, ⟨a, vs, e, s, r⟩ => by subst e; exact .dK s (r.mono f)
  | .dT _, _, ⟨a, vs, e, s, r⟩ => by subst e; exact .dT s (r.mono f)
  | .obj _ _, _, ⟨a, dx, vs, e, s, r⟩ => by subst e; exact .obj s (r.mono f)
  | .non, _, r => Rep.mono f (show Rep K F _ _ from r)
  | .bl _, _, r => Rep.mono f (show Rep K F _ _ from r)
  | .int _, _, r => Rep.mono f (show Rep K F _ _ from r)
  | .str _, _, r => Rep.mono f (show Rep K F _ _ from r)
  | .tup _, _, r => Rep.mono f (show Rep K F _ _ from r)
  | .scr _, _, r => Rep.mono f (show Rep K F _ _ from r)
  | .adr _, _, r => Rep.mono f (show Rep K F _ _ from r)
theorem Rep.shl (f : Same F H) : ∀ {d : D} {v : V}, Rep K F d v → ShlRep K F H d v
  | .lst _, _, .lst s r => ⟨_, _, rfl, f _ _ s, r⟩
  | .dK _, _, .dK s r => ⟨_, _, rfl, f _ _ s, r⟩
  | .dT _, _, .dT s r => ⟨_, _, rfl, f _ _ s, r⟩
  | .obj _ _, _, .obj s r => ⟨_, _, _, rfl, f _ _ s, r⟩
  | .non, _, r => r
  | .bl _, _, r => r
  | .int _, _, r => r
  | .str _, _, r => r
  | .tup _, _, r => r
  | .scr _, _, r => r
  | .adr _, _, r => r
theorem RepK.rep (s : Hs F B H) : ∀ {k : Kd} {d : D} {v : V}, RepK K F B H0 H k d v → Rep K H d v
  | .own, _, _, ⟨p, e, _, _, r⟩ => by subst e; exact r.rep s.fh
  | .cln, _, _, r => Rep.mono s.fh r
  | .brw, _, _, r => Rep.mono s.bh r
  | .shl, _, _, r => ShlRep.rep s.fh r
  | .drt, _, _, r => r
theorem SlotE.grow (f : Same F F') (b : Same B B') (h : Same H H') : ∀ {s : Slot} {v : V}, SlotE K F B H s v → SlotE K F' B' H' s v
  | .own _, _, ⟨p, e, r⟩ => ⟨p, e, r.grow f h⟩
  | .frz _, _, r => Rep.mono f r
  | .bor _, _, r => Rep.mono b r
theorem EnvE.grow {env : DEnv} {σ : St} (e : EnvE K F B H env σ) (g : Grow F B H F' B' H') : EnvE K F' B' H' env σ :=
  ⟨g.hs, e.len, fun i s h => by obtain ⟨v, h1, h2⟩ := e.at_ i s h; exact ⟨v, h1, h2.grow g.f g.b g.h⟩⟩
end
end DL
namespace DL
open PySem PySem.Spec L2
open PyProof.Rows hiding St
def frzAt (F H : Hp) (p : Addr) : Hp := fun q => if q = p then H p else F q
section
variable {K : PySem.W.Frag} {F B H F' B' H' H0 : Hp}
theorem frz_same (f : Same F H) (p : Addr) : Same F (frzAt F H p) := fun q o e => by
  unfold frzAt
  split
  · next z => subst z; exact f _ _ e
  · exact e
theorem frz_sub (f : Same F H) (p : Addr) : Same (frzAt F H p) H := fun q o e => by
  unfold frzAt at e
  split at e
  · next z => subst z; exact e
  · exact f _ _ e
theorem frz_two (f : Same F B) (p : Addr) : Same (frzAt F H p) (frzAt B H p) := fun q o e => by
  unfold frzAt at e ⊢
  split at e
  · next z => rw [if_pos z]; exact e
  · next z => rw [if_neg z]; exact f _ _ e
theorem Hs.frz (s : Hs F B H) (p : Addr) : Hs (frzAt F H p) (frzAt B H p) H := ⟨frz_two s.fb p, frz_sub s.bh p, fun a xs h => Same.rd (frz_same s.fh p) (s.tup a xs h)⟩
theorem frz_ne {q p : Addr} (h : frzAt F H p q ≠ none) : q = p ∨ F q ≠ none := by
  unfold frzAt at h
  split at h
  · next z => exact .inl z
  · exact .inr h
theorem Grow.frz (g : Grow F B H F' B' H') {p : Addr} (n : H p = none) : Grow F B H (frzAt F' H' p) (frzAt B' H' p) H' :=
  ⟨g.f.trans (frz_same g.hs.fh p), g.b.trans (frz_same g.hs.bh p), g.h, g.hs.frz p, fun q h1 h2 => by
    rcases frz_ne h2 with z | z
    · subst z; exact absurd n h1
    · exact g.newF q h1 z, fun q h1 h2 => by
    rcases frz_ne h2 with z | z
    · subst z; exact absurd n h1
    · exact g.newB q h1 z⟩
theorem frz_at {p : Addr} {o : HO} (e : H p = some o) : frzAt F H p p = some o := by unfold frzAt; rw [if_pos rfl]; exact e
theorem OwnRep.frz (f : Same F H) {p : Addr} : ∀ {d : D}, OwnRep K F H p d → Rep K (frzAt F H p) d (.ref p)
  | .lst _, ⟨vs, e, r⟩ => .lst (frz_at e) (r.mono (frz_same f p))
  | .dK _, ⟨vs, e, r⟩ => .dK (frz_at e) (r.mono (frz_same f p))
  | .dT _, ⟨vs, e, r⟩ => .dT (frz_at e) (r.mono (frz_same f p))
  | .obj _ _, ⟨dx, vs, e, r⟩ => .obj (frz_at e) (r.mono (frz_same f p))
end
def tEv (K : PySem.W.Frag) (env : DEnv) (d : D) (k : Kd) : TE := fun σ H Q => ∃ F B, EnvE K F B H env σ ∧ ∀ v H' F' B', Grow F B H F' B' H' → RepK K F' B' H H' k d v → Q v H'
structure Ev (X : Cx) (env : DEnv) (e : Expr) (d : D) (k : Kd) : Prop where
  pe : PE X e (tEv X.K env d k)
def tEt (K : PySem.W.Frag) (env : DEnv) (b : Bool) : TT := fun σ H Q => ∃ F B, EnvE K F B H env σ ∧ ∀ H' F' B', Grow F B H F' B' H' → Q b H'
structure Et (X : Cx) (env : DEnv) (e : Expr) (b : Bool) : Prop where
  pt : PT X e (tEt X.K env b)
def repsK (K : PySem.W.Frag) (F B H : Hp) : Kd → List D → List V → Prop
  | .brw, ds, vs => Reps K B ds vs
  | .drt, ds, vs => Reps K H ds vs
  | _, ds, vs => Reps K F ds vs
def tEA (K : PySem.W.Frag) (env : DEnv) (ds : List D) (k : Kd) : TA := fun σ H Q => ∃ F B, EnvE K F B H env σ ∧ ∀ vs H' F' B', Grow F B H F' B' H' → repsK K F' B' H' k ds vs → Q vs H'
structure EA (X : Cx) (env : DEnv) (es : List Expr) (ds : List D) (k : Kd) : Prop where
  pa : PA X es (tEA X.K env ds k)
theorem _root_.L2.PE.mono {X : Cx} {e : Expr} {t t' : TE} (h : PE X e t) (m : ∀ σ H Q, t' σ H Q → t σ H Q) : PE X e t' := ⟨fun pins s σ H Q I q => h.run pins s σ H Q I (m σ H Q q)⟩
theorem _root_.L2.PT.mono {X : Cx} {e : Expr} {t t' : TT} (h : PT X e t) (m : ∀ σ H Q, t' σ H Q → t σ H Q) : PT X e t' := ⟨fun pins s σ H Q I q => h.run pins s σ H Q I (m σ H Q q)⟩
theorem _root_.L2.PW.mono {X : Cx} {e : Expr} {t t' : TT} (h : PW X e t) (m : ∀ σ H Q, t' σ H Q → t σ H Q) : PW X e t' := ⟨fun wh pins s σ H Q I q => h.run wh pins s σ H Q I (m σ H Q q)⟩
theorem _root_.L2.PA.mono {X : Cx} {e : List Expr} {t t' : TA} (h : PA X e t) (m : ∀ σ H Q, t' σ H Q → t σ H Q) : PA X e t' := ⟨fun pos pins s σ H Q I q => h.run pos pins s σ H Q I (m σ H Q q)⟩
theorem _root_.L2.PS.mono {X : Cx} {e : Stmt} {t t' : TS} (h : PS X e t) (m : ∀ D σ H, t' D σ H → t D σ H) : PS X e t' := ⟨fun pins s σ H D I q => h.run pins s σ H D I (m D σ H q)⟩
theorem _root_.L2.PSs.mono {X : Cx} {e : List Stmt} {t t' : TS} (h : PSs X e t) (m : ∀ D σ H, t' D σ H → t D σ H) : PSs X e t' := ⟨fun pins s σ H D I q => h.run pins s σ H D I (m D σ H q)⟩
section
variable {X : Cx} {env : DEnv} {e a b c : Expr} {d x y z : D} {k k1 k2 k3 : Kd} {pos : Pos}
theorem Ev.drt (h : Ev X env e d k) : Ev X env e d .drt := ⟨h.pe.mono fun σ H Q ⟨F, B, E, q⟩ => ⟨F, B, E, fun v H' F' B' g r => q v H' F' B' g (r.rep g.hs)⟩⟩
theorem Ev.own_cln (h : Ev X env e d .own) : Ev X env e d .cln := ⟨h.pe.mono fun σ H Q ⟨F, B, E, q⟩ => ⟨F, B, E, fun v H' F' B' g ⟨p, e1, n0, n1, r⟩ => by
  subst e1
  exact q _ H' _ _ (g.frz n0) (r.frz g.hs.fh)⟩⟩
theorem Ev.cln_shl (h : Ev X env e d .cln) : Ev X env e d .shl := ⟨h.pe.mono fun σ H Q ⟨F, B, E, q⟩ => ⟨F, B, E, fun v H' F' B' g r => q v H' F' B' g (Rep.shl g.hs.fh r)⟩⟩
theorem Ev.cln_brw (h : Ev X env e d .cln) : Ev X env e d .brw := ⟨h.pe.mono fun σ H Q ⟨F, B, E, q⟩ => ⟨F, B, E, fun v H' F' B' g r => q v H' F' B' g (Rep.mono g.hs.fb r)⟩⟩
theorem Ev.imm (h : Ev X env e d k) (i : d.imm = true) : Ev X env e d .cln := ⟨h.drt.pe.mono fun σ H Q ⟨F, B, E, q⟩ => ⟨F, B, E, fun v H' F' B' g r => q v H' F' B' g (Rep.immF g.hs.tup i r)⟩⟩
theorem Ev.scal (h : Ev X env e d k) (i : d.sc = true := by rfl) : Ev X env e d .cln := ⟨h.drt.pe.mono fun σ H Q ⟨F, B, E, q⟩ => ⟨F, B, E, fun v H' F' B' g r => q v H' F' B' g (Rep.scal i r)⟩⟩
def Kd.st : Kd → Kd
  | .drt => .drt | .brw => .brw | _ => .shl
theorem Ev.st (h : Ev X env e d k) : Ev X env e d k.st := by
  cases k with
  | own => exact h.own_cln.cln_shl
  | cln => exact h.cln_shl
  | brw => exact h
  | shl => exact h
  | drt => exact h
def Kd.held : Kd → Kd
  | .own => .cln | .cln => .cln | .brw => .brw | _ => .drt
theorem Ev.held (h : Ev X env e d k) : Ev X env e d k.held := by
  cases k with
  | own => exact h.own_cln
  | cln => exact h
  | brw => exact h
  | shl => exact h.drt
  | drt => exact h
def heldOf (k : Kd) (d : D) : Kd := if d.sc then .cln else k.held
theorem Ev.heldOf (h : Ev X env e d k) : Ev X env e d (DL.heldOf k d) := by
  unfold DL.heldOf
  split
  · next i => exact h.scal i
  · exact h.held
def Kd.join : Kd → Kd → Kd
  | .cln, .cln => .cln | .cln, .brw => .brw | .brw, .cln => .brw | .brw, .brw => .brw | _, _ => .drt
def Kd.kid : Kd → Kd
  | .drt => .drt | .brw => .brw | _ => .cln
def Kd.new : Kd → Kd
  | .cln => .own | .own => .own | _ => .drt
end
section
variable {K : PySem.W.Frag} {F B H F' B' H' H0 : Hp} {d : D} {v : V}
theorem RepK.back {k : Kd} (e : Same H0 H) (r : RepK K F' B' H H' k d v) : RepK K F' B' H0 H' k d v := by
  cases k with
  | own => obtain ⟨p, e1, n, m, r⟩ := r; exact ⟨p, e1, e.free n, m, r⟩
  | _ => exact r
theorem RepK.growS {k : Kd} (g : Grow F B H F' B' H') (r : RepK K F B H0 H k.st d v) : RepK K F' B' H0 H' k.st d v := by
  cases k with
  | drt => exact Rep.mono g.h r
  | brw => exact Rep.mono g.b r
  | own => exact ShlRep.grow g.f g.h r
  | cln => exact ShlRep.grow g.f g.h r
  | shl => exact ShlRep.grow g.f g.h r
theorem RepK.any0 {k : Kd} {H1 : Hp} (r : RepK K F B H0 H k.st d v) : RepK K F B H1 H k.st d v := by
  cases k <;> exact r
abbrev RepS (K : PySem.W.Frag) (F B H : Hp) (k : Kd) (d : D) (v : V) : Prop := RepK K F B H H k.st d v
abbrev Fin (K : PySem.W.Frag) (F B H : Hp) (k : Kd) (z : D) (Q : VK) : Prop := ∀ w H' F' B', Grow F B H F' B' H' → RepK K F' B' H H' k z w → Q w H'
theorem RepK.scalR {k : Kd} (i : d.sc = true) (s : Hs F B H) (r : RepK K F B H0 H k d v) : Rep K F d v := Rep.scal i (r.rep s)
theorem repsK.grow {k : Kd} {ds : List D} {vs : List V} (g : Grow F B H F' B' H') (r : repsK K F B H k ds vs) : repsK K F' B' H' k ds vs := by
  cases k with
  | drt => exact Reps.mono g.h r
  | brw => exact Reps.mono g.b r
  | own => exact Reps.mono g.f r
  | cln => exact Reps.mono g.f r
  | shl => exact Reps.mono g.f r
theorem repsK.reps {k : Kd} {ds : List D} {vs : List V} (s : Hs F B H) (r : repsK K F B H k ds vs) : Reps K H ds vs := by
  cases k with
  | drt => exact r
  | brw => exact Reps.mono s.bh r
  | own => exact Reps.mono s.fh r
  | cln => exact Reps.mono s.fh r
  | shl => exact Reps.mono s.fh r
end
section
variable {X : Cx} {env : DEnv} {e a b c : Expr} {d x y z : D} {k k1 k2 k3 : Kd} {pos : Pos}
theorem two {r : R2} (ha : Ev X env a x k1) (hb : Ev X env b y k2)
    (hr : ∀ F B H v u Q, Hs F B H → RepS X.K F B H k1 x v → RepS X.K F B H k2 y u → Fin X.K F B H k z Q → r v u H Q) :
    ∀ σ H Q, tEv X.K env z k σ H Q → tOp r (tEv X.K env x k1.st) (tEv X.K env y k2.st) σ H Q := fun σ H Q ⟨F, B, E, q⟩ =>
  ⟨F, B, E, fun v H1 F1 B1 g1 r1 => ⟨F1, B1, E.grow g1, fun u H2 F2 B2 g2 r2 => hr F2 B2 H2 v u Q g2.hs (RepK.any0 (RepK.growS g2 r1)) (RepK.any0 r2) fun w H3 F3 B3 g3 r3 =>
    q w H3 F3 B3 ((g1.trans g2).trans g3) (RepK.back (g1.h.trans g2.h) r3)⟩⟩
theorem ev_op2 {op : Operator} {r : R2} (ho : OpR X (binaryOp op) r) (ha : Ev X env a x k1) (hb : Ev X env b y k2)
    (hr : ∀ F B H v u Q, Hs F B H → RepS X.K F B H k1 x v → RepS X.K F B H k2 y u → Fin X.K F B H k z Q → r v u H Q) : Ev X env (.BinOp a op b pos) z k :=
  ⟨(pe_op ho ha.st.pe hb.st.pe).mono (two ha hb hr)⟩
theorem ev_cmp2 {op : CmpOp} {r : R2} (ho : OpR X (compareOp op) r) (ha : Ev X env a x k1) (hb : Ev X env b y k2) (hm : behindInMarks op b = false)
    (hr : ∀ F B H v u Q, Hs F B H → RepS X.K F B H k1 x v → RepS X.K F B H k2 y u → Fin X.K F B H k z Q → r v u H Q) : Ev X env (.Compare a [op] [b] pos) z k :=
  ⟨(pe_cmpR ho ha.st.pe hb.st.pe hm).mono (two ha hb hr)⟩
theorem et_cmp2 {op : CmpOp} {r : R2} {t : Bool} (ho : OpR X (compareOp op) r) (ha : Ev X env a x k1) (hb : Ev X env b y k2) (hm : behindInMarks op b = false)
    (hr : ∀ F B H v u Q, Hs F B H → RepS X.K F B H k1 x v → RepS X.K F B H k2 y u → Fin X.K F B H .cln (.bl t) Q → r v u H Q) : Et X env (.Compare a [op] [b] pos) t :=
  ⟨(pt_cmpR ho ha.st.pe hb.st.pe hm).mono fun σ H Q ⟨F, B, E, q⟩ => two (z := .bl t) (k := .cln) ha hb hr σ H _ ⟨F, B, E, fun w H' F' B' g r => by
    cases (show Rep X.K F' (.bl t) w from r) with
    | bl => exact ⟨t, rfl, q H' F' B' g⟩⟩⟩
theorem one_te {r : V → Hp → VK → Prop} {te : TE → TE} (hte : ∀ t σ H Q, (t σ H fun x H1 => r x H1 Q) → te t σ H Q) (ha : Ev X env a x k1)
    (hr : ∀ F B H v Q, Hs F B H → RepS X.K F B H k1 x v → Fin X.K F B H k z Q → r v H Q) : ∀ σ H Q, tEv X.K env z k σ H Q → te (tEv X.K env x k1.st) σ H Q := fun σ H Q ⟨F, B, E, q⟩ =>
  hte _ σ H Q ⟨F, B, E, fun v H1 F1 B1 g1 r1 => hr F1 B1 H1 v Q g1.hs (RepK.any0 r1) fun w H3 F3 B3 g3 r3 => q w H3 F3 B3 (g1.trans g3) (RepK.back g1.h r3)⟩
section
variable {K : PySem.W.Frag} {F B H : Hp} {Q : VK} {v w : V} {ds : List D} {i : Int} {t : Bool} {s : Str}
theorem Fin.sc (hs : Hs F B H) (q : Fin K F B H .cln z Q) (r : Rep K F z w) : Q w H := q w H F B (.refl hs) r
theorem fin_int (hs : Hs F B H) (q : Fin K F B H .cln (.int i) Q) : Q (.int i) H := q.sc hs (.int i)
theorem fin_bl (hs : Hs F B H) (q : Fin K F B H .cln (.bl t) Q) : Q (.bl t) H := q.sc hs (.bl t)
theorem fin_str (hs : Hs F B H) (q : Fin K F B H .cln (.str s) Q) : Q (.str s) H := q.sc hs (.str s)
theorem fin_non (hs : Hs F B H) (q : Fin K F B H .cln .non Q) : Q .non H := q.sc hs .non
theorem RepS.int (hs : Hs F B H) (r : RepS K F B H k (.int i) v) : v = .int i := by
  cases (RepK.scalR rfl hs r) with
  | int => rfl
theorem RepS.bl (hs : Hs F B H) (r : RepS K F B H k (.bl t) v) : v = .bl t := by
  cases (RepK.scalR rfl hs r) with
  | bl => rfl
theorem RepS.str (hs : Hs F B H) (r : RepS K F B H k (.str s) v) : v = .str s := by
  cases (RepK.scalR rfl hs r) with
  | str => rfl
theorem RepS.non (hs : Hs F B H) (r : RepS K F B H k .non v) : v = .non := by
  cases (RepK.scalR rfl hs r) with
  | non => rfl
theorem RepS.lst (hs : Hs F B H) (r : RepS K F B H k (.lst ds) v) : ∃ a vs, v = .ref a ∧ H a = some (.lst vs) ∧ repsK K F B H k.kid ds vs := by
  cases k with
  | drt => cases (show Rep K H (.lst ds) v from r) with
    | lst s t => exact ⟨_, _, rfl, s, t⟩
  | brw => cases (show Rep K B (.lst ds) v from r) with
    | lst s t => exact ⟨_, _, rfl, hs.bh _ _ s, t⟩
  | own => exact r
  | cln => exact r
  | shl => exact r
theorem RepS.tup (hs : Hs F B H) (r : RepS K F B H k (.tup ds) v) : ∃ a vs, v = .ref a ∧ SqT K H a vs ∧ repsK K F B H k.kid ds vs := by
  have h : ∀ {B : Hp}, Rep K B (.tup ds) v → ∃ a vs, v = .ref a ∧ SqT K B a vs ∧ Reps K B ds vs := fun r => by
    cases r with
    | tup s t => exact ⟨_, _, rfl, s, t⟩
  cases k with
  | drt => exact h r
  | brw => obtain ⟨a, vs, e, s, t⟩ := h (show Rep K B (.tup ds) v from r); exact ⟨a, vs, e, Same.seqT hs.bh s, t⟩
  | own => obtain ⟨a, vs, e, s, t⟩ := h (show Rep K F (.tup ds) v from r); exact ⟨a, vs, e, Same.seqT hs.fh s, t⟩
  | cln => obtain ⟨a, vs, e, s, t⟩ := h (show Rep K F (.tup ds) v from r); exact ⟨a, vs, e, Same.seqT hs.fh s, t⟩
  | shl => obtain ⟨a, vs, e, s, t⟩ := h (show Rep K F (.tup ds) v from r); exact ⟨a, vs, e, Same.seqT hs.fh s, t⟩
theorem RepS.scr {ns : List Int} (hs : Hs F B H) (r : RepS K F B H k (.scr ns) v) : ∃ a, v = .ref a ∧ SqL K H a (ns.map V.int) := by
  cases (show Rep K H (.scr ns) v from RepK.rep hs r) with
  | scr s => exact ⟨_, rfl, s⟩
theorem repsK.get {kk : Kd} {vs : List V} {j : Nat} (h : kk = .cln ∨ kk = .brw ∨ kk = .drt) (r : repsK K F B H kk ds vs) (e : ds[j]? = some d) : ∃ u, vs[j]? = some u ∧ RepK K F B H H kk d u := by
  rcases h with h | h | h <;> subst h
  · exact Reps.get r e
  · exact Reps.get r e
  · exact Reps.get r e
end
theorem kid_cases (k : Kd) : k.kid = .cln ∨ k.kid = .brw ∨ k.kid = .drt := by cases k <;> simp [Kd.kid]
end
end DL
namespace DL
open PySem PySem.Spec L2
open PyProof.Rows hiding St
section
variable {K : PySem.W.Frag} {F B H : Hp} {p : Addr} {o : HO}
theorem same_upd (n : H p = none) : Same H (upd H p o) := fun b u e => by rw [upd_ne (ne_of_none e n)]; exact e
theorem Same.none {H H' : Hp} (s : Same H H') {p : Addr} (n : H' p = none) : H p = none := s.free n
theorem upd_same2 {F H : Hp} (f : Same F H) (n : H p = none) : Same F (upd H p o) := f.trans (same_upd n)
theorem upd_two {F H : Hp} (f : Same F H) : Same (upd F p o) (upd H p o) := fun b u e => by
  unfold upd at e ⊢
  split at e
  · next z => rw [if_pos z]; exact e
  · next z => rw [if_neg z]; exact f _ _ e
theorem ne_upd {q : Addr} (h : upd H p o q ≠ none) : q = p ∨ H q ≠ none := by
  unfold upd at h
  split at h
  · next z => exact .inl z
  · exact .inr h
def notTup : HO → Bool
  | .tup _ => false | .frz _ _ => false | _ => true
theorem tup_upd (t : TupOk F H) (n : H p = none) (nt : notTup o = true) : TupOk F (upd H p o) := fun a xs h => by
  have h' : Rd H a (.tup xs) := by
    rcases h with h | ⟨u, h⟩
    · by_cases z : a = p
      · subst z; rw [upd_same] at h; cases h; cases nt
      · rw [upd_ne z] at h; exact .inl h
    · by_cases z : a = p
      · subst z; rw [upd_same] at h; cases h; cases nt
      · rw [upd_ne z] at h; exact .inr ⟨u, h⟩
  exact t a xs h'
theorem grow_own (s : Hs F B H) (n : H p = none) (nt : notTup o = true) : Grow F B H F B (upd H p o) :=
  ⟨.refl _, .refl _, same_upd n, ⟨s.fb, upd_same2 s.bh n, tup_upd s.tup n nt⟩, fun _ _ h => h, fun _ _ h => h⟩
theorem grow_brw (s : Hs F B H) (n : H p = none) (nt : notTup o = true) : Grow F B H F (upd B p o) (upd H p o) :=
  ⟨.refl _, same_upd (s.bh.free n), same_upd n, ⟨upd_same2 s.fb (s.bh.free n), upd_two s.bh, tup_upd s.tup n nt⟩, fun _ _ h => h, fun q h1 h2 => by
    rcases ne_upd h2 with z | z
    · subst z; exact absurd n h1
    · exact z⟩
theorem grow_cln (s : Hs F B H) (n : H p = none) : Grow F B H (upd F p o) (upd B p o) (upd H p o) :=
  ⟨same_upd (s.fh.free n), same_upd (s.bh.free n), same_upd n, ⟨upd_two s.fb, upd_two s.bh, fun a xs h => by
    by_cases z : a = p
    · subst z
      rcases h with h | ⟨u, h⟩
      · rw [upd_same] at h; cases h; exact .inl upd_same
      · rw [upd_same] at h; cases h; exact .inr ⟨u, upd_same⟩
    · have h' : Rd H a (.tup xs) := by
        rcases h with h | ⟨u, h⟩
        · rw [upd_ne z] at h; exact .inl h
        · rw [upd_ne z] at h; exact .inr ⟨u, h⟩
      exact Same.rd (same_upd (s.fh.free n)) (s.tup a xs h')⟩, fun q h1 h2 => by
    rcases ne_upd h2 with z | z
    · subst z; exact absurd n h1
    · exact z, fun q h1 h2 => by
    rcases ne_upd h2 with z | z
    · subst z; exact absurd n h1
    · exact z⟩
theorem new_lst {kk : Kd} {ds : List D} {vs : List V} {Q : VK} (hk : kk = .cln ∨ kk = .brw ∨ kk = .drt) (s : Hs F B H) (r : repsK K F B H kk ds vs) (q : Fin K F B H (if kk = .brw then .brw else kk.new) (.lst ds) Q) :
    ∀ p, H p = none → Q (.ref p) (upd H p (.lst vs)) := fun p n => by
  rcases hk with h | h | h <;> subst h
  · exact q (.ref p) _ _ _ (grow_own s n rfl) ⟨p, rfl, n, s.bh.free n, vs, upd_same, r⟩
  · exact q (.ref p) _ _ _ (grow_brw s n rfl) (Rep.lst upd_same (Reps.mono (same_upd (s.bh.free n)) r))
  · exact q (.ref p) _ _ _ (grow_own s n rfl) (Rep.lst upd_same (Reps.mono (same_upd n) r))
theorem new_tup {kk : Kd} {ds : List D} {vs : List V} {Q : VK} (hk : kk = .cln ∨ kk = .brw ∨ kk = .drt) (s : Hs F B H) (r : repsK K F B H kk ds vs) (q : Fin K F B H kk (.tup ds) Q) :
    ∀ p, H p = none → Q (.ref p) (upd H p (.tup vs)) := fun p n => by
  have g := grow_cln (o := .tup vs) s n
  rcases hk with h | h | h <;> subst h
  · exact q (.ref p) _ _ _ g (Rep.tup (SqT.of upd_same) (Reps.mono g.f r))
  · exact q (.ref p) _ _ _ g (Rep.tup (SqT.of upd_same) (Reps.mono g.b r))
  · exact q (.ref p) _ _ _ g (Rep.tup (SqT.of upd_same) (Reps.mono g.h r))
end
def Kd.mk : Kd → Kd
  | .cln => .own | .brw => .brw | _ => .drt
theorem mk_eq {k : Kd} (h : k = .cln ∨ k = .brw ∨ k = .drt) : (if k = .brw then Kd.brw else k.new) = k.mk := by
  rcases h with h | h | h <;> subst h <;> rfl
section
variable {X : Cx} {env : DEnv} {e a b c : Expr} {es : List Expr} {d x y z : D} {k k1 k2 k3 kz : Kd} {pos : Pos} {ds : List D}
theorem ev_nameO (i : Nat) {n : Str} (hN : X.N[i]? = some n) (hv : Vis X.env.scope n) (he : env[i]? = some (some (.own d))) (hd : (n == ("__debug__" : Str)) = false) (hcd : (n == ("__classdict__" : Str)) = false) : Ev X env (.Name n pos) d .shl :=
  ⟨(pe_var hN hv hd hcd).mono fun σ H Q ⟨F, B, E, q⟩ => by
    obtain ⟨v, h1, p, e1, r⟩ := E.at_ i _ he
    subst e1
    exact ⟨_, h1, q _ H F B (.refl E.hs) r.shl⟩⟩
theorem ev_nameF (i : Nat) {n : Str} (hN : X.N[i]? = some n) (hv : Vis X.env.scope n) (he : env[i]? = some (some (.frz d))) (hd : (n == ("__debug__" : Str)) = false) (hcd : (n == ("__classdict__" : Str)) = false) : Ev X env (.Name n pos) d .cln :=
  ⟨(pe_var hN hv hd hcd).mono fun σ H Q ⟨F, B, E, q⟩ => by
    obtain ⟨v, h1, r⟩ := E.at_ i _ he
    exact ⟨_, h1, q _ H F B (.refl E.hs) r⟩⟩
theorem ev_nameB (i : Nat) {n : Str} (hN : X.N[i]? = some n) (hv : Vis X.env.scope n) (he : env[i]? = some (some (.bor d))) (hd : (n == ("__debug__" : Str)) = false) (hcd : (n == ("__classdict__" : Str)) = false) : Ev X env (.Name n pos) d .brw :=
  ⟨(pe_var hN hv hd hcd).mono fun σ H Q ⟨F, B, E, q⟩ => by
    obtain ⟨v, h1, r⟩ := E.at_ i _ he
    exact ⟨_, h1, q _ H F B (.refl E.hs) r⟩⟩
theorem ev_C {v : V} (h : PE X e (tC v)) (r : ∀ B : Hp, Rep X.K B d v) : Ev X env e d .cln := ⟨h.mono fun σ H Q ⟨F, B, E, q⟩ => q v H F B (.refl E.hs) (r F)⟩
theorem ev_int {i j pos} : Ev X env (.Constant (.int i) j pos) (.int i) .cln := ev_C pe_int fun _ => .int i
theorem ev_bl {b j pos} : Ev X env (.Constant (.bool b) j pos) (.bl b) .cln := ev_C pe_bl fun _ => .bl b
theorem ev_non {j pos} : Ev X env (.Constant .none j pos) .non .cln := ev_C pe_non fun _ => .non
theorem ev_str {x j pos} : Ev X env (.Constant (.str x) j pos) (.str x) .cln := ev_C pe_str fun _ => .str x
theorem ev_globI {n : Str} {i : Int} {t : Tok} (hg : Gl X n) (hm : X.mg n = some (.int i t)) (hd : (n == ("__debug__" : Str)) = false) : Ev X env (.Name n pos) (.int i) .cln := ev_C (pe_glob (v := .int i) hg hm ⟨t, rfl⟩ hd) fun _ => .int i
theorem ev_globS {n s : Str} {t : Tok} (hg : Gl X n) (hm : X.mg n = some (.str s t)) (hd : (n == ("__debug__" : Str)) = false) : Ev X env (.Name n pos) (.str s) .cln := ev_C (pe_glob (v := .str s) hg hm ⟨t, rfl⟩ hd) fun _ => .str s
theorem ea_nil : EA X env [] [] .cln := ⟨pa_nil.mono fun σ H Q ⟨F, B, E, q⟩ => q [] H F B (.refl E.hs) .nil⟩
theorem held_cases (k : Kd) (d : D) : heldOf k d = .cln ∨ heldOf k d = .brw ∨ heldOf k d = .drt := by
  unfold heldOf
  split
  · exact .inl rfl
  · cases k <;> simp [Kd.held]
theorem join_cases (a b : Kd) : a.join b = .cln ∨ a.join b = .brw ∨ a.join b = .drt := by cases a <;> cases b <;> simp [Kd.join]
theorem repsK.up {K : PySem.W.Frag} {F B H : Hp} {vs : List V} (hs : Hs F B H) {k j : Kd} (hk : k = .cln ∨ k = .brw ∨ k = .drt) (hj : j = .cln ∨ j = .brw ∨ j = .drt) (r : repsK K F B H k ds vs) : repsK K F B H (k.join j) ds vs := by
  rcases hk with h | h | h <;> subst h <;> rcases hj with h | h | h <;> subst h
  · exact r
  · exact Reps.mono hs.fb r
  · exact Reps.mono hs.fh r
  · exact r
  · exact r
  · exact Reps.mono hs.bh r
  · exact r
  · exact r
  · exact r
theorem join_comm (a b : Kd) : a.join b = b.join a := by cases a <;> cases b <;> rfl
theorem repK_one {K : PySem.W.Frag} {F B H H0 : Hp} {v : V} {k : Kd} (hk : k = .cln ∨ k = .brw ∨ k = .drt) (r : RepK K F B H0 H k d v) : repsK K F B H k [d] [v] := by
  rcases hk with h | h | h <;> subst h <;> exact .one r
theorem repsK_cons {K : PySem.W.Frag} {F B H : Hp} {v : V} {vs : List V} {k : Kd} (hk : k = .cln ∨ k = .brw ∨ k = .drt) (r : repsK K F B H k [d] [v]) (t : repsK K F B H k ds vs) : repsK K F B H k (d :: ds) (v :: vs) := by
  have f : ∀ {B : Hp}, Reps K B [d] [v] → Reps K B ds vs → Reps K B (d :: ds) (v :: vs) := fun r t => by cases r with | cons r _ => exact .cons r t
  rcases hk with h | h | h <;> subst h <;> exact f r t
theorem ea_cons (ha : Ev X env a d k1) (hr : EA X env es ds k2) (h2 : k2 = .cln ∨ k2 = .brw ∨ k2 = .drt) (hs : starEach (a :: es) X.env = (false, eval a X.env) :: starEach es X.env) : EA X env (a :: es) (d :: ds) ((heldOf k1 d).join k2) :=
  ⟨(pa_cons ha.heldOf.pe hr.pa hs).mono fun σ H Q ⟨F, B, E, q⟩ => ⟨F, B, E, fun v H1 F1 B1 g1 r1 => ⟨F1, B1, E.grow g1, fun vs H2 F2 B2 g2 r2 => by
    have h1 := held_cases k1 d
    refine q _ _ _ _ (g1.trans g2) (repsK_cons (join_cases _ _) (repsK.up g2.hs h1 h2 (repsK.grow g2 (repK_one h1 r1))) ?_)
    rw [join_comm]
    exact repsK.up g2.hs h2 h1 r2⟩⟩⟩
theorem ea_cases (k1 k2 : Kd) (d : D) : (heldOf k1 d).join k2 = .cln ∨ (heldOf k1 d).join k2 = .brw ∨ (heldOf k1 d).join k2 = .drt := join_cases _ _
theorem repsK.len {K : PySem.W.Frag} {F B H : Hp} {vs : List V} {k : Kd} (r : repsK K F B H k ds vs) : vs.length = ds.length := by
  cases k <;> exact Reps.length r
theorem ev_list (h : EA X env es ds k) (hk : k = .cln ∨ k = .brw ∨ k = .drt) (hz : ds.length ≤ sizeLine) : Ev X env (.List es pos) (.lst ds) k.mk :=
  ⟨(pe_lst h.pa).mono fun σ H Q ⟨F, B, E, q⟩ => ⟨F, B, E, fun vs H1 F1 B1 g r => ⟨by rw [r.len]; exact hz, new_lst hk g.hs r fun w H2 F2 B2 g2 r2 => q w H2 F2 B2 (g.trans g2) (RepK.back g.h (by rw [mk_eq hk] at r2; exact r2))⟩⟩⟩
theorem ev_tup {x1} (h : EA X env es ds k) (hk : k = .cln ∨ k = .brw ∨ k = .drt) (hz : ds.length ≤ sizeLine) : Ev X env (.Tuple es x1 pos) (.tup ds) k :=
  ⟨(pe_tup h.pa).mono fun σ H Q ⟨F, B, E, q⟩ => ⟨F, B, E, fun vs H1 F1 B1 g r => ⟨by rw [r.len]; exact hz, new_tup hk g.hs r fun w H2 F2 B2 g2 r2 => q w H2 F2 B2 (g.trans g2) (RepK.back g.h r2)⟩⟩⟩
theorem two_pa (ha : Ev X env a x k1) (hb : Ev X env b y k2) {r : List V → Hp → VK → Prop}
    (hr : ∀ F B H v u Q, Hs F B H → RepS X.K F B H k1 x v → RepS X.K F B H k2 y u → Fin X.K F B H kz z Q → r [v, u] H Q) :
    ∀ σ H Q, tEv X.K env z kz σ H Q → tCB r (tCons (tEv X.K env x k1.st) (tCons (tEv X.K env y k2.st) tNil)) σ H Q := fun σ H Q ⟨F, B, E, q⟩ =>
  ⟨F, B, E, fun v H1 F1 B1 g1 r1 => ⟨F1, B1, E.grow g1, fun u H2 F2 B2 g2 r2 => hr F2 B2 H2 v u Q g2.hs (RepK.any0 (RepK.growS g2 r1)) (RepK.any0 r2) fun w H3 F3 B3 g3 r3 =>
    q w H3 F3 B3 ((g1.trans g2).trans g3) (RepK.back (g1.h.trans g2.h) r3)⟩⟩
theorem one_pa (ha : Ev X env a x k1) {r : List V → Hp → VK → Prop}
    (hr : ∀ F B H v Q, Hs F B H → RepS X.K F B H k1 x v → Fin X.K F B H kz z Q → r [v] H Q) :
    ∀ σ H Q, tEv X.K env z kz σ H Q → tCB r (tCons (tEv X.K env x k1.st) tNil) σ H Q := fun σ H Q ⟨F, B, E, q⟩ =>
  ⟨F, B, E, fun v H1 F1 B1 g1 r1 => hr F1 B1 H1 v Q g1.hs (RepK.any0 r1) fun w H3 F3 B3 g3 r3 => q w H3 F3 B3 (g1.trans g3) (RepK.back g1.h r3)⟩
structure Bn (X : Cx) (n : Str) (u : Value) : Prop where
  gl : Gl X n
  mg : X.mg n = none
  bt : bootBuiltins n = some u
  nn : n ≠ "__name__"
  db : (n == ("__debug__" : Str)) = false
theorem ev_call1 {n : Str} {id : String} {r : List V → Hp → VK → Prop} {p : Pos} (hc : CallR X (.builtin id) r) (bn : Bn X n (.builtin id)) (ha : Ev X env a x k1)
    (hr : ∀ F B H v Q, Hs F B H → RepS X.K F B H k1 x v → Fin X.K F B H kz z Q → r [v] H Q) (he : starEach [a] X.env = [(false, eval a X.env)]) : Ev X env (.Call (.Name n p) [a] [] pos) z kz :=
  ⟨(pe_callB hc bn.gl bn.mg bn.bt (pa_cons ha.st.pe pa_nil he) bn.nn bn.db he rfl).mono (one_pa ha hr)⟩
theorem ev_call2 {n : Str} {id : String} {r : List V → Hp → VK → Prop} {p : Pos} (hc : CallR X (.builtin id) r) (bn : Bn X n (.builtin id)) (ha : Ev X env a x k1) (hb : Ev X env b y k2)
    (hr : ∀ F B H v u Q, Hs F B H → RepS X.K F B H k1 x v → RepS X.K F B H k2 y u → Fin X.K F B H kz z Q → r [v, u] H Q) (he : starEach [a, b] X.env = [(false, eval a X.env), (false, eval b X.env)]) (hb' : starEach [b] X.env = [(false, eval b X.env)]) : Ev X env (.Call (.Name n p) [a, b] [] pos) z kz :=
  ⟨(pe_callB hc bn.gl bn.mg bn.bt (pa_cons ha.st.pe (pa_cons hb.st.pe pa_nil hb') (he.trans (by rw [hb']))) bn.nn bn.db (he.trans (by rw [hb'])) (by rw [hb']; rfl)).mono (two_pa ha hb hr)⟩
theorem ev_callT1 {n : Str} {T : String} {r : List V → Hp → VK → Prop} {p : Pos} (hc : CallR X (.type T) r) (bn : Bn X n (.type T)) (ha : Ev X env a x k1)
    (hr : ∀ F B H v Q, Hs F B H → RepS X.K F B H k1 x v → Fin X.K F B H kz z Q → r [v] H Q) (he : starEach [a] X.env = [(false, eval a X.env)]) : Ev X env (.Call (.Name n p) [a] [] pos) z kz :=
  ⟨(pe_callTy hc bn.gl bn.mg bn.bt (pa_cons ha.st.pe pa_nil he) bn.nn bn.db he rfl).mono (one_pa ha hr)⟩
end
end DL
namespace DL
open PySem PySem.Spec L2
open PyProof.Rows hiding St
section
variable {K : PySem.W.Frag} {B F H : Hp} {k : Kd}
theorem reps_ints : ∀ {ns : List Int} {vs : List V}, Reps K B (ns.map D.int) vs → vs = ns.map V.int
  | [], _, .nil => rfl
  | n :: ns, _, .cons r t => by
    cases r with
    | int => rw [reps_ints t]; rfl
theorem reps_strs : ∀ {ns : List Str} {vs : List V}, Reps K B (ns.map D.str) vs → vs = ns.map V.str
  | [], _, .nil => rfl
  | n :: ns, _, .cons r t => by
    cases r with
    | str => rw [reps_strs t]; rfl
theorem reps_bls : ∀ {ns : List Bool} {vs : List V}, Reps K B (ns.map D.bl) vs → vs = ns.map V.bl
  | [], _, .nil => rfl
  | n :: ns, _, .cons r t => by
    cases r with
    | bl => rw [reps_bls t]; rfl
theorem ints_reps : ∀ (ns : List Int), Reps K B (ns.map D.int) (ns.map V.int)
  | [] => .nil
  | n :: ns => .cons (.int n) (ints_reps ns)
theorem strs_reps : ∀ (ns : List Str), Reps K B (ns.map D.str) (ns.map V.str)
  | [] => .nil
  | n :: ns => .cons (.str n) (strs_reps ns)
end
section
variable {X : Cx} {env : DEnv} {e a b c : Expr} {k1 k2 k3 : Kd} {pos : Pos} {i j : Int} {s t : Str} {p q : Bool}
theorem ev_add (ha : Ev X env a (.int i) k1) (hb : Ev X env b (.int j) k2) : Ev X env (.BinOp a .Add b pos) (.int (i + j)) .cln :=
  ev_op2 op_add ha hb fun F B H v u Q hs r1 r2 q => ⟨i, j, r1.int hs, r2.int hs, fin_int hs q⟩
theorem ev_sub (ha : Ev X env a (.int i) k1) (hb : Ev X env b (.int j) k2) : Ev X env (.BinOp a .Sub b pos) (.int (i - j)) .cln :=
  ev_op2 op_sub ha hb fun F B H v u Q hs r1 r2 q => ⟨i, j, r1.int hs, r2.int hs, fin_int hs q⟩
theorem ev_mul (ha : Ev X env a (.int i) k1) (hb : Ev X env b (.int j) k2) (h : CMul i j) : Ev X env (.BinOp a .Mult b pos) (.int (i * j)) .cln :=
  ev_op2 op_mul ha hb fun F B H v u Q hs r1 r2 q => ⟨i, j, r1.int hs, r2.int hs, h, fin_int hs q⟩
theorem ev_fdiv (ha : Ev X env a (.int i) k1) (hb : Ev X env b (.int j) k2) (h : CDiv i j) : Ev X env (.BinOp a .FloorDiv b pos) (.int (i / j)) .cln :=
  ev_op2 op_fdiv ha hb fun F B H v u Q hs r1 r2 q => ⟨i, j, r1.int hs, r2.int hs, h, fin_int hs q⟩
theorem ev_mod (ha : Ev X env a (.int i) k1) (hb : Ev X env b (.int j) k2) (h : 0 < j) : Ev X env (.BinOp a .Mod b pos) (.int (i % j)) .cln :=
  ev_op2 op_mod ha hb fun F B H v u Q hs r1 r2 q => ⟨i, j, r1.int hs, r2.int hs, h, fin_int hs q⟩
theorem ev_pow (ha : Ev X env a (.int i) k1) (hb : Ev X env b (.int j) k2) (h : CPow i j) : Ev X env (.BinOp a .Pow b pos) (.int (i ^ j.toNat)) .cln :=
  ev_op2 op_pow ha hb fun F B H v u Q hs r1 r2 q => ⟨i, j, r1.int hs, r2.int hs, h, fin_int hs q⟩
theorem ev_addS (ha : Ev X env a (.str s) k1) (hb : Ev X env b (.str t) k2) (h : s.length + t.length ≤ sizeLine) : Ev X env (.BinOp a .Add b pos) (.str (s ++ t)) .cln :=
  ev_op2 op_add_str ha hb fun F B H v u Q hs r1 r2 q => ⟨s, t, r1.str hs, r2.str hs, h, fin_str hs q⟩
theorem ev_neg (ha : Ev X env a (.int i) k1) : Ev X env (.UnaryOp .USub a pos) (.int (-i)) .cln :=
  ⟨(pe_un un_neg ha.st.pe).mono (one_te (te := tUn _) (fun _ _ _ _ h => h) ha fun F B H v Q hs r1 q => ⟨i, r1.int hs, fin_int hs q⟩)⟩
end
inductive CmpI : CmpOp → Int → Int → Bool → Prop
  | lt {i j} : CmpI .Lt i j (decide (i < j))
  | le {i j} : CmpI .LtE i j (decide (i ≤ j))
  | gt {i j} : CmpI .Gt i j (decide (j < i))
  | ge {i j} : CmpI .GtE i j (decide (j ≤ i))
  | eq {i j} : CmpI .Eq i j (decide (i = j))
  | ne {i j} : CmpI .NotEq i j (!decide (i = j))
def rCI (op : CmpOp) : R2 := fun x y H Q => ∃ i j t, x = .int i ∧ y = .int j ∧ CmpI op i j t ∧ Q (.bl t) H
section
variable {X : Cx} {op : CmpOp}
theorem op_cI : OpR X (compareOp op) (rCI op) := by
  intro pins s σ H x y v u Q I rx ry h
  obtain ⟨i, j, t, rfl, rfl, c, q⟩ := h
  cases c with
  | lt => exact op_lt pins s σ H _ _ v u Q I rx ry ⟨i, j, rfl, rfl, q⟩
  | le => exact op_le pins s σ H _ _ v u Q I rx ry ⟨i, j, rfl, rfl, q⟩
  | gt => exact op_gt pins s σ H _ _ v u Q I rx ry ⟨i, j, rfl, rfl, q⟩
  | ge => exact op_ge pins s σ H _ _ v u Q I rx ry ⟨i, j, rfl, rfl, q⟩
  | eq => exact op_eq pins s σ H _ _ v u Q I rx ry ⟨rfl, by rw [show decide (V.int i = V.int j) = decide (i = j) by simp]; exact q⟩
  | ne => exact op_ne pins s σ H _ _ v u Q I rx ry ⟨rfl, by rw [show decide (V.int i = V.int j) = decide (i = j) by simp]; exact q⟩
theorem CmpI.nomark {i j : Int} {t : Bool} (c : CmpI op i j t) (b : Expr) : behindInMarks op b = false := by
  cases c <;> exact L2.nomark _
variable {env : DEnv} {a b c : Expr} {k1 k2 k3 : Kd} {pos : Pos} {i j l : Int} {s t : Str} {p q : Bool} {op2 : CmpOp}
theorem ev_cI (ha : Ev X env a (.int i) k1) (hb : Ev X env b (.int j) k2) (h : CmpI op i j p) : Ev X env (.Compare a [op] [b] pos) (.bl p) .cln :=
  ev_cmp2 op_cI ha hb (h.nomark b) fun F B H v u Q hs r1 r2 q => ⟨i, j, p, r1.int hs, r2.int hs, h, fin_bl hs q⟩
theorem et_cI (ha : Ev X env a (.int i) k1) (hb : Ev X env b (.int j) k2) (h : CmpI op i j p) : Et X env (.Compare a [op] [b] pos) p :=
  et_cmp2 op_cI ha hb (h.nomark b) fun F B H v u Q hs r1 r2 q => ⟨i, j, p, r1.int hs, r2.int hs, h, fin_bl hs q⟩
theorem three (ha : Ev X env a (.int i) k1) (hb : Ev X env b (.int j) k2) (hc : Ev X env c (.int l) k3) (h1 : CmpI op i j p) (h2 : CmpI op2 j l q) :
    ∀ σ H Q, tEv X.K env (.bl (p && q)) .cln σ H Q → tChain (rCI op) (rCI op2) (tEv X.K env (.int i) k1) (tEv X.K env (.int j) k2) (tEv X.K env (.int l) k3) σ H Q := fun σ H Q ⟨F, B, E, w⟩ =>
  ⟨F, B, E, fun v H1 F1 B1 g1 r1 => ⟨F1, B1, E.grow g1, fun u H2 F2 B2 g2 r2 => by
    cases (RepK.scalR rfl g1.hs r1)
    cases (RepK.scalR rfl g2.hs r2)
    refine ⟨i, j, p, rfl, rfl, h1, p, rfl, ?_⟩
    cases p with
    | false => rw [if_neg Bool.false_ne_true]; exact w _ _ _ _ (g1.trans g2) (.bl _)
    | true =>
      rw [if_pos rfl]
      refine ⟨F2, B2, (E.grow g1).grow g2, fun x H3 F3 B3 g3 r3 => ?_⟩
      cases (RepK.scalR rfl g3.hs r3)
      exact ⟨j, l, q, rfl, rfl, h2, w _ _ _ _ ((g1.trans g2).trans g3) (.bl _)⟩⟩⟩
theorem ev_chain (ha : Ev X env a (.int i) k1) (hb : Ev X env b (.int j) k2) (hc : Ev X env c (.int l) k3) (h1 : CmpI op i j p) (h2 : CmpI op2 j l q) (hm : lastMarks [op, op2] [b, c] = false) : Ev X env (.Compare a [op, op2] [b, c] pos) (.bl (p && q)) .cln :=
  ⟨(pe_chain op_cI op_cI ha.pe hb.pe hc.pe hm).mono (three ha hb hc h1 h2)⟩
theorem et_chain (ha : Ev X env a (.int i) k1) (hb : Ev X env b (.int j) k2) (hc : Ev X env c (.int l) k3) (h1 : CmpI op i j p) (h2 : CmpI op2 j l q) (hm : lastMarks [op, op2] [b, c] = false) : Et X env (.Compare a [op, op2] [b, c] pos) (p && q) :=
  ⟨(pt_chain op_cI op_cI ha.pe hb.pe hc.pe hm).mono fun σ H Q ⟨F, B, E, w⟩ => three ha hb hc h1 h2 σ H _ ⟨F, B, E, fun v H' F' B' g r => by
    cases (show Rep X.K F' (.bl (p && q)) v from r)
    exact ⟨_, rfl, w H' F' B' g⟩⟩⟩
end
mutual
def D.py : D → PyData
  | .non => .none | .bl b => .bool b | .int i => .int i | .str x => .str x
  | .lst xs => .list (D.pys xs) | .tup xs => .tuple (D.pys xs)
  | _ => .none
def D.pys : List D → List PyData
  | [] => []
  | d :: ds => D.py d :: D.pys ds
end
mutual
def D.pyo : D → Bool
  | .non => true | .bl _ => true | .int _ => true | .str x => PyData.strOk x
  | .lst xs => D.pyos xs | .tup xs => D.pyos xs
  | _ => false
def D.pyos : List D → Bool
  | [] => true
  | d :: ds => D.pyo d && D.pyos ds
end
section
variable {K : PySem.W.Frag} {H : Hp}
mutual
theorem Rep.dp : ∀ {d : D} {v : V}, d.pyo = true → Rep K H d v → Dp K H v d.py
  | _, _, _, .non => .non
  | _, _, _, .bl b => .bl b
  | _, _, _, .int b => .int b
  | _, _, _, .str b => .str b
  | .lst ds, _, i, .lst s r => .lst (SqL.of s) (Reps.dp i r)
  | .tup ds, _, i, .tup s r => .tup s (Reps.dp i r)
  | .dK _, _, i, .dK _ _ => nomatch i
  | .dT _, _, i, .dT _ _ => nomatch i
  | .obj _ _, _, i, .obj _ _ => nomatch i
  | .scr _, _, i, .scr _ => nomatch i
  | .adr _, _, i, .adr => nomatch i
theorem Reps.dp : ∀ {d : List D} {v : List V}, D.pyos d = true → Reps K H d v → DpAll K H v (D.pys d)
  | _, _, _, .nil => .nil
  | _ :: _, _, i, .cons r q => .cons (Rep.dp (Bool.and_eq_true_iff.mp i).1 r) (Reps.dp (Bool.and_eq_true_iff.mp i).2 q)
end
end
mutual
theorem D.canLay : ∀ {d : D}, d.pyo = true → d.py.canLay0 = true
  | .non, _ => rfl
  | .bl _, _ => rfl
  | .int _, _ => rfl
  | .str _, h => by show PyData.canLay0 (.str _) = true; rw [PyData.canLay0]; exact h
  | .lst ds, h => by show PyData.canLay0 (.list _) = true; rw [PyData.canLay0]; exact D.canLays h
  | .tup ds, h => by show PyData.canLay0 (.tuple _) = true; rw [PyData.canLay0]; exact D.canLays h
  | .dK _, h => nomatch h
  | .dT _, h => nomatch h
  | .obj _ _, h => nomatch h
  | .scr _, h => nomatch h
  | .adr _, h => nomatch h
theorem D.canLays : ∀ {ds : List D}, D.pyos ds = true → PyData.canLayAll0 (D.pys ds) = true
  | [], _ => by show PyData.canLayAll0 [] = true; rw [PyData.canLayAll0]
  | d :: ds, h => by
    show PyData.canLayAll0 (_ :: _) = true
    rw [PyData.canLayAll0, D.canLay (Bool.and_eq_true_iff.mp h).1, D.canLays (Bool.and_eq_true_iff.mp h).2]; rfl
end
abbrev D.shal (d : D) : Prop := d.py.depth ≤ 64
theorem D.shaped {d : D} (h : d.pyo = true) (s : d.shal) : SeqAt.shaped d.py = true := by
  show (d.py.canLay0 && decide (d.py.depth ≤ 64)) = true
  rw [D.canLay h, decide_eq_true s]; rfl
section
variable {X : Cx} {env : DEnv} {a b c : Expr} {k1 k2 k3 : Kd} {pos : Pos} {i j l : Int} {s t : Str} {p q : Bool} {x y : D}
theorem ev_eqS (ha : Ev X env a (.str s) k1) (hb : Ev X env b (.str t) k2) : Ev X env (.Compare a [.Eq] [b] pos) (.bl (decide (s = t))) .cln :=
  ev_cmp2 op_eq ha hb (nomark b) fun F B H v u Q hs r1 r2 q => by
    rw [r1.str hs, r2.str hs]
    exact ⟨rfl, by rw [show decide (V.str s = V.str t) = decide (s = t) by simp]; exact fin_bl hs q⟩
theorem ev_neS (ha : Ev X env a (.str s) k1) (hb : Ev X env b (.str t) k2) : Ev X env (.Compare a [.NotEq] [b] pos) (.bl (!decide (s = t))) .cln :=
  ev_cmp2 op_ne ha hb (nomark b) fun F B H v u Q hs r1 r2 q => by
    rw [r1.str hs, r2.str hs]
    exact ⟨rfl, by rw [show decide (V.str s = V.str t) = decide (s = t) by simp]; exact fin_bl hs q⟩
theorem et_eqS (ha : Ev X env a (.str s) k1) (hb : Ev X env b (.str t) k2) : Et X env (.Compare a [.Eq] [b] pos) (decide (s = t)) :=
  et_cmp2 op_eq ha hb (nomark b) fun F B H v u Q hs r1 r2 q => by
    rw [r1.str hs, r2.str hs]
    exact ⟨rfl, by rw [show decide (V.str s = V.str t) = decide (s = t) by simp]; exact fin_bl hs q⟩
theorem et_neS (ha : Ev X env a (.str s) k1) (hb : Ev X env b (.str t) k2) : Et X env (.Compare a [.NotEq] [b] pos) (!decide (s = t)) :=
  et_cmp2 op_ne ha hb (nomark b) fun F B H v u Q hs r1 r2 q => by
    rw [r1.str hs, r2.str hs]
    exact ⟨rfl, by rw [show decide (V.str s = V.str t) = decide (s = t) by simp]; exact fin_bl hs q⟩
theorem ev_eqB (ha : Ev X env a (.bl p) k1) (hb : Ev X env b (.bl q) k2) : Ev X env (.Compare a [.Eq] [b] pos) (.bl (decide (p = q))) .cln :=
  ev_cmp2 op_eq ha hb (nomark b) fun F B H v u Q hs r1 r2 w => by
    rw [r1.bl hs, r2.bl hs]
    exact ⟨rfl, by rw [show decide (V.bl p = V.bl q) = decide (p = q) by simp]; exact fin_bl hs w⟩
theorem ev_neB (ha : Ev X env a (.bl p) k1) (hb : Ev X env b (.bl q) k2) : Ev X env (.Compare a [.NotEq] [b] pos) (.bl (!decide (p = q))) .cln :=
  ev_cmp2 op_ne ha hb (nomark b) fun F B H v u Q hs r1 r2 w => by
    rw [r1.bl hs, r2.bl hs]
    exact ⟨rfl, by rw [show decide (V.bl p = V.bl q) = decide (p = q) by simp]; exact fin_bl hs w⟩
theorem et_eqB (ha : Ev X env a (.bl p) k1) (hb : Ev X env b (.bl q) k2) : Et X env (.Compare a [.Eq] [b] pos) (decide (p = q)) :=
  et_cmp2 op_eq ha hb (nomark b) fun F B H v u Q hs r1 r2 w => by
    rw [r1.bl hs, r2.bl hs]
    exact ⟨rfl, by rw [show decide (V.bl p = V.bl q) = decide (p = q) by simp]; exact fin_bl hs w⟩
theorem et_neB (ha : Ev X env a (.bl p) k1) (hb : Ev X env b (.bl q) k2) : Et X env (.Compare a [.NotEq] [b] pos) (!decide (p = q)) :=
  et_cmp2 op_ne ha hb (nomark b) fun F B H v u Q hs r1 r2 w => by
    rw [r1.bl hs, r2.bl hs]
    exact ⟨rfl, by rw [show decide (V.bl p = V.bl q) = decide (p = q) by simp]; exact fin_bl hs w⟩
theorem ev_eqD (hu : X.A.units + 64 < cLine) (ha : Ev X env a x k1) (hb : Ev X env b y k2) (ox : x.pyo = true) (oy : y.pyo = true) (sx : x.shal) (sy : y.shal) (hp : PyData.eqv x.py y.py = p) : Ev X env (.Compare a [.Eq] [b] pos) (.bl p) .cln :=
  ev_cmp2 (op_eqD hu) ha hb (nomark b) fun F B H v u Q hs r1 r2 w => ⟨x.py, y.py, Rep.dp ox (r1.rep hs), Rep.dp oy (r2.rep hs), D.shaped ox sx, D.shaped oy sy, by rw [hp]; exact fin_bl hs w⟩
theorem ev_neD (hu : X.A.units + 64 < cLine) (ha : Ev X env a x k1) (hb : Ev X env b y k2) (ox : x.pyo = true) (oy : y.pyo = true) (sx : x.shal) (sy : y.shal) (hp : PyData.eqv x.py y.py = p) : Ev X env (.Compare a [.NotEq] [b] pos) (.bl (!p)) .cln :=
  ev_cmp2 (op_neD hu) ha hb (nomark b) fun F B H v u Q hs r1 r2 w => ⟨x.py, y.py, Rep.dp ox (r1.rep hs), Rep.dp oy (r2.rep hs), D.shaped ox sx, D.shaped oy sy, by rw [hp]; exact fin_bl hs w⟩
theorem et_eqD (hu : X.A.units + 64 < cLine) (ha : Ev X env a x k1) (hb : Ev X env b y k2) (ox : x.pyo = true) (oy : y.pyo = true) (sx : x.shal) (sy : y.shal) (hp : PyData.eqv x.py y.py = p) : Et X env (.Compare a [.Eq] [b] pos) p :=
  et_cmp2 (op_eqD hu) ha hb (nomark b) fun F B H v u Q hs r1 r2 w => ⟨x.py, y.py, Rep.dp ox (r1.rep hs), Rep.dp oy (r2.rep hs), D.shaped ox sx, D.shaped oy sy, by rw [hp]; exact fin_bl hs w⟩
theorem et_neD (hu : X.A.units + 64 < cLine) (ha : Ev X env a x k1) (hb : Ev X env b y k2) (ox : x.pyo = true) (oy : y.pyo = true) (sx : x.shal) (sy : y.shal) (hp : PyData.eqv x.py y.py = p) : Et X env (.Compare a [.NotEq] [b] pos) (!p) :=
  et_cmp2 (op_neD hu) ha hb (nomark b) fun F B H v u Q hs r1 r2 w => ⟨x.py, y.py, Rep.dp ox (r1.rep hs), Rep.dp oy (r2.rep hs), D.shaped ox sx, D.shaped oy sy, by rw [hp]; exact fin_bl hs w⟩
def D.isN : D → Bool
  | .non => true | _ => false
theorem rep_isN {K : PySem.W.Frag} {H : Hp} {v : V} (r : Rep K H x v) : decide (v = .non) = x.isN := by
  cases r <;> rfl
theorem ev_isN {j' pos'} (ha : Ev X env a x k1) (hp : x.isN = p) : Ev X env (.Compare a [.Is] [.Constant .none j' pos'] pos) (.bl p) .cln :=
  ⟨(pe_cmp (pc_isN ha.st.pe)).mono (one_te (te := tIsN) (r := fun x H Q => Q (.bl (decide (x = .non))) H) (fun _ _ _ _ h => h) ha fun F B H v Q hs r1 q => by rw [rep_isN (r1.rep hs), hp]; exact fin_bl hs q)⟩
theorem ev_notN {j' pos'} (ha : Ev X env a x k1) (hp : x.isN = p) : Ev X env (.Compare a [.IsNot] [.Constant .none j' pos'] pos) (.bl (!p)) .cln :=
  ⟨(pe_cmp (pc_notN ha.st.pe)).mono (one_te (te := tNotN) (r := fun x H Q => Q (.bl (!decide (x = .non))) H) (fun _ _ _ _ h => h) ha fun F B H v Q hs r1 q => by rw [rep_isN (r1.rep hs), hp]; exact fin_bl hs q)⟩
theorem Ev.et (h : Ev X env a (.bl p) k1) (he : ∀ whole, isTrue a X.env whole = (do let v ← whole; standAt a.pos; holding [v] (truthy v))) : Et X env a p :=
  ⟨(pt_val h.pe he).mono fun σ H Q ⟨F, B, E, q⟩ => ⟨F, B, E, fun v H' F' B' g r => by
    cases (RepK.scalR rfl g.hs r)
    exact ⟨p, rfl, q H' F' B' g⟩⟩⟩
theorem et_not (h : Et X env a p) : Et X env (.UnaryOp .Not a pos) (!p) :=
  ⟨(pt_not h.pt).mono fun σ H Q ⟨F, B, E, q⟩ => ⟨F, B, E, fun H' F' B' g => q H' F' B' g⟩⟩
theorem ev_not (h : Ev X env a (.bl p) k1) : Ev X env (.UnaryOp .Not a pos) (.bl (!p)) .cln :=
  ⟨(pe_not h.pe).mono fun σ H Q ⟨F, B, E, q⟩ => ⟨F, B, E, fun v H' F' B' g r => by
    cases (RepK.scalR rfl g.hs r)
    exact ⟨p, rfl, q _ H' F' B' g (.bl _)⟩⟩⟩
structure Ew (X : Cx) (env : DEnv) (e : Expr) (b : Bool) : Prop where
  pw : PW X e (tEt X.K env b)
variable {rest : List Expr}
theorem Ew.et (h : Ew X env a p) : Et X env a p := ⟨h.pw.pt⟩
theorem ew_and1 (h : Et X env a p) : Ew X env (.BoolOp .And [a] pos) p := ⟨pw_and1 h.pt⟩
theorem ew_or1 (h : Et X env a p) : Ew X env (.BoolOp .Or [a] pos) p := ⟨pw_or1 h.pt⟩
theorem pw_false {e : Expr} : PW X e (fun _ _ _ => False) := ⟨fun _ _ _ _ _ _ _ h => h.elim⟩
theorem pe_false {e : Expr} : PE X e (fun _ _ _ => False) := ⟨fun _ _ _ _ _ _ h => h.elim⟩
theorem ew_and (h1 : Et X env a p) (h2 : p = true → Ew X env (.BoolOp .And (b :: rest) pos) q) : Ew X env (.BoolOp .And (a :: b :: rest) pos) (p && q) := by
  cases p with
  | true =>
    exact ⟨(pw_and h1.pt (h2 rfl).pw).mono fun σ H Q ⟨F, B, E, w⟩ => ⟨F, B, E, fun H' F' B' g => by
      show if true = true then _ else _
      rw [if_pos rfl]
      exact ⟨F', B', E.grow g, fun H2 F2 B2 g2 => w H2 F2 B2 (g.trans g2)⟩⟩⟩
  | false =>
    exact ⟨(pw_and h1.pt pw_false).mono fun σ H Q ⟨F, B, E, w⟩ => ⟨F, B, E, fun H' F' B' g => by
      show if false = true then _ else _
      rw [if_neg Bool.false_ne_true]
      exact w H' F' B' g⟩⟩
theorem ew_or (h1 : Et X env a p) (h2 : p = false → Ew X env (.BoolOp .Or (b :: rest) pos) q) : Ew X env (.BoolOp .Or (a :: b :: rest) pos) (p || q) := by
  cases p with
  | false =>
    exact ⟨(pw_or h1.pt (h2 rfl).pw).mono fun σ H Q ⟨F, B, E, w⟩ => ⟨F, B, E, fun H' F' B' g => by
      show if false = true then _ else _
      rw [if_neg Bool.false_ne_true]
      exact ⟨F', B', E.grow g, fun H2 F2 B2 g2 => w H2 F2 B2 (g.trans g2)⟩⟩⟩
  | true =>
    exact ⟨(pw_or h1.pt pw_false).mono fun σ H Q ⟨F, B, E, w⟩ => ⟨F, B, E, fun H' F' B' g => by
      show if true = true then _ else _
      rw [if_pos rfl]
      exact w H' F' B' g⟩⟩
theorem ev_one {op} (h : Ev X env a (.bl p) k1) : Ev X env (.BoolOp op [a] pos) (.bl p) .cln := ⟨(pe_one h.scal.pe)⟩
theorem ev_and (h1 : Ev X env a (.bl p) k1) (h2 : p = true → Ev X env (.BoolOp .And (b :: rest) pos) (.bl q) .cln) : Ev X env (.BoolOp .And (a :: b :: rest) pos) (.bl (p && q)) .cln := by
  cases p with
  | true =>
    exact ⟨(pe_and h1.scal.pe (h2 rfl).pe).mono fun σ H Q ⟨F, B, E, w⟩ => ⟨F, B, E, fun v H' F' B' g r => by
      cases (show Rep X.K F' (.bl true) v from r)
      refine ⟨true, rfl, ?_⟩
      rw [if_pos rfl]
      exact ⟨F', B', E.grow g, fun u H2 F2 B2 g2 r2 => w u H2 F2 B2 (g.trans g2) r2⟩⟩⟩
  | false =>
    exact ⟨(pe_and h1.scal.pe pe_false).mono fun σ H Q ⟨F, B, E, w⟩ => ⟨F, B, E, fun v H' F' B' g r => by
      cases (show Rep X.K F' (.bl false) v from r)
      refine ⟨false, rfl, ?_⟩
      rw [if_neg Bool.false_ne_true]
      exact w _ H' F' B' g (.bl _)⟩⟩
theorem ev_or (h1 : Ev X env a (.bl p) k1) (h2 : p = false → Ev X env (.BoolOp .Or (b :: rest) pos) (.bl q) .cln) : Ev X env (.BoolOp .Or (a :: b :: rest) pos) (.bl (p || q)) .cln := by
  cases p with
  | false =>
    exact ⟨(pe_or h1.scal.pe (h2 rfl).pe).mono fun σ H Q ⟨F, B, E, w⟩ => ⟨F, B, E, fun v H' F' B' g r => by
      cases (show Rep X.K F' (.bl false) v from r)
      refine ⟨false, rfl, ?_⟩
      rw [if_neg Bool.false_ne_true]
      exact ⟨F', B', E.grow g, fun u H2 F2 B2 g2 r2 => w u H2 F2 B2 (g.trans g2) r2⟩⟩⟩
  | true =>
    exact ⟨(pe_or h1.scal.pe pe_false).mono fun σ H Q ⟨F, B, E, w⟩ => ⟨F, B, E, fun v H' F' B' g r => by
      cases (show Rep X.K F' (.bl true) v from r)
      refine ⟨true, rfl, ?_⟩
      rw [if_pos rfl]
      exact w _ H' F' B' g (.bl _)⟩⟩
theorem ev_if (hc : Et X env c p) (ha : p = true → Ev X env a x k1) (hb : p = false → Ev X env b x k1) : Ev X env (.IfExp c a b pos) x k1 := by
  cases p with
  | true =>
    exact ⟨(pe_ifExp hc.pt (ha rfl).pe pe_false).mono fun σ H Q ⟨F, B, E, w⟩ => ⟨F, B, E, fun H' F' B' g => by
      show if true = true then _ else _
      rw [if_pos rfl]
      exact ⟨F', B', E.grow g, fun u H2 F2 B2 g2 r2 => w u H2 F2 B2 (g.trans g2) (RepK.back g.h r2)⟩⟩⟩
  | false =>
    exact ⟨(pe_ifExp hc.pt pe_false (hb rfl).pe).mono fun σ H Q ⟨F, B, E, w⟩ => ⟨F, B, E, fun H' F' B' g => by
      show if false = true then _ else _
      rw [if_neg Bool.false_ne_true]
      exact ⟨F', B', E.grow g, fun u H2 F2 B2 g2 r2 => w u H2 F2 B2 (g.trans g2) (RepK.back g.h r2)⟩⟩⟩
end
end DL
namespace DL
open PySem PySem.Spec L2
open PyProof.Rows hiding St
section
variable {X : Cx} {env : DEnv} {e a b c : Expr} {k1 k2 k3 : Kd} {pos : Pos} {i j : Int} {s t : Str} {p q : Bool} {x y : D} {ds es : List D} {d : D}
theorem ixN_len {n : Nat} {i : Int} {j : Nat} (h : ixN n i = some j) : j < n := (ixN_seq h).2.1
theorem atI_reps {K : PySem.W.Frag} {F B H : Hp} {kk : Kd} {vs : List V} (hk : kk = .cln ∨ kk = .brw ∨ kk = .drt) (r : repsK K F B H kk ds vs) (h : atI ds i = some d) : ∃ u, atI vs i = some u ∧ RepK K F B H H kk d u := by
  unfold atI at h ⊢
  rw [r.len]
  cases e : ixN ds.length i with
  | none => rw [e] at h; cases h
  | some j =>
    rw [e] at h
    exact repsK.get hk r h
theorem Fin.now {K : PySem.W.Frag} {F B H : Hp} {k : Kd} {z : D} {Q : VK} {w : V} (hs : Hs F B H) (q : Fin K F B H k z Q) (r : RepK K F B H H k z w) : Q w H := q w H F B (.refl hs) r
theorem two_ix {r : R2} (hr : IxR X r) (ha : Ev X env a x k1) (hb : Ev X env b y k2) (hs : PlainIx b) {z : D} {kz : Kd}
    (h : ∀ F B H v u Q, Hs F B H → RepS X.K F B H k1 x v → RepS X.K F B H k2 y u → Fin X.K F B H kz z Q → r v u H Q) : Ev X env (.Subscript a b pos) z kz :=
  ⟨(pe_ix hr ha.st.pe hb.st.pe hs).mono (two ha hb h)⟩
theorem ev_ixL (ha : Ev X env a (.lst ds) k1) (hb : Ev X env b (.int i) k2) (h : atI ds i = some d) (hs : PlainIx b) : Ev X env (.Subscript a b pos) d k1.kid :=
  two_ix ix_list ha hb hs fun F B H v u Q s r1 r2 q => by
    obtain ⟨l, vs, e1, e2, r⟩ := r1.lst s
    obtain ⟨w, e3, r3⟩ := atI_reps (kid_cases _) r h
    exact ⟨l, vs, i, w, e1, r2.int s, SqL.of e2, e3, q.now s r3⟩
theorem ev_ixT (ha : Ev X env a (.tup ds) k1) (hb : Ev X env b (.int i) k2) (h : atI ds i = some d) (hs : PlainIx b) : Ev X env (.Subscript a b pos) d k1.kid :=
  two_ix ix_tup ha hb hs fun F B H v u Q s r1 r2 q => by
    obtain ⟨l, vs, e1, e2, r⟩ := r1.tup s
    obtain ⟨w, e3, r3⟩ := atI_reps (kid_cases _) r h
    exact ⟨l, vs, i, w, e1, r2.int s, e2, e3, q.now s r3⟩
theorem ev_ixC {ns : List Int} (ha : Ev X env a (.scr ns) k1) (hb : Ev X env b (.int i) k2) (h : atI ns i = some j) (hs : PlainIx b) : Ev X env (.Subscript a b pos) (.int j) .cln :=
  two_ix ix_list ha hb hs fun F B H v u Q s r1 r2 q => by
    obtain ⟨l, e1, e2⟩ := r1.scr s
    refine ⟨l, ns.map V.int, i, .int j, e1, r2.int s, e2, ?_, fin_int s q⟩
    unfold atI at h ⊢
    rw [List.length_map]
    cases e : ixN ns.length i with
    | none => rw [e] at h; cases h
    | some m =>
      rw [e] at h
      show (ns.map V.int)[m]? = _
      rw [List.getElem?_map, show ns[m]? = some j from h]; rfl
theorem ev_ixS {cc : Nat} (ha : Ev X env a (.str s) k1) (hb : Ev X env b (.int i) k2) (hz : s.length ≤ sizeLine) (h : atI s.cps.toList i = some cc) (hs : PlainIx b) : Ev X env (.Subscript a b pos) (.str ⟨#[cc]⟩) .cln :=
  two_ix ix_str ha hb hs fun F B H v u Q hh r1 r2 q => ⟨s, i, cc, r1.str hh, r2.int hh, hz, h, fin_str hh q⟩
def cutD (xs : List D) (lo hi : Option Int) : List D := (xs.drop (HT.sIx xs.length 0 lo)).take (HT.sIx xs.length xs.length hi - HT.sIx xs.length 0 lo)
theorem repsK.cut {K : PySem.W.Frag} {F B H : Hp} {k : Kd} {vs : List V} (r : repsK K F B H k ds vs) (lo hi : Option Int) : repsK K F B H k (cutD ds lo hi) (cutV vs lo hi) := by
  have e := r.len
  unfold cutD cutV
  rw [e]
  cases k <;> exact Reps.take _ (Reps.drop _ r)
structure Eo (X : Cx) (env : DEnv) (e : Option Expr) (o : Option Int) : Prop where
  po : PO X e (fun σ H Q => ∃ F B, EnvE X.K F B H env σ ∧ ∀ H' F' B', Grow F B H F' B' H' → Q o H')
theorem _root_.L2.PO.mono {e : Option Expr} {t t' : TO} (h : PO X e t) (m : ∀ σ H Q, t' σ H Q → t σ H Q) : PO X e t' := ⟨fun pins s σ H Q I q => h.run pins s σ H Q I (m σ H Q q)⟩
theorem eo_none : Eo X env none none := ⟨po_none.mono fun σ H Q ⟨F, B, E, q⟩ => q H F B (.refl E.hs)⟩
theorem eo_some (h : Ev X env e (.int i) k1) : Eo X env (some e) (some i) := ⟨(po_some h.pe).mono fun σ H Q ⟨F, B, E, q⟩ => ⟨F, B, E, fun v H' F' B' g r => by
  cases (RepK.scalR rfl g.hs r)
  exact ⟨i, rfl, q H' F' B' g⟩⟩⟩
variable {lo hi : Option Expr} {l u : Option Int} {p2 : Pos}
theorem sl_te {r : V → Option Int → Option Int → Hp → VK → Prop} {z : D} {kz : Kd} (hr : SlR X r) (ha : Ev X env a x k1) (hl : Eo X env lo l) (hu : Eo X env hi u)
    (h : ∀ F B H v Q, Hs F B H → RepS X.K F B H k1 x v → Fin X.K F B H kz z Q → r v l u H Q) : Ev X env (.Subscript a (.Slice lo hi none p2) pos) z kz :=
  ⟨(pe_slice hr ha.st.pe hl.po hu.po).mono fun σ H Q ⟨F, B, E, q⟩ => ⟨F, B, E, fun v H1 F1 B1 g1 r1 => ⟨F1, B1, E.grow g1, fun H2 F2 B2 g2 => ⟨F2, B2, (E.grow g1).grow g2, fun H3 F3 B3 g3 =>
    h F3 B3 H3 v Q g3.hs (RepK.any0 (RepK.growS g3 (RepK.growS g2 r1))) fun w H4 F4 B4 g4 r4 => q w H4 F4 B4 (((g1.trans g2).trans g3).trans g4) (RepK.back ((g1.h.trans g2.h).trans g3.h) r4)⟩⟩⟩⟩
theorem ev_slL (ha : Ev X env a (.lst ds) k1) (hl : Eo X env lo l) (hu : Eo X env hi u) : Ev X env (.Subscript a (.Slice lo hi none p2) pos) (.lst (cutD ds l u)) k1.kid.mk :=
  sl_te sl_list ha hl hu fun F B H v Q s r1 q => by
    obtain ⟨a, vs, e1, e2, r⟩ := r1.lst s
    exact ⟨a, vs, e1, SqL.of e2, new_lst (kid_cases _) s (repsK.cut r l u) (by rw [mk_eq (kid_cases _)]; exact q)⟩
theorem cut_len {ds : List D} (l u : Option Int) : (cutD ds l u).length ≤ ds.length := by
  unfold cutD; rw [List.length_take, List.length_drop]; omega
theorem cut_whole {ds : List D} {l u : Option Int} (h : HT.sIx ds.length 0 l = 0 ∧ HT.sIx ds.length ds.length u = ds.length) : cutD ds l u = ds := by
  unfold cutD; rw [h.1, h.2]; simp
theorem RepS.back {K : PySem.W.Frag} {F B H : Hp} {k : Kd} {v : V} (s : Hs F B H) (r : RepS K F B H k (.tup ds) v) : RepK K F B H H k.kid (.tup ds) v := by
  cases k with
  | drt => exact r
  | brw => exact r
  | own => exact r
  | cln => exact r
  | shl => exact r
theorem ev_slT (ha : Ev X env a (.tup ds) k1) (hl : Eo X env lo l) (hu : Eo X env hi u) : Ev X env (.Subscript a (.Slice lo hi none p2) pos) (.tup (cutD ds l u)) k1.kid :=
  sl_te sl_tupA ha hl hu fun F B H v Q s r1 q => by
    obtain ⟨a, vs, e1, e2, r⟩ := r1.tup s
    refine ⟨a, vs, e1, e2, fun hw => ?_, fun hw => new_tup (kid_cases _) s (repsK.cut r l u) q⟩
    rw [r.len] at hw
    rw [cut_whole hw] at q
    rw [e1] at r1
    exact q.now s (RepS.back s r1)
theorem ev_slS (ha : Ev X env a (.str s) k1) (hl : Eo X env lo l) (hu : Eo X env hi u) (hz : s.length ≤ sizeLine) : Ev X env (.Subscript a (.Slice lo hi none p2) pos) (.str (cutS s l u)) .cln :=
  sl_te sl_str ha hl hu fun F B H v Q hs r1 q => ⟨s, r1.str hs, hz, fin_str hs q⟩
theorem ev_revL {kk : Nat} {p1 p2 p3 : Pos} (ha : Ev X env a (.lst ds) k1) : Ev X env (.Subscript a (.Slice none none (some (.UnaryOp .USub (.Constant (.int 1) kk p1) p2)) p3) pos) (.lst ds.reverse) k1.kid.mk :=
  ⟨(pe_revL ha.st.pe).mono fun σ H Q ⟨F, B, E, q⟩ => ⟨F, B, E, fun v H1 F1 B1 g r1 => by
    obtain ⟨a, vs, e1, e2, r⟩ := RepS.lst g.hs (RepK.any0 r1)
    refine ⟨a, vs, e1, SqL.of e2, new_lst (kid_cases _) g.hs (?_ : repsK _ _ _ _ _ ds.reverse _) fun w H2 F2 B2 g2 r2 => q w H2 F2 B2 (g.trans g2) (RepK.back g.h (by rw [mk_eq (kid_cases _)] at r2; exact r2))⟩
    cases k1 <;> exact Reps.reverse r⟩⟩
theorem repsK.app {K : PySem.W.Frag} {F B H : Hp} {k : Kd} {vs us : List V} (r : repsK K F B H k ds vs) (q : repsK K F B H k es us) : repsK K F B H k (ds ++ es) (vs ++ us) := by
  cases k <;> exact Reps.append r q
theorem ev_addL (ha : Ev X env a (.lst ds) k1) (hb : Ev X env b (.lst es) k2) (hz : ds.length + es.length ≤ sizeLine) : Ev X env (.BinOp a .Add b pos) (.lst (ds ++ es)) (k1.kid.join k2.kid).mk :=
  ev_op2 op_cat ha hb fun F B H v u Q s r1 r2 q => by
    obtain ⟨l1, vs, e1, h1, q1⟩ := r1.lst s
    obtain ⟨l2, us, e2, h2, q2⟩ := r2.lst s
    refine ⟨l1, l2, vs, us, e1, e2, h1, h2, by rw [q1.len, q2.len]; exact hz, new_lst (join_cases _ _) s (repsK.app (repsK.up s (kid_cases _) (kid_cases _) q1) (by rw [join_comm]; exact repsK.up s (kid_cases _) (kid_cases _) q2)) (by rw [mk_eq (join_cases _ _)]; exact q)⟩
theorem repsK.nil_iff {K : PySem.W.Frag} {F B H : Hp} {k : Kd} {vs : List V} (r : repsK K F B H k ds vs) : vs = [] ↔ ds = [] := by
  have e := r.len
  constructor
  · intro h; subst h; exact List.length_eq_zero_iff.mp e.symm
  · intro h; subst h; exact List.length_eq_zero_iff.mp e
theorem repK_up {K : PySem.W.Frag} {F B H : Hp} (hs : Hs F B H) {k j : Kd} {v : V} (hk : k = .cln ∨ k = .brw ∨ k = .drt) (hj : j = .cln ∨ j = .brw ∨ j = .drt) (r : RepK K F B H H k d v) : RepK K F B H H (k.join j) d v := by
  rcases hk with h | h | h <;> subst h <;> rcases hj with h | h | h <;> subst h
  · exact r
  · exact Rep.mono hs.fb r
  · exact Rep.mono hs.fh r
  · exact r
  · exact r
  · exact Rep.mono hs.bh r
  · exact r
  · exact r
  · exact r
theorem ev_addT (ha : Ev X env a (.tup ds) k1) (hb : Ev X env b (.tup es) k2) (hz : ds.length + es.length ≤ sizeLine) : Ev X env (.BinOp a .Add b pos) (.tup (ds ++ es)) (k1.kid.join k2.kid) :=
  ev_op2 op_catA ha hb fun F B H v u Q s r1 r2 q => by
    obtain ⟨l1, vs, e1, h1, q1⟩ := r1.tup s
    obtain ⟨l2, us, e2, h2, q2⟩ := r2.tup s
    have b1 := repK_up s (kid_cases _) (kid_cases k2) (RepS.back s r1)
    have b2 := repK_up s (kid_cases _) (kid_cases k1) (RepS.back s r2)
    rw [join_comm] at b2
    refine ⟨l1, l2, vs, us, e1, e2, h1, h2, by rw [q1.len, q2.len]; exact hz, fun z => ?_, fun z y => ?_, fun _ _ => new_tup (join_cases _ _) s (repsK.app (repsK.up s (kid_cases _) (kid_cases _) q1) (by rw [join_comm]; exact repsK.up s (kid_cases _) (kid_cases _) q2)) q⟩
    · rw [e2] at b2
      rw [q1.nil_iff.mp z, List.nil_append] at q
      exact q.now s b2
    · rw [e1] at b1
      rw [q2.nil_iff.mp y, List.append_nil] at q
      exact q.now s b1
variable {pn : Pos}
theorem ev_lenL (bn : Bn X "len" (.builtin "len")) (ha : Ev X env a (.lst ds) k1) (he : starEach [a] X.env = [(false, eval a X.env)]) : Ev X env (.Call (.Name "len" pn) [a] [] pos) (.int ds.length) .cln :=
  ev_call1 call_len_seq bn ha (fun F B H v Q s r1 q => by
    obtain ⟨a, vs, e1, e2, r⟩ := r1.lst s
    exact ⟨a, vs, by rw [e1], .inl (SqL.of e2), by rw [r.len]; exact fin_int s q⟩) he
theorem ev_lenT (bn : Bn X "len" (.builtin "len")) (ha : Ev X env a (.tup ds) k1) (he : starEach [a] X.env = [(false, eval a X.env)]) : Ev X env (.Call (.Name "len" pn) [a] [] pos) (.int ds.length) .cln :=
  ev_call1 call_len_seq bn ha (fun F B H v Q s r1 q => by
    obtain ⟨a, vs, e1, e2, r⟩ := r1.tup s
    exact ⟨a, vs, by rw [e1], .inr e2, by rw [r.len]; exact fin_int s q⟩) he
theorem ev_lenC {ns : List Int} (bn : Bn X "len" (.builtin "len")) (ha : Ev X env a (.scr ns) k1) (he : starEach [a] X.env = [(false, eval a X.env)]) : Ev X env (.Call (.Name "len" pn) [a] [] pos) (.int ns.length) .cln :=
  ev_call1 call_len_seq bn ha (fun F B H v Q s r1 q => by
    obtain ⟨a, e1, e2⟩ := r1.scr s
    exact ⟨a, _, by rw [e1], .inl e2, by rw [List.length_map]; exact fin_int s q⟩) he
theorem ev_lenS (bn : Bn X "len" (.builtin "len")) (ha : Ev X env a (.str s) k1) (hz : s.length ≤ sizeLine) (he : starEach [a] X.env = [(false, eval a X.env)]) : Ev X env (.Call (.Name "len" pn) [a] [] pos) (.int s.length) .cln :=
  ev_call1 call_len_str bn ha (fun F B H v Q hs r1 q => ⟨s, by rw [r1.str hs], hz, fin_int hs q⟩) he
theorem ev_abs (bn : Bn X "abs" (.builtin "abs")) (ha : Ev X env a (.int i) k1) (he : starEach [a] X.env = [(false, eval a X.env)]) : Ev X env (.Call (.Name "abs" pn) [a] [] pos) (.int (if i < 0 then -i else i)) .cln :=
  ev_call1 call_abs bn ha (fun F B H v Q hs r1 q => ⟨i, by rw [r1.int hs], fin_int hs q⟩) he
theorem ev_max2 (hc : X.calm = true) (bn : Bn X "max" (.builtin "max")) (ha : Ev X env a (.int i) k1) (hb : Ev X env b (.int j) k2) (he : starEach [a, b] X.env = [(false, eval a X.env), (false, eval b X.env)]) (hb' : starEach [b] X.env = [(false, eval b X.env)]) :
    Ev X env (.Call (.Name "max" pn) [a, b] [] pos) (.int (if j > i then j else i)) .cln :=
  ev_call2 (call_max2 hc) bn ha hb (fun F B H v u Q hs r1 r2 q => ⟨i, j, by rw [r1.int hs, r2.int hs], fin_int hs q⟩) he hb'
theorem ev_min2 (hc : X.calm = true) (bn : Bn X "min" (.builtin "min")) (ha : Ev X env a (.int i) k1) (hb : Ev X env b (.int j) k2) (he : starEach [a, b] X.env = [(false, eval a X.env), (false, eval b X.env)]) (hb' : starEach [b] X.env = [(false, eval b X.env)]) :
    Ev X env (.Call (.Name "min" pn) [a, b] [] pos) (.int (if j < i then j else i)) .cln :=
  ev_call2 (call_min2 hc) bn ha hb (fun F B H v u Q hs r1 r2 q => ⟨i, j, by rw [r1.int hs, r2.int hs], fin_int hs q⟩) he hb'
theorem ev_intI (bn : Bn X "int" (.type "int")) (ha : Ev X env a (.int i) k1) (he : starEach [a] X.env = [(false, eval a X.env)]) : Ev X env (.Call (.Name "int" pn) [a] [] pos) (.int i) .cln :=
  ev_callT1 call_int1 bn ha (fun F B H v Q hs r1 q => .inl ⟨i, by rw [r1.int hs], fin_int hs q⟩) he
theorem ev_intB (bn : Bn X "int" (.type "int")) (ha : Ev X env a (.bl p) k1) (he : starEach [a] X.env = [(false, eval a X.env)]) : Ev X env (.Call (.Name "int" pn) [a] [] pos) (.int (if p then 1 else 0)) .cln :=
  ev_callT1 call_int1 bn ha (fun F B H v Q hs r1 q => .inr ⟨p, by rw [r1.bl hs], fin_int hs q⟩) he
theorem ev_listL (bn : Bn X "list" (.type "list")) (ha : Ev X env a (.lst ds) k1) (he : starEach [a] X.env = [(false, eval a X.env)]) : Ev X env (.Call (.Name "list" pn) [a] [] pos) (.lst ds) k1.kid.mk :=
  ev_callT1 call_list_of bn ha (fun F B H v Q s r1 q => by
    obtain ⟨a, vs, e1, e2, r⟩ := r1.lst s
    exact ⟨a, vs, by rw [e1], .inl (SqL.of e2), new_lst (kid_cases _) s r (by rw [mk_eq (kid_cases _)]; exact q)⟩) he
theorem ev_listT (bn : Bn X "list" (.type "list")) (ha : Ev X env a (.tup ds) k1) (he : starEach [a] X.env = [(false, eval a X.env)]) : Ev X env (.Call (.Name "list" pn) [a] [] pos) (.lst ds) k1.kid.mk :=
  ev_callT1 call_list_of bn ha (fun F B H v Q s r1 q => by
    obtain ⟨a, vs, e1, e2, r⟩ := r1.tup s
    exact ⟨a, vs, by rw [e1], .inr e2, new_lst (kid_cases _) s r (by rw [mk_eq (kid_cases _)]; exact q)⟩) he
theorem ev_tupL (bn : Bn X "tuple" (.type "tuple")) (ha : Ev X env a (.lst ds) k1) (he : starEach [a] X.env = [(false, eval a X.env)]) : Ev X env (.Call (.Name "tuple" pn) [a] [] pos) (.tup ds) k1.kid :=
  ev_callT1 call_tuple_of bn ha (fun F B H v Q s r1 q => by
    obtain ⟨a, vs, e1, e2, r⟩ := r1.lst s
    exact ⟨a, vs, by rw [e1], .inl ⟨SqL.of e2, new_tup (kid_cases _) s r q⟩⟩) he
theorem ev_tupT (bn : Bn X "tuple" (.type "tuple")) (ha : Ev X env a (.tup ds) k1) (he : starEach [a] X.env = [(false, eval a X.env)]) : Ev X env (.Call (.Name "tuple" pn) [a] [] pos) (.tup ds) k1.kid :=
  ev_callT1 call_tuple_of bn ha (fun F B H v Q s r1 q => by
    obtain ⟨a, vs, e1, e2, r⟩ := r1.tup s
    rw [e1] at r1
    exact ⟨a, vs, by rw [e1], .inr ⟨e2, q.now s (RepS.back s r1)⟩⟩) he
theorem ev_sumL {ns : List Int} (hc : X.calm = true) (bn : Bn X "sum" (.builtin "sum")) (ha : Ev X env a (.lst (ns.map D.int)) k1) (he : starEach [a] X.env = [(false, eval a X.env)]) : Ev X env (.Call (.Name "sum" pn) [a] [] pos) (.int ns.sum) .cln :=
  ev_call1 (cr_sum hc) bn ha (fun F B H v Q s r1 q => by
    obtain ⟨a, vs, e1, e2, r⟩ := r1.lst s
    exact ⟨a, ns, by rw [e1], by rw [← reps_ints (r.reps s)]; exact SqL.of e2, fin_int s q⟩) he
theorem ev_allL {ns : List Bool} (hc : X.calm = true) (bn : Bn X "all" (.builtin "all")) (ha : Ev X env a (.lst (ns.map D.bl)) k1) (he : starEach [a] X.env = [(false, eval a X.env)]) : Ev X env (.Call (.Name "all" pn) [a] [] pos) (.bl (ns.all id)) .cln :=
  ev_call1 (cr_all hc) bn ha (fun F B H v Q s r1 q => by
    obtain ⟨a, vs, e1, e2, r⟩ := r1.lst s
    exact ⟨a, ns, by rw [e1], by rw [← reps_bls (r.reps s)]; exact SqL.of e2, fin_bl s q⟩) he
theorem ev_anyL {ns : List Bool} (hc : X.calm = true) (bn : Bn X "any" (.builtin "any")) (ha : Ev X env a (.lst (ns.map D.bl)) k1) (he : starEach [a] X.env = [(false, eval a X.env)]) : Ev X env (.Call (.Name "any" pn) [a] [] pos) (.bl (ns.any id)) .cln :=
  ev_call1 (cr_any hc) bn ha (fun F B H v Q s r1 q => by
    obtain ⟨a, vs, e1, e2, r⟩ := r1.lst s
    exact ⟨a, ns, by rw [e1], by rw [← reps_bls (r.reps s)]; exact SqL.of e2, fin_bl s q⟩) he
theorem ev_maxL {ns : List Int} {m : Int} (hc : X.calm = true) (bn : Bn X "max" (.builtin "max")) (ha : Ev X env a (.lst (ns.map D.int)) k1) (h1 : m ∈ ns) (h2 : ∀ y ∈ ns, y ≤ m) (he : starEach [a] X.env = [(false, eval a X.env)]) : Ev X env (.Call (.Name "max" pn) [a] [] pos) (.int m) .cln :=
  ev_call1 (cr_max hc) bn ha (fun F B H v Q s r1 q => by
    obtain ⟨a, vs, e1, e2, r⟩ := r1.lst s
    refine ⟨a, ns, by rw [e1], by rw [← reps_ints (r.reps s)]; exact SqL.of e2, List.length_pos_of_mem h1, fun m' i1 i2 => ?_⟩
    have e : m' = m := Int.le_antisymm (h2 _ i1) (i2 _ h1)
    rw [e]
    exact fin_int s q) he
theorem ev_minL {ns : List Int} {m : Int} (hc : X.calm = true) (bn : Bn X "min" (.builtin "min")) (ha : Ev X env a (.lst (ns.map D.int)) k1) (h1 : m ∈ ns) (h2 : ∀ y ∈ ns, m ≤ y) (he : starEach [a] X.env = [(false, eval a X.env)]) : Ev X env (.Call (.Name "min" pn) [a] [] pos) (.int m) .cln :=
  ev_call1 (cr_min hc) bn ha (fun F B H v Q s r1 q => by
    obtain ⟨a, vs, e1, e2, r⟩ := r1.lst s
    refine ⟨a, ns, by rw [e1], by rw [← reps_ints (r.reps s)]; exact SqL.of e2, List.length_pos_of_mem h1, fun m' i1 i2 => ?_⟩
    have e : m' = m := Int.le_antisymm (i2 _ h1) (h2 _ i1)
    rw [e]
    exact fin_int s q) he
end
end DL
namespace DL
open PySem PySem.Spec L2
open PyProof.Rows hiding St
def SlotS (K : PySem.W.Frag) (F B G H : Hp) : Slot → V → Prop
  | .own d, v => ∃ p, v = .ref p ∧ B p = none ∧ G p = none ∧ OwnRep K F H p d
  | .frz d, v => Rep K F d v
  | .bor d, v => Rep K B d v
structure EnvS (K : PySem.W.Frag) (F B G H : Hp) (env : DEnv) (σ : St) : Prop where
  hs : Hs F B H
  gh : Same G H
  len : env.length = σ.length
  at_ : ∀ (i : Nat) s, env[i]? = some (some s) → ∃ v, σ[i]? = some (some v) ∧ SlotS K F B G H s v
  dis : ∀ (i j : Nat) d d' p, env[i]? = some (some (.own d)) → env[j]? = some (some (.own d')) → σ[i]? = some (some (.ref p)) → σ[j]? = some (some (.ref p)) → i = j
structure GS (F B G F' B' : Hp) : Prop where
  f : Same F F'
  b : Same B B'
  newF : ∀ p, G p ≠ none → F' p ≠ none → F p ≠ none
  newB : ∀ p, G p ≠ none → B' p ≠ none → B p ≠ none
theorem GS.refl {F B G : Hp} : GS F B G F B := ⟨.refl _, .refl _, fun _ _ h => h, fun _ _ h => h⟩
theorem GS.trans {F B G F1 B1 F2 B2 : Hp} (a : GS F B G F1 B1) (b : GS F1 B1 G F2 B2) : GS F B G F2 B2 :=
  ⟨a.f.trans b.f, a.b.trans b.b, fun p h1 h2 => a.newF p h1 (b.newF p h1 h2), fun p h1 h2 => a.newB p h1 (b.newB p h1 h2)⟩
section
variable {K : PySem.W.Frag} {F B G H F' B' H' : Hp} {env : DEnv} {σ : St}
theorem SlotS.e {s : Slot} {v : V} (h : SlotS K F B G H s v) : SlotE K F B H s v := by
  cases s with
  | own d => obtain ⟨p, e, _, _, r⟩ := h; exact ⟨p, e, r⟩
  | frz d => exact h
  | bor d => exact h
theorem EnvS.e (E : EnvS K F B G H env σ) : EnvE K F B H env σ := ⟨E.hs, E.len, fun i s h => by obtain ⟨v, h1, h2⟩ := E.at_ i s h; exact ⟨v, h1, h2.e⟩⟩
theorem Grow.gs (g : Grow F B H F' B' H') (gh : Same G H) : GS F B G F' B' := ⟨g.f, g.b, fun p h1 h2 => g.newF p (ne_none_of_same gh h1) h2, fun p h1 h2 => g.newB p (ne_none_of_same gh h1) h2⟩
theorem OwnRep.some {p : Addr} {d : D} (r : OwnRep K F H p d) : H p ≠ none := by
  cases d with
  | lst ds => obtain ⟨_, e, _⟩ := r; rw [e]; exact fun z => nomatch z
  | dK ds => obtain ⟨_, e, _⟩ := r; rw [e]; exact fun z => nomatch z
  | dT ds => obtain ⟨_, e, _⟩ := r; rw [e]; exact fun z => nomatch z
  | obj C ds => obtain ⟨_, _, e, _⟩ := r; rw [e]; exact fun z => nomatch z
  | _ => exact r.elim
theorem SlotS.grow (g : Grow F B H F' B' H') {s : Slot} {v : V} (h : SlotS K F B G H s v) : SlotS K F' B' G H' s v := by
  cases s with
  | own d =>
    obtain ⟨p, e, n, m, r⟩ := h
    refine ⟨p, e, ?_, m, r.grow g.f g.h⟩
    cases q : B' p with
    | none => rfl
    | some o => exact absurd n (g.newB p r.some (by rw [q]; exact fun z => nomatch z))
  | frz d => exact Rep.mono g.f h
  | bor d => exact Rep.mono g.b h
theorem EnvS.grow (E : EnvS K F B G H env σ) (g : Grow F B H F' B' H') : EnvS K F' B' G H' env σ :=
  ⟨g.hs, E.gh.trans g.h, E.len, fun i s h => by obtain ⟨v, h1, h2⟩ := E.at_ i s h; exact ⟨v, h1, h2.grow g⟩, E.dis⟩
end
inductive SlotOf : Kd → D → Slot → Prop
  | int {k : Kd} {i : Int} : SlotOf k (.int i) (.frz (.int i))
  | str {k : Kd} {i : Str} : SlotOf k (.str i) (.frz (.str i))
  | bl {k : Kd} {i : Bool} : SlotOf k (.bl i) (.frz (.bl i))
  | non {k : Kd} : SlotOf k .non (.frz .non)
  | own {d : D} : SlotOf .own d (.own d)
  | cln {d : D} : SlotOf .cln d (.frz d)
  | brw {d : D} : SlotOf .brw d (.bor d)
structure Outs where
  nx : DEnv → Prop := fun _ => False
  rt : D → Kd → Prop := fun _ _ => False
  bk : DEnv → Prop := fun _ => False
  ct : DEnv → Prop := fun _ => False
structure Post (K : PySem.W.Frag) (F B G : Hp) (Φ : Outs) (Dd : Ends) : Prop where
  nx : ∀ env' σ' H' F' B', GS F B G F' B' → EnvS K F' B' G H' env' σ' → Φ.nx env' → Dd.nx σ' H'
  rt : ∀ d k v H' F' B', GS F B G F' B' → Hs F' B' H' → Same G H' → RepK K F' B' G H' k d v → Φ.rt d k → Dd.rt v H'
  bk : ∀ env' σ' H' F' B', GS F B G F' B' → EnvS K F' B' G H' env' σ' → Φ.bk env' → Dd.bk σ' H'
  ct : ∀ env' σ' H' F' B', GS F B G F' B' → EnvS K F' B' G H' env' σ' → Φ.ct env' → Dd.ct σ' H'
def tSS (K : PySem.W.Frag) (env : DEnv) (Φ : Outs) : TS := fun Dd σ H => ∃ F B G, EnvS K F B G H env σ ∧ Post K F B G Φ Dd
structure SS (X : Cx) (env : DEnv) (sts : List Stmt) (Φ : Outs) : Prop where
  ps : PSs X sts (tSS X.K env Φ)
structure S1 (X : Cx) (env : DEnv) (st : Stmt) (Φ : Outs) : Prop where
  ps : PS X st (tSS X.K env Φ)
theorem Post.gs {K : PySem.W.Frag} {F B G F1 B1 : Hp} {Φ : Outs} {Dd : Ends} (P : Post K F B G Φ Dd) (g : GS F B G F1 B1) : Post K F1 B1 G Φ Dd :=
  ⟨fun e σ H F' B' q E h => P.nx e σ H F' B' (g.trans q) E h, fun d k v H F' B' q s gh r h => P.rt d k v H F' B' (g.trans q) s gh r h, fun e σ H F' B' q E h => P.bk e σ H F' B' (g.trans q) E h, fun e σ H F' B' q E h => P.ct e σ H F' B' (g.trans q) E h⟩
section
variable {X : Cx} {env env' : DEnv} {Φ : Outs} {st : Stmt} {rest A Bs : List Stmt} {e a b c : Expr} {d x y z : D} {k k1 k2 : Kd} {pos : Pos} {p : Bool}
theorem ss_nil (h : Φ.nx env) : SS X env [] Φ := ⟨pss_nil.mono fun Dd σ H ⟨F, B, G, E, P⟩ => P.nx env σ H F B .refl E h⟩
abbrev Outs.thn (Φ : Outs) (X : Cx) (rest : List Stmt) : Outs := { Φ with nx := fun env' => SS X env' rest Φ }
theorem ss_cons (h : S1 X env st (Φ.thn X rest)) : SS X env (st :: rest) Φ := by
  have hu : PSs X rest (fun Dd σ H => ∃ env', SS X env' rest Φ ∧ tSS X.K env' Φ Dd σ H) := ⟨fun pins s σ H Dd I ⟨env', h1, h2⟩ => h1.ps.run pins s σ H Dd I h2⟩
  refine ⟨(pss_cons h.ps hu).mono fun Dd σ H ⟨F, B, G, E, P⟩ => ⟨F, B, G, E, ?_⟩⟩
  exact ⟨fun e σ H F' B' q E h => ⟨e, h, F', B', G, E, P.gs q⟩, P.rt, P.bk, P.ct⟩
theorem ss_one (h : S1 X env st Φ) : SS X env [st] Φ := ⟨(pss_one h.ps)⟩
theorem SS.imp {Ψ : Outs} (h : SS X env A Φ) (hn : ∀ e, Φ.nx e → Ψ.nx e) (hr : ∀ d k, Φ.rt d k → Ψ.rt d k) (hb : ∀ e, Φ.bk e → Ψ.bk e) (hc : ∀ e, Φ.ct e → Ψ.ct e) : SS X env A Ψ :=
  ⟨h.ps.mono fun Dd σ H ⟨F, B, G, E, P⟩ => ⟨F, B, G, E, fun e σ H F' B' q E h => P.nx e σ H F' B' q E (hn _ h), fun d k v H F' B' q s gh r h => P.rt d k v H F' B' q s gh r (hr _ _ h), fun e σ H F' B' q E h => P.bk e σ H F' B' q E (hb _ h), fun e σ H F' B' q E h => P.ct e σ H F' B' q E (hc _ h)⟩⟩
theorem RepK.slot {K : PySem.W.Frag} {F B G H0 H : Hp} {v : V} {s : Slot} (hs : Hs F B H) (gh : Same G H0) (so : SlotOf k d s) (r : RepK K F B H0 H k d v) : SlotS K F B G H s v := by
  cases so with
  | int => exact RepK.scalR rfl hs r
  | str => exact RepK.scalR rfl hs r
  | bl => exact RepK.scalR rfl hs r
  | non => exact RepK.scalR rfl hs r
  | own => obtain ⟨p, e, n, m, q⟩ := r; exact ⟨p, e, m, gh.free n, q⟩
  | cln => exact r
  | brw => exact r
theorem get_set {α : Type} {l : List α} {i j : Nat} {a b : α} (h : (l.set i a)[j]? = some b) : (j = i ∧ b = a ∧ i < l.length) ∨ (j ≠ i ∧ l[j]? = some b) := by
  by_cases e : i = j
  · subst e
    by_cases hl : i < l.length
    · rw [List.getElem?_set_self hl] at h; cases h; exact .inl ⟨rfl, rfl, hl⟩
    · rw [List.getElem?_eq_none (by rw [List.length_set]; omega)] at h; cases h
  · rw [List.getElem?_set_ne e] at h; exact .inr ⟨fun z => e z.symm, h⟩
theorem EnvS.set {K : PySem.W.Frag} {F B G H : Hp} {σ : St} {v : V} {s : Slot} {i : Nat} (E : EnvS K F B G H env σ) (h : SlotS K F B G H s v)
    (hd : ∀ d p, s = .own d → v = .ref p → ∀ (j : Nat) d', env[j]? = some (some (.own d')) → σ[j]? ≠ some (some (.ref p))) : EnvS K F B G H (env.set i (some s)) (σ.set i (some v)) := by
  refine ⟨E.hs, E.gh, by rw [List.length_set, List.length_set]; exact E.len, fun j t e => ?_, fun j m d d' p e1 e2 e3 e4 => ?_⟩
  · rcases get_set e with ⟨z, y, hl⟩ | ⟨z, y⟩
    · cases y
      rw [z, List.getElem?_set_self (by rw [← E.len]; exact hl)]
      exact ⟨v, rfl, h⟩
    · obtain ⟨u, h1, h2⟩ := E.at_ j t y
      exact ⟨u, by rw [List.getElem?_set_ne (Ne.symm z)]; exact h1, h2⟩
  · rcases get_set e1 with ⟨z1, y1, l1⟩ | ⟨z1, y1⟩ <;> rcases get_set e2 with ⟨z2, y2, l2⟩ | ⟨z2, y2⟩
    · rw [z1, z2]
    · rw [z1, List.getElem?_set_self (by rw [← E.len]; exact l1)] at e3
      rw [List.getElem?_set_ne (Ne.symm z2)] at e4
      cases e3
      exact absurd e4 (hd d p (Option.some.inj y1).symm rfl m d' y2)
    · rw [z2, List.getElem?_set_self (by rw [← E.len]; exact l2)] at e4
      rw [List.getElem?_set_ne (Ne.symm z1)] at e3
      cases e4
      exact absurd e3 (hd d' p (Option.some.inj y2).symm rfl j d y1)
    · rw [List.getElem?_set_ne (Ne.symm z1)] at e3
      rw [List.getElem?_set_ne (Ne.symm z2)] at e4
      exact E.dis j m d d' p y1 y2 e3 e4
theorem own_new {K : PySem.W.Frag} {F B G H : Hp} {σ : St} (E : EnvS K F B G H env σ) {q : Addr} (n : H q = none) : ∀ (j : Nat) d', env[j]? = some (some (.own d')) → σ[j]? ≠ some (some (.ref q)) := fun j d' e1 e2 => by
  obtain ⟨u, h1, p, h2, _, _, r⟩ := E.at_ j _ e1
  rw [e2] at h1; cases h1; cases h2
  exact r.some n
theorem s1_set (i : Nat) {n : Str} {s : Slot} {pos' : Pos} (hN : X.N.Nodup) (hi : X.N[i]? = some n) (hx : Loc X.env.scope n) (he : Ev X env e d k) (so : SlotOf k d s) (hs : swapsWith e (some (.Name n pos')) pos.line X.env = pure false)
    (hf : X.fn n = true ∨ X.env.scope.names.lookup n = some .local) (h : Φ.nx (env.set i (some s))) : S1 X env (.Assign [.Name n pos'] e pos) Φ :=
  ⟨(ps_set hN hi hx he.pe hs hf).mono fun Dd σ H ⟨F, B, G, E, P⟩ => ⟨F, B, E.e, fun v H' F' B' g r => by
    refine P.nx _ _ _ F' B' (g.gs E.gh) ((E.grow g).set (RepK.slot g.hs E.gh so r) fun d' p es ev => ?_) h
    subst es
    cases so with
    | own =>
      obtain ⟨q, e1, n, _, _⟩ := r
      rw [e1] at ev; cases ev
      exact own_new E n⟩⟩
theorem ss_set (i : Nat) {n : Str} {s : Slot} {pos' : Pos} (hN : X.N.Nodup) (hi : X.N[i]? = some n) (hx : Loc X.env.scope n) (he : Ev X env e d k) (so : SlotOf k d s) (hs : swapsWith e (some (.Name n pos')) pos.line X.env = pure false)
    (hf : X.fn n = true ∨ X.env.scope.names.lookup n = some .local) (h : SS X (env.set i (some s)) rest Φ) : SS X env (.Assign [.Name n pos'] e pos :: rest) Φ := ss_cons (s1_set i hN hi hx he so hs hf h)
theorem s1_ret (he : Ev X env e d k) (h : Φ.rt d k) : S1 X env (.Return (some e) pos) Φ :=
  ⟨(ps_ret he.pe).mono fun Dd σ H ⟨F, B, G, E, P⟩ => ⟨F, B, E.e, fun v H' F' B' g r => P.rt d k v H' F' B' (g.gs E.gh) g.hs (E.gh.trans g.h) (RepK.back E.gh r) h⟩⟩
theorem ss_ret (he : Ev X env e d k) (h : Φ.rt d k) : SS X env (.Return (some e) pos :: rest) Φ := ss_cons (s1_ret he h)
theorem ss_retO (i : Nat) {n : Str} {pos' : Pos} (hN : X.N[i]? = some n) (hv : Vis X.env.scope n) (he : env[i]? = some (some (.own d))) (h : Φ.rt d .own) (hd : (n == ("__debug__" : Str)) = false) (hcd : (n == ("__classdict__" : Str)) = false) : SS X env (.Return (some (.Name n pos')) pos :: rest) Φ :=
  ss_cons ⟨(ps_ret (pe_var hN hv hd hcd)).mono fun Dd σ H ⟨F, B, G, E, P⟩ => by
    obtain ⟨v, h1, p, e1, n1, n2, r⟩ := E.at_ i _ he
    subst e1
    exact ⟨_, h1, P.rt d .own _ H F B .refl E.hs E.gh ⟨p, rfl, n2, n1, r⟩ h⟩⟩
theorem ss_retN (h : Φ.rt .non .cln) : SS X env (.Return none pos :: rest) Φ := ss_cons ⟨ps_retN.mono fun Dd σ H ⟨F, B, G, E, P⟩ => P.rt .non .cln _ H F B .refl E.hs E.gh .non h⟩
theorem pss_false {sts : List Stmt} : PSs X sts (fun _ _ _ => False) := ⟨fun _ _ _ _ _ _ h => h.elim⟩
theorem s1_if (hc : Et X env c p) (ha : p = true → SS X env A Φ) (hb : p = false → SS X env Bs Φ) : S1 X env (.If c A Bs pos) Φ := by
  cases p with
  | true =>
    exact ⟨(ps_if hc.pt (ha rfl).ps pss_false).mono fun Dd σ H ⟨F, B, G, E, P⟩ => ⟨F, B, E.e, fun H' F' B' g => by
      show if true = true then _ else _
      rw [if_pos rfl]
      exact ⟨F', B', G, E.grow g, P.gs (g.gs E.gh)⟩⟩⟩
  | false =>
    exact ⟨(ps_if hc.pt pss_false (hb rfl).ps).mono fun Dd σ H ⟨F, B, G, E, P⟩ => ⟨F, B, E.e, fun H' F' B' g => by
      show if false = true then _ else _
      rw [if_neg Bool.false_ne_true]
      exact ⟨F', B', G, E.grow g, P.gs (g.gs E.gh)⟩⟩⟩
theorem ss_if (hc : Et X env c p) (ha : p = true → SS X env A (Φ.thn X rest)) (hb : p = false → SS X env Bs (Φ.thn X rest)) : SS X env (.If c A Bs pos :: rest) Φ := ss_cons (s1_if hc ha hb)
theorem ss_ifJ (env' : DEnv) (hc : Et X env c p) (ha : p = true → SS X env A { Φ with nx := fun e => e = env' }) (hb : p = false → SS X env Bs { Φ with nx := fun e => e = env' }) (h : SS X env' rest Φ) : SS X env (.If c A Bs pos :: rest) Φ :=
  ss_cons (s1_if hc (fun z => (ha z).imp (fun e w => by rw [w]; exact h) (fun _ _ w => w) (fun _ w => w) fun _ w => w) fun z => (hb z).imp (fun e w => by rw [w]; exact h) (fun _ _ w => w) (fun _ w => w) fun _ w => w)
theorem ss_pass (h : SS X env rest Φ) : SS X env (.Pass pos :: rest) Φ := ss_cons ⟨ps_pass.mono fun Dd σ H ⟨F, B, G, E, P⟩ => P.nx _ _ _ F B .refl E h⟩
theorem ss_brk (h : Φ.bk env) : SS X env (.Break pos :: rest) Φ := ss_cons ⟨ps_break.mono fun Dd σ H ⟨F, B, G, E, P⟩ => P.bk _ _ _ F B .refl E h⟩
theorem ss_cont (h : Φ.ct env) : SS X env (.Continue pos :: rest) Φ := ss_cons ⟨ps_continue.mono fun Dd σ H ⟨F, B, G, E, P⟩ => P.ct _ _ _ F B .refl E h⟩
def Wk : DEnv → DEnv → Prop
  | [], [] => True
  | a :: r, b :: s => (b = none ∨ b = a) ∧ Wk r s
  | _, _ => False
theorem Wk.len : ∀ {a b : DEnv}, Wk a b → a.length = b.length
  | [], [], _ => rfl
  | _ :: _, _ :: _, h => congrArg Nat.succ (Wk.len h.2)
  | [], _ :: _, h => h.elim
  | _ :: _, [], h => h.elim
theorem Wk.get : ∀ {a b : DEnv} {i : Nat} {s : Slot}, Wk a b → b[i]? = some (some s) → a[i]? = some (some s)
  | [], [], _, _, _, e => by simp at e
  | a :: _, b :: _, 0, s, h, e => by
    have e' : b = some s := by simpa using e
    rcases h.1 with z | z
    · rw [z] at e'; cases e'
    · simpa [← z] using e
  | _ :: _, _ :: _, i + 1, s, h, e => by
    have := Wk.get (i := i) (s := s) h.2 (by simpa using e)
    simpa using this
  | [], _ :: _, _, _, h, _ => h.elim
  | _ :: _, [], _, _, h, _ => h.elim
theorem EnvS.wk {K : PySem.W.Frag} {F B G H : Hp} {σ : St} (E : EnvS K F B G H env σ) (w : Wk env env') : EnvS K F B G H env' σ :=
  ⟨E.hs, E.gh, by rw [← w.len]; exact E.len, fun i s h => E.at_ i s (w.get h), fun i j d d' p h1 h2 => E.dis i j d d' p (w.get h1) (w.get h2)⟩
theorem ss_wk (env' : DEnv) (w : Wk env env') (h : SS X env' A Φ) : SS X env A Φ := ⟨h.ps.mono fun Dd σ H ⟨F, B, G, E, P⟩ => ⟨F, B, G, E.wk w, P⟩⟩
theorem Wk.refl : ∀ a : DEnv, Wk a a
  | [] => trivial
  | _ :: r => ⟨.inr rfl, Wk.refl r⟩
theorem EnvS.frz {K : PySem.W.Frag} {F B G H : Hp} {σ : St} {i : Nat} (E : EnvS K F B G H env σ) (he : env[i]? = some (some (.own d))) : ∃ F' B', GS F B G F' B' ∧ EnvS K F' B' G H (env.set i (some (.frz d))) σ := by
  obtain ⟨v, h1, p, e1, n1, n2, r⟩ := E.at_ i _ he
  subst e1
  refine ⟨frzAt F H p, frzAt B H p, ⟨frz_same E.hs.fh p, frz_same E.hs.bh p, fun q g1 h2 => ?_, fun q g1 h2 => ?_⟩, E.hs.frz p, E.gh, by rw [List.length_set]; exact E.len, fun j t e => ?_, fun j m d1 d2 q e1 e2 e3 e4 => ?_⟩
  · rcases frz_ne h2 with z | z
    · subst z; exact absurd n2 g1
    · exact z
  · rcases frz_ne h2 with z | z
    · subst z; exact absurd n2 g1
    · exact z
  · rcases get_set e with ⟨z, y, hl⟩ | ⟨z, y⟩
    · cases y
      rw [z]
      exact ⟨_, h1, r.frz E.hs.fh⟩
    · obtain ⟨u, h3, h4⟩ := E.at_ j t y
      refine ⟨u, h3, ?_⟩
      cases t with
      | own d' =>
        obtain ⟨q, e5, n3, n4, r'⟩ := h4
        subst e5
        refine ⟨q, rfl, ?_, n4, r'.grow (frz_same E.hs.fh p) (.refl _)⟩
        have ne : q ≠ p := fun w => by subst w; exact z (E.dis j i d' d q y he h3 h1)
        unfold frzAt
        rw [if_neg ne]; exact n3
      | frz d' => exact Rep.mono (frz_same E.hs.fh p) h4
      | bor d' => exact Rep.mono (frz_same E.hs.bh p) h4
  · rcases get_set e1 with ⟨z1, y1, l1⟩ | ⟨z1, y1⟩
    · cases y1
    · rcases get_set e2 with ⟨z2, y2, l2⟩ | ⟨z2, y2⟩
      · cases y2
      · exact E.dis j m d1 d2 q y1 y2 e3 e4
theorem ss_frz (i : Nat) (he : env[i]? = some (some (.own d))) (h : SS X (env.set i (some (.frz d))) A Φ) : SS X env A Φ := ⟨h.ps.mono fun Dd σ H ⟨F, B, G, E, P⟩ => by
  obtain ⟨F', B', g, E'⟩ := E.frz he
  exact ⟨F', B', G, E', P.gs g⟩⟩
end
end DL
namespace DL
open PySem PySem.Spec L2
open PyProof.Rows hiding St
inductive Tg where
  | nm (i : Nat) | tp (ts : List Tg)
mutual
def gOf (K : PySem.W.Frag) : Tg → TG
  | .nm i => gName i
  | .tp ts => gTup K (gLen ts) (gsOf K ts)
def gsOf (K : PySem.W.Frag) : List Tg → TGs
  | [] => gNil
  | t :: ts => gCons (gOf K t) (gsOf K ts)
def gLen : List Tg → Nat
  | [] => 0
  | _ :: ts => gLen ts + 1
end
mutual
def Tg.ix : Tg → List Nat
  | .nm i => [i]
  | .tp ts => Tg.ixs ts
def Tg.ixs : List Tg → List Nat
  | [] => []
  | t :: ts => t.ix ++ Tg.ixs ts
end
inductive K2 where
  | c | b
abbrev K2.k : K2 → Kd
  | .c => .cln | .b => .brw
def slot2 (k : K2) (d : D) : Slot := match d with
  | .int i => .frz (.int i)
  | .str i => .frz (.str i)
  | .bl i => .frz (.bl i)
  | .non => .frz .non
  | d => match k with
    | .c => .frz d
    | .b => .bor d
mutual
def bnd (k : K2) : Tg → D → DEnv → Option DEnv
  | .nm i, d, env => some (env.set i (some (slot2 k d)))
  | .tp ts, .tup ds, env => bnds k ts ds env
  | .tp _, _, _ => none
def bnds (k : K2) : List Tg → List D → DEnv → Option DEnv
  | [], [], env => some env
  | t :: ts, d :: ds, env => match bnd k t d env with
    | some e => bnds k ts ds e
    | none => none
  | [], _ :: _, _ => none
  | _ :: _, [], _ => none
end
structure TgOk (X : Cx) (e : Expr) (t : Tg) : Prop where
  pg : PG X e (gOf X.K t)
structure TgsOk (X : Cx) (e : List Expr) (t : List Tg) : Prop where
  pg : PGs X e (gsOf X.K t)
section
variable {X : Cx} {pos : Pos}
theorem tg_nm (i : Nat) {n : Str} (hN : X.N.Nodup) (hi : X.N[i]? = some n) (hx : Loc X.env.scope n) (hf : X.fn n = true ∨ X.env.scope.names.lookup n = some .local) : TgOk X (.Name n pos) (.nm i) := ⟨pg_name hN hi hx hf⟩
theorem tgs_nil : TgsOk X [] [] := ⟨pgs_nil⟩
theorem tgs_cons {e : Expr} {es : List Expr} {t : Tg} {ts : List Tg} (h1 : TgOk X e t) (h2 : TgsOk X es ts) (hs : (assignEach (e :: es) X.env).map (·.2) = assign e X.env :: (assignEach es X.env).map (·.2)) : TgsOk X (e :: es) (t :: ts) := ⟨pgs_cons h1.pg h2.pg hs⟩
theorem tg_tp {es : List Expr} {ts : List Tg} {k : Nat} (hc : X.calm = true) (h : TgsOk X es ts) (hn : (assignEach es X.env).length = gLen ts) (hst : (assignEach es X.env).findIdx? (·.1) = none) : TgOk X (.Tuple es k pos) (.tp ts) := ⟨pg_tup hc h.pg hn hst⟩
end
section
variable {K : PySem.W.Frag} {F B H : Hp} {k : K2} {Pv : DEnv → St → Prop}
theorem slot2_rep {d : D} {v : V} (r : RepK K F B H H k.k d v) : (∃ d', slot2 k d = .frz d' ∧ Rep K F d' v) ∨ ∃ d', slot2 k d = .bor d' ∧ Rep K B d' v := by
  have sc : d.sc = true → ∀ {B' : Hp}, Rep K B' d v → Rep K F d v := fun h _ r => Rep.scal h r
  have any : ∃ B', Rep K B' d v := by cases k with | c => exact ⟨F, r⟩ | b => exact ⟨B, r⟩
  obtain ⟨B', r'⟩ := any
  cases d with
  | int i => exact .inl ⟨_, rfl, sc rfl r'⟩
  | str i => exact .inl ⟨_, rfl, sc rfl r'⟩
  | bl i => exact .inl ⟨_, rfl, sc rfl r'⟩
  | non => exact .inl ⟨_, rfl, sc rfl r'⟩
  | lst _ => cases k with | c => exact .inl ⟨_, rfl, r⟩ | b => exact .inr ⟨_, rfl, r⟩
  | tup _ => cases k with | c => exact .inl ⟨_, rfl, r⟩ | b => exact .inr ⟨_, rfl, r⟩
  | dK _ => cases k with | c => exact .inl ⟨_, rfl, r⟩ | b => exact .inr ⟨_, rfl, r⟩
  | dT _ => cases k with | c => exact .inl ⟨_, rfl, r⟩ | b => exact .inr ⟨_, rfl, r⟩
  | obj _ _ => cases k with | c => exact .inl ⟨_, rfl, r⟩ | b => exact .inr ⟨_, rfl, r⟩
  | scr _ => cases k with | c => exact .inl ⟨_, rfl, r⟩ | b => exact .inr ⟨_, rfl, r⟩
  | adr _ => cases k with | c => exact .inl ⟨_, rfl, r⟩ | b => exact .inr ⟨_, rfl, r⟩
def SetOk (K : PySem.W.Frag) (F B : Hp) (Pv : DEnv → St → Prop) (vs : Nat → Prop) : Prop :=
  ∀ env σ (i : Nat) s v, vs i → Pv env σ → ((∃ d', s = .frz d' ∧ Rep K F d' v) ∨ ∃ d', s = .bor d' ∧ Rep K B d' v) → Pv (env.set i (some s)) (σ.set i (some v))
theorem gLen_eq : ∀ ts : List Tg, gLen ts = ts.length
  | [] => rfl
  | _ :: ts => congrArg Nat.succ (gLen_eq ts)
theorem bnds_len : ∀ {ts : List Tg} {ds : List D} {env env' : DEnv}, bnds k ts ds env = some env' → ds.length = gLen ts
  | [], [], _, _, _ => rfl
  | t :: ts, d :: ds, env, env', h => by
    unfold bnds at h
    cases q : bnd k t d env with
    | none => rw [q] at h; cases h
    | some e => rw [q] at h; exact congrArg Nat.succ (bnds_len h)
  | [], _ :: _, _, _, h => nomatch h
  | _ :: _, [], _, _, h => nomatch h
mutual
theorem bnd_ok (s : Hs F B H) {vs : Nat → Prop} (so : SetOk K F B Pv vs) : ∀ {t : Tg} {d : D} {v : V} {env env' : DEnv} {σ : St} {Q : St → Hp → Prop}, (∀ j ∈ t.ix, vs j) → bnd k t d env = some env' → RepK K F B H H k.k d v → Pv env σ →
    (∀ σ', Pv env' σ' → Q σ' H) → gOf K t v σ H Q
  | .nm i, d, v, env, env', σ, Q, hv, h, r, p, q => by
    unfold bnd at h
    cases h
    exact q _ (so env σ i _ v (hv i (by simp [Tg.ix])) p (slot2_rep r))
  | .tp ts, .tup ds, v, env, env', σ, Q, hv, h, r, p, q => by
    unfold bnd at h
    have r' : ∃ B', Same B' H ∧ Rep K B' (.tup ds) v ∧ (∀ {d u}, Reps K B' d u → repsK K F B H k.k d u) := by
      cases k with
      | c => exact ⟨F, s.fh, r, fun z => z⟩
      | b => exact ⟨B, s.bh, r, fun z => z⟩
    obtain ⟨B', bh, r, up⟩ := r'
    cases r with
    | tup hq hr => exact ⟨_, _, rfl, Same.seqT bh hq, by rw [hr.length]; exact bnds_len h, bnds_ok s so (by simpa [Tg.ix] using hv) h (up hr) p q⟩
  | .tp _, .non, _, _, _, _, _, _, h, _, _, _ => nomatch h
  | .tp _, .bl _, _, _, _, _, _, _, h, _, _, _ => nomatch h
  | .tp _, .int _, _, _, _, _, _, _, h, _, _, _ => nomatch h
  | .tp _, .str _, _, _, _, _, _, _, h, _, _, _ => nomatch h
  | .tp _, .lst _, _, _, _, _, _, _, h, _, _, _ => nomatch h
  | .tp _, .dK _, _, _, _, _, _, _, h, _, _, _ => nomatch h
  | .tp _, .dT _, _, _, _, _, _, _, h, _, _, _ => nomatch h
  | .tp _, .obj _ _, _, _, _, _, _, _, h, _, _, _ => nomatch h
  | .tp _, .scr _, _, _, _, _, _, _, h, _, _, _ => nomatch h
  | .tp _, .adr _, _, _, _, _, _, _, h, _, _, _ => nomatch h
theorem bnds_ok (s : Hs F B H) {vs : Nat → Prop} (so : SetOk K F B Pv vs) : ∀ {ts : List Tg} {ds : List D} {us : List V} {env env' : DEnv} {σ : St} {Q : St → Hp → Prop}, (∀ j ∈ Tg.ixs ts, vs j) → bnds k ts ds env = some env' → repsK K F B H k.k ds us → Pv env σ →
    (∀ σ', Pv env' σ' → Q σ' H) → gsOf K ts us σ H Q
  | [], [], us, env, env', σ, Q, hv, h, r, p, q => by
    unfold bnds at h
    cases h
    have e : us = [] := List.length_eq_zero_iff.mp (by rw [r.len]; rfl)
    exact ⟨e, q σ p⟩
  | t :: ts, d :: ds, us, env, env', σ, Q, hv, h, r, p, q => by
    have r' : ∃ u ur, us = u :: ur ∧ RepK K F B H H k.k d u ∧ repsK K F B H k.k ds ur := by
      cases k with
      | c => cases (show Reps K F (d :: ds) us from r) with | cons a b => exact ⟨_, _, rfl, a, b⟩
      | b => cases (show Reps K B (d :: ds) us from r) with | cons a b => exact ⟨_, _, rfl, a, b⟩
    obtain ⟨u, ur, e, r1, r2⟩ := r'
    unfold bnds at h
    cases w : bnd k t d env with
    | none => rw [w] at h; cases h
    | some e1 =>
      rw [w] at h
      refine ⟨u, ur, e, bnd_ok s so (fun j hj => hv j (by simp [Tg.ixs, hj])) w r1 p fun σ1 p1 => ?_⟩
      exact bnds_ok s so (fun j hj => hv j (by simp [Tg.ixs, hj])) h r2 p1 q
  | [], _ :: _, _, _, _, _, _, _, h, _, _, _ => nomatch h
  | _ :: _, [], _, _, _, _, _, _, h, _, _, _ => nomatch h
end
end
structure ItOk (K : PySem.W.Frag) (P F B : Hp) (J : It) (k : K2) (ds : List D) : Prop where
  go : ∀ (i : Nat) d H, Same P H → ds[i]? = some d → J.go i H
  yl : ∀ (i : Nat) d H x H', Same P H → ds[i]? = some d → J.yld i H x H' → (H' = H ∧ RepK K F B H H k.k d x) ∨ ∃ T vs es, H T = none ∧ H' = upd H T (.tup vs) ∧ x = .ref T ∧ d = .tup es ∧ repsK K F B H k.k es vs
  st : ∀ H, Same P H → J.stop ds.length H
def tEI (K : PySem.W.Frag) (env : DEnv) (ds : List D) (k : K2) (fx : Bool) : TI := fun σ H R => ∃ F B, EnvE K F B H env σ ∧ ∀ J H' F' B', Grow F B H F' B' H' → ItOk K (if fx then B' else H') F' B' J k ds → R J H'
structure EI (X : Cx) (env : DEnv) (tg iter : Expr) (ds : List D) (k : K2) (fx : Bool) : Prop where
  pi : PI X tg iter (tEI X.K env ds k fx)
theorem _root_.L2.PI.mono {X : Cx} {tg e : Expr} {t t' : TI} (h : PI X tg e t) (m : ∀ σ H R, t' σ H R → t σ H R) : PI X tg e t' := ⟨fun pins s σ H Q I q => h.run pins s σ H Q I (m σ H Q q)⟩
section
variable {X : Cx} {env : DEnv} {tg e a b : Expr} {ds : List D} {k1 k2 : Kd} {i j : Int} {pos p : Pos}
theorem itl_ok {K : PySem.W.Frag} {P F B : Hp} {l : Addr} {vs : List V} {k : K2} (h : P l = some (.lst vs)) (r : repsK K F B P k.k ds vs) : ItOk K P F B (Itl K l) k ds := by
  have uniq : ∀ {H : Hp} {xs : List V}, Same P H → ∀ {i : Nat} {x : V}, (∀ xs, SqL K H l xs → xs[i]? = some x) → vs[i]? = some x := fun s i x y => y vs (SqL.of (s _ _ h))
  refine ⟨fun i d H s e => ?_, fun i d H x H' s e y => ?_, fun H s => ⟨vs, SqL.of (s _ _ h), by rw [r.len]; exact Nat.le_refl _⟩⟩
  · obtain ⟨u, e1, _⟩ := repsK.get (by cases k <;> simp) r e
    exact ⟨vs, u, SqL.of (s _ _ h), e1⟩
  · obtain ⟨e1, y⟩ := y
    obtain ⟨u, e2, r2⟩ := repsK.get (by cases k <;> simp) r e
    have := y vs (SqL.of (s _ _ h))
    rw [e2] at this; cases this
    refine .inl ⟨e1, ?_⟩
    cases k <;> exact r2
theorem itt_ok {K : PySem.W.Frag} {P F B : Hp} {l : Addr} {vs : List V} {k : K2} (h : SqT K P l vs) (r : repsK K F B P k.k ds vs) : ItOk K P F B (Itt K l) k ds := by
  refine ⟨fun i d H s e => ?_, fun i d H x H' s e y => ?_, fun H s => ⟨vs, Same.seqT s h, by rw [r.len]; exact Nat.le_refl _⟩⟩
  · obtain ⟨u, e1, _⟩ := repsK.get (by cases k <;> simp) r e
    exact ⟨vs, u, Same.seqT s h, e1⟩
  · obtain ⟨e1, y⟩ := y
    obtain ⟨u, e2, r2⟩ := repsK.get (by cases k <;> simp) r e
    have := y vs (Same.seqT s h)
    rw [e2] at this; cases this
    refine .inl ⟨e1, ?_⟩
    cases k <;> exact r2
theorem ei_lstC (h : Ev X env e (.lst ds) .cln) : EI X env tg e ds .c true := ⟨(pi_list h.pe).mono fun σ H R ⟨F, B, E, q⟩ => ⟨F, B, E, fun v H1 F1 B1 g r => by
  cases (show Rep X.K F1 (.lst ds) v from r) with
  | lst s t => exact ⟨_, rfl, ⟨_, SqL.of (g.hs.fh _ _ s)⟩, q _ H1 F1 B1 g (itl_ok (g.hs.fb _ _ s) t)⟩⟩⟩
theorem ei_lstB (h : Ev X env e (.lst ds) .brw) : EI X env tg e ds .b true := ⟨(pi_list h.pe).mono fun σ H R ⟨F, B, E, q⟩ => ⟨F, B, E, fun v H1 F1 B1 g r => by
  cases (show Rep X.K B1 (.lst ds) v from r) with
  | lst s t => exact ⟨_, rfl, ⟨_, SqL.of (g.hs.bh _ _ s)⟩, q _ H1 F1 B1 g (itl_ok s t)⟩⟩⟩
theorem ei_lstS (h : Ev X env e (.lst ds) .shl) : EI X env tg e ds .c false := ⟨(pi_list h.pe).mono fun σ H R ⟨F, B, E, q⟩ => ⟨F, B, E, fun v H1 F1 B1 g r => by
  obtain ⟨l, vs, e1, s, t⟩ := r
  exact ⟨_, e1, ⟨_, SqL.of s⟩, q _ H1 F1 B1 g (itl_ok s t)⟩⟩⟩
theorem ei_tupC (h : Ev X env e (.tup ds) .cln) : EI X env tg e ds .c true := ⟨(pi_tup h.pe).mono fun σ H R ⟨F, B, E, q⟩ => ⟨F, B, E, fun v H1 F1 B1 g r => by
  cases (show Rep X.K F1 (.tup ds) v from r) with
  | tup s t => exact ⟨_, rfl, ⟨_, Same.seqT g.hs.fh s⟩, q _ H1 F1 B1 g (itt_ok (Same.seqT g.hs.fb s) t)⟩⟩⟩
theorem ei_tupB (h : Ev X env e (.tup ds) .brw) : EI X env tg e ds .b true := ⟨(pi_tup h.pe).mono fun σ H R ⟨F, B, E, q⟩ => ⟨F, B, E, fun v H1 F1 B1 g r => by
  cases (show Rep X.K B1 (.tup ds) v from r) with
  | tup s t => exact ⟨_, rfl, ⟨_, Same.seqT g.hs.bh s⟩, q _ H1 F1 B1 g (itt_ok s t)⟩⟩⟩
def rngD (lo : Int) (n : Nat) : List D := (List.range n).map fun i : Nat => D.int (lo + (i : Int))
theorem rngD_len (lo : Int) (n : Nat) : (rngD lo n).length = n := by unfold rngD; rw [List.length_map, List.length_range]
theorem rngD_at {lo : Int} {n i : Nat} {d : D} (h : (rngD lo n)[i]? = some d) : i < n ∧ d = .int (lo + (i : Int)) := by
  have hi : i < n := by
    have := (List.getElem?_eq_some_iff.mp h).1
    rwa [rngD_len] at this
  refine ⟨hi, ?_⟩
  unfold rngD at h
  rw [List.getElem?_map, List.getElem?_range hi] at h
  exact (Option.some.inj h).symm
theorem itr_ok {K : PySem.W.Frag} {P F B : Hp} {lo : Int} {n : Nat} : ItOk K P F B (Itr lo n) .c (rngD lo n) :=
  ⟨fun i d H s e => (rngD_at e).1, fun i d H x H' s e y => .inl ⟨y.1, by rw [(rngD_at e).2, y.2]; exact .int _⟩, fun H s => by rw [rngD_len]; exact Nat.le_refl _⟩
theorem ei_rng1 (hg : Gl X "range") (hm : X.mg "range" = none) (ha : Ev X env a (.int j) k1) (h1 : -(2 ^ 62) ≤ j) (h2 : j < 2 ^ 62) (hs : starEach [a] X.env = [(false, eval a X.env)]) : EI X env tg (.Call (.Name "range" p) [a] [] pos) (rngD 0 j.toNat) .c true :=
  ⟨(pi_range1 hg hm (pa_cons ha.scal.pe pa_nil hs) hs).mono fun σ H R ⟨F, B, E, q⟩ => ⟨F, B, E, fun v H1 F1 B1 g r => by
    cases (show Rep X.K F1 (.int j) v from r)
    exact ⟨j, rfl, h1, h2, q _ H1 F1 B1 g itr_ok⟩⟩⟩
theorem ei_rng2 (hg : Gl X "range") (hm : X.mg "range" = none) (ha : Ev X env a (.int i) k1) (hb : Ev X env b (.int j) k2) (h1 : -(2 ^ 62) ≤ i) (h2 : i < 2 ^ 62) (h3 : -(2 ^ 62) ≤ j) (h4 : j < 2 ^ 62) (hs : starEach [a, b] X.env = [(false, eval a X.env), (false, eval b X.env)])
    (hs2 : starEach [b] X.env = [(false, eval b X.env)]) : EI X env tg (.Call (.Name "range" p) [a, b] [] pos) (rngD i (j - i).toNat) .c true :=
  ⟨(pi_range2 hg hm (pa_cons ha.scal.pe (pa_cons hb.scal.pe pa_nil hs2) (hs.trans (by rw [hs2]))) hs hs2).mono fun σ H R ⟨F, B, E, q⟩ => ⟨F, B, E, fun v H1 F1 B1 g r => ⟨F1, B1, E.grow g, fun u H2 F2 B2 g2 r2 => by
    cases (show Rep X.K F1 (.int i) v from r)
    cases (show Rep X.K F2 (.int j) u from r2)
    exact ⟨i, j, rfl, ⟨h1, h2, h3, h4⟩, q _ H2 F2 B2 (g.trans g2) itr_ok⟩⟩⟩⟩
end
section
variable {X : Cx} {env : DEnv} {Φ : Outs} {rest body : List Stmt} {tg iter : Expr} {ds : List D} {k : K2} {t : Tg} {pos : Pos}
theorem RepK.mono2 {K : PySem.W.Frag} {F B H F' B' H' : Hp} {d : D} {v : V} (f : Same F F') (b : Same B B') (r : RepK K F B H H k.k d v) : RepK K F' B' H' H' k.k d v := by
  cases k with
  | c => exact Rep.mono f r
  | b => exact Rep.mono b r
theorem repsK.mono2 {K : PySem.W.Frag} {F B H F' B' H' : Hp} {d : List D} {v : List V} (f : Same F F') (b : Same B B') (r : repsK K F B H k.k d v) : repsK K F' B' H' k.k d v := by
  cases k with
  | c => exact Reps.mono f r
  | b => exact Reps.mono b r
theorem EnvS.setOk {K : PySem.W.Frag} {F B G H : Hp} : SetOk K F B (fun env σ => EnvS K F B G H env σ) fun _ => True := fun env σ i s v _ E h => by
  rcases h with ⟨d, e, r⟩ | ⟨d, e, r⟩ <;> subst e
  · exact E.set r fun d p es => nomatch es
  · exact E.set r fun d p es => nomatch es
theorem yl_grow {K : PySem.W.Frag} {F B H H' : Hp} {d : D} {x : V} (s : Hs F B H) (h : (H' = H ∧ RepK K F B H H k.k d x) ∨ ∃ T vs es, H T = none ∧ H' = upd H T (.tup vs) ∧ x = .ref T ∧ d = .tup es ∧ repsK K F B H k.k es vs) :
    ∃ F' B', Grow F B H F' B' H' ∧ RepK K F' B' H' H' k.k d x := by
  rcases h with ⟨e, r⟩ | ⟨T, vs, es, n, e, ex, ed, r⟩
  · subst e
    exact ⟨F, B, .refl s, r⟩
  · subst e ex ed
    have g := grow_cln (o := .tup vs) s n
    refine ⟨_, _, g, ?_⟩
    cases k with
    | c => exact Rep.tup (SqT.of upd_same) (Reps.mono g.f r)
    | b => exact Rep.tup (SqT.of upd_same) (Reps.mono g.b r)
theorem s1_for (hp : PassesOwn (model X.prog X.w) X.A X.env X.xe) (hc : X.calm = true) (hi : EI X env tg iter ds k true) (ht : TgOk X tg t) (hs : ∀ x, foldedSetIterable iter X.env x = pure x)
    (Inv : Nat → DEnv → Prop) (h0 : Inv 0 env) (step : ∀ (i : Nat) d env1, ds[i]? = some d → Inv i env1 → ∃ env2, bnd k t d env1 = some env2 ∧ SS X env2 body { nx := Inv (i + 1), ct := Inv (i + 1), bk := Φ.nx, rt := Φ.rt })
    (done : ∀ env1, Inv ds.length env1 → Φ.nx env1) : S1 X env (.For tg iter body [] pos) Φ := by
  have hb : PSs X body (fun Dd σ H => ∃ env Ψ, SS X env body Ψ ∧ tSS X.K env Ψ Dd σ H) := ⟨fun pins s σ H Dd I ⟨env', Ψ, h1, h2⟩ => h1.ps.run pins s σ H Dd I h2⟩
  refine ⟨(ps_for hp hc hi.pi ht.pg hb hs).mono fun Dd σ H ⟨F, B, G, E, P⟩ => ⟨F, B, E.e, fun J H1 F1 B1 g it => ?_⟩⟩
  have P1 := P.gs (g.gs E.gh)
  have E1 := E.grow g
  let W : Nat → St → Hp → Prop := fun i σ H => ∃ env1 F2 B2, Inv i env1 ∧ GS F1 B1 G F2 B2 ∧ EnvS X.K F2 B2 G H env1 σ
  refine ⟨fun i m σ H => m = ds.length - i ∧ i ≤ ds.length ∧ W i σ H, ⟨_, rfl, Nat.zero_le _, env, F1, B1, h0, .refl, E1⟩, ?_⟩
  rintro i m σ2 H2 ⟨rfl, hle, env1, F2, B2, hI, gs2, E2⟩
  have sP : Same (if true = true then B1 else H1) H2 := gs2.b.trans E2.hs.bh
  by_cases hlt : i < ds.length
  · have hd : ds[i]? = some ds[i] := List.getElem?_eq_getElem hlt
    refine .inr ⟨it.go i _ H2 sP hd, W (i + 1), fun σ' H' w => ⟨ds.length - (i + 1), by omega, rfl, hlt, w⟩, fun x H' y => ?_⟩
    have y1 := it.yl i _ H2 x H' sP hd y
    have y2 : (H' = H2 ∧ RepK X.K F2 B2 H2 H2 k.k ds[i] x) ∨ ∃ T vs es, H2 T = none ∧ H' = upd H2 T (.tup vs) ∧ x = .ref T ∧ ds[i] = .tup es ∧ repsK X.K F2 B2 H2 k.k es vs := by
      rcases y1 with ⟨e, r⟩ | ⟨T, vs, es, n, e, ex, ed, r⟩
      · exact .inl ⟨e, RepK.mono2 gs2.f gs2.b r⟩
      · exact .inr ⟨T, vs, es, n, e, ex, ed, repsK.mono2 gs2.f gs2.b r⟩
    obtain ⟨F3, B3, g3, r3⟩ := yl_grow E2.hs y2
    have E3 := E2.grow g3
    obtain ⟨env2, eb, hS⟩ := step i _ env1 hd hI
    refine bnd_ok g3.hs (EnvS.setOk (G := G) (H := H')) (fun _ _ => trivial) eb r3 E3 fun σ4 E4 => ⟨env2, _, hS, F3, B3, G, E4, ?_⟩
    have gs3 : GS F1 B1 G F3 B3 := gs2.trans (g3.gs E2.gh)
    exact ⟨fun e σ H F' B' q E h => ⟨e, F', B', h, gs3.trans q, E⟩, fun d k v H F' B' q s gh r h => P1.rt d k v H F' B' (gs3.trans q) s gh r h, fun e σ H F' B' q E h => P1.nx e σ H F' B' (gs3.trans q) E h, fun e σ H F' B' q E h => ⟨e, F', B', h, gs3.trans q, E⟩⟩
  · have e : i = ds.length := by omega
    subst e
    exact .inl ⟨it.st H2 sP, P1.nx env1 σ2 H2 F2 B2 gs2 E2 (done env1 hI)⟩
theorem ss_for (hp : PassesOwn (model X.prog X.w) X.A X.env X.xe) (hc : X.calm = true) (hi : EI X env tg iter ds k true) (ht : TgOk X tg t) (hs : ∀ x, foldedSetIterable iter X.env x = pure x)
    (Inv : Nat → DEnv → Prop) (h0 : Inv 0 env) (step : ∀ (i : Nat) d env1, ds[i]? = some d → Inv i env1 → ∃ env2, bnd k t d env1 = some env2 ∧ SS X env2 body { nx := Inv (i + 1), ct := Inv (i + 1), bk := fun e => SS X e rest Φ, rt := Φ.rt })
    (done : ∀ env1, Inv ds.length env1 → SS X env1 rest Φ) : SS X env (.For tg iter body [] pos :: rest) Φ := ss_cons (s1_for hp hc hi ht hs Inv h0 step done)
end
end DL
namespace DL
open PySem PySem.Spec L2
open PyProof.Rows hiding St
section
variable {X : Cx} {env : DEnv} {Φ : Outs} {rest body : List Stmt} {e a b c : Expr} {ds : List D} {d d' x y z : D} {k k1 k2 kz : Kd} {pos : Pos} {i : Nat} {p : Bool}
theorem s1_while (hp : PassesOwn (model X.prog X.w) X.A X.env X.xe) (Inv : Nat → DEnv → Prop) (m0 : Nat) (h0 : Inv m0 env)
    (step : ∀ m env1, Inv m env1 → ∃ b, Et X env1 c b ∧ (b = true → SS X env1 body { nx := fun e => ∃ m', m' < m ∧ Inv m' e, ct := fun e => ∃ m', m' < m ∧ Inv m' e, bk := Φ.nx, rt := Φ.rt }) ∧ (b = false → Φ.nx env1)) : S1 X env (.While c body [] pos) Φ := by
  have hc : PT X c (fun σ H Q => ∃ env b, Et X env c b ∧ tEt X.K env b σ H Q) := ⟨fun pins s σ H Q I ⟨env', b, h1, h2⟩ => h1.pt.run pins s σ H Q I h2⟩
  have hb : PSs X body (fun Dd σ H => ∃ env Ψ, SS X env body Ψ ∧ tSS X.K env Ψ Dd σ H) := ⟨fun pins s σ H Dd I ⟨env', Ψ, h1, h2⟩ => h1.ps.run pins s σ H Dd I h2⟩
  refine ⟨(ps_while hp hc hb).mono fun Dd σ H ⟨F, B, G, E, P⟩ => ?_⟩
  refine ⟨fun m σ H => ∃ env1 F2 B2, Inv m env1 ∧ GS F B G F2 B2 ∧ EnvS X.K F2 B2 G H env1 σ, ⟨m0, env, F, B, h0, .refl, E⟩, ?_⟩
  rintro m σ2 H2 ⟨env1, F2, B2, hI, gs2, E2⟩
  obtain ⟨t, ht, hT, hF⟩ := step m env1 hI
  refine ⟨env1, t, ht, F2, B2, E2.e, fun H' F' B' g => ?_⟩
  have E3 := E2.grow g
  have gs3 := gs2.trans (g.gs E2.gh)
  cases t with
  | true =>
    show if true = true then _ else _
    rw [if_pos rfl]
    refine ⟨fun σ' H' => ∃ m', m' < m ∧ ∃ env1 F2 B2, Inv m' env1 ∧ GS F B G F2 B2 ∧ EnvS X.K F2 B2 G H' env1 σ', fun σ' H' ⟨m', l, w⟩ => ⟨m', l, w⟩, env1, _, hT rfl, F', B', G, E3, ?_⟩
    exact ⟨fun e σ H F' B' q E ⟨m', l, h⟩ => ⟨m', l, e, F', B', h, gs3.trans q, E⟩, fun d k v H F' B' q s gh r h => P.rt d k v H F' B' (gs3.trans q) s gh r h, fun e σ H F' B' q E h => P.nx e σ H F' B' (gs3.trans q) E h, fun e σ H F' B' q E ⟨m', l, h⟩ => ⟨m', l, e, F', B', h, gs3.trans q, E⟩⟩
  | false =>
    show if false = true then _ else _
    rw [if_neg Bool.false_ne_true]
    exact P.nx env1 σ2 H' F' B' gs3 E3 (hF rfl)
theorem ss_while (hp : PassesOwn (model X.prog X.w) X.A X.env X.xe) (Inv : Nat → DEnv → Prop) (m0 : Nat) (h0 : Inv m0 env)
    (step : ∀ m env1, Inv m env1 → ∃ b, Et X env1 c b ∧ (b = true → SS X env1 body { nx := fun e => ∃ m', m' < m ∧ Inv m' e, ct := fun e => ∃ m', m' < m ∧ Inv m' e, bk := fun e => SS X e rest Φ, rt := Φ.rt }) ∧ (b = false → SS X env1 rest Φ)) : SS X env (.While c body [] pos :: rest) Φ :=
  ss_cons (s1_while hp Inv m0 h0 step)
theorem s1_asg {tg : Expr} {t : Tg} {k : K2} (he : Ev X env e d k.k) (ht : TgOk X tg t) (hb : bnd k t d env = some env') (hs : swapsWithSole [tg] e pos.line X.env = pure false) (hw : swappedStores [tg] e X.env = pure none)
    (h1 : (assignEach [tg] X.env).map (·.2) = [assign tg X.env]) (h : Φ.nx env') : S1 X env (.Assign [tg] e pos) Φ :=
  ⟨(ps_asg he.pe ht.pg hs hw h1).mono fun Dd σ H ⟨F, B, G, E, P⟩ => ⟨F, B, E.e, fun v H' F' B' g r => by
    have r' : RepK X.K F' B' H' H' k.k d v := by cases k <;> exact r
    exact bnd_ok g.hs (EnvS.setOk (G := G) (H := H')) (fun _ _ => trivial) hb r' (E.grow g) fun σ' E' => P.nx _ _ _ F' B' (g.gs E.gh) E' h⟩⟩
theorem EnvS.mut {K : PySem.W.Frag} {F B G H : Hp} {σ : St} {q : Addr} {o : HO} (E : EnvS K F B G H env σ) (he : env[i]? = some (some (.own d))) (hq : σ[i]? = some (some (.ref q))) (nt : notTup o = true) (r : OwnRep K F (upd H q o) q d') :
    EnvS K F B G (upd H q o) (env.set i (some (.own d'))) σ := by
  obtain ⟨v, h1, p, e1, n1, n2, r0⟩ := E.at_ i _ he
  rw [hq] at h1; cases h1; cases e1
  have keep : ∀ {Z : Hp}, Z q = none → Same Z H → Same Z (upd H q o) := fun {Z} n s a u e => by
    rw [upd_ne (ne_of_none e n)]; exact s _ _ e
  have nF : F q = none := E.hs.fb.free n1
  refine ⟨⟨E.hs.fb, keep n1 E.hs.bh, fun a xs h => ?_⟩, keep n2 E.gh, by rw [List.length_set]; exact E.len, fun j s e => ?_, fun j m d1 d2 p e1 e2 e3 e4 => ?_⟩
  · have h' : Rd H a (.tup xs) := by
      by_cases z : a = q
      · subst z
        rcases h with h | ⟨u, h⟩
        · rw [upd_same] at h; cases h; cases nt
        · rw [upd_same] at h; cases h; cases nt
      · rcases h with h | ⟨u, h⟩
        · rw [upd_ne z] at h; exact .inl h
        · rw [upd_ne z] at h; exact .inr ⟨u, h⟩
    exact E.hs.tup a xs h'
  · rcases get_set e with ⟨z, y, hl⟩ | ⟨z, y⟩
    · cases y
      rw [z]
      exact ⟨_, hq, q, rfl, n1, n2, r⟩
    · obtain ⟨u, h3, h4⟩ := E.at_ j s y
      refine ⟨u, h3, ?_⟩
      cases s with
      | frz t => exact h4
      | bor t => exact h4
      | own t =>
        obtain ⟨p, e5, n3, n4, r5⟩ := h4
        subst e5
        have ne : p ≠ q := fun w => by subst w; exact z (E.dis j i t d p y he h3 hq)
        refine ⟨p, rfl, n3, n4, ?_⟩
        cases t with
        | lst t => obtain ⟨us, w1, w2⟩ := r5; exact ⟨us, by rw [upd_ne ne]; exact w1, w2⟩
        | dK t => obtain ⟨us, w1, w2⟩ := r5; exact ⟨us, by rw [upd_ne ne]; exact w1, w2⟩
        | dT t => obtain ⟨us, w1, w2⟩ := r5; exact ⟨us, by rw [upd_ne ne]; exact w1, w2⟩
        | obj C t => obtain ⟨dx, us, w1, w2⟩ := r5; exact ⟨dx, us, by rw [upd_ne ne]; exact w1, w2⟩
        | _ => exact r5.elim
  · have w : ∀ {j : Nat} {t : D}, (env.set i (some (.own d')))[j]? = some (some (.own t)) → ∃ t', env[j]? = some (some (.own t')) := fun {j t} e => by
      rcases get_set e with ⟨z, y, hl⟩ | ⟨z, y⟩
      · rw [z]; exact ⟨_, he⟩
      · exact ⟨_, y⟩
    obtain ⟨t1, y1⟩ := w e1
    obtain ⟨t2, y2⟩ := w e2
    exact E.dis j m t1 t2 p y1 y2 e3 e4
theorem EnvS.own {K : PySem.W.Frag} {F B G H : Hp} {σ : St} (E : EnvS K F B G H env σ) (he : env[i]? = some (some (.own (.lst ds)))) : ∃ q vs, σ[i]? = some (some (.ref q)) ∧ H q = some (.lst vs) ∧ Reps K F ds vs := by
  obtain ⟨v, h1, p, e1, n1, n2, vs, h2, h3⟩ := E.at_ i _ he
  subst e1
  exact ⟨p, vs, h1, h2, h3⟩
structure Mx (X : Cx) (o : Expr) (m : Str) (e : List Expr) (apos cpos : Pos) : Prop where
  base : attributeBase o m X.env (eval o X.env) = eval o X.env
  few : ((backTo cpos (starEach e X.env)).all (fun x => !x.1) && (backToKw cpos (keywordEach [] X.env)).all (fun x => x.1.isSome)
      && decide (e.length + ([] : List Keyword).length + (if ([] : List Keyword).isEmpty then 0 else 1) < 30)) = true
  line : (apos.endLine == cpos.line) = true
theorem s1_append (i : Nat) {n : Str} {np apos cpos : Pos} (hN : X.N[i]? = some n) (hv : Vis X.env.scope n) (he : env[i]? = some (some (.own (.lst ds)))) (ha : Ev X env e d k) (hk : heldOf k d = .cln) (hz : ds.length < sizeLine)
    (mx : Mx X (.Name n np) "append" [e] apos cpos) (hs : starEach [e] X.env = [(false, eval e X.env)]) (hsw : swapsWith (.Call (.Attribute (.Name n np) "append" apos) [e] [] cpos) none pos.line X.env = pure false)
    (hd : (n == ("__debug__" : Str)) = false) (hcd : (n == ("__classdict__" : Str)) = false) (h : Φ.nx (env.set i (some (.own (.lst (ds ++ [d])))))) : S1 X env (.Expr (.Call (.Attribute (.Name n np) "append" apos) [e] [] cpos) pos) Φ :=
  ⟨(ps_expr (pe_bm PySem.F.plainAttrs_list PySem.F.slot_list_append PySem.F.type_list_append (fun pins s σ H x xs v us Q I r r2 h => mt_append pins s σ H x xs v us Q I r r2 h) (pe_var hN hv hd hcd) (pa_cons ha.heldOf.pe pa_nil hs) mx.base mx.few mx.line hs rfl) hsw).mono fun Dd σ H ⟨F, B, G, E, P⟩ => by
    obtain ⟨q, vs, h1, h2, h3⟩ := E.own he
    refine ⟨_, h1, .inl ⟨rfl, vs, SqL.of h2⟩, F, B, E.e, fun v H' F' B' g r => ?_⟩
    rw [hk] at r
    have E' := E.grow g
    refine ⟨q, vs, v, rfl, rfl, g.h _ _ h2, by rw [h3.length]; exact hz, ?_⟩
    exact P.nx _ _ _ F' B' (g.gs E.gh) (E'.mut (d' := .lst (ds ++ [d])) he h1 rfl ⟨_, upd_same, Reps.append (h3.mono g.f) (.one r)⟩) h⟩
theorem s1_reverse (i : Nat) {n : Str} {np apos cpos : Pos} (hN : X.N[i]? = some n) (hv : Vis X.env.scope n) (he : env[i]? = some (some (.own (.lst ds))))
    (hb : attributeBase (.Name n np) "reverse" X.env (eval (.Name n np) X.env) = eval (.Name n np) X.env) (hl : (apos.endLine == cpos.line) = true) (hsw : swapsWith (.Call (.Attribute (.Name n np) "reverse" apos) [] [] cpos) none pos.line X.env = pure false)
    (hd : (n == ("__debug__" : Str)) = false) (hcd : (n == ("__classdict__" : Str)) = false) (h : Φ.nx (env.set i (some (.own (.lst ds.reverse))))) : S1 X env (.Expr (.Call (.Attribute (.Name n np) "reverse" apos) [] [] cpos) pos) Φ :=
  ⟨(ps_expr (pe_bm0 PySem.F.plainAttrs_list PySem.F.slot_list_reverse PySem.F.type_list_reverse (fun pins s σ H x xs v us Q I r r2 h => mt_reverse pins s σ H x xs v us Q I r r2 h) (pe_var hN hv hd hcd) hb hl) hsw).mono fun Dd σ H ⟨F, B, G, E, P⟩ => by
    obtain ⟨q, vs, h1, h2, h3⟩ := E.own he
    exact ⟨_, h1, .inl ⟨rfl, vs, SqL.of h2⟩, q, vs, rfl, rfl, h2, P.nx _ _ _ F B .refl (E.mut (d' := .lst ds.reverse) he h1 rfl ⟨_, upd_same, Reps.reverse h3⟩) h⟩⟩
theorem s1_clear (i : Nat) {n : Str} {np apos cpos : Pos} (hN : X.N[i]? = some n) (hv : Vis X.env.scope n) (he : env[i]? = some (some (.own (.lst ds))))
    (hb : attributeBase (.Name n np) "clear" X.env (eval (.Name n np) X.env) = eval (.Name n np) X.env) (hl : (apos.endLine == cpos.line) = true) (hsw : swapsWith (.Call (.Attribute (.Name n np) "clear" apos) [] [] cpos) none pos.line X.env = pure false)
    (hd : (n == ("__debug__" : Str)) = false) (hcd : (n == ("__classdict__" : Str)) = false) (h : Φ.nx (env.set i (some (.own (.lst []))))) : S1 X env (.Expr (.Call (.Attribute (.Name n np) "clear" apos) [] [] cpos) pos) Φ :=
  ⟨(ps_expr (pe_bm0 PySem.F.plainAttrs_list PySem.F.slot_list_clear PySem.F.type_list_clear (fun pins s σ H x xs v us Q I r r2 h => mt_clear pins s σ H x xs v us Q I r r2 h) (pe_var hN hv hd hcd) hb hl) hsw).mono fun Dd σ H ⟨F, B, G, E, P⟩ => by
    obtain ⟨q, vs, h1, h2, h3⟩ := E.own he
    exact ⟨_, h1, .inl ⟨rfl, vs, SqL.of h2⟩, q, vs, rfl, rfl, h2, P.nx _ _ _ F B .refl (E.mut (d' := .lst []) he h1 rfl ⟨_, upd_same, .nil⟩) h⟩⟩
theorem s1_setL (i : Nat) {n : Str} {np ap : Pos} {j : Int} {m : Nat} (hN : X.N[i]? = some n) (hv : Vis X.env.scope n) (he : env[i]? = some (some (.own (.lst ds)))) (ha : Ev X env e d k) (hk : heldOf k d = .cln) (hb : Ev X env b (.int j) k2) (hj : ixN ds.length j = some m)
    (hsub : ∀ v, assign (.Subscript (.Name n np) b ap) X.env v = (do
      let ov ← holding [v] (eval (.Name n np) X.env)
      let iv ← holding [v, ov] (eval b X.env)
      standAt ap
      holding [v, ov, iv] (setItem ov iv v)
      release [v, ov, iv] []))
    (hs : swapsWithSole [.Subscript (.Name n np) b ap] e pos.line X.env = pure false) (hw : swappedStores [.Subscript (.Name n np) b ap] e X.env = pure none)
    (h1 : (assignEach [.Subscript (.Name n np) b ap] X.env).map (·.2) = [assign (.Subscript (.Name n np) b ap) X.env])
    (hd : (n == ("__debug__" : Str)) = false) (hcd : (n == ("__classdict__" : Str)) = false) (h : Φ.nx (env.set i (some (.own (.lst (ds.set m d)))))) : S1 X env (.Assign [.Subscript (.Name n np) b ap] e pos) Φ :=
  ⟨(ps_asg ha.heldOf.pe (pg_sub (pe_var hN hv hd hcd) hb.pe set_list hsub) hs hw h1).mono fun Dd σ H ⟨F, B, G, E, P⟩ => ⟨F, B, E.e, fun v H1 F1 B1 g r => by
    rw [hk] at r
    obtain ⟨q, vs, w1, w2, w3⟩ := E.own he
    refine ⟨_, w1, F1, B1, E.e.grow g, fun u H2 F2 B2 g2 r2 => ?_⟩
    cases (RepK.scalR rfl g2.hs r2)
    refine ⟨q, vs, j, m, rfl, rfl, g2.h _ _ (g.h _ _ w2), by rw [w3.length]; exact hj, ?_⟩
    exact P.nx _ _ _ F2 B2 ((g.trans g2).gs E.gh) (((E.grow g).grow g2).mut (d' := .lst (ds.set m d)) he w1 rfl ⟨_, upd_same, Reps.set (Rep.mono g2.f r) m (w3.mono (g.f.trans g2.f))⟩) h⟩⟩
end
end DL
namespace DL
open PySem PySem.Spec L2
open PyProof.Rows hiding St
abbrev Rel := List D → D → Kd → Prop
def FnSp (K : PySem.W.Frag) (R : Rel) : Sp := fun vs H Q _ => ∃ F B ds d k, Hs F B H ∧ Reps K B ds vs ∧ R ds d k ∧ ∀ v H' F' B', Grow F B H F' B' H' → RepK K F' B' H H' k d v → Q v H'
inductive Fits : Kd → Kd → D → Prop
  | refl {k : Kd} {d : D} : Fits k k d
  | int {k : Kd} {i : Int} : Fits k .cln (.int i)
  | str {k : Kd} {i : Str} : Fits k .cln (.str i)
  | bl {k : Kd} {i : Bool} : Fits k .cln (.bl i)
  | non {k : Kd} : Fits k .cln .non
  | frz {d : D} : Fits .own .cln d
  | imm {k : Kd} {d : D} : d.imm = true → Fits k .cln d
section
variable {K : PySem.W.Frag} {F B H F' B' H' H0 : Hp} {k k' : Kd} {d : D} {v : V}
theorem Fits.ok (ft : Fits k' k d) (g : Grow F B H F' B' H') (r : RepK K F' B' H H' k' d v) : ∃ F2 B2, Grow F B H F2 B2 H' ∧ RepK K F2 B2 H H' k d v := by
  cases ft with
  | refl => exact ⟨F', B', g, r⟩
  | int => exact ⟨F', B', g, RepK.scalR rfl g.hs r⟩
  | str => exact ⟨F', B', g, RepK.scalR rfl g.hs r⟩
  | bl => exact ⟨F', B', g, RepK.scalR rfl g.hs r⟩
  | non => exact ⟨F', B', g, RepK.scalR rfl g.hs r⟩
  | frz =>
    obtain ⟨p, e, n, m, r⟩ := r
    subst e
    exact ⟨_, _, g.frz n, r.frz g.hs.fh⟩
  | imm i => exact ⟨F', B', g, Rep.immF g.hs.tup i (r.rep g.hs)⟩
end
def env0 (n : Nat) (ds : List D) : DEnv := (ds.map fun d => some (slot2 .b d)) ++ List.replicate (n - ds.length) none
theorem env0_ok {K : PySem.W.Frag} {F B H : Hp} {N : List Str} {ds : List D} {vs : List V} (hs : Hs F B H) (r : Reps K B ds vs) (hl : ds.length ≤ N.length) : EnvS K F B H H (env0 N.length ds) (L2.start N vs) := by
  have e := r.length
  have at_ : ∀ (i : Nat) s, (env0 N.length ds)[i]? = some (some s) → ∃ d v, ds[i]? = some d ∧ (L2.start N vs)[i]? = some (some v) ∧ s = slot2 .b d ∧ Rep K B d v := fun i s h => by
    unfold env0 at h
    by_cases hi : i < ds.length
    · rw [List.getElem?_append_left (by simpa using hi), List.getElem?_map, List.getElem?_eq_getElem hi] at h
      obtain ⟨u, h1, h2⟩ := r.get (List.getElem?_eq_getElem hi)
      refine ⟨ds[i], u, List.getElem?_eq_getElem hi, ?_, ?_, h2⟩
      · unfold L2.start
        rw [List.getElem?_append_left (by rw [List.length_map]; omega), List.getElem?_map, h1]; rfl
      · have h' : some (some (slot2 .b ds[i])) = some (some s) := h
        cases h'; rfl
    · rw [List.getElem?_append_right (by simpa using hi), List.getElem?_replicate] at h
      split at h <;> cases h
  refine ⟨hs, .refl _, ?_, fun i s h => ?_, fun i j d d' p h1 _ _ _ => ?_⟩
  · unfold env0 L2.start
    simp only [List.length_append, List.length_map, List.length_replicate, e]
  · obtain ⟨d, v, h1, h2, h3, h4⟩ := at_ i s h
    refine ⟨v, h2, ?_⟩
    rw [h3]
    rcases slot2_rep (K := K) (F := F) (B := B) (H := H) (k := .b) (d := d) (v := v) h4 with ⟨d', e1, r1⟩ | ⟨d', e1, r1⟩ <;> rw [e1] <;> exact r1
  · obtain ⟨d0, v, _, _, h3, _⟩ := at_ i _ h1
    cases d0 <;> cases h3
structure Cf (X : Cx) (P : Program) (w : World) (K : PySem.W.Frag) (mg : Str → Option Value) (base : Heap) (N : List Str) (sc : Scope) (lv : Nat) : Prop where
  prog : X.prog = P
  w : X.w = w
  K : X.K = K
  mg : X.mg = mg
  base : X.base = base
  N : X.N = N
  sc : X.env.scope = sc
  fn : ∀ x, X.fn x = true
  calm : X.calm = true
  room : Room lv X.A
  xe : X.xe = fun _ _ => False
theorem def_ok {P : Program} {w : World} {K : PySem.W.Frag} {mg : Str → Option Value} {base : Heap} {x qual : Str} {params : Arguments} {body : List Stmt} {scope : Scope} {dvs : List V} {kws : List (Str × V)} {f : Addr} {fd : FuncData} {N ps : List Str} {lv : Nat} {R : Rel}
    (Fd : FunD K x qual params body scope dvs kws f fd) (S : FnScope N ps scope) (hl : ∀ ds d k, R ds d k → ds.length = ps.length) (hn : ps.length ≤ N.length)
    (hb : ∀ X : Cx, Cf X P w K mg base N scope lv → ∀ ds d k, R ds d k → SS X (env0 N.length ds) body { rt := fun d' k' => d' = d ∧ Fits k' k d, nx := fun _ => d = .non ∧ k = .cln }) :
    FnOk P w K mg base CX0 (lv + 1) f fd ps (FnSp K R) := by
  refine Fd.ok S (fun vs H Q E ⟨F, B, ds, d, k, hs, r, hR, q⟩ => by rw [r.length]; exact hl _ _ _ hR) fun cdv A outer s H vs Q E hr ⟨F, B, ds, d, k, hs, r, hR, q⟩ => ?_
  have h := hb (cxOf CX0 P w K mg base N qual scope f cdv A outer s H E).nox ⟨rfl, rfl, rfl, rfl, rfl, rfl, rfl, fun _ => rfl, rfl, hr, rfl⟩ ds d k hR
  refine ⟨_, PSs.nox h.ps, F, B, H, env0_ok hs r (by rw [hl _ _ _ hR]; exact hn), ?_⟩
  have gr : ∀ {F' B' H'}, GS F B H F' B' → Hs F' B' H' → Same H H' → Grow F B H F' B' H' := fun g s e => ⟨g.f, g.b, e, s, g.newF, g.newB⟩
  refine ⟨fun e σ H' F' B' g E ⟨e1, e2⟩ => ?_, fun d' k' v H' F' B' g s e r ⟨e1, ft⟩ => ?_, fun _ _ _ _ _ _ _ h => h.elim, fun _ _ _ _ _ _ _ h => h.elim⟩
  · subst e1 e2
    exact q .non H' F' B' (gr g E.hs E.gh) .non
  · subst e1
    obtain ⟨F2, B2, g2, r2⟩ := ft.ok (gr g s e) r
    exact q v H' F2 B2 g2 r2
def uni (B2 B1 : Hp) : Hp := fun p => match B2 p with
  | some o => some o
  | none => B1 p
theorem uni_l (B2 B1 : Hp) : Same B2 (uni B2 B1) := fun p o e => by unfold uni; rw [e]
theorem uni_r {B2 B1 H : Hp} (a : Same B2 H) (b : Same B1 H) : Same B1 (uni B2 B1) := fun p o e => by
  unfold uni
  cases q : B2 p with
  | none => exact e
  | some o' =>
    have h1 := a _ _ q
    rw [b _ _ e] at h1
    exact h1.symm ▸ rfl
theorem uni_h {B2 B1 H : Hp} (a : Same B2 H) (b : Same B1 H) : Same (uni B2 B1) H := fun p o e => by
  unfold uni at e
  cases q : B2 p with
  | none => rw [q] at e; exact b _ _ e
  | some o' => rw [q] at e; cases e; exact a _ _ q
theorem uni_ne {B2 B1 : Hp} {p : Addr} (h : uni B2 B1 p ≠ none) : B2 p ≠ none ∨ B1 p ≠ none := by
  unfold uni at h
  cases q : B2 p with
  | none => rw [q] at h; exact .inr h
  | some o => exact .inl fun z => nomatch z
theorem uni_none {B2 B1 : Hp} {p : Addr} (h2 : B2 p = none) (h1 : B1 p = none) : uni B2 B1 p = none := by
  unfold uni; rw [h2]; exact h1
def retK (ka k : Kd) : Kd := match ka, k with
  | .cln, .brw => .cln
  | .brw, .brw => .brw
  | _, .brw => .drt
  | _, k => k
theorem call_rel {K : PySem.W.Frag} {R : Rel} {F B H : Hp} {ds : List D} {vs : List V} {d : D} {k ka : Kd} {Q : VK} {E : XK} (hs : Hs F B H) (hk : ka = .cln ∨ ka = .brw ∨ ka = .drt) (hkr : k = .own ∨ k = .cln ∨ k = .brw) (r : repsK K F B H ka ds vs) (hR : R ds d k)
    (q : Fin K F B H (retK ka k) d Q) : FnSp K R vs H Q E := by
  rcases hk with h | h | h <;> subst h
  · refine ⟨F, F, ds, d, k, ⟨.refl _, hs.fh, hs.tup⟩, r, hR, fun v H' F' B' g r' => ?_⟩
    have sB : Same B H' := hs.bh.trans g.h
    have g2 : Grow F B H B' (uni B' B) H' := ⟨g.b, uni_r g.hs.bh sB, g.h, ⟨uni_l _ _, uni_h g.hs.bh sB, fun a xs h => Same.rd g.hs.fb (g.hs.tup a xs h)⟩, fun p h1 h2 => g.newB p h1 h2, fun p h1 h2 => by
      rcases uni_ne h2 with z | z
      · exact ne_none_of_same hs.fb (g.newB p h1 z)
      · exact z⟩
    rcases hkr with e | e | e <;> subst e
    · obtain ⟨p, e1, n, m, r0⟩ := r'
      exact q v H' _ _ g2 ⟨p, e1, n, uni_none m (hs.bh.free n), OwnRep.grow g.hs.fb (.refl _) r0⟩
    · exact q v H' _ _ g2 (Rep.mono g.hs.fb r')
    · exact q v H' _ _ g2 r'
  · refine ⟨F, B, ds, d, k, hs, r, hR, fun v H' F' B' g r' => q v H' F' B' g ?_⟩
    rcases hkr with e | e | e <;> subst e <;> exact r'
  · refine ⟨F, H, ds, d, k, ⟨hs.fh, .refl _, hs.tup⟩, r, hR, fun v H' F' B' g r' => ?_⟩
    have sB : Same B H' := hs.bh.trans g.h
    have g2 : Grow F B H F' (uni F' B) H' := ⟨g.f, uni_r g.hs.fh sB, g.h, ⟨uni_l _ _, uni_h g.hs.fh sB, g.hs.tup⟩, fun p h1 h2 => g.newF p h1 h2, fun p h1 h2 => by
      rcases uni_ne h2 with z | z
      · exact ne_none_of_same hs.fb (g.newF p h1 z)
      · exact z⟩
    rcases hkr with e | e | e <;> subst e
    · obtain ⟨p, e1, n, m, r0⟩ := r'
      exact q v H' _ _ g2 ⟨p, e1, n, uni_none (g.hs.fb.free m) (hs.bh.free n), r0⟩
    · exact q v H' _ _ g2 r'
    · exact q v H' _ _ g2 (Rep.mono g.hs.bh r')
section
variable {X : Cx} {env : DEnv} {e : Expr} {es : List Expr} {ds dds : List D} {d : D} {k ka : Kd} {R : Rel} {f : Addr} {fd : FuncData} {ps : List Str} {dvs : List V} {dus : List Value} {lv : Nat} {x : Str} {p pos : Pos}
theorem reps_drop {K : PySem.W.Frag} {F B H : Hp} {vs : List V} (hk : ka = .cln ∨ ka = .brw ∨ ka = .drt) (r : repsK K F B H ka ds vs) (rd : ∀ B : Hp, Reps K B dds dvs) : repsK K F B H ka (ds ++ dds) (vs ++ dvs) := by
  rcases hk with h | h | h <;> subst h <;> exact Reps.append r (rd _)
theorem ev_call (G : FnOk X.prog X.w X.K X.mg X.base CX0 lv f fd ps (FnSp X.K R)) (hr : Room lv X.A) (hg : Gl X x) (hm : X.mg x = some (.ref f)) (hkp : PySem.W.keepIn X.K (.ref f) = true) (hb : Binds X.K fd ps dus) (hd : Vals dvs dus) (rd : ∀ B : Hp, Reps X.K B dds dvs)
    (ha : EA X env (e :: es) ds ka) (hR : R (ds ++ dds) d k) (hk : ka = .cln ∨ ka = .brw ∨ ka = .drt) (hkr : k = .own ∨ k = .cln ∨ k = .brw) (hdb : (x == ("__debug__" : Str)) = false)
    (he : starEach (e :: es) X.env = (false, eval e X.env) :: starEach es X.env) (hpl : (backTo pos (starEach es X.env)).any (·.1) = false) : Ev X env (.Call (.Name x p) (e :: es) [] pos) d (retK ka k) :=
  ⟨(pe_call G hr hg hm hkp hb hd pass0 ha.pa hdb he hpl).mono fun σ H Q ⟨F, B, E, q⟩ => ⟨F, B, E, fun vs H' F' B' g r => call_rel g.hs hk hkr (reps_drop hk r rd) hR fun w H2 F2 B2 g2 r2 => q w H2 F2 B2 (g.trans g2) (RepK.back g.h r2)⟩⟩
theorem ev_call0 (G : FnOk X.prog X.w X.K X.mg X.base CX0 lv f fd ps (FnSp X.K R)) (hr : Room lv X.A) (hg : Gl X x) (hm : X.mg x = some (.ref f)) (hkp : PySem.W.keepIn X.K (.ref f) = true) (hb : Binds X.K fd ps dus) (hd : Vals dvs dus) (rd : ∀ B : Hp, Reps X.K B dds dvs)
    (hR : R dds d k) (hkr : k = .own ∨ k = .cln ∨ k = .brw) (hdb : (x == ("__debug__" : Str)) = false) : Ev X env (.Call (.Name x p) [] [] pos) d (retK .cln k) :=
  ⟨(pe_call0 G hr hg hm hkp hb hd pass0 hdb).mono fun σ H Q ⟨F, B, E, q⟩ => call_rel (ds := dds) (ka := .cln) (E := E0) E.hs (.inl rfl) hkr (by rw [List.nil_append]; exact rd F) hR fun w H2 F2 B2 g2 r2 => q w H2 F2 B2 g2 r2⟩
end
end DL
namespace DL
open PySem PySem.Spec L2
open PyProof.Rows hiding St
def Blk (X : Cx) (scope : Scope) (Y : Cx) : Prop := ∃ s H C cl fp, Y = X.blk s H scope (compEnvC scope cl C X.env) fp
structure Ets (X : Cx) (env : DEnv) (ifs : List Expr) (b : Bool) : Prop where
  pts : PTs X ifs (tEt X.K env b)
theorem _root_.L2.PTs.mono {X : Cx} {e : List Expr} {t t' : TT} (h : PTs X e t) (m : ∀ σ H Q, t' σ H Q → t σ H Q) : PTs X e t' := ⟨fun pins s σ H Q I q => h.run pins s σ H Q I (m σ H Q q)⟩
theorem ets_nil {X : Cx} {env : DEnv} : Ets X env [] true := ⟨pts_nil.mono fun σ H Q ⟨F, B, E, q⟩ => q H F B (.refl E.hs)⟩
theorem ets_one {X : Cx} {env : DEnv} {c : Expr} {b : Bool} (h : Et X env c b) : Ets X env [c] b := ⟨pts_one h.pt⟩
theorem wipe_set {σ : St} {v : V} {i : Nat} : ∀ {vs : List Nat}, i ∈ vs → wipe (σ.set i (some v)) vs = wipe σ vs
  | [], h => nomatch h
  | w :: vs, h => by
    show (wipe (σ.set i (some v)) vs).set w none = (wipe σ vs).set w none
    by_cases z : i ∈ vs
    · rw [wipe_set z]
    · have e : i = w := by
        rcases List.mem_cons.mp h with y | y
        · exact y
        · exact absurd y z
      subst e
      apply List.ext_getElem?
      intro j
      by_cases hj : i = j
      · subst hj
        by_cases hl : i < σ.length
        · rw [List.getElem?_set_self (by rw [wipe_length, List.length_set]; exact hl), List.getElem?_set_self (by rw [wipe_length]; exact hl)]
        · rw [List.getElem?_eq_none (by rw [List.length_set, wipe_length, List.length_set]; omega), List.getElem?_eq_none (by rw [List.length_set, wipe_length]; omega)]
      · rw [List.getElem?_set_ne hj, List.getElem?_set_ne hj]
        by_cases hm : j ∈ vs
        · have w1 : ∀ {τ : St} {l : List Nat}, j ∈ l → (wipe τ l)[j]? = if j < τ.length then some none else none := fun {τ l} h => by
            induction l with
            | nil => cases h
            | cons a l ih =>
              show ((wipe τ l).set a none)[j]? = _
              by_cases e : a = j
              · subst e
                split
                · next q => rw [List.getElem?_set_self (by rw [wipe_length]; exact q)]
                · next q => rw [List.getElem?_eq_none (by rw [List.length_set, wipe_length]; omega)]
              · rw [List.getElem?_set_ne e]
                rcases List.mem_cons.mp h with y | y
                · exact absurd y.symm e
                · exact ih y
          rw [w1 hm, w1 hm, List.length_set]
        · rw [wipe_out hm, wipe_out hm, List.getElem?_set_ne hj]
theorem wipe_wipe {σ : St} {vs : List Nat} : wipe (wipe σ vs) vs = wipe σ vs := by
  apply List.ext_getElem?
  intro j
  by_cases hm : j ∈ vs
  · have w1 : ∀ {τ : St} {l : List Nat}, j ∈ l → (wipe τ l)[j]? = if j < τ.length then some none else none := fun {τ l} h => by
      induction l with
      | nil => cases h
      | cons a l ih =>
        show ((wipe τ l).set a none)[j]? = _
        by_cases e : a = j
        · subst e
          split
          · next q => rw [List.getElem?_set_self (by rw [wipe_length]; exact q)]
          · next q => rw [List.getElem?_eq_none (by rw [List.length_set, wipe_length]; omega)]
        · rw [List.getElem?_set_ne e]
          rcases List.mem_cons.mp h with y | y
          · exact absurd y.symm e
          · exact ih y
    rw [w1 hm, w1 hm, wipe_length]
  · rw [wipe_out hm]
def Clear (env : DEnv) (vs : List Nat) : Prop := ∀ v ∈ vs, ∀ s, env[v]? ≠ some (some s)
theorem EnvE.wipe {K : PySem.W.Frag} {F B H : Hp} {env : DEnv} {σ : St} {vs : List Nat} (E : EnvE K F B H env σ) (c : Clear env vs) : EnvE K F B H env (wipe σ vs) :=
  ⟨E.hs, by rw [wipe_length]; exact E.len, fun i s h => by
    obtain ⟨v, h1, h2⟩ := E.at_ i s h
    refine ⟨v, ?_, h2⟩
    rw [wipe_out fun z => c i z s h]; exact h1⟩
theorem EnvE.setOk {K : PySem.W.Frag} {F B H : Hp} {vs : List Nat} {σ0 : St} : SetOk K F B (fun env σ => EnvE K F B H env σ ∧ L2.wipe σ vs = σ0) fun i => i ∈ vs := fun env σ i s v hi ⟨E, w⟩ h => by
  refine ⟨⟨E.hs, by rw [List.length_set, List.length_set]; exact E.len, fun j t e => ?_⟩, by rw [wipe_set hi]; exact w⟩
  rcases get_set e with ⟨z, y, hl⟩ | ⟨z, y⟩
  · cases y
    rw [z, List.getElem?_set_self (by rw [← E.len]; exact hl)]
    rcases h with ⟨d, e1, r⟩ | ⟨d, e1, r⟩ <;> subst e1 <;> exact ⟨v, rfl, r⟩
  · obtain ⟨u, h1, h2⟩ := E.at_ j t y
    exact ⟨u, by rw [List.getElem?_set_ne (Ne.symm z)]; exact h1, h2⟩
section
variable {X : Cx} {env : DEnv} {elt tg iter : Expr} {ifs : List Expr} {scope : Scope} {own : List (Str × Nat)} {ds : List D} {k : K2} {fx : Bool} {t : Tg} {pos : Pos}
theorem Grow.at {F0 B0 H0 F B H : Hp} {D : Addr} {acc : List V} (g : Grow F0 B0 H0 F B H) (n : H0 D = none) (nB : B D = none) : Grow F0 B0 H0 F B (upd H D (.lst acc)) := by
  have keep : ∀ {Z : Hp}, Z D = none → Same Z H → Same Z (upd H D (.lst acc)) := fun {Z} n s a u e => by
    rw [upd_ne (ne_of_none e n)]; exact s _ _ e
  refine ⟨g.f, g.b, keep n g.h, ⟨g.hs.fb, keep nB g.hs.bh, fun a xs h => ?_⟩, g.newF, g.newB⟩
  have h' : Rd H a (.tup xs) := by
    by_cases z : a = D
    · subst z
      rcases h with h | ⟨u, h⟩
      · rw [upd_same] at h; cases h
      · rw [upd_same] at h; cases h
    · rcases h with h | ⟨u, h⟩
      · rw [upd_ne z] at h; exact .inl h
      · rw [upd_ne z] at h; exact .inr ⟨u, h⟩
  exact g.hs.tup a xs h'
theorem Grow.keepB {F B H F' B' H' : Hp} {D : Addr} (g : Grow F B H F' B' H') (h : H D ≠ none) (n : B D = none) : B' D = none := by
  cases q : B' D with
  | none => rfl
  | some o => exact absurd n (g.newB D h (by rw [q]; exact fun z => nomatch z))
theorem lc_te {tt : TT} {te : TE} {α : Type} (xs : List α) (en : α → D) (vs : List Nat) (pd : α → Bool) (f : α → D) (kz : K2) (hc : Clear env vs) (hix : ∀ j ∈ t.ix, j ∈ vs) (hz : xs.length ≤ sizeLine)
    (htt : ∀ env b σ H Q, (∀ Y, Blk X scope Y → Ets Y env ifs b) → tEt X.K env b σ H Q → tt σ H Q) (hte : ∀ env d k σ H Q, (∀ Y, Blk X scope Y → Ev Y env elt d k) → tEv X.K env d k σ H Q → te σ H Q)
    (item : ∀ x, x ∈ xs → ∃ env2, bnd k t (en x) env = some env2 ∧ (∀ Y, Blk X scope Y → Ets Y env2 ifs (pd x)) ∧ (pd x = true → ∃ ke, heldOf ke (f x) = kz.k ∧ ∀ Y, Blk X scope Y → Ev Y env2 elt (f x) ke)) :
    ∀ σ H Q, tEv X.K env (.lst ((xs.filter pd).map f)) kz.k.mk σ H Q → tLc (tEI X.K env (xs.map en) k fx) (gOf X.K t) tt te vs σ H Q := fun σ H Q ⟨Fs, Bs, Es, q⟩ => by
  refine ⟨Fs, Bs, Es, fun J H0 F0 B0 g0 it D hD => ?_⟩
  have E0 := Es.grow g0
  have nB0 : B0 D = none := g0.hs.bh.free hD
  refine ⟨fun i m H => m = xs.length - i ∧ i ≤ xs.length ∧ ∃ F B acc, Grow F0 B0 H0 F B H ∧ H D = some (.lst acc) ∧ B D = none ∧ repsK X.K F B H kz.k (((xs.take i).filter pd).map f) acc, ⟨_, rfl, Nat.zero_le _, F0, B0, [], (Grow.refl g0.hs).at hD nB0, upd_same, nB0, by cases kz <;> exact .nil⟩, ?_⟩
  rintro i m H1 ⟨rfl, hle, F, B, acc, g, hA, nB, r⟩
  have sP : Same (if fx = true then B0 else H0) H1 := by
    cases fx with
    | true => exact g.b.trans g.hs.bh
    | false => exact g.h
  by_cases hlt : i < xs.length
  · have hx0 : xs[i]? = some xs[i] := List.getElem?_eq_getElem hlt
    have hd : (xs.map en)[i]? = some (en xs[i]) := by rw [List.getElem?_map, hx0]; rfl
    obtain ⟨env2, eb, hT, hE⟩ := item xs[i] (List.getElem_mem hlt)
    have etake : xs.take (i + 1) = xs.take i ++ [xs[i]] := by rw [List.take_succ, hx0]; rfl
    refine .inr ⟨it.go i _ H1 sP hd, fun H' => ∃ F B acc, Grow F0 B0 H0 F B H' ∧ H' D = some (.lst acc) ∧ B D = none ∧ repsK X.K F B H' kz.k (((xs.take (i + 1)).filter pd).map f) acc, fun H' w => ⟨xs.length - (i + 1), by omega, rfl, hlt, w⟩, fun x H' y => ?_⟩
    have y1 := it.yl i _ H1 x H' sP hd y
    have y2 : (H' = H1 ∧ RepK X.K F B H1 H1 k.k (en xs[i]) x) ∨ ∃ T vs es, H1 T = none ∧ H' = upd H1 T (.tup vs) ∧ x = .ref T ∧ en xs[i] = .tup es ∧ repsK X.K F B H1 k.k es vs := by
      rcases y1 with ⟨e, r⟩ | ⟨T, vs, es, n, e, ex, ed, r⟩
      · exact .inl ⟨e, RepK.mono2 g.f g.b r⟩
      · exact .inr ⟨T, vs, es, n, e, ex, ed, repsK.mono2 g.f g.b r⟩
    obtain ⟨F3, B3, g3, r3⟩ := yl_grow g.hs y2
    have g4 := g.trans g3
    have nB3 : B3 D = none := g3.keepB (by rw [hA]; exact fun z => nomatch z) nB
    have E3 : EnvE X.K F3 B3 H' env (L2.wipe σ vs) := (E0.grow g4).wipe hc
    refine bnd_ok (Pv := fun e τ => EnvE X.K F3 B3 H' e τ ∧ L2.wipe τ vs = L2.wipe σ vs) g3.hs EnvE.setOk hix eb r3 ⟨E3, wipe_wipe⟩ fun σ4 ⟨E4, w4⟩ => ⟨w4, ?_⟩
    refine htt env2 (pd xs[i]) _ _ _ hT ⟨F3, B3, E4, fun H5 F5 B5 g5 => ?_⟩
    have hA5 : H5 D = some (.lst acc) := g5.h _ _ (g3.h _ _ hA)
    have nB5 : B5 D = none := g5.keepB (by rw [g3.h _ _ hA]; exact fun z => nomatch z) nB3
    have gr5 : Grow F B H1 F5 B5 H5 := g3.trans g5
    cases hp : pd xs[i] with
    | false =>
      show if false = true then _ else _
      rw [if_neg Bool.false_ne_true]
      refine ⟨F5, B5, acc, g4.trans g5, hA5, nB5, ?_⟩
      rw [etake, List.filter_append, show [xs[i]].filter pd = [] by simp [hp], List.append_nil]
      exact r.grow gr5
    | true =>
      show if true = true then _ else _
      rw [if_pos rfl]
      obtain ⟨ke, hk, hE⟩ := hE hp
      refine hte env2 (f xs[i]) _ _ _ _ (fun Y hY => (hE Y hY).heldOf) ⟨F5, B5, E4.grow g5, fun y6 H6 F6 B6 g6 r6 => ?_⟩
      rw [hk] at r6
      have hA6 : H6 D = some (.lst acc) := g6.h _ _ hA5
      have nB6 : B6 D = none := g6.keepB (by rw [hA5]; exact fun z => nomatch z) nB5
      have rr := r.grow (gr5.trans g6)
      have hlen : acc.length ≤ i := by
        have e := r.len
        rw [e, List.length_map]
        exact Nat.le_trans (List.length_filter_le _ _) (by rw [List.length_take]; omega)
      refine ⟨acc, hA6, by omega, F6, B6, acc ++ [y6], ((g4.trans g5).trans g6).at hD nB6, upd_same, nB6, ?_⟩
      rw [etake, List.filter_append, show [xs[i]].filter pd = [xs[i]] by simp [hp], List.map_append]
      have r7 : repsK X.K F6 B6 (upd H6 D (.lst (acc ++ [y6]))) kz.k (((xs.take i).filter pd).map f) acc := by cases kz <;> exact rr
      have r8 : repsK X.K F6 B6 (upd H6 D (.lst (acc ++ [y6]))) kz.k ([xs[i]].map f) [y6] := by cases kz <;> exact .one r6
      exact repsK.app r7 r8
  · have e : i = xs.length := by omega
    subst e
    refine .inl ⟨by have := it.st H1 sP; rwa [List.length_map] at this, ?_⟩
    rw [List.take_length] at r
    cases kz with
    | c => exact q _ H1 F B (g0.trans g) ⟨D, rfl, g0.h.free hD, nB, acc, hA, r⟩
    | b =>
      refine q _ H1 F (frzAt B H1 D) (g0.trans ⟨g.f, g.b.trans (frz_same g.hs.bh D), g.h, ⟨g.hs.fb.trans (frz_same g.hs.bh D), frz_sub g.hs.bh D, g.hs.tup⟩, g.newF, fun p h1 h2 => ?_⟩) (Rep.lst (frz_at hA) (Reps.mono (frz_same g.hs.bh D) r))
      rcases frz_ne h2 with z | z
      · subst z; exact absurd hD h1
      · exact g.newB p h1 z
def ttA (X : Cx) (scope : Scope) (ifs : List Expr) : TT := fun σ H Q => ∃ env b, (∀ Y, Blk X scope Y → Ets Y env ifs b) ∧ tEt X.K env b σ H Q
def teA (X : Cx) (scope : Scope) (elt : Expr) : TE := fun σ H Q => ∃ env d k, (∀ Y, Blk X scope Y → Ev Y env elt d k) ∧ tEv X.K env d k σ H Q
theorem ev_lc {α : Type} (xs : List α) (en : α → D) (pd : α → Bool) (f : α → D) (kz : K2) (hcalm : X.calm = true) (hN : X.N.Nodup) (hi : EI X env tg iter (xs.map en) k fx) (ok : BlkOk X.N X.env.scope scope own) (hc : Clear env (own.map (·.2))) (ht : ∀ Y, Blk X scope Y → TgOk Y tg t) (hix : ∀ j ∈ t.ix, j ∈ own.map (·.2)) (hz : xs.length ≤ sizeLine)
    (hs : ∀ x, foldedSetIterable iter X.env x = pure x)
    (item : ∀ x, x ∈ xs → ∃ env2, bnd k t (en x) env = some env2 ∧ (∀ Y, Blk X scope Y → Ets Y env2 ifs (pd x)) ∧ (pd x = true → ∃ ke, heldOf ke (f x) = kz.k ∧ ∀ Y, Blk X scope Y → Ev Y env2 elt (f x) ke)) :
    Ev X env (.ListComp elt [⟨tg, iter, ifs, 0⟩] scope pos) (.lst ((xs.filter pd).map f)) kz.k.mk :=
  ⟨(pe_lc (g := gOf X.K t) (tt := ttA X scope ifs) (te := teA X scope elt) hcalm hN hi.pi ok (fun s H C cl fp => (ht _ ⟨s, H, C, cl, fp, rfl⟩).pg)
    (fun s H C cl fp => ⟨fun pins s' σ H' Q I ⟨env, b, h1, h2⟩ => (h1 _ ⟨s, H, C, cl, fp, rfl⟩).pts.run pins s' σ H' Q I h2⟩) (fun s H C cl fp => ⟨fun pins s' σ H' Q I ⟨env, d, k, h1, h2⟩ => (h1 _ ⟨s, H, C, cl, fp, rfl⟩).pe.run pins s' σ H' Q I h2⟩) hs).mono
    (lc_te (tt := ttA X scope ifs) (te := teA X scope elt) xs en _ pd f kz hc hix hz (fun env b σ H Q h1 h2 => ⟨env, b, h1, h2⟩) (fun env d k σ H Q h1 h2 => ⟨env, d, k, h1, h2⟩) item)⟩
theorem s1_setLc {Φ : Outs} {y : Str} {py spos : Pos} {s : Slot} {α : Type} (xs : List α) (en : α → D) (i : Nat) (pd : α → Bool) (f : α → D) (kz : K2) (hcalm : X.calm = true) (hN : X.N.Nodup) (hy : X.N[i]? = some y) (hyl : X.env.scope.names.lookup y = some .local)
    (hsw : swapsWith (.ListComp elt [⟨tg, iter, ifs, 0⟩] scope pos) (some (.Name y py)) spos.line X.env = pure true) (hi : EI X env tg iter (xs.map en) k fx) (ok : BlkOk X.N X.env.scope scope own) (hc : Clear env (own.map (·.2))) (ht : ∀ Y, Blk X scope Y → TgOk Y tg t) (hix : ∀ j ∈ t.ix, j ∈ own.map (·.2)) (hz : xs.length ≤ sizeLine)
    (hs : ∀ x, foldedSetIterable iter X.env x = pure x)
    (item : ∀ x, x ∈ xs → ∃ env2, bnd k t (en x) env = some env2 ∧ (∀ Y, Blk X scope Y → Ets Y env2 ifs (pd x)) ∧ (pd x = true → ∃ ke, heldOf ke (f x) = kz.k ∧ ∀ Y, Blk X scope Y → Ev Y env2 elt (f x) ke))
    (so : SlotOf kz.k.mk (.lst ((xs.filter pd).map f)) s) (h : Φ.nx (env.set i (some s))) : S1 X env (.Assign [.Name y py] (.ListComp elt [⟨tg, iter, ifs, 0⟩] scope pos) spos) Φ :=
  ⟨(ps_setLc (i := i) (g := gOf X.K t) (tt := ttA X scope ifs) (te := teA X scope elt) hcalm hN hy hyl hsw hi.pi ok (fun s H C cl fp => (ht _ ⟨s, H, C, cl, fp, rfl⟩).pg)
    (fun s H C cl fp => ⟨fun pins s' σ H' Q I ⟨env, b, h1, h2⟩ => (h1 _ ⟨s, H, C, cl, fp, rfl⟩).pts.run pins s' σ H' Q I h2⟩) (fun s H C cl fp => ⟨fun pins s' σ H' Q I ⟨env, d, k, h1, h2⟩ => (h1 _ ⟨s, H, C, cl, fp, rfl⟩).pe.run pins s' σ H' Q I h2⟩) hs).mono
    fun Dd σ H ⟨F, B, G, E, P⟩ => by
      have key : ∀ v H' F' B', Grow F B H F' B' H' → RepK X.K F' B' H H' kz.k.mk (.lst ((xs.filter pd).map f)) v → gName i v σ H' Dd.nx := fun v H' F' B' g r => by
        refine P.nx _ _ _ F' B' (g.gs E.gh) ((E.grow g).set (RepK.slot g.hs E.gh so r) fun d' p es ev => ?_) h
        subst es
        cases kz with
        | c =>
          obtain ⟨q, e1, n, _, _⟩ := r
          rw [e1] at ev; cases ev
          exact own_new E n
        | b => cases so
      exact lc_te (tt := ttA X scope ifs) (te := teA X scope elt) xs en (own.map (·.2)) pd f kz hc hix hz (fun env b σ H Q h1 h2 => ⟨env, b, h1, h2⟩) (fun env d k σ H Q h1 h2 => ⟨env, d, k, h1, h2⟩) item σ H (fun v H' => gName i v σ H' Dd.nx) ⟨F, B, E.e, key⟩⟩
end
end DL
namespace DL
open PySem PySem.Spec L2
open PyProof.Rows hiding St
structure Gd where
  P : Program
  w : World
  K : PySem.W.Frag
  mg : Str → Option Value
  base : Heap
def visB (sc : Scope) (n : Str) : Bool := match sc.names.lookup n with
  | some .local => true | some .cell => true | some .free => true | _ => false
def locB (sc : Scope) (n : Str) : Bool := match sc.names.lookup n with
  | some .local => true | some .cell => true | _ => false
def glB (sc : Scope) (n : Str) : Bool := match sc.names.lookup n with
  | some .globalImplicit => true | _ => false
def plainB (n : Str) : Bool := !(n == ("__debug__" : Str)) && (!(n == ("__classdict__" : Str)) && !(n == ("__name__" : Str)))
def scB (N : List Str) (sc : Scope) (vl ll : List Nat) (gl : List Str) : Bool :=
  (vl.all fun i => match N[i]? with | some n => visB sc n && plainB n | none => false) && ((ll.all fun i => match N[i]? with | some n => locB sc n | none => false) && gl.all fun n => glB sc n && plainB n)
structure Sc (N : List Str) (sc : Scope) (vl ll : List Nat) (gl : List Str) : Prop where
  nd : N.Nodup
  ok : scB N sc vl ll gl = true
theorem visB_ok {sc : Scope} {n : Str} (h : visB sc n = true) : Vis sc n := by
  unfold visB at h
  split at h
  · next e => exact .inl e
  · next e => exact .inr (.inl e)
  · next e => exact .inr (.inr e)
  · cases h
theorem locB_ok {sc : Scope} {n : Str} (h : locB sc n = true) : Loc sc n := by
  unfold locB at h
  split at h
  · next e => exact .inl e
  · next e => exact .inr e
  · cases h
theorem glB_ok {sc : Scope} {n : Str} (h : glB sc n = true) : sc.names.lookup n = some .globalImplicit := by
  unfold glB at h
  split at h
  · next e => exact e
  · cases h
theorem plainB_ok {n : Str} (h : plainB n = true) : (n == ("__debug__" : Str)) = false ∧ (n == ("__classdict__" : Str)) = false ∧ n ≠ "__name__" := by
  unfold plainB at h
  simp only [Bool.and_eq_true, Bool.not_eq_true'] at h
  exact ⟨h.1, h.2.1, fun e => by have := h.2.2; rw [e] at this; simp at this⟩
section
variable {N : List Str} {sc : Scope} {vl ll : List Nat} {gl : List Str}
theorem Sc.vis (S : Sc N sc vl ll gl) {i : Nat} (h : vl.contains i = true) {n : Str} (hN : N[i]? = some n) : Vis sc n ∧ plainB n = true := by
  have h1 := S.ok
  unfold scB at h1
  have h2 := List.all_eq_true.mp (Bool.and_eq_true_iff.mp h1).1 i (by simpa using h)
  rw [hN] at h2
  exact ⟨visB_ok (Bool.and_eq_true_iff.mp h2).1, (Bool.and_eq_true_iff.mp h2).2⟩
theorem Sc.loc (S : Sc N sc vl ll gl) {i : Nat} (h : ll.contains i = true) {n : Str} (hN : N[i]? = some n) : Loc sc n := by
  have h1 := S.ok
  unfold scB at h1
  have h2 := List.all_eq_true.mp (Bool.and_eq_true_iff.mp (Bool.and_eq_true_iff.mp h1).2).1 i (by simpa using h)
  rw [hN] at h2
  exact locB_ok h2
theorem Sc.glo (S : Sc N sc vl ll gl) {j : Nat} {n : Str} (hg : gl[j]? = some n) : sc.names.lookup n = some .globalImplicit ∧ plainB n = true := by
  have h1 := S.ok
  unfold scB at h1
  have h2 := List.all_eq_true.mp (Bool.and_eq_true_iff.mp (Bool.and_eq_true_iff.mp h1).2).2 n (List.mem_of_getElem? hg)
  exact ⟨glB_ok (Bool.and_eq_true_iff.mp h2).1, (Bool.and_eq_true_iff.mp h2).2⟩
end
theorem lookup_rel {env : Env} : ∀ {names : List (Str × NameKind)} {x : Str} {k : NameKind}, names.lookup x = some k →
    ∃ k', (names.map fun (n, k) => if (k == NameKind.free && env.scope.kind == .function && env.kindOf n == some .cell) then (n, NameKind.cell) else (n, k)).lookup x = some k' ∧ (k' = k ∨ (k = .free ∧ k' = .cell))
  | [], _, _, h => by simp at h
  | (n, j) :: r, x, k, h => by
    rw [List.map_cons, List.lookup_cons] at *
    cases hx : x == n with
    | true =>
      rw [hx] at h
      cases h
      by_cases c : (j == NameKind.free && env.scope.kind == .function && env.kindOf n == some .cell) = true
      · simp only [c, if_true, List.lookup_cons, hx]
        refine ⟨_, rfl, .inr ⟨?_, rfl⟩⟩
        simp only [Bool.and_eq_true] at c
        exact eq_of_beq c.1.1
      · have c' := Bool.eq_false_iff.mpr c
        simp only [c', Bool.false_eq_true, if_false, List.lookup_cons, hx]
        exact ⟨_, rfl, .inl rfl⟩
    | false =>
      rw [hx] at h
      obtain ⟨k', e, r'⟩ := lookup_rel (env := env) h
      refine ⟨k', ?_, r'⟩
      by_cases c : (j == NameKind.free && env.scope.kind == .function && env.kindOf n == some .cell) = true
      · simp only [c, if_true, List.lookup_cons, hx]; exact e
      · have c' := Bool.eq_false_iff.mpr c
        simp only [c', Bool.false_eq_true, if_false, List.lookup_cons, hx]; exact e
structure ScLe (sc sc' : Scope) : Prop where
  kind : sc'.kind = sc.kind
  lk : ∀ n k, sc.names.lookup n = some k → ∃ k', sc'.names.lookup n = some k' ∧ (k' = k ∨ (k = .free ∧ k' = .cell))
theorem ScLe.refl (sc : Scope) : ScLe sc sc := ⟨rfl, fun _ k h => ⟨k, h, .inl rfl⟩⟩
section
variable {sc sc' : Scope} {n : Str}
theorem ScLe.vis (s : ScLe sc sc') (h : Vis sc n) : Vis sc' n := by
  rcases h with h | h | h <;> obtain ⟨k', e, r | ⟨r1, r2⟩⟩ := s.lk n _ h
  · exact .inl (r ▸ e)
  · cases r1
  · exact .inr (.inl (r ▸ e))
  · cases r1
  · exact .inr (.inr (r ▸ e))
  · exact .inr (.inl (r2 ▸ e))
theorem ScLe.loc (s : ScLe sc sc') (h : Loc sc n) : Loc sc' n := by
  rcases h with h | h <;> obtain ⟨k', e, r | ⟨r1, r2⟩⟩ := s.lk n _ h
  · exact .inl (r ▸ e)
  · cases r1
  · exact .inr (r ▸ e)
  · cases r1
theorem ScLe.glob (s : ScLe sc sc') (h : sc.names.lookup n = some .globalImplicit) : sc'.names.lookup n = some .globalImplicit := by
  obtain ⟨k', e, r | ⟨r1, r2⟩⟩ := s.lk n _ h
  · exact r ▸ e
  · cases r1
theorem ScLe.local (s : ScLe sc sc') (h : sc.names.lookup n = some .local) : sc'.names.lookup n = some .local := by
  obtain ⟨k', e, r | ⟨r1, r2⟩⟩ := s.lk n _ h
  · exact r ▸ e
  · cases r1
theorem ScLe.blk {N : List Str} {scope : Scope} {own : List (Str × Nat)} (s : ScLe sc sc') (b : BlkOk N sc scope own) : BlkOk N sc' scope own :=
  ⟨b.kind, b.uniq, b.ix, fun y hy e => by
    rcases b.free y hy e with h | h <;> obtain ⟨k', e', r | ⟨r1, r2⟩⟩ := s.lk _ _ h
    · exact .inl (r ▸ e')
    · cases r1
    · exact .inr (r ▸ e')
    · exact .inl (r2 ▸ e'), b.own⟩
end
structure At (X : Cx) (Γ : Gd) (N : List Str) (sc : Scope) (lv : Nat) : Prop where
  eP : X.prog = Γ.P
  eW : X.w = Γ.w
  eK : X.K = Γ.K
  eM : X.mg = Γ.mg
  eB : X.base = Γ.base
  eN : X.N = N
  eS : ScLe sc X.env.scope
  fn : ∀ n, sc.names.lookup n = some .cell → X.fn n = true
  calm : X.calm = true
  room : Room lv X.A
  pass : PassesOwn (model X.prog X.w) X.A X.env X.xe
theorem Cf.at_ {X : Cx} {P : Program} {w : World} {K : PySem.W.Frag} {mg : Str → Option Value} {base : Heap} {N : List Str} {sc : Scope} {lv : Nat} (c : Cf X P w K mg base N sc lv) : At X ⟨P, w, K, mg, base⟩ N sc lv :=
  ⟨c.prog, c.w, c.K, c.mg, c.base, c.N, by rw [c.sc]; exact .refl _, fun n _ => c.fn n, c.calm, c.room, by rw [c.xe]; exact PassesOwn.never⟩
section
variable {X Y : Cx} {Γ : Gd} {N : List Str} {sc scope : Scope} {lv : Nat}
theorem Blk.at_ (b : Blk X scope Y) (A : At X Γ N sc lv) : At Y Γ N scope lv := by
  obtain ⟨s, H, C, cl, fp, rfl⟩ := b
  exact ⟨A.eP, A.eW, A.eK, A.eM, A.eB, A.eN, ⟨rfl, fun n k h => lookup_rel h⟩, fun n h => by show (scope.names.lookup n == some .cell) = true; rw [h]; rfl, A.calm, A.room, PassesOwn.never⟩
variable {vl ll : List Nat} {gl : List Str} {env : DEnv} {Φ : Outs} {rest : List Stmt} {e a b : Expr} {es : List Expr} {d : D} {k k1 k2 : Kd} {pos pos' : Pos} {n : Str}
def sd : Slot → D
  | .own d => d | .frz d => d | .bor d => d
def sk : Slot → Kd
  | .own _ => .shl | .frz _ => .cln | .bor _ => .brw
theorem nm (A : At X Γ N sc lv) (S : Sc N sc vl ll gl) (i : Nat) {s : Slot} (hN : N[i]? = some n) (hv : vl.contains i = true) (he : env[i]? = some (some s)) : Ev X env (.Name n pos) (sd s) (sk s) := by
  obtain ⟨h1, h2⟩ := S.vis hv hN
  obtain ⟨p1, p2, _⟩ := plainB_ok h2
  have h1 : Vis X.env.scope n := A.eS.vis h1
  have hN : X.N[i]? = some n := by rw [A.eN]; exact hN
  cases s with
  | own d => exact ev_nameO i hN h1 he p1 p2
  | frz d => exact ev_nameF i hN h1 he p1 p2
  | bor d => exact ev_nameB i hN h1 he p1 p2
theorem glo (A : At X Γ N sc lv) (S : Sc N sc vl ll gl) (j : Nat) (hg : gl[j]? = some n) : Gl X n := by
  exact A.eS.glob (S.glo hg).1
theorem gI (A : At X Γ N sc lv) (S : Sc N sc vl ll gl) (j : Nat) {i : Int} (hg : gl[j]? = some n) (hm : ∃ t, Γ.mg n = some (.int i t)) : Ev X env (.Name n pos) (.int i) .cln := by
  obtain ⟨t, hm⟩ := hm
  exact ev_globI (glo A S j hg) (by rw [A.eM]; exact hm) (plainB_ok (S.glo hg).2).1
theorem gS (A : At X Γ N sc lv) (S : Sc N sc vl ll gl) (j : Nat) {s : Str} (hg : gl[j]? = some n) (hm : ∃ t, Γ.mg n = some (.str s t)) : Ev X env (.Name n pos) (.str s) .cln := by
  obtain ⟨t, hm⟩ := hm
  exact ev_globS (glo A S j hg) (by rw [A.eM]; exact hm) (plainB_ok (S.glo hg).2).1
theorem bn (A : At X Γ N sc lv) (S : Sc N sc vl ll gl) (j : Nat) {u : Value} (hg : gl[j]? = some n) (hm : Γ.mg n = none) (hb : bootBuiltins n = some u) : Bn X n u :=
  ⟨glo A S j hg, by rw [A.eM]; exact hm, hb, (plainB_ok (S.glo hg).2).2.2, (plainB_ok (S.glo hg).2).1⟩
theorem At.fnl (A : At X Γ N sc lv) (h : Loc sc n) : X.fn n = true ∨ X.env.scope.names.lookup n = some .local := by
  rcases h with h | h
  · exact .inr (A.eS.local h)
  · exact .inl (A.fn n h)
theorem set_ (A : At X Γ N sc lv) (S : Sc N sc vl ll gl) (i : Nat) {s : Slot} (hN : N[i]? = some n) (hl : ll.contains i = true) (he : Ev X env e d k) (so : SlotOf k d s) (hs : swapsWith e (some (.Name n pos')) pos.line X.env = pure false)
    (h : SS X (env.set i (some s)) rest Φ) : SS X env (.Assign [.Name n pos'] e pos :: rest) Φ :=
  ss_set i (by rw [A.eN]; exact S.nd) (by rw [A.eN]; exact hN) (A.eS.loc (S.loc hl hN)) he so hs (A.fnl (S.loc hl hN)) h
theorem tg (A : At X Γ N sc lv) (S : Sc N sc vl ll gl) (i : Nat) (hN : N[i]? = some n) (hl : ll.contains i = true) : TgOk X (.Name n pos) (.nm i) :=
  tg_nm i (by rw [A.eN]; exact S.nd) (by rw [A.eN]; exact hN) (A.eS.loc (S.loc hl hN)) (A.fnl (S.loc hl hN))
theorem append_ (A : At X Γ N sc lv) (S : Sc N sc vl ll gl) (i : Nat) {np apos cpos : Pos} {ds : List D} (hN : N[i]? = some n) (hv : vl.contains i = true) (he : env[i]? = some (some (.own (.lst ds)))) (ha : Ev X env e d k) (hk : heldOf k d = .cln) (hz : ds.length < sizeLine)
    (mx : Mx X (.Name n np) "append" [e] apos cpos) (hs : starEach [e] X.env = [(false, eval e X.env)]) (hsw : swapsWith (.Call (.Attribute (.Name n np) "append" apos) [e] [] cpos) none pos.line X.env = pure false)
    (h : SS X (env.set i (some (.own (.lst (ds ++ [d]))))) rest Φ) : SS X env (.Expr (.Call (.Attribute (.Name n np) "append" apos) [e] [] cpos) pos :: rest) Φ := by
  obtain ⟨h1, h2⟩ := S.vis hv hN
  obtain ⟨p1, p2, _⟩ := plainB_ok h2
  exact ss_cons (s1_append i (by rw [A.eN]; exact hN) (A.eS.vis h1) he ha hk hz mx hs hsw p1 p2 h)
theorem retO (A : At X Γ N sc lv) (S : Sc N sc vl ll gl) (i : Nat) (hN : N[i]? = some n) (hv : vl.contains i = true) (he : env[i]? = some (some (.own d))) (h : Φ.rt d .own) : SS X env (.Return (some (.Name n pos')) pos :: rest) Φ := by
  obtain ⟨h1, h2⟩ := S.vis hv hN
  obtain ⟨p1, p2, _⟩ := plainB_ok h2
  exact ss_retO i (by rw [A.eN]; exact hN) (A.eS.vis h1) he h p1 p2
end
inductive AddR : D → D → Kd → Kd → D → Kd → Prop
  | int {i j : Int} {k1 k2 : Kd} : AddR (.int i) (.int j) k1 k2 (.int (i + j)) .cln
  | str {s t : Str} {k1 k2 : Kd} : s.length + t.length ≤ sizeLine → AddR (.str s) (.str t) k1 k2 (.str (s ++ t)) .cln
  | lstM {α : Type} {f : α → D} {xs ys : List α} {k1 k2 : Kd} : xs.length + ys.length ≤ sizeLine → AddR (.lst (xs.map f)) (.lst (ys.map f)) k1 k2 (.lst ((xs ++ ys).map f)) (k1.kid.join k2.kid).mk
  | lst {ds es : List D} {k1 k2 : Kd} : ds.length + es.length ≤ sizeLine → AddR (.lst ds) (.lst es) k1 k2 (.lst (ds ++ es)) (k1.kid.join k2.kid).mk
  | tupM {α : Type} {f : α → D} {xs ys : List α} {k1 k2 : Kd} : xs.length + ys.length ≤ sizeLine → AddR (.tup (xs.map f)) (.tup (ys.map f)) k1 k2 (.tup ((xs ++ ys).map f)) (k1.kid.join k2.kid)
  | tup {ds es : List D} {k1 k2 : Kd} : ds.length + es.length ≤ sizeLine → AddR (.tup ds) (.tup es) k1 k2 (.tup (ds ++ es)) (k1.kid.join k2.kid)
inductive LenR : D → Int → Prop
  | lstM {α : Type} {f : α → D} {xs : List α} : LenR (.lst (xs.map f)) xs.length
  | lst {ds : List D} : LenR (.lst ds) ds.length
  | tupM {α : Type} {f : α → D} {xs : List α} : LenR (.tup (xs.map f)) xs.length
  | tup {ds : List D} : LenR (.tup ds) ds.length
  | scr {ns : List Int} : LenR (.scr ns) ns.length
  | str {s : Str} : s.length ≤ sizeLine → LenR (.str s) s.length
inductive IxD : D → Int → Kd → D → Kd → Prop
  | lst {ds : List D} {i : Int} {d : D} {k : Kd} : atI ds i = some d → IxD (.lst ds) i k d k.kid
  | tup {ds : List D} {i : Int} {d : D} {k : Kd} : atI ds i = some d → IxD (.tup ds) i k d k.kid
  | scr {ns : List Int} {i j : Int} {k : Kd} : atI ns i = some j → IxD (.scr ns) i k (.int j) .cln
  | str {s : Str} {i : Int} {c : Nat} {k : Kd} : s.length ≤ sizeLine → atI s.cps.toList i = some c → IxD (.str s) i k (.str ⟨#[c]⟩) .cln
inductive IntR : D → Int → Prop
  | int {i : Int} : IntR (.int i) i
  | bl {p : Bool} : IntR (.bl p) (if p then 1 else 0)
inductive SeqR : D → Kd → List D → Kd → Prop
  | lst {ds : List D} {k : Kd} : SeqR (.lst ds) k ds k.kid
  | tup {ds : List D} {k : Kd} : SeqR (.tup ds) k ds k.kid
inductive IterR : D → Kd → List D → K2 → Bool → Prop
  | lstC {ds : List D} : IterR (.lst ds) .cln ds .c true
  | lstO {ds : List D} : IterR (.lst ds) .own ds .c true
  | lstB {ds : List D} : IterR (.lst ds) .brw ds .b true
  | lstS {ds : List D} : IterR (.lst ds) .shl ds .c false
  | tupC {ds : List D} : IterR (.tup ds) .cln ds .c true
  | tupB {ds : List D} : IterR (.tup ds) .brw ds .b true
inductive CmpR : CmpOp → D → D → Bool → Prop
  | int {op : CmpOp} {i j : Int} {t : Bool} : CmpI op i j t → CmpR op (.int i) (.int j) t
  | eqS {s t : Str} : CmpR .Eq (.str s) (.str t) (decide (s = t))
  | neS {s t : Str} : CmpR .NotEq (.str s) (.str t) (!decide (s = t))
  | eqB {s t : Bool} : CmpR .Eq (.bl s) (.bl t) (decide (s = t))
  | neB {s t : Bool} : CmpR .NotEq (.bl s) (.bl t) (!decide (s = t))
  | eqD {x y : D} {p : Bool} : x.pyo = true → y.pyo = true → x.shal → y.shal → PyData.eqv x.py y.py = p → CmpR .Eq x y p
  | neD {x y : D} {p : Bool} : x.pyo = true → y.pyo = true → x.shal → y.shal → PyData.eqv x.py y.py = p → CmpR .NotEq x y (!p)
section
variable {X : Cx} {env : DEnv} {tg a b c : Expr} {k k1 k2 k3 kz : Kd} {pos pn : Pos} {x y z d : D} {i j : Int} {ds : List D} {op : CmpOp} {p : Bool} {kk : K2} {fx : Bool}
theorem add_ (ha : Ev X env a x k1) (hb : Ev X env b y k2) (h : AddR x y k1 k2 z kz) : Ev X env (.BinOp a .Add b pos) z kz := by
  cases h with
  | int => exact ev_add ha hb
  | str h => exact ev_addS ha hb h
  | lst h => exact ev_addL ha hb h
  | tup h => exact ev_addT ha hb h
  | lstM h => rw [List.map_append]; exact ev_addL ha hb (by rw [List.length_map, List.length_map]; exact h)
  | tupM h => rw [List.map_append]; exact ev_addT ha hb (by rw [List.length_map, List.length_map]; exact h)
theorem len_ (bn : Bn X "len" (.builtin "len")) (ha : Ev X env a x k1) (h : LenR x i) (he : starEach [a] X.env = [(false, eval a X.env)]) : Ev X env (.Call (.Name "len" pn) [a] [] pos) (.int i) .cln := by
  cases h with
  | lst => exact ev_lenL bn ha he
  | tup => exact ev_lenT bn ha he
  | lstM => have := ev_lenL (pn := pn) (pos := pos) bn ha he; rw [List.length_map] at this; exact this
  | tupM => have := ev_lenT (pn := pn) (pos := pos) bn ha he; rw [List.length_map] at this; exact this
  | scr => exact ev_lenC bn ha he
  | str h => exact ev_lenS bn ha h he
theorem ix_ (ha : Ev X env a x k1) (hb : Ev X env b (.int i) k2) (h : IxD x i k1 d kz) (hs : PlainIx b) : Ev X env (.Subscript a b pos) d kz := by
  cases h with
  | lst h => exact ev_ixL ha hb h hs
  | tup h => exact ev_ixT ha hb h hs
  | scr h => exact ev_ixC ha hb h hs
  | str hz h => exact ev_ixS ha hb hz h hs
theorem int_ (bn : Bn X "int" (.type "int")) (ha : Ev X env a x k1) (h : IntR x i) (he : starEach [a] X.env = [(false, eval a X.env)]) : Ev X env (.Call (.Name "int" pn) [a] [] pos) (.int i) .cln := by
  cases h with
  | int => exact ev_intI bn ha he
  | bl => exact ev_intB bn ha he
theorem list_ (bn : Bn X "list" (.type "list")) (ha : Ev X env a x k1) (h : SeqR x k1 ds k2) (he : starEach [a] X.env = [(false, eval a X.env)]) : Ev X env (.Call (.Name "list" pn) [a] [] pos) (.lst ds) k2.mk := by
  cases h with
  | lst => exact ev_listL bn ha he
  | tup => exact ev_listT bn ha he
theorem tuple_ (bn : Bn X "tuple" (.type "tuple")) (ha : Ev X env a x k1) (h : SeqR x k1 ds k2) (he : starEach [a] X.env = [(false, eval a X.env)]) : Ev X env (.Call (.Name "tuple" pn) [a] [] pos) (.tup ds) k2 := by
  cases h with
  | lst => exact ev_tupL bn ha he
  | tup => exact ev_tupT bn ha he
theorem iter_ (ha : Ev X env a x k1) (h : IterR x k1 ds kk fx) : EI X env tg a ds kk fx := by
  cases h with
  | lstC => exact ei_lstC ha
  | lstO => exact ei_lstC ha.own_cln
  | lstB => exact ei_lstB ha
  | lstS => exact ei_lstS ha
  | tupC => exact ei_tupC ha
  | tupB => exact ei_tupB ha
theorem cmp_ (hu : X.A.units + 64 < cLine) (ha : Ev X env a x k1) (hb : Ev X env b y k2) (h : CmpR op x y p) : Ev X env (.Compare a [op] [b] pos) (.bl p) .cln := by
  cases h with
  | int h => exact ev_cI ha hb h
  | eqS => exact ev_eqS ha hb
  | neS => exact ev_neS ha hb
  | eqB => exact ev_eqB ha hb
  | neB => exact ev_neB ha hb
  | eqD h1 h2 h3 h4 h5 => exact ev_eqD hu ha hb h1 h2 h3 h4 h5
  | neD h1 h2 h3 h4 h5 => exact ev_neD hu ha hb h1 h2 h3 h4 h5
theorem cmpT (hu : X.A.units + 64 < cLine) (ha : Ev X env a x k1) (hb : Ev X env b y k2) (h : CmpR op x y p) : Et X env (.Compare a [op] [b] pos) p := by
  cases h with
  | int h => exact et_cI ha hb h
  | eqS => exact et_eqS ha hb
  | neS => exact et_neS ha hb
  | eqB => exact et_eqB ha hb
  | neB => exact et_neB ha hb
  | eqD h1 h2 h3 h4 h5 => exact et_eqD hu ha hb h1 h2 h3 h4 h5
  | neD h1 h2 h3 h4 h5 => exact et_neD hu ha hb h1 h2 h3 h4 h5
end
theorem atI_map {α : Type} {f : α → D} {xs : List α} {i : Int} {x : α} (h : atI xs i = some x) : atI (xs.map f) i = some (f x) := by
  unfold atI at h ⊢
  rw [List.length_map]
  cases e : ixN xs.length i with
  | none => rw [e] at h; cases h
  | some m =>
    rw [e] at h
    show (xs.map f)[m]? = _
    rw [List.getElem?_map, show xs[m]? = some x from h]; rfl
theorem atI_getD {α : Type} {xs : List α} {i : Int} (d : α) (h0 : 0 ≤ i) (h1 : i < xs.length) : atI xs i = some (xs.getD i.toNat d) := by
  unfold atI ixN
  rw [if_pos h0, if_pos h1]
  have : i.toNat < xs.length := by omega
  show xs[i.toNat]? = _
  rw [List.getD_eq_getElem?_getD, List.getElem?_eq_getElem this]; rfl
end DL
namespace DL
open PySem PySem.Spec L2
open PyProof.Rows hiding St
def line : Nat := 16777216
theorem line_eq : sizeLine = line := by rw [sizeLine_eq]; rfl
def cmulB (i j : Int) : Bool := (decide (-18446744073709551616 < i) && decide (i < 18446744073709551616)) || (decide (-18446744073709551616 < j) && decide (j < 18446744073709551616))
theorem cmulB_ok {i j : Int} (h : cmulB i j = true) : CMul i j := by
  unfold cmulB at h
  simp only [Bool.or_eq_true, Bool.and_eq_true, decide_eq_true_eq] at h
  exact h
def mulG (i j : Int) : Option Int := if cmulB i j then some (i * j) else none
def divG (i j : Int) : Option Int := if decide (0 < j) && decide (j < 1073741824) then some (i / j) else none
def modG (i j : Int) : Option Int := if decide (0 < j) then some (i % j) else none
def powG (i j : Int) : Option Int := if decide (0 ≤ j) && (decide (j ≤ 1000000) && decide (i.natAbs < 18446744073709551616)) then some (i ^ j.toNat) else none
def addSG (s t : Str) : Option Str := if s.length + t.length ≤ line then some (s ++ t) else none
def catG {α : Type} (xs ys : List α) : Option (List α) := if xs.length + ys.length ≤ line then some (xs ++ ys) else none
def appG {α : Type} (xs : List α) (x : α) : Option (List α) := if xs.length < line then some (xs ++ [x]) else none
def rngI (lo : Int) (n : Nat) : List Int := (List.range n).map fun i : Nat => lo + (i : Int)
def rng1G (n : Int) : Option (List Int) := if decide (-4611686018427387904 ≤ n) && decide (n < 4611686018427387904) then some (rngI 0 n.toNat) else none
def rng2G (a b : Int) : Option (List Int) := if decide (-4611686018427387904 ≤ a) && (decide (a < 4611686018427387904) && (decide (-4611686018427387904 ≤ b) && decide (b < 4611686018427387904))) then some (rngI a (b - a).toNat) else none
def idxG {α : Type} (xs : List α) (i : Int) : Option α := atI xs i
def idxSG (s : Str) (i : Int) : Option Str := if s.length ≤ line then (atI s.cps.toList i).map fun c => ⟨#[c]⟩ else none
def lenSG (s : Str) : Option Int := if s.length ≤ line then some s.length else none
def slSG (s : Str) (l u : Option Int) : Option Str := if s.length ≤ line then some (cutS s l u) else none
def cutX {α : Type} (xs : List α) (lo hi : Option Int) : List α := (xs.drop (HT.sIx xs.length 0 lo)).take (HT.sIx xs.length xs.length hi - HT.sIx xs.length 0 lo)
def setG {α : Type} (xs : List α) (i : Int) (x : α) : Option (List α) := match ixN xs.length i with
  | some m => some (xs.set m x)
  | none => none
def lcG {α : Type} (xs : List α) : Option (List α) := if xs.length ≤ line then some xs else none
def maxG : List Int → Option Int
  | [] => none
  | x :: xs => some (xs.foldl (fun a b => if a < b then b else a) x)
def minG : List Int → Option Int
  | [] => none
  | x :: xs => some (xs.foldl (fun a b => if b < a then b else a) x)
def lcM {α β : Type} (p : α → Option Bool) (f : α → Option β) : List α → Option (List β)
  | [] => some []
  | x :: xs => (p x).bind fun b => if b = true then (f x).bind fun y => (lcM p f xs).bind fun ys => some (y :: ys) else lcM p f xs
inductive Ctl (S R : Type) where
  | nx (s : S) | ret (r : R) | brk (s : S)
def loopM {α S R : Type} (step : S → α → Option (Ctl S R)) : S → List α → Option (Ctl S R)
  | s, [] => some (.nx s)
  | s, x :: xs => match step s x with
    | some (.nx s') => loopM step s' xs
    | some (.ret r) => some (.ret r)
    | some (.brk s') => some (.nx s')
    | none => none
def whileM {S R : Type} (c : S → Option Bool) (step : S → Option (Ctl S R)) : Nat → S → Option (Ctl S R)
  | 0, _ => none
  | n + 1, s => (c s).bind fun b => if b = true then (match step s with
    | some (.nx s') => whileM c step n s'
    | some (.ret r) => some (.ret r)
    | some (.brk s') => some (.nx s')
    | none => none) else some (.nx s)
theorem bindO {α β : Type} {o : Option α} {f : α → Option β} {b : β} (h : o.bind f = some b) : ∃ a, o = some a ∧ f a = some b := Option.bind_eq_some_iff.mp h
theorem ifO {α : Type} {p : Bool} {a b : Option α} {x : α} (h : (if p = true then a else b) = some x) : (p = true → a = some x) ∧ (p = false → b = some x) := by
  cases p with
  | true => exact ⟨fun _ => h, fun z => nomatch z⟩
  | false => exact ⟨(fun z => nomatch z), fun _ => h⟩
theorem iteO {α : Type} {c : Prop} [Decidable c] {a x : α} (h : (if c then some a else none) = some x) : c ∧ a = x := by
  by_cases hc : c
  · rw [if_pos hc] at h; exact ⟨hc, Option.some.inj h⟩
  · rw [if_neg hc] at h; cases h
section
variable {X : Cx} {env : DEnv} {tg a b c : Expr} {k k1 k2 k3 : Kd} {pos pn : Pos} {i j v : Int} {s t w : Str} {d d' : D}
theorem Ev.cv (h : Ev X env a d k) (e : d = d') : Ev X env a d' k := e ▸ h
theorem mul_ (ha : Ev X env a (.int i) k1) (hb : Ev X env b (.int j) k2) (h : mulG i j = some v) : Ev X env (.BinOp a .Mult b pos) (.int v) .cln := by
  obtain ⟨h1, e⟩ := iteO h; subst e
  exact ev_mul ha hb (cmulB_ok h1)
theorem div_ (ha : Ev X env a (.int i) k1) (hb : Ev X env b (.int j) k2) (h : divG i j = some v) : Ev X env (.BinOp a .FloorDiv b pos) (.int v) .cln := by
  obtain ⟨h1, e⟩ := iteO h; subst e
  simp only [Bool.and_eq_true, decide_eq_true_eq] at h1
  exact ev_fdiv ha hb h1
theorem mod_ (ha : Ev X env a (.int i) k1) (hb : Ev X env b (.int j) k2) (h : modG i j = some v) : Ev X env (.BinOp a .Mod b pos) (.int v) .cln := by
  obtain ⟨h1, e⟩ := iteO h; subst e
  exact ev_mod ha hb (of_decide_eq_true h1)
theorem pow_ (ha : Ev X env a (.int i) k1) (hb : Ev X env b (.int j) k2) (h : powG i j = some v) : Ev X env (.BinOp a .Pow b pos) (.int v) .cln := by
  obtain ⟨h1, e⟩ := iteO h; subst e
  simp only [Bool.and_eq_true, decide_eq_true_eq] at h1
  exact ev_pow ha hb h1
theorem addS_ (ha : Ev X env a (.str s) k1) (hb : Ev X env b (.str t) k2) (h : addSG s t = some w) : Ev X env (.BinOp a .Add b pos) (.str w) .cln := by
  obtain ⟨h1, e⟩ := iteO h; subst e
  exact ev_addS ha hb (by rw [line_eq]; exact h1)
theorem catL_ {α : Type} {f : α → D} {xs ys zs : List α} (ha : Ev X env a (.lst (xs.map f)) k1) (hb : Ev X env b (.lst (ys.map f)) k2) (h : catG xs ys = some zs) : Ev X env (.BinOp a .Add b pos) (.lst (zs.map f)) (k1.kid.join k2.kid).mk := by
  obtain ⟨h1, e⟩ := iteO h; subst e
  exact add_ ha hb (.lstM (by rw [line_eq]; exact h1))
theorem catT_ {α : Type} {f : α → D} {xs ys zs : List α} (ha : Ev X env a (.tup (xs.map f)) k1) (hb : Ev X env b (.tup (ys.map f)) k2) (h : catG xs ys = some zs) : Ev X env (.BinOp a .Add b pos) (.tup (zs.map f)) (k1.kid.join k2.kid) := by
  obtain ⟨h1, e⟩ := iteO h; subst e
  exact add_ ha hb (.tupM (by rw [line_eq]; exact h1))
theorem ixL_ {α : Type} {f : α → D} {xs : List α} {x : α} (ha : Ev X env a (.lst (xs.map f)) k1) (hb : Ev X env b (.int i) k2) (h : idxG xs i = some x) (hs : PlainIx b) : Ev X env (.Subscript a b pos) (f x) k1.kid := ev_ixL ha hb (atI_map h) hs
theorem ixT_ {α : Type} {f : α → D} {xs : List α} {x : α} (ha : Ev X env a (.tup (xs.map f)) k1) (hb : Ev X env b (.int i) k2) (h : idxG xs i = some x) (hs : PlainIx b) : Ev X env (.Subscript a b pos) (f x) k1.kid := ev_ixT ha hb (atI_map h) hs
theorem ixC_ {ns : List Int} (ha : Ev X env a (.scr ns) k1) (hb : Ev X env b (.int i) k2) (h : idxG ns i = some v) (hs : PlainIx b) : Ev X env (.Subscript a b pos) (.int v) .cln := ev_ixC ha hb h hs
theorem ixS_ (ha : Ev X env a (.str s) k1) (hb : Ev X env b (.int i) k2) (h : idxSG s i = some w) (hs : PlainIx b) : Ev X env (.Subscript a b pos) (.str w) .cln := by
  unfold idxSG at h
  by_cases hz : s.length ≤ line
  · rw [if_pos hz] at h
    obtain ⟨c, e1, e2⟩ := Option.map_eq_some_iff.mp h
    subst e2
    exact ev_ixS ha hb (by rw [line_eq]; exact hz) e1 hs
  · rw [if_neg hz] at h; cases h
theorem lenL_ {α : Type} {f : α → D} {xs : List α} (bn : Bn X "len" (.builtin "len")) (ha : Ev X env a (.lst (xs.map f)) k1) (he : starEach [a] X.env = [(false, eval a X.env)]) : Ev X env (.Call (.Name "len" pn) [a] [] pos) (.int (xs.length : Nat)) .cln := len_ bn ha .lstM he
theorem lenT_ {α : Type} {f : α → D} {xs : List α} (bn : Bn X "len" (.builtin "len")) (ha : Ev X env a (.tup (xs.map f)) k1) (he : starEach [a] X.env = [(false, eval a X.env)]) : Ev X env (.Call (.Name "len" pn) [a] [] pos) (.int (xs.length : Nat)) .cln := len_ bn ha .tupM he
theorem lenC_ {ns : List Int} (bn : Bn X "len" (.builtin "len")) (ha : Ev X env a (.scr ns) k1) (he : starEach [a] X.env = [(false, eval a X.env)]) : Ev X env (.Call (.Name "len" pn) [a] [] pos) (.int (ns.length : Nat)) .cln := len_ bn ha .scr he
theorem lenS_ (bn : Bn X "len" (.builtin "len")) (ha : Ev X env a (.str s) k1) (h : lenSG s = some v) (he : starEach [a] X.env = [(false, eval a X.env)]) : Ev X env (.Call (.Name "len" pn) [a] [] pos) (.int v) .cln := by
  obtain ⟨h1, e⟩ := iteO h; subst e
  exact len_ bn ha (.str (by rw [line_eq]; exact h1)) he
variable {lo hi : Option Expr} {l u : Option Int} {p2 : Pos}
theorem cut_map {α : Type} {f : α → D} {xs : List α} : cutD (xs.map f) l u = (cutX xs l u).map f := by
  unfold cutD cutX
  rw [List.length_map, List.map_take, List.map_drop]
theorem slL_ {α : Type} {f : α → D} {xs : List α} (ha : Ev X env a (.lst (xs.map f)) k1) (hl : Eo X env lo l) (hu : Eo X env hi u) : Ev X env (.Subscript a (.Slice lo hi none p2) pos) (.lst ((cutX xs l u).map f)) k1.kid.mk := by
  rw [← cut_map]; exact ev_slL ha hl hu
theorem slT_ {α : Type} {f : α → D} {xs : List α} (ha : Ev X env a (.tup (xs.map f)) k1) (hl : Eo X env lo l) (hu : Eo X env hi u) : Ev X env (.Subscript a (.Slice lo hi none p2) pos) (.tup ((cutX xs l u).map f)) k1.kid := by
  rw [← cut_map]; exact ev_slT ha hl hu
theorem slS_ (ha : Ev X env a (.str s) k1) (hl : Eo X env lo l) (hu : Eo X env hi u) (h : slSG s l u = some w) : Ev X env (.Subscript a (.Slice lo hi none p2) pos) (.str w) .cln := by
  obtain ⟨h1, e⟩ := iteO h; subst e
  exact ev_slS ha hl hu (by rw [line_eq]; exact h1)
theorem revL_ {α : Type} {f : α → D} {xs : List α} {kk : Nat} {p1 p2 p3 : Pos} (ha : Ev X env a (.lst (xs.map f)) k1) : Ev X env (.Subscript a (.Slice none none (some (.UnaryOp .USub (.Constant (.int 1) kk p1) p2)) p3) pos) (.lst (xs.reverse.map f)) k1.kid.mk := by
  rw [List.map_reverse]; exact ev_revL ha
theorem rng_map (lo : Int) (n : Nat) : rngD lo n = (rngI lo n).map D.int := by unfold rngD rngI; rw [List.map_map]; rfl
theorem rng1_ {ns : List Int} (hg : Gl X "range") (hm : X.mg "range" = none) (ha : Ev X env a (.int j) k1) (h : rng1G j = some ns) (hs : starEach [a] X.env = [(false, eval a X.env)]) : EI X env tg (.Call (.Name "range" pn) [a] [] pos) (ns.map D.int) .c true := by
  obtain ⟨h1, e⟩ := iteO h; subst e
  simp only [Bool.and_eq_true, decide_eq_true_eq] at h1
  rw [← rng_map]
  exact ei_rng1 hg hm ha h1.1 h1.2 hs
theorem rng2_ {ns : List Int} (hg : Gl X "range") (hm : X.mg "range" = none) (ha : Ev X env a (.int i) k1) (hb : Ev X env b (.int j) k2) (h : rng2G i j = some ns) (hs : starEach [a, b] X.env = [(false, eval a X.env), (false, eval b X.env)]) (hs2 : starEach [b] X.env = [(false, eval b X.env)]) :
    EI X env tg (.Call (.Name "range" pn) [a, b] [] pos) (ns.map D.int) .c true := by
  obtain ⟨h1, e⟩ := iteO h; subst e
  simp only [Bool.and_eq_true, decide_eq_true_eq] at h1
  rw [← rng_map]
  exact ei_rng2 hg hm ha hb h1.1 h1.2.1 h1.2.2.1 h1.2.2.2 hs hs2
theorem maxG_go : ∀ (xs : List Int) (x : Int), (xs.foldl (fun a b => if a < b then b else a) x) ∈ x :: xs ∧ ∀ y ∈ x :: xs, y ≤ xs.foldl (fun a b => if a < b then b else a) x := by
  intro xs
  induction xs with
  | nil => intro x; exact ⟨by simp, fun y hy => by have : y = x := by simpa using hy
                                                   rw [this]; exact Int.le_refl _⟩
  | cons z zs ih =>
    intro x
    obtain ⟨h1, h2⟩ := ih (if x < z then z else x)
    have hx := h2 (if x < z then z else x) (by simp)
    have c1 : x ≤ (if x < z then z else x) := by split <;> omega
    have c2 : z ≤ (if x < z then z else x) := by split <;> omega
    refine ⟨?_, fun y hy => ?_⟩
    · show zs.foldl _ (if x < z then z else x) ∈ _
      rcases List.mem_cons.mp h1 with e | e
      · rw [e]; split <;> simp
      · simp [e]
    · show y ≤ zs.foldl _ (if x < z then z else x)
      rcases List.mem_cons.mp hy with e | e
      · rw [e]; exact Int.le_trans c1 hx
      · rcases List.mem_cons.mp e with e | e
        · rw [e]; exact Int.le_trans c2 hx
        · exact h2 y (by simp [e])
theorem maxG_ok {xs : List Int} {m : Int} (h : maxG xs = some m) : m ∈ xs ∧ ∀ y ∈ xs, y ≤ m := by
  cases xs with
  | nil => cases h
  | cons x xs => cases h; exact maxG_go xs x
theorem minG_go : ∀ (xs : List Int) (x : Int), (xs.foldl (fun a b => if b < a then b else a) x) ∈ x :: xs ∧ ∀ y ∈ x :: xs, xs.foldl (fun a b => if b < a then b else a) x ≤ y := by
  intro xs
  induction xs with
  | nil => intro x; exact ⟨by simp, fun y hy => by have : y = x := by simpa using hy
                                                   rw [this]; exact Int.le_refl _⟩
  | cons z zs ih =>
    intro x
    obtain ⟨h1, h2⟩ := ih (if z < x then z else x)
    have hx := h2 (if z < x then z else x) (by simp)
    have c1 : (if z < x then z else x) ≤ x := by split <;> omega
    have c2 : (if z < x then z else x) ≤ z := by split <;> omega
    refine ⟨?_, fun y hy => ?_⟩
    · show zs.foldl _ (if z < x then z else x) ∈ _
      rcases List.mem_cons.mp h1 with e | e
      · rw [e]; split <;> simp
      · simp [e]
    · show zs.foldl _ (if z < x then z else x) ≤ y
      rcases List.mem_cons.mp hy with e | e
      · rw [e]; exact Int.le_trans hx c1
      · rcases List.mem_cons.mp e with e | e
        · rw [e]; exact Int.le_trans hx c2
        · exact h2 y (by simp [e])
theorem minG_ok {xs : List Int} {m : Int} (h : minG xs = some m) : m ∈ xs ∧ ∀ y ∈ xs, m ≤ y := by
  cases xs with
  | nil => cases h
  | cons x xs => cases h; exact minG_go xs x
theorem maxL_ {ns : List Int} (hc : X.calm = true) (bn : Bn X "max" (.builtin "max")) (ha : Ev X env a (.lst (ns.map D.int)) k1) (h : maxG ns = some v) (he : starEach [a] X.env = [(false, eval a X.env)]) : Ev X env (.Call (.Name "max" pn) [a] [] pos) (.int v) .cln := ev_maxL hc bn ha (maxG_ok h).1 (maxG_ok h).2 he
theorem minL_ {ns : List Int} (hc : X.calm = true) (bn : Bn X "min" (.builtin "min")) (ha : Ev X env a (.lst (ns.map D.int)) k1) (h : minG ns = some v) (he : starEach [a] X.env = [(false, eval a X.env)]) : Ev X env (.Call (.Name "min" pn) [a] [] pos) (.int v) .cln := ev_minL hc bn ha (minG_ok h).1 (minG_ok h).2 he
variable {p q r : Bool} {rest : List Expr} {m : Option Bool}
theorem ifT {α : Type} {m m' : Option α} {r : α} {p : Bool} (h : (if p = true then m else m') = some r) (hp : p = true) : m = some r := by rw [if_pos hp] at h; exact h
theorem ifF {α : Type} {m m' : Option α} {r : α} {p : Bool} (h : (if p = true then m else m') = some r) (hp : p = false) : m' = some r := by rw [hp] at h; exact h
theorem ew_andM (h1 : Et X env a p) (h : (if p = true then m else some false) = some r) (h2 : m = some r → Ew X env (.BoolOp .And (b :: rest) pos) r) : Ew X env (.BoolOp .And (a :: b :: rest) pos) r := by
  cases p with
  | true => exact ew_and h1 fun _ => h2 h
  | false => cases h; exact ew_and (q := false) h1 fun z => nomatch z
theorem ew_orM (h1 : Et X env a p) (h : (if p = true then some true else m) = some r) (h2 : m = some r → Ew X env (.BoolOp .Or (b :: rest) pos) r) : Ew X env (.BoolOp .Or (a :: b :: rest) pos) r := by
  cases p with
  | false => exact ew_or h1 fun _ => h2 h
  | true => cases h; exact ew_or (q := true) h1 fun z => nomatch z
theorem ev_andM (h1 : Ev X env a (.bl p) k1) (h : (if p = true then m else some false) = some r) (h2 : m = some r → Ev X env (.BoolOp .And (b :: rest) pos) (.bl r) .cln) : Ev X env (.BoolOp .And (a :: b :: rest) pos) (.bl r) .cln := by
  cases p with
  | true => exact ev_and h1 fun _ => h2 h
  | false => cases h; exact ev_and (q := false) h1 fun z => nomatch z
theorem ev_orM (h1 : Ev X env a (.bl p) k1) (h : (if p = true then some true else m) = some r) (h2 : m = some r → Ev X env (.BoolOp .Or (b :: rest) pos) (.bl r) .cln) : Ev X env (.BoolOp .Or (a :: b :: rest) pos) (.bl r) .cln := by
  cases p with
  | false => exact ev_or h1 fun _ => h2 h
  | true => cases h; exact ev_or (q := true) h1 fun z => nomatch z
theorem ev_ifM {α : Type} {en : α → D} {x : α} {ma mb : Option α} (hc : Et X env c p) (h : (if p = true then ma else mb) = some x) (ha : ma = some x → Ev X env a (en x) k1) (hb : mb = some x → Ev X env b (en x) k1) : Ev X env (.IfExp c a b pos) (en x) k1 := by
  cases p with
  | true => exact ev_if hc (fun _ => ha h) fun z => nomatch z
  | false => exact ev_if hc (fun z => nomatch z) fun _ => hb h
theorem ev_ifP {α : Type} {en : α → D} {x y : α} (hc : Et X env c p) (ha : Ev X env a (en x) k1) (hb : Ev X env b (en y) k1) : Ev X env (.IfExp c a b pos) (en (if p = true then x else y)) k1 := by
  cases p with
  | true => exact ev_if hc (fun _ => ha) fun z => nomatch z
  | false => exact ev_if hc (fun z => nomatch z) fun _ => hb
end
theorem lcM_ok {α β : Type} {p : α → Option Bool} {f : α → Option β} (en : β → D) : ∀ {xs : List α} {ys : List β}, lcM p f xs = some ys →
    ∃ (pd : α → Bool) (g : α → D), ((xs.filter pd).map g) = ys.map en ∧ (∀ x, pd x = (p x).getD false) ∧ (∀ x, g x = match f x with | some y => en y | none => .non) ∧ ∀ x ∈ xs, p x = some (pd x) ∧ (pd x = true → ∃ y, f x = some y ∧ g x = en y) := by
  intro xs
  induction xs with
  | nil => intro ys h; cases h; exact ⟨_, _, rfl, fun _ => rfl, fun _ => rfl, fun x hx => nomatch hx⟩
  | cons x xs ih =>
    intro ys h
    unfold lcM at h
    obtain ⟨b, hb, h⟩ := bindO h
    cases b with
    | true =>
      rw [if_pos rfl] at h
      obtain ⟨y, hy, h⟩ := bindO h
      obtain ⟨zs, hz, h⟩ := bindO h
      cases h
      obtain ⟨pd, g, e, e1, e2, hi⟩ := ih hz
      have px : pd x = true := by rw [e1, hb]; rfl
      have gx : g x = en y := by rw [e2, hy]
      refine ⟨pd, g, ?_, e1, e2, fun z hm => ?_⟩
      · rw [List.filter_cons, if_pos px, List.map_cons, e, gx]; rfl
      · rcases List.mem_cons.mp hm with w | w
        · subst w; exact ⟨by rw [px]; exact hb, fun _ => ⟨y, hy, gx⟩⟩
        · exact hi z w
    | false =>
      rw [if_neg Bool.false_ne_true] at h
      obtain ⟨pd, g, e, e1, e2, hi⟩ := ih h
      have px : pd x = false := by rw [e1, hb]; rfl
      refine ⟨pd, g, ?_, e1, e2, fun z hm => ?_⟩
      · rw [List.filter_cons, px, if_neg Bool.false_ne_true, e]
      · rcases List.mem_cons.mp hm with w | w
        · subst w; exact ⟨by rw [px]; exact hb, fun z => by rw [px] at z; cases z⟩
        · exact hi z w
section
variable {X : Cx} {Γ : Gd} {N : List Str} {sc scope : Scope} {lv : Nat} {vl ll vl2 ll2 : List Nat} {gl gl2 : List Str} {env : DEnv} {Φ : Outs} {rest body : List Stmt} {elt tg iter : Expr} {ifs : List Expr} {own : List (Str × Nat)} {k : K2} {fx : Bool} {t : Tg} {pos : Pos}
theorem Clear_of {env : DEnv} {vs : List Nat} (h : (vs.all fun v => match env[v]? with | some (some _) => false | _ => true) = true) : Clear env vs := fun v hv s e => by
  have := List.all_eq_true.mp h v hv
  rw [e] at this; cases this
structure Ec (X : Cx) (env : DEnv) (e : Expr) (d : D) (k : Kd) : Prop where
  ev : Ev X env e d k
  sto : ∀ {y : Str} {py spos : Pos} {s : Slot} {i : Nat} {rest : List Stmt} {Φ : Outs}, X.N[i]? = some y → X.env.scope.names.lookup y = some .local → swapsWith e (some (.Name y py)) spos.line X.env = pure true → SlotOf k d s → SS X (env.set i (some s)) rest Φ → SS X env (.Assign [.Name y py] e spos :: rest) Φ
theorem Ec.cv {X : Cx} {env : DEnv} {e : Expr} {d d' : D} {k : Kd} (h : Ec X env e d k) (e' : d = d') : Ec X env e d' k := e' ▸ h
theorem ec_lc {α : Type} (xs : List α) (en : α → D) (pd : α → Bool) (f : α → D) (kz : K2) (A : At X Γ N sc lv) (S : Sc N sc vl ll gl) (ok : blkC N sc scope own = true) (hi : EI X env tg iter (xs.map en) k fx) (hz : xs.length ≤ sizeLine) (hc : Clear env (own.map (·.2)))
    (ht : ∀ Y, At Y Γ N scope lv → TgOk Y tg t) (hix : ∀ j ∈ t.ix, j ∈ own.map (·.2)) (hs : ∀ x, foldedSetIterable iter X.env x = pure x)
    (item : ∀ x, x ∈ xs → ∃ env2, bnd k t (en x) env = some env2 ∧ (∀ Y, Blk X scope Y → Ets Y env2 ifs (pd x)) ∧ (pd x = true → ∃ ke, heldOf ke (f x) = kz.k ∧ ∀ Y, Blk X scope Y → Ev Y env2 elt (f x) ke)) :
    Ec X env (.ListComp elt [⟨tg, iter, ifs, 0⟩] scope pos) (.lst ((xs.filter pd).map f)) kz.k.mk := by
  have ok' : BlkOk X.N X.env.scope scope own := by rw [A.eN]; exact A.eS.blk (blkOk_by ok)
  have nd : X.N.Nodup := by rw [A.eN]; exact S.nd
  refine ⟨ev_lc xs en pd f kz A.calm nd hi ok' hc (fun Y hY => ht Y (hY.at_ A)) hix hz hs item, fun hy hl hw so h => ss_cons ?_⟩
  exact s1_setLc xs en _ pd f kz A.calm nd hy hl hw hi ok' hc (fun Y hY => ht Y (hY.at_ A)) hix hz hs item so h
theorem lcP_ {α β : Type} {xs ys : List α} {en : α → D} (en2 : β → D) (own : List (Str × Nat)) (pd : α → Bool) (f : α → β) (kz : K2) (A : At X Γ N sc lv) (S : Sc N sc vl ll gl) (ok : blkC N sc scope own = true) (hi : EI X env tg iter (xs.map en) k fx) (h : lcG xs = some ys) (hc : Clear env (own.map (·.2)))
    (ht : ∀ Y, At Y Γ N scope lv → TgOk Y tg t) (hix : ∀ j ∈ t.ix, j ∈ own.map (·.2)) (hs : ∀ x, foldedSetIterable iter X.env x = pure x)
    (item : ∀ x, x ∈ xs → ∃ env2, bnd k t (en x) env = some env2 ∧ (∀ Y, At Y Γ N scope lv → Ets Y env2 ifs (pd x)) ∧ (pd x = true → ∃ ke, heldOf ke (en2 (f x)) = kz.k ∧ ∀ Y, At Y Γ N scope lv → Ev Y env2 elt (en2 (f x)) ke)) :
    Ec X env (.ListComp elt [⟨tg, iter, ifs, 0⟩] scope pos) (.lst (((ys.filter pd).map f).map en2)) kz.k.mk := by
  obtain ⟨h1, e⟩ := iteO h; subst e
  rw [List.map_map]
  exact ec_lc xs en pd (en2 ∘ f) kz A S ok hi (by rw [line_eq]; exact h1) hc ht hix hs fun x hx => by
    obtain ⟨env2, e1, e2, e3⟩ := item x hx
    exact ⟨env2, e1, fun Y hY => e2 Y (hY.at_ A), fun z => by
      obtain ⟨ke, w1, w2⟩ := e3 z
      exact ⟨ke, w1, fun Y hY => w2 Y (hY.at_ A)⟩⟩
theorem lcM_ {α β : Type} {xs ys : List α} {zs : List β} {en : α → D} (en2 : β → D) (own : List (Str × Nat)) {p : α → Option Bool} {f : α → Option β} (kz : K2) (A : At X Γ N sc lv) (S : Sc N sc vl ll gl) (ok : blkC N sc scope own = true) (hi : EI X env tg iter (xs.map en) k fx) (h : lcG xs = some ys) (hM : lcM p f ys = some zs) (hc : Clear env (own.map (·.2)))
    (ht : ∀ Y, At Y Γ N scope lv → TgOk Y tg t) (hix : ∀ j ∈ t.ix, j ∈ own.map (·.2)) (hs : ∀ x, foldedSetIterable iter X.env x = pure x)
    (item : ∀ x, x ∈ xs → ∃ env2, bnd k t (en x) env = some env2 ∧ (∀ b, p x = some b → ∀ Y, At Y Γ N scope lv → Ets Y env2 ifs b) ∧ ∀ y, p x = some true → f x = some y → ∃ ke, heldOf ke (en2 y) = kz.k ∧ ∀ Y, At Y Γ N scope lv → Ev Y env2 elt (en2 y) ke) :
    Ec X env (.ListComp elt [⟨tg, iter, ifs, 0⟩] scope pos) (.lst (zs.map en2)) kz.k.mk := by
  obtain ⟨h1, e⟩ := iteO h; subst e
  obtain ⟨pd, g, e, _, _, hi2⟩ := lcM_ok en2 hM
  rw [← e]
  exact ec_lc xs en pd g kz A S ok hi (by rw [line_eq]; exact h1) hc ht hix hs fun x hx => by
    obtain ⟨env2, e1, e2, e3⟩ := item x hx
    obtain ⟨p1, p2⟩ := hi2 x hx
    refine ⟨env2, e1, fun Y hY => e2 _ p1 Y (hY.at_ A), fun z => ?_⟩
    obtain ⟨y, y1, y2⟩ := p2 z
    obtain ⟨ke, w1, w2⟩ := e3 y (by rw [← z]; exact p1) y1
    rw [y2]
    exact ⟨ke, w1, fun Y hY => w2 Y (hY.at_ A)⟩
theorem swaps_at {sc' : Scope} {env : Env} {elt : Expr} {gens : List Comprehension} {pos py : Pos} {n : Str} {line : Nat} (hs : ScLe sc sc') (he : env.scope = sc') (hk : (sc.kind == .function) = true) (hl : (py.line == pos.line) = true) (hn : (scope.names.any fun (m, k) => m == n && (k == .local || k == .cell)) = false) (hc : (sc.names.lookup n == some .local) = true) :
    swapsWith (.ListComp elt gens scope pos) (some (.Name n py)) line env = pure true := by
  have hk' : env.scope.kind = .function := by rw [he, hs.kind]; exact eq_of_beq hk
  have hb : env.blockKind = .function := by unfold Env.blockKind; rw [hk']; rfl
  have hy : env.kindOf n = some .local := by unfold Env.kindOf; rw [he]; exact hs.local (eq_of_beq hc)
  have h1 : (env.blockKind == ScopeKind.function) = true := by rw [hb]; rfl
  have h2 : (env.kindOf n == some NameKind.local) = true := by rw [hy]; rfl
  show (pure (env.blockKind == ScopeKind.function && env.kindOf n == some NameKind.local && py.line == pos.line && !(scope.names.any fun (m, k) => m == n && (k == .local || k == .cell))) : Sem Bool) = pure true
  rw [h1, h2, hl, hn]; rfl
theorem swaps_not {sc' : Scope} {env : Env} {elt : Expr} {gens : List Comprehension} {pos py : Pos} {n : Str} {line : Nat} (hs : ScLe sc sc') (he : env.scope = sc') (hc : (sc.names.lookup n == some .cell) = true) :
    swapsWith (.ListComp elt gens scope pos) (some (.Name n py)) line env = pure false := by
  have hy : env.kindOf n = some .cell := by
    unfold Env.kindOf; rw [he]
    obtain ⟨k', e, r | ⟨r1, r2⟩⟩ := hs.lk n _ (eq_of_beq hc)
    · rw [e, r]
    · cases r1
  unfold swapsWith
  show (pure _ : Sem Bool) = pure false
  rw [hy]
  show (pure ((_ && false && _) && _) : Sem Bool) = pure false
  simp
theorem setLc_ {d : D} {kd : Kd} {s : Slot} {n : Str} {py spos : Pos} {gens : List Comprehension} (A : At X Γ N sc lv) (S : Sc N sc vl ll gl) (i : Nat) (hN : N[i]? = some n) (hl : (sc.names.lookup n == some .local) = true) (hk : (sc.kind == .function) = true) (hw : (py.line == pos.line) = true) (hn : (scope.names.any fun (m, k) => m == n && (k == .local || k == .cell)) = false) (he : Ec X env (.ListComp elt gens scope pos) d kd) (so : SlotOf kd d s)
    (h : SS X (env.set i (some s)) rest Φ) : SS X env (.Assign [.Name n py] (.ListComp elt gens scope pos) spos :: rest) Φ :=
  he.sto (by rw [A.eN]; exact hN) (A.eS.local (eq_of_beq hl)) (swaps_at A.eS rfl hk hw hn hl) so h
theorem setLcC_ {d : D} {kd : Kd} {s : Slot} {n : Str} {py spos : Pos} {gens : List Comprehension} (A : At X Γ N sc lv) (S : Sc N sc vl ll gl) (i : Nat) (hN : N[i]? = some n) (hl : (sc.names.lookup n == some .cell) = true) (hs : ll.contains i = true) (he : Ec X env (.ListComp elt gens scope pos) d kd) (so : SlotOf kd d s)
    (h : SS X (env.set i (some s)) rest Φ) : SS X env (.Assign [.Name n py] (.ListComp elt gens scope pos) spos :: rest) Φ :=
  set_ A S i hN hs he.ev so (swaps_not A.eS rfl hl) h
theorem Wk.set' {i : Nat} {x : Option Slot} : ∀ {a b : DEnv} {i : Nat}, Wk a b → Wk (a.set i x) (b.set i x)
  | [], [], _, h => trivial
  | _ :: _, _ :: _, 0, h => ⟨.inr rfl, h.2⟩
  | _ :: _, _ :: _, i + 1, h => ⟨h.1, Wk.set' (i := i) h.2⟩
  | [], _ :: _, _, h => h.elim
  | _ :: _, [], _, h => h.elim
mutual
theorem bnd_wk {k : K2} : ∀ {t : Tg} {d : D} {a b b' : DEnv}, Wk a b → bnd k t d b = some b' → ∃ a', bnd k t d a = some a' ∧ Wk a' b'
  | .nm i, d, a, b, b', w, h => by
    unfold bnd at h
    cases h
    exact ⟨_, by rw [bnd], Wk.set' (i := i) w⟩
  | .tp ts, .tup ds, a, b, b', w, h => by
    unfold bnd at h
    obtain ⟨a', e, w'⟩ := bnds_wk w h
    exact ⟨a', by rw [bnd]; exact e, w'⟩
  | .tp _, .non, _, _, _, _, h => nomatch h
  | .tp _, .bl _, _, _, _, _, h => nomatch h
  | .tp _, .int _, _, _, _, _, h => nomatch h
  | .tp _, .str _, _, _, _, _, h => nomatch h
  | .tp _, .lst _, _, _, _, _, h => nomatch h
  | .tp _, .dK _, _, _, _, _, h => nomatch h
  | .tp _, .dT _, _, _, _, _, h => nomatch h
  | .tp _, .obj _ _, _, _, _, _, h => nomatch h
  | .tp _, .scr _, _, _, _, _, h => nomatch h
  | .tp _, .adr _, _, _, _, _, h => nomatch h
theorem bnds_wk {k : K2} : ∀ {ts : List Tg} {ds : List D} {a b b' : DEnv}, Wk a b → bnds k ts ds b = some b' → ∃ a', bnds k ts ds a = some a' ∧ Wk a' b'
  | [], [], a, b, b', w, h => by
    unfold bnds at h
    cases h
    exact ⟨a, by rw [bnds], w⟩
  | t :: ts, d :: ds, a, b, b', w, h => by
    unfold bnds at h
    cases q : bnd k t d b with
    | none => rw [q] at h; cases h
    | some b1 =>
      rw [q] at h
      obtain ⟨a1, e1, w1⟩ := bnd_wk w q
      obtain ⟨a', e, w'⟩ := bnds_wk w1 h
      exact ⟨a', by rw [bnds, e1]; exact e, w'⟩
  | [], _ :: _, _, _, _, _, h => nomatch h
  | _ :: _, [], _, _, _, _, h => nomatch h
end
theorem forM_ {α S : Type} {xs : List α} (en : α → D) (E : S → DEnv) {step : S → α → Option S} {s0 s1 : S} (A : At X Γ N sc lv) (hi : EI X env tg iter (xs.map en) k true) (ht : TgOk X tg t) (hs : ∀ x, foldedSetIterable iter X.env x = pure x)
    (hM : xs.foldlM step s0 = some s1) (h0 : Wk env (E s0)) (hb : ∀ s x s', x ∈ xs → step s x = some s' → ∃ env2, bnd k t (en x) (E s) = some env2 ∧ SS X env2 body { nx := fun e => Wk e (E s'), ct := fun e => Wk e (E s'), rt := Φ.rt })
    (h : SS X (E s1) rest Φ) : SS X env (.For tg iter body [] pos :: rest) Φ := by
  have pre : ∀ i, i ≤ xs.length → ∃ s, (xs.take i).foldlM step s0 = some s := fun i hi => by
    rw [← List.take_append_drop i xs, List.foldlM_append] at hM
    obtain ⟨s, e, _⟩ := bindO hM
    exact ⟨s, e⟩
  refine ss_for A.pass A.calm hi ht hs (fun i e => ∃ s, (xs.take i).foldlM step s0 = some s ∧ Wk e (E s)) ⟨s0, rfl, h0⟩ (fun i d e1 hd ⟨s, hS, w⟩ => ?_) fun e1 ⟨s, hS, w⟩ => ?_
  · rw [List.getElem?_map] at hd
    obtain ⟨x, hx, e⟩ := Option.map_eq_some_iff.mp hd
    subst e
    have hlt := (List.getElem?_eq_some_iff.mp hx).1
    obtain ⟨s', hS'⟩ := pre (i + 1) hlt
    have hS2 := hS'
    rw [List.take_succ, hx, List.foldlM_append, hS] at hS2
    have hst : step s x = some s' := by
      have : ([x] : List α).foldlM step s = some s' := hS2
      rw [List.foldlM_cons, ] at this
      obtain ⟨s2, e1, e2⟩ := bindO this
      cases e2
      exact e1
    obtain ⟨env2, eb, hSS⟩ := hb s x s' (List.mem_of_getElem? hx) hst
    obtain ⟨env3, eb3, w3⟩ := bnd_wk w eb
    refine ⟨env3, eb3, ss_wk env2 w3 (hSS.imp (fun e w' => ⟨s', hS', w'⟩) (fun _ _ z => z) (fun _ z => z.elim) fun e w' => ⟨s', hS', w'⟩)⟩
  · rw [List.length_map, List.take_length] at hS
    rw [hM] at hS; cases hS
    exact ss_wk _ w h
end
end DL
namespace DL
open PySem PySem.Spec L2
open PyProof.Rows hiding St
section
variable {X : Cx} {Γ : Gd} {N : List Str} {sc scope : Scope} {lv lc : Nat} {vl ll : List Nat} {gl : List Str} {env : DEnv} {Φ : Outs} {rest body : List Stmt} {e a b c tg iter : Expr} {es : List Expr} {k : K2} {t : Tg} {pos p np apos cpos : Pos} {n : Str} {d : D} {ds dds : List D} {ka kk k1 k2 : Kd} {R : Rel}
theorem forR_ {α S Rt : Type} {xs : List α} (en : α → D) (E : S → DEnv) (RT : Rt → D → Kd → Prop) {step : S → α → Option (Ctl S Rt)} {s0 : S} {o : Ctl S Rt} (A : At X Γ N sc lv) (hi : EI X env tg iter (xs.map en) k true) (ht : TgOk X tg t) (hs : ∀ x, foldedSetIterable iter X.env x = pure x)
    (hM : loopM step s0 xs = some o) (h0 : Wk env (E s0))
    (hb : ∀ s x c, x ∈ xs → step s x = some c → ∃ env2, bnd k t (en x) (E s) = some env2 ∧ SS X env2 body { nx := fun e => ∃ s', c = .nx s' ∧ Wk e (E s'), ct := fun e => ∃ s', c = .nx s' ∧ Wk e (E s'), bk := fun e => ∃ s', c = .brk s' ∧ Wk e (E s'), rt := fun d k => ∃ r, c = .ret r ∧ RT r d k })
    (hR : ∀ r d k, o = .ret r → RT r d k → Φ.rt d k) (h : ∀ s1, o = .nx s1 → SS X (E s1) rest Φ) : SS X env (.For tg iter body [] pos :: rest) Φ := by
  refine ss_for A.pass A.calm hi ht hs (fun i e => ∃ s, loopM step s (xs.drop i) = some o ∧ Wk e (E s)) ⟨s0, hM, h0⟩ (fun i d e1 hd ⟨s, hS, w⟩ => ?_) fun e1 ⟨s, hS, w⟩ => ?_
  · rw [List.getElem?_map] at hd
    obtain ⟨x, hx, e⟩ := Option.map_eq_some_iff.mp hd
    subst e
    have hlt := (List.getElem?_eq_some_iff.mp hx).1
    have hx2 : xs[i] = x := (List.getElem?_eq_some_iff.mp hx).2
    rw [List.drop_eq_getElem_cons hlt, hx2] at hS
    unfold loopM at hS
    cases hst : step s x with
    | none => rw [hst] at hS; cases hS
    | some cc =>
      rw [hst] at hS
      obtain ⟨env2, eb, hSS⟩ := hb s x cc (List.mem_of_getElem? hx) hst
      obtain ⟨env3, eb3, w3⟩ := bnd_wk w eb
      refine ⟨env3, eb3, ss_wk env2 w3 (hSS.imp (fun e ⟨s', e1, w'⟩ => ?_) (fun d k ⟨r, e1, z⟩ => ?_) (fun e ⟨s', e1, w'⟩ => ?_) fun e ⟨s', e1, w'⟩ => ?_)⟩
      · subst e1; exact ⟨s', hS, w'⟩
      · subst e1; cases hS; exact hR r d k rfl z
      · subst e1; cases hS; exact ss_wk _ w' (h s' rfl)
      · subst e1; exact ⟨s', hS, w'⟩
  · rw [List.length_map, List.drop_length] at hS
    cases hS
    exact ss_wk _ w (h s rfl)
theorem EnvE.wk {K : PySem.W.Frag} {F B H : Hp} {env' : DEnv} {σ : St} (E : EnvE K F B H env σ) (w : Wk env env') : EnvE K F B H env' σ :=
  ⟨E.hs, by rw [← w.len]; exact E.len, fun i s h => E.at_ i s (w.get h)⟩
theorem Et.wk {env' : DEnv} {b : Bool} (h : Et X env' c b) (w : Wk env env') : Et X env c b := ⟨h.pt.mono fun σ H Q ⟨F, B, E, q⟩ => ⟨F, B, E.wk w, q⟩⟩
theorem whileR_ {S Rt : Type} (E : S → DEnv) (RT : Rt → D → Kd → Prop) {cM : S → Option Bool} {step : S → Option (Ctl S Rt)} {n : Nat} {s0 : S} {o : Ctl S Rt} (A : At X Γ N sc lv) (hM : whileM cM step n s0 = some o) (h0 : Wk env (E s0))
    (hc : ∀ s b, cM s = some b → Et X (E s) c b)
    (hb : ∀ s c, cM s = some true → step s = some c → SS X (E s) body { nx := fun e => ∃ s', c = .nx s' ∧ Wk e (E s'), ct := fun e => ∃ s', c = .nx s' ∧ Wk e (E s'), bk := fun e => ∃ s', c = .brk s' ∧ Wk e (E s'), rt := fun d k => ∃ r, c = .ret r ∧ RT r d k })
    (hR : ∀ r d k, o = .ret r → RT r d k → Φ.rt d k) (h : ∀ s1, o = .nx s1 → SS X (E s1) rest Φ) : SS X env (.While c body [] pos :: rest) Φ := by
  refine ss_while A.pass (fun m e => ∃ s, whileM cM step m s = some o ∧ Wk e (E s)) n ⟨s0, hM, h0⟩ fun m e1 ⟨s, hS, w⟩ => ?_
  cases m with
  | zero => cases hS
  | succ m =>
    unfold whileM at hS
    obtain ⟨b, hb1, hS⟩ := bindO hS
    refine ⟨b, (hc s b hb1).wk w, fun z => ?_, fun z => ?_⟩
    · subst z
      rw [if_pos rfl] at hS
      cases hst : step s with
      | none => rw [hst] at hS; cases hS
      | some cc =>
        rw [hst] at hS
        refine ss_wk _ w ((hb s cc hb1 hst).imp (fun e ⟨s', e1, w'⟩ => ?_) (fun d k ⟨r, e1, z⟩ => ?_) (fun e ⟨s', e1, w'⟩ => ?_) fun e ⟨s', e1, w'⟩ => ?_)
        · subst e1; exact ⟨m, Nat.lt_succ_self _, s', hS, w'⟩
        · subst e1; cases hS; exact hR r d k rfl z
        · subst e1; cases hS; exact ss_wk _ w' (h s' rfl)
        · subst e1; exact ⟨m, Nat.lt_succ_self _, s', hS, w'⟩
    · subst z
      rw [if_neg Bool.false_ne_true] at hS
      cases hS
      exact ss_wk _ w (h s rfl)
structure Cal (Γ : Gd) (n : Str) (R : Rel) (lc : Nat) (dds : List D) : Prop where
  ex : ∃ f fd ps dvs dus, FnOk Γ.P Γ.w Γ.K Γ.mg Γ.base CX0 lc f fd ps (FnSp Γ.K R) ∧ Γ.mg n = some (.ref f) ∧ PySem.W.keepIn Γ.K (.ref f) = true ∧ Binds Γ.K fd ps dus ∧ Vals dvs dus ∧ ∀ B : Hp, Reps Γ.K B dds dvs
theorem Cal.ev (C : Cal Γ n R lc dds) (A : At X Γ N sc lv) (S : Sc N sc vl ll gl) (j : Nat) (hg : gl[j]? = some n) (hl : lc ≤ lv) (ha : EA X env (e :: es) ds ka) (hk : ka = .cln ∨ ka = .brw ∨ ka = .drt) (hkr : kk = .own ∨ kk = .cln ∨ kk = .brw)
    (he : starEach (e :: es) X.env = (false, eval e X.env) :: starEach es X.env) (hpl : (backTo pos (starEach es X.env)).any (·.1) = false) (hR : R (ds ++ dds) d kk) : Ev X env (.Call (.Name n p) (e :: es) [] pos) d (retK ka kk) := by
  obtain ⟨f, fd, ps, dvs, dus, h1, h2, h3, h4, h5, h6⟩ := C.ex
  have eP := A.eP; have eW := A.eW; have eK := A.eK; have eM := A.eM; have eB := A.eB
  rw [← eP, ← eW, ← eK, ← eM, ← eB] at h1
  rw [← eM] at h2
  rw [← eK] at h3 h4 h6
  exact ev_call h1 (A.room.mono hl) (glo A S j hg) h2 h3 h4 h5 h6 ha hR hk hkr (plainB_ok (S.glo hg).2).1 he hpl
theorem Cal.mk' {P : Program} {w : World} {K : PySem.W.Frag} {mg : Str → Option Value} {base : Heap} {x qual : Str} {params : Arguments} {body : List Stmt} {scope : Scope} {dvs : List V} {dus : List Value} {kdv : List V} {kws : List (Str × V)} {f : Addr} {fd : FuncData} {N ps : List Str} {lv : Nat} {R : Rel} {dds : List D}
    (Fd : FunD K x qual params body scope kdv kws f fd) (hm : mg n = some (.ref f)) (bd : Binds K fd ps dus) (hv : Vals dvs dus) (hd : ∀ B : Hp, Reps K B dds dvs) (S : FnScope N ps scope) (hl : ∀ ds d k, R ds d k → ds.length = ps.length) (hn : ps.length ≤ N.length)
    (hb : ∀ X : Cx, At X ⟨P, w, K, mg, base⟩ N scope lv → ∀ ds d k, R ds d k → SS X (env0 N.length ds) body { rt := fun d' k' => d' = d ∧ Fits k' k d, nx := fun _ => d = .non ∧ k = .cln }) : Cal ⟨P, w, K, mg, base⟩ n R (lv + 1) dds :=
  ⟨f, fd, ps, dvs, dus, def_ok Fd S hl hn fun X c => hb X c.at_, hm, Fd.kp, bd, hv, hd⟩
theorem app_ {α : Type} {en : α → D} {xs ys : List α} {x : α} (A : At X Γ N sc lv) (S : Sc N sc vl ll gl) (i : Nat) (hN : N[i]? = some n) (hv : vl.contains i = true) (he : env[i]? = some (some (.own (.lst (xs.map en))))) (ha : Ev X env e (en x) k1) (hk : heldOf k1 (en x) = .cln) (hG : appG xs x = some ys)
    (mx : Mx X (.Name n np) "append" [e] apos cpos) (hs : starEach [e] X.env = [(false, eval e X.env)]) (hsw : swapsWith (.Call (.Attribute (.Name n np) "append" apos) [e] [] cpos) none pos.line X.env = pure false)
    (h : SS X (env.set i (some (.own (.lst (ys.map en))))) rest Φ) : SS X env (.Expr (.Call (.Attribute (.Name n np) "append" apos) [e] [] cpos) pos :: rest) Φ := by
  obtain ⟨h1, e⟩ := iteO hG; subst e
  rw [List.map_append] at h
  exact append_ A S i hN hv he ha hk (by rw [List.length_map, line_eq]; exact h1) mx hs hsw h
theorem setL_ {α : Type} {en : α → D} {xs ys : List α} {x : α} {ap : Pos} {j : Int} (A : At X Γ N sc lv) (S : Sc N sc vl ll gl) (i : Nat) (hN : N[i]? = some n) (hv : vl.contains i = true) (he : env[i]? = some (some (.own (.lst (xs.map en))))) (ha : Ev X env e (en x) k1) (hk : heldOf k1 (en x) = .cln) (hb : Ev X env b (.int j) k2) (hG : setG xs j x = some ys)
    (hsub : ∀ v, assign (.Subscript (.Name n np) b ap) X.env v = (do
      let ov ← holding [v] (eval (.Name n np) X.env)
      let iv ← holding [v, ov] (eval b X.env)
      standAt ap
      holding [v, ov, iv] (setItem ov iv v)
      release [v, ov, iv] []))
    (hs : swapsWithSole [.Subscript (.Name n np) b ap] e pos.line X.env = pure false) (hw : swappedStores [.Subscript (.Name n np) b ap] e X.env = pure none)
    (h1 : (assignEach [.Subscript (.Name n np) b ap] X.env).map (·.2) = [assign (.Subscript (.Name n np) b ap) X.env])
    (h : SS X (env.set i (some (.own (.lst (ys.map en))))) rest Φ) : SS X env (.Assign [.Subscript (.Name n np) b ap] e pos :: rest) Φ := by
  obtain ⟨v1, v2⟩ := S.vis hv hN
  obtain ⟨p1, p2, _⟩ := plainB_ok v2
  unfold setG at hG
  cases q : ixN xs.length j with
  | none => rw [q] at hG; cases hG
  | some m =>
    rw [q] at hG
    cases hG
    rw [List.map_set] at h
    exact ss_cons (s1_setL i (by rw [A.eN]; exact hN) (A.eS.vis v1) he ha hk hb (by rw [List.length_map]; exact q) hsub hs hw h1 p1 p2 h)
theorem rev_ {α : Type} {en : α → D} {xs : List α} (A : At X Γ N sc lv) (S : Sc N sc vl ll gl) (i : Nat) (hN : N[i]? = some n) (hv : vl.contains i = true) (he : env[i]? = some (some (.own (.lst (xs.map en)))))
    (hb : attributeBase (.Name n np) "reverse" X.env (eval (.Name n np) X.env) = eval (.Name n np) X.env) (hl : (apos.endLine == cpos.line) = true) (hsw : swapsWith (.Call (.Attribute (.Name n np) "reverse" apos) [] [] cpos) none pos.line X.env = pure false)
    (h : SS X (env.set i (some (.own (.lst (xs.reverse.map en))))) rest Φ) : SS X env (.Expr (.Call (.Attribute (.Name n np) "reverse" apos) [] [] cpos) pos :: rest) Φ := by
  obtain ⟨v1, v2⟩ := S.vis hv hN
  obtain ⟨p1, p2, _⟩ := plainB_ok v2
  rw [List.map_reverse] at h
  exact ss_cons (s1_reverse i (by rw [A.eN]; exact hN) (A.eS.vis v1) he hb hl hsw p1 p2 h)
theorem asg_ {env' : DEnv} {kz : K2} (he : Ev X env e d kz.k) (ht : TgOk X tg t) (hb : bnd kz t d env = some env') (hs : swapsWithSole [tg] e pos.line X.env = pure false) (hw : swappedStores [tg] e X.env = pure none)
    (h1 : (assignEach [tg] X.env).map (·.2) = [assign tg X.env]) (h : SS X env' rest Φ) : SS X env (.Assign [tg] e pos :: rest) Φ := ss_cons (s1_asg he ht hb hs hw h1 h)
end
section
variable {X : Cx} {Γ : Gd} {N : List Str} {sc : Scope} {lv : Nat} {vl ll : List Nat} {gl : List Str} {env : DEnv} {n : Str} {d : D} {pos : Pos}
theorem nmO (A : At X Γ N sc lv) (S : Sc N sc vl ll gl) (i : Nat) (hN : N[i]? = some n) (hv : vl.contains i = true) (he : env[i]? = some (some (.own d))) : Ev X env (.Name n pos) d .shl := nm A S i hN hv he
theorem nmF (A : At X Γ N sc lv) (S : Sc N sc vl ll gl) (i : Nat) (hN : N[i]? = some n) (hv : vl.contains i = true) (he : env[i]? = some (some (.frz d))) : Ev X env (.Name n pos) d .cln := nm A S i hN hv he
theorem nmB (A : At X Γ N sc lv) (S : Sc N sc vl ll gl) (i : Nat) (hN : N[i]? = some n) (hv : vl.contains i = true) (he : env[i]? = some (some (.bor d))) : Ev X env (.Name n pos) d .brw := nm A S i hN hv he
end
end DL
namespace DL
open PySem PySem.Spec L2
open PyProof.Rows hiding St
inductive Nd where
  | s (x : Stmt) | e (x : Expr)
def compKids (c : Comprehension) : List Nd := Nd.e c.target :: Nd.e c.iter :: c.ifs.map Nd.e
def optKid : Option Expr → List Nd
  | some e => [.e e] | none => []
def Nd.kids : Nd → List Nd
  | .s (.FunctionDef _ _ b _ _ _ _ _ _ _) => b.map .s
  | .s (.ClassDef _ _ _ b _ _ _ _ _ _ _) => b.map .s
  | .s (.Return v _) => optKid v
  | .s (.Assign ts v _) => ts.map .e ++ [.e v]
  | .s (.AugAssign t _ v _) => [.e t, .e v]
  | .s (.For t i b o _) => .e t :: .e i :: (b.map .s ++ o.map .s)
  | .s (.While t b o _) => .e t :: (b.map .s ++ o.map .s)
  | .s (.If t b o _) => .e t :: (b.map .s ++ o.map .s)
  | .s (.Raise x _ _) => optKid x
  | .s (.Try b _ o f _) => b.map .s ++ o.map .s ++ f.map .s
  | .s (.Expr x _) => [.e x]
  | .e (.BoolOp _ vs _) => vs.map .e
  | .e (.BinOp a _ b _) => [.e a, .e b]
  | .e (.UnaryOp _ a _) => [.e a]
  | .e (.IfExp a b c _) => [.e a, .e b, .e c]
  | .e (.Dict ks vs _) => (ks.filterMap id).map .e ++ vs.map .e
  | .e (.ListComp x cs _ _) => .e x :: cs.flatMap compKids
  | .e (.SetComp x cs _ _) => .e x :: cs.flatMap compKids
  | .e (.GeneratorExp x cs _ _) => .e x :: cs.flatMap compKids
  | .e (.DictComp k v cs _ _) => .e k :: .e v :: cs.flatMap compKids
  | .e (.Compare a _ bs _) => .e a :: bs.map .e
  | .e (.Call f as ks _) => .e f :: (as.map .e ++ ks.map fun k => .e k.value)
  | .e (.Attribute a _ _) => [.e a]
  | .e (.Subscript a b _) => [.e a, .e b]
  | .e (.Starred a _) => [.e a]
  | .e (.List es _) => es.map .e
  | .e (.Tuple es _ _) => es.map .e
  | .e (.Slice a b c _) => optKid a ++ (optKid b ++ optKid c)
  | _ => []
def Nd.go : Nd → List Nat → Nd
  | n, [] => n
  | n, i :: is => (n.kids.getD i (.e (.Constant .none 0 ⟨0, 0, 0, 0⟩))).go is
def Nd.scope : Nd → Scope
  | .e (.ListComp _ _ sc _) => sc
  | .e (.SetComp _ _ sc _) => sc
  | .e (.DictComp _ _ _ sc _) => sc
  | .e (.GeneratorExp _ _ sc _) => sc
  | .e (.Lambda _ _ sc _) => sc
  | _ => ⟨.function, [], false, false, []⟩
def compScope (s : Stmt) (is : List Nat) : Scope := ((Nd.s s).go is).scope
theorem bt_len : bootBuiltins "len" = some (.builtin "len") := by decide +kernel
theorem bt_abs : bootBuiltins "abs" = some (.builtin "abs") := by decide +kernel
theorem bt_max : bootBuiltins "max" = some (.builtin "max") := by decide +kernel
theorem bt_min : bootBuiltins "min" = some (.builtin "min") := by decide +kernel
theorem bt_sum : bootBuiltins "sum" = some (.builtin "sum") := by decide +kernel
theorem bt_all : bootBuiltins "all" = some (.builtin "all") := by decide +kernel
theorem bt_any : bootBuiltins "any" = some (.builtin "any") := by decide +kernel
theorem bt_sorted : bootBuiltins "sorted" = some (.builtin "sorted") := by decide +kernel
theorem bt_isinstance : bootBuiltins "isinstance" = some (.builtin "isinstance") := by decide +kernel
theorem bt_int : bootBuiltins "int" = some (.type "int") := by decide +kernel
theorem bt_str : bootBuiltins "str" = some (.type "str") := by decide +kernel
theorem bt_bool : bootBuiltins "bool" = some (.type "bool") := by decide +kernel
theorem bt_list : bootBuiltins "list" = some (.type "list") := by decide +kernel
theorem bt_tuple : bootBuiltins "tuple" = some (.type "tuple") := by decide +kernel
theorem bt_dict : bootBuiltins "dict" = some (.type "dict") := by decide +kernel
theorem bt_set : bootBuiltins "set" = some (.type "set") := by decide +kernel
theorem bt_enumerate : bootBuiltins "enumerate" = some (.type "enumerate") := by decide +kernel
theorem bt_zip : bootBuiltins "zip" = some (.type "zip") := by decide +kernel
theorem wk0 : Wk [] [] := trivial
theorem wkn {a : Option Slot} {r s : DEnv} (h : Wk r s) : Wk (a :: r) (none :: s) := ⟨.inl rfl, h⟩
theorem wkr {a : Option Slot} {r s : DEnv} (h : Wk r s) : Wk (a :: r) (a :: s) := ⟨.inr rfl, h⟩
theorem le_line {n : Nat} (h : Nat.ble n 4096 = true) : n ≤ sizeLine := by rw [line_eq]; exact Nat.le_trans (Nat.le_of_ble_eq_true h) (by decide)
section
variable {X : Cx} {env : DEnv} {Φ : Outs} {rest : List Stmt} {e a b : Expr} {d : D} {k k1 k2 : Kd} {pos : Pos} {s t : Str} {i : Int} {x y : D} {p : Bool}
theorem s1_ex (he : Ev X env e d k) (hs : swapsWith e none pos.line X.env = pure false) (h : Φ.nx env) : S1 X env (.Expr e pos) Φ :=
  ⟨(ps_expr he.pe hs).mono fun Dd σ H ⟨F, B, G, E, P⟩ => ⟨F, B, E.e, fun v H' F' B' g r => P.nx _ _ _ F' B' (g.gs E.gh) (E.grow g) h⟩⟩
theorem ss_ex (he : Ev X env e d k) (hs : swapsWith e none pos.line X.env = pure false) (h : SS X env rest Φ) : SS X env (.Expr e pos :: rest) Φ := ss_cons (s1_ex he hs h)
theorem flat_ints : ∀ ns : List Int, (ns.map V.int).all flatV = true
  | [] => rfl
  | _ :: ns => flat_ints ns
theorem flat_strs : ∀ ns : List Str, (ns.map V.str).all flatV = true
  | [] => rfl
  | _ :: ns => flat_strs ns
theorem inV_ints (i : Int) : ∀ ns : List Int, inV (.int i) (ns.map V.int) = decide (i ∈ ns)
  | [] => by simp [inV]
  | n :: ns => by
    have h := inV_ints i ns
    unfold inV at h ⊢
    rw [List.map_cons, List.any_cons, h]
    show (decide (n = i) || _) = _
    by_cases e : n = i
    · simp [e]
    · simp [e, Ne.symm e]
theorem inV_strs (i : Str) : ∀ ns : List Str, inV (.str i) (ns.map V.str) = decide (i ∈ ns)
  | [] => by simp [inV]
  | n :: ns => by
    have h := inV_strs i ns
    unfold inV at h ⊢
    rw [List.map_cons, List.any_cons, h]
    show (decide (n = i) || _) = _
    by_cases e : n = i
    · simp [e]
    · simp [e, Ne.symm e]
def inStr (s t : Str) : Bool := !(Builtin.Str.occurrences t s 0 t.length 1).isEmpty
def eqG (x y : D) : Option Bool := if x.pyo && (y.pyo && (decide (x.py.depth ≤ 64) && decide (y.py.depth ≤ 64))) then some (PyData.eqv x.py y.py) else none
theorem eqG_ok (h : eqG x y = some p) : x.pyo = true ∧ y.pyo = true ∧ x.shal ∧ y.shal ∧ PyData.eqv x.py y.py = p := by
  obtain ⟨h1, e⟩ := iteO h
  simp only [Bool.and_eq_true, decide_eq_true_eq] at h1
  exact ⟨h1.1, h1.2.1, h1.2.2.1, h1.2.2.2, e⟩
theorem ev_inLI {i : Int} {ns : List Int} (ha : Ev X env a (.int i) k1) (hb : Ev X env b (.lst (ns.map D.int)) k2) (hm : behindInMarks .In b = false := by rfl) : Ev X env (.Compare a [.In] [b] pos) (.bl (decide (i ∈ ns))) .cln :=
  ev_cmp2 op_in_seq ha hb hm fun F B H v u Q hs r1 r2 q => by
    obtain ⟨p, vs, rfl, h1, r⟩ := r2.lst hs
    obtain rfl := reps_ints (r.reps hs)
    rw [r1.int hs]
    exact ⟨p, _, rfl, .inl (SqL.of h1), rfl, flat_ints _, by rw [inV_ints]; exact fin_bl hs q⟩
theorem ev_inLS {i : Str} {ns : List Str} (ha : Ev X env a (.str i) k1) (hb : Ev X env b (.lst (ns.map D.str)) k2) (hm : behindInMarks .In b = false := by rfl) : Ev X env (.Compare a [.In] [b] pos) (.bl (decide (i ∈ ns))) .cln :=
  ev_cmp2 op_in_seq ha hb hm fun F B H v u Q hs r1 r2 q => by
    obtain ⟨p, vs, rfl, h1, r⟩ := r2.lst hs
    obtain rfl := reps_strs (r.reps hs)
    rw [r1.str hs]
    exact ⟨p, _, rfl, .inl (SqL.of h1), rfl, flat_strs _, by rw [inV_strs]; exact fin_bl hs q⟩
theorem ev_inTI {i : Int} {ns : List Int} (ha : Ev X env a (.int i) k1) (hb : Ev X env b (.tup (ns.map D.int)) k2) (hm : behindInMarks .In b = false := by rfl) : Ev X env (.Compare a [.In] [b] pos) (.bl (decide (i ∈ ns))) .cln :=
  ev_cmp2 op_in_seq ha hb hm fun F B H v u Q hs r1 r2 q => by
    obtain ⟨p, vs, rfl, h1, r⟩ := r2.tup hs
    obtain rfl := reps_ints (r.reps hs)
    rw [r1.int hs]
    exact ⟨p, _, rfl, .inr h1, rfl, flat_ints _, by rw [inV_ints]; exact fin_bl hs q⟩
theorem ev_inTS {i : Str} {ns : List Str} (ha : Ev X env a (.str i) k1) (hb : Ev X env b (.tup (ns.map D.str)) k2) (hm : behindInMarks .In b = false := by rfl) : Ev X env (.Compare a [.In] [b] pos) (.bl (decide (i ∈ ns))) .cln :=
  ev_cmp2 op_in_seq ha hb hm fun F B H v u Q hs r1 r2 q => by
    obtain ⟨p, vs, rfl, h1, r⟩ := r2.tup hs
    obtain rfl := reps_strs (r.reps hs)
    rw [r1.str hs]
    exact ⟨p, _, rfl, .inr h1, rfl, flat_strs _, by rw [inV_strs]; exact fin_bl hs q⟩
theorem ev_inStr (ha : Ev X env a (.str s) k1) (hb : Ev X env b (.str t) k2) (hm : behindInMarks .In b = false := by rfl) : Ev X env (.Compare a [.In] [b] pos) (.bl (inStr s t)) .cln :=
  ev_cmp2 op_in_str ha hb hm fun F B H v u Q hs r1 r2 q => ⟨s, t, r1.str hs, r2.str hs, fin_bl hs q⟩
theorem ev_eqG (hu : X.A.units + 64 < cLine) (ha : Ev X env a x k1) (hb : Ev X env b y k2) (h : eqG x y = some p) : Ev X env (.Compare a [.Eq] [b] pos) (.bl p) .cln := by
  obtain ⟨h1, h2, h3, h4, h5⟩ := eqG_ok h
  exact ev_eqD hu ha hb h1 h2 h3 h4 h5
theorem ev_neG (hu : X.A.units + 64 < cLine) (ha : Ev X env a x k1) (hb : Ev X env b y k2) (h : eqG x y = some p) : Ev X env (.Compare a [.NotEq] [b] pos) (.bl (!p)) .cln := by
  obtain ⟨h1, h2, h3, h4, h5⟩ := eqG_ok h
  exact ev_neD hu ha hb h1 h2 h3 h4 h5
theorem ev_ninLI {i : Int} {ns : List Int} (ha : Ev X env a (.int i) k1) (hb : Ev X env b (.lst (ns.map D.int)) k2) (hm : behindInMarks .NotIn b = false := by rfl) : Ev X env (.Compare a [.NotIn] [b] pos) (.bl ((!decide (i ∈ ns)))) .cln :=
  ev_cmp2 op_notIn_seq ha hb hm fun F B H v u Q hs r1 r2 q => by
    obtain ⟨p, vs, rfl, h1, r⟩ := r2.lst hs
    obtain rfl := reps_ints (r.reps hs)
    rw [r1.int hs]
    exact ⟨p, _, rfl, .inl (SqL.of h1), rfl, flat_ints _, by rw [inV_ints]; exact fin_bl hs q⟩
theorem ev_ninLS {i : Str} {ns : List Str} (ha : Ev X env a (.str i) k1) (hb : Ev X env b (.lst (ns.map D.str)) k2) (hm : behindInMarks .NotIn b = false := by rfl) : Ev X env (.Compare a [.NotIn] [b] pos) (.bl ((!decide (i ∈ ns)))) .cln :=
  ev_cmp2 op_notIn_seq ha hb hm fun F B H v u Q hs r1 r2 q => by
    obtain ⟨p, vs, rfl, h1, r⟩ := r2.lst hs
    obtain rfl := reps_strs (r.reps hs)
    rw [r1.str hs]
    exact ⟨p, _, rfl, .inl (SqL.of h1), rfl, flat_strs _, by rw [inV_strs]; exact fin_bl hs q⟩
theorem ev_ninTI {i : Int} {ns : List Int} (ha : Ev X env a (.int i) k1) (hb : Ev X env b (.tup (ns.map D.int)) k2) (hm : behindInMarks .NotIn b = false := by rfl) : Ev X env (.Compare a [.NotIn] [b] pos) (.bl ((!decide (i ∈ ns)))) .cln :=
  ev_cmp2 op_notIn_seq ha hb hm fun F B H v u Q hs r1 r2 q => by
    obtain ⟨p, vs, rfl, h1, r⟩ := r2.tup hs
    obtain rfl := reps_ints (r.reps hs)
    rw [r1.int hs]
    exact ⟨p, _, rfl, .inr h1, rfl, flat_ints _, by rw [inV_ints]; exact fin_bl hs q⟩
theorem ev_ninTS {i : Str} {ns : List Str} (ha : Ev X env a (.str i) k1) (hb : Ev X env b (.tup (ns.map D.str)) k2) (hm : behindInMarks .NotIn b = false := by rfl) : Ev X env (.Compare a [.NotIn] [b] pos) (.bl ((!decide (i ∈ ns)))) .cln :=
  ev_cmp2 op_notIn_seq ha hb hm fun F B H v u Q hs r1 r2 q => by
    obtain ⟨p, vs, rfl, h1, r⟩ := r2.tup hs
    obtain rfl := reps_strs (r.reps hs)
    rw [r1.str hs]
    exact ⟨p, _, rfl, .inr h1, rfl, flat_strs _, by rw [inV_strs]; exact fin_bl hs q⟩
theorem ev_ninStr (ha : Ev X env a (.str s) k1) (hb : Ev X env b (.str t) k2) (hm : behindInMarks .NotIn b = false := by rfl) : Ev X env (.Compare a [.NotIn] [b] pos) (.bl ((!inStr s t))) .cln :=
  ev_cmp2 op_notin_str ha hb hm fun F B H v u Q hs r1 r2 q => ⟨s, t, r1.str hs, r2.str hs, fin_bl hs q⟩
theorem et_inLI {i : Int} {ns : List Int} (ha : Ev X env a (.int i) k1) (hb : Ev X env b (.lst (ns.map D.int)) k2) (hm : behindInMarks .In b = false := by rfl) : Et X env (.Compare a [.In] [b] pos) (decide (i ∈ ns)) :=
  et_cmp2 op_in_seq ha hb hm fun F B H v u Q hs r1 r2 q => by
    obtain ⟨p, vs, rfl, h1, r⟩ := r2.lst hs
    obtain rfl := reps_ints (r.reps hs)
    rw [r1.int hs]
    exact ⟨p, _, rfl, .inl (SqL.of h1), rfl, flat_ints _, by rw [inV_ints]; exact fin_bl hs q⟩
theorem et_inLS {i : Str} {ns : List Str} (ha : Ev X env a (.str i) k1) (hb : Ev X env b (.lst (ns.map D.str)) k2) (hm : behindInMarks .In b = false := by rfl) : Et X env (.Compare a [.In] [b] pos) (decide (i ∈ ns)) :=
  et_cmp2 op_in_seq ha hb hm fun F B H v u Q hs r1 r2 q => by
    obtain ⟨p, vs, rfl, h1, r⟩ := r2.lst hs
    obtain rfl := reps_strs (r.reps hs)
    rw [r1.str hs]
    exact ⟨p, _, rfl, .inl (SqL.of h1), rfl, flat_strs _, by rw [inV_strs]; exact fin_bl hs q⟩
theorem et_inTI {i : Int} {ns : List Int} (ha : Ev X env a (.int i) k1) (hb : Ev X env b (.tup (ns.map D.int)) k2) (hm : behindInMarks .In b = false := by rfl) : Et X env (.Compare a [.In] [b] pos) (decide (i ∈ ns)) :=
  et_cmp2 op_in_seq ha hb hm fun F B H v u Q hs r1 r2 q => by
    obtain ⟨p, vs, rfl, h1, r⟩ := r2.tup hs
    obtain rfl := reps_ints (r.reps hs)
    rw [r1.int hs]
    exact ⟨p, _, rfl, .inr h1, rfl, flat_ints _, by rw [inV_ints]; exact fin_bl hs q⟩
theorem et_inTS {i : Str} {ns : List Str} (ha : Ev X env a (.str i) k1) (hb : Ev X env b (.tup (ns.map D.str)) k2) (hm : behindInMarks .In b = false := by rfl) : Et X env (.Compare a [.In] [b] pos) (decide (i ∈ ns)) :=
  et_cmp2 op_in_seq ha hb hm fun F B H v u Q hs r1 r2 q => by
    obtain ⟨p, vs, rfl, h1, r⟩ := r2.tup hs
    obtain rfl := reps_strs (r.reps hs)
    rw [r1.str hs]
    exact ⟨p, _, rfl, .inr h1, rfl, flat_strs _, by rw [inV_strs]; exact fin_bl hs q⟩
theorem et_inStr (ha : Ev X env a (.str s) k1) (hb : Ev X env b (.str t) k2) (hm : behindInMarks .In b = false := by rfl) : Et X env (.Compare a [.In] [b] pos) (inStr s t) :=
  et_cmp2 op_in_str ha hb hm fun F B H v u Q hs r1 r2 q => ⟨s, t, r1.str hs, r2.str hs, fin_bl hs q⟩
theorem et_eqG (hu : X.A.units + 64 < cLine) (ha : Ev X env a x k1) (hb : Ev X env b y k2) (h : eqG x y = some p) : Et X env (.Compare a [.Eq] [b] pos) p := by
  obtain ⟨h1, h2, h3, h4, h5⟩ := eqG_ok h
  exact et_eqD hu ha hb h1 h2 h3 h4 h5
theorem et_neG (hu : X.A.units + 64 < cLine) (ha : Ev X env a x k1) (hb : Ev X env b y k2) (h : eqG x y = some p) : Et X env (.Compare a [.NotEq] [b] pos) (!p) := by
  obtain ⟨h1, h2, h3, h4, h5⟩ := eqG_ok h
  exact et_neD hu ha hb h1 h2 h3 h4 h5
theorem et_ninLI {i : Int} {ns : List Int} (ha : Ev X env a (.int i) k1) (hb : Ev X env b (.lst (ns.map D.int)) k2) (hm : behindInMarks .NotIn b = false := by rfl) : Et X env (.Compare a [.NotIn] [b] pos) ((!decide (i ∈ ns))) :=
  et_cmp2 op_notIn_seq ha hb hm fun F B H v u Q hs r1 r2 q => by
    obtain ⟨p, vs, rfl, h1, r⟩ := r2.lst hs
    obtain rfl := reps_ints (r.reps hs)
    rw [r1.int hs]
    exact ⟨p, _, rfl, .inl (SqL.of h1), rfl, flat_ints _, by rw [inV_ints]; exact fin_bl hs q⟩
theorem et_ninLS {i : Str} {ns : List Str} (ha : Ev X env a (.str i) k1) (hb : Ev X env b (.lst (ns.map D.str)) k2) (hm : behindInMarks .NotIn b = false := by rfl) : Et X env (.Compare a [.NotIn] [b] pos) ((!decide (i ∈ ns))) :=
  et_cmp2 op_notIn_seq ha hb hm fun F B H v u Q hs r1 r2 q => by
    obtain ⟨p, vs, rfl, h1, r⟩ := r2.lst hs
    obtain rfl := reps_strs (r.reps hs)
    rw [r1.str hs]
    exact ⟨p, _, rfl, .inl (SqL.of h1), rfl, flat_strs _, by rw [inV_strs]; exact fin_bl hs q⟩
theorem et_ninTI {i : Int} {ns : List Int} (ha : Ev X env a (.int i) k1) (hb : Ev X env b (.tup (ns.map D.int)) k2) (hm : behindInMarks .NotIn b = false := by rfl) : Et X env (.Compare a [.NotIn] [b] pos) ((!decide (i ∈ ns))) :=
  et_cmp2 op_notIn_seq ha hb hm fun F B H v u Q hs r1 r2 q => by
    obtain ⟨p, vs, rfl, h1, r⟩ := r2.tup hs
    obtain rfl := reps_ints (r.reps hs)
    rw [r1.int hs]
    exact ⟨p, _, rfl, .inr h1, rfl, flat_ints _, by rw [inV_ints]; exact fin_bl hs q⟩
theorem et_ninTS {i : Str} {ns : List Str} (ha : Ev X env a (.str i) k1) (hb : Ev X env b (.tup (ns.map D.str)) k2) (hm : behindInMarks .NotIn b = false := by rfl) : Et X env (.Compare a [.NotIn] [b] pos) ((!decide (i ∈ ns))) :=
  et_cmp2 op_notIn_seq ha hb hm fun F B H v u Q hs r1 r2 q => by
    obtain ⟨p, vs, rfl, h1, r⟩ := r2.tup hs
    obtain rfl := reps_strs (r.reps hs)
    rw [r1.str hs]
    exact ⟨p, _, rfl, .inr h1, rfl, flat_strs _, by rw [inV_strs]; exact fin_bl hs q⟩
theorem et_ninStr (ha : Ev X env a (.str s) k1) (hb : Ev X env b (.str t) k2) (hm : behindInMarks .NotIn b = false := by rfl) : Et X env (.Compare a [.NotIn] [b] pos) ((!inStr s t)) :=
  et_cmp2 op_notin_str ha hb hm fun F B H v u Q hs r1 r2 q => ⟨s, t, r1.str hs, r2.str hs, fin_bl hs q⟩
theorem ss_ifM {c : Expr} {A Bs : List Stmt} (env' : DEnv) (hc : Et X env c p) (h : SS X env' rest Φ) (ha : p = true → SS X env A { Φ with nx := fun e => Wk e env' }) (hb : p = false → SS X env Bs { Φ with nx := fun e => Wk e env' }) : SS X env (.If c A Bs pos :: rest) Φ :=
  ss_cons (s1_if hc (fun z => (ha z).imp (fun e w => ss_wk _ w h) (fun _ _ w => w) (fun _ w => w) fun _ w => w) fun z => (hb z).imp (fun e w => ss_wk _ w h) (fun _ _ w => w) (fun _ w => w) fun _ w => w)
end
end DL
namespace DL
open PySem PySem.Spec L2
open PyProof.Rows hiding St
def enO {α : Type} (f : α → D) : Option α → D
  | some x => f x
  | none => .non
section
variable {X : Cx} {Γ : Gd} {N : List Str} {sc : Scope} {lv : Nat} {vl ll : List Nat} {gl : List Str} {env : DEnv} {Φ : Outs} {rest : List Stmt} {e a b : Expr} {es : List Expr} {ds : List D} {d : D} {k k1 k2 : Kd} {pos pn : Pos} {s t n : Str} {i : Int} {x y : D} {p : Bool} {kz : K2}
theorem Ev.getO {α : Type} {f : α → D} {o : Option α} {x : α} (h : Ev X env e (enO f o) k) (e' : o = some x) : Ev X env e (f x) k := by subst e'; exact h
theorem Ev.scO {α : Type} {f : α → D} {o : Option α} (h : Ev X env e (enO f o) k) (hf : ∀ x, (f x).sc = true) : Ev X env e (enO f o) .cln := h.scal (by cases o with | none => rfl | some x => exact hf x)
theorem Ev.toB (h : Ev X env e d .cln) : Ev X env e d .brw := h.cln_brw
theorem isN_enO {α : Type} {f : α → D} {o : Option α} (hf : ∀ x, (f x).isN = false) : (enO f o).isN = o.isNone := by cases o with
  | none => rfl
  | some x => exact hf x
theorem slot2_cases (kz : K2) (d : D) : (slot2 kz d = .frz d ∧ (d.sc = true ∨ kz = .c)) ∨ (slot2 kz d = .bor d ∧ kz = .b) := by
  cases d <;> cases kz <;> first | exact .inl ⟨rfl, .inl rfl⟩ | exact .inl ⟨rfl, .inr rfl⟩ | exact .inr ⟨rfl, rfl⟩
theorem nm2 (A : At X Γ N sc lv) (S : Sc N sc vl ll gl) (i : Nat) {kz : K2} (hN : N[i]? = some n) (hv : vl.contains i = true) (he : env[i]? = some (some (slot2 kz d))) : Ev X env (.Name n pos) d kz.k := by
  rcases slot2_cases kz d with ⟨h, q⟩ | ⟨h, q⟩ <;> rw [h] at he
  · have h1 := nmF (pos := pos) A S i hN hv he
    cases kz with
    | c => exact h1
    | b => exact h1.cln_brw
  · subst q; exact nmB A S i hN hv he
theorem EnvS.re {K : PySem.W.Frag} {F B G H : Hp} {σ : St} {i : Nat} {s s' : Slot} (E : EnvS K F B G H env σ) (he : env[i]? = some (some s)) (hs : ∀ v, SlotS K F B G H s v → SlotS K F B G H s' v) (no : ∀ d, s' ≠ .own d) : EnvS K F B G H (env.set i (some s')) σ := by
  obtain ⟨v, h1, h2⟩ := E.at_ i s he
  refine ⟨E.hs, E.gh, by rw [List.length_set]; exact E.len, fun j t e => ?_, fun j m d1 d2 q e1 e2 e3 e4 => ?_⟩
  · rcases get_set e with ⟨z, y, hl⟩ | ⟨z, y⟩
    · cases y
      rw [z]
      exact ⟨v, h1, hs v h2⟩
    · exact E.at_ j t y
  · rcases get_set e1 with ⟨z1, y1, l1⟩ | ⟨z1, y1⟩
    · cases y1; exact absurd rfl (no _)
    · rcases get_set e2 with ⟨z2, y2, l2⟩ | ⟨z2, y2⟩
      · cases y2; exact absurd rfl (no _)
      · exact E.dis j m d1 d2 q y1 y2 e3 e4
theorem ss_bor (i : Nat) {A : List Stmt} (he : env[i]? = some (some (.frz d))) (h : SS X (env.set i (some (.bor d))) A Φ) : SS X env A Φ := ⟨h.ps.mono fun Dd σ H ⟨F, B, G, E, P⟩ => ⟨F, B, G, E.re he (fun v r => Rep.mono E.hs.fb r) (fun _ z => nomatch z), P⟩⟩
theorem ss_s2 (i : Nat) {A : List Stmt} (he : env[i]? = some (some (slot2 kz d))) (h : SS X (env.set i (some (.bor d))) A Φ) : SS X env A Φ := by
  rcases slot2_cases kz d with ⟨q, _⟩ | ⟨q, _⟩ <;> rw [q] at he
  · exact ss_bor i he h
  · have : env.set i (some (.bor d)) = env := by
      apply List.ext_getElem?
      intro j
      by_cases z : i = j
      · subst z; rw [List.getElem?_set_self (List.getElem?_eq_some_iff.mp he).1, he]
      · rw [List.getElem?_set_ne z]
    rw [this] at h; exact h
theorem heldOf_c {d : D} : heldOf .cln d = .cln := by unfold heldOf; split <;> rfl
theorem ea_consH (ha : Ev X env a d k1) (hr : EA X env es ds k2) (h2 : k2 = .cln ∨ k2 = .brw ∨ k2 = .drt) (hs : starEach (a :: es) X.env = (false, eval a X.env) :: starEach es X.env) : EA X env (a :: es) (d :: ds) (k1.held.join k2) :=
  ⟨(pa_cons ha.held.pe hr.pa hs).mono fun σ H Q ⟨F, B, E, q⟩ => ⟨F, B, E, fun v H1 F1 B1 g1 r1 => ⟨F1, B1, E.grow g1, fun vs H2 F2 B2 g2 r2 => by
    have h1 : k1.held = .cln ∨ k1.held = .brw ∨ k1.held = .drt := by cases k1 <;> simp [Kd.held]
    refine q _ _ _ _ (g1.trans g2) (repsK_cons (join_cases _ _) (repsK.up g2.hs h1 h2 (repsK.grow g2 (repK_one h1 r1))) ?_)
    rw [join_comm]
    exact repsK.up g2.hs h2 h1 r2⟩⟩⟩
def D.isT (q : Bool) : D → Bool
  | .bl b => decide (b = q)
  | _ => false
def rIsT (K : PySem.W.Frag) (neg : Bool) : R2 := fun x y H Q => ∃ (d : D) (q : Bool), Rep K H d x ∧ y = .bl q ∧ Q (.bl (if neg then !d.isT q else d.isT q)) H
theorem isT_ne {K : PySem.W.Frag} {H : Hp} {d : D} {x : V} {v : Value} {q : Bool} (r : Rep K H d x) (rx : RelV x v) : (d.isT q = true ∧ v = .bool q) ∨ (d.isT q = false ∧ v ≠ .bool q ∧ plainIs v (.bool q) = true) := by
  cases r with
  | bl b =>
    cases (show v = Value.bool b from rx)
    by_cases e : b = q
    · subst e; exact .inl ⟨by simp [D.isT], rfl⟩
    · exact .inr ⟨by simp [D.isT, e], fun z => e (Value.bool.inj z), rfl⟩
  | non => cases (show v = Value.none from rx); exact .inr ⟨rfl, fun z => (nomatch z), rfl⟩
  | int i => obtain ⟨t, h⟩ := (show ∃ t, v = Value.int i t from rx); subst h; exact .inr ⟨rfl, fun z => (nomatch z), rfl⟩
  | str i => obtain ⟨t, h⟩ := (show ∃ t, v = Value.str i t from rx); subst h; exact .inr ⟨rfl, fun z => (nomatch z), rfl⟩
  | lst h1 h2 => cases rx; exact .inr ⟨rfl, fun z => (nomatch z), rfl⟩
  | tup h1 h2 => cases rx; exact .inr ⟨rfl, fun z => (nomatch z), rfl⟩
  | dK h1 h2 => cases rx; exact .inr ⟨rfl, fun z => (nomatch z), rfl⟩
  | dT h1 h2 => cases rx; exact .inr ⟨rfl, fun z => (nomatch z), rfl⟩
  | obj h1 h2 => cases rx; exact .inr ⟨rfl, fun z => (nomatch z), rfl⟩
  | scr h1 => cases rx; exact .inr ⟨rfl, fun z => (nomatch z), rfl⟩
  | adr => cases rx; exact .inr ⟨rfl, fun z => (nomatch z), rfl⟩
theorem op_isT : OpR X (compareOp .Is) (rIsT X.K false) := by
  intro pins s σ H x y v u Q I rx ry h
  obtain ⟨d, q, r, rfl, w⟩ := h
  cases (show u = Value.bool q from ry)
  rcases isT_ne (q := q) r rx with ⟨e, z⟩ | ⟨e, z, pl⟩
  · subst z; rw [e] at w; exact wpAny_is_self rfl ⟨.bl true, H, I, rfl, w⟩
  · rw [e] at w; exact wpAny_is_other pl z ⟨.bl false, H, I, rfl, w⟩
theorem op_nisT : OpR X (compareOp .IsNot) (rIsT X.K true) := by
  intro pins s σ H x y v u Q I rx ry h
  obtain ⟨d, q, r, rfl, w⟩ := h
  cases (show u = Value.bool q from ry)
  rcases isT_ne (q := q) r rx with ⟨e, z⟩ | ⟨e, z, pl⟩
  · subst z; rw [e] at w; exact wpAny_isNot_self rfl ⟨.bl false, H, I, rfl, w⟩
  · rw [e] at w; exact wpAny_isNot_other pl z ⟨.bl true, H, I, rfl, w⟩
theorem ev_isT {q : Bool} {j' : Nat} {pos' : Pos} (ha : Ev X env a x k1) (hp : x.isT q = p) : Ev X env (.Compare a [.Is] [.Constant (.bool q) j' pos'] pos) (.bl p) .cln :=
  ev_cmp2 op_isT ha (ev_bl (b := q)) rfl fun F B H v u Q hs r1 r2 w => ⟨x, q, r1.rep hs, r2.bl hs, by rw [hp]; exact fin_bl hs w⟩
theorem ev_nisT {q : Bool} {j' : Nat} {pos' : Pos} (ha : Ev X env a x k1) (hp : (!x.isT q) = p) : Ev X env (.Compare a [.IsNot] [.Constant (.bool q) j' pos'] pos) (.bl p) .cln :=
  ev_cmp2 op_nisT ha (ev_bl (b := q)) rfl fun F B H v u Q hs r1 r2 w => ⟨x, q, r1.rep hs, r2.bl hs, by show Q (.bl (!x.isT q)) H; rw [hp]; exact fin_bl hs w⟩
def D.ty : D → Option String
  | .non => some "NoneType" | .bl _ => some "bool" | .int _ => some "int" | .str _ => some "str" | .lst _ => some "list" | .tup _ => some "tuple" | .dK _ => some "dict" | .dT _ => some "dict" | .scr _ => some "list" | .obj _ _ => none | .adr _ => none
def D.isi (T : String) (d : D) : Bool := match d with
  | .non => T == "NoneType" | .bl _ => T == "bool" || T == "int" | .int _ => T == "int" | .str _ => T == "str" | .lst _ => T == "list" | .tup _ => T == "tuple" | .dK _ => T == "dict" | .dT _ => T == "dict" | .scr _ => T == "list" | .obj _ _ => false | .adr _ => false
theorem rep_ty {K : PySem.W.Frag} {H : Hp} {v : V} {T : String} (r : Rep K H d v) (h : d.ty = some T) : TyX K H v (.type T) := by
  cases r with
  | non => cases h; exact .base .non
  | bl b => cases h; exact .base (.bl b)
  | int b => cases h; exact .base (.int b)
  | str b => cases h; exact .base (.str b)
  | lst h1 h2 => cases h; exact .base (.lst h1)
  | tup h1 h2 =>
    cases h
    rcases h1 with (h1 | ⟨o, h1⟩) | ⟨o, its, m, h1, h3, _⟩
    · exact .base (.tup h1)
    · exact .fTuple h1
    · exact .kTuple h1 h3
  | dK h1 h2 => cases h; exact .base (.dK h1)
  | dT h1 h2 => cases h; exact .base (.dT h1)
  | obj h1 h2 => cases h
  | adr => cases h
  | scr h1 =>
    cases h
    rcases h1 with (h1 | ⟨o, h1⟩) | ⟨o, its, m, h1, h3, _⟩
    · exact .base (.lst h1)
    · exact .base (.frz h1)
    · exact .kList h1 h3
def isiT (T : String) : Bool := (["NoneType", "bool", "int", "str", "list", "tuple", "dict"].all fun t => kitB t T == some (t == T || (t == "bool" && T == "int")))
theorem isi_of {T t : String} (h : isiT T = true) (ht : d.ty = some t) : kitB t T = some (d.isi T) := by
  unfold isiT at h
  simp only [List.all_cons, List.all_nil, Bool.and_true, Bool.and_eq_true, beq_iff_eq] at h
  obtain ⟨h1, h2, h3, h4, h5, h6, h7⟩ := h
  have sw : ∀ x : String, (x == T) = (T == x) := fun x => by
    by_cases e : x = T
    · subst e; rfl
    · rw [beq_eq_false_iff_ne.mpr e, beq_eq_false_iff_ne.mpr (Ne.symm e)]
  cases d <;> cases ht <;> first | (rw [h1]) | (rw [h2]) | (rw [h3]) | (rw [h4]) | (rw [h5]) | (rw [h6]) | (rw [h7])
  all_goals (simp only [D.isi, sw]; simp)
theorem isi_ {nT : Str} {T : String} {pT : Pos} (bn : Bn X "isinstance" (.builtin "isinstance")) (ha : Ev X env a x k1) (bT : Bn X nT (.type T)) (he : starEach [a, .Name nT pT] X.env = [(false, eval a X.env), (false, eval (.Name nT pT) X.env)]) (hk : isiT T = true) (hx : (x.ty.isSome && decide (x.isi T = p)) = true) :
    Ev X env (.Call (.Name "isinstance" pn) [a, .Name nT pT] [] pos) (.bl p) .cln := by
  obtain ⟨h1, h2⟩ := Bool.and_eq_true_iff.mp hx
  obtain ⟨t, ht⟩ := Option.isSome_iff_exists.mp h1
  have h2 := of_decide_eq_true h2
  have hT : PE X (.Name nT pT) (tC (.ty T)) := pe_bltn bT.gl bT.mg bT.bt rfl bT.nn bT.db
  refine ⟨(pe_callB call_isi bn.gl bn.mg bn.bt (pa_cons ha.st.pe (pa_cons hT pa_nil rfl) he) bn.nn bn.db he rfl).mono fun σ H Q ⟨F, B, E, q⟩ => ⟨F, B, E, fun v H1 F1 B1 g1 r1 => ?_⟩⟩
  refine ⟨v, .ty T, .type t, .type T, p, rfl, .ty T, rep_ty (r1.rep g1.hs) ht, kit_ty (by rw [← h2]; exact isi_of hk ht), ?_⟩
  exact q _ _ _ _ g1 (.bl p)
end
end DL
namespace DL
open PySem PySem.Spec L2
open PyProof.Rows hiding St
section
variable {X : Cx} {env : DEnv} {a b : Expr} {k1 : Kd} {pos pn : Pos} {x : D} {p : Bool}
def isiG (T : String) (d : D) : Option Bool := if d.ty.isSome = true then some (d.isi T) else none
theorem isiG_ {nT : Str} {T : String} {pT : Pos} (bn : Bn X "isinstance" (.builtin "isinstance")) (ha : Ev X env a x k1) (bT : Bn X nT (.type T)) (he : starEach [a, .Name nT pT] X.env = [(false, eval a X.env), (false, eval (.Name nT pT) X.env)]) (hk : isiT T = true) (h : isiG T x = some p) :
    Ev X env (.Call (.Name "isinstance" pn) [a, .Name nT pT] [] pos) (.bl p) .cln := by
  obtain ⟨h1, e⟩ := iteO h
  exact isi_ bn ha bT he hk (by rw [h1, e]; simp)
end
end DL
namespace DL
open PySem PySem.Spec L2
open PyProof.Rows hiding St
section
variable {X : Cx} {env : DEnv} {a b : Expr} {k1 : Kd} {pos pn : Pos} {x : D} {p : Bool}
theorem et_of {te : TE} {r : V → Hp → VK → Prop} (ht : PT X b (tB (te))) (hte : ∀ σ H Q, tEv X.K env (.bl p) .cln σ H Q → te σ H Q) : Et X env b p :=
  ⟨ht.mono fun σ H Q ⟨F, B, E, q⟩ => hte σ H _ ⟨F, B, E, fun v H' F' B' g r => by
    cases (show Rep X.K F' (.bl p) v from r)
    exact ⟨_, rfl, q H' F' B' g⟩⟩⟩
theorem et_isN {j' pos'} (ha : Ev X env a x k1) (hp : x.isN = p) : Et X env (.Compare a [.Is] [.Constant .none j' pos'] pos) p :=
  et_of (r := fun _ _ _ => True) (pt_cmp (pc_isN ha.st.pe)) (one_te (te := tIsN) (r := fun x H Q => Q (.bl (decide (x = .non))) H) (fun _ _ _ _ h => h) ha fun F B H v Q hs r1 q => by rw [rep_isN (r1.rep hs), hp]; exact fin_bl hs q)
theorem et_notN {j' pos'} (ha : Ev X env a x k1) (hp : x.isN = p) : Et X env (.Compare a [.IsNot] [.Constant .none j' pos'] pos) (!p) :=
  et_of (r := fun _ _ _ => True) (pt_cmp (pc_notN ha.st.pe)) (one_te (te := tNotN) (r := fun x H Q => Q (.bl (!decide (x = .non))) H) (fun _ _ _ _ h => h) ha fun F B H v Q hs r1 q => by rw [rep_isN (r1.rep hs), hp]; exact fin_bl hs q)
theorem et_isT {q : Bool} {j' : Nat} {pos' : Pos} (ha : Ev X env a x k1) (hp : x.isT q = p) : Et X env (.Compare a [.Is] [.Constant (.bool q) j' pos'] pos) p :=
  et_cmp2 op_isT ha (ev_bl (b := q)) rfl fun F B H v u Q hs r1 r2 w => ⟨x, q, r1.rep hs, r2.bl hs, by rw [hp]; exact fin_bl hs w⟩
theorem et_nisT {q : Bool} {j' : Nat} {pos' : Pos} (ha : Ev X env a x k1) (hp : (!x.isT q) = p) : Et X env (.Compare a [.IsNot] [.Constant (.bool q) j' pos'] pos) p :=
  et_cmp2 op_nisT ha (ev_bl (b := q)) rfl fun F B H v u Q hs r1 r2 w => ⟨x, q, r1.rep hs, r2.bl hs, by show Q (.bl (!x.isT q)) H; rw [hp]; exact fin_bl hs w⟩
end
end DL
namespace DL
open PySem PySem.Spec L2
open PyProof.Rows hiding St
section
variable {X : Cx} {Γ : Gd} {N : List Str} {sc : Scope} {lv : Nat} {vl ll : List Nat} {gl : List Str} {env env' : DEnv} {Φ : Outs} {rest : List Stmt} {tg e a b : Expr} {es : List Expr} {ds : List D} {d : D} {k k1 k2 : Kd} {pos pn np apos cpos : Pos} {s t n : Str} {i j : Int} {x y : D} {p : Bool} {kz : K2}
def lenDG : D → Option Int
  | .lst ds => some ds.length
  | .tup ds => some ds.length
  | .str s => if s.length ≤ line then some s.length else none
  | _ => none
theorem lenD_ {v : Int} (bn : Bn X "len" (.builtin "len")) (ha : Ev X env a d k1) (h : lenDG d = some v) (he : starEach [a] X.env = [(false, eval a X.env)]) : Ev X env (.Call (.Name "len" pn) [a] [] pos) (.int v) .cln := by
  cases d <;> try cases h
  · obtain ⟨h1, e⟩ := iteO h; subst e
    exact len_ bn ha (.str (by rw [line_eq]; exact h1)) he
  · exact len_ bn ha .lst he
  · exact len_ bn ha .tup he
def idxDG (d : D) (i : Int) : Option D := match d with
  | .lst ds => atI ds i
  | .tup ds => atI ds i
  | _ => none
theorem ixD_ {v : D} (ha : Ev X env a d k1) (hb : Ev X env b (.int i) k2) (h : idxDG d i = some v) (hs : PlainIx b) : Ev X env (.Subscript a b pos) v k1.kid := by
  cases d <;> try cases h
  · exact ix_ ha hb (.lst h) hs
  · exact ix_ ha hb (.tup h) hs
def fndG {α : Type} [DecidableEq α] (xs : List α) (x : α) : Option Int := Option.map (fun n : Nat => (n : Int)) (xs.findIdx? (fun y => decide (y = x)))
theorem fnd_ok {α : Type} [DecidableEq α] {xs : List α} {x : α} {v : Int} (h : fndG xs x = some v) : ∃ n : Nat, v = n ∧ xs[n]? = some x ∧ ∀ m, m < n → xs[m]? ≠ some x := by
  obtain ⟨n, h1, h2⟩ := Option.map_eq_some_iff.mp h
  rw [List.findIdx?_eq_some_iff_getElem] at h1
  obtain ⟨hl, hp, hn⟩ := h1
  refine ⟨n, h2.symm, by rw [List.getElem?_eq_getElem hl, of_decide_eq_true hp], fun m hm e => ?_⟩
  have hm' : m < xs.length := by omega
  rw [List.getElem?_eq_getElem hm'] at e
  exact hn m hm (decide_eq_true (Option.some.inj e))
theorem indexLI_ {ns : List Int} {v : Int} (ha : Ev X env a (.lst (ns.map D.int)) k1) (hb : Ev X env b (.int i) k2) (h : fndG ns i = some v) (mx : Mx X a "index" [b] apos cpos) (hs : starEach [b] X.env = [(false, eval b X.env)] := by rfl) :
    Ev X env (.Call (.Attribute a "index" apos) [b] [] cpos) (.int v) .cln := by
  obtain ⟨m, e, h1, h2⟩ := fnd_ok h
  subst e
  refine ⟨(pe_bm PySem.F.plainAttrs_list PySem.F.slot_list_index PySem.F.type_list_index mt_index ha.st.pe (pa_cons hb.st.pe pa_nil hs) mx.base mx.few mx.line hs rfl).mono fun σ H Q ⟨F, B, E, q⟩ => ⟨F, B, E, fun v H1 F1 B1 g1 r1 => ?_⟩⟩
  obtain ⟨q1, vs, rfl, e2, r⟩ := RepS.lst g1.hs (RepK.any0 r1)
  refine ⟨.inl ⟨rfl, _, SqL.of e2⟩, F1, B1, E.grow g1, fun u H2 F2 B2 g2 r2 => ?_⟩
  have ei := RepS.int g2.hs (RepK.any0 r2)
  subst ei
  have ev := reps_ints (r.reps g1.hs)
  subst ev
  refine ⟨q1, ns.map V.int, .int i, m, .int i, rfl, rfl, SqL.of (g2.h _ _ e2), rfl, flat_ints ns, by rw [List.getElem?_map, h1]; rfl, by simp [eqV], fun m' z hm hz => ?_, q _ _ _ _ (g1.trans g2) (.int _)⟩
  rw [List.getElem?_map] at hz
  obtain ⟨w, hw, e⟩ := Option.map_eq_some_iff.mp hz
  subst e
  have := h2 m' hm
  rw [hw] at this
  show (w == i) = false
  exact beq_eq_false_iff_ne.mpr fun z => this (by rw [z])
theorem indexLS_ {ns : List Str} {i : Str} {v : Int} (ha : Ev X env a (.lst (ns.map D.str)) k1) (hb : Ev X env b (.str i) k2) (h : fndG ns i = some v) (mx : Mx X a "index" [b] apos cpos) (hs : starEach [b] X.env = [(false, eval b X.env)] := by rfl) :
    Ev X env (.Call (.Attribute a "index" apos) [b] [] cpos) (.int v) .cln := by
  obtain ⟨m, e, h1, h2⟩ := fnd_ok h
  subst e
  refine ⟨(pe_bm PySem.F.plainAttrs_list PySem.F.slot_list_index PySem.F.type_list_index mt_index ha.st.pe (pa_cons hb.st.pe pa_nil hs) mx.base mx.few mx.line hs rfl).mono fun σ H Q ⟨F, B, E, q⟩ => ⟨F, B, E, fun v H1 F1 B1 g1 r1 => ?_⟩⟩
  obtain ⟨q1, vs, rfl, e2, r⟩ := RepS.lst g1.hs (RepK.any0 r1)
  refine ⟨.inl ⟨rfl, _, SqL.of e2⟩, F1, B1, E.grow g1, fun u H2 F2 B2 g2 r2 => ?_⟩
  have ei := RepS.str g2.hs (RepK.any0 r2)
  subst ei
  have ev := reps_strs (r.reps g1.hs)
  subst ev
  refine ⟨q1, ns.map V.str, .str i, m, .str i, rfl, rfl, SqL.of (g2.h _ _ e2), rfl, DL.flat_strs ns, by rw [List.getElem?_map, h1]; rfl, by simp [eqV], fun m' z hm hz => ?_, q _ _ _ _ (g1.trans g2) (.int _)⟩
  rw [List.getElem?_map] at hz
  obtain ⟨w, hw, e⟩ := Option.map_eq_some_iff.mp hz
  subst e
  have := h2 m' hm
  rw [hw] at this
  show (w == i) = false
  exact beq_eq_false_iff_ne.mpr fun z => this (by rw [z])
theorem eraseIdx_map' {α β : Type} (f : α → β) : ∀ (xs : List α) (m : Nat), (xs.eraseIdx m).map f = (xs.map f).eraseIdx m
  | [], _ => rfl
  | _ :: _, 0 => rfl
  | x :: xs, m + 1 => congrArg (f x :: ·) (eraseIdx_map' f xs m)
structure Em (X : Cx) (env env' : DEnv) (e : Expr) (d : D) : Prop where
  pe : PE X e (fun σ H Q => ∃ F B G, EnvS X.K F B G H env σ ∧ ∀ v H' F' B', GS F B G F' B' → EnvS X.K F' B' G H' env' σ → Rep X.K F' d v → Q v H')
def popG {α : Type} (xs : List α) (i : Int) : Option (α × List α) :=
  if decide (-9223372036854775808 ≤ i) && decide (i < 9223372036854775808) then (match seqIndex? i xs.length with
    | some m => match xs[m]? with
      | some x => some (x, xs.eraseIdx m)
      | none => none
    | none => none) else none
theorem popG_ok {α : Type} {xs : List α} {i : Int} {r : α × List α} (h : popG xs i = some r) : -(2 ^ 63) ≤ i ∧ i < 2 ^ 63 ∧ ∃ m, seqIndex? i xs.length = some m ∧ xs[m]? = some r.1 ∧ r.2 = xs.eraseIdx m := by
  unfold popG at h
  split at h
  · next c =>
    simp only [Bool.and_eq_true, decide_eq_true_eq] at c
    cases e : seqIndex? i xs.length with
    | none => rw [e] at h; cases h
    | some m =>
      rw [e] at h
      cases e2 : xs[m]? with
      | none => simp only [e2] at h; cases h
      | some x => simp only [e2] at h; cases h; exact ⟨c.1, c.2, m, rfl, e2, rfl⟩
  · cases h
theorem popI_ {α : Type} {f : α → D} {xs : List α} {r : α × List α} (A : At X Γ N sc lv) (S : Sc N sc vl ll gl) (i : Nat) (hN : N[i]? = some n) (hv : vl.contains i = true) (he : env[i]? = some (some (.own (.lst (xs.map f))))) (hb : Ev X env b (.int j) k2) (h : popG xs j = some r) (hs : starEach [b] X.env = [(false, eval b X.env)]) (mx : Mx X (.Name n np) "pop" [b] apos cpos) :
    Em X env (env.set i (some (.own (.lst (r.2.map f))))) (.Call (.Attribute (.Name n np) "pop" apos) [b] [] cpos) (f r.1) := by
  obtain ⟨v1, v2⟩ := S.vis hv hN
  obtain ⟨p1, p2, _⟩ := plainB_ok v2
  obtain ⟨c1, c2, m, h1, h2, h3⟩ := popG_ok h
  refine ⟨(pe_bm PySem.F.plainAttrs_list PySem.F.slot_list_pop PySem.F.type_list_pop (fun pins s σ H x xs v us Q I r r2 h => mt_popAt pins s σ H x xs v us Q I r r2 h) (pe_var (by rw [A.eN]; exact hN) (A.eS.vis v1) p1 p2) (pa_cons hb.st.pe pa_nil hs) mx.base mx.few mx.line hs rfl).mono fun σ H Q ⟨F, B, G, E, q⟩ => ?_⟩
  obtain ⟨q1, vs, e1, e2, e3⟩ := E.own he
  refine ⟨_, e1, .inl ⟨rfl, vs, SqL.of e2⟩, F, B, E.e, fun u H2 F2 B2 g2 r2 => ?_⟩
  have ei := RepS.int g2.hs (RepK.any0 r2)
  subst ei
  have E' := E.grow g2
  have hl := e3.length
  rw [List.length_map] at hl
  obtain ⟨y, hy, ry⟩ := e3.get (i := m) (d := f r.1) (by rw [List.getElem?_map, h2]; rfl)
  refine ⟨q1, vs, j, m, y, rfl, rfl, g2.h _ _ e2, c1, c2, by rw [hl]; exact h1, hy, ?_⟩
  refine q _ _ F2 B2 (g2.gs E.gh) (E'.mut (d' := .lst (r.2.map f)) he e1 rfl ⟨_, upd_same, ?_⟩) (Rep.mono g2.f ry)
  rw [h3, show (xs.eraseIdx m).map f = (xs.map f).eraseIdx m from eraseIdx_map' f xs m]
  exact (e3.mono g2.f).eraseIdx m
def popE {α : Type} (xs : List α) : Option (α × List α) := match xs[xs.length - 1]? with
  | some x => some (x, xs.dropLast)
  | none => none
theorem popE_ {α : Type} {f : α → D} {xs : List α} {r : α × List α} (A : At X Γ N sc lv) (S : Sc N sc vl ll gl) (i : Nat) (hN : N[i]? = some n) (hv : vl.contains i = true) (he : env[i]? = some (some (.own (.lst (xs.map f))))) (h : popE xs = some r)
    (hb : attributeBase (.Name n np) "pop" X.env (eval (.Name n np) X.env) = eval (.Name n np) X.env) (hl : (apos.endLine == cpos.line) = true) :
    Em X env (env.set i (some (.own (.lst (r.2.map f))))) (.Call (.Attribute (.Name n np) "pop" apos) [] [] cpos) (f r.1) := by
  obtain ⟨v1, v2⟩ := S.vis hv hN
  obtain ⟨p1, p2, _⟩ := plainB_ok v2
  have h12 : xs[xs.length - 1]? = some r.1 ∧ r.2 = xs.dropLast := by
    unfold popE at h
    split at h
    · next x e => cases h; exact ⟨e, rfl⟩
    · cases h
  refine ⟨(pe_bm0 PySem.F.plainAttrs_list PySem.F.slot_list_pop PySem.F.type_list_pop (fun pins s σ H x xs v us Q I r r2 h => mt_pop pins s σ H x xs v us Q I r r2 h) (pe_var (by rw [A.eN]; exact hN) (A.eS.vis v1) p1 p2) hb hl).mono fun σ H Q ⟨F, B, G, E, q⟩ => ?_⟩
  obtain ⟨q1, vs, e1, e2, e3⟩ := E.own he
  have hl := e3.length
  rw [List.length_map] at hl
  obtain ⟨y, hy, ry⟩ := e3.get (i := xs.length - 1) (d := f r.1) (by rw [List.getElem?_map, h12.1]; rfl)
  refine ⟨_, e1, .inl ⟨rfl, vs, SqL.of e2⟩, q1, vs, y, rfl, rfl, e2, by rw [hl]; exact hy, ?_⟩
  refine q _ _ F B .refl (E.mut (d' := .lst (r.2.map f)) he e1 rfl ⟨_, upd_same, ?_⟩) ry
  rw [h12.2, List.map_dropLast]
  exact e3.dropLast
theorem setE_ (A : At X Γ N sc lv) (S : Sc N sc vl ll gl) (i : Nat) {pos' : Pos} (hN : N[i]? = some n) (hl : ll.contains i = true) (he : Em X env env' e d) (hs : swapsWith e (some (.Name n pos')) pos.line X.env = pure false)
    (h : SS X (env'.set i (some (.frz d))) rest Φ) : SS X env (.Assign [.Name n pos'] e pos :: rest) Φ :=
  ss_cons ⟨(ps_set (by rw [A.eN]; exact S.nd) (by rw [A.eN]; exact hN) (A.eS.loc (S.loc hl hN)) he.pe hs (A.fnl (S.loc hl hN))).mono fun Dd σ H ⟨F, B, G, E, P⟩ => ⟨F, B, G, E, fun v H' F' B' g E' r => P.nx _ _ _ F' B' g (E'.set (s := .frz d) r fun d' p es => nomatch es) h⟩⟩
theorem appE_ {α : Type} {en : α → D} {xs ys : List α} {x : α} (A : At X Γ N sc lv) (S : Sc N sc vl ll gl) (i : Nat) (hN : N[i]? = some n) (hv : vl.contains i = true) (he : env'[i]? = some (some (.own (.lst (xs.map en))))) (ha : Em X env env' e (en x)) (hk : heldOf .cln (en x) = .cln) (hG : appG xs x = some ys)
    (mx : Mx X (.Name n np) "append" [e] apos cpos) (hs : starEach [e] X.env = [(false, eval e X.env)]) (hsw : swapsWith (.Call (.Attribute (.Name n np) "append" apos) [e] [] cpos) none pos.line X.env = pure false) (heO : ∃ d0, env[i]? = some (some (.own (.lst d0))))
    (h : SS X (env'.set i (some (.own (.lst (ys.map en))))) rest Φ) : SS X env (.Expr (.Call (.Attribute (.Name n np) "append" apos) [e] [] cpos) pos :: rest) Φ := by
  obtain ⟨v1, v2⟩ := S.vis hv hN
  obtain ⟨p1, p2, _⟩ := plainB_ok v2
  obtain ⟨c1, e0⟩ := iteO hG
  subst e0
  obtain ⟨d0, heO⟩ := heO
  refine ss_cons ⟨(ps_expr (pe_bm PySem.F.plainAttrs_list PySem.F.slot_list_append PySem.F.type_list_append (fun pins s σ H x xs v us Q I r r2 h => mt_append pins s σ H x xs v us Q I r r2 h) (pe_var (by rw [A.eN]; exact hN) (A.eS.vis v1) p1 p2) (pa_cons ha.pe pa_nil hs) mx.base mx.few mx.line hs rfl) hsw).mono fun Dd σ H ⟨F, B, G, E, P⟩ => ?_⟩
  obtain ⟨q0, vs0, f1, f2, f3⟩ := E.own heO
  refine ⟨_, f1, .inl ⟨rfl, vs0, SqL.of f2⟩, F, B, G, E, fun v H' F' B' g E' r => ?_⟩
  obtain ⟨q, vs, h1, h2, h3⟩ := E'.own he
  rw [f1] at h1; cases h1
  refine ⟨q0, vs, v, rfl, rfl, h2, by rw [h3.length, List.length_map, line_eq]; exact c1, ?_⟩
  refine P.nx _ _ _ F' B' g (E'.mut (d' := .lst ((xs ++ [x]).map en)) he f1 rfl ⟨_, upd_same, ?_⟩) h
  rw [List.map_append]
  exact Reps.append h3 (.one r)
def strL (s : Str) : List Str := s.cps.toList.map fun c => ⟨#[c]⟩
theorem its_ok {K : PySem.W.Frag} {P F B : Hp} {s : Str} : ItOk K P F B (Its s) .c ((strL s).map D.str) := by
  have at_ : ∀ (i : Nat) d, ((strL s).map D.str)[i]? = some d → ∃ c, s.cps[i]? = some c ∧ d = .str ⟨#[c]⟩ := fun i d e => by
    unfold strL at e
    rw [List.getElem?_map, List.getElem?_map] at e
    cases q : s.cps.toList[i]? with
    | none => rw [q] at e; cases e
    | some c => rw [q] at e; cases e; exact ⟨c, by rw [← Array.getElem?_toList]; exact q, rfl⟩
  refine ⟨fun i d H _ e => ?_, fun i d H x H' _ e y => .inl ?_, fun H _ => ?_⟩
  · obtain ⟨c, h1, _⟩ := at_ i d e
    exact (Array.getElem?_eq_some_iff.mp h1).1
  · obtain ⟨c, h1, h2⟩ := at_ i d e
    obtain ⟨z, c', h3, h4⟩ := y
    rw [h1] at h3; cases h3
    subst h2 h4
    exact ⟨z, .str _⟩
  · show s.cps.size ≤ _
    unfold strL
    rw [List.length_map, List.length_map, Array.length_toList]
    exact Nat.le_refl _
theorem iterS_ (ha : Ev X env a (.str s) k1) : EI X env tg a ((strL s).map D.str) .c true :=
  ⟨(pi_str ha.st.pe).mono fun σ H R ⟨F, B, E, q⟩ => ⟨F, B, E, fun v H1 F1 B1 g r => ⟨s, RepS.str g.hs (RepK.any0 r), q _ H1 F1 B1 g its_ok⟩⟩⟩
def enumL {α : Type} (xs : List α) : List (Int × α) := xs.zipIdx.map fun p => ((p.2 : Int), p.1)
theorem enumL_get {α : Type} {xs : List α} {i : Nat} : (enumL xs)[i]? = xs[i]?.map fun x => ((i : Int), x) := by
  unfold enumL
  rw [List.getElem?_map, List.getElem?_zipIdx]
  cases xs[i]? with
  | none => rfl
  | some x => simp
theorem enumL_len {α : Type} (xs : List α) : (enumL xs).length = xs.length := by unfold enumL; rw [List.length_map, List.length_zipIdx]
theorem ite_ok {α : Type} {f : α → D} {xs : List α} {K : PySem.W.Frag} {P F B : Hp} {l : Addr} {vs : List V} {k : K2} (h : P l = some (.lst vs)) (r : repsK K F B P k.k (xs.map f) vs) : ItOk K P F B (Ite K l) k ((enumL xs).map fun x => .tup [.int x.1, f x.2]) := by
  have at_ : ∀ (i : Nat) d, ((enumL xs).map fun x => D.tup [.int x.1, f x.2])[i]? = some d → ∃ x, (xs.map f)[i]? = some (f x) ∧ d = .tup [.int (i : Int), f x] := fun i d e => by
    rw [List.getElem?_map, enumL_get] at e
    cases q : xs[i]? with
    | none => rw [q] at e; cases e
    | some x => rw [q] at e; cases e; exact ⟨x, by rw [List.getElem?_map, q]; rfl, rfl⟩
  refine ⟨fun i d H s e => ?_, fun i d H x H' s e y => .inr ?_, fun H s => ⟨vs, SqL.of (s _ _ h), by rw [r.len, List.length_map, List.length_map, enumL_len]; exact Nat.le_refl _⟩⟩
  · obtain ⟨x, e1, _⟩ := at_ i d e
    obtain ⟨u, e2, _⟩ := repsK.get (by cases k <;> simp) r e1
    exact ⟨vs, u, SqL.of (s _ _ h), e2⟩
  · obtain ⟨x0, e1, e3⟩ := at_ i d e
    obtain ⟨u, e2, r2⟩ := repsK.get (by cases k <;> simp) r e1
    obtain ⟨T, w, z1, z2, z3, z4⟩ := y
    have := z4 vs (SqL.of (s _ _ h))
    rw [e2] at this; cases this
    refine ⟨T, [.int (i : Nat), u], [.int (i : Int), f x0], z2, z3, z1, e3, ?_⟩
    cases k with
    | c => exact .cons (.int _) (.cons r2 .nil)
    | b => exact .cons (.int _) (.cons r2 .nil)
theorem enumLC_ {α : Type} {f : α → D} {xs : List α} {elts : List Expr} {kk : Nat} {tpos : Pos} (hg : Gl X "enumerate") (hm : X.mg "enumerate" = none) (ha : Ev X env a (.lst (xs.map f)) .cln) (hs : starEach [a] X.env = [(false, eval a X.env)]) :
    EI X env (.Tuple elts kk tpos) (.Call (.Name "enumerate" pn) [a] [] pos) ((enumL xs).map fun x => .tup [.int x.1, f x.2]) .c true :=
  ⟨(pi_enum hg hm (pa_cons ha.pe pa_nil hs) hs).mono fun σ H R ⟨F, B, E, q⟩ => ⟨F, B, E, fun v H1 F1 B1 g r => by
    cases (show Rep X.K F1 (.lst (xs.map f)) v from r) with
    | lst s t => exact ⟨_, _, rfl, SqL.of (g.hs.fh _ _ s), q _ H1 F1 B1 g (ite_ok (g.hs.fb _ _ s) t)⟩⟩⟩
theorem enumLB_ {α : Type} {f : α → D} {xs : List α} {elts : List Expr} {kk : Nat} {tpos : Pos} (hg : Gl X "enumerate") (hm : X.mg "enumerate" = none) (ha : Ev X env a (.lst (xs.map f)) .brw) (hs : starEach [a] X.env = [(false, eval a X.env)]) :
    EI X env (.Tuple elts kk tpos) (.Call (.Name "enumerate" pn) [a] [] pos) ((enumL xs).map fun x => .tup [.int x.1, f x.2]) .b true :=
  ⟨(pi_enum hg hm (pa_cons ha.pe pa_nil hs) hs).mono fun σ H R ⟨F, B, E, q⟩ => ⟨F, B, E, fun v H1 F1 B1 g r => by
    cases (show Rep X.K B1 (.lst (xs.map f)) v from r) with
    | lst s t => exact ⟨_, _, rfl, SqL.of (g.hs.bh _ _ s), q _ H1 F1 B1 g (ite_ok s t)⟩⟩⟩
end
end DL
namespace DL
open PySem PySem.Spec L2
open PyProof.Rows hiding St
open RZ
abbrev lexP (x y : Int × Int) : Bool := SrtO.lexB x y
def srtP (xs : List (Int × Int)) : List (Int × Int) := xs.mergeSort fun a b => !lexP b a
def srtG (xs : List (Int × Int)) : Option (List (Int × Int)) := some (srtP xs)
theorem lexP_total (a b : Int × Int) : ((!lexP b a) || (!lexP a b)) = true := by
  cases h : lexP b a with
  | false => rfl
  | true =>
    have := SrtO.lexB_iff.mp h
    rw [show lexP a b = false from SrtO.lexB_no.mpr (by omega)]; rfl
theorem lexP_trans (a b c : Int × Int) (h1 : (!lexP b a) = true) (h2 : (!lexP c b) = true) : (!lexP c a) = true := by
  have a1 := SrtO.lexB_no.mp (show SrtO.lexB b a = false by simpa using h1)
  have a2 := SrtO.lexB_no.mp (show SrtO.lexB c b = false by simpa using h2)
  rw [show lexP c a = false from SrtO.lexB_no.mpr (by omega)]; rfl
theorem srtP_perm (xs : List (Int × Int)) : (srtP xs).Perm xs := List.mergeSort_perm ..
theorem srtP_srt (xs : List (Int × Int)) : (srtP xs).Pairwise fun a b => SrtO.lexB b a = false := by
  have := List.pairwise_mergeSort (le := fun a b => !lexP b a) lexP_trans lexP_total xs
  exact this.imp fun h => by simpa using h
theorem srt_uniq {xs ys : List (Int × Int)} (hp : xs.Perm ys) (h1 : xs.Pairwise fun a b => SrtO.lexB b a = false) (h2 : ys.Pairwise fun a b => SrtO.lexB b a = false) : xs = ys := by
  refine List.Perm.eq_of_pairwise (le := fun a b => SrtO.lexB b a = false) (fun a b _ _ c1 c2 => ?_) h1 h2 hp
  have a1 := SrtO.lexB_no.mp c1
  have a2 := SrtO.lexB_no.mp c2
  exact Prod.ext (by omega) (by omega)
abbrev prD (p : Int × Int) : D := .tup [.int p.1, .int p.2]
theorem cr_sortedPD {X : Cx} : CallR X (.builtin "sorted") (fun vs H Q => ∃ (a : Addr) (xs : List V) (k : V → Int × Int), vs = [V.ref a] ∧ SqL X.K H a xs ∧ (∀ x ∈ xs, ∃ t, x = V.ref t ∧ SqT X.K H t [.int (k x).1, .int (k x).2]) ∧
    ∀ ys p, SrtO.Srtd (ltP k) ys → SrtO.Stb (ltP k) ys xs → H p = none → Q (.ref p) (upd H p (.lst ys))) := by
  intro pins s σ H vs us Q I r h
  obtain ⟨a, xs, k, rfl, hs, hx, q⟩ := h
  obtain ⟨its, rv, hl, hz⟩ := I.list hs
  obtain ⟨u, rfl, ru⟩ := vals1 r
  obtain rfl : u = Value.ref a := ru
  obtain ⟨e1, e2⟩ := refs_back rv fun x m => by
    obtain ⟨t, e, _⟩ := hx x m
    exact ⟨t, e⟩
  refine SrtO.sorted_pairsO (k := fun u => k (backV u)) hl.isList (by rw [← rv.length]; exact hz) (fun v hv => ?_) fun h' d out h1 h2 kp hd hn => ?_
  · obtain ⟨t, rfl⟩ := e2 v hv
    have hm : V.ref t ∈ xs := by rw [e1]; exact List.mem_map.mpr ⟨_, hv, rfl⟩
    obtain ⟨t', e, ht⟩ := hx _ hm
    cases e
    obtain ⟨its2, r2, ⟨o, ho, hc, n, hd⟩, _⟩ := I.tuple ht
    obtain ⟨u1, u2, rfl, ri, rj⟩ := vals2 r2
    obtain ⟨t1, rfl⟩ := ri
    obtain ⟨t2, rfl⟩ := rj
    exact ⟨t, o, t1, t2, n, rfl, ho, hc, hd⟩
  · have h3 : ∀ u ∈ out, ∃ a, u = Value.ref a := fun u hu => e2 u (h2.perm.mem_iff.mp hu)
    obtain ⟨n, hn⟩ := hn
    have hb : SrtO.Stb (ltP k) (out.map backV) xs := by
      rw [e1]
      exact SrtO.Stb.map (ltP_swo k) backV h2
    refine ⟨.ref d, upd H d (.lst (out.map backV)), I.laid (t' := s.toks) kp hd ⟨?_, out, n, vals_back h3, hn⟩, rfl, q _ d (SrtO.srtd_map h1) hb (I.hok.fresh hd)⟩
    rw [hb.len]
    exact hz
theorem rep_pr {X : Cx} {pins : List (Addr × Obj)} {σ : L2.St} {H : Hp} {s : Shared} {v : V} {p q : Int × Int} (I : Inv X pins σ H s) (h1 : Rep X.K H (prD p) v) (h2 : Rep X.K H (prD q) v) : p = q := by
  cases h1 with
  | tup a1 b1 =>
    cases h2 with
    | tup a2 b2 =>
      have e := I.tuple_inj a1 a2
      subst e
      cases b1 with
      | cons c1 d1 =>
        cases b2 with
        | cons c2 d2 =>
          cases d1 with
          | cons e1 f1 =>
            cases d2 with
            | cons e2 f2 =>
              have z1 : p.1 = q.1 := by generalize p.1 = x1 at c1; generalize q.1 = x2 at c2; cases c1; cases c2; rfl
              have z2 : p.2 = q.2 := by generalize p.2 = x1 at e1; generalize q.2 = x2 at e2; cases e1; cases e2; rfl
              exact Prod.ext z1 z2
theorem reps_mem {K : PySem.W.Frag} {Z : Hp} {k : V → Int × Int} : ∀ {ps : List (Int × Int)} {xs : List V}, Reps K Z (ps.map prD) xs → (∀ p v, Rep K Z (prD p) v → k v = p) → xs.map k = ps ∧ ∀ x ∈ xs, Rep K Z (prD (k x)) x
  | [], _, .nil, _ => ⟨rfl, fun x hx => nomatch hx⟩
  | p :: ps, _, .cons r t, h => by
    obtain ⟨h1, h2⟩ := reps_mem t h
    have e := h _ _ r
    refine ⟨by rw [List.map_cons, h1, e], fun x hx => ?_⟩
    rcases List.mem_cons.mp hx with z | z
    · subst z; rw [e]; exact r
    · exact h2 x z
theorem reps_of {K : PySem.W.Frag} {Z : Hp} {k : V → Int × Int} : ∀ {ys : List V}, (∀ y ∈ ys, Rep K Z (prD (k y)) y) → Reps K Z ((ys.map k).map prD) ys
  | [], _ => .nil
  | y :: ys, h => .cons (h y (List.mem_cons_self ..)) (reps_of fun z hz => h z (List.mem_cons_of_mem _ hz))
theorem cr_srtP {X : Cx} : CallR X (.builtin "sorted") (fun vs H Q => ∃ (a : Addr) (xs : List V) (ps : List (Int × Int)), vs = [V.ref a] ∧ SqL X.K H a xs ∧ Reps X.K H (ps.map prD) xs ∧
    ∀ ys p, (∀ Z : Hp, Same Z H → Reps X.K Z (ps.map prD) xs → Reps X.K Z ((srtP ps).map prD) ys) → H p = none → Q (.ref p) (upd H p (.lst ys))) := by
  intro pins s σ H vs us Q I r h
  obtain ⟨a, xs, ps, rfl, hs, hx, q⟩ := h
  classical
  let k : V → Int × Int := fun v => if h : ∃ p, Rep X.K H (prD p) v then Classical.choose h else (0, 0)
  have hk : ∀ p v, Rep X.K H (prD p) v → k v = p := fun p v r => by
    have ex : ∃ p, Rep X.K H (prD p) v := ⟨p, r⟩
    show (if h : ∃ p, Rep X.K H (prD p) v then Classical.choose h else (0, 0)) = p
    rw [dif_pos ex]
    exact rep_pr I (Classical.choose_spec ex) r
  obtain ⟨k1, k2⟩ := reps_mem hx hk
  refine cr_sortedPD pins s σ H _ us Q I r ⟨a, xs, k, rfl, hs, fun x hm => ?_, fun ys p h1 h2 hp => ?_⟩
  · cases k2 x hm with
    | tup a1 b1 =>
      cases b1 with
      | cons c1 d1 =>
        cases d1 with
        | cons e1 f1 => cases c1; cases e1; cases f1; exact ⟨_, rfl, a1⟩
  · refine q ys p (fun Z sz rz => ?_) hp
    have hkz : ∀ p v, Rep X.K Z (prD p) v → k v = p := fun p v r => hk p v (Rep.mono sz r)
    obtain ⟨m1, m2⟩ := reps_mem rz hkz
    have e : ys.map k = srtP ps := by
      refine srt_uniq ?_ (List.pairwise_map.mpr h1) (srtP_srt ps)
      exact ((h2.perm.map k).trans (by rw [m1])).trans (srtP_perm ps).symm
    rw [← e]
    exact reps_of fun y hy => m2 y (h2.perm.mem_iff.mp hy)
section
variable {X : Cx} {Γ : Gd} {N : List Str} {sc : Scope} {lv : Nat} {vl ll : List Nat} {gl : List Str} {env env' : DEnv} {Φ : Outs} {rest : List Stmt} {tg e a b : Expr} {es : List Expr} {ds : List D} {d : D} {k k1 k2 : Kd} {pos pn np apos cpos : Pos} {s t n : Str} {i j : Int} {x y : D} {p : Bool} {kz : K2}
theorem srtPL_ {ps qs : List (Int × Int)} (bn : Bn X "sorted" (.builtin "sorted")) (ha : Ev X env a (.lst (ps.map prD)) k1) (h : srtG ps = some qs) (he : starEach [a] X.env = [(false, eval a X.env)]) : Ev X env (.Call (.Name "sorted" pn) [a] [] pos) (.lst (qs.map prD)) k1.kid.mk := by
  cases h
  exact ev_call1 cr_srtP bn ha (fun F B H v Q s r1 q => by
    obtain ⟨a, vs, rfl, e2, r⟩ := r1.lst s
    refine ⟨a, vs, ps, rfl, SqL.of e2, r.reps s, fun ys p hy hp => ?_⟩
    have r2 : repsK X.K F B H k1.kid ((srtP ps).map prD) ys := by
      cases k1 with
      | drt => exact hy H (.refl _) r
      | brw => exact hy B s.bh r
      | own => exact hy F s.fh r
      | cln => exact hy F s.fh r
      | shl => exact hy F s.fh r
    exact new_lst (kid_cases _) s r2 (fun w H2 F2 B2 g2 r2 => q w H2 F2 B2 g2 (by rw [mk_eq (kid_cases _)] at r2; exact r2)) p hp) he
theorem itzL_ok {α β : Type} {f : α → D} {g : β → D} {xs : List α} {ys : List β} {K : PySem.W.Frag} {P F B : Hp} {l1 l2 : Addr} {vs us : List V} {k : K2} (h1 : P l1 = some (.lst vs)) (h2 : P l2 = some (.lst us)) (r1 : repsK K F B P k.k (xs.map f) vs) (r2 : repsK K F B P k.k (ys.map g) us) : ItOk K P F B (Itz K l1 l2) k ((List.zip xs ys).map fun x => .tup [f x.1, g x.2]) := by
  have at_ : ∀ (i : Nat) d, ((List.zip xs ys).map fun x => D.tup [f x.1, g x.2])[i]? = some d → ∃ x y, (xs.map f)[i]? = some (f x) ∧ (ys.map g)[i]? = some (g y) ∧ d = .tup [f x, g y] := fun i d e => by
    rw [List.getElem?_map] at e
    cases q : (List.zip xs ys)[i]? with
    | none => rw [q] at e; cases e
    | some x =>
      rw [q] at e; cases e
      rw [List.getElem?_zip_eq_some] at q
      exact ⟨x.1, x.2, by rw [List.getElem?_map, q.1]; rfl, by rw [List.getElem?_map, q.2]; rfl, rfl⟩
  refine ⟨fun i d H s e => ?_, fun i d H x H' s e y => .inr ?_, fun H s => ⟨vs, us, SqL.of (s _ _ h1), SqL.of (s _ _ h2), by rw [r1.len, r2.len, List.length_map, List.length_map, List.length_map, List.length_zip]; omega⟩⟩
  · obtain ⟨x, y, e1, e2, _⟩ := at_ i d e
    obtain ⟨u, c1, _⟩ := repsK.get (by cases k <;> simp) r1 e1
    obtain ⟨w, c2, _⟩ := repsK.get (by cases k <;> simp) r2 e2
    exact ⟨vs, us, u, w, SqL.of (s _ _ h1), SqL.of (s _ _ h2), c1, c2⟩
  · obtain ⟨x0, y0, e1, e2, e3⟩ := at_ i d e
    obtain ⟨u, c1, q1⟩ := repsK.get (by cases k <;> simp) r1 e1
    obtain ⟨w, c2, q2⟩ := repsK.get (by cases k <;> simp) r2 e2
    obtain ⟨T, a1, a2, z1, z2, z3, z4, z5⟩ := y
    have m1 := z4 vs (SqL.of (s _ _ h1))
    have m2 := z5 us (SqL.of (s _ _ h2))
    rw [c1] at m1; cases m1
    rw [c2] at m2; cases m2
    refine ⟨T, [u, w], [f x0, g y0], z2, z3, z1, e3, ?_⟩
    cases k with
    | c => exact .cons q1 (.cons q2 .nil)
    | b => exact .cons q1 (.cons q2 .nil)
theorem zipLC_ {α β : Type} {f : α → D} {g : β → D} {xs : List α} {ys : List β} {elts : List Expr} {kk : Nat} {tpos : Pos} (hg : Gl X "zip") (hm : X.mg "zip" = none) (ha : Ev X env a (.lst (xs.map f)) .cln) (hb : Ev X env b (.lst (ys.map g)) .cln) (hs : starEach [a, b] X.env = (false, eval a X.env) :: starEach [b] X.env) (hs2 : starEach [b] X.env = (false, eval b X.env) :: starEach [] X.env) :
    EI X env (.Tuple elts kk tpos) (.Call (.Name "zip" pn) [a, b] [] pos) ((List.zip xs ys).map fun x => .tup [f x.1, g x.2]) .c true :=
  ⟨(pi_zipA hg hm (pa_cons ha.pe (pa_cons hb.pe pa_nil hs2) hs) hs (by rw [hs2]; rfl)).mono fun σ H R ⟨F, B, E, q⟩ => ⟨F, B, E, fun v H1 F1 B1 g r => ⟨F1, B1, E.grow g, fun u H2 F2 B2 g2 r2 => by
    cases (show Rep X.K F1 (.lst (xs.map f)) v from r) with
    | lst s1 t1 =>
      cases (show Rep X.K F2 (.lst (ys.map _)) u from r2) with
      | lst s2 t2 =>
        have s1' := g2.f _ _ s1
        have t1' := Reps.mono g2.f t1
        have g := g.trans g2
        exact ⟨_, _, _, _, rfl, .inl ⟨SqL.of (g.hs.fh _ _ s1'), SqL.of (g.hs.fh _ _ s2), q _ H2 F2 B2 g (itzL_ok (g.hs.fb _ _ s1') (g.hs.fb _ _ s2) t1' t2)⟩⟩⟩⟩⟩
theorem zipLB_ {α β : Type} {f : α → D} {g : β → D} {xs : List α} {ys : List β} {elts : List Expr} {kk : Nat} {tpos : Pos} (hg : Gl X "zip") (hm : X.mg "zip" = none) (ha : Ev X env a (.lst (xs.map f)) .brw) (hb : Ev X env b (.lst (ys.map g)) .brw) (hs : starEach [a, b] X.env = (false, eval a X.env) :: starEach [b] X.env) (hs2 : starEach [b] X.env = (false, eval b X.env) :: starEach [] X.env) :
    EI X env (.Tuple elts kk tpos) (.Call (.Name "zip" pn) [a, b] [] pos) ((List.zip xs ys).map fun x => .tup [f x.1, g x.2]) .b true :=
  ⟨(pi_zipA hg hm (pa_cons ha.pe (pa_cons hb.pe pa_nil hs2) hs) hs (by rw [hs2]; rfl)).mono fun σ H R ⟨F, B, E, q⟩ => ⟨F, B, E, fun v H1 F1 B1 g r => ⟨F1, B1, E.grow g, fun u H2 F2 B2 g2 r2 => by
    cases (show Rep X.K B1 (.lst (xs.map f)) v from r) with
    | lst s1 t1 =>
      cases (show Rep X.K B2 (.lst (ys.map _)) u from r2) with
      | lst s2 t2 =>
        have s1' := g2.b _ _ s1
        have t1' := Reps.mono g2.b t1
        have g := g.trans g2
        exact ⟨_, _, _, _, rfl, .inl ⟨SqL.of (g.hs.bh _ _ s1'), SqL.of (g.hs.bh _ _ s2), q _ H2 F2 B2 g (itzL_ok (s1') (s2) t1' t2)⟩⟩⟩⟩⟩
theorem itzT_ok {α β : Type} {f : α → D} {g : β → D} {xs : List α} {ys : List β} {K : PySem.W.Frag} {P F B : Hp} {l1 l2 : Addr} {vs us : List V} {k : K2} (h1 : SqT K P l1 vs) (h2 : SqT K P l2 us) (r1 : repsK K F B P k.k (xs.map f) vs) (r2 : repsK K F B P k.k (ys.map g) us) : ItOk K P F B (ItzT K l1 l2) k ((List.zip xs ys).map fun x => .tup [f x.1, g x.2]) := by
  have at_ : ∀ (i : Nat) d, ((List.zip xs ys).map fun x => D.tup [f x.1, g x.2])[i]? = some d → ∃ x y, (xs.map f)[i]? = some (f x) ∧ (ys.map g)[i]? = some (g y) ∧ d = .tup [f x, g y] := fun i d e => by
    rw [List.getElem?_map] at e
    cases q : (List.zip xs ys)[i]? with
    | none => rw [q] at e; cases e
    | some x =>
      rw [q] at e; cases e
      rw [List.getElem?_zip_eq_some] at q
      exact ⟨x.1, x.2, by rw [List.getElem?_map, q.1]; rfl, by rw [List.getElem?_map, q.2]; rfl, rfl⟩
  refine ⟨fun i d H s e => ?_, fun i d H x H' s e y => .inr ?_, fun H s => ⟨vs, us, Same.seqT s h1, Same.seqT s h2, by rw [r1.len, r2.len, List.length_map, List.length_map, List.length_map, List.length_zip]; omega⟩⟩
  · obtain ⟨x, y, e1, e2, _⟩ := at_ i d e
    obtain ⟨u, c1, _⟩ := repsK.get (by cases k <;> simp) r1 e1
    obtain ⟨w, c2, _⟩ := repsK.get (by cases k <;> simp) r2 e2
    exact ⟨vs, us, u, w, Same.seqT s h1, Same.seqT s h2, c1, c2⟩
  · obtain ⟨x0, y0, e1, e2, e3⟩ := at_ i d e
    obtain ⟨u, c1, q1⟩ := repsK.get (by cases k <;> simp) r1 e1
    obtain ⟨w, c2, q2⟩ := repsK.get (by cases k <;> simp) r2 e2
    obtain ⟨T, a1, a2, z1, z2, z3, z4, z5⟩ := y
    have m1 := z4 vs (Same.seqT s h1)
    have m2 := z5 us (Same.seqT s h2)
    rw [c1] at m1; cases m1
    rw [c2] at m2; cases m2
    refine ⟨T, [u, w], [f x0, g y0], z2, z3, z1, e3, ?_⟩
    cases k with
    | c => exact .cons q1 (.cons q2 .nil)
    | b => exact .cons q1 (.cons q2 .nil)
theorem zipTC_ {α β : Type} {f : α → D} {g : β → D} {xs : List α} {ys : List β} {elts : List Expr} {kk : Nat} {tpos : Pos} (hg : Gl X "zip") (hm : X.mg "zip" = none) (ha : Ev X env a (.tup (xs.map f)) .cln) (hb : Ev X env b (.tup (ys.map g)) .cln) (hs : starEach [a, b] X.env = (false, eval a X.env) :: starEach [b] X.env) (hs2 : starEach [b] X.env = (false, eval b X.env) :: starEach [] X.env) :
    EI X env (.Tuple elts kk tpos) (.Call (.Name "zip" pn) [a, b] [] pos) ((List.zip xs ys).map fun x => .tup [f x.1, g x.2]) .c true :=
  ⟨(pi_zipA hg hm (pa_cons ha.pe (pa_cons hb.pe pa_nil hs2) hs) hs (by rw [hs2]; rfl)).mono fun σ H R ⟨F, B, E, q⟩ => ⟨F, B, E, fun v H1 F1 B1 g r => ⟨F1, B1, E.grow g, fun u H2 F2 B2 g2 r2 => by
    cases (show Rep X.K F1 (.tup (xs.map f)) v from r) with
    | tup s1 t1 =>
      cases (show Rep X.K F2 (.tup (ys.map _)) u from r2) with
      | tup s2 t2 =>
        have s1' := Same.seqT g2.f s1
        have t1' := Reps.mono g2.f t1
        have g := g.trans g2
        exact ⟨_, _, _, _, rfl, .inr ⟨Same.seqT g.hs.fh s1', Same.seqT g.hs.fh s2, q _ H2 F2 B2 g (itzT_ok (Same.seqT g.hs.fb s1') (Same.seqT g.hs.fb s2) t1' t2)⟩⟩⟩⟩⟩
theorem zipTB_ {α β : Type} {f : α → D} {g : β → D} {xs : List α} {ys : List β} {elts : List Expr} {kk : Nat} {tpos : Pos} (hg : Gl X "zip") (hm : X.mg "zip" = none) (ha : Ev X env a (.tup (xs.map f)) .brw) (hb : Ev X env b (.tup (ys.map g)) .brw) (hs : starEach [a, b] X.env = (false, eval a X.env) :: starEach [b] X.env) (hs2 : starEach [b] X.env = (false, eval b X.env) :: starEach [] X.env) :
    EI X env (.Tuple elts kk tpos) (.Call (.Name "zip" pn) [a, b] [] pos) ((List.zip xs ys).map fun x => .tup [f x.1, g x.2]) .b true :=
  ⟨(pi_zipA hg hm (pa_cons ha.pe (pa_cons hb.pe pa_nil hs2) hs) hs (by rw [hs2]; rfl)).mono fun σ H R ⟨F, B, E, q⟩ => ⟨F, B, E, fun v H1 F1 B1 g r => ⟨F1, B1, E.grow g, fun u H2 F2 B2 g2 r2 => by
    cases (show Rep X.K B1 (.tup (xs.map f)) v from r) with
    | tup s1 t1 =>
      cases (show Rep X.K B2 (.tup (ys.map _)) u from r2) with
      | tup s2 t2 =>
        have s1' := Same.seqT g2.b s1
        have t1' := Reps.mono g2.b t1
        have g := g.trans g2
        exact ⟨_, _, _, _, rfl, .inr ⟨Same.seqT g.hs.bh s1', Same.seqT g.hs.bh s2, q _ H2 F2 B2 g (itzT_ok (s1') (s2) t1' t2)⟩⟩⟩⟩⟩
def srtI (xs : List Int) : List Int := xs.mergeSort fun a b => decide (a ≤ b)
theorem srtIL_ {ns : List Int} (bn : Bn X "sorted" (.builtin "sorted")) (ha : Ev X env a (.lst (ns.map D.int)) k1) (he : starEach [a] X.env = [(false, eval a X.env)]) : Ev X env (.Call (.Name "sorted" pn) [a] [] pos) (.lst ((srtI ns).map D.int)) .own := by
  exact ev_call1 cr_sortedI bn ha (fun F B H v Q s r1 q => by
    obtain ⟨a, vs, rfl, e2, r⟩ := r1.lst s
    have ev := reps_ints (r.reps s)
    subst ev
    refine ⟨a, ns, rfl, SqL.of e2, fun ns' p hp hs hn => ?_⟩
    have e : ns' = srtI ns := by
      refine List.Perm.eq_of_pairwise (le := (· ≤ ·)) (fun a b _ _ c1 c2 => Int.le_antisymm c1 c2) hs ?_ (hp.trans (List.mergeSort_perm ..).symm)
      have := List.pairwise_mergeSort (le := fun a b : Int => decide (a ≤ b)) (fun a b c h1 h2 => decide_eq_true (Int.le_trans (of_decide_eq_true h1) (of_decide_eq_true h2))) (fun a b => by
        by_cases h : a ≤ b
        · simp [h]
        · simp [h]; omega) ns
      exact this.imp fun h => of_decide_eq_true h
    subst e
    have rr : ∀ ms : List Int, Reps X.K F (ms.map D.int) (ms.map V.int) := fun ms => by
      induction ms with
      | nil => exact .nil
      | cons m ms ih => exact .cons (.int m) ih
    exact new_lst (kk := .cln) (.inl rfl) s (rr _) (fun w H2 F2 B2 g2 r2 => q w H2 F2 B2 g2 r2) p hn) he
end
section
variable {prog : Program} {w : World} {A : Around} {E : Value → Shared → Prop} {s : Shared}
theorem sliceApplied_rev {sl : Addr} {vl vu vs : Value} {n : Nat} {Q : Int × Int × Nat → Shared → Prop} (hs : s.heap.IsSliceOf sl vl vu vs) (pl : IsPart vl none) (pu : IsPart vu none) (ps : IsPart vs (some (-1)))
    (h : Q (((n : Int) - 1), -1, n) s) : wpAny (model prog w) A (Builtin.Slice.sliceApplied (.ref sl) (pure (n : Int))) Q E s := by
  obtain ⟨os, hos, hcs, hds⟩ := id hs
  unfold Builtin.Slice.sliceApplied Builtin.Slice.sliceFields
  refine wpAny_bind (wpAny_bind (wpAny_field hos hds (x := vl) rfl (wpAny_bind (wpAny_field hos hds (x := vu) rfl (wpAny_bind (wpAny_field hos hds (x := vs) rfl (wpAny_pure ?_)))))))
  refine wpAny_bind (HT.slicePart_ ps ?_)
  show wpAny _ _ (if ((-1 : Int) == 0) = true then _ else _) _ _ s
  rw [if_neg (by decide)]
  refine wpAny_bind (HT.slicePart_ pl (wpAny_bind (HT.slicePart_ pu (wpAny_bind (wpAny_pure ?_)))))
  show wpAny _ _ (match Builtin.Slice.sliceAdjust none none (-1) (n : Int) with | (lo, hi) => pure (lo, (-1 : Int), Builtin.Slice.slicePlaces lo hi (-1))) _ _ s
  rw [show Builtin.Slice.sliceAdjust none none (-1) (n : Int) = ((n : Int) - 1, -1) by
    unfold Builtin.Slice.sliceAdjust
    simp]
  show wpAny _ _ (pure (((n : Int) - 1), (-1 : Int), Builtin.Slice.slicePlaces ((n : Int) - 1) (-1) (-1))) _ _ s
  rw [show Builtin.Slice.slicePlaces ((n : Int) - 1) (-1) (-1) = n by
    unfold Builtin.Slice.slicePlaces
    simp
    omega]
  exact wpAny_pure h
theorem pick_rev (xs : Array Value) : ((List.range xs.size).filterMap fun (m : Nat) => xs[((xs.size : Int) - 1 + (m : Int) * -1).toNat]?) = xs.toList.reverse := by
  apply List.ext_getElem?
  intro i
  have e : ((List.range xs.size).filterMap fun (m : Nat) => xs[((xs.size : Int) - 1 + (m : Int) * -1).toNat]?) = (List.range xs.size).map fun m => xs.getD (xs.size - 1 - m) .none := by
    have : ∀ l : List Nat, (∀ m ∈ l, m < xs.size) → (l.filterMap fun (m : Nat) => xs[((xs.size : Int) - 1 + (m : Int) * -1).toNat]?) = l.map fun m => xs.getD (xs.size - 1 - m) .none := by
      intro l
      induction l with
      | nil => intro _; rfl
      | cons m l ih =>
        intro h
        have hm := h m (List.mem_cons_self ..)
        have e1 : ((xs.size : Int) - 1 + (m : Int) * -1).toNat = xs.size - 1 - m := by omega
        rw [List.filterMap_cons, e1, Array.getElem?_eq_getElem (by omega), List.map_cons, ih fun z hz => h z (List.mem_cons_of_mem _ hz)]
        show _ :: _ = _
        rw [Array.getD_eq_getD_getElem?, Array.getElem?_eq_getElem (by omega)]; rfl
    exact this _ fun m hm => List.mem_range.mp hm
  rw [e, List.getElem?_map]
  by_cases hi : i < xs.size
  · rw [List.getElem?_range hi, List.getElem?_reverse (by simpa using hi)]
    show some (xs.getD (xs.size - 1 - i) .none) = _
    rw [Array.getD_eq_getD_getElem?, Array.getElem?_eq_getElem (by omega), Array.length_toList, List.getElem?_eq_getElem (by rw [Array.length_toList]; omega)]
    simp
  · rw [List.getElem?_eq_none (by rw [List.length_range]; omega), List.getElem?_eq_none (by rw [List.length_reverse, Array.length_toList]; omega)]; rfl
theorem getItem_tuple_rev {t sl : Addr} {items : Array Value} {vl vu vs : Value} {Q : Value → Shared → Prop} (ht : IsTup s.heap t items) (hs : s.heap.IsSliceOf sl vl vu vs) (pl : IsPart vl none) (pu : IsPart vu none) (ps : IsPart vs (some (-1)))
    (h : Q (.ref s.heap.objs.size) { s with heap := s.heap.push { cls := .type "tuple", data := .seq items.toList.reverse.toArray } })
    (hsz : items.size ≤ sizeLine) : wpAny (model prog w) A (getItem (.ref t) (.ref sl)) Q E s := by
  have htake : sizeOk (.seq items.toList.reverse.toArray) := by
    show items.toList.reverse.toArray.size ≤ sizeLine
    rw [List.size_toArray, List.length_reverse, Array.length_toList]
    omega
  obtain ⟨os, hos, hcs, hds⟩ := id hs
  have hTs : s.TypeIs (.ref sl) "slice" := ⟨os, hos, hcs⟩
  unfold getItem
  try with_reducible refine wpAny_holding ?_
  first | refine wpAny_bind (wpAny_pure ?_) | skip
  refine wpAny_bind (wpAny_sequenceKey ht.typeIs (by decide) ?_)
  refine wpAny_bind (wpAny_callSpecial?_slot (name := Str.ofString "__getitem__") ht.typeIs PyProof.Rows.slot_tuple_getitem
    (wpAny_call_entry PyProof.Rows.slot_tuple_getitem ht.typeIs entry_tuple_getitem ?_ (args_tuple_getitem _ _)))
  show wpAny _ _ (Builtin.Tuple.tupleItemsOf (.ref t) >>= _) _ _ s
  refine wpAny_bind (tupleItemsOf_ ht ?_)
  refine wpAny_bind (wpAny_typeOf hTs ?_)
  rw [if_pos (by decide)]
  refine wpAny_bind (sliceApplied_rev hs pl pu ps ?_)
  show wpAny _ _ (if ((((items.size : Int) - 1) == 0) && (-1 : Int) == 1 && (items.size == items.size)) = true then _ else _) _ _ s
  rw [if_neg (by simp), pick_rev]
  first
    | exact wpAny_bind (m := Builtin.Tuple.tupleExact _) (wpAny_newObj_type (wpAny_pure ⟨_, rfl, wpAny_pure h⟩) htake)
    | exact wpAny_bind (m := Builtin.Tuple.tupleExact _) (wpAny_newObj_type (wpAny_bind (wpAny_pure (wpAny_pure ⟨_, rfl, wpAny_pure h⟩))) htake)
    | exact wpAny_bind (wpAny_bind (m := Builtin.Tuple.tupleExact _) (wpAny_newObj_type (wpAny_pure (wpAny_pure ⟨_, rfl, wpAny_pure h⟩)) htake))
    | exact wpAny_bind (wpAny_bind (m := Builtin.Tuple.tupleExact _) (wpAny_newObj_type (wpAny_pure ⟨_, rfl, wpAny_pure h⟩) htake))
end
def tRevT (K : PySem.W.Frag) (te : TE) : TE := fun σ H Q => te σ H fun x H1 => ∃ a xs, x = .ref a ∧ SqT K H1 a xs ∧ ∀ p, H1 p = none → Q (.ref p) (upd H1 p (.tup xs.reverse))
theorem pe_revT {X : Cx} {e : Expr} {te : TE} {k : Nat} {p1 p2 p3 pos : Pos} (he : PE X e te) : PE X (.Subscript e (.Slice none none (some (.UnaryOp .USub (.Constant (.int 1) k p1) p2)) p3) pos) (tRevT X.K te) := by
  refine ⟨fun pins s σ H Q I h => ?_⟩
  refine Subscript_ (thn (he.run pins s σ H _ I h) fun v s1 ⟨x, H1, I1, r1, q1⟩ => ?_)
  obtain ⟨a, xs, ex, hx, q⟩ := q1
  subst ex
  cases r1
  have hst : PO X (some (.UnaryOp .USub (.Constant (.int 1) k p1) p2)) (tPart (tUn (rU fun i => .int (-i)) (tC (.int 1)))) := po_some (pe_un un_neg pe_int)
  refine wpAny_Slice (thn (po_none.run pins s1 σ H1 (fun o H2 => o = none ∧ H2 = H1) I1 ⟨rfl, rfl⟩) fun vl s2 ⟨l, H2, I2, pl, el, e2⟩ => ?_)
  subst el e2
  refine thn (po_none.run pins s2 σ H2 (fun o H3 => o = none ∧ H3 = H2) I2 ⟨rfl, rfl⟩) fun vu s3 ⟨u, H3, I3, pu, eu, e3⟩ => ?_
  subst eu e3
  refine thn (hst.run pins s3 σ H3 (fun o H4 => o = some (-1) ∧ H4 = H3) I3 ⟨1, rfl, -1, rfl, rfl, rfl⟩) fun vs s4 ⟨o, H4, I4, ps, eo, e4⟩ => ?_
  subst eo e4
  have I5 : Inv X pins σ H4 { s4 with heap := s4.heap.push { cls := .type "slice", data := .fields #[vl, vu, vs] } } := I4.kept (t' := s4.toks) fun b ob q => Heap.get?_push_of_some _ q
  obtain ⟨its, r, ht, hz⟩ := I5.tuple hx
  have hlen := r.length
  show wpAny (model X.prog X.w) X.A (subscriptTail e (.Slice none none (some (.UnaryOp .USub (.Constant (.int 1) k p1) p2)) p3) (.ref a) (.ref s4.heap.objs.size)) (EP X pins σ Q) X.xe { s4 with heap := s4.heap.push { cls := .type "slice", data := .fields #[vl, vu, vs] } }
  refine tail_any (ops := [.ref a, .ref s4.heap.objs.size]) ht.typeIs PyProof.Rows.slot_tuple_getitem.lookup ?_ (by with_unfolding_all rfl)
  refine getItem_tuple_rev ht (Heap.IsSliceOf.new _ vl vu vs) pl pu ps ?_ (by rw [List.size_toArray]; omega)
  refine ⟨.ref _, _, I5.laid (t' := s4.toks) (o := .tup xs.reverse) (fun b ob q => Heap.get?_push_of_some _ q) (Nat.le_refl _) ?_, rfl, q _ (I5.hok.fresh (Nat.le_refl _))⟩
  have rv : ∀ {xs : List V} {us : List Value}, Vals xs us → Vals xs.reverse us.reverse := fun {xs us} r => by
    induction r with
    | nil => exact .nil
    | cons a t ih => rw [List.reverse_cons, List.reverse_cons]; exact Vals.append ih (.cons a .nil)
  exact ⟨by rw [List.length_reverse]; exact hz, _, rv r, IsTup.new _ _⟩
section
variable {X : Cx} {env : DEnv} {a : Expr} {k1 : Kd} {pos : Pos}
theorem revT_ {α : Type} {f : α → D} {xs : List α} {kk : Nat} {p1 p2 p3 : Pos} (ha : Ev X env a (.tup (xs.map f)) k1) : Ev X env (.Subscript a (.Slice none none (some (.UnaryOp .USub (.Constant (.int 1) kk p1) p2)) p3) pos) (.tup (xs.reverse.map f)) k1.kid := by
  rw [List.map_reverse]
  refine ⟨(pe_revT ha.st.pe).mono fun σ H Q ⟨F, B, E, q⟩ => ⟨F, B, E, fun v H1 F1 B1 g r1 => ?_⟩⟩
  obtain ⟨a, vs, e1, e2, r⟩ := RepS.tup g.hs (RepK.any0 r1)
  refine ⟨a, vs, e1, e2, new_tup (kid_cases _) g.hs (?_ : repsK _ _ _ _ k1.kid (xs.map f).reverse _) fun w H2 F2 B2 g2 r2 => q w H2 F2 B2 (g.trans g2) (RepK.back g.h r2)⟩
  cases k1 <;> exact Reps.reverse r
end
end DL
namespace DL
open PySem PySem.Spec L2
open PyProof.Rows hiding St
section
variable {X : Cx} {Γ : Gd} {N : List Str} {sc : Scope} {lv lc : Nat} {vl ll : List Nat} {gl : List Str} {env env' : DEnv} {e : Expr} {es : List Expr} {ds zs dds : List D} {d : D} {ka kb kk k1 k2 : Kd} {pos p kpos : Pos} {n : Str} {R : Rel} {kws : List Keyword} {nm : Option Str}
theorem Cal.ev0 (C : Cal Γ n R lc dds) (A : At X Γ N sc lv) (S : Sc N sc vl ll gl) (j : Nat) (hg : gl[j]? = some n) (hl : lc ≤ lv) (hkr : kk = .own ∨ kk = .cln ∨ kk = .brw) (hR : R dds d kk) : Ev X env (.Call (.Name n p) [] [] pos) d (retK .cln kk) := by
  obtain ⟨f, fd, ps, dvs, dus, h1, h2, h3, h4, h5, h6⟩ := C.ex
  have eP := A.eP; have eW := A.eW; have eK := A.eK; have eM := A.eM; have eB := A.eB
  rw [← eP, ← eW, ← eK, ← eM, ← eB] at h1
  rw [← eM] at h2
  rw [← eK] at h3 h4 h6
  exact ev_call0 h1 (A.room.mono hl) (glo A S j hg) h2 h3 h4 h5 h6 hR hkr (plainB_ok (S.glo hg).2).1
structure EK (X : Cx) (env : DEnv) (kws : List Keyword) (ds : List D) (k : Kd) : Prop where
  pk : PK X kws (tEA X.K env ds k)
theorem _root_.L2.PK.mono {X : Cx} {e : List Keyword} {t t' : TA} (h : PK X e t) (m : ∀ σ H Q, t' σ H Q → t σ H Q) : PK X e t' := ⟨fun pos pins s σ H Q I q => h.run pos pins s σ H Q I (m σ H Q q)⟩
theorem ek_nil : EK X env [] [] .cln := ⟨pk_nil.mono fun σ H Q ⟨F, B, E, q⟩ => q [] H F B (.refl E.hs) .nil⟩
theorem ek_cons (ha : Ev X env e d k1) (hr : EK X env kws ds k2) (h2 : k2 = .cln ∨ k2 = .brw ∨ k2 = .drt) : EK X env (⟨nm, e, kpos⟩ :: kws) (d :: ds) ((heldOf k1 d).join k2) :=
  ⟨(pk_cons ha.heldOf.pe hr.pk).mono fun σ H Q ⟨F, B, E, q⟩ => ⟨F, B, E, fun v H1 F1 B1 g1 r1 => ⟨F1, B1, E.grow g1, fun vs H2 F2 B2 g2 r2 => by
    have h1 := held_cases k1 d
    refine q _ _ _ _ (g1.trans g2) (repsK_cons (join_cases _ _) (repsK.up g2.hs h1 h2 (repsK.grow g2 (repK_one h1 r1))) ?_)
    rw [join_comm]
    exact repsK.up g2.hs h2 h1 r2⟩⟩⟩
theorem ek_consH (ha : Ev X env e d k1) (hr : EK X env kws ds k2) (h2 : k2 = .cln ∨ k2 = .brw ∨ k2 = .drt) : EK X env (⟨nm, e, kpos⟩ :: kws) (d :: ds) (k1.held.join k2) :=
  ⟨(pk_cons ha.held.pe hr.pk).mono fun σ H Q ⟨F, B, E, q⟩ => ⟨F, B, E, fun v H1 F1 B1 g1 r1 => ⟨F1, B1, E.grow g1, fun vs H2 F2 B2 g2 r2 => by
    have h1 : k1.held = .cln ∨ k1.held = .brw ∨ k1.held = .drt := by cases k1 <;> simp [Kd.held]
    refine q _ _ _ _ (g1.trans g2) (repsK_cons (join_cases _ _) (repsK.up g2.hs h1 h2 (repsK.grow g2 (repK_one h1 r1))) ?_)
    rw [join_comm]
    exact repsK.up g2.hs h2 h1 r2⟩⟩⟩
structure CalK (Γ : Gd) (n : Str) (R : Rel) (lc np : Nat) (ks : List Str) (ord : List D → List D → List D) : Prop where
  ex : ∃ f fd ps g gV, FnOk Γ.P Γ.w Γ.K Γ.mg Γ.base CX0 lc f fd ps (FnSp Γ.K R) ∧ Γ.mg n = some (.ref f) ∧ PySem.W.keepIn Γ.K (.ref f) = true ∧ KBn Γ.K fd ps np ks g gV ∧
    ∀ (B : Hp) ds zs vs us, ds.length = np → zs.length = ks.length → Reps Γ.K B ds vs → Reps Γ.K B zs us → Reps Γ.K B (ord ds zs) (gV vs us)
theorem reps_ord {K : PySem.W.Frag} {F B H : Hp} {vs us : List V} {ord : List D → List D → List D} {gV : List V → List V → List V} {k : Kd} (hs : Hs F B H) (h : ∀ (B : Hp), Reps K B ds vs → Reps K B zs us → Reps K B (ord ds zs) (gV vs us)) (r1 : repsK K F B H k ds vs) (r2 : repsK K F B H k zs us) : repsK K F B H k (ord ds zs) (gV vs us) := by
  cases k with
  | drt => exact h H r1 r2
  | brw => exact h B r1 r2
  | own => exact h F r1 r2
  | cln => exact h F r1 r2
  | shl => exact h F r1 r2
theorem CalK.ev {np : Nat} {ks : List Str} {ord : List D → List D → List D} (C : CalK Γ n R lc np ks ord) (A : At X Γ N sc lv) (S : Sc N sc vl ll gl) (j : Nat) (hg : gl[j]? = some n) (hl : lc ≤ lv) (ha : EA X env (e :: es) ds ka) (hk : ka = .cln ∨ ka = .brw ∨ ka = .drt) (hz : EK X env kws zs kb) (hk2 : kb = .cln ∨ kb = .brw ∨ kb = .drt) (hkr : kk = .own ∨ kk = .cln ∨ kk = .brw)
    (l1 : ds.length = np) (l2 : zs.length = ks.length) (hall : (backToKw pos (keywordEach kws X.env)).all (·.1.isSome) = true) (hks : (backToKw pos (keywordEach kws X.env)).filterMap (·.1) = ks) (he : starEach (e :: es) X.env = (false, eval e X.env) :: starEach es X.env)
    (hpl : ((backTo pos (starEach (e :: es) X.env)).any (·.1) || (backToKw pos (keywordEach kws X.env)).any (·.1.isNone)) = false) (hR : R (ord ds zs) d kk) : Ev X env (.Call (.Name n p) (e :: es) kws pos) d (retK (ka.join kb) kk) := by
  obtain ⟨f, fd, ps, g, gV, h1, h2, h3, h4, h5⟩ := C.ex
  have eP := A.eP; have eW := A.eW; have eK := A.eK; have eM := A.eM; have eB := A.eB
  rw [← eP, ← eW, ← eK, ← eM, ← eB] at h1
  rw [← eM] at h2
  rw [← eK] at h3 h4 h5
  refine ⟨(pe_callN h1 (A.room.mono hl) (glo A S j hg) h2 h3 h4 pass0 ha.pa hz.pk hall hks (plainB_ok (S.glo hg).2).1 he hpl).mono fun σ H Q ⟨F, B, E, q⟩ => ⟨F, B, E, fun vs H1 F1 B1 g1 r1 => ⟨F1, B1, E.grow g1, fun us H2 F2 B2 g2 r2 => ?_⟩⟩⟩
  have r1' := repsK.grow g2 r1
  refine ⟨by rw [r1'.len, l1], by rw [r2.len, l2], call_rel g2.hs (join_cases _ _) hkr (reps_ord g2.hs (fun B q1 q2 => h5 B _ _ _ _ l1 l2 q1 q2) (repsK.up g2.hs hk hk2 r1') (by rw [join_comm]; exact repsK.up g2.hs hk2 hk r2)) hR fun w H3 F3 B3 g3 r3 => ?_⟩
  exact q w H3 F3 B3 ((g1.trans g2).trans g3) (RepK.back (g1.trans g2).h r3)
theorem CalK.ev0 {ks : List Str} {ord : List D → List D → List D} (C : CalK Γ n R lc 0 ks ord) (A : At X Γ N sc lv) (S : Sc N sc vl ll gl) (j : Nat) (hg : gl[j]? = some n) (hl : lc ≤ lv) (hz : EK X env kws zs kb) (hk2 : kb = .cln ∨ kb = .brw ∨ kb = .drt) (hkr : kk = .own ∨ kk = .cln ∨ kk = .brw)
    (l2 : zs.length = ks.length) (hall : (backToKw pos (keywordEach kws X.env)).all (·.1.isSome) = true) (hks : (backToKw pos (keywordEach kws X.env)).filterMap (·.1) = ks)
    (hpl : ((backTo pos (starEach [] X.env)).any (·.1) || (backToKw pos (keywordEach kws X.env)).any (·.1.isNone)) = false) (hR : R (ord [] zs) d kk) : Ev X env (.Call (.Name n p) [] kws pos) d (retK kb kk) := by
  obtain ⟨f, fd, ps, g, gV, h1, h2, h3, h4, h5⟩ := C.ex
  have eP := A.eP; have eW := A.eW; have eK := A.eK; have eM := A.eM; have eB := A.eB
  rw [← eP, ← eW, ← eK, ← eM, ← eB] at h1
  rw [← eM] at h2
  rw [← eK] at h3 h4 h5
  have hdb := (plainB_ok (S.glo hg).2).1
  have hgl := glo A S j hg
  have hr := A.room.mono hl
  refine ⟨PE.mono (t := fun σ H Q => tEA X.K env zs kb σ H fun us H2 => us.length = ks.length ∧ FnSp X.K R (gV [] us) H2 Q E0) ⟨fun pins s σ H Q I h => ?_⟩ fun σ H Q ⟨F, B, E, q⟩ => ⟨F, B, E, fun us H2 F2 B2 g2 r2 => ?_⟩⟩
  · refine wpAny_Call_Name_kw (ld_glob I hgl h2 ?_ hdb)
    refine PySem.W.callWith_KW0 (h₀ := X.base) I.ok.mod.kin h3 hall (thn (hz.pk.run pos pins s σ H _ I h) fun ws s2 ⟨zs, H2, I2, rz, l2, q2⟩ => ⟨I2.kIn, ?_⟩) hpl
    rw [hks]
    exact run_fnN (us := []) (vs := []) h1 hr h4 pass0 I2 .nil rz rfl l2 q2
  · have nk : ∀ {k : Kd}, repsK X.K F2 B2 H2 k [] [] := fun {k} => by cases k <;> exact .nil
    refine ⟨by rw [r2.len, l2], call_rel g2.hs hk2 hkr (reps_ord (ds := []) (vs := []) g2.hs (fun B q1 q2 => h5 B _ _ _ _ rfl l2 q1 q2) nk r2) hR fun w H3 F3 B3 g3 r3 => ?_⟩
    exact q w H3 F3 B3 (g2.trans g3) (RepK.back g2.h r3)
end
end DL
namespace PySem
open Sem (wp)
open AutoSeq1 (wpAny_loadPart')
theorem dl_meets_enumT (l : Addr) (items : Array Value) (n : Nat) (dct : Option Addr) (sl : Array (Option Value)) :
    Meets (Builtin.«enumerate.__new__» ⟨[.type "enumerate", .ref l], []⟩) (fun _ R s => s.heap.get? l = some { cls := .type "tuple", dict := dct, data := .seq items n, slots := sl } ∧
      R (.ok (.ret (.ref (s.heap.push { cls := .type "tuple_iterator", data := .fields #[.ref l, .int 0 0] }).objs.size)))
        { s with heap := (s.heap.push { cls := .type "tuple_iterator", data := .fields #[.ref l, .int 0 0] }).push { cls := .type "enumerate", data := .fields #[.none, .bool false, .ref s.heap.objs.size, rawInt 0, .none, .none] } }) :=
  .of_wp fun prog w A R s h => by
    obtain ⟨hp, g, d, tk, os⟩ := s; obtain ⟨hl, h⟩ := h
    have hsub := sub_enumerate
    have hL : Heap.IsTuple (Shared.heap ⟨hp, g, d, tk, os⟩) l items := ⟨_, hl, rfl, n, rfl⟩
    wp_walk using wpAny_loadPart' hl
    refine wpAny_stack_any fun st => wpAny_pure ?_
    split
    · rename_i c _ _ _ _ _
      cases (c == Value.type "enumerate")
      · wp_walk using wpAny_loadPart' hl, wpAny_pyIter_tuple hL
        exact ⟨_, rfl, h⟩
      · wp_walk using wpAny_loadPart' hl, wpAny_pyIter_tuple hL
        exact ⟨_, rfl, h⟩
    · wp_walk using wpAny_loadPart' hl, wpAny_pyIter_tuple hL
      exact ⟨_, rfl, h⟩
section
variable {prog : Program} {w : World} {A : Around} {E : Value → Shared → Prop} {s : Shared}
theorem dl_call_enumT {l : Addr} {items : Array Value} {Q : Value → Shared → Prop} (hL : s.heap.IsTuple l items)
    (h : ∀ h', IsEnum h' (s.heap.objs.size + 1) s.heap.objs.size 0 .none → h'.IsTupleIter s.heap.objs.size l 0 → h'.objs.size = s.heap.objs.size + 2 →
      (∀ b o, s.heap.get? b = some o → h'.get? b = some o) → Q (.ref (s.heap.objs.size + 1)) { s with heap := h' }) :
    wpAny (model prog w) A (call (.type "enumerate") [.ref l]) Q E s := by
  obtain ⟨⟨c, dct, dt, sl⟩, hl, hc, n, hd⟩ := hL
  replace hc : c = .type "tuple" := hc
  replace hd : dt = .seq items n := hd
  subst hc hd
  refine callType_new F.called_enumerate (by decide) (F.typeCall_enumerate_1 _) (F.newCall_enumerate_1 _) (fun obj => F.args_object_init_2 obj _) F.entry_enumerate_new
    (dl_meets_enumT l items n dct sl) ⟨hl, ?_⟩
  have hz : (s.heap.push { cls := .type "tuple_iterator", data := .fields #[.ref l, .int 0 0] }).objs.size = s.heap.objs.size + 1 := Heap.size_push ..
  show _ ∧ _
  rw [hz]
  have he : IsEnum ((s.heap.push { cls := .type "tuple_iterator", data := .fields #[.ref l, .int 0 0] }).push
      { cls := .type "enumerate", data := .fields #[.none, .bool false, .ref s.heap.objs.size, rawInt 0, .none, .none] }) (s.heap.objs.size + 1) s.heap.objs.size 0 .none := by
    have := Heap.get?_push_size (s.heap.push { cls := .type "tuple_iterator", data := .fields #[.ref l, .int 0 0] })
      (o := { cls := .type "enumerate", data := .fields #[.none, .bool false, .ref s.heap.objs.size, rawInt 0, .none, .none] }) rfl
    rw [hz] at this; exact this
  refine ⟨⟨_, he, rfl⟩, h _ he ⟨_, Heap.get?_push_of_some _ (Heap.get?_push_size _ rfl), rfl, rfl⟩ (by rw [Heap.size_push, hz]) fun b o x => Heap.get?_push_of_some _ (Heap.get?_push_of_some _ x)⟩
theorem dl_enumT_end {e it l : Addr} {i : Nat} {items : Array Value} {old : Value} {Q : Option Value → Shared → Prop} (hh : A.in1.handled = none)
    (he : IsEnum s.heap e it i old) (hit : s.heap.IsTupleIter it l i) (hl : s.heap.IsTuple l items) (hx : items[i]? = none)
    (hQ : ∀ h', Heap.ExtBut it s.heap h' → Q none { s with heap := h' }) : wpAny (model prog w) A (pyNext (.ref e)) Q E s := by
  have hT : s.TypeIs (.ref e) "enumerate" := ⟨_, he, rfl⟩
  unfold pyNext
  refine wpAny_bind (wpAny_attempt (wpAny_callSpecial?_slot (name := Str.ofString "__next__") hT F.slot_enumerate_next
    (wpAny_call_entry F.slot_enumerate_next hT F.entry_enumerate_next ?_ (F.args_enumerate_next_1 _))))
  show wpAny _ _ (field (.ref e) 2 >>= _) _ _ _
  refine wpAny_bind (wpAny_field he rfl (x := .ref it) rfl ?_)
  refine wpAny_bind (wpAny_nextOf_tuple_end hh hit hl hx fun h' x he' hx' => ?_)
  obtain ⟨o, ho, hc⟩ := hx'
  refine wpAny_bind (wpAny_isInstance (T := "StopIteration") (b := true) ⟨o, ho, hc⟩ isSubtype_stop ?_)
  exact wpAny_pure (hQ _ he')
end
end PySem
namespace L2
open PySem PySem.Spec PyProof.Rows
def dlIteT (K : PySem.W.Frag) (a : Addr) : It :=
  ⟨fun i H => ∃ (xs : List V) (x : V), SqT K H a xs ∧ xs[i]? = some x, fun i H v H' => ∃ T x, v = .ref T ∧ H T = none ∧ H' = upd H T (.tup [.int (i : Nat), x]) ∧ ∀ xs, SqT K H a xs → xs[i]? = some x, fun i H => ∃ xs : List V, SqT K H a xs ∧ xs.length ≤ i⟩
theorem dl_turn_enumT {P : Program} {w : World} {K : PySem.W.Frag} {elts : List Expr} {kk : Nat} {tpos : Pos} (a e it : Addr) (ha : a ≠ it) (ha2 : e ≠ a) :
    Turn P w K (.Tuple elts kk tpos) (dlIteT K a) [e, it] e (fun i h => (∃ old, IsEnum h e it ((i : Nat) : Int) old) ∧ h.IsTupleIter it a i ∧ e ≠ it) where
  mem := by simp
  obj := fun i h st b hb => by
    obtain ⟨⟨old, he⟩, ⟨o, ho, hc, hd⟩, _⟩ := st
    have e' : b = e ∨ b = it := by simpa using hb
    rcases e' with z | z
    · rw [z]; exact ⟨_, he, fun v q => nomatch q⟩
    · rw [z]; exact ⟨o, ho, fun v q => by rw [hd] at q; cases q⟩
  keep := fun i h h' st k => let ⟨⟨old, he⟩, ⟨o, ho, r⟩, hne⟩ := st; ⟨⟨old, k e (by simp) _ he⟩, ⟨o, k it (by simp) o ho, r⟩, hne⟩
  item := by
    intro X hP hw hK hc i pins s σ H E I hf st hg
    subst hP hw hK
    obtain ⟨⟨old, he⟩, hit, hne⟩ := st
    obtain ⟨xs, x, hq, hx⟩ := hg
    obtain ⟨its, rv, p, hz⟩ := I.tuple hq
    obtain ⟨u, hu, ru⟩ := rv.get hx
    have hel : e < s.heap.objs.size := Heap.lt_size he
    have hil : it < s.heap.objs.size := by obtain ⟨_, q, _⟩ := hit; exact Heap.lt_size q
    have hi : i < its.toArray.size := by
      rw [List.size_toArray]
      exact (List.getElem?_eq_some_iff.mp hu).1
    refine wpAny_pyNext_enum_itemD (Draws.tuple (prog := X.prog) (w := X.w) (A := X.A.in1) (I.ok.hd hc) it a ha its.toArray) he ⟨hit, p⟩ hi hne (by simp [hne, ha2]) fun y h' tk hP ho hit' hT hsz hk => ?_
    have hy : y = u := by
      have : its.toArray[i]? = some y := hP
      rw [show its.toArray[i]? = its[i]? by simp, hu] at this
      exact (Option.some.inj this).symm
    subst hy
    obtain ⟨hit', _⟩ := hit'
    refine ⟨_, rfl, wpAny_letOwnedTupleGo_enum (s := { s with heap := h', toks := tk + 1 }) ho fun h'' he' sb => ?_⟩
    have hT2 : h''.get? s.heap.objs.size = some { cls := .type "tuple", data := .seq #[.int i tk, y] } := (sb.2 _ (Nat.ne_of_gt hel)).trans hT
    have new : ObjOk X.prog X.w (upd H s.heap.objs.size (.tup [.int (i : Nat), x])) h'' s.heap.objs.size (.tup [.int (i : Nat), x]) :=
      ⟨by show 2 ≤ sizeLine; decide, [.int i tk, y], .cons ⟨_, rfl⟩ (.cons ru .nil), ⟨_, hT2, rfl, _, rfl⟩⟩
    have I1 : Inv X pins σ (upd H s.heap.objs.size (.tup [.int (i : Nat), x])) { s with heap := h'', toks := tk + 1 } :=
      I.turnedNew (ch := [e, it]) (fun b ob hb q => (sb.2 b (fun z => hb (by simp [z]))).trans (hk b ob (fun z => hb (by simp [z])) (fun z => hb (by simp [z])) q)) hf (Nat.le_refl _) new
    refine ⟨.ref s.heap.objs.size, _, I1, rfl, ⟨_, x, rfl, I.hok.fresh (Nat.le_refl _), rfl, fun ys hy => by rw [I.tuple_inj hy hq]; exact hx⟩, ⟨⟨y, ?_⟩, ?_, hne⟩, fun b hb => ?_⟩
    · have e1 : ((i + 1 : Nat) : Int) = (i : Int) + 1 := by omega
      rw [e1]; exact he'
    · obtain ⟨o, ho, r⟩ := hit'
      exact ⟨o, (sb.2 it (Ne.symm hne)).trans ho, r⟩
    · have hb' : b < s.heap.objs.size := by
        have e' : b = e ∨ b = it := by simpa using hb
        rcases e' with z | z
        · rw [z]; exact hel
        · rw [z]; exact hil
      rw [upd_ne (Nat.ne_of_lt hb')]
      exact (hf b hb).1
  done := by
    intro X hP hw hK hc i pins s σ H E I hf st hg
    subst hP hw hK
    obtain ⟨⟨old, he⟩, hit, hne⟩ := st
    obtain ⟨xs, hq, hx⟩ := hg
    obtain ⟨its, rv, p, hz⟩ := I.tuple hq
    obtain ⟨f0, f1, f2, f3, f4, f5⟩ := hf it (by simp)
    have hl := rv.length
    exact dl_enumT_end (I.ok.hd hc) he hit p (by simp; omega) fun h' eb => ⟨rfl, I.turned (t' := s.toks) (fun b o hb q => eb b o hb q) f0 f1 f3 f4 f5⟩
  self := fun A i s Q E st h => let ⟨⟨_, he⟩, _⟩ := st; wpAny_pyIter_enum he h
theorem dl_pi_enumT {X : Cx} {e : Expr} {ta : TA} {p pos tpos : Pos} {elts : List Expr} {kk : Nat} (hg : Gl X "enumerate") (hm : X.mg "enumerate" = none) (ha : PA X [e] ta) (hs : starEach [e] X.env = [(false, eval e X.env)] := by rfl) :
    PI X (.Tuple elts kk tpos) (.Call (.Name "enumerate" p) [e] [] pos) (fun σ H R => ta σ H fun vs H1 => ∃ a xs, vs = [.ref a] ∧ SqT X.K H1 a xs ∧ R (dlIteT X.K a) H1) := by
  refine ⟨fun pins s σ H R I h => ?_⟩
  refine Call_ (ld_blt I hg hm boot_enumerate (PyProof.Rows.callWith_type1 (thn (ha.run pos pins s σ H _ I h) fun us s1 ⟨vs, H1, I1, r1, q1⟩ => ?_) hs rfl))
  obtain ⟨a, xs, ex, hq, q⟩ := q1
  subst ex
  cases r1 with
  | cons r rr =>
    cases rr
    cases r
    obtain ⟨its, rv, p', hz⟩ := I1.tuple hq
    have hla : a < s1.heap.objs.size := by obtain ⟨o, ho, _⟩ := id p'; exact Heap.lt_size ho
    refine dl_call_enumT p' fun h' he hit hsz hk => wpAny_pyIter_enum he ?_
    have I2 : Inv X pins σ H1 { s1 with heap := h' } := I1.kept (t' := s1.toks) hk
    refine ⟨s1.heap.objs.size + 1, [s1.heap.objs.size + 1, s1.heap.objs.size], _, _, H1, rfl, I2, dl_turn_enumT a (s1.heap.objs.size + 1) s1.heap.objs.size (Nat.ne_of_lt hla) (Nat.ne_of_gt (Nat.lt_succ_of_lt hla)), ⟨⟨.none, he⟩, hit, Nat.succ_ne_self _⟩, fun b hb => ?_, q⟩
    have e' : b = s1.heap.objs.size + 1 ∨ b = s1.heap.objs.size := by simpa using hb
    have hle : s1.heap.objs.size ≤ b := by
      rcases e' with z | z
      · rw [z]; exact Nat.le_add_right _ _
      · rw [z]; exact Nat.le_refl _
    exact I1.fpOk hle (I1.hok.fresh hle)
end L2
namespace DL
open PySem PySem.Spec L2
open PyProof.Rows hiding St
section
variable {X : Cx} {env : DEnv} {a : Expr} {pn pos : Pos}
theorem iteT_ok {α : Type} {f : α → D} {xs : List α} {K : PySem.W.Frag} {P F B : Hp} {l : Addr} {vs : List V} {k : K2} (h : SqT K P l vs) (r : repsK K F B P k.k (xs.map f) vs) : ItOk K P F B (dlIteT K l) k ((enumL xs).map fun x => .tup [.int x.1, f x.2]) := by
  have at_ : ∀ (i : Nat) d, ((enumL xs).map fun x => D.tup [.int x.1, f x.2])[i]? = some d → ∃ x, (xs.map f)[i]? = some (f x) ∧ d = .tup [.int (i : Int), f x] := fun i d e => by
    rw [List.getElem?_map, enumL_get] at e
    cases q : xs[i]? with
    | none => rw [q] at e; cases e
    | some x => rw [q] at e; cases e; exact ⟨x, by rw [List.getElem?_map, q]; rfl, rfl⟩
  refine ⟨fun i d H s e => ?_, fun i d H x H' s e y => .inr ?_, fun H s => ⟨vs, Same.seqT s h, by rw [r.len, List.length_map, List.length_map, enumL_len]; exact Nat.le_refl _⟩⟩
  · obtain ⟨x, e1, _⟩ := at_ i d e
    obtain ⟨u, e2, _⟩ := repsK.get (by cases k <;> simp) r e1
    exact ⟨vs, u, Same.seqT s h, e2⟩
  · obtain ⟨x0, e1, e3⟩ := at_ i d e
    obtain ⟨u, e2, r2⟩ := repsK.get (by cases k <;> simp) r e1
    obtain ⟨T, w, z1, z2, z3, z4⟩ := y
    have := z4 vs (Same.seqT s h)
    rw [e2] at this; cases this
    refine ⟨T, [.int (i : Nat), u], [.int (i : Int), f x0], z2, z3, z1, e3, ?_⟩
    cases k with
    | c => exact .cons (.int _) (.cons r2 .nil)
    | b => exact .cons (.int _) (.cons r2 .nil)
theorem enumTC_ {α : Type} {f : α → D} {xs : List α} {elts : List Expr} {kk : Nat} {tpos : Pos} (hg : Gl X "enumerate") (hm : X.mg "enumerate" = none) (ha : Ev X env a (.tup (xs.map f)) .cln) (hs : starEach [a] X.env = [(false, eval a X.env)]) :
    EI X env (.Tuple elts kk tpos) (.Call (.Name "enumerate" pn) [a] [] pos) ((enumL xs).map fun x => .tup [.int x.1, f x.2]) .c true :=
  ⟨(dl_pi_enumT hg hm (pa_cons ha.pe pa_nil hs) hs).mono fun σ H R ⟨F, B, E, q⟩ => ⟨F, B, E, fun v H1 F1 B1 g r => by
    cases (show Rep X.K F1 (.tup (xs.map f)) v from r) with
    | tup s t => exact ⟨_, _, rfl, Same.seqT g.hs.fh s, q _ H1 F1 B1 g (iteT_ok (Same.seqT g.hs.fb s) t)⟩⟩⟩
theorem enumTB_ {α : Type} {f : α → D} {xs : List α} {elts : List Expr} {kk : Nat} {tpos : Pos} (hg : Gl X "enumerate") (hm : X.mg "enumerate" = none) (ha : Ev X env a (.tup (xs.map f)) .brw) (hs : starEach [a] X.env = [(false, eval a X.env)]) :
    EI X env (.Tuple elts kk tpos) (.Call (.Name "enumerate" pn) [a] [] pos) ((enumL xs).map fun x => .tup [.int x.1, f x.2]) .b true :=
  ⟨(dl_pi_enumT hg hm (pa_cons ha.pe pa_nil hs) hs).mono fun σ H R ⟨F, B, E, q⟩ => ⟨F, B, E, fun v H1 F1 B1 g r => by
    cases (show Rep X.K B1 (.tup (xs.map f)) v from r) with
    | tup s t => exact ⟨_, _, rfl, Same.seqT g.hs.bh s, q _ H1 F1 B1 g (iteT_ok s t)⟩⟩⟩
end
end DL
namespace DL
open PySem PySem.Spec L2
open PyProof.Rows hiding St
inductive Src where
  | p (i : Nat) | k (i : Nat) | m (i : Nat) | d (i : Nat)
def pick {α : Type} (us ds mv ws : List α) : List Src → List α
  | [] => []
  | .p i :: r => us[i]?.toList ++ pick us ds mv ws r
  | .k i :: r => ws[i]?.toList ++ pick us ds mv ws r
  | .m i :: r => mv[i]?.toList ++ pick us ds mv ws r
  | .d i :: r => ds[i]?.toList ++ pick us ds mv ws r
theorem vals_at : ∀ {xs : List V} {us : List Value} (i : Nat), Vals xs us → Vals xs[i]?.toList us[i]?.toList
  | _, _, _, .nil => .nil
  | _, _, 0, .cons r _ => .cons r .nil
  | _, _, i + 1, .cons _ t => by rw [List.getElem?_cons_succ, List.getElem?_cons_succ]; exact vals_at i t
theorem reps_at {K : PySem.W.Frag} {B : Hp} : ∀ {xs : List D} {us : List V} (i : Nat), Reps K B xs us → Reps K B xs[i]?.toList us[i]?.toList
  | _, _, _, .nil => .nil
  | _, _, 0, .cons r _ => .cons r .nil
  | _, _, i + 1, .cons _ t => by rw [List.getElem?_cons_succ, List.getElem?_cons_succ]; exact reps_at i t
theorem vals_pick {us ds mv ws : List V} {us' ds' mv' ws' : List Value} (h1 : Vals us us') (h2 : Vals ds ds') (h3 : Vals mv mv') (h4 : Vals ws ws') : ∀ srcs : List Src, Vals (pick us ds mv ws srcs) (pick us' ds' mv' ws' srcs)
  | [] => .nil
  | .p i :: r => Vals.append (vals_at i h1) (vals_pick h1 h2 h3 h4 r)
  | .k i :: r => Vals.append (vals_at i h4) (vals_pick h1 h2 h3 h4 r)
  | .m i :: r => Vals.append (vals_at i h3) (vals_pick h1 h2 h3 h4 r)
  | .d i :: r => Vals.append (vals_at i h2) (vals_pick h1 h2 h3 h4 r)
theorem reps_pick {K : PySem.W.Frag} {B : Hp} {us ds mv ws : List D} {us' ds' mv' ws' : List V} (h1 : Reps K B us us') (h2 : Reps K B ds ds') (h3 : Reps K B mv mv') (h4 : Reps K B ws ws') : ∀ srcs : List Src, Reps K B (pick us ds mv ws srcs) (pick us' ds' mv' ws' srcs)
  | [] => .nil
  | .p i :: r => Reps.append (reps_at i h1) (reps_pick h1 h2 h3 h4 r)
  | .k i :: r => Reps.append (reps_at i h4) (reps_pick h1 h2 h3 h4 r)
  | .m i :: r => Reps.append (reps_at i h3) (reps_pick h1 h2 h3 h4 r)
  | .d i :: r => Reps.append (reps_at i h2) (reps_pick h1 h2 h3 h4 r)
section
variable {P : Program} {w : World} {K : PySem.W.Frag} {mg : Str → Option Value} {base : Heap} {x qual n : Str} {params : Arguments} {body : List Stmt} {scope : Scope} {dvs : List V} {kws : List (Str × V)} {f : Addr} {fd : FuncData} {N ps : List Str} {lv : Nat} {R : Rel} {dds mds : List D}
theorem CalK.of (G : FnOk P w K mg base CX0 (lv + 1) f fd ps (FnSp K R)) (kp : PySem.W.keepIn K (.ref f) = true) (hm : mg n = some (.ref f)) {np : Nat} {ks : List Str} {srcs : List Src} {its mv : List Value} {mz : List V} (hb : KBn K fd ps np ks (fun us ws => pick us its mv ws srcs) (fun vs zs => pick vs dvs mz zs srcs)) (hd : ∀ B : Hp, Reps K B dds dvs) (hz : ∀ B : Hp, Reps K B mds mz) :
    CalK ⟨P, w, K, mg, base⟩ n R (lv + 1) np ks (fun a b => pick a dds mds b srcs) :=
  ⟨f, fd, ps, _, _, G, hm, kp, hb, fun B ds zs vs us _ _ r1 r2 => reps_pick r1 (hd B) (hz B) r2 srcs⟩
theorem kb_n (F : FunD K x qual params body scope [] kws f fd) (np : Nat) (ks : List Str) (srcs : List Src)
    (h : ∀ (kV doc pm : Value) (an : Option Addr) (cdv ct : Value) (us ws : List Value), us.length = np → ws.length = ks.length → bindArgs (PySem.W.fnOf x qual params body scope .none kV doc pm an cdv ct) ⟨us, ks.zip ws⟩ = pure (ps.zip (pick us [] [] ws srcs))) :
    KBn K fd ps np ks (fun us ws => pick us [] [] ws srcs) (fun vs zs => pick vs [] [] zs srcs) := by
  obtain ⟨oc, od, dV, kV, doc, pm, an, cdv, ct, osl, rfl, lk, hcd, hD, hK⟩ := F.ex
  rcases hD with ⟨_, rfl⟩ | ⟨e, _⟩
  · exact ⟨fun s us ws X l1 l2 => BindsTo.of_eq (h kV doc pm an cdv ct us ws l1 l2), fun r1 r2 => vals_pick r1 .nil .nil r2 srcs⟩
  · exact absurd rfl e
theorem kb_0 (F : FunD K x qual params body scope [] kws f fd) (np : Nat) (ks : List Str) (ms : List (Str × V)) (srcs : List Src) (hk : kws ≠ []) (hms : ∀ q ∈ ms, q ∈ kws)
    (h : ∀ (D : Addr) (doc pm : Value) (an : Option Addr) (cdv ct : Value) (us mv ws : List Value), us.length = np → mv.length = ms.length → ws.length = ks.length →
      KwChain D ((ms.map (·.1)).zip mv) (bindArgs (PySem.W.fnOf x qual params body scope .none (.ref D) doc pm an cdv ct) ⟨us, ks.zip ws⟩) (ps.zip (pick us [] mv ws srcs))) :
    ∃ mv : List Value, KBn K fd ps np ks (fun us ws => pick us [] mv ws srcs) (fun vs zs => pick vs [] (ms.map (·.2)) zs srcs) := by
  obtain ⟨oc, od, dV, kV, doc, pm, an, cdv, ct, osl, rfl, lk, hcd, hD, hK⟩ := F.ex
  rcases hD with ⟨_, rfl⟩ | ⟨e, _⟩
  · rcases hK with e | ⟨D, rfl, hq⟩
    · exact absurd e hk
    · obtain ⟨mv, hl, rk, hks⟩ := kwd_vals (ms := ms) fun q hm => hq q (hms q hm)
      exact ⟨mv, ⟨fun s us ws X l1 l2 => BindsTo.of_looks fun M => KwChain.looks X hks (h D doc pm an cdv ct us mv ws l1 hl l2), fun r1 r2 => vals_pick r1 .nil rk r2 srcs⟩⟩
  · exact absurd rfl e
theorem kb_d (F : FunD K x qual params body scope dvs kws f fd) (np : Nat) (ks : List Str) (srcs : List Src) (hd : dvs ≠ [])
    (h : ∀ (T : Addr) (kV doc pm : Value) (an : Option Addr) (cdv ct : Value) (us its ws : List Value), us.length = np → its.length = dvs.length → ws.length = ks.length →
      ∃ k, bindArgs (PySem.W.fnOf x qual params body scope (.ref T) kV doc pm an cdv ct) ⟨us, ks.zip ws⟩ = seqItems? (.ref T) >>= k ∧ k (some its.toArray) = pure (ps.zip (pick us its [] ws srcs))) :
    ∃ its : List Value, KBn K fd ps np ks (fun us ws => pick us its [] ws srcs) (fun vs zs => pick vs dvs [] zs srcs) := by
  obtain ⟨oc, od, dV, kV, doc, pm, an, cdv, ct, osl, rfl, lk, hcd, hD, hK⟩ := F.ex
  rcases hD with ⟨e, _⟩ | ⟨_, T, o, its, m, rfl, lT, oT, rT⟩
  · exact absurd e hd
  · refine ⟨its, ⟨fun s us ws X l1 l2 => ?_, fun r1 r2 => vals_pick r1 rT .nil r2 srcs⟩⟩
    obtain ⟨k, e1, e2⟩ := h T kV doc pm an cdv ct us its ws l1 rT.length.symm l2
    refine BindsTo.of_looks fun M => ?_
    rw [e1]
    exact looks_items X lT oT (.of_pure e2)
theorem Cal.absurd (Fd : FunD K x qual params body scope dvs kws f fd) (hm : mg n = some (.ref f)) {dus : List Value} (bd : Binds K fd ps dus) {dv2 : List V} (hv : Vals dv2 dus) (hd : ∀ B : Hp, Reps K B dds dv2) (S : FnScope N ps scope) (hn : ps.length ≤ N.length) (h : ∀ ds d k, ¬ R ds d k) : Cal ⟨P, w, K, mg, base⟩ n R (lv + 1) dds :=
  Cal.mk' Fd hm bd hv hd S (fun ds d k r => (h ds d k r).elim) hn fun X A ds d k r => (h ds d k r).elim
end
theorem sp_law {K : PySem.W.Frag} {R : Rel} {H : Hp} {a : Addr} {ns : List Int} (hS : SqL K H a (ns.map V.int)) (hR : R [.scr ns] (.bl true) .cln) : FnSp K R [.ref a] H (fun v _ => v = .bl true) fun _ _ _ => False :=
  ⟨H, H, [.scr ns], .bl true, .cln, ⟨.refl _, .refl _, fun _ _ h => h⟩, .cons (.scr hS) .nil, hR, fun v H' F' B' g r => by
    cases (show Rep K F' (.bl true) v from r); rfl⟩
end DL
namespace DL
open PySem PySem.Spec L2
open PyProof.Rows hiding St
section
variable {X : Cx} {env : DEnv} {e : Expr} {ds : List D} {d : D} {k : Kd}
theorem imms_map {α : Type} {f : α → D} (h : ∀ x, (f x).imm = true) : ∀ xs : List α, D.imms (xs.map f) = true
  | [] => rfl
  | x :: xs => by rw [List.map_cons, D.imms, h x, imms_map h xs]; rfl
theorem imm_vt {α : Type} {f : α → D} (h : ∀ x, (f x).imm = true) (xs : List α) : (D.tup (xs.map f)).imm = true := imms_map h xs
theorem imm_cons (h : d.imm = true) (t : D.imms ds = true) : D.imms (d :: ds) = true := by rw [D.imms, h, t]; rfl
theorem imm_tup (t : D.imms ds = true) : (D.tup ds).imm = true := t
theorem imm_enO {α : Type} {f : α → D} (h : ∀ x, (f x).imm = true) (o : Option α) : (enO f o).imm = true := by
  cases o with
  | none => rfl
  | some x => exact h x
theorem Ev.shlI (h : Ev X env e (.lst ds) k) (i : D.imms ds = true) : Ev X env e (.lst ds) .shl := ⟨h.drt.pe.mono fun σ H Q ⟨F, B, E, q⟩ => ⟨F, B, E, fun v H' F' B' g r => by
  cases (show Rep X.K H' (.lst ds) v from r) with
  | lst s t => exact q _ H' F' B' g ⟨_, _, rfl, s, Reps.immF g.hs.tup i t⟩⟩⟩
end
end DL
namespace DL
open PySem PySem.Spec L2
open PyProof.Rows hiding St
section
variable {X : Cx} {Γ : Gd} {N : List Str} {sc : Scope} {lv : Nat} {vl ll : List Nat} {gl : List Str} {env : DEnv} {Φ : Outs} {rest : List Stmt} {a b c : Expr} {d d1 d2 : D} {k1 k2 : Kd} {kz : K2} {pos pt px py pn kp : Pos} {x y : Str} {p : Bool}
theorem swst2 {sc' : Scope} {env : Env} {kt kk : Nat} {pq : Pos} (hs : ScLe sc sc') (he : env.scope = sc') (hk : (sc.kind == .function) = true) (hx : (sc.names.lookup x == some .local) = true) (hy : (sc.names.lookup y == some .local) = true) (hl : (py.line == px.line) = true) (hne : (x == y) = false)
    (hst : ([a, b].any fun | .Starred .. => true | _ => false) = false) (hf : [a, b].all (foldedForSure 8) = false) (hc : [a, b].all (constantsAlone 8) = false) :
    swappedStores [.Tuple [.Name x px, .Name y py] kt pt] (.Tuple [a, b] kk pq) env = pure (some [x, y]) := by
  have hk' : env.scope.kind = .function := by rw [he, hs.kind]; exact eq_of_beq hk
  have hb : env.blockKind = .function := by unfold Env.blockKind; rw [hk']; rfl
  have h1 : env.kindOf x = some .local := by unfold Env.kindOf; rw [he]; exact hs.local (eq_of_beq hx)
  have h2 : env.kindOf y = some .local := by unfold Env.kindOf; rw [he]; exact hs.local (eq_of_beq hy)
  have hn : ([x, y] : List Str).eraseDups = [x, y] := by
    have : (y == x) = false := by
      cases q : y == x with
      | false => rfl
      | true => rw [eq_of_beq q] at hne; simp at hne
    simp [List.eraseDups_cons, this]
  have hl' : py.line = px.line := by simpa using hl
  have hp : (Expr.Name x px).pos = px := rfl
  unfold swappedStores
  simp only [List.any_cons, List.any_nil, List.all_cons, List.all_nil] at hst hf hc
  obtain ⟨s1, s2⟩ := Bool.or_eq_false_iff.mp hst
  obtain ⟨s2, _⟩ := Bool.or_eq_false_iff.mp s2
  simp [hb, h1, h2, hl', hn, hp, List.filterMap_cons]
  rw [if_neg (by rintro (z | z)
                 · exact Bool.false_ne_true (s1.symm.trans z)
                 · exact Bool.false_ne_true (s2.symm.trans z)), if_neg (fun z => by rw [z.1, z.2] at hf; cases hf), if_neg (fun z => by rw [z.1, z.2] at hc; cases hc)]
theorem par2_ {kt kk : Nat} {pq : Pos} (A : At X Γ N sc lv) (S : Sc N sc vl ll gl) (i j : Nat) (hN : N[i]? = some x) (hM : N[j]? = some y) (hk : (sc.kind == .function) = true) (hx : (sc.names.lookup x == some .local) = true) (hy : (sc.names.lookup y == some .local) = true) (hl : (py.line == px.line) = true) (hne : (x == y) = false)
    (hst : ([a, b].any fun | .Starred .. => true | _ => false) = false) (hf : [a, b].all (foldedForSure 8) = false) (hc : [a, b].all (constantsAlone 8) = false) (hs : swapsWithSole [.Tuple [.Name x px, .Name y py] kt pt] (.Tuple [a, b] kk pq) pos.line X.env = pure false)
    (ha : EA X env [a, b] [d1, d2] kz.k) (h : SS X ((env.set i (some (slot2 kz d1))).set j (some (slot2 kz d2))) rest Φ) : SS X env (.Assign [.Tuple [.Name x px, .Name y py] kt pt] (.Tuple [a, b] kk pq) pos :: rest) Φ := by
  have hij : i ≠ j := fun z => by subst z; rw [hN] at hM; cases hM; simp at hne
  refine ss_cons ⟨(ps_par (i := i) (j := j) A.calm (by rw [A.eN]; exact S.nd) (by rw [A.eN]; exact hN) (by rw [A.eN]; exact hM) hij (A.eS.local (eq_of_beq hx)) (A.eS.local (eq_of_beq hy)) ha.pa (swst2 A.eS rfl hk hx hy hl hne hst hf hc) hs).mono fun Dd σ H ⟨F, B, G, E, P⟩ => ⟨F, B, E.e, fun vs H' F' B' g r => ?_⟩⟩
  have r' : ∃ u v, vs = [u, v] ∧ RepK X.K F' B' H' H' kz.k d1 u ∧ RepK X.K F' B' H' H' kz.k d2 v := by
    cases kz with
    | c => cases (show Reps X.K F' [d1, d2] vs from r) with
      | cons r1 t => cases t with
        | cons r2 t => cases t; exact ⟨_, _, rfl, r1, r2⟩
    | b => cases (show Reps X.K B' [d1, d2] vs from r) with
      | cons r1 t => cases t with
        | cons r2 t => cases t; exact ⟨_, _, rfl, r1, r2⟩
  obtain ⟨u, v, e, r1, r2⟩ := r'
  refine ⟨u, v, e, P.nx _ _ _ F' B' (g.gs E.gh) ?_ h⟩
  exact EnvS.setOk (K := X.K) (F := F') (B := B') (G := G) (H := H') _ _ _ _ _ trivial (EnvS.setOk (K := X.K) (F := F') (B := B') (G := G) (H := H') _ _ _ _ _ trivial (E.grow g) (slot2_rep r1)) (slot2_rep r2)
def srtD (xs : List Int) : List Int := xs.mergeSort fun a b => decide (b ≤ a)
theorem srtD_ {ns : List Int} {kk : Nat} {p2 : Pos} (bn : Bn X "sorted" (.builtin "sorted")) (ha : Ev X env a (.lst (ns.map D.int)) k1)
    (he : backTo pos (starEach [a] X.env) = [(false, eval a X.env)]) (hs : starEach [a] X.env = [(false, eval a X.env)]) : Ev X env (.Call (.Name "sorted" pn) [a] [⟨some "reverse", .Constant (.bool true) kk p2, kp⟩] pos) (.lst ((srtD ns).map D.int)) .own := by
  refine ⟨(pe_callBK (cr_sortedRev (b := true)) bn.gl bn.mg bn.bt (pa_cons ha.st.pe pa_nil hs) (pk_cons pe_bl pk_nil) bn.nn bn.db he (by rw [he]; rfl) rfl rfl rfl).mono fun σ H Q ⟨F, B, E, q⟩ => ⟨F, B, E, fun v H1 F1 B1 g r1 => ?_⟩⟩
  obtain ⟨a, vs, rfl, e2, r⟩ := RepS.lst g.hs (RepK.any0 r1)
  have ev := reps_ints (r.reps g.hs)
  subst ev
  refine ⟨a, ns, rfl, rfl, SqL.of e2, fun ns' p hp ho hn => ?_⟩
  have ho : ns'.Pairwise (· ≥ ·) := ho
  have e : ns' = srtD ns := by
    refine List.Perm.eq_of_pairwise (le := (· ≥ ·)) (fun a b _ _ c1 c2 => Int.le_antisymm c2 c1) ho ?_ (hp.trans (List.mergeSort_perm ..).symm)
    have := List.pairwise_mergeSort (le := fun a b : Int => decide (b ≤ a)) (fun a b c h1 h2 => decide_eq_true (Int.le_trans (of_decide_eq_true h2) (of_decide_eq_true h1))) (fun a b => by
      by_cases h : b ≤ a
      · simp [h]
      · simp [h]; omega) ns
    exact this.imp fun h => of_decide_eq_true h
  subst e
  have rr : ∀ ms : List Int, Reps X.K F1 (ms.map D.int) (ms.map V.int) := fun ms => by
    induction ms with
    | nil => exact .nil
    | cons m ms ih => exact .cons (.int m) ih
  exact new_lst (kk := .cln) (.inl rfl) g.hs (rr _) (fun w H2 F2 B2 g2 r2 => q w H2 F2 B2 (g.trans g2) (RepK.back g.h r2)) p hn
end
end DL
namespace DL
open PySem PySem.Spec L2
open PyProof.Rows hiding St
def cA (Γ : Gd) (n : Str) : Addr := match Γ.mg n with
  | some (.ref a) => a
  | _ => 0
theorem ifNone {α : Type} {p : Bool} {m : Option α} {r : α} (h : (if p = true then none else m) = some r) : p = false ∧ m = some r := by
  cases p with
  | true => cases h
  | false => exact ⟨rfl, h⟩
section
variable {K : PySem.W.Frag} {B B' F H : Hp}
theorem RepP.at_ {f : Str} {d : D} : ∀ {fs : List (Str × D)} {us : List (Str × V)}, RepP K B Str fs us → fs.lookup f = some d → ∃ u, us.lookup f = some u ∧ Rep K B d u
  | [], _, _, h => by simp at h
  | (g, e) :: fs, _, .cons r t, h => by
    rw [List.lookup_cons] at h ⊢
    cases q : f == g with
    | true => rw [q] at h; cases h; exact ⟨_, rfl, r⟩
    | false => rw [q] at h; exact RepP.at_ t h
theorem RepP.no {f : Str} : ∀ {fs : List (Str × D)} {us : List (Str × V)}, RepP K B Str fs us → fs.lookup f = none → us.lookup f = none
  | [], _, .nil, _ => rfl
  | (g, e) :: fs, _, .cons r t, h => by
    rw [List.lookup_cons] at h ⊢
    cases q : f == g with
    | true => rw [q] at h; cases h
    | false => rw [q] at h; exact RepP.no t h
theorem RepP.len : ∀ {fs : List (Str × D)} {us : List (Str × V)}, RepP K B Str fs us → us.length = fs.length
  | [], _, .nil => rfl
  | _ :: _, _, .cons _ t => congrArg Nat.succ (RepP.len t)
def putD (f : Str) (d : D) : List (Str × D) → List (Str × D)
  | [] => [(f, d)]
  | (g, x) :: r => if g = f then (g, d) :: r else (g, x) :: putD f d r
theorem RepP.put {f : Str} {d : D} {v : V} (r : Rep K B d v) : ∀ {fs : List (Str × D)} {us : List (Str × V)}, RepP K B Str fs us → RepP K B Str (putD f d fs) (putF f v us)
  | [], _, .nil => .cons r .nil
  | (g, e) :: fs, _, .cons q t => by
    unfold putD putF
    by_cases z : g = f
    · rw [if_pos z, if_pos z]; exact .cons r t
    · rw [if_neg z, if_neg z]; exact .cons q (RepP.put r t)
end
def repPK (K : PySem.W.Frag) (F B H : Hp) : Kd → List (Str × D) → List (Str × V) → Prop
  | .brw, ds, vs => RepP K B Str ds vs
  | .drt, ds, vs => RepP K H Str ds vs
  | _, ds, vs => RepP K F Str ds vs
section
variable {K : PySem.W.Frag} {F B H : Hp} {k : Kd} {C : Addr} {fs : List (Str × D)} {v : V}
theorem RepS.obj (hs : Hs F B H) (r : RepS K F B H k (.obj C fs) v) : ∃ a dx us, v = .ref a ∧ H a = some (.ins C dx us) ∧ repPK K F B H k.kid fs us := by
  cases k with
  | drt => cases (show Rep K H (.obj C fs) v from r) with
    | obj s t => exact ⟨_, _, _, rfl, s, t⟩
  | brw => cases (show Rep K B (.obj C fs) v from r) with
    | obj s t => exact ⟨_, _, _, rfl, hs.bh _ _ s, t⟩
  | own => exact r
  | cln => exact r
  | shl => exact r
theorem repPK.at_ {f : Str} {d : D} {us : List (Str × V)} (h : k = .cln ∨ k = .brw ∨ k = .drt) (r : repPK K F B H k fs us) (e : fs.lookup f = some d) : ∃ u, us.lookup f = some u ∧ ∀ H0 : Hp, RepK K F B H0 H k d u := by
  rcases h with h | h | h <;> subst h
  · obtain ⟨u, h1, h2⟩ := RepP.at_ (show RepP K F Str fs us from r) e
    exact ⟨u, h1, fun _ => h2⟩
  · obtain ⟨u, h1, h2⟩ := RepP.at_ (show RepP K B Str fs us from r) e
    exact ⟨u, h1, fun _ => h2⟩
  · obtain ⟨u, h1, h2⟩ := RepP.at_ (show RepP K H Str fs us from r) e
    exact ⟨u, h1, fun _ => h2⟩
theorem repPK.no {f : Str} {us : List (Str × V)} (r : repPK K F B H k fs us) (e : fs.lookup f = none) : us.lookup f = none := by
  cases k with
  | drt => exact RepP.no (show RepP K H Str fs us from r) e
  | brw => exact RepP.no (show RepP K B Str fs us from r) e
  | own => exact RepP.no (show RepP K F Str fs us from r) e
  | cln => exact RepP.no (show RepP K F Str fs us from r) e
  | shl => exact RepP.no (show RepP K F Str fs us from r) e
end
section
variable {X : Cx} {env : DEnv} {o e : Expr} {es : List Expr} {ds dds : List D} {C : Addr} {fs : List (Str × D)} {d : D} {f m : Str} {k k1 k2 ka kk : Kd} {pos apos : Pos} {R : Rel}
theorem ev_fld (c : Cls X.K C) (n : NoAttr X.K C f) (ha : Ev X env o (.obj C fs) k1) (hl : fs.lookup f = some d) (hb : attributeBase o f X.env (eval o X.env) = eval o X.env) : Ev X env (.Attribute o f pos) d k1.kid :=
  ⟨(pe_fld ha.st.pe hb).mono fun σ H Q ⟨F, B, E, q⟩ => ⟨F, B, E, fun v H1 F1 B1 g r1 => by
    obtain ⟨a, dx, us, rfl, e2, r⟩ := RepS.obj g.hs (RepK.any0 r1)
    obtain ⟨u, h1, h2⟩ := repPK.at_ (kid_cases k1) r hl
    exact ⟨a, C, dx, us, u, rfl, e2, c, n, h1, q u H1 F1 B1 g (h2 _)⟩⟩⟩
end
structure CalM (Γ : Gd) (C : Addr) (m : Str) (R : Rel) (lc : Nat) (dds : List D) : Prop where
  ex : ∃ f fd ps dvs dus, FnOk Γ.P Γ.w Γ.K Γ.mg Γ.base CX0 lc f fd ps (FnSp Γ.K R) ∧ Cls Γ.K C ∧ Meth Γ.K C m f ∧ Binds Γ.K fd ps dus ∧ Vals dvs dus ∧ ∀ B : Hp, Reps Γ.K B dds dvs
section
variable {X : Cx} {Γ : Gd} {N : List Str} {sc : Scope} {lv lc : Nat} {env : DEnv} {o e : Expr} {es : List Expr} {ds dds : List D} {C : Addr} {fs : List (Str × D)} {d : D} {f m : Str} {k k1 k2 ka kk : Kd} {pos apos : Pos} {R : Rel} {pl : Sem Bool}
theorem CalM.ev (M : CalM Γ C m R lc dds) (A : At X Γ N sc lv) (hl : lc ≤ lv) (ho : Ev X env o (.obj C fs) k1) (hn : fs.lookup m = none) (ha : EA X env (e :: es) ds ka) (hk : ka = .cln ∨ ka = .brw ∨ ka = .drt) (hkr : kk = .own ∨ kk = .cln ∨ kk = .brw)
    (hst : starEach (e :: es) X.env = (false, eval e X.env) :: starEach es X.env) (hpl : (backTo pos (starEach es X.env)).any (·.1) = false)
    (ht : eval (.Call (.Attribute o m apos) (e :: es) [] pos) X.env = (do
      let ov ← eval o X.env
      standAt apos.atName
      let (f, first) ← holding [ov] (getMethod ov m pl)
      callWith pos f first (backTo pos (starEach (e :: es) X.env)) (backToKw pos (keywordEach [] X.env)))) (hR : R (.obj C fs :: (ds ++ dds)) d kk) : Ev X env (.Call (.Attribute o m apos) (e :: es) [] pos) d (retK (k1.held.join ka) kk) := by
  obtain ⟨g, fd, ps, dvs, dus, h1, c, mt, h4, h5, h6⟩ := M.ex
  have eP := A.eP; have eW := A.eW; have eK := A.eK; have eM := A.eM; have eB := A.eB
  rw [← eP, ← eW, ← eK, ← eM, ← eB] at h1
  rw [← eK] at c mt h4 h6
  refine ⟨(pe_meth (pl := pl) ho.held.pe c mt h1 (A.room.mono hl) h4 h5 pass0 ha.pa hst hpl ht).mono fun σ H Q ⟨F, B, E, q⟩ => ⟨F, B, E, fun v H1 F1 B1 g1 r1 => ?_⟩⟩
  have hh : k1.held = .cln ∨ k1.held = .brw ∨ k1.held = .drt := by cases k1 <;> simp [Kd.held]
  have r0 : RepS X.K F1 B1 H1 k1.held (.obj C fs) v := by
    rcases hh with z | z | z <;> rw [z] at r1 ⊢
    · exact Rep.shl g1.hs.fh r1
    · exact r1
    · exact r1
  obtain ⟨a, dx, us, e1, e2, e3⟩ := RepS.obj g1.hs r0
  refine ⟨a, dx, us, e1, e2, repPK.no e3 hn, F1, B1, E.grow g1, fun vs H2 F2 B2 g2 r2 => ?_⟩
  have a1 : repsK X.K F2 B2 H2 (k1.held.join ka) [.obj C fs] [v] := repsK.up g2.hs hh hk (repsK.grow g2 (repK_one hh r1))
  have a2 : repsK X.K F2 B2 H2 (k1.held.join ka) (ds ++ dds) (vs ++ dvs) := by
    rw [join_comm]
    exact repsK.up g2.hs hk hh (reps_drop hk r2 h6)
  exact call_rel g2.hs (join_cases _ _) hkr (repsK_cons (join_cases _ _) a1 a2) hR fun w H3 F3 B3 g3 r3 => q w H3 F3 B3 ((g1.trans g2).trans g3) (RepK.back (g1.trans g2).h r3)
theorem CalM.ev0 (M : CalM Γ C m R lc dds) (A : At X Γ N sc lv) (hl : lc ≤ lv) (ho : Ev X env o (.obj C fs) k1) (hn : fs.lookup m = none) (hkr : kk = .own ∨ kk = .cln ∨ kk = .brw)
    (ht : eval (.Call (.Attribute o m apos) [] [] pos) X.env = (do
      let ov ← eval o X.env
      standAt apos.atName
      let (f, first) ← holding [ov] (getMethod ov m pl)
      callWith pos f first (backTo pos (starEach [] X.env)) (backToKw pos (keywordEach [] X.env)))) (hR : R (.obj C fs :: dds) d kk) : Ev X env (.Call (.Attribute o m apos) [] [] pos) d (retK k1.held kk) := by
  obtain ⟨g, fd, ps, dvs, dus, h1, c, mt, h4, h5, h6⟩ := M.ex
  have eP := A.eP; have eW := A.eW; have eK := A.eK; have eM := A.eM; have eB := A.eB
  rw [← eP, ← eW, ← eK, ← eM, ← eB] at h1
  rw [← eK] at c mt h4 h6
  refine ⟨(pe_meth0 (pl := pl) ho.held.pe c mt h1 (A.room.mono hl) h4 h5 pass0 ht).mono fun σ H Q ⟨F, B, E, q⟩ => ⟨F, B, E, fun v H1 F1 B1 g1 r1 => ?_⟩⟩
  have hh : k1.held = .cln ∨ k1.held = .brw ∨ k1.held = .drt := by cases k1 <;> simp [Kd.held]
  have r0 : RepS X.K F1 B1 H1 k1.held (.obj C fs) v := by
    rcases hh with z | z | z <;> rw [z] at r1 ⊢
    · exact Rep.shl g1.hs.fh r1
    · exact r1
    · exact r1
  obtain ⟨a, dx, us, e1, e2, e3⟩ := RepS.obj g1.hs r0
  refine ⟨a, dx, us, e1, e2, repPK.no e3 hn, ?_⟩
  have a2 : repsK X.K F1 B1 H1 k1.held (.obj C fs :: dds) (v :: dvs) := reps_drop (ds := [.obj C fs]) (vs := [v]) hh (repK_one hh r1) h6
  show FnSp X.K R (v :: dvs) H1 Q E0
  exact call_rel g1.hs hh hkr a2 hR fun w H3 F3 B3 g3 r3 => q w H3 F3 B3 (g1.trans g3) (RepK.back g1.h r3)
end
theorem execs_one {st : Stmt} {env : Env} : execs [st] env = exec st env := by
  rw [PySem.execs_cons]
  refine Eq.trans ?_ (bind_pure (exec st env))
  exact congrArg (fun g => exec st env >>= g) (funext fun f => by cases f <;> rfl)
theorem _root_.L2.PSs.ps {X : Cx} {st : Stmt} {t : TS} (h : PSs X [st] t) : PS X st t := ⟨fun pins s σ H D I q => by
  have := h.run pins s σ H D I q
  rw [execs_one] at this
  exact this⟩
def PostI (K : PySem.W.Frag) (F B G : Hp) (x C dx : Addr) (ws : List (Str × D)) (Dd : Ends) : Prop := ∀ σ' H' F' B' us', GS F B G F' B' → Hs F' B' H' → Same (upd G x (.ins C dx us')) H' → RepP K F' Str ws us' → F' x = none → B' x = none → Dd.nx σ' H'
def tSI (K : PySem.W.Frag) (x C dx : Addr) (env : DEnv) (fs ws : List (Str × D)) : TS := fun Dd σ H => ∃ F B G us, EnvS K F B (upd G x (.ins C dx us)) H env σ ∧ RepP K F Str fs us ∧ F x = none ∧ B x = none ∧ G x = none ∧ PostI K F B G x C dx ws Dd
structure SI (X : Cx) (x C dx : Addr) (env : DEnv) (fs : List (Str × D)) (sts : List Stmt) (ws : List (Str × D)) : Prop where
  ps : PSs X sts (tSI X.K x C dx env fs ws)
section
variable {X : Cx} {Γ : Gd} {N : List Str} {sc : Scope} {lv lc : Nat} {vl ll : List Nat} {gl : List Str} {env env' : DEnv} {e : Expr} {es : List Expr} {st : Stmt} {rest : List Stmt} {ds dds : List D} {x C dx : Addr} {fs ws : List (Str × D)} {d : D} {f n : Str} {k ka kk : Kd} {pos p apos np : Pos}
theorem si_nil : SI X x C dx env ws [] ws := ⟨pss_nil.mono fun Dd σ H ⟨F, B, G, us, E, r, n1, n2, n3, P⟩ => P σ H F B us .refl E.hs E.gh r n1 n2⟩
theorem gs_down {F B G F' B' : Hp} {o : HO} (n : G x = none) (g : GS F B (upd G x o) F' B') : GS F B G F' B' :=
  ⟨g.f, g.b, fun p h1 h2 => g.newF p (by rw [upd_ne (fun z => h1 (by rw [z]; exact n))]; exact h1) h2, fun p h1 h2 => g.newB p (by rw [upd_ne (fun z => h1 (by rw [z]; exact n))]; exact h1) h2⟩
theorem gs_none {F B G F' B' : Hp} {o : HO} (g : GS F B (upd G x o) F' B') (n1 : F x = none) (n2 : B x = none) : F' x = none ∧ B' x = none := by
  constructor
  · cases q : F' x with
    | none => rfl
    | some u => exact absurd n1 (g.newF x (by rw [upd_same]; exact fun z => nomatch z) (by rw [q]; exact fun z => nomatch z))
  · cases q : B' x with
    | none => rfl
    | some u => exact absurd n2 (g.newB x (by rw [upd_same]; exact fun z => nomatch z) (by rw [q]; exact fun z => nomatch z))
theorem PostI.gs {K : PySem.W.Frag} {F B G F1 B1 : Hp} {Dd : Ends} (P : PostI K F B G x C dx ws Dd) (g : GS F B G F1 B1) : PostI K F1 B1 G x C dx ws Dd := fun σ' H' F' B' us' q => P σ' H' F' B' us' (g.trans q)
theorem si_cons (h : SS X env [st] { nx := fun e => e = env' }) (r : SI X x C dx env' fs rest ws) : SI X x C dx env fs (st :: rest) ws :=
  ⟨(pss_cons h.ps.ps r.ps).mono fun Dd σ H ⟨F, B, G, us, E, q, n1, n2, n3, P⟩ => ⟨F, B, _, E, fun e σ' H' F' B' g E' he => by
    subst he
    obtain ⟨m1, m2⟩ := gs_none g n1 n2
    exact ⟨F', B', G, us, E', RepP.mono g.f q, m1, m2, n3, P.gs (gs_down n3 g)⟩, fun _ _ _ _ _ _ _ _ _ _ h => h.elim, fun _ _ _ _ _ _ _ h => h.elim, fun _ _ _ _ _ _ _ h => h.elim⟩⟩
theorem EnvS.setX {K : PySem.W.Frag} {F B G H : Hp} {σ : St} {us us2 : List (Str × V)} (E : EnvS K F B (upd G x (.ins C dx us)) H env σ) (n1 : F x = none) (n2 : B x = none) : EnvS K F B (upd G x (.ins C dx us2)) (upd H x (.ins C dx us2)) env σ := by
  have hx : H x = some (.ins C dx us) := E.gh _ _ upd_same
  refine ⟨⟨E.hs.fb, fun a u e => by rw [upd_ne (ne_of_none e n2)]; exact E.hs.bh _ _ e, fun a xs h => ?_⟩, fun a u e => ?_, E.len, fun j s e => ?_, E.dis⟩
  · by_cases z : a = x
    · subst z
      rcases h with h | ⟨u, h⟩ <;> (rw [upd_same] at h; cases h)
    · refine E.hs.tup a xs ?_
      rcases h with h | ⟨u, h⟩
      · rw [upd_ne z] at h; exact .inl h
      · rw [upd_ne z] at h; exact .inr ⟨u, h⟩
  · by_cases z : a = x
    · subst z; rw [upd_same] at e ⊢; exact e
    · rw [upd_ne z] at e ⊢
      exact E.gh _ _ (by rw [upd_ne z]; exact e)
  · obtain ⟨v, h1, h2⟩ := E.at_ j s e
    refine ⟨v, h1, ?_⟩
    cases s with
    | frz t => exact h2
    | bor t => exact h2
    | own t =>
      obtain ⟨q, e1, m1, m2, r⟩ := h2
      have ne : q ≠ x := fun z => by subst z; rw [upd_same] at m2; cases m2
      refine ⟨q, e1, m1, by rw [upd_ne ne] at m2 ⊢; exact m2, ?_⟩
      cases t with
      | lst _ => obtain ⟨vs, a1, a2⟩ := r; exact ⟨vs, by rw [upd_ne ne]; exact a1, a2⟩
      | dK _ => obtain ⟨vs, a1, a2⟩ := r; exact ⟨vs, by rw [upd_ne ne]; exact a1, a2⟩
      | dT _ => obtain ⟨vs, a1, a2⟩ := r; exact ⟨vs, by rw [upd_ne ne]; exact a1, a2⟩
      | obj _ _ => obtain ⟨dy, vs, a1, a2⟩ := r; exact ⟨dy, vs, by rw [upd_ne ne]; exact a1, a2⟩
      | _ => exact r.elim
theorem si_set (A : At X Γ N sc lv) (S : Sc N sc vl ll gl) (i : Nat) (hN : N[i]? = some n) (hv : vl.contains i = true) (hself : env[i]? = some (some (.bor (.adr x)))) (c : Cls X.K C) (na : NoAttr X.K C f) (he : Ev X env e d k) (hk : heldOf k d = .cln) (hz : fs.length < 1000)
    (hs : swapsWith e (some (.Attribute (.Name n np) f p)) pos.line X.env = pure false) (r : SI X x C dx env (putD f d fs) rest ws) : SI X x C dx env fs (.Assign [.Attribute (.Name n np) f p] e pos :: rest) ws := by
  obtain ⟨v1, v2⟩ := S.vis hv hN
  obtain ⟨p1, p2, _⟩ := plainB_ok v2
  refine ⟨(pss_cons (ps_fld (f := f) (pe_var (by rw [A.eN]; exact hN) (A.eS.vis v1) p1 p2) he.heldOf.pe hs) r.ps).mono fun Dd σ H ⟨F, B, G, us, E, q, n1, n2, n3, P⟩ => ⟨F, B, E.e, fun v H1 F1 B1 g r1 => ?_⟩⟩
  rw [hk] at r1
  have E1 := E.grow g
  obtain ⟨m1, m2⟩ := gs_none (g.gs E.gh) n1 n2
  obtain ⟨w, h1, h2⟩ := E1.at_ i _ hself
  cases (show Rep X.K B1 (.adr x) w from h2)
  have q1 := RepP.mono g.f q
  refine ⟨_, h1, x, C, dx, us, rfl, E1.gh _ _ upd_same, c, na, by rw [q1.len]; exact hz, ?_⟩
  exact ⟨F1, B1, G, _, E1.setX m1 m2, RepP.put r1 q1, m1, m2, n3, P.gs (gs_down n3 (g.gs E.gh))⟩
abbrev RelI := List D → List (Str × D) → Prop
def FnSpI (K : PySem.W.Frag) (C : Addr) (R : RelI) : Sp := fun vs H Q _ => ∃ x dx rest F B G ds ws, vs = .ref x :: rest ∧ H x = some (.ins C dx []) ∧ G x = none ∧ Same (upd G x (.ins C dx [])) H ∧ Hs F B H ∧ F x = none ∧ B x = none ∧ Reps K B ds rest ∧ R ds ws ∧
  ∀ H' F' B' us, GS F B G F' B' → Hs F' B' H' → Same (upd G x (.ins C dx us)) H' → RepP K F' Str ws us → F' x = none → B' x = none → Q .non H'
theorem def_okI {P : Program} {w : World} {K : PySem.W.Frag} {mg : Str → Option Value} {base : Heap} {nm qual : Str} {params : Arguments} {body : List Stmt} {scope : Scope} {dvs : List V} {kws : List (Str × V)} {g : Addr} {fd : FuncData} {N ps : List Str} {lv : Nat} {R : RelI}
    (Fd : FunD K nm qual params body scope dvs kws g fd) (S : FnScope N ps scope) (hl : ∀ ds ws, R ds ws → ds.length + 1 = ps.length) (hn : ps.length ≤ N.length)
    (hb : ∀ X : Cx, Cf X P w K mg base N scope lv → ∀ x dx ds ws, R ds ws → SI X x C dx (env0 N.length (.adr x :: ds)) [] body ws) :
    FnOk P w K mg base CX0 (lv + 1) g fd ps (FnSpI K C R) := by
  refine Fd.ok S (fun vs H Q E ⟨x, dx, rest, F, B, G, ds, ws, e, _, _, _, _, _, _, r, hR, _⟩ => by subst e; rw [List.length_cons, r.length]; exact hl _ _ hR) fun cdv A outer s H vs Q E hr ⟨x, dx, rest, F, B, G, ds, ws, e, hx, gx, gh, hs, fx, bx, r, hR, q⟩ => ?_
  subst e
  have h := hb (cxOf CX0 P w K mg base N qual scope g cdv A outer s H E).nox ⟨rfl, rfl, rfl, rfl, rfl, rfl, rfl, fun _ => rfl, rfl, hr, rfl⟩ x dx ds ws hR
  refine ⟨_, PSs.nox h.ps, F, B, G, [], ?_, .nil, fx, bx, gx, fun σ' H' F' B' us' g1 h1 s1 r1 m1 m2 => q H' F' B' us' g1 h1 s1 r1 m1 m2⟩
  have E0 := env0_ok (N := N) hs (.cons (.adr (a := x)) r) (by rw [List.length_cons, hl _ _ hR]; exact hn)
  refine ⟨hs, gh, E0.len, fun i t et => ?_, E0.dis⟩
  obtain ⟨v, v1, v2⟩ := E0.at_ i t et
  refine ⟨v, v1, ?_⟩
  cases t with
  | frz d => exact v2
  | bor d => exact v2
  | own d =>
    exfalso
    unfold env0 at et
    by_cases hi : i < (D.adr x :: ds).length
    · rw [List.getElem?_append_left (by simpa using hi), List.getElem?_map] at et
      cases q2 : (D.adr x :: ds)[i]? with
      | none => rw [q2] at et; cases et
      | some d0 => rw [q2] at et; cases d0 <;> cases et
    · rw [List.getElem?_append_right (by simpa using hi), List.getElem?_replicate] at et
      split at et <;> cases et
structure CalN (Γ : Gd) (n : Str) (C : Addr) (R : RelI) (lc : Nat) (dds : List D) : Prop where
  ex : ∃ g fd ps dvs dus, FnOk Γ.P Γ.w Γ.K Γ.mg Γ.base CX0 lc g fd ps (FnSpI Γ.K C R) ∧ Mk Γ.K C g ∧ Γ.mg n = some (.ref C) ∧ Binds Γ.K fd ps dus ∧ Vals dvs dus ∧ ∀ B : Hp, Reps Γ.K B dds dvs
def RelN (C : Addr) (R : RelI) : Rel := fun ds d k => ∃ ws, R ds ws ∧ d = .obj C ws ∧ k = .own
theorem make_sp {K : PySem.W.Frag} {R : RelI} {H : Hp} {vs : List V} {Q : VK} {E : XK} {a dx : Addr} (h : FnSp K (RelN C R) vs H Q E) (ha : H a = none) (hd : H dx = none) (ne : dx ≠ a) :
    FnSpI K C R (.ref a :: vs) (upd (upd H dx (.own a)) a (.ins C dx [])) (fun v H2 => v = .non ∧ Q (.ref a) H2) E := by
  obtain ⟨F, B, ds, d, k, hs, r, ⟨ws, hR, e1, e2⟩, q⟩ := h
  subst e1 e2
  have s1 : Same H (upd H dx (.own a)) := same_upd hd
  have ga : upd H dx (.own a) a = none := by rw [upd_ne (Ne.symm ne)]; exact ha
  have s2 : Same H (upd (upd H dx (.own a)) a (.ins C dx [])) := s1.trans (same_upd ga)
  refine ⟨a, dx, vs, F, B, upd H dx (.own a), ds, ws, rfl, upd_same, ga, fun _ _ z => z, ⟨hs.fb, hs.bh.trans s2, fun b xs h => hs.tup b xs ?_⟩, hs.fh.free ha, hs.bh.free ha, r, hR, fun H' F' B' us g h1 s3 r1 m1 m2 => ⟨rfl, ?_⟩⟩
  · have nb : b ≠ a := fun z => by subst z; rcases h with h | ⟨u, h⟩ <;> (rw [upd_same] at h; cases h)
    have nd : b ≠ dx := fun z => by subst z; rcases h with h | ⟨u, h⟩ <;> (rw [upd_ne ne, upd_same] at h; cases h)
    rcases h with h | ⟨u, h⟩
    · rw [upd_ne nb, upd_ne nd] at h; exact .inl h
    · rw [upd_ne nb, upd_ne nd] at h; exact .inr ⟨u, h⟩
  · have sH : Same H H' := fun p o e => s3 _ _ (by
      have np : p ≠ a := fun z => by subst z; rw [ha] at e; cases e
      have nq : p ≠ dx := fun z => by subst z; rw [hd] at e; cases e
      rw [upd_ne np, upd_ne nq]; exact e)
    have up : ∀ p, H p ≠ none → upd H dx (.own a) p ≠ none := fun p hp => by
      rw [upd_ne (fun z => hp (by rw [z]; exact hd))]; exact hp
    exact q (.ref a) H' F' B' ⟨g.f, g.b, sH, h1, fun p h2 h3 => g.newF p (up p h2) h3, fun p h2 h3 => g.newB p (up p h2) h3⟩ ⟨a, rfl, ha, m2, dx, us, s3 _ _ upd_same, r1⟩
theorem CalN.ev {R : RelI} (M : CalN Γ n C R lc dds) (A : At X Γ N sc lv) (S : Sc N sc vl ll gl) (j : Nat) (hg : gl[j]? = some n) (hl : lc + 1 ≤ lv) (ha : EA X env (e :: es) ds ka) (hk : ka = .cln ∨ ka = .brw ∨ ka = .drt)
    (he : starEach (e :: es) X.env = (false, eval e X.env) :: starEach es X.env) (hpl : (backTo pos (starEach es X.env)).any (·.1) = false) (hR : R (ds ++ dds) ws) : Ev X env (.Call (.Name n p) (e :: es) [] pos) (.obj C ws) .own := by
  obtain ⟨g, fd, ps, dvs, dus, h1, h2, h3, h4, h5, h6⟩ := M.ex
  have eP := A.eP; have eW := A.eW; have eK := A.eK; have eM := A.eM; have eB := A.eB
  rw [← eP, ← eW, ← eK, ← eM, ← eB] at h1
  rw [← eM] at h3
  rw [← eK] at h2 h4 h6
  refine ⟨(pe_make h2 h1 (A.room.mono hl) (glo A S j hg) h3 h4 h5 pass0 ha.pa (plainB_ok (S.glo hg).2).1 he hpl).mono fun σ H Q ⟨F, B, E, q⟩ => ⟨F, B, E, fun vs H1 F1 B1 g1 r1 => fun a dx m1 m2 m3 => ?_⟩⟩
  exact make_sp (call_rel (d := .obj C ws) (k := .own) g1.hs hk (.inl rfl) (reps_drop hk r1 h6) ⟨ws, hR, rfl, rfl⟩ fun w H2 F2 B2 g2 r2 => q w H2 F2 B2 (g1.trans g2) (RepK.back g1.h (by
    have : retK ka .own = .own := by rcases hk with h | h | h <;> subst h <;> rfl
    rw [this] at r2; exact r2))) m1 m2 m3
theorem si_ifR {c : Expr} {A : List Stmt} (hc : Et X env c false) (r : SI X x C dx env fs rest ws) : SI X x C dx env fs (.If c A [] pos :: rest) ws :=
  si_cons (env' := env) (ss_if hc (fun z => nomatch z) fun _ => ss_nil (ss_nil rfl)) r
theorem swstC {a b : Expr} {y z : Str} {px py pt pq : Pos} {kt kk : Nat} {env : Env} (hf : [a, b].all (foldedForSure 8) = true) : swappedStores [.Tuple [.Name y px, .Name z py] kt pt] (.Tuple [a, b] kk pq) env = pure none := by
  simp only [List.all_cons, List.all_nil, Bool.and_true, Bool.and_eq_true] at hf
  unfold swappedStores
  simp [hf.1, hf.2]
end
end DL
namespace DL
open PySem PySem.Spec L2
open PyProof.Rows hiding St
structure CalNK (Γ : Gd) (n : Str) (C : Addr) (R : RelI) (lc np : Nat) (ks : List Str) (ord : List D → List D → List D) : Prop where
  ex : ∃ g fd ps gb gV, FnOk Γ.P Γ.w Γ.K Γ.mg Γ.base CX0 lc g fd ps (FnSpI Γ.K C R) ∧ Mk Γ.K C g ∧ Γ.mg n = some (.ref C) ∧ KBn Γ.K fd ps (np + 1) ks gb gV ∧
    ∀ (vs us : List V), vs.length = np → us.length = ks.length → ∃ ws : List V, (∀ r : V, gV (r :: vs) us = r :: ws) ∧ ∀ (B : Hp) ds zs, Reps Γ.K B ds vs → Reps Γ.K B zs us → Reps Γ.K B (ord ds zs) ws
theorem repsK_all {K : PySem.W.Frag} {F B H : Hp} {k : Kd} {ds zs es : List D} {vs us ws : List V} (h : ∀ (B : Hp), Reps K B ds vs → Reps K B zs us → Reps K B es ws) (r1 : repsK K F B H k ds vs) (r2 : repsK K F B H k zs us) : repsK K F B H k es ws := by
  cases k with
  | drt => exact h H r1 r2
  | brw => exact h B r1 r2
  | own => exact h F r1 r2
  | cln => exact h F r1 r2
  | shl => exact h F r1 r2
section
variable {X : Cx} {Γ : Gd} {N : List Str} {sc : Scope} {lv lc : Nat} {vl ll : List Nat} {gl : List Str} {env : DEnv} {e : Expr} {es : List Expr} {ds zs : List D} {C : Addr} {ws : List (Str × D)} {n : Str} {ka kb : Kd} {pos p : Pos} {R : RelI} {kws : List Keyword} {np : Nat} {ks : List Str} {ord : List D → List D → List D}
theorem CalNK.ev (M : CalNK Γ n C R lc np ks ord) (A : At X Γ N sc lv) (S : Sc N sc vl ll gl) (j : Nat) (hg : gl[j]? = some n) (hl : lc + 1 ≤ lv) (ha : EA X env (e :: es) ds ka) (hk : ka = .cln ∨ ka = .brw ∨ ka = .drt) (hz : EK X env kws zs kb) (hk2 : kb = .cln ∨ kb = .brw ∨ kb = .drt)
    (l1 : ds.length = np) (l2 : zs.length = ks.length) (hall : (backToKw pos (keywordEach kws X.env)).all (·.1.isSome) = true) (hks : (backToKw pos (keywordEach kws X.env)).filterMap (·.1) = ks) (he : starEach (e :: es) X.env = (false, eval e X.env) :: starEach es X.env)
    (hpl : ((backTo pos (starEach (e :: es) X.env)).any (·.1) || (backToKw pos (keywordEach kws X.env)).any (·.1.isNone)) = false) (hR : R (ord ds zs) ws) : Ev X env (.Call (.Name n p) (e :: es) kws pos) (.obj C ws) .own := by
  obtain ⟨g, fd, ps, gb, gV, h1, h2, h3, h4, h5⟩ := M.ex
  have eP := A.eP; have eW := A.eW; have eK := A.eK; have eM := A.eM; have eB := A.eB
  rw [← eP, ← eW, ← eK, ← eM, ← eB] at h1
  rw [← eM] at h3
  rw [← eK] at h2 h4 h5
  refine ⟨(pe_makeN h2 h1 (A.room.mono hl) (glo A S j hg) h3 h4 pass0 ha.pa hz.pk hall hks (plainB_ok (S.glo hg).2).1 he hpl).mono fun σ H Q ⟨F, B, E, q⟩ => ⟨F, B, E, fun vs H1 F1 B1 g1 r1 => ⟨F1, B1, E.grow g1, fun us H2 F2 B2 g2 r2 => ?_⟩⟩⟩
  have r1' := repsK.grow g2 r1
  have e1 : vs.length = np := by rw [r1'.len, l1]
  have e2 : us.length = ks.length := by rw [r2.len, l2]
  obtain ⟨wv, w1, w2⟩ := h5 vs us e1 e2
  refine ⟨e1, e2, fun a dx m1 m2 m3 => ?_⟩
  rw [w1]
  have rr : repsK X.K F2 B2 H2 (ka.join kb) (ord ds zs) wv := repsK_all (fun B q1 q2 => w2 B _ _ q1 q2) (repsK.up g2.hs hk hk2 r1') (by rw [join_comm]; exact repsK.up g2.hs hk2 hk r2)
  exact make_sp (call_rel (d := .obj C ws) (k := .own) g2.hs (join_cases _ _) (.inl rfl) rr ⟨ws, hR, rfl, rfl⟩ fun w H3 F3 B3 g3 r3 => q w H3 F3 B3 ((g1.trans g2).trans g3) (RepK.back (g1.trans g2).h (by
    have : retK (ka.join kb) .own = .own := by rcases join_cases ka kb with h | h | h <;> rw [h] <;> rfl
    rw [this] at r3; exact r3))) m1 m2 m3
theorem CalNK.ev0 (M : CalNK Γ n C R lc 0 ks ord) (A : At X Γ N sc lv) (S : Sc N sc vl ll gl) (j : Nat) (hg : gl[j]? = some n) (hl : lc + 1 ≤ lv) (hz : EK X env kws zs kb) (hk2 : kb = .cln ∨ kb = .brw ∨ kb = .drt)
    (l2 : zs.length = ks.length) (hall : (backToKw pos (keywordEach kws X.env)).all (·.1.isSome) = true) (hks : (backToKw pos (keywordEach kws X.env)).filterMap (·.1) = ks)
    (hpl : ((backTo pos (starEach [] X.env)).any (·.1) || (backToKw pos (keywordEach kws X.env)).any (·.1.isNone)) = false) (hR : R (ord [] zs) ws) : Ev X env (.Call (.Name n p) [] kws pos) (.obj C ws) .own := by
  obtain ⟨g, fd, ps, gb, gV, h1, h2, h3, h4, h5⟩ := M.ex
  have eP := A.eP; have eW := A.eW; have eK := A.eK; have eM := A.eM; have eB := A.eB
  rw [← eP, ← eW, ← eK, ← eM, ← eB] at h1
  rw [← eM] at h3
  rw [← eK] at h2 h4 h5
  refine ⟨(pe_makeK0 h2 h1 (A.room.mono hl) (glo A S j hg) h3 h4 pass0 hz.pk hall hks (plainB_ok (S.glo hg).2).1 hpl).mono fun σ H Q ⟨F, B, E, q⟩ => ⟨F, B, E, fun us H2 F2 B2 g2 r2 => ?_⟩⟩
  have e2 : us.length = ks.length := by rw [r2.len, l2]
  obtain ⟨wv, w1, w2⟩ := h5 [] us rfl e2
  refine ⟨rfl, e2, fun a dx m1 m2 m3 => ?_⟩
  rw [w1]
  have nk : repsK X.K F2 B2 H2 kb [] [] := by cases kb <;> exact .nil
  have rr : repsK X.K F2 B2 H2 kb (ord [] zs) wv := repsK_all (fun B q1 q2 => w2 B _ _ q1 q2) nk r2
  exact make_sp (call_rel (d := .obj C ws) (k := .own) g2.hs hk2 (.inl rfl) rr ⟨ws, hR, rfl, rfl⟩ fun w H3 F3 B3 g3 r3 => q w H3 F3 B3 (g2.trans g3) (RepK.back g2.h (by
    have : retK kb .own = .own := by rcases hk2 with h | h | h <;> subst h <;> rfl
    rw [this] at r3; exact r3))) m1 m2 m3
end
def asS : D → Option Str
  | .str s => some s
  | _ => none
theorem asS_ {X : Cx} {env : DEnv} {e : Expr} {d : D} {s : Str} {k : Kd} (h : asS d = some s) (a : Ev X env e d k) : Ev X env e (.str s) k := by
  cases d <;> simp [asS] at h
  subst h
  exact a
end DL
namespace DL
open PySem PySem.Spec L2
open PyProof.Rows hiding St
section
variable {prog : Program} {w : World} {A : Around} {E : Value → Shared → Prop} {s : Shared} {z U O j1 j2 : Addr} {f1 f2 : List Addr} {n1 n2 i : Nat} {P1 P2 : Nat → Value → Prop} {S1 S2 : Nat → Heap → Prop} {b : Bool} {T : Addr} {oT : Obj}
theorem zipH_item {Q : Value → Shared → Prop} (Z : ZipSep2 z U O j1 j2 f1 f2) (Da : Draws prog w A j1 f1 n1 P1 S1) (Db : Draws prog w A j2 f2 n2 P2 S2)
    (kz : IsZipHeld s.heap z U O T b) (kT : s.heap.get? T = some oT) (kU : IsTupOf2 s.heap U (.ref j1) (.ref j2)) (t1 : S1 i s.heap) (t2 : S2 i s.heap) (l1 : i < n1) (l2 : i < n2)
    (q : ∀ x y h' tk, P1 i x → P2 i y → IsZipHeld h' z U O T true → S1 (i + 1) h' → S2 (i + 1) h' → IsTupOf2 h' s.heap.objs.size x y → h'.objs.size = s.heap.objs.size + 1 →
      (∀ c o, c ≠ z → c ≠ j1 → c ≠ j2 → s.heap.get? c = some o → h'.get? c = some o) → Q (.ref s.heap.objs.size) { s with heap := h', toks := tk }) :
    wpAny (model prog w) A (Builtin.«zip.__next__» ⟨[.ref z], []⟩) (fun r s' => ∃ v, r = .done (.ret v) ∧ Q v s') E s := by
  obtain ⟨hp, g, d, tk0, os⟩ := s
  show wpAny _ _ (field (.ref z) 2 >>= _) _ _ _
  apply wpAny_bind; apply wpAny_field kz rfl (x := .bool false) rfl
  show wpAny _ _ (field (.ref z) 3 >>= _) _ _ _
  apply wpAny_bind; apply wpAny_field kz rfl (x := .ref U) rfl
  apply wpAny_bind; apply wpAny_seqItems kU rfl
  show wpAny _ _ (Builtin.SmallTypes.ownedTupleIsFree (.ref z) >>= _) _ _ _
  apply wpAny_bind; refine wpAny_tupleHeld_zip kz kT fun g1 kz1 e1 => ?_
  simp only [Bool.false_eq_true, if_false]
  apply wpAny_bind; rw [← Array.forIn_toList]; simp only [List.forIn_cons, List.forIn_nil]
  apply wpAny_bind; apply wpAny_bind; apply wpAny_holding
  replace e1 : Heap.SameBut z hp g1 := e1
  show wpAny _ _ (Builtin.SmallTypes.nextOf (.ref j1) >>= _) _ _ ⟨g1, g, d, tk0, os⟩
  refine wpAny_bind (Da.item i _ _ _ l1 (Da.over t1 e1 Z.zf1) fun x g2 tk2 px u1 e2 => wpAny_pure (wpAny_pure ?_))
  replace e2 : Heap.SameBut j1 g1 g2 := e2
  apply wpAny_bind; apply wpAny_bind; apply wpAny_holding
  show wpAny _ _ (Builtin.SmallTypes.nextOf (.ref j2) >>= _) _ _ ⟨g2, g, d, tk2, os⟩
  refine wpAny_bind (Db.item i _ _ _ l2 (Db.over (Db.over t2 e1 Z.zf2) e2 Z.sep1_2) fun y g3 tk3 py u2 e3 => wpAny_pure (wpAny_pure (wpAny_pure ?_)))
  replace e3 : Heap.SameBut j2 g2 g3 := e3
  show wpAny _ _ (newTuple [x, y] >>= _) _ _ ⟨g3, g, d, tk3, os⟩
  refine wpAny_bind (wpAny_newTuple (s := ⟨g3, g, d, tk3, os⟩) ?_)
  have sz : g3.objs.size = hp.objs.size := by rw [e3.1, e2.1, e1.1]
  have kz3 : IsZipHeld g3 z U O T true := e3.extBut _ _ Z.zi2 (e2.extBut _ _ Z.zi1 kz1)
  have u1' : S1 (i + 1) g3 := Da.over u1 e3 Z.sep2_1
  refine wpAny_pure ⟨_, rfl, ?_⟩
  have np : IsTupOf2 (g3.push { cls := .type "tuple", data := .seq #[x, y] }) g3.objs.size x y := Heap.get?_push_size _ rfl
  have ns : (g3.push { cls := .type "tuple", data := .seq #[x, y] }).objs.size = g3.objs.size + 1 := Heap.size_push ..
  show Q (.ref g3.objs.size) _
  rw [sz] at np ns ⊢
  exact q x y _ tk3 px py (Heap.get?_push_of_some _ kz3) (Da.frame _ _ _ u1' fun _ _ o m => Heap.get?_push_of_some _ m) (Db.frame _ _ _ u2 fun _ _ o m => Heap.get?_push_of_some _ m) np ns
    fun c o m1 m2 m3 m => Heap.get?_push_of_some _ (e3.extBut _ _ m3 (e2.extBut _ _ m2 (e1.extBut _ _ m1 m)))
theorem zipH_end {Q : PySem.Fin → Shared → Prop} (Z : ZipSep2 z U O j1 j2 f1 f2) (Da : Draws prog w A j1 f1 n1 P1 S1) (Db : Draws prog w A j2 f2 n2 P2 S2)
    (kz : IsZipHeld s.heap z U O T b) (kT : s.heap.get? T = some oT) (kU : IsTupOf2 s.heap U (.ref j1) (.ref j2)) (t1 : S1 i s.heap) (t2 : S2 i s.heap) (l1 : i ≤ n1) (l2 : i ≤ n2) (le : i = n1 ∨ i = n2)
    (q : ∀ h' tk e, (∀ c o, c ≠ z → c ≠ j1 → c ≠ j2 → s.heap.get? c = some o → h'.get? c = some o) → (∃ o, h'.get? e = some o ∧ o.cls = .type "StopIteration") → E (.ref e) { s with heap := h', toks := tk }) :
    wpAny (model prog w) A (Builtin.«zip.__next__» ⟨[.ref z], []⟩) Q E s := by
  obtain ⟨hp, g, d, tk0, os⟩ := s
  show wpAny _ _ (field (.ref z) 2 >>= _) _ _ _
  apply wpAny_bind; apply wpAny_field kz rfl (x := .bool false) rfl
  show wpAny _ _ (field (.ref z) 3 >>= _) _ _ _
  apply wpAny_bind; apply wpAny_field kz rfl (x := .ref U) rfl
  apply wpAny_bind; apply wpAny_seqItems kU rfl
  show wpAny _ _ (Builtin.SmallTypes.ownedTupleIsFree (.ref z) >>= _) _ _ _
  apply wpAny_bind; refine wpAny_tupleHeld_zip kz kT fun g1 kz1 e1 => ?_
  simp only [Bool.false_eq_true, if_false]
  apply wpAny_bind; rw [← Array.forIn_toList]; simp only [List.forIn_cons, List.forIn_nil]
  apply wpAny_bind; apply wpAny_bind; apply wpAny_holding
  replace e1 : Heap.SameBut z hp g1 := e1
  show wpAny _ _ (Builtin.SmallTypes.nextOf (.ref j1) >>= _) _ _ ⟨g1, g, d, tk0, os⟩
  by_cases h1 : i < n1
  · have i2 : i = n2 := by omega
    refine wpAny_bind (Da.item i _ _ _ h1 (Da.over t1 e1 Z.zf1) fun x g2 tk2 px u1 e2 => wpAny_pure (wpAny_pure ?_))
    replace e2 : Heap.SameBut j1 g1 g2 := e2
    apply wpAny_bind; apply wpAny_bind; apply wpAny_holding
    show wpAny _ _ (Builtin.SmallTypes.nextOf (.ref j2) >>= _) _ _ ⟨g2, g, d, tk2, os⟩
    exact wpAny_bind (Db.done ⟨g2, g, d, tk2, os⟩ _ _ (by rw [← i2]; exact Db.over (Db.over t2 e1 Z.zf2) e2 Z.sep1_2) fun g3 e m3 he => q g3 tk2 e (fun c o n1 n2 n3 x => m3 _ _ n3 (e2.extBut _ _ n2 (e1.extBut _ _ n1 x))) he)
  · have i1 : i = n1 := by omega
    exact wpAny_bind (Da.done ⟨g1, g, d, tk0, os⟩ _ _ (by rw [← i1]; exact Da.over t1 e1 Z.zf1) fun g3 e m3 he => q g3 tk0 e (fun c o n1 n2 n3 x => m3 _ _ n2 (e1.extBut _ _ n1 x)) he)
def Lives (f : List Addr) (S : Nat → Heap → Prop) : Prop := ∀ i h, S i h → ∀ c ∈ f, ∃ o, h.get? c = some o
def ZipAt (z U O j1 j2 d : Addr) (f1 f2 : List Addr) (S1 S2 : Nat → Heap → Prop) (i : Nat) (h : Heap) : Prop :=
  IsTupOf2 h U (.ref j1) (.ref j2) ∧ S1 i h ∧ S2 i h ∧ ((IsZip h z U O .none ∧ ∃ x y, IsTupOf2 h O x y) ∨ ∃ T b oT, IsZipHeld h z U O T b ∧ h.get? T = some oT ∧ T ≠ z ∧ T ≠ j1 ∧ T ≠ j2 ∧ T ≠ d)
theorem zipAt_src {d : Addr} (Z : ZipSep2 z U O j1 j2 f1 f2) (Da : Draws prog w A.in1 j1 f1 n1 P1 S1) (Db : Draws prog w A.in1 j2 f2 n2 P2 S2) (dz : d ≠ z) (dU : d ≠ U) (dO : d ≠ O) (d1 : d ∉ f1) (d2 : d ∉ f2) :
    PairSrc prog w A z d [z, O, j1, j2] (min n1 n2) (fun i x y => P1 i x ∧ P2 i y) (ZipAt z U O j1 j2 d f1 f2 S1 S2) where
  off := fun m => by
    have h1 : d ≠ j1 := fun e => d1 (e ▸ Z.mem1)
    have h2 : d ≠ j2 := fun e => d2 (e ▸ Z.mem2)
    rcases List.mem_cons.mp m with e | m
    · exact dz e
    rcases List.mem_cons.mp m with e | m
    · exact dO e
    rcases List.mem_cons.mp m with e | m
    · exact h1 e
    exact h2 (List.mem_singleton.mp m)
  frame := fun i h h' ⟨kU, t1, t2, kz⟩ k => by
    refine ⟨k _ _ (Ne.symm dU) kU, Da.frame _ _ _ t1 fun c hc o => k c o fun e => d1 (e ▸ hc), Db.frame _ _ _ t2 fun c hc o => k c o fun e => d2 (e ▸ hc), ?_⟩
    rcases kz with ⟨kz, x, y, kO⟩ | ⟨T, b, oT, kz, kT, r1, r2, r3, r4⟩
    · exact .inl ⟨k _ _ (Ne.symm dz) kz, x, y, k _ _ (Ne.symm dO) kO⟩
    · exact .inr ⟨T, b, oT, k _ _ (Ne.symm dz) kz, k _ _ r4 kT, r1, r2, r3, r4⟩
  item := fun i s Q E hi ⟨kU, t1, t2, kz⟩ hd q => by
    have l1 : i < n1 := by omega
    have l2 : i < n2 := by omega
    have lt : ∀ {c o}, s.heap.get? c = some o → s.heap.objs.size ≠ c := fun e => Nat.ne_of_gt (Heap.lt_size e)
    have m1 : s.heap.objs.size ≠ j1 := let ⟨_, e⟩ := Da.live _ _ t1; lt e
    have m2 : s.heap.objs.size ≠ j2 := let ⟨_, e⟩ := Db.live _ _ t2; lt e
    have off : ∀ {c}, c ∉ [z, O, j1, j2] → c ≠ z ∧ c ≠ O ∧ c ≠ j1 ∧ c ≠ j2 := fun m => by simpa using m
    rcases kz with ⟨kz, x0, y0, kO⟩ | ⟨T, b, oT, kz, kT, r1, r2, r3, r4⟩
    · refine wpAny_pyNext_zipD2_item Z Da Db kz kU kO t1 t2 l1 l2 fun x y h' tk px py a1 a2 a3 a4 a5 a6 k => ?_
      exact q s.heap.objs.size x y h' tk ⟨px, py⟩ (.inl ⟨_, a5, rfl, _, rfl⟩) ⟨k _ _ Z.TIz Z.TITO Z.TIi1 Z.TIi2 kU, a3, a4, .inr ⟨_, false, _, a1, a5, lt kz, m1, m2, Nat.ne_of_gt hd⟩⟩
        fun c o m e => k c o (off m).1 (off m).2.1 (off m).2.2.1 (off m).2.2.2 e
    · have hT : s.TypeIs (.ref z) "zip" := ⟨_, kz, rfl⟩
      unfold pyNext
      apply wpAny_bind; apply wpAny_attempt; apply wpAny_callSpecial?_slot (name := Str.ofString "__next__") hT F.slot_zip_next
      refine wpAny_call_entry F.slot_zip_next hT F.entry_zip_next ?_ (F.args_zip_next_1 _)
      refine zipH_item Z Da Db kz kT kU t1 t2 l1 l2 fun x y h' tk px py a1 a3 a4 a5 a6 k => wpAny_pure ?_
      exact q s.heap.objs.size x y h' tk ⟨px, py⟩ (.inl ⟨_, a5, rfl, _, rfl⟩) ⟨k _ _ Z.TIz Z.TIi1 Z.TIi2 kU, a3, a4, .inr ⟨T, true, oT, a1, k _ _ r1 r2 r3 kT, r1, r2, r3, r4⟩⟩
        fun c o m e => k c o (off m).1 (off m).2.2.1 (off m).2.2.2 e
  done := fun s Q E ⟨kU, t1, t2, kz⟩ q => by
    have le : min n1 n2 = n1 ∨ min n1 n2 = n2 := by omega
    have off : ∀ {c}, c ∉ [z, O, j1, j2] → c ≠ z ∧ c ≠ O ∧ c ≠ j1 ∧ c ≠ j2 := fun m => by simpa using m
    rcases kz with ⟨kz, x0, y0, kO⟩ | ⟨T, b, oT, kz, kT, r1, r2, r3, r4⟩
    · exact wpAny_pyNext_zipD2_end Z Da Db kz kU kO t1 t2 (Nat.min_le_left ..) (Nat.min_le_right ..) le fun h' tk k => q h' tk fun c o m e => k c o (off m).1 (off m).2.1 (off m).2.2.1 (off m).2.2.2 e
    · have hT : s.TypeIs (.ref z) "zip" := ⟨_, kz, rfl⟩
      unfold pyNext
      apply wpAny_bind; apply wpAny_attempt; apply wpAny_callSpecial?_slot (name := Str.ofString "__next__") hT F.slot_zip_next
      refine wpAny_call_entry F.slot_zip_next hT F.entry_zip_next ?_ (F.args_zip_next_1 _)
      refine zipH_end Z Da Db kz kT kU t1 t2 (Nat.min_le_left ..) (Nat.min_le_right ..) le fun h' tk e k ⟨o, ho, hc⟩ => ?_
      exact wpAny_bind (wpAny_isInstance (T := "StopIteration") (b := true) ⟨o, ho, hc⟩ isSubtype_stop (wpAny_pure (q h' tk fun c o m e => k c o (off m).1 (off m).2.2.1 (off m).2.2.2 e)))
end
structure Drw (prog : Program) (w : World) (it : Addr) (f : List Addr) (n : Nat) (P : Nat → Value → Prop) (S : Nat → Heap → Prop) : Prop where
  dr : ∀ A : Around, A.handled = none → Draws prog w A it f n P S
  fr : ∀ i h h', S i h → (∀ c ∈ f, ∀ o, h.get? c = some o → h'.get? c = some o) → S i h'
  li : Lives f S
theorem drw_list {prog : Program} {w : World} (it l : Addr) (ne : l ≠ it) (xs : Array Value) : Drw prog w it [it, l] xs.size (fun i v => xs[i]? = some v) (fun i h => h.IsListIter it l i ∧ h.IsList l xs) :=
  ⟨fun A hh => Draws.list hh it l ne xs, fun _ _ _ t k => ⟨t.1.at fun o m => k it (by simp) o m, t.2.at fun o m => k l (by simp) o m⟩, fun i h t c hc => by
    obtain ⟨⟨o1, e1, _⟩, o2, e2, _⟩ := t
    have hc : c = it ∨ c = l := by simpa using hc
    rcases hc with e | e
    · exact ⟨o1, e ▸ e1⟩
    · exact ⟨o2, e ▸ e2⟩⟩
theorem drw_tuple {prog : Program} {w : World} (it l : Addr) (ne : l ≠ it) (xs : Array Value) : Drw prog w it [it, l] xs.size (fun i v => xs[i]? = some v) (fun i h => h.IsTupleIter it l i ∧ h.IsTuple l xs) :=
  ⟨fun A hh => Draws.tuple hh it l ne xs, fun _ _ _ t k => ⟨t.1.at fun o m => k it (by simp) o m, t.2.at fun o m => k l (by simp) o m⟩, fun i h t c hc => by
    obtain ⟨⟨o1, e1, _⟩, o2, e2, _⟩ := t
    have hc : c = it ∨ c = l := by simpa using hc
    rcases hc with e | e
    · exact ⟨o1, e ▸ e1⟩
    · exact ⟨o2, e ▸ e2⟩⟩
theorem zipArg {prog : Program} {w : World} {z U O j1 j2 : Addr} {f1 f2 : List Addr} {n1 n2 : Nat} {P1 P2 : Nat → Value → Prop} {S1 S2 : Nat → Heap → Prop} (Z : ZipSep2 z U O j1 j2 f1 f2) (Da : Drw prog w j1 f1 n1 P1 S1) (Db : Drw prog w j2 f2 n2 P2 S2) :
    PairArg prog w "zip" z (z :: U :: O :: (f1 ++ f2)) [z, O, j1, j2] (min n1 n2) (fun i x y => P1 i x ∧ P2 i y) (fun h => IsZip h z U O .none ∧ IsTupOf2 h U (.ref j1) (.ref j2) ∧ (∃ x y, IsTupOf2 h O x y) ∧ S1 0 h ∧ S2 0 h) where
  type := fun s ok => ⟨_, ok.1, rfl⟩
  notDict := by decide
  keep := fun h h' ⟨kz, kU, ⟨x, y, kO⟩, t1, t2⟩ k => ⟨k _ _ kz, k _ _ kU, ⟨x, y, k _ _ kO⟩, Da.fr _ _ _ t1 fun c _ o => k c o, Db.fr _ _ _ t2 fun c _ o => k c o⟩
  there := fun h ⟨kz, kU, ⟨x, y, kO⟩, t1, t2⟩ c hc => by
    rcases List.mem_cons.mp hc with e | hc
    · exact ⟨_, e ▸ kz⟩
    rcases List.mem_cons.mp hc with e | hc
    · exact ⟨_, e ▸ kU⟩
    rcases List.mem_cons.mp hc with e | hc
    · exact ⟨_, e ▸ kO⟩
    rcases List.mem_append.mp hc with m | m
    · exact Da.li _ _ t1 c m
    · exact Db.li _ _ t2 c m
  sub := fun c hc => by
    have hc : c = z ∨ c = O ∨ c = j1 ∨ c = j2 := by simpa using hc
    rcases hc with e | e | e | e <;> subst e
    · simp
    · simp
    · simp [Z.mem1]
    · simp [Z.mem2]
  noKeys := fun A s Q E hA ok h => getAttrOr_miss_zip ok.1 rfl rfl rfl zip_no_keys (by decide +kernel) hA h
  iter := fun A s d Q E hA ⟨kz, kU, ⟨x, y, kO⟩, t1, t2⟩ hd hn q => by
    have hn : d ≠ z ∧ d ≠ U ∧ d ≠ O ∧ d ∉ f1 ∧ d ∉ f2 := by simpa using hn
    exact wpAny_pyIter_zip kz (q z [z, O, j1, j2] _ s.heap s.toks (zipAt_src Z (Da.dr _ hA) (Db.dr _ hA) hn.1 hn.2.1 hn.2.2.1 hn.2.2.2.1 hn.2.2.2.2) ⟨kU, t1, t2, .inl ⟨kz, x, y, kO⟩⟩ (fun _ _ m => m) fun c hc => .inl hc)
end DL
namespace DL
open PySem PySem.Spec L2
open PyProof.Rows hiding St
section
variable {κ α : Type} [DecidableEq κ]
def dGet (kvs : List (κ × α)) (k : κ) : Option α := (kvs.find? fun p => decide (p.1 = k)).map (·.2)
def dHas (kvs : List (κ × α)) (k : κ) : Bool := (dGet kvs k).isSome
def dPut (kvs : List (κ × α)) (k : κ) (x : α) : List (κ × α) :=
  if (kvs.any fun p => decide (p.1 = k)) = true then kvs.map (fun p => if p.1 = k then (p.1, x) else p) else kvs ++ [(k, x)]
def dPutG (kvs : List (κ × α)) (k : κ) (x : α) : Option (List (κ × α)) := if kvs.length < line then some (dPut kvs k x) else none
def dMerge (kvs more : List (κ × α)) : List (κ × α) := more.foldl (fun a p => dPut a p.1 p.2) kvs
def dZip (ks : List κ) (xs : List α) : List (κ × α) := dMerge [] (ks.zip xs)
end
structure KeyT (κ : Type) where
  d : κ → D
  k : κ → Key
  inj : ∀ a b, k a = k b → a = b
  sc : ∀ a, (d a).sc = true
  rep : ∀ (K : PySem.W.Frag) (B : Hp) a v, Rep K B (d a) v → v = kV (k a)
def kI : KeyT Int := ⟨D.int, Sum.inl, fun _ _ h => Sum.inl.inj h, fun _ => rfl, fun _ _ _ _ r => by cases r; rfl⟩
def kS : KeyT Str := ⟨D.str, Sum.inr, fun _ _ h => Sum.inr.inj h, fun _ => rfl, fun _ _ _ _ r => by cases r; rfl⟩
section
variable {κ α : Type} [DecidableEq κ] {c : KeyT κ} {f : α → D} {K : PySem.W.Frag} {F B H : Hp}
abbrev enP (c : KeyT κ) (f : α → D) (kvs : List (κ × α)) : List (Key × D) := kvs.map fun p => (c.k p.1, f p.2)
abbrev enK (c : KeyT κ) (f : α → D) (kvs : List (κ × α)) : D := .dK (enP c f kvs)
theorem keyT_dec {a b : κ} : decide (c.k a = c.k b) = decide (a = b) := by
  by_cases h : a = b
  · subst h; simp
  · rw [decide_eq_false h, decide_eq_false fun e => h (c.inj _ _ e)]
theorem repP_get {k : κ} : ∀ {kvs : List (κ × α)} {us : List (Key × V)}, RepP K B Key (enP c f kvs) us →
    (∀ x, dGet kvs k = some x → ∃ v, valV us (c.k k) = some v ∧ Rep K B (f x) v) ∧ (dGet kvs k = none → valV us (c.k k) = none)
  | [], _, .nil => ⟨fun x h => (nomatch h), fun _ => rfl⟩
  | p :: kvs, _, .cons (v := v) r t => by
    obtain ⟨h1, h2⟩ := repP_get (k := k) t
    by_cases e : p.1 = k
    · have eg : dGet (p :: kvs) k = some p.2 := by simp [dGet, List.find?_cons, e]
      rw [eg]
      exact ⟨fun x h => by cases h; exact ⟨v, valV_pos (by rw [e]), r⟩, fun h => (nomatch h)⟩
    · have eg : dGet (p :: kvs) k = dGet kvs k := by simp [dGet, List.find?_cons, e]
      rw [eg, valV_neg fun z => e (c.inj _ _ z)]
      exact ⟨h1, h2⟩
theorem repP_any {k : κ} : ∀ {kvs : List (κ × α)} {us : List (Key × V)}, RepP K B Key (enP c f kvs) us → (us.any fun p => decide (p.1 = c.k k)) = kvs.any fun p => decide (p.1 = k)
  | [], _, .nil => rfl
  | p :: kvs, _, .cons r t => by rw [List.any_cons, List.any_cons, repP_any t]; congr 1; exact keyT_dec
theorem repP_map {k : κ} {x : α} {v : V} (rx : Rep K B (f x) v) : ∀ {kvs : List (κ × α)} {us : List (Key × V)}, RepP K B Key (enP c f kvs) us →
    RepP K B Key (enP c f (kvs.map fun p => if p.1 = k then (p.1, x) else p)) (us.map fun p => if p.1 = c.k k then (p.1, v) else p)
  | [], _, .nil => .nil
  | p :: kvs, _, .cons r t => by
    have ih := repP_map (k := k) rx t
    unfold enP at ih ⊢
    rw [List.map_cons, List.map_cons, List.map_cons]
    by_cases e : p.1 = k
    · rw [if_pos e, if_pos (show c.k p.1 = c.k k by rw [e])]; exact .cons rx ih
    · rw [if_neg e, if_neg (show ¬ c.k p.1 = c.k k from fun z => e (c.inj _ _ z))]; exact .cons r ih
theorem repP_snoc {κ : Type} {k : κ} {d : D} {v : V} (r : Rep K B d v) : ∀ {ds : List (κ × D)} {us : List (κ × V)}, RepP K B κ ds us → RepP K B κ (ds ++ [(k, d)]) (us ++ [(k, v)])
  | [], _, .nil => .cons r .nil
  | _ :: _, _, .cons q t => .cons q (repP_snoc r t)
theorem repP_put {k : κ} {x : α} {v : V} (rx : Rep K B (f x) v) {kvs : List (κ × α)} {us : List (Key × V)} (t : RepP K B Key (enP c f kvs) us) : RepP K B Key (enP c f (dPut kvs k x)) (putK us (c.k k) v) := by
  unfold dPut putK
  rw [repP_any t]
  by_cases a : (kvs.any fun p => decide (p.1 = k)) = true
  · rw [if_pos a, if_pos a]; exact repP_map rx t
  · rw [if_neg a, if_neg a]
    have := repP_snoc (k := c.k k) rx t
    unfold enP at this ⊢
    rw [List.map_append]
    exact this
theorem repP_merge : ∀ {more kvs : List (κ × α)} {rs us : List (Key × V)}, RepP K B Key (enP c f more) rs → RepP K B Key (enP c f kvs) us → RepP K B Key (enP c f (dMerge kvs more)) (mergeK us rs)
  | [], _, _, _, .nil, t => t
  | p :: more, kvs, _, us, .cons (v := v) (vs := rs) r q, t => repP_merge (more := more) (rs := rs) (us := putK us (c.k p.1) v) q (repP_put r t)
theorem repP_zip : ∀ {ks : List κ} {xs : List α} {vs : List V}, Reps K B (xs.map f) vs → RepP K B Key (enP c f (ks.zip xs)) ((ks.map c.k).zip vs)
  | [], _, _, _ => .nil
  | _ :: _, [], _, .nil => .nil
  | k :: ks, x :: xs, _, .cons r t => .cons r (repP_zip t)
end
def repPD (K : PySem.W.Frag) (F B H : Hp) : Kd → List (Key × D) → List (Key × V) → Prop
  | .brw, ds, vs => RepP K B Key ds vs
  | .drt, ds, vs => RepP K H Key ds vs
  | _, ds, vs => RepP K F Key ds vs
section
variable {K : PySem.W.Frag} {F B H : Hp} {k : Kd} {kvs : List (Key × D)} {v : V}
theorem RepS.dK (hs : Hs F B H) (r : RepS K F B H k (.dK kvs) v) : ∃ a us, v = .ref a ∧ H a = some (.dK us) ∧ repPD K F B H k.kid kvs us := by
  cases k with
  | drt => cases (show Rep K H (.dK kvs) v from r) with
    | dK s t => exact ⟨_, _, rfl, s, t⟩
  | brw => cases (show Rep K B (.dK kvs) v from r) with
    | dK s t => exact ⟨_, _, rfl, hs.bh _ _ s, t⟩
  | own => exact r
  | cln => exact r
  | shl => exact r
end
section
variable {κ α : Type} [DecidableEq κ] {c : KeyT κ} {f : α → D} {K : PySem.W.Frag} {F B H : Hp} {kd : Kd}
theorem repPD_get {k : κ} {kvs : List (κ × α)} {us : List (Key × V)} (h : kd = .cln ∨ kd = .brw ∨ kd = .drt) (r : repPD K F B H kd (enP c f kvs) us) :
    (∀ x, dGet kvs k = some x → ∃ v, valV us (c.k k) = some v ∧ ∀ H0 : Hp, RepK K F B H0 H kd (f x) v) ∧ (dGet kvs k = none → valV us (c.k k) = none) := by
  have go : ∀ {Z : Hp}, RepP K Z Key (enP c f kvs) us → (∀ v x, Rep K Z (f x) v → ∀ H0 : Hp, RepK K F B H0 H kd (f x) v) →
      (∀ x, dGet kvs k = some x → ∃ v, valV us (c.k k) = some v ∧ ∀ H0 : Hp, RepK K F B H0 H kd (f x) v) ∧ (dGet kvs k = none → valV us (c.k k) = none) := fun r m => by
    obtain ⟨h1, h2⟩ := repP_get (k := k) r
    exact ⟨fun x e => by obtain ⟨v, e1, e2⟩ := h1 x e; exact ⟨v, e1, m v x e2⟩, h2⟩
  rcases h with h | h | h <;> subst h
  · exact go (show RepP K F Key _ us from r) fun _ _ z _ => z
  · exact go (show RepP K B Key _ us from r) fun _ _ z _ => z
  · exact go (show RepP K H Key _ us from r) fun _ _ z _ => z
theorem repPD_len {kvs : List (Key × D)} {us : List (Key × V)} (r : repPD K F B H kd kvs us) : us.length = kvs.length := by
  cases kd <;> exact RepP.length r
end
section
variable {X : Cx} {env : DEnv} {a b e : Expr} {k1 k2 k3 : Kd} {pos apos : Pos} {κ α : Type} [DecidableEq κ] {c : KeyT κ} {f : α → D} {kvs : List (κ × α)} {k : κ} {x : α}
theorem dget_ (hu : X.A.units + 64 < cLine) (ha : Ev X env a (enK c f kvs) k1) (hb : Ev X env b (c.d k) k2) (h : dGet kvs k = some x) (hs : NoSl b) : Ev X env (.Subscript a b pos) (f x) k1.kid :=
  ⟨(pe_dget (by omega) ha.st.pe (hb.scal (c.sc k)).pe hs).mono fun σ H Q ⟨F, B, E, q⟩ => ⟨F, B, E, fun v H1 F1 B1 g1 r1 => ⟨F1, B1, E.grow g1, fun u H2 F2 B2 g2 r2 => by
    obtain ⟨p, us, rfl, e1, r⟩ := RepS.dK g2.hs (RepK.any0 (RepK.growS g2 r1) : RepS X.K F2 B2 H2 k1 _ _)
    obtain ⟨w, h1, h2⟩ := (repPD_get (k := k) (kid_cases k1) r).1 x h
    obtain rfl := c.rep _ _ _ _ (show Rep X.K F2 (c.d k) u from r2)
    exact ⟨p, w, rfl, by rw [← h1]; exact DGet.k e1, q w H2 F2 B2 (g1.trans g2) (h2 _)⟩⟩⟩⟩
theorem ev_din (hu : X.A.units + 64 < cLine) (ha : Ev X env b (c.d k) k2) (hb : Ev X env a (enK c f kvs) k1) (hm : behindInMarks .In a = false := by rfl) : Ev X env (.Compare b [.In] [a] pos) (.bl (dHas kvs k)) .cln :=
  ⟨(pe_cmp (pc_din (by omega) (ha.scal (c.sc k)).pe hb.st.pe) hm).mono fun σ H Q ⟨F, B, E, q⟩ => ⟨F, B, E, fun u H1 F1 B1 g1 r1 => ⟨F1, B1, E.grow g1, fun v H2 F2 B2 g2 r2 => by
    obtain ⟨p, us, rfl, e1, r⟩ := RepS.dK g2.hs (RepK.any0 r2 : RepS X.K F2 B2 H2 k1 _ _)
    obtain ⟨h1, h2⟩ := repPD_get (k := k) (kid_cases k1) r
    obtain rfl := c.rep _ _ _ _ (show Rep X.K F1 (c.d k) u from r1)
    refine ⟨p, _, rfl, DGet.k e1, ?_⟩
    have : (valV us (c.k k)).isSome = dHas kvs k := by
      unfold dHas
      cases z : dGet kvs k with
      | none => rw [h2 z]; rfl
      | some x => obtain ⟨w, e, _⟩ := h1 x z; rw [e]; rfl
    rw [this]
    exact q _ H2 F2 B2 (g1.trans g2) (.bl _)⟩⟩⟩
theorem ev_dnin (hu : X.A.units + 64 < cLine) (ha : Ev X env b (c.d k) k2) (hb : Ev X env a (enK c f kvs) k1) (hm : behindInMarks .NotIn a = false := by rfl) : Ev X env (.Compare b [.NotIn] [a] pos) (.bl (!dHas kvs k)) .cln :=
  ⟨(pe_cmp (pc_dnotin (by omega) (ha.scal (c.sc k)).pe hb.st.pe) hm).mono fun σ H Q ⟨F, B, E, q⟩ => ⟨F, B, E, fun u H1 F1 B1 g1 r1 => ⟨F1, B1, E.grow g1, fun v H2 F2 B2 g2 r2 => by
    obtain ⟨p, us, rfl, e1, r⟩ := RepS.dK g2.hs (RepK.any0 r2 : RepS X.K F2 B2 H2 k1 _ _)
    obtain ⟨h1, h2⟩ := repPD_get (k := k) (kid_cases k1) r
    obtain rfl := c.rep _ _ _ _ (show Rep X.K F1 (c.d k) u from r1)
    refine ⟨p, _, rfl, DGet.k e1, ?_⟩
    have : (valV us (c.k k)).isSome = dHas kvs k := by
      unfold dHas
      cases z : dGet kvs k with
      | none => rw [h2 z]; rfl
      | some x => obtain ⟨w, e, _⟩ := h1 x z; rw [e]; rfl
    rw [this]
    exact q _ H2 F2 B2 (g1.trans g2) (.bl _)⟩⟩⟩
theorem et_din (hu : X.A.units + 64 < cLine) (ha : Ev X env b (c.d k) k2) (hb : Ev X env a (enK c f kvs) k1) (hm : behindInMarks .In a = false := by rfl) : Et X env (.Compare b [.In] [a] pos) (dHas kvs k) :=
  ⟨(pt_cmp (pc_din (by omega) (ha.scal (c.sc k)).pe hb.st.pe) hm).mono fun σ H Q ⟨F, B, E, q⟩ => ⟨F, B, E, fun u H1 F1 B1 g1 r1 => ⟨F1, B1, E.grow g1, fun v H2 F2 B2 g2 r2 => by
    obtain ⟨p, us, rfl, e1, r⟩ := RepS.dK g2.hs (RepK.any0 r2 : RepS X.K F2 B2 H2 k1 _ _)
    obtain ⟨h1, h2⟩ := repPD_get (k := k) (kid_cases k1) r
    obtain rfl := c.rep _ _ _ _ (show Rep X.K F1 (c.d k) u from r1)
    refine ⟨p, _, rfl, DGet.k e1, ?_⟩
    have : (valV us (c.k k)).isSome = dHas kvs k := by
      unfold dHas
      cases z : dGet kvs k with
      | none => rw [h2 z]; rfl
      | some x => obtain ⟨w, e, _⟩ := h1 x z; rw [e]; rfl
    rw [this]
    exact ⟨_, rfl, q H2 F2 B2 (g1.trans g2)⟩⟩⟩⟩
end
section
variable {K : PySem.W.Frag} {F B H : Hp}
theorem repPD_mono {kk : Kd} {ds : List (Key × D)} {us : List (Key × V)} {F' B' H' : Hp} (f : Same F F') (b : Same B B') (h : Same H H') (r : repPD K F B H kk ds us) : repPD K F' B' H' kk ds us := by
  cases kk with
  | brw => exact RepP.mono b (show RepP K B Key ds us from r)
  | drt => exact RepP.mono h (show RepP K H Key ds us from r)
  | own => exact RepP.mono f (show RepP K F Key ds us from r)
  | cln => exact RepP.mono f (show RepP K F Key ds us from r)
  | shl => exact RepP.mono f (show RepP K F Key ds us from r)
theorem new_dK {kk : Kd} {ds : List (Key × D)} {us : List (Key × V)} {Q : VK} (hk : kk = .cln ∨ kk = .brw ∨ kk = .drt) (s : Hs F B H) (r : repPD K F B H kk ds us) (q : Fin K F B H kk.mk (.dK ds) Q) :
    ∀ p, H p = none → Q (.ref p) (upd H p (.dK us)) := fun p n => by
  rcases hk with h | h | h <;> subst h
  · exact q (.ref p) _ _ _ (grow_own s n rfl) ⟨p, rfl, n, s.bh.free n, us, upd_same, r⟩
  · exact q (.ref p) _ _ _ (grow_brw s n rfl) (Rep.dK upd_same (RepP.mono (same_upd (s.bh.free n)) (show RepP K B Key ds us from r)))
  · exact q (.ref p) _ _ _ (grow_own s n rfl) (Rep.dK upd_same (RepP.mono (same_upd n) (show RepP K H Key ds us from r)))
end
def tDZ (K : PySem.W.Frag) (ta : TA) : TE := fun σ H Q => ta σ H fun vs H1 => ∃ (a b : Addr) (ks : List Key) (ys : List V), vs = [.ref a, .ref b] ∧ ((SqL K H1 a (ks.map kV) ∧ SqL K H1 b ys) ∨ (SqT K H1 a (ks.map kV) ∧ SqT K H1 b ys)) ∧
  ∀ p, H1 p = none → Q (.ref p) (upd H1 p (.dK (mergeK [] (ks.zip ys))))
theorem kv_zip : ∀ {ks : List Key} {ys : List V} {us : List Value}, Vals ys us → KV (ks.zip ys) (ks.zip us)
  | [], _, _, _ => .nil
  | _ :: _, _, _, .nil => .nil
  | _ :: _, _, _, .cons h t => .cons ⟨rfl, h⟩ (kv_zip t)
theorem key_at {P : Program} {w : World} : ∀ {ks : List Key} {us : List Value} {i : Nat} {u : Value}, Vals (ks.map kV) us → us[i]? = some u → ∃ k, ks[i]? = some k ∧ (mixKind P w).is k u = true
  | [], _, i, u, .nil, e => by simp at e
  | k :: ks, _, 0, u, .cons h t, e => ⟨k, rfl, by cases e; exact kV_is h⟩
  | k :: ks, _, i + 1, u, .cons h t, e => by
    obtain ⟨k', e1, e2⟩ := key_at (i := i) t (by simpa using e)
    exact ⟨k', by simpa using e1, e2⟩
section
variable {X : Cx}
theorem sep_of (n a b : Nat) (ha : a < n) (hb : b < n) : ZipSep2 (n+4) (n+2) (n+3) n (n+1) [n, a] [n+1, b] where
  TIz := by show (_ : Nat) ≠ _; omega
  TOz := by show (_ : Nat) ≠ _; omega
  TITO := by show (_ : Nat) ≠ _; omega
  TIi1 := by show (_ : Nat) ≠ _; omega
  mem1 := by simp
  zf1 := fun m => by have m : (n + 4 : Nat) = n ∨ (n + 4 : Nat) = a := by simpa using m
                     omega
  Tf1 := fun m => by have m : (n + 3 : Nat) = n ∨ (n + 3 : Nat) = a := by simpa using m
                     omega
  TIi2 := by show (_ : Nat) ≠ _; omega
  mem2 := by simp
  zf2 := fun m => by have m : (n + 4 : Nat) = n + 1 ∨ (n + 4 : Nat) = b := by simpa using m
                     omega
  Tf2 := fun m => by have m : (n + 3 : Nat) = n + 1 ∨ (n + 3 : Nat) = b := by simpa using m
                     omega
  sep1_2 := fun m => by have m : (n : Nat) = n + 1 ∨ (n : Nat) = b := by simpa using m
                        omega
  sep2_1 := fun m => by have m : (n + 1 : Nat) = n ∨ (n + 1 : Nat) = a := by simpa using m
                        omega
theorem off_of (n c : Nat) (h : c < n) : c ∉ ([n + 4, n + 3, n, n + 1] : List Addr) := fun m => by
  have m : c = n + 4 ∨ c = n + 3 ∨ c = n ∨ c = n + 1 := by simpa using m
  omega
theorem dz_end {pins : List (Addr × Obj)} {σ : L2.St} {H : Hp} {s1 : Shared} {a b : Addr} {ks : List Key} {ys : List V} {us ws : List Value} {Q : VK} {E : Value → Shared → Prop} {S1 S2 : Nat → Heap → Prop} {h' : Heap} {oa ob : Obj}
    (hc : X.calm = true) (I : Inv X pins σ H s1) (r1 : Vals (ks.map kV) us) (r2 : Vals ys ws) (hz : ws.length ≤ sizeLine) (la : s1.heap.get? a = some oa) (lb : s1.heap.get? b = some ob)
    (Da : Drw X.prog X.w s1.heap.objs.size [s1.heap.objs.size, a] us.length (fun i v => us.toArray[i]? = some v) S1) (Db : Drw X.prog X.w (s1.heap.objs.size + 1) [s1.heap.objs.size + 1, b] ws.length (fun i v => ws.toArray[i]? = some v) S2)
    (kz : IsZip h' (s1.heap.objs.size + 4) (s1.heap.objs.size + 2) (s1.heap.objs.size + 3) .none) (kU : IsTupOf2 h' (s1.heap.objs.size + 2) (.ref s1.heap.objs.size) (.ref (s1.heap.objs.size + 1))) (kO : IsTupOf2 h' (s1.heap.objs.size + 3) .none .none)
    (t1 : S1 0 h') (t2 : S2 0 h') (sz : h'.objs.size = s1.heap.objs.size + 5) (k : ∀ c o, s1.heap.get? c = some o → h'.get? c = some o)
    (q : ∀ p, H p = none → Q (.ref p) (upd H p (.dK (mergeK [] (ks.zip ys))))) :
    wpAny (model X.prog X.w) X.A (call (.type "dict") [.ref (s1.heap.objs.size + 4)]) (EP X pins σ Q) E { s1 with heap := h' } := by
  have ha := Heap.lt_size la
  have hb := Heap.lt_size lb
  have Z := sep_of _ a b ha hb
  have lus : us.length = ks.length := by rw [← r1.length, List.length_map]
  refine call_dict_pairs (knd := mixKind X.prog X.w) (kvs := ks.zip ws) (zipArg Z Da Db) (I.ok.hd hc) (show IsZip h' _ _ _ _ ∧ _ from ⟨kz, kU, ⟨_, _, kO⟩, t1, t2⟩) ⟨by rw [List.length_zip, lus], fun i x y ⟨e1, e2⟩ => ?_⟩ (Nat.le_trans (Nat.min_le_right ..) hz) fun h2 tk hd keep => ?_
  · obtain ⟨k', e3, e4⟩ := key_at (P := X.prog) (w := X.w) (i := i) r1 (by simpa using e1)
    exact ⟨k', by rw [List.getElem?_zip_eq_some]; exact ⟨e3, by simpa using e2⟩, e4⟩
  · have hlen : (mergeK [] (ks.zip ys)).length ≤ sizeLine := by
      refine Nat.le_trans (length_mergeK _ _) ?_
      rw [List.length_zip, List.length_nil, Nat.zero_add, r2.length]
      exact Nat.le_trans (Nat.min_le_right ..) hz
    have hs : s1.heap.objs.size ≤ h'.objs.size := by omega
    have hm : (h'.objs.size == sysModules) = false := beq_eq_false_iff_ne.mpr (Nat.ne_of_gt (Nat.lt_of_lt_of_le I.big hs))
    have up : ∀ c o, s1.heap.get? c = some o → h2.get? c = some o := fun c o e => by
      have hc := Heap.lt_size e
      exact keep c o (off_of _ _ hc) (k c o e)
    exact ⟨.ref h'.objs.size, upd H h'.objs.size (.dK (mergeK [] (ks.zip ys))), I.laid (t' := tk) up hs (show ObjOk X.prog X.w _ _ _ (.dK (mergeK [] (ks.zip ys))) from ⟨hlen, hm, merged [] (ks.zip ws), KV.merge (kv_zip r2) .nil, hd⟩), rfl, q _ (I.hok.fresh hs)⟩
theorem pe_dictZip {e e2 : Expr} {ta : TA} {p p2 pos pos2 : Pos} (hc : X.calm = true) (bd : Bn X "dict" (.type "dict")) (hg2 : Gl X "zip") (hm2 : X.mg "zip" = none) (ha : PA X [e, e2] ta)
    (hs : starEach [e, e2] X.env = (false, eval e X.env) :: starEach [e2] X.env) (hpl : (backTo pos2 (starEach [e2] X.env)).any (·.1) = false)
    (he : starEach [.Call (.Name "zip" p2) [e, e2] [] pos2] X.env = [(false, eval (.Call (.Name "zip" p2) [e, e2] [] pos2) X.env)]) :
    PE X (.Call (.Name "dict" p) [.Call (.Name "zip" p2) [e, e2] [] pos2] [] pos) (tDZ X.K ta) := by
  refine ⟨fun pins s σ H Q I h => ?_⟩
  refine wpAny_Call_Name_kw (ld_blt I bd.gl bd.mg bd.bt ?_ bd.nn bd.db)
  refine PyProof.Rows.callWith_type1 ?_ he rfl
  rw [he]
  refine Calls.spliced_cons (PyProof.Rows.Call_ (ld_blt I hg2 hm2 PyProof.Rows.boot_zip (PyProof.Rows.callWith_type1 (thn (ha.run pos2 pins s σ H _ I h) fun us s1 ⟨vs, H1, I1, r1, q1⟩ => ?_) hs hpl)))
  obtain ⟨a, b, ks, ys, ex, w, q⟩ := q1
  subst ex
  cases r1 with
  | cons r rr => cases rr with
    | cons r' rr =>
      cases rr; cases r; cases r'
      rcases w with ⟨w1, w2⟩ | ⟨w1, w2⟩
      · obtain ⟨i1, v1, p1, z1⟩ := I1.list w1
        obtain ⟨i2, v2, p2, z2⟩ := I1.list w2
        obtain ⟨o1, g1, _⟩ := id p1.isList
        obtain ⟨o2, g2, _⟩ := id p2.isList
        have n1 : a ≠ s1.heap.objs.size := Nat.ne_of_lt (Heap.lt_size g1)
        have n2 : b ≠ s1.heap.objs.size + 1 := Nat.ne_of_lt (Nat.lt_succ_of_lt (Heap.lt_size g2))
        refine zip_begins2 (begins_list a i1.toArray) (begins_list b i2.toArray) p1.isList p2.isList fun h' kz kU kO t1 t2 sz k => PyProof.Rows.spliced_none (env := X.env) ?_
        have Da := drw_list (prog := X.prog) (w := X.w) s1.heap.objs.size a n1 i1.toArray
        have Db := drw_list (prog := X.prog) (w := X.w) (s1.heap.objs.size + 1) b n2 i2.toArray
        rw [List.size_toArray] at Da Db
        exact dz_end hc I1 v1 v2 (by rw [← v2.length]; exact z2) g1 g2 Da Db kz kU kO ⟨⟨_, t1, rfl, rfl⟩, p1.isList.at fun o m => k _ _ m⟩ ⟨⟨_, t2, rfl, rfl⟩, p2.isList.at fun o m => k _ _ m⟩ sz k q
      · obtain ⟨i1, v1, p1, z1⟩ := I1.tuple w1
        obtain ⟨i2, v2, p2, z2⟩ := I1.tuple w2
        obtain ⟨o1, g1, _⟩ := id p1
        obtain ⟨o2, g2, _⟩ := id p2
        have n1 : a ≠ s1.heap.objs.size := Nat.ne_of_lt (Heap.lt_size g1)
        have n2 : b ≠ s1.heap.objs.size + 1 := Nat.ne_of_lt (Nat.lt_succ_of_lt (Heap.lt_size g2))
        refine zip_begins2 (begins_tuple a i1.toArray) (begins_tuple b i2.toArray) p1 p2 fun h' kz kU kO t1 t2 sz k => PyProof.Rows.spliced_none (env := X.env) ?_
        have Da := drw_tuple (prog := X.prog) (w := X.w) s1.heap.objs.size a n1 i1.toArray
        have Db := drw_tuple (prog := X.prog) (w := X.w) (s1.heap.objs.size + 1) b n2 i2.toArray
        rw [List.size_toArray] at Da Db
        exact dz_end hc I1 v1 v2 (by rw [← v2.length]; exact z2) g1 g2 Da Db kz kU kO ⟨⟨_, t1, rfl, rfl⟩, Heap.IsTuple.at p1 fun o m => k _ _ m⟩ ⟨⟨_, t2, rfl, rfl⟩, Heap.IsTuple.at p2 fun o m => k _ _ m⟩ sz k q
end
section
variable {X : Cx} {env : DEnv} {a b e : Expr} {k1 k2 k3 : Kd} {pos apos cpos : Pos} {κ α : Type} [DecidableEq κ] {c : KeyT κ} {f : α → D} {kvs : List (κ × α)} {k : κ} {x : α}
theorem reps_keys {K : PySem.W.Frag} {B : Hp} {c : KeyT κ} : ∀ {ks : List κ} {vs : List V}, Reps K B (ks.map c.d) vs → vs = (ks.map c.k).map kV
  | [], _, .nil => rfl
  | k :: ks, _, .cons r t => by rw [reps_keys t, c.rep _ _ _ _ r]; rfl
theorem dzip_fin {F B H : Hp} {kk : Kd} {ks : List κ} {xs : List α} {ys : List V} {Q : VK} (hk : kk = .cln ∨ kk = .brw ∨ kk = .drt) (s : Hs F B H) (r : repsK X.K F B H kk (xs.map f) ys) (q : Fin X.K F B H kk.mk (enK c f (dZip ks xs)) Q) :
    ∀ p, H p = none → Q (.ref p) (upd H p (.dK (mergeK [] ((ks.map c.k).zip ys)))) := by
  refine new_dK hk s ?_ q
  rcases hk with h | h | h <;> subst h
  · exact repP_merge (kvs := []) (repP_zip (show Reps X.K F _ _ from r)) .nil
  · exact repP_merge (kvs := []) (repP_zip (show Reps X.K B _ _ from r)) .nil
  · exact repP_merge (kvs := []) (repP_zip (show Reps X.K H _ _ from r)) .nil
theorem dzipL_ {ks : List κ} {xs : List α} {p p2 pos2 : Pos} (hc : X.calm = true) (bd : Bn X "dict" (.type "dict")) (hg2 : Gl X "zip") (hm2 : X.mg "zip" = none)
    (ha : Ev X env a (.lst (ks.map c.d)) k1) (hb : Ev X env b (.lst (xs.map f)) k2)
    (hs : starEach [a, b] X.env = (false, eval a X.env) :: starEach [b] X.env) (hs1 : starEach [b] X.env = [(false, eval b X.env)])
    (he : starEach [.Call (.Name "zip" p2) [a, b] [] pos2] X.env = [(false, eval (.Call (.Name "zip" p2) [a, b] [] pos2) X.env)]) :
    Ev X env (.Call (.Name "dict" p) [.Call (.Name "zip" p2) [a, b] [] pos2] [] pos) (enK c f (dZip ks xs)) k2.kid.mk :=
  ⟨(pe_dictZip hc bd hg2 hm2 (pa_cons ha.st.pe (pa_cons hb.st.pe pa_nil hs1) hs) hs (by rw [hs1]; rfl) he).mono fun σ H Q ⟨F, B, E, q⟩ => ⟨F, B, E, fun v H1 F1 B1 g1 r1 => ⟨F1, B1, E.grow g1, fun u H2 F2 B2 g2 r2 => by
    obtain ⟨p, us, rfl, e1, r⟩ := RepS.lst g2.hs (RepK.any0 (RepK.growS g2 r1) : RepS X.K F2 B2 H2 k1 _ _)
    obtain ⟨p', ys, rfl, e2, r'⟩ := RepS.lst g2.hs (RepK.any0 r2 : RepS X.K F2 B2 H2 k2 _ _)
    obtain rfl := reps_keys (repsK.reps g2.hs r)
    exact ⟨p, p', _, ys, rfl, .inl ⟨SqL.of e1, SqL.of e2⟩, dzip_fin (kid_cases k2) g2.hs r' fun w H3 F3 B3 g3 r3 => q w H3 F3 B3 ((g1.trans g2).trans g3) (RepK.back (g1.h.trans g2.h) r3)⟩⟩⟩⟩
theorem dzipT_ {ks : List κ} {xs : List α} {p p2 pos2 : Pos} (hc : X.calm = true) (bd : Bn X "dict" (.type "dict")) (hg2 : Gl X "zip") (hm2 : X.mg "zip" = none)
    (ha : Ev X env a (.tup (ks.map c.d)) k1) (hb : Ev X env b (.tup (xs.map f)) k2)
    (hs : starEach [a, b] X.env = (false, eval a X.env) :: starEach [b] X.env) (hs1 : starEach [b] X.env = [(false, eval b X.env)])
    (he : starEach [.Call (.Name "zip" p2) [a, b] [] pos2] X.env = [(false, eval (.Call (.Name "zip" p2) [a, b] [] pos2) X.env)]) :
    Ev X env (.Call (.Name "dict" p) [.Call (.Name "zip" p2) [a, b] [] pos2] [] pos) (enK c f (dZip ks xs)) k2.kid.mk :=
  ⟨(pe_dictZip hc bd hg2 hm2 (pa_cons ha.st.pe (pa_cons hb.st.pe pa_nil hs1) hs) hs (by rw [hs1]; rfl) he).mono fun σ H Q ⟨F, B, E, q⟩ => ⟨F, B, E, fun v H1 F1 B1 g1 r1 => ⟨F1, B1, E.grow g1, fun u H2 F2 B2 g2 r2 => by
    obtain ⟨p, us, rfl, e1, r⟩ := RepS.tup g2.hs (RepK.any0 (RepK.growS g2 r1) : RepS X.K F2 B2 H2 k1 _ _)
    obtain ⟨p', ys, rfl, e2, r'⟩ := RepS.tup g2.hs (RepK.any0 r2 : RepS X.K F2 B2 H2 k2 _ _)
    obtain rfl := reps_keys (repsK.reps g2.hs r)
    exact ⟨p, p', _, ys, rfl, .inr ⟨e1, e2⟩, dzip_fin (kid_cases k2) g2.hs r' fun w H3 F3 B3 g3 r3 => q w H3 F3 B3 ((g1.trans g2).trans g3) (RepK.back (g1.h.trans g2.h) r3)⟩⟩⟩⟩
theorem ev_dnew : Ev X env (.Dict [] [] pos) (.dK []) .own :=
  ⟨pe_dnewK.mono fun σ H Q ⟨F, B, E, q⟩ => new_dK (kk := .cln) (.inl rfl) E.hs (show RepP X.K F Key [] [] from .nil) q⟩
end
section
variable {X : Cx} {Γ : Gd} {N : List Str} {sc : Scope} {lv : Nat} {vl ll : List Nat} {gl : List Str} {env : DEnv} {Φ : Outs} {rest : List Stmt} {e a b : Expr} {k1 k2 : Kd} {pos np : Pos} {n : Str} {κ α : Type} [DecidableEq κ] {c : KeyT κ} {f : α → D} {kvs kvs' : List (κ × α)} {k : κ} {x : α}
theorem dput_ {ap : Pos} (A : At X Γ N sc lv) (S : Sc N sc vl ll gl) (i : Nat) (hN : N[i]? = some n) (hv : vl.contains i = true) (he : env[i]? = some (some (.own (enK c f kvs)))) (ha : Ev X env e (f x) k1) (hk : heldOf k1 (f x) = .cln) (hb : Ev X env b (c.d k) k2) (hG : dPutG kvs k x = some kvs')
    (hs : swapsWith e (some (.Subscript (.Name n np) b ap)) pos.line X.env = pure false)
    (h : SS X (env.set i (some (.own (enK c f kvs')))) rest Φ) : SS X env (.Assign [.Subscript (.Name n np) b ap] e pos :: rest) Φ := by
  obtain ⟨h1, e⟩ := iteO hG; subst e
  obtain ⟨v1, v2⟩ := S.vis hv hN
  obtain ⟨p1, p2, _⟩ := plainB_ok v2
  have hu := A.room.units
  refine ss_cons ⟨(ps_dput (by omega) (pe_var (by rw [A.eN]; exact hN) (A.eS.vis v1) p1 p2) (hb.scal (c.sc k)).pe ha.heldOf.pe hs).mono fun Dd σ H ⟨F, B, G, E, P⟩ => ⟨F, B, E.e, fun v H1 F1 B1 g r => ?_⟩⟩
  rw [hk] at r
  obtain ⟨v0, w1, q, e1, n1, n2, us, w2, w3⟩ := E.at_ i _ he
  subst e1
  refine ⟨_, w1, F1, B1, E.e.grow g, fun u H2 F2 B2 g2 r2 => ?_⟩
  obtain rfl := c.rep _ _ _ _ (show Rep X.K F2 (c.d k) u from r2)
  have e3 : H2 q = some (.dK us) := g2.h _ _ (g.h _ _ w2)
  have E' := (E.grow g).grow g2
  have lz : us.length < sizeLine := by rw [RepP.length w3, List.length_map, line_eq]; exact h1
  refine ⟨q, _, rfl, DPut.k e3 lz, ?_⟩
  have r' : RepP X.K F2 Key (enP c f kvs) us := RepP.mono (g.f.trans g2.f) w3
  have rx : Rep X.K F2 (f x) v := Rep.mono g2.f (show Rep X.K F1 (f x) v from r)
  exact P.nx _ _ _ F2 B2 ((g.trans g2).gs E.gh) (E'.mut (d' := enK c f (dPut kvs k x)) he w1 rfl ⟨_, upd_same, repP_put rx r'⟩) h
end
end DL
namespace Hd
open PySem PySem.Spec PyProof.Rows L2
def top (i : Nat) : Stmt := PySem.Challenge.pw_turnkeepers_k23_whole_passes_kept.main.body.getD i (.Pass ⟨0, 0, 0, 0⟩)
abbrev s_passed_over : Stmt := top 1
def d_passed_over : He.DefD := ⟨("passed_over", none), "passed_over", "passed_over", defArgs s_passed_over, defBody s_passed_over, defScope s_passed_over, [], []⟩
abbrev s_next_passes : Stmt := top 2
def d_next_passes : He.DefD := ⟨("next_passes", none), "next_passes", "next_passes", defArgs s_next_passes, defBody s_next_passes, defScope s_next_passes, [], []⟩
abbrev s_first_over : Stmt := top 3
def d_first_over : He.DefD := ⟨("first_over", none), "first_over", "first_over", defArgs s_first_over, defBody s_first_over, defScope s_first_over, [], []⟩
abbrev s_longest : Stmt := top 4
def d_longest : He.DefD := ⟨("longest", none), "longest", "longest", defArgs s_longest, defBody s_longest, defScope s_longest, [], []⟩
abbrev s_law_cell : Stmt := top 6
def d_law_cell : He.DefD := ⟨("_law_cell", none), "_law_cell", "_law_cell", defArgs s_law_cell, defBody s_law_cell, defScope s_law_cell, [], []⟩
abbrev s_law_mixed : Stmt := top 7
def d_law_mixed : He.DefD := ⟨("_law_mixed", none), "_law_mixed", "_law_mixed", defArgs s_law_mixed, defBody s_law_mixed, defScope s_law_mixed, [], []⟩
abbrev s_law_pool : Stmt := top 8
def d_law_pool : He.DefD := ⟨("_law_pool", none), "_law_pool", "_law_pool", defArgs s_law_pool, defBody s_law_pool, defScope s_law_pool, [], []⟩
abbrev s_law_part : Stmt := top 9
def d_law_part : He.DefD := ⟨("_law_part", none), "_law_part", "_law_part", defArgs s_law_part, defBody s_law_part, defScope s_law_part, [], []⟩
abbrev s_law_names : Stmt := top 10
def d_law_names : He.DefD := ⟨("_law_names", none), "_law_names", "_law_names", defArgs s_law_names, defBody s_law_names, defScope s_law_names, [], []⟩
abbrev s_law_some : Stmt := top 11
def d_law_some : He.DefD := ⟨("_law_some", none), "_law_some", "_law_some", defArgs s_law_some, defBody s_law_some, defScope s_law_some, [], []⟩
abbrev s_law_integer : Stmt := top 12
def d_law_integer : He.DefD := ⟨("_law_integer", none), "_law_integer", "_law_integer", defArgs s_law_integer, defBody s_law_integer, defScope s_law_integer, [], []⟩
abbrev s_law_same : Stmt := top 13
def d_law_same : He.DefD := ⟨("_law_same", none), "_law_same", "_law_same", defArgs s_law_same, defBody s_law_same, defScope s_law_same, [], []⟩
abbrev s_law_shuffled : Stmt := top 14
def d_law_shuffled : He.DefD := ⟨("_law_shuffled", none), "_law_shuffled", "_law_shuffled", defArgs s_law_shuffled, defBody s_law_shuffled, defScope s_law_shuffled, [], []⟩
abbrev s_law_case : Stmt := top 15
def d_law_case : He.DefD := ⟨("_law_case", none), "_law_case", "_law_case", defArgs s_law_case, defBody s_law_case, defScope s_law_case, [], []⟩
abbrev s_law_after : Stmt := top 16
def d_law_after : He.DefD := ⟨("_law_after", none), "_law_after", "_law_after", defArgs s_law_after, defBody s_law_after, defScope s_law_after, [], []⟩
abbrev s_law_over : Stmt := top 17
def d_law_over : He.DefD := ⟨("_law_over", none), "_law_over", "_law_over", defArgs s_law_over, defBody s_law_over, defScope s_law_over, [], []⟩
abbrev s_law_longest : Stmt := top 18
def d_law_longest : He.DefD := ⟨("_law_longest", none), "_law_longest", "_law_longest", defArgs s_law_longest, defBody s_law_longest, defScope s_law_longest, [], []⟩
abbrev s_law_by_place : Stmt := top 19
def d_law_by_place : He.DefD := ⟨("_law_by_place", none), "_law_by_place", "_law_by_place", defArgs s_law_by_place, defBody s_law_by_place, defScope s_law_by_place, [], []⟩
abbrev s_law_by_name : Stmt := top 20
def d_law_by_name : He.DefD := ⟨("_law_by_name", none), "_law_by_name", "_law_by_name", defArgs s_law_by_name, defBody s_law_by_name, defScope s_law_by_name, [], []⟩
abbrev s_law_due : Stmt := top 21
def d_law_due : He.DefD := ⟨("_law_due", none), "_law_due", "_law_due", defArgs s_law_due, defBody s_law_due, defScope s_law_due, [], []⟩
abbrev s_law_rounds : Stmt := top 22
def d_law_rounds : He.DefD := ⟨("_law_rounds", none), "_law_rounds", "_law_rounds", defArgs s_law_rounds, defBody s_law_rounds, defScope s_law_rounds, [], []⟩
abbrev s_law_chosen : Stmt := top 23
def d_law_chosen : He.DefD := ⟨("_law_chosen", none), "_law_chosen", "_law_chosen", defArgs s_law_chosen, defBody s_law_chosen, defScope s_law_chosen, [], []⟩
abbrev s_law_after_b : Stmt := top 24
def d_law_after_b : He.DefD := ⟨("_law_after_b", none), "_law_after_b", "_law_after_b", defArgs s_law_after_b, defBody s_law_after_b, defScope s_law_after_b, [], []⟩
abbrev s_law_within : Stmt := top 25
def d_law_within : He.DefD := ⟨("_law_within", none), "_law_within", "_law_within", defArgs s_law_within, defBody s_law_within, defScope s_law_within, [], []⟩
abbrev s_law_one_half : Stmt := top 26
def d_law_one_half : He.DefD := ⟨("_law_one_half", none), "_law_one_half", "_law_one_half", defArgs s_law_one_half, defBody s_law_one_half, defScope s_law_one_half, [], []⟩
abbrev s_law_other_half : Stmt := top 27
def d_law_other_half : He.DefD := ⟨("_law_other_half", none), "_law_other_half", "_law_other_half", defArgs s_law_other_half, defBody s_law_other_half, defScope s_law_other_half, [], []⟩
abbrev s_law : Stmt := top 28
def d_law : He.DefD := ⟨("law", none), "law", "law", defArgs s_law, defBody s_law, defScope s_law, [], []⟩
def fn : List He.DefD := [d_passed_over, d_next_passes, d_first_over, d_longest, d_law_cell, d_law_mixed, d_law_pool, d_law_part, d_law_names, d_law_some, d_law_integer, d_law_same, d_law_shuffled, d_law_case, d_law_after, d_law_over, d_law_longest, d_law_by_place, d_law_by_name, d_law_due, d_law_rounds, d_law_chosen, d_law_after_b, d_law_within, d_law_one_half, d_law_other_half, d_law]
def fa : List He.Fa := [.glo "passed_over", .glo "next_passes", .glo "first_over", .glo "longest", .glo "_law_cell", .glo "_law_mixed", .glo "_law_pool", .glo "_law_part", .glo "_law_names", .glo "_law_some", .glo "_law_integer", .glo "_law_same", .glo "_law_shuffled", .glo "_law_case", .glo "_law_after", .glo "_law_over", .glo "_law_longest", .glo "_law_by_place", .glo "_law_by_name", .glo "_law_due", .glo "_law_rounds", .glo "_law_chosen", .glo "_law_after_b", .glo "_law_within", .glo "_law_one_half", .glo "_law_other_half", .glo "law", .free "abs", .free "bool", .free "dict", .free "int", .free "isinstance", .free "len", .free "list", .free "max", .free "min", .free "range", .free "str", .free "tuple", .free "zip"]
def nm0 : List Str := [("passed_over" : Str), ("next_passes" : Str), ("first_over" : Str), ("longest" : Str), ("_law_cell" : Str), ("_law_mixed" : Str), ("_law_pool" : Str), ("_law_part" : Str), ("_law_names" : Str), ("_law_some" : Str), ("_law_integer" : Str), ("_law_same" : Str), ("_law_shuffled" : Str), ("_law_case" : Str), ("_law_after" : Str), ("_law_over" : Str), ("_law_longest" : Str), ("_law_by_place" : Str), ("_law_by_name" : Str), ("_law_due" : Str), ("_law_rounds" : Str), ("_law_chosen" : Str), ("_law_after_b" : Str), ("_law_within" : Str), ("_law_one_half" : Str), ("_law_other_half" : Str)]
def names : List Str := nm0
abbrev R : PySem.W.OpenRow := PySem.W.OpenLaw.row PySem.Challenge.rw_turnkeepers_k23_whole_passes_kept
abbrev hk : PySem.W.Hook := He.hookD 5 fa fn
def ob (s : PySem.W.SharedT) : He.AlD := He.obsDG 5 fa fn (HandSHeadRun.getT s)
theorem ob_eq (s : PySem.W.SharedT) : ob s = hk.obs s.abs := He.obsDG_eq (HandSHeadRun.getT_eq s)
theorem run (w : World) : HandSHeadRun.RunEq R (PySem.W.view R.prog [28]) hk ob 40000 names w := by
  intro os
  kernel_rfl
end Hd
namespace DL
open PySem L2
def Sm {α : Type} (o : Option α) (P : α → Prop) : Prop := ∃ a, o = some a ∧ P a
section
variable {α β S : Type} {P Q : α → Prop} {o o' : Option α}
theorem Sm.mono (h : Sm o P) (m : ∀ a, P a → Q a) : Sm o Q := let ⟨a, e, p⟩ := h; ⟨a, e, m a p⟩
theorem Sm.some {a : α} (h : P a) : Sm (some a) P := ⟨a, rfl, h⟩
theorem Sm.eq {a : α} (e : o = Option.some a) (h : P a) : Sm o P := ⟨a, e, h⟩
theorem Sm.bind {f : α → Option β} {R : β → Prop} (h : Sm o P) (k : ∀ a, P a → Sm (f a) R) : Sm (o.bind f) R := by
  obtain ⟨a, e, p⟩ := h
  subst e; exact k a p
theorem Sm.bindE {f : α → Option β} {R : β → Prop} {a : α} (h : o = Option.some a) (k : Sm (f a) R) : Sm (o.bind f) R := by subst h; exact k
theorem Sm.ite {c : Bool} (h1 : c = true → Sm o P) (h2 : c = false → Sm o' P) : Sm (if c = true then o else o') P := by
  cases c with
  | true => exact h1 rfl
  | false => exact h2 rfl
theorem Sm.fold {f : S → α → Option S} (I : List α → S → Prop) : ∀ {xs pre : List α} {s0 : S}, I pre s0 → (∀ p x q s, pre ++ xs = p ++ x :: q → I p s → Sm (f s x) (I (p ++ [x]))) → Sm (xs.foldlM f s0) (I (pre ++ xs))
  | [], pre, s0, h0, _ => ⟨s0, rfl, by rw [List.append_nil]; exact h0⟩
  | x :: xs, pre, s0, h0, hs => by
    rw [List.foldlM_cons]
    refine Sm.bind (hs pre x xs s0 rfl h0) fun s hI => ?_
    have := Sm.fold (f := f) I (xs := xs) (pre := pre ++ [x]) hI fun p y q s e hp => hs p y q s (by rw [← e]; simp) hp
    rw [List.append_assoc] at this
    exact this
theorem rngI_length (lo : Int) (n : Nat) : (rngI lo n).length = n := by unfold rngI; rw [List.length_map, List.length_range]
theorem rngI_get {lo : Int} {n i : Nat} (h : i < n) : (rngI lo n)[i]? = Option.some (lo + (i : Int)) := by
  unfold rngI; rw [List.getElem?_map, List.getElem?_range h]; rfl
theorem Sm.foldN {f : S → Int → Option S} {lo : Int} {n : Nat} {s0 : S} (I : Nat → S → Prop) (h0 : I 0 s0) (hs : ∀ i s, i < n → I i s → Sm (f s (lo + (i : Int))) (I (i + 1))) : Sm ((rngI lo n).foldlM f s0) (I n) := by
  have := Sm.fold (f := f) (fun p s => I p.length s) (xs := rngI lo n) (pre := []) (s0 := s0) h0 fun p x q s e hp => by
    rw [List.nil_append] at e
    have hl : p.length < n := by
      have := congrArg List.length e
      rw [rngI_length, List.length_append, List.length_cons] at this; omega
    have hx : (rngI lo n)[p.length]? = Option.some x := by rw [e]; simp
    rw [rngI_get hl] at hx
    cases hx
    rw [List.length_append]
    exact hs p.length s hl hp
  rw [List.nil_append, rngI_length] at this
  exact this
theorem rng1G_eq {n : Nat} (h : n ≤ 1000000) : rng1G (n : Int) = Option.some (rngI 0 n) := by
  unfold rng1G
  rw [if_pos (by simp only [Bool.and_eq_true, decide_eq_true_eq]; omega), Int.toNat_natCast]
theorem idxG_nat {xs : List α} {i : Nat} {x : α} (h : xs[i]? = Option.some x) : idxG xs (i : Int) = Option.some x := by
  have hl := (List.getElem?_eq_some_iff.mp h).1
  unfold idxG atI ixN
  rw [if_pos (by omega), if_pos (by omega), Int.toNat_natCast]
  exact h
theorem idxG_in {xs : List α} {i : Int} (h0 : 0 ≤ i) (h1 : i < xs.length) : ∃ x, xs[i.toNat]? = Option.some x ∧ idxG xs i = Option.some x := by
  have hl : i.toNat < xs.length := by omega
  refine ⟨xs[i.toNat], List.getElem?_eq_getElem hl, ?_⟩
  have := idxG_nat (List.getElem?_eq_getElem hl)
  rw [Int.toNat_of_nonneg h0] at this
  exact this
theorem idxG_getD {xs : List α} {i : Int} (d : α) (h0 : 0 ≤ i) (h1 : i < xs.length) : idxG xs i = Option.some (xs.getD i.toNat d) := by
  obtain ⟨x, e1, e2⟩ := idxG_in h0 h1
  rw [e2, List.getD_eq_getElem?_getD, e1]; rfl
theorem appG_eq {xs : List α} {x : α} (h : xs.length < 1000000) : appG xs x = Option.some (xs ++ [x]) := by unfold appG line; rw [if_pos (by omega)]
theorem catG_eq {xs ys : List α} (h : xs.length + ys.length ≤ 1000000) : catG xs ys = Option.some (xs ++ ys) := by unfold catG line; rw [if_pos (by omega)]
theorem lcG_eq {xs : List α} (h : xs.length ≤ 1000000) : lcG xs = Option.some xs := by unfold lcG line; rw [if_pos (by omega)]
theorem mulG_l {i j : Int} (h0 : -18446744073709551616 < i) (h1 : i < 18446744073709551616) : mulG i j = Option.some (i * j) := by
  unfold mulG cmulB; rw [if_pos (by simp [h0, h1])]
theorem mulG_r {i j : Int} (h0 : -18446744073709551616 < j) (h1 : j < 18446744073709551616) : mulG i j = Option.some (i * j) := by
  unfold mulG cmulB; rw [if_pos (by simp [h0, h1])]
theorem divG_eq {i j : Int} (h0 : 0 < j) (h1 : j < 1073741824) : divG i j = Option.some (i / j) := by
  unfold divG; rw [if_pos (by simp [h0, h1])]
theorem modG_eq {i j : Int} (h0 : 0 < j) : modG i j = Option.some (i % j) := by
  unfold modG; rw [if_pos (by simp [h0])]
theorem lcM_eq {p : α → Option Bool} {f : α → Option β} (pd : α → Bool) (g : α → β) : ∀ {xs : List α}, (∀ x ∈ xs, p x = Option.some (pd x) ∧ (pd x = true → f x = Option.some (g x))) → lcM p f xs = Option.some ((xs.filter pd).map g)
  | [], _ => rfl
  | x :: xs, h => by
    obtain ⟨h1, h2⟩ := h x (List.mem_cons_self ..)
    have ih := lcM_eq (p := p) (f := f) pd g (xs := xs) fun y hy => h y (List.mem_cons_of_mem _ hy)
    unfold lcM
    rw [h1]
    show (if pd x = true then _ else _) = _
    cases e : pd x with
    | true => rw [if_pos rfl, h2 e, ih]; simp [e]
    | false => rw [if_neg Bool.false_ne_true, ih]; simp [e]
theorem setG_eq {xs : List α} {i : Int} {x : α} (h0 : 0 ≤ i) (h1 : i < xs.length) : setG xs i x = Option.some (xs.set i.toNat x) := by
  unfold setG ixN; rw [if_pos h0, if_pos h1]
theorem loopM_nx {R : Type} {f : S → α → Option (Ctl S R)} : ∀ {xs : List α} {s0 : S} (g : S → α → S), (∀ s x, x ∈ xs → f s x = Option.some (.nx (g s x))) → loopM f s0 xs = Option.some (.nx (xs.foldl g s0))
  | [], s0, g, _ => rfl
  | x :: xs, s0, g, h => by
    unfold loopM
    rw [h s0 x (List.mem_cons_self ..)]
    exact loopM_nx g fun s y hy => h s y (List.mem_cons_of_mem _ hy)
theorem foldlM_unit {f : Unit → α → Option Unit} : ∀ {xs : List α}, (∀ x ∈ xs, f () x = Option.some ()) → xs.foldlM f () = Option.some ()
  | [], _ => rfl
  | x :: xs, h => by
    rw [List.foldlM_cons, h x (List.mem_cons_self ..)]
    exact foldlM_unit fun y hy => h y (List.mem_cons_of_mem _ hy)
end
def Sl (l : List Nat) : Str := ⟨l.toArray⟩
theorem Sl_inj {a b : List Nat} (h : Sl a = Sl b) : a = b := by
  have := congrArg (fun s : Str => s.cps.toList) h
  simpa [Sl] using this
theorem Sl_len (l : List Nat) : (Sl l).length = l.length := by show l.toArray.size = _; simp
theorem addSG_eq {a b : List Nat} (h : a.length + b.length ≤ 1000000) : addSG (Sl a) (Sl b) = some (Sl (a ++ b)) := by
  unfold addSG line
  rw [Sl_len, Sl_len, if_pos (by omega)]
  congr 1
  exact Str.ext' (by show a.toArray ++ b.toArray = (a ++ b).toArray; simp)
theorem sIx_nn {n d : Nat} {v : Int} (h : 0 ≤ v) : HT.sIx n d (some v) = min v.toNat n := by
  show (if v < 0 then (v + (n : Int)).toNat else min v.toNat n) = _
  rw [if_neg (by omega)]
theorem slSG_take {a : List Nat} {r : Int} (h : a.length ≤ 1000000) (h0 : 0 ≤ r) : slSG (Sl a) none (some r) = some (Sl (a.take r.toNat)) := by
  unfold slSG line
  rw [Sl_len, if_pos (by omega)]
  congr 1
  unfold cutS
  rw [Sl_len, sIx_nn h0]
  apply Str.ext'
  show (List.take (min r.toNat a.length - HT.sIx a.length 0 none) (List.drop (HT.sIx a.length 0 none) a.toArray.toList)).toArray = (a.take r.toNat).toArray
  show (List.take (min r.toNat a.length - 0) (List.drop 0 a.toArray.toList)).toArray = _
  congr 1
  simp [List.take_eq_take_iff]
theorem slSG_drop {a : List Nat} {r : Int} (h : a.length ≤ 1000000) (h0 : 0 ≤ r) : slSG (Sl a) (some r) none = some (Sl (a.drop r.toNat)) := by
  unfold slSG line
  rw [Sl_len, if_pos (by omega)]
  congr 1
  unfold cutS
  rw [Sl_len, sIx_nn h0]
  apply Str.ext'
  show (List.take (a.length - min r.toNat a.length) (List.drop (min r.toNat a.length) a.toArray.toList)).toArray = (a.drop r.toNat).toArray
  congr 1
  by_cases e : r.toNat ≤ a.length
  · rw [Nat.min_eq_left e, List.take_of_length_le (by simp)]
  · rw [Nat.min_eq_right (by omega), List.drop_eq_nil_of_le (by omega : a.length ≤ r.toNat)]
    simp
theorem idxSG_eq {a : List Nat} {i : Int} (h : a.length ≤ 1000000) (h0 : 0 ≤ i) (h1 : i < a.length) : idxSG (Sl a) i = some (Sl [a.getD i.toNat 0]) := by
  unfold idxSG line
  rw [Sl_len, if_pos (by omega)]
  have e := idxG_getD (xs := a) (i := i) 0 h0 h1
  unfold idxG at e
  show Option.map _ (atI a.toArray.toList i) = _
  rw [show a.toArray.toList = a from rfl, e]; rfl
theorem lenSG_eq {a : List Nat} (h : a.length ≤ 1000000) : lenSG (Sl a) = some (a.length : Int) := by
  unfold lenSG line
  rw [Sl_len, if_pos (by omega)]
theorem strL_eq (a : List Nat) : strL (Sl a) = a.map fun c => Sl [c] := rfl
def abc : List Nat := [97, 98, 99, 100, 101, 102, 103, 104, 105, 106, 107, 108, 109, 110, 111, 112, 113, 114, 115, 116, 117, 118, 119, 120, 121, 122]
theorem abc_eq : (Str.ofString "abcdefghijklmnopqrstuvwxyz") = Sl abc := by decide +kernel
theorem abc_in : ∀ c ∈ abc, inStr (Sl [c]) (Sl abc) = true := by decide +kernel
theorem abc_get {i : Nat} (h : i < 26) : abc.getD i 0 ∈ abc := by
  rw [List.getD_eq_getElem?_getD, List.getElem?_eq_getElem (by exact h)]
  exact List.getElem_mem _
theorem abc_at : ∀ i < 26, abc.getD i 0 = 97 + i := by decide +kernel
def NameOk (s : Str) : Prop := ∃ l : List Nat, s = Sl l ∧ 1 ≤ l.length ∧ l.length ≤ 8 ∧ ∀ c ∈ l, c ∈ abc
mutual
theorem D.eqv_self : ∀ d : D, PyData.eqv d.py d.py = true
  | .non => by simp [D.py, PyData.eqv]
  | .bl _ => by simp [D.py, PyData.eqv]
  | .int _ => by simp [D.py, PyData.eqv]
  | .str _ => by simp [D.py, PyData.eqv]
  | .lst ds => by simp only [D.py, PyData.eqv]; exact D.eqvs_self ds
  | .tup ds => by simp only [D.py, PyData.eqv]; exact D.eqvs_self ds
  | .dK _ => by simp [D.py, PyData.eqv]
  | .dT _ => by simp [D.py, PyData.eqv]
  | .obj _ _ => by simp [D.py, PyData.eqv]
  | .scr _ => by simp [D.py, PyData.eqv]
  | .adr _ => by simp [D.py, PyData.eqv]
theorem D.eqvs_self : ∀ ds : List D, PyData.eqvAll (D.pys ds) (D.pys ds) = true
  | [] => by simp [D.pys, PyData.eqvAll]
  | d :: ds => by simp only [D.pys, PyData.eqvAll]; rw [D.eqv_self d, D.eqvs_self ds]; rfl
end
mutual
def D.gd : Nat → D → Bool
  | _, .non => true | _, .bl _ => true | _, .int _ => true | _, .str x => PyData.strOk x
  | k + 1, .lst ds => decide (ds.length ≤ 1000000) && D.gds k ds
  | k + 1, .tup ds => decide (ds.length ≤ 1000000) && D.gds k ds
  | _, _ => false
def D.gds : Nat → List D → Bool
  | _, [] => true
  | k, d :: ds => D.gd k d && D.gds k ds
end
mutual
theorem D.gd_pyo : ∀ {k : Nat} {d : D}, D.gd k d = true → d.pyo = true ∧ d.py.depth ≤ k
  | _, .non, _ => ⟨rfl, by simp [D.py, PyData.depth]⟩
  | _, .bl _, _ => ⟨rfl, by simp [D.py, PyData.depth]⟩
  | _, .int _, _ => ⟨rfl, by simp [D.py, PyData.depth]⟩
  | _, .str x, h => ⟨by simpa [D.gd, D.pyo] using h, by simp [D.py, PyData.depth]⟩
  | 0, .lst _, h => by simp [D.gd] at h
  | 0, .tup _, h => by simp [D.gd] at h
  | k + 1, .lst ds, h => by
    simp only [D.gd, Bool.and_eq_true] at h
    obtain ⟨h1, h2⟩ := D.gds_pyo h.2
    exact ⟨h1, by simp only [D.py, PyData.depth]; omega⟩
  | k + 1, .tup ds, h => by
    simp only [D.gd, Bool.and_eq_true] at h
    obtain ⟨h1, h2⟩ := D.gds_pyo h.2
    exact ⟨h1, by simp only [D.py, PyData.depth]; omega⟩
  | _, .dK _, h => by simp [D.gd] at h
  | _, .dT _, h => by simp [D.gd] at h
  | _, .obj _ _, h => by simp [D.gd] at h
  | _, .scr _, h => by simp [D.gd] at h
  | _, .adr _, h => by simp [D.gd] at h
theorem D.gds_pyo : ∀ {k : Nat} {ds : List D}, D.gds k ds = true → D.pyos ds = true ∧ PyData.depthAll (D.pys ds) ≤ k
  | _, [], _ => ⟨rfl, by simp [D.pys, PyData.depthAll]⟩
  | k, d :: ds, h => by
    simp only [D.gds, Bool.and_eq_true] at h
    obtain ⟨h1, h2⟩ := D.gd_pyo h.1
    obtain ⟨h3, h4⟩ := D.gds_pyo h.2
    exact ⟨by simp [D.pyos, h1, h3], by simp only [D.pys, PyData.depthAll]; omega⟩
end
theorem D.gds_mem {k : Nat} : ∀ {ds : List D}, (∀ d ∈ ds, D.gd k d = true) → D.gds k ds = true
  | [], _ => rfl
  | d :: ds, h => by rw [D.gds, h d (List.mem_cons_self ..), D.gds_mem fun x hx => h x (List.mem_cons_of_mem _ hx)]; rfl
theorem D.gds_at {k : Nat} : ∀ {ds : List D} {d : D}, D.gds k ds = true → d ∈ ds → D.gd k d = true
  | e :: ds, d, h, hd => by
    rw [D.gds, Bool.and_eq_true] at h
    rcases List.mem_cons.mp hd with z | z
    · subst z; exact h.1
    · exact D.gds_at h.2 z
theorem eqG_self {k : Nat} {d : D} (h : D.gd k d = true) (hk : k ≤ 64) : eqG d d = some true := by
  obtain ⟨h1, h2⟩ := D.gd_pyo h
  unfold eqG
  rw [if_pos (by simp only [h1, Bool.true_and, Bool.and_eq_true, decide_eq_true_eq]; omega), D.eqv_self]
theorem eqG_nil {k : Nat} {ds : List D} (h : D.gd k (.lst ds) = true) (hk : k ≤ 64) : eqG (.lst ds) (.lst []) = some ds.isEmpty := by
  obtain ⟨h1, h2⟩ := D.gd_pyo h
  unfold eqG
  rw [if_pos (by
    have e : (D.lst []).py.depth ≤ 64 := by simp [D.py, D.pys, PyData.depth, PyData.depthAll]
    have e2 : (D.lst []).pyo = true := rfl
    rw [h1, e2, decide_eq_true e]; simp only [Bool.true_and, Bool.and_true, decide_eq_true_eq]; omega)]
  cases ds with
  | nil => simp [D.py, D.pys, PyData.eqv, PyData.eqvAll]
  | cons d ds => simp [D.py, D.pys, PyData.eqv, PyData.eqvAll]
theorem NameOk.strOk {s : Str} (h : NameOk s) : PyData.strOk s = true := by
  obtain ⟨l, e, _, _, h⟩ := h
  subst e
  unfold PyData.strOk Sl
  simp only [List.all_toArray, List.all_eq_true, decide_eq_true_eq]
  intro c hc
  have : ∀ c ∈ abc, c < 1114112 := by decide
  exact this c (h c hc)
theorem cutX_take {α : Type} {xs : List α} {r : Int} (h0 : 0 ≤ r) : cutX xs none (some r) = xs.take r.toNat := by
  unfold cutX
  rw [sIx_nn h0]
  show List.take (min r.toNat xs.length - 0) (List.drop 0 xs) = _
  rw [Nat.sub_zero, List.drop_zero]
  simp [List.take_eq_take_iff]
theorem enumL_mem {α : Type} {xs : List α} {z : Int × α} (h : z ∈ enumL xs) : ∃ i : Nat, xs[i]? = some z.2 ∧ z.1 = (i : Int) := by
  obtain ⟨n, hn⟩ := List.mem_iff_getElem?.mp h
  rw [enumL_get] at hn
  cases q : xs[n]? with
  | none => rw [q] at hn; cases hn
  | some x => rw [q] at hn; cases hn; exact ⟨n, q, rfl⟩
theorem Sm.foldTo {α S : Type} {xs : List α} {s0 : S} {f : S → α → Option S} {P : S → Prop} (I : List α → S → Prop) (h0 : I [] s0) (hs : ∀ p x q s, xs = p ++ x :: q → I p s → Sm (f s x) (I (p ++ [x]))) (he : ∀ s, I xs s → P s) : Sm (xs.foldlM f s0) P := by
  have := Sm.fold (f := f) I (xs := xs) (pre := []) h0 fun p x q s e hp => hs p x q s (by rw [← e]; rfl) hp
  rw [List.nil_append] at this
  exact this.mono he
end DL
namespace DL
open PySem L2
section
variable {α β S R : Type}
theorem foldlM_app {step : List β → α → Option (List β)} (f : α → β) : ∀ {xs : List α} {s0 : List β}, s0.length + xs.length ≤ 1000000 → (∀ s x, x ∈ xs → s.length < 1000000 → step s x = some (s ++ [f x])) → xs.foldlM step s0 = some (s0 ++ xs.map f)
  | [], s0, _, _ => by rw [List.map_nil, List.append_nil]; rfl
  | x :: xs, s0, hl, h => by
    rw [List.length_cons] at hl
    rw [List.foldlM_cons, h s0 x (List.mem_cons_self ..) (by omega)]
    show xs.foldlM step (s0 ++ [f x]) = _
    rw [foldlM_app f (by rw [List.length_append, List.length_singleton]; omega) fun s y hy => h s y (List.mem_cons_of_mem _ hy)]
    simp
theorem foldlM_pure {step : S → α → Option S} (g : S → α → S) : ∀ {xs : List α} {s0 : S}, (∀ s x, x ∈ xs → step s x = some (g s x)) → xs.foldlM step s0 = some (xs.foldl g s0)
  | [], s0, _ => rfl
  | x :: xs, s0, h => by
    rw [List.foldlM_cons, h s0 x (List.mem_cons_self ..)]
    exact foldlM_pure g fun s y hy => h s y (List.mem_cons_of_mem _ hy)
theorem foldlM_pureI {step : S → α → Option S} (g : S → α → S) (I : S → Prop) : ∀ {xs : List α} {s0 : S}, I s0 → (∀ s x, x ∈ xs → I s → step s x = some (g s x) ∧ I (g s x)) → xs.foldlM step s0 = some (xs.foldl g s0) ∧ I (xs.foldl g s0)
  | [], s0, i, _ => ⟨rfl, i⟩
  | x :: xs, s0, i, h => by
    obtain ⟨h1, h2⟩ := h s0 x (List.mem_cons_self ..) i
    rw [List.foldlM_cons, h1]
    exact foldlM_pureI g I h2 fun s y hy => h s y (List.mem_cons_of_mem _ hy)
theorem Sm.loopF {f : S → α → Option (Ctl S R)} (I : List α → S → Prop) : ∀ {xs pre : List α} {s0 : S}, I pre s0 → (∀ p x q s, pre ++ xs = p ++ x :: q → I p s → Sm (f s x) fun c => ∃ s', c = .nx s' ∧ I (p ++ [x]) s') → Sm (loopM f s0 xs) fun c => ∃ s', c = .nx s' ∧ I (pre ++ xs) s'
  | [], pre, s0, h0, _ => ⟨_, rfl, s0, rfl, by rw [List.append_nil]; exact h0⟩
  | x :: xs, pre, s0, h0, hs => by
    obtain ⟨c, e, s', rfl, hI⟩ := hs pre x xs s0 rfl h0
    unfold loopM
    rw [e]
    have := Sm.loopF (f := f) I (xs := xs) (pre := pre ++ [x]) hI fun p y q s e hp => hs p y q s (by rw [← e]; simp) hp
    rw [List.append_assoc] at this
    exact this
theorem Sm.loop {f : S → α → Option (Ctl S R)} (I : List α → S → Prop) {xs : List α} {s0 : S} (h0 : I [] s0) (hs : ∀ p x q s, xs = p ++ x :: q → I p s → Sm (f s x) fun c => ∃ s', c = .nx s' ∧ I (p ++ [x]) s') : Sm (loopM f s0 xs) fun c => ∃ s', c = .nx s' ∧ I xs s' := by
  have := Sm.loopF (f := f) (R := R) I (xs := xs) (pre := []) h0 fun p x q s e => hs p x q s (by rw [← e]; rfl)
  exact this
theorem loopM_unit {f : Unit → α → Option (Ctl Unit R)} {xs : List α} (h : ∀ x ∈ xs, f () x = some (.nx ())) : loopM f () xs = some (.nx ()) := by
  induction xs with
  | nil => rfl
  | cons x xs ih =>
    unfold loopM
    rw [h x (List.mem_cons_self ..)]
    exact ih fun y hy => h y (List.mem_cons_of_mem _ hy)
theorem loopM_find {f : Unit → α → Option (Ctl Unit R)} (p : α → Bool) (g : α → R) : ∀ {xs : List α}, (∀ x ∈ xs, f () x = some (if p x = true then .ret (g x) else .nx ())) → loopM f () xs = some (match xs.find? p with
    | some x => .ret (g x)
    | none => .nx ())
  | [], _ => rfl
  | x :: xs, h => by
    unfold loopM
    rw [h x (List.mem_cons_self ..), List.find?_cons]
    cases q : p x with
    | true => rfl
    | false => exact loopM_find p g fun y hy => h y (List.mem_cons_of_mem _ hy)
theorem rng2G_eq {a b : Int} (h1 : -1000000000 ≤ a) (h2 : a ≤ 1000000000) (h3 : -1000000000 ≤ b) (h4 : b ≤ 1000000000) : rng2G a b = some (rngI a (b - a).toNat) := by
  unfold rng2G
  rw [if_pos (by simp only [Bool.and_eq_true, decide_eq_true_eq]; omega)]
theorem rngI_mem {lo : Int} {n : Nat} {x : Int} (h : x ∈ rngI lo n) : lo ≤ x ∧ x < lo + n := by
  unfold rngI at h
  obtain ⟨i, h1, rfl⟩ := List.mem_map.mp h
  have := List.mem_range.mp h1
  omega
theorem popG_in {xs : List α} {i : Int} (h0 : 0 ≤ i) (h1 : i < xs.length) (hz : xs.length ≤ 1000000) : ∃ x, xs[i.toNat]? = some x ∧ popG xs i = some (x, xs.eraseIdx i.toNat) := by
  have hl : i.toNat < xs.length := by omega
  have e := List.getElem?_eq_getElem hl
  refine ⟨_, e, ?_⟩
  have es : seqIndex? i xs.length = some i.toNat := by
    unfold seqIndex?
    simp only [show ¬ i < 0 by omega, if_false, show (0 ≤ i ∧ i < xs.length) from ⟨h0, h1⟩]
    first | rfl | simp [h0, h1]
  unfold popG
  rw [if_pos (by simp only [Bool.and_eq_true, decide_eq_true_eq]; omega), es]
  simp only [e]
end
section
variable {κ α : Type} [DecidableEq κ]
theorem fndG_at {xs : List κ} {i : Nat} {x : κ} (h : xs.Nodup) (e : xs[i]? = some x) : fndG xs x = some (i : Int) := by
  obtain ⟨hl, hx⟩ := List.getElem?_eq_some_iff.mp e
  unfold fndG
  have : xs.findIdx? (fun y => decide (y = x)) = some i := by
    rw [List.findIdx?_eq_some_iff_getElem]
    refine ⟨hl, by simp [hx], fun j hj => ?_⟩
    have hne : xs[j] ≠ x := fun z => (List.pairwise_iff_getElem.mp h) j i (by omega) hl hj (by rw [z, hx])
    simp [hne]
  rw [this]; rfl
theorem dPut_new {kvs : List (κ × α)} {k : κ} {x : α} (h : k ∉ kvs.map (·.1)) : dPut kvs k x = kvs ++ [(k, x)] := by
  unfold dPut
  rw [if_neg]
  intro a
  obtain ⟨p, h1, h2⟩ := List.any_eq_true.mp a
  exact h (List.mem_map.mpr ⟨p, h1, of_decide_eq_true h2⟩)
theorem dMerge_new : ∀ {more kvs : List (κ × α)}, (more.map (·.1)).Nodup → (∀ k ∈ more.map (·.1), k ∉ kvs.map (·.1)) → dMerge kvs more = kvs ++ more
  | [], kvs, _, _ => (List.append_nil _).symm
  | p :: more, kvs, hn, hd => by
    rw [List.map_cons, List.nodup_cons] at hn
    show dMerge (dPut kvs p.1 p.2) more = _
    rw [dPut_new (hd p.1 (List.mem_cons_self ..)), dMerge_new hn.2]
    · simp
    · intro k hk hk2
      rw [List.map_append, List.mem_append] at hk2
      rcases hk2 with z | z
      · exact hd k (List.mem_cons_of_mem _ hk) z
      · rw [List.mem_singleton.mp z] at hk; exact hn.1 hk
theorem zip_keys : ∀ {ks : List κ} {xs : List α}, ((ks.zip xs).map (·.1)).Sublist ks
  | [], _ => by simp
  | _ :: _, [] => by simp
  | k :: ks, x :: xs => by simpa using zip_keys (ks := ks) (xs := xs)
theorem dZip_nodup {ks : List κ} {xs : List α} (h : ks.Nodup) : dZip ks xs = ks.zip xs := by
  unfold dZip
  rw [dMerge_new (zip_keys.nodup h) (fun _ _ => by simp)]
  rfl
theorem dGet_at {kvs : List (κ × α)} {k : κ} {x : α} : (kvs.map (·.1)).Nodup → (k, x) ∈ kvs → dGet kvs k = some x := by
  induction kvs with
  | nil => intro _ h; cases h
  | cons p kvs ih =>
    intro hn h
    rw [List.map_cons, List.nodup_cons] at hn
    unfold dGet
    rw [List.find?_cons]
    rcases List.mem_cons.mp h with z | z
    · rw [← z]; simp
    · have hne : ¬ p.1 = k := fun e => hn.1 (e ▸ List.mem_map.mpr ⟨_, z, rfl⟩)
      rw [decide_eq_false hne]
      exact ih hn.2 z
theorem dGet_zip {ks : List κ} {xs : List α} {k : κ} {x : α} {i : Nat} (h : ks.Nodup) (e1 : ks[i]? = some k) (e2 : xs[i]? = some x) : dGet (dZip ks xs) k = some x := by
  rw [dZip_nodup h]
  refine dGet_at (zip_keys.nodup h) (List.mem_of_getElem? (i := i) ?_)
  rw [List.getElem?_zip_eq_some]
  exact ⟨e1, e2⟩
end
end DL
namespace K23
open PySem PySem.Spec L2 DL Hd
open PyProof.Rows hiding St
def m_law_cell (a_script : (List Int)) (a_k : Int) : Option Int :=
  (if (decide (a_k < (a_script.length : Int))) = true then ((idxG a_script a_k).bind fun x_1 => some x_1) else ((some ((7919 : Int) * (a_k + (1 : Int)))).bind fun far_2 => ((rng1G (a_script.length : Int)).bind fun r_3 => ((List.foldlM (fun (s_4 : (Int)) (z_5 : Int) => ((idxG a_script z_5).bind fun x_7 => ((mulG (z_5 + (3 : Int)) ((if x_7 < 0 then -x_7 else x_7 : Int) % (1000003 : Int))).bind fun n_8 => ((some ((s_4 + (n_8 * (31 : Int))) % (1000003 : Int))).bind fun far_9 => some far_9)))) far_2 r_3).bind fun s_6 => some s_6))))
def R_law_cell : Rel := fun ds d k => ∃ (a_script : (List Int)) (a_k : Int) (r : Int), ds = [(D.scr a_script), (D.int a_k)] ∧ m_law_cell a_script a_k = some r ∧ d = D.int r ∧ k = .cln
abbrev N_law_cell : List Str := ["script", "k", "far", "j"]
theorem fs_law_cell : FnScope N_law_cell ["script", "k"] (defScope s_law_cell) := ⟨rfl, rfl, rfl, by decide +kernel, rfl, by decide +kernel, by decide +kernel⟩
theorem sc_law_cell : Sc N_law_cell (defScope s_law_cell) [0, 1, 2, 3] [2, 3] ["len", "range", "abs"] := ⟨fs_law_cell.nd, by decide +kernel⟩
theorem b_law_cell {X : Cx} {Γ : Gd} (A : At X Γ N_law_cell (defScope s_law_cell) 0) (g_abs : Γ.mg "abs" = none) (g_len : Γ.mg "len" = none) (g_range : Γ.mg "range" = none) {ds : List D} {d : D} {k : Kd} (hR : R_law_cell ds d k) :
    SS X (env0 4 ds) (defBody s_law_cell) { rt := fun d' k' => d' = d ∧ Fits k' k d, nx := fun _ => d = .non ∧ k = .cln } := by
  obtain ⟨a_script, a_k, r, rfl, H, rfl, rfl⟩ := hR
  unfold m_law_cell at H
  refine ss_if (et_cI (nmF A sc_law_cell 1 rfl rfl rfl) (lenC_ (bn A sc_law_cell 0 rfl g_len bt_len) (nmB A sc_law_cell 0 rfl rfl rfl) rfl) .lt) (fun hc => ?_) (fun hc => ?_)
  · replace H := ifT H hc
    obtain ⟨x_1, hx_1, H⟩ := bindO H
    exact ss_ret (ixC_ (nmB A sc_law_cell 0 rfl rfl rfl) (nmF A sc_law_cell 1 rfl rfl rfl) hx_1 (fun _ _ => rfl)) (⟨(congrArg D.int (Option.some.inj H)), .int⟩)
  · replace H := ifF H hc
    refine ss_nil ?_
    show SS X _ _ _
    obtain ⟨far_2, hfar_2, H⟩ := bindO H
    refine set_ A sc_law_cell 2 rfl rfl (Ev.cv (ev_mul ev_int (ev_add (nmF A sc_law_cell 1 rfl rfl rfl) ev_int) (.inl ⟨by decide, by decide⟩)) (congrArg D.int (Option.some.inj hfar_2))) .int rfl ?_
    show SS X [some (.bor (D.scr a_script)), some (.frz (D.int a_k)), some (.frz (D.int far_2)), none] _ _
    obtain ⟨r_3, hr_3, H⟩ := bindO H
    obtain ⟨s_6, hs_6, H⟩ := bindO H
    refine forM_ (en := D.int) (fun s_4 : (Int) => [some (.bor (D.scr a_script)), some (.frz (D.int a_k)), some (.frz (D.int s_4)), none]) A (rng1_ (glo A sc_law_cell 1 rfl) (by rw [A.eM]; exact g_range) (lenC_ (bn A sc_law_cell 0 rfl g_len bt_len) (nmB A sc_law_cell 0 rfl rfl rfl) rfl) hr_3 rfl) (tg A sc_law_cell 3 rfl rfl) (fun _ => rfl) hs_6 ?_ ?_ ?_
    · exact (wkr (wkr (wkr (wkn wk0))))
    · intro s_4 z_5 s' hx H
      refine ⟨_, rfl, ?_⟩
      obtain ⟨x_7, hx_7, H⟩ := bindO H
      obtain ⟨n_8, hn_8, H⟩ := bindO H
      obtain ⟨far_9, hfar_9, H⟩ := bindO H
      refine set_ A sc_law_cell 2 rfl rfl (Ev.cv (ev_mod (ev_add (nmF A sc_law_cell 2 rfl rfl rfl) (ev_mul (mul_ (ev_add (nmF A sc_law_cell 3 rfl rfl rfl) ev_int) (ev_mod (ev_abs (bn A sc_law_cell 2 rfl g_abs bt_abs) (ixC_ (nmB A sc_law_cell 0 rfl rfl rfl) (nmF A sc_law_cell 3 rfl rfl rfl) hx_7 (fun _ _ => rfl)) rfl) ev_int (by decide)) hn_8) ev_int (.inr ⟨by decide, by decide⟩))) ev_int (by decide)) (congrArg D.int (Option.some.inj hfar_9))) .int rfl ?_
      show SS X [some (.bor (D.scr a_script)), some (.frz (D.int a_k)), some (.frz (D.int far_9)), some (.frz (D.int z_5))] _ _
      obtain rfl := Option.some.inj H
      refine ss_nil ?_
      exact (wkr (wkr (wkr (wkn wk0))))
    exact ss_ret (nmF A sc_law_cell 2 rfl rfl rfl) (⟨(congrArg D.int (Option.some.inj H)), .int⟩)
def m_law_mixed (a_cell : Int) (a_k : Int) : Option Int :=
  ((some (((((if a_cell < 0 then -a_cell else a_cell : Int) % (2147483647 : Int)) * (48271 : Int)) + ((a_k + (1 : Int)) * (69621 : Int))) % (2147483647 : Int))).bind fun x_1 => ((mulG x_1 ((x_1 % (46337 : Int)) + (16807 : Int))).bind fun n_2 => ((some ((n_2 + ((a_k + (7 : Int)) * (7919 : Int))) % (2147483629 : Int))).bind fun x_3 => ((mulG x_3 ((x_3 % (32749 : Int)) + (48271 : Int))).bind fun n_4 => ((some (n_4 % (2147483647 : Int))).bind fun x_5 => some (x_5 / (11 : Int)))))))
def R_law_mixed : Rel := fun ds d k => ∃ (a_cell : Int) (a_k : Int) (r : Int), ds = [(D.int a_cell), (D.int a_k)] ∧ m_law_mixed a_cell a_k = some r ∧ d = D.int r ∧ k = .cln
abbrev N_law_mixed : List Str := ["cell", "k", "x"]
theorem fs_law_mixed : FnScope N_law_mixed ["cell", "k"] (defScope s_law_mixed) := ⟨rfl, rfl, rfl, by decide +kernel, rfl, by decide +kernel, by decide +kernel⟩
theorem sc_law_mixed : Sc N_law_mixed (defScope s_law_mixed) [0, 1, 2] [2] ["abs"] := ⟨fs_law_mixed.nd, by decide +kernel⟩
theorem b_law_mixed {X : Cx} {Γ : Gd} (A : At X Γ N_law_mixed (defScope s_law_mixed) 0) (g_abs : Γ.mg "abs" = none) {ds : List D} {d : D} {k : Kd} (hR : R_law_mixed ds d k) :
    SS X (env0 3 ds) (defBody s_law_mixed) { rt := fun d' k' => d' = d ∧ Fits k' k d, nx := fun _ => d = .non ∧ k = .cln } := by
  obtain ⟨a_cell, a_k, r, rfl, H, rfl, rfl⟩ := hR
  unfold m_law_mixed at H
  obtain ⟨x_1, hx_1, H⟩ := bindO H
  refine set_ A sc_law_mixed 2 rfl rfl (Ev.cv (ev_mod (ev_add (ev_mul (ev_mod (ev_abs (bn A sc_law_mixed 0 rfl g_abs bt_abs) (nmF A sc_law_mixed 0 rfl rfl rfl) rfl) ev_int (by decide)) ev_int (.inr ⟨by decide, by decide⟩)) (ev_mul (ev_add (nmF A sc_law_mixed 1 rfl rfl rfl) ev_int) ev_int (.inr ⟨by decide, by decide⟩))) ev_int (by decide)) (congrArg D.int (Option.some.inj hx_1))) .int rfl ?_
  show SS X [some (.frz (D.int a_cell)), some (.frz (D.int a_k)), some (.frz (D.int x_1))] _ _
  obtain ⟨n_2, hn_2, H⟩ := bindO H
  obtain ⟨x_3, hx_3, H⟩ := bindO H
  refine set_ A sc_law_mixed 2 rfl rfl (Ev.cv (ev_mod (ev_add (mul_ (nmF A sc_law_mixed 2 rfl rfl rfl) (ev_add (ev_mod (nmF A sc_law_mixed 2 rfl rfl rfl) ev_int (by decide)) ev_int) hn_2) (ev_mul (ev_add (nmF A sc_law_mixed 1 rfl rfl rfl) ev_int) ev_int (.inr ⟨by decide, by decide⟩))) ev_int (by decide)) (congrArg D.int (Option.some.inj hx_3))) .int rfl ?_
  show SS X [some (.frz (D.int a_cell)), some (.frz (D.int a_k)), some (.frz (D.int x_3))] _ _
  obtain ⟨n_4, hn_4, H⟩ := bindO H
  obtain ⟨x_5, hx_5, H⟩ := bindO H
  refine set_ A sc_law_mixed 2 rfl rfl (Ev.cv (ev_mod (mul_ (nmF A sc_law_mixed 2 rfl rfl rfl) (ev_add (ev_mod (nmF A sc_law_mixed 2 rfl rfl rfl) ev_int (by decide)) ev_int) hn_4) ev_int (by decide)) (congrArg D.int (Option.some.inj hx_5))) .int rfl ?_
  show SS X [some (.frz (D.int a_cell)), some (.frz (D.int a_k)), some (.frz (D.int x_5))] _ _
  exact ss_ret (ev_fdiv (nmF A sc_law_mixed 2 rfl rfl rfl) ev_int ⟨by decide, by decide⟩) (⟨(congrArg D.int (Option.some.inj H)), .int⟩)
def m_law_pool (a_cell : Int) (a_number : Int) : Option (List Int) :=
  ((some (if a_cell < 0 then -a_cell else a_cell : Int)).bind fun rest_1 => ((some (decide ((1000000000000000000 : Int) ≤ rest_1))).bind fun deep_2 => ((some ([] : (List Int))).bind fun pool_3 => ((rng1G a_number).bind fun r_4 => ((List.foldlM (fun (s_5 : (Int × (List Int))) (z_6 : Int) => ((if (deep_2 && (decide ((0 : Int) < s_5.1))) = true then ((appG s_5.2 (s_5.1 % (5040 : Int))).bind fun pool_9 => ((some (s_5.1 / (5040 : Int))).bind fun rest_10 => some (rest_10, pool_9))) else ((m_law_mixed a_cell z_6).bind fun r_11 => ((appG s_5.2 r_11).bind fun pool_12 => some (s_5.1, pool_12))) : Option (Int × (List Int))).bind fun s_8 => some (s_8.1, s_8.2))) (rest_1, pool_3) r_4).bind fun s_7 => some s_7.2)))))
def R_law_pool : Rel := fun ds d k => ∃ (a_cell : Int) (a_number : Int) (r : (List Int)), ds = [(D.int a_cell), (D.int a_number)] ∧ m_law_pool a_cell a_number = some r ∧ d = (fun x : (List Int) => (D.lst (List.map D.int x))) r ∧ k = .own
abbrev N_law_pool : List Str := ["cell", "number", "rest", "deep", "pool", "k"]
theorem fs_law_pool : FnScope N_law_pool ["cell", "number"] (defScope s_law_pool) := ⟨rfl, rfl, rfl, by decide +kernel, rfl, by decide +kernel, by decide +kernel⟩
theorem sc_law_pool : Sc N_law_pool (defScope s_law_pool) [0, 1, 2, 3, 4, 5] [2, 3, 4, 5] ["abs", "range", "_law_mixed"] := ⟨fs_law_pool.nd, by decide +kernel⟩
theorem b_law_pool {X : Cx} {Γ : Gd} (A : At X Γ N_law_pool (defScope s_law_pool) 1) (g_abs : Γ.mg "abs" = none) (g_range : Γ.mg "range" = none) (C_law_mixed : Cal Γ "_law_mixed" R_law_mixed 1 []) {ds : List D} {d : D} {k : Kd} (hR : R_law_pool ds d k) :
    SS X (env0 6 ds) (defBody s_law_pool) { rt := fun d' k' => d' = d ∧ Fits k' k d, nx := fun _ => d = .non ∧ k = .cln } := by
  obtain ⟨a_cell, a_number, r, rfl, H, rfl, rfl⟩ := hR
  unfold m_law_pool at H
  obtain ⟨rest_1, hrest_1, H⟩ := bindO H
  refine set_ A sc_law_pool 2 rfl rfl (Ev.cv (ev_abs (bn A sc_law_pool 0 rfl g_abs bt_abs) (nmF A sc_law_pool 0 rfl rfl rfl) rfl) (congrArg D.int (Option.some.inj hrest_1))) .int rfl ?_
  show SS X [some (.frz (D.int a_cell)), some (.frz (D.int a_number)), some (.frz (D.int rest_1)), none, none, none] _ _
  obtain ⟨deep_2, hdeep_2, H⟩ := bindO H
  refine set_ A sc_law_pool 3 rfl rfl (Ev.cv (ev_cI (nmF A sc_law_pool 2 rfl rfl rfl) (Ev.cv (ev_pow ev_int ev_int ⟨by decide, by decide, by decide⟩) (congrArg D.int (by decide))) .ge) (congrArg D.bl (Option.some.inj hdeep_2))) .bl rfl ?_
  show SS X [some (.frz (D.int a_cell)), some (.frz (D.int a_number)), some (.frz (D.int rest_1)), some (.frz (D.bl deep_2)), none, none] _ _
  obtain ⟨pool_3, hpool_3, H⟩ := bindO H
  refine set_ A sc_law_pool 4 rfl rfl (Ev.cv (ev_list ea_nil (.inl rfl) (le_line rfl)) (congrArg (fun x : (List Int) => (D.lst (List.map D.int x))) (Option.some.inj hpool_3))) .own rfl ?_
  show SS X [some (.frz (D.int a_cell)), some (.frz (D.int a_number)), some (.frz (D.int rest_1)), some (.frz (D.bl deep_2)), some (.own (D.lst (List.map D.int pool_3))), none] _ _
  obtain ⟨r_4, hr_4, H⟩ := bindO H
  obtain ⟨s_7, hs_7, H⟩ := bindO H
  refine forM_ (en := D.int) (fun s_5 : (Int × (List Int)) => [some (.frz (D.int a_cell)), some (.frz (D.int a_number)), some (.frz (D.int s_5.1)), some (.frz (D.bl deep_2)), some (.own (D.lst (List.map D.int s_5.2))), none]) A (rng1_ (glo A sc_law_pool 1 rfl) (by rw [A.eM]; exact g_range) (nmF A sc_law_pool 1 rfl rfl rfl) hr_4 rfl) (tg A sc_law_pool 5 rfl rfl) (fun _ => rfl) hs_7 ?_ ?_ ?_
  · exact (wkr (wkr (wkr (wkr (wkr (wkn wk0))))))
  · intro s_5 z_6 s' hx H
    refine ⟨_, rfl, ?_⟩
    obtain ⟨s_8, hs_8, H⟩ := bindO H
    refine ss_ifM [some (.frz (D.int a_cell)), some (.frz (D.int a_number)), some (.frz (D.int s_8.1)), some (.frz (D.bl deep_2)), some (.own (D.lst (List.map D.int s_8.2))), some (.frz (D.int z_6))] (Ew.et (ew_and (Ev.et (nmF A sc_law_pool 3 rfl rfl rfl) fun _ => rfl) fun _ => (ew_and1 (et_cI (nmF A sc_law_pool 2 rfl rfl rfl) ev_int .gt)))) ?_ (fun hc => ?_) (fun hc => ?_)
    · skip
      obtain rfl := Option.some.inj H
      refine ss_nil ?_
      exact (wkr (wkr (wkr (wkr (wkr (wkn wk0))))))
    · replace H := ifT hs_8 hc
      obtain ⟨pool_9, hpool_9, H⟩ := bindO H
      refine app_ (en := D.int) (x := (s_5.1 % (5040 : Int))) A sc_law_pool 4 rfl rfl rfl (ev_mod (nmF A sc_law_pool 2 rfl rfl rfl) ev_int (by decide)) (by first | rfl | exact heldOf_c) hpool_9 ⟨rfl, rfl, rfl⟩ rfl rfl ?_
      show SS X [some (.frz (D.int a_cell)), some (.frz (D.int a_number)), some (.frz (D.int s_5.1)), some (.frz (D.bl deep_2)), some (.own (D.lst (List.map D.int pool_9))), some (.frz (D.int z_6))] _ _
      obtain ⟨rest_10, hrest_10, H⟩ := bindO H
      refine set_ A sc_law_pool 2 rfl rfl (Ev.cv (ev_fdiv (nmF A sc_law_pool 2 rfl rfl rfl) ev_int ⟨by decide, by decide⟩) (congrArg D.int (Option.some.inj hrest_10))) .int rfl ?_
      show SS X [some (.frz (D.int a_cell)), some (.frz (D.int a_number)), some (.frz (D.int rest_10)), some (.frz (D.bl deep_2)), some (.own (D.lst (List.map D.int pool_9))), some (.frz (D.int z_6))] _ _
      obtain rfl := Option.some.inj H
      refine ss_nil ?_
      exact (wkr (wkr (wkr (wkr (wkr (wkr wk0))))))
    · replace H := ifF hs_8 hc
      obtain ⟨r_11, hr_11, H⟩ := bindO H
      obtain ⟨pool_12, hpool_12, H⟩ := bindO H
      refine app_ (en := D.int) (x := r_11) A sc_law_pool 4 rfl rfl rfl (Cal.ev C_law_mixed A sc_law_pool 2 rfl (by decide) (ea_cons (nmF A sc_law_pool 0 rfl rfl rfl) (ea_cons (nmF A sc_law_pool 5 rfl rfl rfl) ea_nil (.inl rfl) rfl) (.inl rfl) rfl) (.inl rfl) (.inr (.inl rfl)) rfl rfl ⟨a_cell, z_6, r_11, rfl, hr_11, rfl, rfl⟩) (by first | rfl | exact heldOf_c) hpool_12 ⟨rfl, rfl, rfl⟩ rfl rfl ?_
      show SS X [some (.frz (D.int a_cell)), some (.frz (D.int a_number)), some (.frz (D.int s_5.1)), some (.frz (D.bl deep_2)), some (.own (D.lst (List.map D.int pool_12))), some (.frz (D.int z_6))] _ _
      obtain rfl := Option.some.inj H
      refine ss_nil ?_
      exact (wkr (wkr (wkr (wkr (wkr (wkr wk0))))))
  exact retO A sc_law_pool 4 rfl rfl rfl (⟨(congrArg (fun x : (List Int) => (D.lst (List.map D.int x))) (Option.some.inj H)), .refl⟩)
def m_law_part (a_pool : (List Int)) (a_spot : Int) (a_under : Int) (a_size : Int) : Option Int :=
  ((idxG a_pool a_spot).bind fun x_1 => ((divG x_1 a_under).bind fun n_2 => ((modG n_2 a_size).bind fun n_3 => some n_3)))
def R_law_part : Rel := fun ds d k => ∃ (a_pool : (List Int)) (a_spot : Int) (a_under : Int) (a_size : Int) (r : Int), ds = [(D.lst (List.map D.int a_pool)), (D.int a_spot), (D.int a_under), (D.int a_size)] ∧ m_law_part a_pool a_spot a_under a_size = some r ∧ d = D.int r ∧ k = .cln
abbrev N_law_part : List Str := ["pool", "spot", "under", "size"]
theorem fs_law_part : FnScope N_law_part ["pool", "spot", "under", "size"] (defScope s_law_part) := ⟨rfl, rfl, rfl, by decide +kernel, rfl, by decide +kernel, by decide +kernel⟩
theorem sc_law_part : Sc N_law_part (defScope s_law_part) [0, 1, 2, 3] [] ["int"] := ⟨fs_law_part.nd, by decide +kernel⟩
theorem b_law_part {X : Cx} {Γ : Gd} (A : At X Γ N_law_part (defScope s_law_part) 0) (g_int : Γ.mg "int" = none) {ds : List D} {d : D} {k : Kd} (hR : R_law_part ds d k) :
    SS X (env0 4 ds) (defBody s_law_part) { rt := fun d' k' => d' = d ∧ Fits k' k d, nx := fun _ => d = .non ∧ k = .cln } := by
  obtain ⟨a_pool, a_spot, a_under, a_size, r, rfl, H, rfl, rfl⟩ := hR
  unfold m_law_part at H
  obtain ⟨x_1, hx_1, H⟩ := bindO H
  obtain ⟨n_2, hn_2, H⟩ := bindO H
  obtain ⟨n_3, hn_3, H⟩ := bindO H
  exact ss_ret (mod_ (div_ (int_ (bn A sc_law_part 0 rfl g_int bt_int) (ixL_ (f := D.int) (Ev.shlI (nmB A sc_law_part 0 rfl rfl rfl) (imms_map (fun _ => rfl) _)) (nmF A sc_law_part 1 rfl rfl rfl) hx_1 (fun _ _ => rfl)) .int rfl) (nmF A sc_law_part 2 rfl rfl rfl) hn_2) (nmF A sc_law_part 3 rfl rfl rfl) hn_3) (⟨(congrArg D.int (Option.some.inj H)), .int⟩)
def m_law_names (a_pool : (List Int)) (a_spot : Int) (a_number : Int) : Option (List Str) :=
  ((some ("abcdefghijklmnopqrstuvwxyz" : Str)).bind fun letters_1 => ((some ("" : Str)).bind fun stem_2 => ((rng1G (3 : Int)).bind fun r_3 => ((List.foldlM (fun (s_4 : (Str)) (z_5 : Int) => ((m_law_part a_pool (a_spot + z_5) (1 : Int) (26 : Int)).bind fun r_7 => ((idxSG letters_1 r_7).bind fun t_8 => ((addSG s_4 t_8).bind fun t_9 => ((m_law_part a_pool (a_spot + z_5) (26 : Int) (26 : Int)).bind fun r_10 => ((idxSG letters_1 r_10).bind fun t_11 => ((addSG t_9 t_11).bind fun t_12 => ((some t_12).bind fun stem_13 => some stem_13)))))))) stem_2 r_3).bind fun s_6 => ((m_law_part a_pool (a_spot + (3 : Int)) (1 : Int) (6 : Int)).bind fun r_14 => ((some r_14).bind fun turn_15 => ((m_law_part a_pool (a_spot + (3 : Int)) (6 : Int) (7 : Int)).bind fun r_16 => ((some r_16).bind fun cut_17 => ((m_law_part a_pool (a_spot + (3 : Int)) (42 : Int) (26 : Int)).bind fun r_18 => ((some r_18).bind fun first_19 => ((m_law_part a_pool (a_spot + (4 : Int)) (4 : Int) (7 : Int)).bind fun r_20 => ((slSG s_6 none (some r_20)).bind fun t_21 => ((some t_21).bind fun short_22 => ((m_law_part a_pool (a_spot + (4 : Int)) (2 : Int) (2 : Int)).bind fun r_23 => ((slSG s_6 none (some r_23)).bind fun t_24 => ((some t_24).bind fun tail_25 => ((some ([] : (List Str))).bind fun names_26 => ((rng1G a_number).bind fun r_27 => ((List.foldlM (fun (s_28 : ((List Str))) (z_29 : Int) => ((some ((z_29 + turn_15) % (6 : Int))).bind fun mark_31 => ((m_law_part a_pool (a_spot + (4 : Int)) (1 : Int) (2 : Int)).bind fun r_32 => ((if (decide (r_32 = (0 : Int))) = true then ((slSG short_22 none (some cut_17)).bind fun t_34 => ((idxSG letters_1 ((first_19 + ((7 : Int) * mark_31)) % (26 : Int))).bind fun t_35 => ((addSG t_34 t_35).bind fun t_36 => ((slSG short_22 (some cut_17) none).bind fun t_37 => ((addSG t_36 t_37).bind fun t_38 => ((addSG t_38 tail_25).bind fun t_39 => ((appG s_28 t_39).bind fun names_40 => some names_40))))))) else ((slSG s_6 none (some (mark_31 + (1 : Int)))).bind fun t_41 => ((appG s_28 t_41).bind fun names_42 => some names_42)) : Option ((List Str))).bind fun s_33 => some s_33)))) names_26 r_27).bind fun s_30 => some s_30)))))))))))))))))))
def R_law_names : Rel := fun ds d k => ∃ (a_pool : (List Int)) (a_spot : Int) (a_number : Int) (r : (List Str)), ds = [(D.lst (List.map D.int a_pool)), (D.int a_spot), (D.int a_number)] ∧ m_law_names a_pool a_spot a_number = some r ∧ d = (fun x : (List Str) => (D.lst (List.map D.str x))) r ∧ k = .own
abbrev N_law_names : List Str := ["pool", "spot", "number", "letters", "stem", "k", "turn", "cut", "first", "short", "tail", "names", "mark"]
theorem fs_law_names : FnScope N_law_names ["pool", "spot", "number"] (defScope s_law_names) := ⟨rfl, rfl, rfl, by decide +kernel, rfl, by decide +kernel, by decide +kernel⟩
theorem sc_law_names : Sc N_law_names (defScope s_law_names) [0, 1, 2, 3, 4, 5, 6, 7, 8, 9, 10, 11, 12] [3, 4, 5, 6, 7, 8, 9, 10, 11, 12] ["range", "_law_part", "int"] := ⟨fs_law_names.nd, by decide +kernel⟩
theorem b_law_names {X : Cx} {Γ : Gd} (A : At X Γ N_law_names (defScope s_law_names) 1) (g_int : Γ.mg "int" = none) (g_range : Γ.mg "range" = none) (C_law_part : Cal Γ "_law_part" R_law_part 1 []) {ds : List D} {d : D} {k : Kd} (hR : R_law_names ds d k) :
    SS X (env0 13 ds) (defBody s_law_names) { rt := fun d' k' => d' = d ∧ Fits k' k d, nx := fun _ => d = .non ∧ k = .cln } := by
  obtain ⟨a_pool, a_spot, a_number, r, rfl, H, rfl, rfl⟩ := hR
  unfold m_law_names at H
  obtain ⟨letters_1, hletters_1, H⟩ := bindO H
  refine set_ A sc_law_names 3 rfl rfl (Ev.cv ev_str (congrArg D.str (Option.some.inj hletters_1))) .str rfl ?_
  show SS X [some (.bor (D.lst (List.map D.int a_pool))), some (.frz (D.int a_spot)), some (.frz (D.int a_number)), some (.frz (D.str letters_1)), none, none, none, none, none, none, none, none, none] _ _
  obtain ⟨stem_2, hstem_2, H⟩ := bindO H
  refine set_ A sc_law_names 4 rfl rfl (Ev.cv ev_str (congrArg D.str (Option.some.inj hstem_2))) .str rfl ?_
  show SS X [some (.bor (D.lst (List.map D.int a_pool))), some (.frz (D.int a_spot)), some (.frz (D.int a_number)), some (.frz (D.str letters_1)), some (.frz (D.str stem_2)), none, none, none, none, none, none, none, none] _ _
  obtain ⟨r_3, hr_3, H⟩ := bindO H
  obtain ⟨s_6, hs_6, H⟩ := bindO H
  refine forM_ (en := D.int) (fun s_4 : (Str) => [some (.bor (D.lst (List.map D.int a_pool))), some (.frz (D.int a_spot)), some (.frz (D.int a_number)), some (.frz (D.str letters_1)), some (.frz (D.str s_4)), none, none, none, none, none, none, none, none]) A (rng1_ (glo A sc_law_names 0 rfl) (by rw [A.eM]; exact g_range) ev_int hr_3 rfl) (tg A sc_law_names 5 rfl rfl) (fun _ => rfl) hs_6 ?_ ?_ ?_
  · exact (wkr (wkr (wkr (wkr (wkr (wkn (wkn (wkn (wkn (wkn (wkn (wkn (wkn wk0)))))))))))))
  · intro s_4 z_5 s' hx H
    refine ⟨_, rfl, ?_⟩
    obtain ⟨r_7, hr_7, H⟩ := bindO H
    obtain ⟨t_8, ht_8, H⟩ := bindO H
    obtain ⟨t_9, ht_9, H⟩ := bindO H
    obtain ⟨r_10, hr_10, H⟩ := bindO H
    obtain ⟨t_11, ht_11, H⟩ := bindO H
    obtain ⟨t_12, ht_12, H⟩ := bindO H
    obtain ⟨stem_13, hstem_13, H⟩ := bindO H
    refine set_ A sc_law_names 4 rfl rfl (Ev.cv (addS_ (addS_ (nmF A sc_law_names 4 rfl rfl rfl) (ixS_ (nmF A sc_law_names 3 rfl rfl rfl) (Cal.ev C_law_part A sc_law_names 1 rfl (by decide) (ea_cons (nmB A sc_law_names 0 rfl rfl rfl) (ea_cons (ev_add (nmF A sc_law_names 1 rfl rfl rfl) (nmF A sc_law_names 5 rfl rfl rfl)) (ea_cons ev_int (ea_cons ev_int ea_nil (.inl rfl) rfl) (.inl rfl) rfl) (.inl rfl) rfl) (.inl rfl) rfl) (.inr (.inl rfl)) (.inr (.inl rfl)) rfl rfl ⟨a_pool, (a_spot + z_5), (1 : Int), (26 : Int), r_7, rfl, hr_7, rfl, rfl⟩) ht_8 (fun _ _ => rfl)) ht_9) (ixS_ (nmF A sc_law_names 3 rfl rfl rfl) (Cal.ev C_law_part A sc_law_names 1 rfl (by decide) (ea_cons (nmB A sc_law_names 0 rfl rfl rfl) (ea_cons (ev_add (nmF A sc_law_names 1 rfl rfl rfl) (nmF A sc_law_names 5 rfl rfl rfl)) (ea_cons ev_int (ea_cons ev_int ea_nil (.inl rfl) rfl) (.inl rfl) rfl) (.inl rfl) rfl) (.inl rfl) rfl) (.inr (.inl rfl)) (.inr (.inl rfl)) rfl rfl ⟨a_pool, (a_spot + z_5), (26 : Int), (26 : Int), r_10, rfl, hr_10, rfl, rfl⟩) ht_11 (fun _ _ => rfl)) ht_12) (congrArg D.str (Option.some.inj hstem_13))) .str rfl ?_
    show SS X [some (.bor (D.lst (List.map D.int a_pool))), some (.frz (D.int a_spot)), some (.frz (D.int a_number)), some (.frz (D.str letters_1)), some (.frz (D.str stem_13)), some (.frz (D.int z_5)), none, none, none, none, none, none, none] _ _
    obtain rfl := Option.some.inj H
    refine ss_nil ?_
    exact (wkr (wkr (wkr (wkr (wkr (wkn (wkn (wkn (wkn (wkn (wkn (wkn (wkn wk0)))))))))))))
  obtain ⟨r_14, hr_14, H⟩ := bindO H
  obtain ⟨turn_15, hturn_15, H⟩ := bindO H
  refine set_ A sc_law_names 6 rfl rfl (Ev.cv (Cal.ev C_law_part A sc_law_names 1 rfl (by decide) (ea_cons (nmB A sc_law_names 0 rfl rfl rfl) (ea_cons (ev_add (nmF A sc_law_names 1 rfl rfl rfl) ev_int) (ea_cons ev_int (ea_cons ev_int ea_nil (.inl rfl) rfl) (.inl rfl) rfl) (.inl rfl) rfl) (.inl rfl) rfl) (.inr (.inl rfl)) (.inr (.inl rfl)) rfl rfl ⟨a_pool, (a_spot + (3 : Int)), (1 : Int), (6 : Int), r_14, rfl, hr_14, rfl, rfl⟩) (congrArg D.int (Option.some.inj hturn_15))) .int rfl ?_
  show SS X [some (.bor (D.lst (List.map D.int a_pool))), some (.frz (D.int a_spot)), some (.frz (D.int a_number)), some (.frz (D.str letters_1)), some (.frz (D.str s_6)), none, some (.frz (D.int turn_15)), none, none, none, none, none, none] _ _
  obtain ⟨r_16, hr_16, H⟩ := bindO H
  obtain ⟨cut_17, hcut_17, H⟩ := bindO H
  refine set_ A sc_law_names 7 rfl rfl (Ev.cv (Cal.ev C_law_part A sc_law_names 1 rfl (by decide) (ea_cons (nmB A sc_law_names 0 rfl rfl rfl) (ea_cons (ev_add (nmF A sc_law_names 1 rfl rfl rfl) ev_int) (ea_cons ev_int (ea_cons ev_int ea_nil (.inl rfl) rfl) (.inl rfl) rfl) (.inl rfl) rfl) (.inl rfl) rfl) (.inr (.inl rfl)) (.inr (.inl rfl)) rfl rfl ⟨a_pool, (a_spot + (3 : Int)), (6 : Int), (7 : Int), r_16, rfl, hr_16, rfl, rfl⟩) (congrArg D.int (Option.some.inj hcut_17))) .int rfl ?_
  show SS X [some (.bor (D.lst (List.map D.int a_pool))), some (.frz (D.int a_spot)), some (.frz (D.int a_number)), some (.frz (D.str letters_1)), some (.frz (D.str s_6)), none, some (.frz (D.int turn_15)), some (.frz (D.int cut_17)), none, none, none, none, none] _ _
  obtain ⟨r_18, hr_18, H⟩ := bindO H
  obtain ⟨first_19, hfirst_19, H⟩ := bindO H
  refine set_ A sc_law_names 8 rfl rfl (Ev.cv (Cal.ev C_law_part A sc_law_names 1 rfl (by decide) (ea_cons (nmB A sc_law_names 0 rfl rfl rfl) (ea_cons (ev_add (nmF A sc_law_names 1 rfl rfl rfl) ev_int) (ea_cons ev_int (ea_cons ev_int ea_nil (.inl rfl) rfl) (.inl rfl) rfl) (.inl rfl) rfl) (.inl rfl) rfl) (.inr (.inl rfl)) (.inr (.inl rfl)) rfl rfl ⟨a_pool, (a_spot + (3 : Int)), (42 : Int), (26 : Int), r_18, rfl, hr_18, rfl, rfl⟩) (congrArg D.int (Option.some.inj hfirst_19))) .int rfl ?_
  show SS X [some (.bor (D.lst (List.map D.int a_pool))), some (.frz (D.int a_spot)), some (.frz (D.int a_number)), some (.frz (D.str letters_1)), some (.frz (D.str s_6)), none, some (.frz (D.int turn_15)), some (.frz (D.int cut_17)), some (.frz (D.int first_19)), none, none, none, none] _ _
  obtain ⟨r_20, hr_20, H⟩ := bindO H
  obtain ⟨t_21, ht_21, H⟩ := bindO H
  obtain ⟨short_22, hshort_22, H⟩ := bindO H
  refine set_ A sc_law_names 9 rfl rfl (Ev.cv (slS_ (nmF A sc_law_names 4 rfl rfl rfl) eo_none (eo_some (Cal.ev C_law_part A sc_law_names 1 rfl (by decide) (ea_cons (nmB A sc_law_names 0 rfl rfl rfl) (ea_cons (ev_add (nmF A sc_law_names 1 rfl rfl rfl) ev_int) (ea_cons ev_int (ea_cons ev_int ea_nil (.inl rfl) rfl) (.inl rfl) rfl) (.inl rfl) rfl) (.inl rfl) rfl) (.inr (.inl rfl)) (.inr (.inl rfl)) rfl rfl ⟨a_pool, (a_spot + (4 : Int)), (4 : Int), (7 : Int), r_20, rfl, hr_20, rfl, rfl⟩)) ht_21) (congrArg D.str (Option.some.inj hshort_22))) .str rfl ?_
  show SS X [some (.bor (D.lst (List.map D.int a_pool))), some (.frz (D.int a_spot)), some (.frz (D.int a_number)), some (.frz (D.str letters_1)), some (.frz (D.str s_6)), none, some (.frz (D.int turn_15)), some (.frz (D.int cut_17)), some (.frz (D.int first_19)), some (.frz (D.str short_22)), none, none, none] _ _
  obtain ⟨r_23, hr_23, H⟩ := bindO H
  obtain ⟨t_24, ht_24, H⟩ := bindO H
  obtain ⟨tail_25, htail_25, H⟩ := bindO H
  refine set_ A sc_law_names 10 rfl rfl (Ev.cv (slS_ (nmF A sc_law_names 4 rfl rfl rfl) eo_none (eo_some (Cal.ev C_law_part A sc_law_names 1 rfl (by decide) (ea_cons (nmB A sc_law_names 0 rfl rfl rfl) (ea_cons (ev_add (nmF A sc_law_names 1 rfl rfl rfl) ev_int) (ea_cons ev_int (ea_cons ev_int ea_nil (.inl rfl) rfl) (.inl rfl) rfl) (.inl rfl) rfl) (.inl rfl) rfl) (.inr (.inl rfl)) (.inr (.inl rfl)) rfl rfl ⟨a_pool, (a_spot + (4 : Int)), (2 : Int), (2 : Int), r_23, rfl, hr_23, rfl, rfl⟩)) ht_24) (congrArg D.str (Option.some.inj htail_25))) .str rfl ?_
  show SS X [some (.bor (D.lst (List.map D.int a_pool))), some (.frz (D.int a_spot)), some (.frz (D.int a_number)), some (.frz (D.str letters_1)), some (.frz (D.str s_6)), none, some (.frz (D.int turn_15)), some (.frz (D.int cut_17)), some (.frz (D.int first_19)), some (.frz (D.str short_22)), some (.frz (D.str tail_25)), none, none] _ _
  obtain ⟨names_26, hnames_26, H⟩ := bindO H
  refine set_ A sc_law_names 11 rfl rfl (Ev.cv (ev_list ea_nil (.inl rfl) (le_line rfl)) (congrArg (fun x : (List Str) => (D.lst (List.map D.str x))) (Option.some.inj hnames_26))) .own rfl ?_
  show SS X [some (.bor (D.lst (List.map D.int a_pool))), some (.frz (D.int a_spot)), some (.frz (D.int a_number)), some (.frz (D.str letters_1)), some (.frz (D.str s_6)), none, some (.frz (D.int turn_15)), some (.frz (D.int cut_17)), some (.frz (D.int first_19)), some (.frz (D.str short_22)), some (.frz (D.str tail_25)), some (.own (D.lst (List.map D.str names_26))), none] _ _
  obtain ⟨r_27, hr_27, H⟩ := bindO H
  obtain ⟨s_30, hs_30, H⟩ := bindO H
  refine forM_ (en := D.int) (fun s_28 : ((List Str)) => [some (.bor (D.lst (List.map D.int a_pool))), some (.frz (D.int a_spot)), some (.frz (D.int a_number)), some (.frz (D.str letters_1)), some (.frz (D.str s_6)), none, some (.frz (D.int turn_15)), some (.frz (D.int cut_17)), some (.frz (D.int first_19)), some (.frz (D.str short_22)), some (.frz (D.str tail_25)), some (.own (D.lst (List.map D.str s_28))), none]) A (rng1_ (glo A sc_law_names 0 rfl) (by rw [A.eM]; exact g_range) (nmF A sc_law_names 2 rfl rfl rfl) hr_27 rfl) (tg A sc_law_names 5 rfl rfl) (fun _ => rfl) hs_30 ?_ ?_ ?_
  · exact (wkr (wkr (wkr (wkr (wkr (wkn (wkr (wkr (wkr (wkr (wkr (wkr (wkn wk0)))))))))))))
  · intro s_28 z_29 s' hx H
    refine ⟨_, rfl, ?_⟩
    obtain ⟨mark_31, hmark_31, H⟩ := bindO H
    refine set_ A sc_law_names 12 rfl rfl (Ev.cv (ev_mod (int_ (bn A sc_law_names 2 rfl g_int bt_int) (ev_add (nmF A sc_law_names 5 rfl rfl rfl) (nmF A sc_law_names 6 rfl rfl rfl)) .int rfl) ev_int (by decide)) (congrArg D.int (Option.some.inj hmark_31))) .int rfl ?_
    show SS X [some (.bor (D.lst (List.map D.int a_pool))), some (.frz (D.int a_spot)), some (.frz (D.int a_number)), some (.frz (D.str letters_1)), some (.frz (D.str s_6)), some (.frz (D.int z_29)), some (.frz (D.int turn_15)), some (.frz (D.int cut_17)), some (.frz (D.int first_19)), some (.frz (D.str short_22)), some (.frz (D.str tail_25)), some (.own (D.lst (List.map D.str s_28))), some (.frz (D.int mark_31))] _ _
    obtain ⟨r_32, hr_32, H⟩ := bindO H
    obtain ⟨s_33, hs_33, H⟩ := bindO H
    refine ss_ifM [some (.bor (D.lst (List.map D.int a_pool))), some (.frz (D.int a_spot)), some (.frz (D.int a_number)), some (.frz (D.str letters_1)), some (.frz (D.str s_6)), some (.frz (D.int z_29)), some (.frz (D.int turn_15)), some (.frz (D.int cut_17)), some (.frz (D.int first_19)), some (.frz (D.str short_22)), some (.frz (D.str tail_25)), some (.own (D.lst (List.map D.str s_33))), some (.frz (D.int mark_31))] (et_cI (Cal.ev C_law_part A sc_law_names 1 rfl (by decide) (ea_cons (nmB A sc_law_names 0 rfl rfl rfl) (ea_cons (ev_add (nmF A sc_law_names 1 rfl rfl rfl) ev_int) (ea_cons ev_int (ea_cons ev_int ea_nil (.inl rfl) rfl) (.inl rfl) rfl) (.inl rfl) rfl) (.inl rfl) rfl) (.inr (.inl rfl)) (.inr (.inl rfl)) rfl rfl ⟨a_pool, (a_spot + (4 : Int)), (1 : Int), (2 : Int), r_32, rfl, hr_32, rfl, rfl⟩) ev_int .eq) ?_ (fun hc => ?_) (fun hc => ?_)
    · skip
      obtain rfl := Option.some.inj H
      refine ss_nil ?_
      exact (wkr (wkr (wkr (wkr (wkr (wkn (wkr (wkr (wkr (wkr (wkr (wkr (wkn wk0)))))))))))))
    · replace H := ifT hs_33 hc
      obtain ⟨t_34, ht_34, H⟩ := bindO H
      obtain ⟨t_35, ht_35, H⟩ := bindO H
      obtain ⟨t_36, ht_36, H⟩ := bindO H
      obtain ⟨t_37, ht_37, H⟩ := bindO H
      obtain ⟨t_38, ht_38, H⟩ := bindO H
      obtain ⟨t_39, ht_39, H⟩ := bindO H
      obtain ⟨names_40, hnames_40, H⟩ := bindO H
      refine app_ (en := D.str) (x := t_39) A sc_law_names 11 rfl rfl rfl (addS_ (addS_ (addS_ (slS_ (nmF A sc_law_names 9 rfl rfl rfl) eo_none (eo_some (nmF A sc_law_names 7 rfl rfl rfl)) ht_34) (ixS_ (nmF A sc_law_names 3 rfl rfl rfl) (ev_mod (int_ (bn A sc_law_names 2 rfl g_int bt_int) (ev_add (nmF A sc_law_names 8 rfl rfl rfl) (ev_mul ev_int (nmF A sc_law_names 12 rfl rfl rfl) (.inl ⟨by decide, by decide⟩))) .int rfl) ev_int (by decide)) ht_35 (fun _ _ => rfl)) ht_36) (slS_ (nmF A sc_law_names 9 rfl rfl rfl) (eo_some (nmF A sc_law_names 7 rfl rfl rfl)) eo_none ht_37) ht_38) (nmF A sc_law_names 10 rfl rfl rfl) ht_39) (by first | rfl | exact heldOf_c) hnames_40 ⟨rfl, rfl, rfl⟩ rfl rfl ?_
      show SS X [some (.bor (D.lst (List.map D.int a_pool))), some (.frz (D.int a_spot)), some (.frz (D.int a_number)), some (.frz (D.str letters_1)), some (.frz (D.str s_6)), some (.frz (D.int z_29)), some (.frz (D.int turn_15)), some (.frz (D.int cut_17)), some (.frz (D.int first_19)), some (.frz (D.str short_22)), some (.frz (D.str tail_25)), some (.own (D.lst (List.map D.str names_40))), some (.frz (D.int mark_31))] _ _
      obtain rfl := Option.some.inj H
      refine ss_nil ?_
      exact (wkr (wkr (wkr (wkr (wkr (wkr (wkr (wkr (wkr (wkr (wkr (wkr (wkr wk0)))))))))))))
    · replace H := ifF hs_33 hc
      obtain ⟨t_41, ht_41, H⟩ := bindO H
      obtain ⟨names_42, hnames_42, H⟩ := bindO H
      refine app_ (en := D.str) (x := t_41) A sc_law_names 11 rfl rfl rfl (slS_ (nmF A sc_law_names 4 rfl rfl rfl) eo_none (eo_some (ev_add (nmF A sc_law_names 12 rfl rfl rfl) ev_int)) ht_41) (by first | rfl | exact heldOf_c) hnames_42 ⟨rfl, rfl, rfl⟩ rfl rfl ?_
      show SS X [some (.bor (D.lst (List.map D.int a_pool))), some (.frz (D.int a_spot)), some (.frz (D.int a_number)), some (.frz (D.str letters_1)), some (.frz (D.str s_6)), some (.frz (D.int z_29)), some (.frz (D.int turn_15)), some (.frz (D.int cut_17)), some (.frz (D.int first_19)), some (.frz (D.str short_22)), some (.frz (D.str tail_25)), some (.own (D.lst (List.map D.str names_42))), some (.frz (D.int mark_31))] _ _
      obtain rfl := Option.some.inj H
      refine ss_nil ?_
      exact (wkr (wkr (wkr (wkr (wkr (wkr (wkr (wkr (wkr (wkr (wkr (wkr (wkr wk0)))))))))))))
  exact retO A sc_law_names 11 rfl rfl rfl (⟨(congrArg (fun x : (List Str) => (D.lst (List.map D.str x))) (Option.some.inj H)), .refl⟩)
def m_law_some (a_pool : (List Int)) (a_spot : Int) (a_names : (List Str)) : Option (List Str) :=
  ((some ([] : (List Str))).bind fun some_1 => ((rng1G (a_names.length : Int)).bind fun r_2 => ((List.foldlM (fun (s_3 : ((List Str))) (z_4 : Int) => ((idxG [(1 : Int), (2 : Int), (4 : Int), (8 : Int)] z_4).bind fun x_6 => ((m_law_part a_pool a_spot x_6 (2 : Int)).bind fun r_7 => ((if (decide (r_7 = (1 : Int))) = true then ((idxG a_names z_4).bind fun x_9 => ((appG s_3 x_9).bind fun some_10 => some some_10)) else some s_3 : Option ((List Str))).bind fun s_8 => some s_8)))) some_1 r_2).bind fun s_5 => some s_5)))
def R_law_some : Rel := fun ds d k => ∃ (a_pool : (List Int)) (a_spot : Int) (a_names : (List Str)) (r : (List Str)), ds = [(D.lst (List.map D.int a_pool)), (D.int a_spot), (D.lst (List.map D.str a_names))] ∧ m_law_some a_pool a_spot a_names = some r ∧ d = (fun x : (List Str) => (D.lst (List.map D.str x))) r ∧ k = .own
abbrev N_law_some : List Str := ["pool", "spot", "names", "some", "k"]
theorem fs_law_some : FnScope N_law_some ["pool", "spot", "names"] (defScope s_law_some) := ⟨rfl, rfl, rfl, by decide +kernel, rfl, by decide +kernel, by decide +kernel⟩
theorem sc_law_some : Sc N_law_some (defScope s_law_some) [0, 1, 2, 3, 4] [3, 4] ["range", "len", "_law_part"] := ⟨fs_law_some.nd, by decide +kernel⟩
theorem b_law_some {X : Cx} {Γ : Gd} (A : At X Γ N_law_some (defScope s_law_some) 1) (g_len : Γ.mg "len" = none) (g_range : Γ.mg "range" = none) (C_law_part : Cal Γ "_law_part" R_law_part 1 []) {ds : List D} {d : D} {k : Kd} (hR : R_law_some ds d k) :
    SS X (env0 5 ds) (defBody s_law_some) { rt := fun d' k' => d' = d ∧ Fits k' k d, nx := fun _ => d = .non ∧ k = .cln } := by
  obtain ⟨a_pool, a_spot, a_names, r, rfl, H, rfl, rfl⟩ := hR
  unfold m_law_some at H
  obtain ⟨some_1, hsome_1, H⟩ := bindO H
  refine set_ A sc_law_some 3 rfl rfl (Ev.cv (ev_list ea_nil (.inl rfl) (le_line rfl)) (congrArg (fun x : (List Str) => (D.lst (List.map D.str x))) (Option.some.inj hsome_1))) .own rfl ?_
  show SS X [some (.bor (D.lst (List.map D.int a_pool))), some (.frz (D.int a_spot)), some (.bor (D.lst (List.map D.str a_names))), some (.own (D.lst (List.map D.str some_1))), none] _ _
  obtain ⟨r_2, hr_2, H⟩ := bindO H
  obtain ⟨s_5, hs_5, H⟩ := bindO H
  refine forM_ (en := D.int) (fun s_3 : ((List Str)) => [some (.bor (D.lst (List.map D.int a_pool))), some (.frz (D.int a_spot)), some (.bor (D.lst (List.map D.str a_names))), some (.own (D.lst (List.map D.str s_3))), none]) A (rng1_ (glo A sc_law_some 0 rfl) (by rw [A.eM]; exact g_range) (lenL_ (bn A sc_law_some 1 rfl g_len bt_len) (nmB A sc_law_some 2 rfl rfl rfl) rfl) hr_2 rfl) (tg A sc_law_some 4 rfl rfl) (fun _ => rfl) hs_5 ?_ ?_ ?_
  · exact (wkr (wkr (wkr (wkr (wkn wk0)))))
  · intro s_3 z_4 s' hx H
    refine ⟨_, rfl, ?_⟩
    obtain ⟨x_6, hx_6, H⟩ := bindO H
    obtain ⟨r_7, hr_7, H⟩ := bindO H
    obtain ⟨s_8, hs_8, H⟩ := bindO H
    refine ss_ifM [some (.bor (D.lst (List.map D.int a_pool))), some (.frz (D.int a_spot)), some (.bor (D.lst (List.map D.str a_names))), some (.own (D.lst (List.map D.str s_8))), some (.frz (D.int z_4))] (et_cI (Cal.ev C_law_part A sc_law_some 2 rfl (by decide) (ea_cons (nmB A sc_law_some 0 rfl rfl rfl) (ea_cons (nmF A sc_law_some 1 rfl rfl rfl) (ea_cons (ixL_ (f := D.int) (Ev.cv (ev_list (ea_cons ev_int (ea_cons ev_int (ea_cons ev_int (ea_cons ev_int ea_nil (.inl rfl) rfl) (.inl rfl) rfl) (.inl rfl) rfl) (.inl rfl) rfl) (.inl rfl) (le_line rfl)) rfl) (nmF A sc_law_some 4 rfl rfl rfl) hx_6 (fun _ _ => rfl)) (ea_cons ev_int ea_nil (.inl rfl) rfl) (.inl rfl) rfl) (.inl rfl) rfl) (.inl rfl) rfl) (.inr (.inl rfl)) (.inr (.inl rfl)) rfl rfl ⟨a_pool, a_spot, x_6, (2 : Int), r_7, rfl, hr_7, rfl, rfl⟩) ev_int .eq) ?_ (fun hc => ?_) (fun hc => ?_)
    · skip
      obtain rfl := Option.some.inj H
      refine ss_nil ?_
      exact (wkr (wkr (wkr (wkr (wkn wk0)))))
    · replace H := ifT hs_8 hc
      obtain ⟨x_9, hx_9, H⟩ := bindO H
      obtain ⟨some_10, hsome_10, H⟩ := bindO H
      refine app_ (en := D.str) (x := x_9) A sc_law_some 3 rfl rfl rfl (ixL_ (f := D.str) (Ev.shlI (nmB A sc_law_some 2 rfl rfl rfl) (imms_map (fun _ => rfl) _)) (nmF A sc_law_some 4 rfl rfl rfl) hx_9 (fun _ _ => rfl)) (by first | rfl | exact heldOf_c) hsome_10 ⟨rfl, rfl, rfl⟩ rfl rfl ?_
      show SS X [some (.bor (D.lst (List.map D.int a_pool))), some (.frz (D.int a_spot)), some (.bor (D.lst (List.map D.str a_names))), some (.own (D.lst (List.map D.str some_10))), some (.frz (D.int z_4))] _ _
      obtain rfl := Option.some.inj H
      refine ss_nil ?_
      exact (wkr (wkr (wkr (wkr (wkr wk0)))))
    · replace H := ifF hs_8 hc
      obtain rfl := Option.some.inj H
      refine ss_nil ?_
      exact (wkr (wkr (wkr (wkr (wkr wk0)))))
  exact retO A sc_law_some 3 rfl rfl rfl (⟨(congrArg (fun x : (List Str) => (D.lst (List.map D.str x))) (Option.some.inj H)), .refl⟩)
def m_law_shuffled (a_pool : (List Int)) (a_spot : Int) (a_row : (List Str)) : Option (List Str) :=
  ((some a_row).bind fun left_1 => ((some ([] : (List Str))).bind fun taken_2 => ((rng1G (a_row.length : Int)).bind fun r_3 => ((List.foldlM (fun (s_4 : ((List Str) × (List Str))) (z_5 : Int) => ((idxG [(1 : Int), (4 : Int), (12 : Int), (24 : Int)] z_5).bind fun x_7 => ((idxG [(4 : Int), (3 : Int), (2 : Int), (1 : Int)] z_5).bind fun x_8 => ((m_law_part a_pool a_spot x_7 x_8).bind fun r_9 => ((modG r_9 (s_4.1.length : Int)).bind fun n_10 => ((popG s_4.1 n_10).bind fun pp_11 => ((appG s_4.2 pp_11.1).bind fun taken_12 => some (pp_11.2, taken_12)))))))) (left_1, taken_2) r_3).bind fun s_6 => some s_6.2))))
def R_law_shuffled : Rel := fun ds d k => ∃ (a_pool : (List Int)) (a_spot : Int) (a_row : (List Str)) (r : (List Str)), ds = [(D.lst (List.map D.int a_pool)), (D.int a_spot), (D.lst (List.map D.str a_row))] ∧ m_law_shuffled a_pool a_spot a_row = some r ∧ d = (fun x : (List Str) => (D.lst (List.map D.str x))) r ∧ k = .own
abbrev N_law_shuffled : List Str := ["pool", "spot", "row", "left", "taken", "k"]
theorem fs_law_shuffled : FnScope N_law_shuffled ["pool", "spot", "row"] (defScope s_law_shuffled) := ⟨rfl, rfl, rfl, by decide +kernel, rfl, by decide +kernel, by decide +kernel⟩
theorem sc_law_shuffled : Sc N_law_shuffled (defScope s_law_shuffled) [0, 1, 2, 3, 4, 5] [3, 4, 5] ["list", "range", "len", "_law_part"] := ⟨fs_law_shuffled.nd, by decide +kernel⟩
theorem b_law_shuffled {X : Cx} {Γ : Gd} (A : At X Γ N_law_shuffled (defScope s_law_shuffled) 1) (g_len : Γ.mg "len" = none) (g_list : Γ.mg "list" = none) (g_range : Γ.mg "range" = none) (C_law_part : Cal Γ "_law_part" R_law_part 1 []) {ds : List D} {d : D} {k : Kd} (hR : R_law_shuffled ds d k) :
    SS X (env0 6 ds) (defBody s_law_shuffled) { rt := fun d' k' => d' = d ∧ Fits k' k d, nx := fun _ => d = .non ∧ k = .cln } := by
  obtain ⟨a_pool, a_spot, a_row, r, rfl, H, rfl, rfl⟩ := hR
  unfold m_law_shuffled at H
  obtain ⟨left_1, hleft_1, H⟩ := bindO H
  refine set_ A sc_law_shuffled 3 rfl rfl (Ev.cv (list_ (bn A sc_law_shuffled 0 rfl g_list bt_list) (Ev.shlI (nmB A sc_law_shuffled 2 rfl rfl rfl) (imms_map (fun _ => rfl) _)) .lst rfl) (congrArg (fun x : (List Str) => (D.lst (List.map D.str x))) (Option.some.inj hleft_1))) .own rfl ?_
  show SS X [some (.bor (D.lst (List.map D.int a_pool))), some (.frz (D.int a_spot)), some (.bor (D.lst (List.map D.str a_row))), some (.own (D.lst (List.map D.str left_1))), none, none] _ _
  obtain ⟨taken_2, htaken_2, H⟩ := bindO H
  refine set_ A sc_law_shuffled 4 rfl rfl (Ev.cv (ev_list ea_nil (.inl rfl) (le_line rfl)) (congrArg (fun x : (List Str) => (D.lst (List.map D.str x))) (Option.some.inj htaken_2))) .own rfl ?_
  show SS X [some (.bor (D.lst (List.map D.int a_pool))), some (.frz (D.int a_spot)), some (.bor (D.lst (List.map D.str a_row))), some (.own (D.lst (List.map D.str left_1))), some (.own (D.lst (List.map D.str taken_2))), none] _ _
  obtain ⟨r_3, hr_3, H⟩ := bindO H
  obtain ⟨s_6, hs_6, H⟩ := bindO H
  refine forM_ (en := D.int) (fun s_4 : ((List Str) × (List Str)) => [some (.bor (D.lst (List.map D.int a_pool))), some (.frz (D.int a_spot)), some (.bor (D.lst (List.map D.str a_row))), some (.own (D.lst (List.map D.str s_4.1))), some (.own (D.lst (List.map D.str s_4.2))), none]) A (rng1_ (glo A sc_law_shuffled 1 rfl) (by rw [A.eM]; exact g_range) (lenL_ (bn A sc_law_shuffled 2 rfl g_len bt_len) (nmB A sc_law_shuffled 2 rfl rfl rfl) rfl) hr_3 rfl) (tg A sc_law_shuffled 5 rfl rfl) (fun _ => rfl) hs_6 ?_ ?_ ?_
  · exact (wkr (wkr (wkr (wkr (wkr (wkn wk0))))))
  · intro s_4 z_5 s' hx H
    refine ⟨_, rfl, ?_⟩
    obtain ⟨x_7, hx_7, H⟩ := bindO H
    obtain ⟨x_8, hx_8, H⟩ := bindO H
    obtain ⟨r_9, hr_9, H⟩ := bindO H
    obtain ⟨n_10, hn_10, H⟩ := bindO H
    obtain ⟨pp_11, hpp_11, H⟩ := bindO H
    obtain ⟨taken_12, htaken_12, H⟩ := bindO H
    refine appE_ (en := D.str) (x := pp_11.1) A sc_law_shuffled 4 rfl rfl rfl (popI_ (f := D.str) A sc_law_shuffled 3 rfl rfl rfl (mod_ (Cal.ev C_law_part A sc_law_shuffled 3 rfl (by decide) (ea_cons (nmB A sc_law_shuffled 0 rfl rfl rfl) (ea_cons (nmF A sc_law_shuffled 1 rfl rfl rfl) (ea_cons (ixL_ (f := D.int) (Ev.cv (ev_list (ea_cons ev_int (ea_cons ev_int (ea_cons ev_int (ea_cons ev_int ea_nil (.inl rfl) rfl) (.inl rfl) rfl) (.inl rfl) rfl) (.inl rfl) rfl) (.inl rfl) (le_line rfl)) rfl) (nmF A sc_law_shuffled 5 rfl rfl rfl) hx_7 (fun _ _ => rfl)) (ea_cons (ixL_ (f := D.int) (Ev.cv (ev_list (ea_cons ev_int (ea_cons ev_int (ea_cons ev_int (ea_cons ev_int ea_nil (.inl rfl) rfl) (.inl rfl) rfl) (.inl rfl) rfl) (.inl rfl) rfl) (.inl rfl) (le_line rfl)) rfl) (nmF A sc_law_shuffled 5 rfl rfl rfl) hx_8 (fun _ _ => rfl)) ea_nil (.inl rfl) rfl) (.inl rfl) rfl) (.inl rfl) rfl) (.inl rfl) rfl) (.inr (.inl rfl)) (.inr (.inl rfl)) rfl rfl ⟨a_pool, a_spot, x_7, x_8, r_9, rfl, hr_9, rfl, rfl⟩) (lenL_ (bn A sc_law_shuffled 2 rfl g_len bt_len) (nmO A sc_law_shuffled 3 rfl rfl rfl) rfl) hn_10) hpp_11 rfl ⟨rfl, rfl, rfl⟩) (by first | rfl | exact heldOf_c) htaken_12 ⟨rfl, rfl, rfl⟩ rfl rfl ⟨_, rfl⟩ ?_
    show SS X [some (.bor (D.lst (List.map D.int a_pool))), some (.frz (D.int a_spot)), some (.bor (D.lst (List.map D.str a_row))), some (.own (D.lst (List.map D.str pp_11.2))), some (.own (D.lst (List.map D.str taken_12))), some (.frz (D.int z_5))] _ _
    obtain rfl := Option.some.inj H
    refine ss_nil ?_
    exact (wkr (wkr (wkr (wkr (wkr (wkn wk0))))))
  exact retO A sc_law_shuffled 4 rfl rfl rfl (⟨(congrArg (fun x : (List Str) => (D.lst (List.map D.str x))) (Option.some.inj H)), .refl⟩)
def m_law_case (a_pool : (List Int)) (a_crew : (List Str)) : Option ((List Int) × (List Str) × (List Str) × (List Str) × Str × Int × (List Str) × (Option Int)) :=
  ((m_law_part a_pool (0 : Int) (1 : Int) (5 : Int)).bind fun r_1 => ((idxG [(0 : Int), (0 : Int), (0 : Int), (1000000000 : Int), (100000000000000000000000000000000000000000000000000000000000 : Int)] r_1).bind fun x_2 => ((some x_2).bind fun base_3 => ((m_law_part a_pool (0 : Int) (5 : Int) (6 : Int)).bind fun r_4 => ((some (base_3 + r_4)).bind fun crest_5 => ((some ([] : (List Int))).bind fun loads_6 => ((rng1G (a_crew.length : Int)).bind fun r_7 => ((List.foldlM (fun (s_8 : ((List Int))) (z_9 : Int) => ((idxG [(1 : Int), (6 : Int), (36 : Int), (216 : Int)] z_9).bind fun x_11 => ((m_law_part a_pool (1 : Int) x_11 (6 : Int)).bind fun r_12 => ((appG s_8 (if (crest_5 - r_12) > (0 : Int) then (crest_5 - r_12) else (0 : Int) : Int)).bind fun loads_13 => some loads_13)))) loads_6 r_7).bind fun s_10 => ((m_law_some a_pool (2 : Int) a_crew).bind fun r_14 => ((some r_14).bind fun wishes_15 => ((some ([] : (List Str))).bind fun having_16 => ((m_law_part a_pool (2 : Int) (16 : Int) (4 : Int)).bind fun r_17 => ((some r_17).bind fun way_18 => ((if (decide (way_18 = (1 : Int))) = true then ((m_law_shuffled a_pool (3 : Int) wishes_15).bind fun r_20 => ((some (cutX r_20 none (some (1 : Int)))).bind fun having_21 => some having_21)) else some having_16 : Option ((List Str))).bind fun s_19 => ((if (decide (way_18 = (2 : Int))) = true then ((m_law_shuffled a_pool (3 : Int) wishes_15).bind fun r_23 => ((some (cutX r_23 none (some (3 : Int)))).bind fun having_24 => some having_24)) else some s_19 : Option ((List Str))).bind fun s_22 => ((if (decide (way_18 = (3 : Int))) = true then ((m_law_shuffled a_pool (3 : Int) a_crew).bind fun r_26 => ((m_law_part a_pool (3 : Int) (24 : Int) (5 : Int)).bind fun r_27 => ((some (cutX r_26 none (some r_27))).bind fun having_28 => some having_28))) else some s_22 : Option ((List Str))).bind fun s_25 => ((catG a_crew [("" : Str), ("" : Str), ("" : Str), ("" : Str)]).bind fun xs_29 => ((m_law_part a_pool (4 : Int) (1 : Int) (8 : Int)).bind fun r_30 => ((modG r_30 ((a_crew.length : Int) + (4 : Int))).bind fun n_31 => ((idxG xs_29 n_31).bind fun x_32 => ((some x_32).bind fun late_33 => ((m_law_shuffled a_pool (5 : Int) a_crew).bind fun r_34 => ((m_law_part a_pool (5 : Int) (24 : Int) (5 : Int)).bind fun r_35 => ((some (cutX r_34 none (some r_35))).bind fun listed_36 => ((m_law_part a_pool (4 : Int) (8 : Int) (7 : Int)).bind fun r_37 => ((m_law_part a_pool (4 : Int) (56 : Int) (2 : Int)).bind fun r_38 => ((some (some (if ((crest_5 - r_37) + r_38) > (0 : Int) then ((crest_5 - r_37) + r_38) else (0 : Int) : Int))).bind fun cap_39 => ((m_law_part a_pool (4 : Int) (112 : Int) (6 : Int)).bind fun r_40 => ((if (decide (r_40 = (5 : Int))) = true then ((some (none : (Option Int))).bind fun cap_42 => some cap_42) else some cap_39 : Option ((Option Int))).bind fun s_41 => ((m_law_part a_pool (4 : Int) (112 : Int) (6 : Int)).bind fun r_43 => ((if (decide (r_43 = (4 : Int))) = true then ((some (some (0 : Int))).bind fun cap_45 => some cap_45) else some s_41 : Option ((Option Int))).bind fun s_44 => ((m_law_shuffled a_pool (6 : Int) wishes_15).bind fun r_50 => some (s_10, wishes_15, r_50, s_25, late_33, crest_5, listed_36, s_44)))))))))))))))))))))))))))))))))
def R_law_case : Rel := fun ds d k => ∃ (a_pool : (List Int)) (a_crew : (List Str)) (r : ((List Int) × (List Str) × (List Str) × (List Str) × Str × Int × (List Str) × (Option Int))), ds = [(D.lst (List.map D.int a_pool)), (D.lst (List.map D.str a_crew))] ∧ m_law_case a_pool a_crew = some r ∧ d = (fun x : ((List Int) × (List Str) × (List Str) × (List Str) × Str × Int × (List Str) × (Option Int)) => (D.tup [(D.lst (List.map D.int x.1)), (D.lst (List.map D.str x.2.1)), (D.lst (List.map D.str x.2.2.1)), (D.lst (List.map D.str x.2.2.2.1)), (D.str x.2.2.2.2.1), (D.int x.2.2.2.2.2.1), (D.lst (List.map D.str x.2.2.2.2.2.2.1)), (enO D.int x.2.2.2.2.2.2.2)])) r ∧ k = .cln
abbrev N_law_case : List Str := ["pool", "crew", "base", "crest", "loads", "k", "wishes", "having", "way", "late", "listed", "cap"]
theorem fs_law_case : FnScope N_law_case ["pool", "crew"] (defScope s_law_case) := ⟨rfl, rfl, rfl, by decide +kernel, rfl, by decide +kernel, by decide +kernel⟩
theorem sc_law_case : Sc N_law_case (defScope s_law_case) [0, 1, 2, 3, 4, 5, 6, 7, 8, 9, 10, 11] [2, 3, 4, 5, 6, 7, 8, 9, 10, 11] ["_law_part", "range", "len", "max", "_law_some", "_law_shuffled"] := ⟨fs_law_case.nd, by decide +kernel⟩
theorem b_law_case {X : Cx} {Γ : Gd} (A : At X Γ N_law_case (defScope s_law_case) 2) (g_len : Γ.mg "len" = none) (g_max : Γ.mg "max" = none) (g_range : Γ.mg "range" = none) (C_law_part : Cal Γ "_law_part" R_law_part 1 []) (C_law_shuffled : Cal Γ "_law_shuffled" R_law_shuffled 2 []) (C_law_some : Cal Γ "_law_some" R_law_some 2 []) {ds : List D} {d : D} {k : Kd} (hR : R_law_case ds d k) :
    SS X (env0 12 ds) (defBody s_law_case) { rt := fun d' k' => d' = d ∧ Fits k' k d, nx := fun _ => d = .non ∧ k = .cln } := by
  obtain ⟨a_pool, a_crew, r, rfl, H, rfl, rfl⟩ := hR
  unfold m_law_case at H
  obtain ⟨r_1, hr_1, H⟩ := bindO H
  obtain ⟨x_2, hx_2, H⟩ := bindO H
  obtain ⟨base_3, hbase_3, H⟩ := bindO H
  refine set_ A sc_law_case 2 rfl rfl (Ev.cv (ixL_ (f := D.int) (Ev.cv (ev_list (ea_cons ev_int (ea_cons ev_int (ea_cons ev_int (ea_cons (Ev.cv (ev_pow ev_int ev_int ⟨by decide, by decide, by decide⟩) (congrArg D.int (by decide))) (ea_cons (Ev.cv (ev_pow ev_int ev_int ⟨by decide, by decide, by decide⟩) (congrArg D.int (by decide))) ea_nil (.inl rfl) rfl) (.inl rfl) rfl) (.inl rfl) rfl) (.inl rfl) rfl) (.inl rfl) rfl) (.inl rfl) (le_line rfl)) rfl) (Cal.ev C_law_part A sc_law_case 0 rfl (by decide) (ea_cons (nmB A sc_law_case 0 rfl rfl rfl) (ea_cons ev_int (ea_cons ev_int (ea_cons ev_int ea_nil (.inl rfl) rfl) (.inl rfl) rfl) (.inl rfl) rfl) (.inl rfl) rfl) (.inr (.inl rfl)) (.inr (.inl rfl)) rfl rfl ⟨a_pool, (0 : Int), (1 : Int), (5 : Int), r_1, rfl, hr_1, rfl, rfl⟩) hx_2 (fun _ _ => rfl)) (congrArg D.int (Option.some.inj hbase_3))) .int rfl ?_
  show SS X [some (.bor (D.lst (List.map D.int a_pool))), some (.bor (D.lst (List.map D.str a_crew))), some (.frz (D.int base_3)), none, none, none, none, none, none, none, none, none] _ _
  obtain ⟨r_4, hr_4, H⟩ := bindO H
  obtain ⟨crest_5, hcrest_5, H⟩ := bindO H
  refine set_ A sc_law_case 3 rfl rfl (Ev.cv (ev_add (nmF A sc_law_case 2 rfl rfl rfl) (Cal.ev C_law_part A sc_law_case 0 rfl (by decide) (ea_cons (nmB A sc_law_case 0 rfl rfl rfl) (ea_cons ev_int (ea_cons ev_int (ea_cons ev_int ea_nil (.inl rfl) rfl) (.inl rfl) rfl) (.inl rfl) rfl) (.inl rfl) rfl) (.inr (.inl rfl)) (.inr (.inl rfl)) rfl rfl ⟨a_pool, (0 : Int), (5 : Int), (6 : Int), r_4, rfl, hr_4, rfl, rfl⟩)) (congrArg D.int (Option.some.inj hcrest_5))) .int rfl ?_
  show SS X [some (.bor (D.lst (List.map D.int a_pool))), some (.bor (D.lst (List.map D.str a_crew))), some (.frz (D.int base_3)), some (.frz (D.int crest_5)), none, none, none, none, none, none, none, none] _ _
  obtain ⟨loads_6, hloads_6, H⟩ := bindO H
  refine set_ A sc_law_case 4 rfl rfl (Ev.cv (ev_list ea_nil (.inl rfl) (le_line rfl)) (congrArg (fun x : (List Int) => (D.lst (List.map D.int x))) (Option.some.inj hloads_6))) .own rfl ?_
  show SS X [some (.bor (D.lst (List.map D.int a_pool))), some (.bor (D.lst (List.map D.str a_crew))), some (.frz (D.int base_3)), some (.frz (D.int crest_5)), some (.own (D.lst (List.map D.int loads_6))), none, none, none, none, none, none, none] _ _
  obtain ⟨r_7, hr_7, H⟩ := bindO H
  obtain ⟨s_10, hs_10, H⟩ := bindO H
  refine forM_ (en := D.int) (fun s_8 : ((List Int)) => [some (.bor (D.lst (List.map D.int a_pool))), some (.bor (D.lst (List.map D.str a_crew))), some (.frz (D.int base_3)), some (.frz (D.int crest_5)), some (.own (D.lst (List.map D.int s_8))), none, none, none, none, none, none, none]) A (rng1_ (glo A sc_law_case 1 rfl) (by rw [A.eM]; exact g_range) (lenL_ (bn A sc_law_case 2 rfl g_len bt_len) (nmB A sc_law_case 1 rfl rfl rfl) rfl) hr_7 rfl) (tg A sc_law_case 5 rfl rfl) (fun _ => rfl) hs_10 ?_ ?_ ?_
  · exact (wkr (wkr (wkr (wkr (wkr (wkn (wkn (wkn (wkn (wkn (wkn (wkn wk0))))))))))))
  · intro s_8 z_9 s' hx H
    refine ⟨_, rfl, ?_⟩
    obtain ⟨x_11, hx_11, H⟩ := bindO H
    obtain ⟨r_12, hr_12, H⟩ := bindO H
    obtain ⟨loads_13, hloads_13, H⟩ := bindO H
    refine app_ (en := D.int) (x := (if (crest_5 - r_12) > (0 : Int) then (crest_5 - r_12) else (0 : Int) : Int)) A sc_law_case 4 rfl rfl rfl (ev_max2 A.calm (bn A sc_law_case 3 rfl g_max bt_max) ev_int (ev_sub (nmF A sc_law_case 3 rfl rfl rfl) (Cal.ev C_law_part A sc_law_case 0 rfl (by decide) (ea_cons (nmB A sc_law_case 0 rfl rfl rfl) (ea_cons ev_int (ea_cons (ixL_ (f := D.int) (Ev.cv (ev_list (ea_cons ev_int (ea_cons ev_int (ea_cons ev_int (ea_cons ev_int ea_nil (.inl rfl) rfl) (.inl rfl) rfl) (.inl rfl) rfl) (.inl rfl) rfl) (.inl rfl) (le_line rfl)) rfl) (nmF A sc_law_case 5 rfl rfl rfl) hx_11 (fun _ _ => rfl)) (ea_cons ev_int ea_nil (.inl rfl) rfl) (.inl rfl) rfl) (.inl rfl) rfl) (.inl rfl) rfl) (.inr (.inl rfl)) (.inr (.inl rfl)) rfl rfl ⟨a_pool, (1 : Int), x_11, (6 : Int), r_12, rfl, hr_12, rfl, rfl⟩)) rfl rfl) (by first | rfl | exact heldOf_c) hloads_13 ⟨rfl, rfl, rfl⟩ rfl rfl ?_
    show SS X [some (.bor (D.lst (List.map D.int a_pool))), some (.bor (D.lst (List.map D.str a_crew))), some (.frz (D.int base_3)), some (.frz (D.int crest_5)), some (.own (D.lst (List.map D.int loads_13))), some (.frz (D.int z_9)), none, none, none, none, none, none] _ _
    obtain rfl := Option.some.inj H
    refine ss_nil ?_
    exact (wkr (wkr (wkr (wkr (wkr (wkn (wkn (wkn (wkn (wkn (wkn (wkn wk0))))))))))))
  obtain ⟨r_14, hr_14, H⟩ := bindO H
  obtain ⟨wishes_15, hwishes_15, H⟩ := bindO H
  refine set_ A sc_law_case 6 rfl rfl (Ev.cv (Cal.ev C_law_some A sc_law_case 4 rfl (by decide) (ea_cons (nmB A sc_law_case 0 rfl rfl rfl) (ea_cons ev_int (ea_cons (nmB A sc_law_case 1 rfl rfl rfl) ea_nil (.inl rfl) rfl) (.inr (.inl rfl)) rfl) (.inr (.inl rfl)) rfl) (.inr (.inl rfl)) (.inl rfl) rfl rfl ⟨a_pool, (2 : Int), a_crew, r_14, rfl, hr_14, rfl, rfl⟩) (congrArg (fun x : (List Str) => (D.lst (List.map D.str x))) (Option.some.inj hwishes_15))) .own rfl ?_
  show SS X [some (.bor (D.lst (List.map D.int a_pool))), some (.bor (D.lst (List.map D.str a_crew))), some (.frz (D.int base_3)), some (.frz (D.int crest_5)), some (.own (D.lst (List.map D.int s_10))), none, some (.own (D.lst (List.map D.str wishes_15))), none, none, none, none, none] _ _
  obtain ⟨having_16, hhaving_16, H⟩ := bindO H
  refine set_ A sc_law_case 7 rfl rfl (Ev.cv (ev_list ea_nil (.inl rfl) (le_line rfl)) (congrArg (fun x : (List Str) => (D.lst (List.map D.str x))) (Option.some.inj hhaving_16))) .own rfl ?_
  show SS X [some (.bor (D.lst (List.map D.int a_pool))), some (.bor (D.lst (List.map D.str a_crew))), some (.frz (D.int base_3)), some (.frz (D.int crest_5)), some (.own (D.lst (List.map D.int s_10))), none, some (.own (D.lst (List.map D.str wishes_15))), some (.own (D.lst (List.map D.str having_16))), none, none, none, none] _ _
  obtain ⟨r_17, hr_17, H⟩ := bindO H
  obtain ⟨way_18, hway_18, H⟩ := bindO H
  refine set_ A sc_law_case 8 rfl rfl (Ev.cv (Cal.ev C_law_part A sc_law_case 0 rfl (by decide) (ea_cons (nmB A sc_law_case 0 rfl rfl rfl) (ea_cons ev_int (ea_cons ev_int (ea_cons ev_int ea_nil (.inl rfl) rfl) (.inl rfl) rfl) (.inl rfl) rfl) (.inl rfl) rfl) (.inr (.inl rfl)) (.inr (.inl rfl)) rfl rfl ⟨a_pool, (2 : Int), (16 : Int), (4 : Int), r_17, rfl, hr_17, rfl, rfl⟩) (congrArg D.int (Option.some.inj hway_18))) .int rfl ?_
  show SS X [some (.bor (D.lst (List.map D.int a_pool))), some (.bor (D.lst (List.map D.str a_crew))), some (.frz (D.int base_3)), some (.frz (D.int crest_5)), some (.own (D.lst (List.map D.int s_10))), none, some (.own (D.lst (List.map D.str wishes_15))), some (.own (D.lst (List.map D.str having_16))), some (.frz (D.int way_18)), none, none, none] _ _
  obtain ⟨s_19, hs_19, H⟩ := bindO H
  refine ss_ifM [some (.bor (D.lst (List.map D.int a_pool))), some (.bor (D.lst (List.map D.str a_crew))), some (.frz (D.int base_3)), some (.frz (D.int crest_5)), some (.own (D.lst (List.map D.int s_10))), none, some (.own (D.lst (List.map D.str wishes_15))), some (.own (D.lst (List.map D.str s_19))), some (.frz (D.int way_18)), none, none, none] (et_cI (nmF A sc_law_case 8 rfl rfl rfl) ev_int .eq) ?_ (fun hc => ?_) (fun hc => ?_)
  · skip
    obtain ⟨s_22, hs_22, H⟩ := bindO H
    refine ss_ifM [some (.bor (D.lst (List.map D.int a_pool))), some (.bor (D.lst (List.map D.str a_crew))), some (.frz (D.int base_3)), some (.frz (D.int crest_5)), some (.own (D.lst (List.map D.int s_10))), none, some (.own (D.lst (List.map D.str wishes_15))), some (.own (D.lst (List.map D.str s_22))), some (.frz (D.int way_18)), none, none, none] (et_cI (nmF A sc_law_case 8 rfl rfl rfl) ev_int .eq) ?_ (fun hc => ?_) (fun hc => ?_)
    · skip
      obtain ⟨s_25, hs_25, H⟩ := bindO H
      refine ss_ifM [some (.bor (D.lst (List.map D.int a_pool))), some (.bor (D.lst (List.map D.str a_crew))), some (.frz (D.int base_3)), some (.frz (D.int crest_5)), some (.own (D.lst (List.map D.int s_10))), none, some (.own (D.lst (List.map D.str wishes_15))), some (.own (D.lst (List.map D.str s_25))), some (.frz (D.int way_18)), none, none, none] (et_cI (nmF A sc_law_case 8 rfl rfl rfl) ev_int .eq) ?_ (fun hc => ?_) (fun hc => ?_)
      · skip
        obtain ⟨xs_29, hxs_29, H⟩ := bindO H
        obtain ⟨r_30, hr_30, H⟩ := bindO H
        obtain ⟨n_31, hn_31, H⟩ := bindO H
        obtain ⟨x_32, hx_32, H⟩ := bindO H
        obtain ⟨late_33, hlate_33, H⟩ := bindO H
        refine set_ A sc_law_case 9 rfl rfl (Ev.cv (ixL_ (f := D.str) (catL_ (f := D.str) (Ev.shlI (nmB A sc_law_case 1 rfl rfl rfl) (imms_map (fun _ => rfl) _)) (Ev.cv (ev_list (ea_cons ev_str (ea_cons ev_str (ea_cons ev_str (ea_cons ev_str ea_nil (.inl rfl) rfl) (.inl rfl) rfl) (.inl rfl) rfl) (.inl rfl) rfl) (.inl rfl) (le_line rfl)) rfl) hxs_29) (mod_ (Cal.ev C_law_part A sc_law_case 0 rfl (by decide) (ea_cons (nmB A sc_law_case 0 rfl rfl rfl) (ea_cons ev_int (ea_cons ev_int (ea_cons ev_int ea_nil (.inl rfl) rfl) (.inl rfl) rfl) (.inl rfl) rfl) (.inl rfl) rfl) (.inr (.inl rfl)) (.inr (.inl rfl)) rfl rfl ⟨a_pool, (4 : Int), (1 : Int), (8 : Int), r_30, rfl, hr_30, rfl, rfl⟩) (ev_add (lenL_ (bn A sc_law_case 2 rfl g_len bt_len) (nmB A sc_law_case 1 rfl rfl rfl) rfl) ev_int) hn_31) hx_32 (fun _ _ => rfl)) (congrArg D.str (Option.some.inj hlate_33))) .str rfl ?_
        show SS X [some (.bor (D.lst (List.map D.int a_pool))), some (.bor (D.lst (List.map D.str a_crew))), some (.frz (D.int base_3)), some (.frz (D.int crest_5)), some (.own (D.lst (List.map D.int s_10))), none, some (.own (D.lst (List.map D.str wishes_15))), some (.own (D.lst (List.map D.str s_25))), some (.frz (D.int way_18)), some (.frz (D.str late_33)), none, none] _ _
        obtain ⟨r_34, hr_34, H⟩ := bindO H
        obtain ⟨r_35, hr_35, H⟩ := bindO H
        obtain ⟨listed_36, hlisted_36, H⟩ := bindO H
        refine set_ A sc_law_case 10 rfl rfl (Ev.cv (slL_ (Cal.ev C_law_shuffled A sc_law_case 5 rfl (by decide) (ea_cons (nmB A sc_law_case 0 rfl rfl rfl) (ea_cons ev_int (ea_cons (nmB A sc_law_case 1 rfl rfl rfl) ea_nil (.inl rfl) rfl) (.inr (.inl rfl)) rfl) (.inr (.inl rfl)) rfl) (.inr (.inl rfl)) (.inl rfl) rfl rfl ⟨a_pool, (5 : Int), a_crew, r_34, rfl, hr_34, rfl, rfl⟩) eo_none (eo_some (Cal.ev C_law_part A sc_law_case 0 rfl (by decide) (ea_cons (nmB A sc_law_case 0 rfl rfl rfl) (ea_cons ev_int (ea_cons ev_int (ea_cons ev_int ea_nil (.inl rfl) rfl) (.inl rfl) rfl) (.inl rfl) rfl) (.inl rfl) rfl) (.inr (.inl rfl)) (.inr (.inl rfl)) rfl rfl ⟨a_pool, (5 : Int), (24 : Int), (5 : Int), r_35, rfl, hr_35, rfl, rfl⟩))) (congrArg (fun x : (List Str) => (D.lst (List.map D.str x))) (Option.some.inj hlisted_36))) .own rfl ?_
        show SS X [some (.bor (D.lst (List.map D.int a_pool))), some (.bor (D.lst (List.map D.str a_crew))), some (.frz (D.int base_3)), some (.frz (D.int crest_5)), some (.own (D.lst (List.map D.int s_10))), none, some (.own (D.lst (List.map D.str wishes_15))), some (.own (D.lst (List.map D.str s_25))), some (.frz (D.int way_18)), some (.frz (D.str late_33)), some (.own (D.lst (List.map D.str listed_36))), none] _ _
        obtain ⟨r_37, hr_37, H⟩ := bindO H
        obtain ⟨r_38, hr_38, H⟩ := bindO H
        obtain ⟨cap_39, hcap_39, H⟩ := bindO H
        refine set_ A sc_law_case 11 rfl rfl (Ev.cv (Ev.cv (ev_max2 A.calm (bn A sc_law_case 3 rfl g_max bt_max) ev_int (ev_add (ev_sub (nmF A sc_law_case 3 rfl rfl rfl) (Cal.ev C_law_part A sc_law_case 0 rfl (by decide) (ea_cons (nmB A sc_law_case 0 rfl rfl rfl) (ea_cons ev_int (ea_cons ev_int (ea_cons ev_int ea_nil (.inl rfl) rfl) (.inl rfl) rfl) (.inl rfl) rfl) (.inl rfl) rfl) (.inr (.inl rfl)) (.inr (.inl rfl)) rfl rfl ⟨a_pool, (4 : Int), (8 : Int), (7 : Int), r_37, rfl, hr_37, rfl, rfl⟩)) (Cal.ev C_law_part A sc_law_case 0 rfl (by decide) (ea_cons (nmB A sc_law_case 0 rfl rfl rfl) (ea_cons ev_int (ea_cons ev_int (ea_cons ev_int ea_nil (.inl rfl) rfl) (.inl rfl) rfl) (.inl rfl) rfl) (.inl rfl) rfl) (.inr (.inl rfl)) (.inr (.inl rfl)) rfl rfl ⟨a_pool, (4 : Int), (56 : Int), (2 : Int), r_38, rfl, hr_38, rfl, rfl⟩)) rfl rfl) rfl) (congrArg (enO D.int) (Option.some.inj hcap_39))) .cln rfl ?_
        show SS X [some (.bor (D.lst (List.map D.int a_pool))), some (.bor (D.lst (List.map D.str a_crew))), some (.frz (D.int base_3)), some (.frz (D.int crest_5)), some (.own (D.lst (List.map D.int s_10))), none, some (.own (D.lst (List.map D.str wishes_15))), some (.own (D.lst (List.map D.str s_25))), some (.frz (D.int way_18)), some (.frz (D.str late_33)), some (.own (D.lst (List.map D.str listed_36))), some (.frz (enO D.int cap_39))] _ _
        obtain ⟨r_40, hr_40, H⟩ := bindO H
        obtain ⟨s_41, hs_41, H⟩ := bindO H
        refine ss_ifM [some (.bor (D.lst (List.map D.int a_pool))), some (.bor (D.lst (List.map D.str a_crew))), some (.frz (D.int base_3)), some (.frz (D.int crest_5)), some (.own (D.lst (List.map D.int s_10))), none, some (.own (D.lst (List.map D.str wishes_15))), some (.own (D.lst (List.map D.str s_25))), some (.frz (D.int way_18)), some (.frz (D.str late_33)), some (.own (D.lst (List.map D.str listed_36))), some (.frz (enO D.int s_41))] (et_cI (Cal.ev C_law_part A sc_law_case 0 rfl (by decide) (ea_cons (nmB A sc_law_case 0 rfl rfl rfl) (ea_cons ev_int (ea_cons ev_int (ea_cons ev_int ea_nil (.inl rfl) rfl) (.inl rfl) rfl) (.inl rfl) rfl) (.inl rfl) rfl) (.inr (.inl rfl)) (.inr (.inl rfl)) rfl rfl ⟨a_pool, (4 : Int), (112 : Int), (6 : Int), r_40, rfl, hr_40, rfl, rfl⟩) ev_int .eq) ?_ (fun hc => ?_) (fun hc => ?_)
        · skip
          obtain ⟨r_43, hr_43, H⟩ := bindO H
          obtain ⟨s_44, hs_44, H⟩ := bindO H
          refine ss_ifM [some (.bor (D.lst (List.map D.int a_pool))), some (.bor (D.lst (List.map D.str a_crew))), some (.frz (D.int base_3)), some (.frz (D.int crest_5)), some (.own (D.lst (List.map D.int s_10))), none, some (.own (D.lst (List.map D.str wishes_15))), some (.own (D.lst (List.map D.str s_25))), some (.frz (D.int way_18)), some (.frz (D.str late_33)), some (.own (D.lst (List.map D.str listed_36))), some (.frz (enO D.int s_44))] (et_cI (Cal.ev C_law_part A sc_law_case 0 rfl (by decide) (ea_cons (nmB A sc_law_case 0 rfl rfl rfl) (ea_cons ev_int (ea_cons ev_int (ea_cons ev_int ea_nil (.inl rfl) rfl) (.inl rfl) rfl) (.inl rfl) rfl) (.inl rfl) rfl) (.inr (.inl rfl)) (.inr (.inl rfl)) rfl rfl ⟨a_pool, (4 : Int), (112 : Int), (6 : Int), r_43, rfl, hr_43, rfl, rfl⟩) ev_int .eq) ?_ (fun hc => ?_) (fun hc => ?_)
          · skip
            refine ss_frz 4 rfl ?_
            refine ss_frz 6 rfl ?_
            refine ss_frz 7 rfl ?_
            refine ss_frz 10 rfl ?_
            obtain ⟨r_50, hr_50, H⟩ := bindO H
            exact ss_ret (ev_tup (ea_cons (nmF A sc_law_case 4 rfl rfl rfl) (ea_cons (nmF A sc_law_case 6 rfl rfl rfl) (ea_cons (Cal.ev C_law_shuffled A sc_law_case 5 rfl (by decide) (ea_cons (nmB A sc_law_case 0 rfl rfl rfl) (ea_cons ev_int (ea_cons (nmF A sc_law_case 6 rfl rfl rfl) ea_nil (.inl rfl) rfl) (.inl rfl) rfl) (.inl rfl) rfl) (.inr (.inl rfl)) (.inl rfl) rfl rfl ⟨a_pool, (6 : Int), wishes_15, r_50, rfl, hr_50, rfl, rfl⟩) (ea_cons (nmF A sc_law_case 7 rfl rfl rfl) (ea_cons (nmF A sc_law_case 9 rfl rfl rfl) (ea_cons (nmF A sc_law_case 3 rfl rfl rfl) (ea_cons (nmF A sc_law_case 10 rfl rfl rfl) (ea_consH (nmF A sc_law_case 11 rfl rfl rfl) ea_nil (.inl rfl) rfl) (.inl rfl) rfl) (.inl rfl) rfl) (.inl rfl) rfl) (.inl rfl) rfl) (.inl rfl) rfl) (.inl rfl) rfl) (.inl rfl) rfl) (.inl rfl) (le_line rfl)) (⟨(congrArg (fun x : ((List Int) × (List Str) × (List Str) × (List Str) × Str × Int × (List Str) × (Option Int)) => (D.tup [(D.lst (List.map D.int x.1)), (D.lst (List.map D.str x.2.1)), (D.lst (List.map D.str x.2.2.1)), (D.lst (List.map D.str x.2.2.2.1)), (D.str x.2.2.2.2.1), (D.int x.2.2.2.2.2.1), (D.lst (List.map D.str x.2.2.2.2.2.2.1)), (enO D.int x.2.2.2.2.2.2.2)])) (Option.some.inj H)), .refl⟩)
          · replace H := ifT hs_44 hc
            obtain ⟨cap_45, hcap_45, H⟩ := bindO H
            refine set_ A sc_law_case 11 rfl rfl (Ev.cv (Ev.cv ev_int rfl) (congrArg (enO D.int) (Option.some.inj hcap_45))) .cln rfl ?_
            show SS X [some (.bor (D.lst (List.map D.int a_pool))), some (.bor (D.lst (List.map D.str a_crew))), some (.frz (D.int base_3)), some (.frz (D.int crest_5)), some (.own (D.lst (List.map D.int s_10))), none, some (.own (D.lst (List.map D.str wishes_15))), some (.own (D.lst (List.map D.str s_25))), some (.frz (D.int way_18)), some (.frz (D.str late_33)), some (.own (D.lst (List.map D.str listed_36))), some (.frz (enO D.int cap_45))] _ _
            obtain rfl := Option.some.inj H
            refine ss_nil ?_
            exact (wkr (wkr (wkr (wkr (wkr (wkn (wkr (wkr (wkr (wkr (wkr (wkr wk0))))))))))))
          · replace H := ifF hs_44 hc
            obtain rfl := Option.some.inj H
            refine ss_nil ?_
            exact (wkr (wkr (wkr (wkr (wkr (wkn (wkr (wkr (wkr (wkr (wkr (wkr wk0))))))))))))
        · replace H := ifT hs_41 hc
          obtain ⟨cap_42, hcap_42, H⟩ := bindO H
          refine set_ A sc_law_case 11 rfl rfl (Ev.cv (Ev.cv ev_non rfl) (congrArg (enO D.int) (Option.some.inj hcap_42))) .cln rfl ?_
          show SS X [some (.bor (D.lst (List.map D.int a_pool))), some (.bor (D.lst (List.map D.str a_crew))), some (.frz (D.int base_3)), some (.frz (D.int crest_5)), some (.own (D.lst (List.map D.int s_10))), none, some (.own (D.lst (List.map D.str wishes_15))), some (.own (D.lst (List.map D.str s_25))), some (.frz (D.int way_18)), some (.frz (D.str late_33)), some (.own (D.lst (List.map D.str listed_36))), some (.frz (enO D.int cap_42))] _ _
          obtain rfl := Option.some.inj H
          refine ss_nil ?_
          exact (wkr (wkr (wkr (wkr (wkr (wkn (wkr (wkr (wkr (wkr (wkr (wkr wk0))))))))))))
        · replace H := ifF hs_41 hc
          obtain rfl := Option.some.inj H
          refine ss_nil ?_
          exact (wkr (wkr (wkr (wkr (wkr (wkn (wkr (wkr (wkr (wkr (wkr (wkr wk0))))))))))))
      · replace H := ifT hs_25 hc
        obtain ⟨r_26, hr_26, H⟩ := bindO H
        obtain ⟨r_27, hr_27, H⟩ := bindO H
        obtain ⟨having_28, hhaving_28, H⟩ := bindO H
        refine set_ A sc_law_case 7 rfl rfl (Ev.cv (slL_ (Cal.ev C_law_shuffled A sc_law_case 5 rfl (by decide) (ea_cons (nmB A sc_law_case 0 rfl rfl rfl) (ea_cons ev_int (ea_cons (nmB A sc_law_case 1 rfl rfl rfl) ea_nil (.inl rfl) rfl) (.inr (.inl rfl)) rfl) (.inr (.inl rfl)) rfl) (.inr (.inl rfl)) (.inl rfl) rfl rfl ⟨a_pool, (3 : Int), a_crew, r_26, rfl, hr_26, rfl, rfl⟩) eo_none (eo_some (Cal.ev C_law_part A sc_law_case 0 rfl (by decide) (ea_cons (nmB A sc_law_case 0 rfl rfl rfl) (ea_cons ev_int (ea_cons ev_int (ea_cons ev_int ea_nil (.inl rfl) rfl) (.inl rfl) rfl) (.inl rfl) rfl) (.inl rfl) rfl) (.inr (.inl rfl)) (.inr (.inl rfl)) rfl rfl ⟨a_pool, (3 : Int), (24 : Int), (5 : Int), r_27, rfl, hr_27, rfl, rfl⟩))) (congrArg (fun x : (List Str) => (D.lst (List.map D.str x))) (Option.some.inj hhaving_28))) .own rfl ?_
        show SS X [some (.bor (D.lst (List.map D.int a_pool))), some (.bor (D.lst (List.map D.str a_crew))), some (.frz (D.int base_3)), some (.frz (D.int crest_5)), some (.own (D.lst (List.map D.int s_10))), none, some (.own (D.lst (List.map D.str wishes_15))), some (.own (D.lst (List.map D.str having_28))), some (.frz (D.int way_18)), none, none, none] _ _
        obtain rfl := Option.some.inj H
        refine ss_nil ?_
        exact (wkr (wkr (wkr (wkr (wkr (wkn (wkr (wkr (wkr (wkn (wkn (wkn wk0))))))))))))
      · replace H := ifF hs_25 hc
        obtain rfl := Option.some.inj H
        refine ss_nil ?_
        exact (wkr (wkr (wkr (wkr (wkr (wkn (wkr (wkr (wkr (wkn (wkn (wkn wk0))))))))))))
    · replace H := ifT hs_22 hc
      obtain ⟨r_23, hr_23, H⟩ := bindO H
      obtain ⟨having_24, hhaving_24, H⟩ := bindO H
      refine set_ A sc_law_case 7 rfl rfl (Ev.cv (slL_ (Cal.ev C_law_shuffled A sc_law_case 5 rfl (by decide) (ea_cons (nmB A sc_law_case 0 rfl rfl rfl) (ea_cons ev_int (ea_cons (nmO A sc_law_case 6 rfl rfl rfl) ea_nil (.inl rfl) rfl) (.inr (.inr rfl)) rfl) (.inr (.inr rfl)) rfl) (.inr (.inr rfl)) (.inl rfl) rfl rfl ⟨a_pool, (3 : Int), wishes_15, r_23, rfl, hr_23, rfl, rfl⟩) eo_none (eo_some ev_int)) (congrArg (fun x : (List Str) => (D.lst (List.map D.str x))) (Option.some.inj hhaving_24))) .own rfl ?_
      show SS X [some (.bor (D.lst (List.map D.int a_pool))), some (.bor (D.lst (List.map D.str a_crew))), some (.frz (D.int base_3)), some (.frz (D.int crest_5)), some (.own (D.lst (List.map D.int s_10))), none, some (.own (D.lst (List.map D.str wishes_15))), some (.own (D.lst (List.map D.str having_24))), some (.frz (D.int way_18)), none, none, none] _ _
      obtain rfl := Option.some.inj H
      refine ss_nil ?_
      exact (wkr (wkr (wkr (wkr (wkr (wkn (wkr (wkr (wkr (wkn (wkn (wkn wk0))))))))))))
    · replace H := ifF hs_22 hc
      obtain rfl := Option.some.inj H
      refine ss_nil ?_
      exact (wkr (wkr (wkr (wkr (wkr (wkn (wkr (wkr (wkr (wkn (wkn (wkn wk0))))))))))))
  · replace H := ifT hs_19 hc
    obtain ⟨r_20, hr_20, H⟩ := bindO H
    obtain ⟨having_21, hhaving_21, H⟩ := bindO H
    refine set_ A sc_law_case 7 rfl rfl (Ev.cv (slL_ (Cal.ev C_law_shuffled A sc_law_case 5 rfl (by decide) (ea_cons (nmB A sc_law_case 0 rfl rfl rfl) (ea_cons ev_int (ea_cons (nmO A sc_law_case 6 rfl rfl rfl) ea_nil (.inl rfl) rfl) (.inr (.inr rfl)) rfl) (.inr (.inr rfl)) rfl) (.inr (.inr rfl)) (.inl rfl) rfl rfl ⟨a_pool, (3 : Int), wishes_15, r_20, rfl, hr_20, rfl, rfl⟩) eo_none (eo_some ev_int)) (congrArg (fun x : (List Str) => (D.lst (List.map D.str x))) (Option.some.inj hhaving_21))) .own rfl ?_
    show SS X [some (.bor (D.lst (List.map D.int a_pool))), some (.bor (D.lst (List.map D.str a_crew))), some (.frz (D.int base_3)), some (.frz (D.int crest_5)), some (.own (D.lst (List.map D.int s_10))), none, some (.own (D.lst (List.map D.str wishes_15))), some (.own (D.lst (List.map D.str having_21))), some (.frz (D.int way_18)), none, none, none] _ _
    obtain rfl := Option.some.inj H
    refine ss_nil ?_
    exact (wkr (wkr (wkr (wkr (wkr (wkn (wkr (wkr (wkr (wkn (wkn (wkn wk0))))))))))))
  · replace H := ifF hs_19 hc
    obtain rfl := Option.some.inj H
    refine ss_nil ?_
    exact (wkr (wkr (wkr (wkr (wkr (wkn (wkr (wkr (wkr (wkn (wkn (wkn wk0))))))))))))
def m_passed_over (a_candidates : (List Str)) (a_takers : (List Str)) (a_keeper : Str) : Option (List Str) :=
  ((lcG a_candidates).bind fun ys_1 => some ((List.filter (fun z_2 : Str => ((!(decide (z_2 ∈ a_takers))) && (!(decide (z_2 = a_keeper))))) ys_1).map (fun z_2 : Str => z_2)))
def R_passed_over : Rel := fun ds d k => ∃ (a_candidates : (List Str)) (a_takers : (List Str)) (a_keeper : Str) (r : (List Str)), ds = [(D.tup (List.map D.str a_candidates)), (D.tup (List.map D.str a_takers)), (D.str a_keeper)] ∧ m_passed_over a_candidates a_takers a_keeper = some r ∧ d = (fun x : (List Str) => (D.tup (List.map D.str x))) r ∧ k = .cln
abbrev N_passed_over : List Str := ["candidates", "takers", "keeper", "member"]
theorem fs_passed_over : FnScope N_passed_over ["candidates", "takers", "keeper"] (defScope s_passed_over) := ⟨rfl, rfl, rfl, by decide +kernel, rfl, by decide +kernel, by decide +kernel⟩
theorem sc_passed_over : Sc N_passed_over (defScope s_passed_over) [0] [] ["tuple"] := ⟨fs_passed_over.nd, by decide +kernel⟩
abbrev cs_passed_over_c1 : Scope := compScope (s_passed_over) [0, 0, 1]
theorem sc_passed_over_c1 : Sc N_passed_over cs_passed_over_c1 [1, 2, 3] [3] [] := ⟨fs_passed_over.nd, by decide +kernel⟩
theorem b_passed_over {X : Cx} {Γ : Gd} (A : At X Γ N_passed_over (defScope s_passed_over) 0) (g_tuple : Γ.mg "tuple" = none) {ds : List D} {d : D} {k : Kd} (hR : R_passed_over ds d k) :
    SS X (env0 4 ds) (defBody s_passed_over) { rt := fun d' k' => d' = d ∧ Fits k' k d, nx := fun _ => d = .non ∧ k = .cln } := by
  obtain ⟨a_candidates, a_takers, a_keeper, r, rfl, H, rfl, rfl⟩ := hR
  unfold m_passed_over at H
  obtain ⟨ys_1, hys_1, H⟩ := bindO H
  exact ss_ret (tuple_ (bn A sc_passed_over 0 rfl g_tuple bt_tuple) (Ec.ev (lcP_ (en := D.str) D.str [("member", 3)] (fun z_2 : Str => ((!(decide (z_2 ∈ a_takers))) && (!(decide (z_2 = a_keeper))))) (fun z_2 : Str => z_2) .c A sc_passed_over (by decide +kernel) (iter_ (Ev.imm (nmB A sc_passed_over 0 rfl rfl rfl) (imm_vt (fun _ => rfl) _)) .tupC) hys_1 (Clear_of rfl) (fun Y AY => (tg AY sc_passed_over_c1 3 rfl rfl)) (by decide) (fun _ => rfl) (fun z_2 _ => ⟨_, rfl, fun Y AY => (ets_one (Ew.et (ew_and (et_ninTS (nmF AY sc_passed_over_c1 3 rfl rfl rfl) (Ev.imm (nmB AY sc_passed_over_c1 1 rfl rfl rfl) (imm_vt (fun _ => rfl) _))) fun _ => (ew_and1 (et_neS (nmF AY sc_passed_over_c1 3 rfl rfl rfl) (nmF AY sc_passed_over_c1 2 rfl rfl rfl)))))), fun _ => ⟨_, rfl, fun Y AY => (nmF AY sc_passed_over_c1 3 rfl rfl rfl)⟩⟩))) .lst rfl) (⟨(congrArg (fun x : (List Str) => (D.tup (List.map D.str x))) (Option.some.inj H)), .refl⟩)
def m_next_passes (a_members : (List Str)) (a_passes : (List Int)) (a_candidates : (List Str)) (a_takers : (List Str)) (a_keeper : Str) (a_most : Int) : Option (List Int) :=
  ((m_passed_over a_candidates a_takers a_keeper).bind fun r_1 => ((some r_1).bind fun passed_2 => ((some ([] : (List Int))).bind fun after_3 => ((List.foldlM (fun (s_4 : ((List Int))) (z_5 : (Str × Int)) => ((if ((decide (z_5.1 ∈ a_takers)) || (decide (z_5.1 = a_keeper))) = true then ((appG s_4 (0 : Int)).bind fun after_8 => some after_8) else ((if (decide (z_5.1 ∈ passed_2)) = true then ((appG s_4 (if a_most < (z_5.2 + (1 : Int)) then a_most else (z_5.2 + (1 : Int)) : Int)).bind fun after_10 => some after_10) else ((appG s_4 z_5.2).bind fun after_11 => some after_11) : Option ((List Int))).bind fun s_9 => some s_9) : Option ((List Int))).bind fun s_7 => some s_7)) after_3 (List.zip a_members a_passes)).bind fun s_6 => some s_6))))
def R_next_passes : Rel := fun ds d k => ∃ (a_members : (List Str)) (a_passes : (List Int)) (a_candidates : (List Str)) (a_takers : (List Str)) (a_keeper : Str) (a_most : Int) (r : (List Int)), ds = [(D.tup (List.map D.str a_members)), (D.tup (List.map D.int a_passes)), (D.tup (List.map D.str a_candidates)), (D.tup (List.map D.str a_takers)), (D.str a_keeper), (D.int a_most)] ∧ m_next_passes a_members a_passes a_candidates a_takers a_keeper a_most = some r ∧ d = (fun x : (List Int) => (D.tup (List.map D.int x))) r ∧ k = .cln
abbrev N_next_passes : List Str := ["members", "passes", "candidates", "takers", "keeper", "most", "passed", "after", "member", "number"]
theorem fs_next_passes : FnScope N_next_passes ["members", "passes", "candidates", "takers", "keeper", "most"] (defScope s_next_passes) := ⟨rfl, rfl, rfl, by decide +kernel, rfl, by decide +kernel, by decide +kernel⟩
theorem sc_next_passes : Sc N_next_passes (defScope s_next_passes) [0, 1, 2, 3, 4, 5, 6, 7, 8, 9] [6, 7, 8, 9] ["passed_over", "zip", "min", "tuple"] := ⟨fs_next_passes.nd, by decide +kernel⟩
theorem b_next_passes {X : Cx} {Γ : Gd} (A : At X Γ N_next_passes (defScope s_next_passes) 1) (g_min : Γ.mg "min" = none) (g_tuple : Γ.mg "tuple" = none) (g_zip : Γ.mg "zip" = none) (C_passed_over : Cal Γ "passed_over" R_passed_over 1 []) {ds : List D} {d : D} {k : Kd} (hR : R_next_passes ds d k) :
    SS X (env0 10 ds) (defBody s_next_passes) { rt := fun d' k' => d' = d ∧ Fits k' k d, nx := fun _ => d = .non ∧ k = .cln } := by
  obtain ⟨a_members, a_passes, a_candidates, a_takers, a_keeper, a_most, r, rfl, H, rfl, rfl⟩ := hR
  unfold m_next_passes at H
  obtain ⟨r_1, hr_1, H⟩ := bindO H
  obtain ⟨passed_2, hpassed_2, H⟩ := bindO H
  refine set_ A sc_next_passes 6 rfl rfl (Ev.cv (Cal.ev C_passed_over A sc_next_passes 0 rfl (by decide) (ea_cons (Ev.imm (nmB A sc_next_passes 2 rfl rfl rfl) (imm_vt (fun _ => rfl) _)) (ea_cons (Ev.imm (nmB A sc_next_passes 3 rfl rfl rfl) (imm_vt (fun _ => rfl) _)) (ea_cons (nmF A sc_next_passes 4 rfl rfl rfl) ea_nil (.inl rfl) rfl) (.inl rfl) rfl) (.inl rfl) rfl) (.inl rfl) (.inr (.inl rfl)) rfl rfl ⟨a_candidates, a_takers, a_keeper, r_1, rfl, hr_1, rfl, rfl⟩) (congrArg (fun x : (List Str) => (D.tup (List.map D.str x))) (Option.some.inj hpassed_2))) .cln rfl ?_
  show SS X [some (.bor (D.tup (List.map D.str a_members))), some (.bor (D.tup (List.map D.int a_passes))), some (.bor (D.tup (List.map D.str a_candidates))), some (.bor (D.tup (List.map D.str a_takers))), some (.frz (D.str a_keeper)), some (.frz (D.int a_most)), some (.frz (D.tup (List.map D.str passed_2))), none, none, none] _ _
  obtain ⟨after_3, hafter_3, H⟩ := bindO H
  refine set_ A sc_next_passes 7 rfl rfl (Ev.cv (ev_list ea_nil (.inl rfl) (le_line rfl)) (congrArg (fun x : (List Int) => (D.lst (List.map D.int x))) (Option.some.inj hafter_3))) .own rfl ?_
  show SS X [some (.bor (D.tup (List.map D.str a_members))), some (.bor (D.tup (List.map D.int a_passes))), some (.bor (D.tup (List.map D.str a_candidates))), some (.bor (D.tup (List.map D.str a_takers))), some (.frz (D.str a_keeper)), some (.frz (D.int a_most)), some (.frz (D.tup (List.map D.str passed_2))), some (.own (D.lst (List.map D.int after_3))), none, none] _ _
  obtain ⟨s_6, hs_6, H⟩ := bindO H
  refine forM_ (en := (fun x : (Str × Int) => (D.tup [(D.str x.1), (D.int x.2)]))) (fun s_4 : ((List Int)) => [some (.bor (D.tup (List.map D.str a_members))), some (.bor (D.tup (List.map D.int a_passes))), some (.bor (D.tup (List.map D.str a_candidates))), some (.bor (D.tup (List.map D.str a_takers))), some (.frz (D.str a_keeper)), some (.frz (D.int a_most)), some (.frz (D.tup (List.map D.str passed_2))), some (.own (D.lst (List.map D.int s_4))), none, none]) A (zipTC_ (f := D.str) (g := D.int) (glo A sc_next_passes 1 rfl) (by rw [A.eM]; exact g_zip) (Ev.imm (nmB A sc_next_passes 0 rfl rfl rfl) (imm_vt (fun _ => rfl) _)) (Ev.imm (nmB A sc_next_passes 1 rfl rfl rfl) (imm_vt (fun _ => rfl) _)) rfl rfl) (tg_tp A.calm (tgs_cons (tg A sc_next_passes 8 rfl rfl) (tgs_cons (tg A sc_next_passes 9 rfl rfl) tgs_nil rfl) rfl) rfl rfl) (fun _ => rfl) hs_6 ?_ ?_ ?_
  · exact (wkr (wkr (wkr (wkr (wkr (wkr (wkr (wkr (wkn (wkn wk0))))))))))
  · intro s_4 z_5 s' hx H
    refine ⟨_, rfl, ?_⟩
    obtain ⟨s_7, hs_7, H⟩ := bindO H
    refine ss_ifM [some (.bor (D.tup (List.map D.str a_members))), some (.bor (D.tup (List.map D.int a_passes))), some (.bor (D.tup (List.map D.str a_candidates))), some (.bor (D.tup (List.map D.str a_takers))), some (.frz (D.str a_keeper)), some (.frz (D.int a_most)), some (.frz (D.tup (List.map D.str passed_2))), some (.own (D.lst (List.map D.int s_7))), some (.frz (D.str z_5.1)), some (.frz (D.int z_5.2))] (Ew.et (ew_or (et_inTS (nmF A sc_next_passes 8 rfl rfl rfl) (Ev.imm (nmB A sc_next_passes 3 rfl rfl rfl) (imm_vt (fun _ => rfl) _))) fun _ => (ew_or1 (et_eqS (nmF A sc_next_passes 8 rfl rfl rfl) (nmF A sc_next_passes 4 rfl rfl rfl))))) ?_ (fun hc => ?_) (fun hc => ?_)
    · skip
      obtain rfl := Option.some.inj H
      refine ss_nil ?_
      exact (wkr (wkr (wkr (wkr (wkr (wkr (wkr (wkr (wkn (wkn wk0))))))))))
    · replace H := ifT hs_7 hc
      obtain ⟨after_8, hafter_8, H⟩ := bindO H
      refine app_ (en := D.int) (x := (0 : Int)) A sc_next_passes 7 rfl rfl rfl ev_int (by first | rfl | exact heldOf_c) hafter_8 ⟨rfl, rfl, rfl⟩ rfl rfl ?_
      show SS X [some (.bor (D.tup (List.map D.str a_members))), some (.bor (D.tup (List.map D.int a_passes))), some (.bor (D.tup (List.map D.str a_candidates))), some (.bor (D.tup (List.map D.str a_takers))), some (.frz (D.str a_keeper)), some (.frz (D.int a_most)), some (.frz (D.tup (List.map D.str passed_2))), some (.own (D.lst (List.map D.int after_8))), some (.frz (D.str z_5.1)), some (.frz (D.int z_5.2))] _ _
      obtain rfl := Option.some.inj H
      refine ss_nil ?_
      exact (wkr (wkr (wkr (wkr (wkr (wkr (wkr (wkr (wkr (wkr wk0))))))))))
    · replace H := ifF hs_7 hc
      obtain ⟨s_9, hs_9, H⟩ := bindO H
      refine ss_ifM [some (.bor (D.tup (List.map D.str a_members))), some (.bor (D.tup (List.map D.int a_passes))), some (.bor (D.tup (List.map D.str a_candidates))), some (.bor (D.tup (List.map D.str a_takers))), some (.frz (D.str a_keeper)), some (.frz (D.int a_most)), some (.frz (D.tup (List.map D.str passed_2))), some (.own (D.lst (List.map D.int s_9))), some (.frz (D.str z_5.1)), some (.frz (D.int z_5.2))] (et_inTS (nmF A sc_next_passes 8 rfl rfl rfl) (nmF A sc_next_passes 6 rfl rfl rfl)) ?_ (fun hc => ?_) (fun hc => ?_)
      · skip
        obtain rfl := Option.some.inj H
        refine ss_nil ?_
        exact (wkr (wkr (wkr (wkr (wkr (wkr (wkr (wkr (wkr (wkr wk0))))))))))
      · replace H := ifT hs_9 hc
        obtain ⟨after_10, hafter_10, H⟩ := bindO H
        refine app_ (en := D.int) (x := (if a_most < (z_5.2 + (1 : Int)) then a_most else (z_5.2 + (1 : Int)) : Int)) A sc_next_passes 7 rfl rfl rfl (ev_min2 A.calm (bn A sc_next_passes 2 rfl g_min bt_min) (ev_add (nmF A sc_next_passes 9 rfl rfl rfl) ev_int) (nmF A sc_next_passes 5 rfl rfl rfl) rfl rfl) (by first | rfl | exact heldOf_c) hafter_10 ⟨rfl, rfl, rfl⟩ rfl rfl ?_
        show SS X [some (.bor (D.tup (List.map D.str a_members))), some (.bor (D.tup (List.map D.int a_passes))), some (.bor (D.tup (List.map D.str a_candidates))), some (.bor (D.tup (List.map D.str a_takers))), some (.frz (D.str a_keeper)), some (.frz (D.int a_most)), some (.frz (D.tup (List.map D.str passed_2))), some (.own (D.lst (List.map D.int after_10))), some (.frz (D.str z_5.1)), some (.frz (D.int z_5.2))] _ _
        obtain rfl := Option.some.inj H
        refine ss_nil ?_
        exact (wkr (wkr (wkr (wkr (wkr (wkr (wkr (wkr (wkr (wkr wk0))))))))))
      · replace H := ifF hs_9 hc
        obtain ⟨after_11, hafter_11, H⟩ := bindO H
        refine app_ (en := D.int) (x := z_5.2) A sc_next_passes 7 rfl rfl rfl (nmF A sc_next_passes 9 rfl rfl rfl) (by first | rfl | exact heldOf_c) hafter_11 ⟨rfl, rfl, rfl⟩ rfl rfl ?_
        show SS X [some (.bor (D.tup (List.map D.str a_members))), some (.bor (D.tup (List.map D.int a_passes))), some (.bor (D.tup (List.map D.str a_candidates))), some (.bor (D.tup (List.map D.str a_takers))), some (.frz (D.str a_keeper)), some (.frz (D.int a_most)), some (.frz (D.tup (List.map D.str passed_2))), some (.own (D.lst (List.map D.int after_11))), some (.frz (D.str z_5.1)), some (.frz (D.int z_5.2))] _ _
        obtain rfl := Option.some.inj H
        refine ss_nil ?_
        exact (wkr (wkr (wkr (wkr (wkr (wkr (wkr (wkr (wkr (wkr wk0))))))))))
  exact ss_ret (tuple_ (bn A sc_next_passes 3 rfl g_tuple bt_tuple) (nmO A sc_next_passes 7 rfl rfl rfl) .lst rfl) (⟨(congrArg (fun x : (List Int) => (D.tup (List.map D.int x))) (Option.some.inj H)), .refl⟩)
def m_first_over (a_members : (List Str)) (a_passes : (List Int)) (a_passed : (List Str)) (a_limit : (Option Int)) : Option (Option Str) :=
  (if a_limit.isNone = true then some (none : (Option Str)) else ((some (dZip a_members a_passes)).bind fun numbers_1 => ((loopM (fun (s_2 : Unit) (z_3 : Str) => (((dGet numbers_1 z_3).bind fun x_5 => ((a_limit).bind fun v_6 => (if (decide (v_6 ≤ x_5)) = true then some (Ctl.ret (some z_3)) else some (Ctl.nx ())))) : Option (Ctl Unit (Option Str)))) () a_passed).bind fun s_4 => match s_4 with | .nx s_41 => some (none : (Option Str)) | .ret r_7 => some r_7 | .brk _ => none)))
def R_first_over : Rel := fun ds d k => ∃ (a_members : (List Str)) (a_passes : (List Int)) (a_passed : (List Str)) (a_limit : (Option Int)) (r : (Option Str)), ds = [(D.tup (List.map D.str a_members)), (D.tup (List.map D.int a_passes)), (D.tup (List.map D.str a_passed)), (enO D.int a_limit)] ∧ m_first_over a_members a_passes a_passed a_limit = some r ∧ d = (enO D.str) r ∧ k = .cln
abbrev N_first_over : List Str := ["members", "passes", "passed", "limit", "numbers", "member"]
theorem fs_first_over : FnScope N_first_over ["members", "passes", "passed", "limit"] (defScope s_first_over) := ⟨rfl, rfl, rfl, by decide +kernel, rfl, by decide +kernel, by decide +kernel⟩
theorem sc_first_over : Sc N_first_over (defScope s_first_over) [0, 1, 2, 3, 4, 5] [4, 5] ["zip", "dict"] := ⟨fs_first_over.nd, by decide +kernel⟩
theorem b_first_over {X : Cx} {Γ : Gd} (A : At X Γ N_first_over (defScope s_first_over) 0) (g_dict : Γ.mg "dict" = none) (g_zip : Γ.mg "zip" = none) {ds : List D} {d : D} {k : Kd} (hR : R_first_over ds d k) :
    SS X (env0 6 ds) (defBody s_first_over) { rt := fun d' k' => d' = d ∧ Fits k' k d, nx := fun _ => d = .non ∧ k = .cln } := by
  obtain ⟨a_members, a_passes, a_passed, a_limit, r, rfl, H, rfl, rfl⟩ := hR
  unfold m_first_over at H
  refine ss_if (et_isN (Ev.scO (nm2 A sc_first_over 3 rfl rfl rfl) (fun _ => rfl)) (isN_enO (fun _ => rfl))) (fun hc => ?_) (fun hc => ?_)
  · replace H := ifT H hc
    exact ss_ret (Ev.cv ev_non rfl) (⟨(congrArg (enO D.str) (Option.some.inj H)), .refl⟩)
  · replace H := ifF H hc
    refine ss_nil ?_
    show SS X _ _ _
    obtain ⟨numbers_1, hnumbers_1, H⟩ := bindO H
    refine set_ A sc_first_over 4 rfl rfl (Ev.cv (dzipT_ (c := kS) (f := D.int) A.calm (bn A sc_first_over 1 rfl g_dict bt_dict) (glo A sc_first_over 0 rfl) (by rw [A.eM]; exact g_zip) (Ev.imm (nmB A sc_first_over 0 rfl rfl rfl) (imm_vt (fun _ => rfl) _)) (Ev.imm (nmB A sc_first_over 1 rfl rfl rfl) (imm_vt (fun _ => rfl) _)) rfl rfl rfl) (congrArg (fun x : (List (Str × Int)) => (enK kS D.int x)) (Option.some.inj hnumbers_1))) .own rfl ?_
    show SS X [some (.bor (D.tup (List.map D.str a_members))), some (.bor (D.tup (List.map D.int a_passes))), some (.bor (D.tup (List.map D.str a_passed))), some (slot2 .b (enO D.int a_limit)), some (.own (enK kS D.int numbers_1)), none] _ _
    obtain ⟨s_4, hs_4, H⟩ := bindO H
    refine forR_ (en := D.str) (fun s_2 : Unit => [some (.bor (D.tup (List.map D.str a_members))), some (.bor (D.tup (List.map D.int a_passes))), some (.bor (D.tup (List.map D.str a_passed))), some (slot2 .b (enO D.int a_limit)), some (.own (enK kS D.int numbers_1)), none]) (fun r d k => d = (enO D.str) r ∧ Fits k .cln ((enO D.str) r)) A (iter_ (Ev.imm (nmB A sc_first_over 2 rfl rfl rfl) (imm_vt (fun _ => rfl) _)) .tupC) (tg A sc_first_over 5 rfl rfl) (fun _ => rfl) hs_4 ?_ ?_ ?_ ?_
    · exact (wkr (wkr (wkr (wkr (wkr (wkn wk0))))))
    · intro s_2 z_3 c' hx H
      refine ⟨_, rfl, ?_⟩
      obtain ⟨x_5, hx_5, H⟩ := bindO H
      obtain ⟨v_6, hv_6, H⟩ := bindO H
      refine ss_if (et_cI (dget_ (c := kS) (f := D.int) A.room.units (nmO A sc_first_over 4 rfl rfl rfl) (nmF A sc_first_over 5 rfl rfl rfl) hx_5 (fun _ _ => rfl)) (Ev.getO (f := D.int) (Ev.scO (nm2 A sc_first_over 3 rfl rfl rfl) (fun _ => rfl)) hv_6) .ge) (fun hc => ?_) (fun hc => ?_)
      · replace H := ifT H hc
        exact ss_ret (Ev.cv (nmF A sc_first_over 5 rfl rfl rfl) rfl) (⟨_, (Option.some.inj H).symm, rfl, .refl⟩)
      · replace H := ifF H hc
        refine ss_nil ?_
        show SS X _ _ _
        obtain rfl := Option.some.inj H
        refine ss_nil ⟨_, rfl, ?_⟩
        exact (wkr (wkr (wkr (wkr (wkr (wkn wk0))))))
    · intro r_7 d k e ⟨hd, hf⟩
      subst e
      subst hd
      exact ⟨(congrArg (enO D.str) (Option.some.inj H)), (Option.some.inj H) ▸ hf⟩
    · intro s_41 e
      subst e
      exact ss_ret (Ev.cv ev_non rfl) (⟨(congrArg (enO D.str) (Option.some.inj H)), .refl⟩)
def m_longest (a_members : (List Str)) (a_passes : (List Int)) (a_candidates : (List Str)) : Option Str :=
  ((some (dZip a_members a_passes)).bind fun numbers_1 => ((some ("" : Str)).bind fun chosen_2 => ((List.foldlM (fun (s_3 : (Str)) (z_4 : Str) => ((if (decide (s_3 = ("" : Str))) = true then some true else ((dGet numbers_1 z_4).bind fun x_6 => ((dGet numbers_1 s_3).bind fun x_7 => some (decide (x_7 < x_6))))).bind fun q_8 => ((if q_8 = true then ((some z_4).bind fun chosen_10 => some chosen_10) else some s_3 : Option (Str)).bind fun s_9 => some s_9))) chosen_2 a_candidates).bind fun s_5 => some s_5)))
def R_longest : Rel := fun ds d k => ∃ (a_members : (List Str)) (a_passes : (List Int)) (a_candidates : (List Str)) (r : Str), ds = [(D.tup (List.map D.str a_members)), (D.tup (List.map D.int a_passes)), (D.tup (List.map D.str a_candidates))] ∧ m_longest a_members a_passes a_candidates = some r ∧ d = D.str r ∧ k = .cln
abbrev N_longest : List Str := ["members", "passes", "candidates", "numbers", "chosen", "member"]
theorem fs_longest : FnScope N_longest ["members", "passes", "candidates"] (defScope s_longest) := ⟨rfl, rfl, rfl, by decide +kernel, rfl, by decide +kernel, by decide +kernel⟩
theorem sc_longest : Sc N_longest (defScope s_longest) [0, 1, 2, 3, 4, 5] [3, 4, 5] ["zip", "dict"] := ⟨fs_longest.nd, by decide +kernel⟩
theorem b_longest {X : Cx} {Γ : Gd} (A : At X Γ N_longest (defScope s_longest) 0) (g_dict : Γ.mg "dict" = none) (g_zip : Γ.mg "zip" = none) {ds : List D} {d : D} {k : Kd} (hR : R_longest ds d k) :
    SS X (env0 6 ds) (defBody s_longest) { rt := fun d' k' => d' = d ∧ Fits k' k d, nx := fun _ => d = .non ∧ k = .cln } := by
  obtain ⟨a_members, a_passes, a_candidates, r, rfl, H, rfl, rfl⟩ := hR
  unfold m_longest at H
  obtain ⟨numbers_1, hnumbers_1, H⟩ := bindO H
  refine set_ A sc_longest 3 rfl rfl (Ev.cv (dzipT_ (c := kS) (f := D.int) A.calm (bn A sc_longest 1 rfl g_dict bt_dict) (glo A sc_longest 0 rfl) (by rw [A.eM]; exact g_zip) (Ev.imm (nmB A sc_longest 0 rfl rfl rfl) (imm_vt (fun _ => rfl) _)) (Ev.imm (nmB A sc_longest 1 rfl rfl rfl) (imm_vt (fun _ => rfl) _)) rfl rfl rfl) (congrArg (fun x : (List (Str × Int)) => (enK kS D.int x)) (Option.some.inj hnumbers_1))) .own rfl ?_
  show SS X [some (.bor (D.tup (List.map D.str a_members))), some (.bor (D.tup (List.map D.int a_passes))), some (.bor (D.tup (List.map D.str a_candidates))), some (.own (enK kS D.int numbers_1)), none, none] _ _
  obtain ⟨chosen_2, hchosen_2, H⟩ := bindO H
  refine set_ A sc_longest 4 rfl rfl (Ev.cv ev_str (congrArg D.str (Option.some.inj hchosen_2))) .str rfl ?_
  show SS X [some (.bor (D.tup (List.map D.str a_members))), some (.bor (D.tup (List.map D.int a_passes))), some (.bor (D.tup (List.map D.str a_candidates))), some (.own (enK kS D.int numbers_1)), some (.frz (D.str chosen_2)), none] _ _
  obtain ⟨s_5, hs_5, H⟩ := bindO H
  refine forM_ (en := D.str) (fun s_3 : (Str) => [some (.bor (D.tup (List.map D.str a_members))), some (.bor (D.tup (List.map D.int a_passes))), some (.bor (D.tup (List.map D.str a_candidates))), some (.own (enK kS D.int numbers_1)), some (.frz (D.str s_3)), none]) A (iter_ (Ev.imm (nmB A sc_longest 2 rfl rfl rfl) (imm_vt (fun _ => rfl) _)) .tupC) (tg A sc_longest 5 rfl rfl) (fun _ => rfl) hs_5 ?_ ?_ ?_
  · exact (wkr (wkr (wkr (wkr (wkr (wkn wk0))))))
  · intro s_3 z_4 s' hx H
    refine ⟨_, rfl, ?_⟩
    obtain ⟨q_8, hq_8, H⟩ := bindO H
    obtain ⟨s_9, hs_9, H⟩ := bindO H
    refine ss_ifM [some (.bor (D.tup (List.map D.str a_members))), some (.bor (D.tup (List.map D.int a_passes))), some (.bor (D.tup (List.map D.str a_candidates))), some (.own (enK kS D.int numbers_1)), some (.frz (D.str s_9)), some (.frz (D.str z_4))] (Ew.et (ew_orM (et_eqS (nmF A sc_longest 4 rfl rfl rfl) ev_str) hq_8 fun H => by obtain ⟨x_6, hx_6, H⟩ := bindO H; obtain ⟨x_7, hx_7, H⟩ := bindO H; obtain rfl := Option.some.inj H; exact (ew_or1 (et_cI (dget_ (c := kS) (f := D.int) A.room.units (nmO A sc_longest 3 rfl rfl rfl) (nmF A sc_longest 5 rfl rfl rfl) hx_6 (fun _ _ => rfl)) (dget_ (c := kS) (f := D.int) A.room.units (nmO A sc_longest 3 rfl rfl rfl) (nmF A sc_longest 4 rfl rfl rfl) hx_7 (fun _ _ => rfl)) .gt)))) ?_ (fun hc => ?_) (fun hc => ?_)
    · skip
      obtain rfl := Option.some.inj H
      refine ss_nil ?_
      exact (wkr (wkr (wkr (wkr (wkr (wkn wk0))))))
    · replace H := ifT hs_9 hc
      obtain ⟨chosen_10, hchosen_10, H⟩ := bindO H
      refine set_ A sc_longest 4 rfl rfl (Ev.cv (nmF A sc_longest 5 rfl rfl rfl) (congrArg D.str (Option.some.inj hchosen_10))) .str rfl ?_
      show SS X [some (.bor (D.tup (List.map D.str a_members))), some (.bor (D.tup (List.map D.int a_passes))), some (.bor (D.tup (List.map D.str a_candidates))), some (.own (enK kS D.int numbers_1)), some (.frz (D.str chosen_10)), some (.frz (D.str z_4))] _ _
      obtain rfl := Option.some.inj H
      refine ss_nil ?_
      exact (wkr (wkr (wkr (wkr (wkr (wkr wk0))))))
    · replace H := ifF hs_9 hc
      obtain rfl := Option.some.inj H
      refine ss_nil ?_
      exact (wkr (wkr (wkr (wkr (wkr (wkr wk0))))))
  exact ss_ret (nmF A sc_longest 4 rfl rfl rfl) (⟨(congrArg D.str (Option.some.inj H)), .str⟩)
def m_law_by_place (a_crew : (List Str)) (a_case : ((List Int) × (List Str) × (List Str) × (List Str) × Str × Int × (List Str) × (Option Int))) : Option (List D) :=
  ((some a_case).bind fun p_1 => ((m_passed_over p_1.2.1 p_1.2.2.2.1 p_1.2.2.2.2.1).bind fun r_2 => ((m_passed_over p_1.2.2.1 p_1.2.2.2.1 p_1.2.2.2.2.1).bind fun r_3 => ((some (List.map (fun x : (List Str) => (D.tup (List.map D.str x))) [r_2, r_3])).bind fun told_4 => ((m_next_passes a_crew p_1.1 p_1.2.1 p_1.2.2.2.1 p_1.2.2.2.2.1 p_1.2.2.2.2.2.1).bind fun r_5 => ((appG told_4 (D.tup (List.map D.int r_5))).bind fun told_6 => ((m_next_passes a_crew p_1.1 p_1.2.2.1 p_1.2.2.2.1 p_1.2.2.2.2.1 p_1.2.2.2.2.2.1).bind fun r_7 => ((appG told_6 (D.tup (List.map D.int r_7))).bind fun told_8 => ((m_first_over a_crew p_1.1 p_1.2.2.2.2.2.2.1 p_1.2.2.2.2.2.2.2).bind fun r_9 => ((appG told_8 (enO D.str r_9)).bind fun told_10 => ((m_longest a_crew p_1.1 p_1.2.1).bind fun r_11 => ((appG told_10 (D.str r_11)).bind fun told_12 => ((m_longest a_crew p_1.1 p_1.2.2.1).bind fun r_13 => ((appG told_12 (D.str r_13)).bind fun told_14 => some told_14))))))))))))))
def R_law_by_place : Rel := fun ds d k => ∃ (a_crew : (List Str)) (a_case : ((List Int) × (List Str) × (List Str) × (List Str) × Str × Int × (List Str) × (Option Int))) (r : (List D)), ds = [(D.lst (List.map D.str a_crew)), (D.tup [(D.lst (List.map D.int a_case.1)), (D.lst (List.map D.str a_case.2.1)), (D.lst (List.map D.str a_case.2.2.1)), (D.lst (List.map D.str a_case.2.2.2.1)), (D.str a_case.2.2.2.2.1), (D.int a_case.2.2.2.2.2.1), (D.lst (List.map D.str a_case.2.2.2.2.2.2.1)), (enO D.int a_case.2.2.2.2.2.2.2)])] ∧ m_law_by_place a_crew a_case = some r ∧ d = (fun x : (List D) => (D.lst (List.map (fun x : D => x) x))) r ∧ k = .own
abbrev N_law_by_place : List Str := ["crew", "case", "loads", "wishes", "turned", "having", "late", "crest", "listed", "cap", "told"]
theorem fs_law_by_place : FnScope N_law_by_place ["crew", "case"] (defScope s_law_by_place) := ⟨rfl, rfl, rfl, by decide +kernel, rfl, by decide +kernel, by decide +kernel⟩
theorem sc_law_by_place : Sc N_law_by_place (defScope s_law_by_place) [0, 1, 2, 3, 4, 5, 6, 7, 8, 9, 10] [2, 3, 4, 5, 6, 7, 8, 9, 10] ["tuple", "passed_over", "next_passes", "first_over", "longest"] := ⟨fs_law_by_place.nd, by decide +kernel⟩
theorem b_law_by_place {X : Cx} {Γ : Gd} (A : At X Γ N_law_by_place (defScope s_law_by_place) 2) (g_tuple : Γ.mg "tuple" = none) (C_first_over : Cal Γ "first_over" R_first_over 1 []) (C_longest : Cal Γ "longest" R_longest 1 []) (C_next_passes : Cal Γ "next_passes" R_next_passes 2 []) (C_passed_over : Cal Γ "passed_over" R_passed_over 1 []) {ds : List D} {d : D} {k : Kd} (hR : R_law_by_place ds d k) :
    SS X (env0 11 ds) (defBody s_law_by_place) { rt := fun d' k' => d' = d ∧ Fits k' k d, nx := fun _ => d = .non ∧ k = .cln } := by
  obtain ⟨a_crew, a_case, r, rfl, H, rfl, rfl⟩ := hR
  unfold m_law_by_place at H
  obtain ⟨p_1, hp_1, H⟩ := bindO H
  refine asg_ (kz := .b) (Ev.cv (nmB A sc_law_by_place 1 rfl rfl rfl) (congrArg (fun x : ((List Int) × (List Str) × (List Str) × (List Str) × Str × Int × (List Str) × (Option Int)) => (D.tup [(D.lst (List.map D.int x.1)), (D.lst (List.map D.str x.2.1)), (D.lst (List.map D.str x.2.2.1)), (D.lst (List.map D.str x.2.2.2.1)), (D.str x.2.2.2.2.1), (D.int x.2.2.2.2.2.1), (D.lst (List.map D.str x.2.2.2.2.2.2.1)), (enO D.int x.2.2.2.2.2.2.2)])) (Option.some.inj hp_1))) (tg_tp A.calm (tgs_cons (tg A sc_law_by_place 2 rfl rfl) (tgs_cons (tg A sc_law_by_place 3 rfl rfl) (tgs_cons (tg A sc_law_by_place 4 rfl rfl) (tgs_cons (tg A sc_law_by_place 5 rfl rfl) (tgs_cons (tg A sc_law_by_place 6 rfl rfl) (tgs_cons (tg A sc_law_by_place 7 rfl rfl) (tgs_cons (tg A sc_law_by_place 8 rfl rfl) (tgs_cons (tg A sc_law_by_place 9 rfl rfl) tgs_nil rfl) rfl) rfl) rfl) rfl) rfl) rfl) rfl) rfl rfl) rfl rfl rfl rfl ?_
  show SS X [some (.bor (D.lst (List.map D.str a_crew))), some (.bor (D.tup [(D.lst (List.map D.int a_case.1)), (D.lst (List.map D.str a_case.2.1)), (D.lst (List.map D.str a_case.2.2.1)), (D.lst (List.map D.str a_case.2.2.2.1)), (D.str a_case.2.2.2.2.1), (D.int a_case.2.2.2.2.2.1), (D.lst (List.map D.str a_case.2.2.2.2.2.2.1)), (enO D.int a_case.2.2.2.2.2.2.2)])), some (.bor (D.lst (List.map D.int p_1.1))), some (.bor (D.lst (List.map D.str p_1.2.1))), some (.bor (D.lst (List.map D.str p_1.2.2.1))), some (.bor (D.lst (List.map D.str p_1.2.2.2.1))), some (.frz (D.str p_1.2.2.2.2.1)), some (.frz (D.int p_1.2.2.2.2.2.1)), some (.bor (D.lst (List.map D.str p_1.2.2.2.2.2.2.1))), some (slot2 .b (enO D.int p_1.2.2.2.2.2.2.2)), none] _ _
  obtain ⟨r_2, hr_2, H⟩ := bindO H
  obtain ⟨r_3, hr_3, H⟩ := bindO H
  obtain ⟨told_4, htold_4, H⟩ := bindO H
  refine set_ A sc_law_by_place 10 rfl rfl (Ev.cv (Ev.cv (Ev.cv (ev_list (ea_cons (Cal.ev C_passed_over A sc_law_by_place 1 rfl (by decide) (ea_cons (tuple_ (bn A sc_law_by_place 0 rfl g_tuple bt_tuple) (Ev.shlI (nmB A sc_law_by_place 3 rfl rfl rfl) (imms_map (fun _ => rfl) _)) .lst rfl) (ea_cons (tuple_ (bn A sc_law_by_place 0 rfl g_tuple bt_tuple) (Ev.shlI (nmB A sc_law_by_place 5 rfl rfl rfl) (imms_map (fun _ => rfl) _)) .lst rfl) (ea_cons (nmF A sc_law_by_place 6 rfl rfl rfl) ea_nil (.inl rfl) rfl) (.inl rfl) rfl) (.inl rfl) rfl) (.inl rfl) (.inr (.inl rfl)) rfl rfl ⟨p_1.2.1, p_1.2.2.2.1, p_1.2.2.2.2.1, r_2, rfl, hr_2, rfl, rfl⟩) (ea_cons (Cal.ev C_passed_over A sc_law_by_place 1 rfl (by decide) (ea_cons (tuple_ (bn A sc_law_by_place 0 rfl g_tuple bt_tuple) (Ev.shlI (nmB A sc_law_by_place 4 rfl rfl rfl) (imms_map (fun _ => rfl) _)) .lst rfl) (ea_cons (tuple_ (bn A sc_law_by_place 0 rfl g_tuple bt_tuple) (Ev.shlI (nmB A sc_law_by_place 5 rfl rfl rfl) (imms_map (fun _ => rfl) _)) .lst rfl) (ea_cons (nmF A sc_law_by_place 6 rfl rfl rfl) ea_nil (.inl rfl) rfl) (.inl rfl) rfl) (.inl rfl) rfl) (.inl rfl) (.inr (.inl rfl)) rfl rfl ⟨p_1.2.2.1, p_1.2.2.2.1, p_1.2.2.2.2.1, r_3, rfl, hr_3, rfl, rfl⟩) ea_nil (.inl rfl) rfl) (.inl rfl) rfl) (.inl rfl) (le_line rfl)) rfl) (congrArg D.lst (List.map_id _).symm)) (congrArg (fun x : (List D) => (D.lst (List.map (fun x : D => x) x))) (Option.some.inj htold_4))) .own rfl ?_
  show SS X [some (.bor (D.lst (List.map D.str a_crew))), some (.bor (D.tup [(D.lst (List.map D.int a_case.1)), (D.lst (List.map D.str a_case.2.1)), (D.lst (List.map D.str a_case.2.2.1)), (D.lst (List.map D.str a_case.2.2.2.1)), (D.str a_case.2.2.2.2.1), (D.int a_case.2.2.2.2.2.1), (D.lst (List.map D.str a_case.2.2.2.2.2.2.1)), (enO D.int a_case.2.2.2.2.2.2.2)])), some (.bor (D.lst (List.map D.int p_1.1))), some (.bor (D.lst (List.map D.str p_1.2.1))), some (.bor (D.lst (List.map D.str p_1.2.2.1))), some (.bor (D.lst (List.map D.str p_1.2.2.2.1))), some (.frz (D.str p_1.2.2.2.2.1)), some (.frz (D.int p_1.2.2.2.2.2.1)), some (.bor (D.lst (List.map D.str p_1.2.2.2.2.2.2.1))), some (slot2 .b (enO D.int p_1.2.2.2.2.2.2.2)), some (.own (D.lst (List.map (fun x : D => x) told_4)))] _ _
  obtain ⟨r_5, hr_5, H⟩ := bindO H
  obtain ⟨told_6, htold_6, H⟩ := bindO H
  refine app_ (en := (fun x : D => x)) (x := (D.tup (List.map D.int r_5))) A sc_law_by_place 10 rfl rfl rfl (Cal.ev C_next_passes A sc_law_by_place 2 rfl (by decide) (ea_cons (tuple_ (bn A sc_law_by_place 0 rfl g_tuple bt_tuple) (Ev.shlI (nmB A sc_law_by_place 0 rfl rfl rfl) (imms_map (fun _ => rfl) _)) .lst rfl) (ea_cons (tuple_ (bn A sc_law_by_place 0 rfl g_tuple bt_tuple) (Ev.shlI (nmB A sc_law_by_place 2 rfl rfl rfl) (imms_map (fun _ => rfl) _)) .lst rfl) (ea_cons (tuple_ (bn A sc_law_by_place 0 rfl g_tuple bt_tuple) (Ev.shlI (nmB A sc_law_by_place 3 rfl rfl rfl) (imms_map (fun _ => rfl) _)) .lst rfl) (ea_cons (tuple_ (bn A sc_law_by_place 0 rfl g_tuple bt_tuple) (Ev.shlI (nmB A sc_law_by_place 5 rfl rfl rfl) (imms_map (fun _ => rfl) _)) .lst rfl) (ea_cons (nmF A sc_law_by_place 6 rfl rfl rfl) (ea_cons (nmF A sc_law_by_place 7 rfl rfl rfl) ea_nil (.inl rfl) rfl) (.inl rfl) rfl) (.inl rfl) rfl) (.inl rfl) rfl) (.inl rfl) rfl) (.inl rfl) rfl) (.inl rfl) (.inr (.inl rfl)) rfl rfl ⟨a_crew, p_1.1, p_1.2.1, p_1.2.2.2.1, p_1.2.2.2.2.1, p_1.2.2.2.2.2.1, r_5, rfl, hr_5, rfl, rfl⟩) (by first | rfl | exact heldOf_c) htold_6 ⟨rfl, rfl, rfl⟩ rfl rfl ?_
  show SS X [some (.bor (D.lst (List.map D.str a_crew))), some (.bor (D.tup [(D.lst (List.map D.int a_case.1)), (D.lst (List.map D.str a_case.2.1)), (D.lst (List.map D.str a_case.2.2.1)), (D.lst (List.map D.str a_case.2.2.2.1)), (D.str a_case.2.2.2.2.1), (D.int a_case.2.2.2.2.2.1), (D.lst (List.map D.str a_case.2.2.2.2.2.2.1)), (enO D.int a_case.2.2.2.2.2.2.2)])), some (.bor (D.lst (List.map D.int p_1.1))), some (.bor (D.lst (List.map D.str p_1.2.1))), some (.bor (D.lst (List.map D.str p_1.2.2.1))), some (.bor (D.lst (List.map D.str p_1.2.2.2.1))), some (.frz (D.str p_1.2.2.2.2.1)), some (.frz (D.int p_1.2.2.2.2.2.1)), some (.bor (D.lst (List.map D.str p_1.2.2.2.2.2.2.1))), some (slot2 .b (enO D.int p_1.2.2.2.2.2.2.2)), some (.own (D.lst (List.map (fun x : D => x) told_6)))] _ _
  obtain ⟨r_7, hr_7, H⟩ := bindO H
  obtain ⟨told_8, htold_8, H⟩ := bindO H
  refine app_ (en := (fun x : D => x)) (x := (D.tup (List.map D.int r_7))) A sc_law_by_place 10 rfl rfl rfl (Cal.ev C_next_passes A sc_law_by_place 2 rfl (by decide) (ea_cons (tuple_ (bn A sc_law_by_place 0 rfl g_tuple bt_tuple) (Ev.shlI (nmB A sc_law_by_place 0 rfl rfl rfl) (imms_map (fun _ => rfl) _)) .lst rfl) (ea_cons (tuple_ (bn A sc_law_by_place 0 rfl g_tuple bt_tuple) (Ev.shlI (nmB A sc_law_by_place 2 rfl rfl rfl) (imms_map (fun _ => rfl) _)) .lst rfl) (ea_cons (tuple_ (bn A sc_law_by_place 0 rfl g_tuple bt_tuple) (Ev.shlI (nmB A sc_law_by_place 4 rfl rfl rfl) (imms_map (fun _ => rfl) _)) .lst rfl) (ea_cons (tuple_ (bn A sc_law_by_place 0 rfl g_tuple bt_tuple) (Ev.shlI (nmB A sc_law_by_place 5 rfl rfl rfl) (imms_map (fun _ => rfl) _)) .lst rfl) (ea_cons (nmF A sc_law_by_place 6 rfl rfl rfl) (ea_cons (nmF A sc_law_by_place 7 rfl rfl rfl) ea_nil (.inl rfl) rfl) (.inl rfl) rfl) (.inl rfl) rfl) (.inl rfl) rfl) (.inl rfl) rfl) (.inl rfl) rfl) (.inl rfl) (.inr (.inl rfl)) rfl rfl ⟨a_crew, p_1.1, p_1.2.2.1, p_1.2.2.2.1, p_1.2.2.2.2.1, p_1.2.2.2.2.2.1, r_7, rfl, hr_7, rfl, rfl⟩) (by first | rfl | exact heldOf_c) htold_8 ⟨rfl, rfl, rfl⟩ rfl rfl ?_
  show SS X [some (.bor (D.lst (List.map D.str a_crew))), some (.bor (D.tup [(D.lst (List.map D.int a_case.1)), (D.lst (List.map D.str a_case.2.1)), (D.lst (List.map D.str a_case.2.2.1)), (D.lst (List.map D.str a_case.2.2.2.1)), (D.str a_case.2.2.2.2.1), (D.int a_case.2.2.2.2.2.1), (D.lst (List.map D.str a_case.2.2.2.2.2.2.1)), (enO D.int a_case.2.2.2.2.2.2.2)])), some (.bor (D.lst (List.map D.int p_1.1))), some (.bor (D.lst (List.map D.str p_1.2.1))), some (.bor (D.lst (List.map D.str p_1.2.2.1))), some (.bor (D.lst (List.map D.str p_1.2.2.2.1))), some (.frz (D.str p_1.2.2.2.2.1)), some (.frz (D.int p_1.2.2.2.2.2.1)), some (.bor (D.lst (List.map D.str p_1.2.2.2.2.2.2.1))), some (slot2 .b (enO D.int p_1.2.2.2.2.2.2.2)), some (.own (D.lst (List.map (fun x : D => x) told_8)))] _ _
  obtain ⟨r_9, hr_9, H⟩ := bindO H
  obtain ⟨told_10, htold_10, H⟩ := bindO H
  refine app_ (en := (fun x : D => x)) (x := (enO D.str r_9)) A sc_law_by_place 10 rfl rfl rfl (Cal.ev C_first_over A sc_law_by_place 3 rfl (by decide) (ea_cons (tuple_ (bn A sc_law_by_place 0 rfl g_tuple bt_tuple) (Ev.shlI (nmB A sc_law_by_place 0 rfl rfl rfl) (imms_map (fun _ => rfl) _)) .lst rfl) (ea_cons (tuple_ (bn A sc_law_by_place 0 rfl g_tuple bt_tuple) (Ev.shlI (nmB A sc_law_by_place 2 rfl rfl rfl) (imms_map (fun _ => rfl) _)) .lst rfl) (ea_cons (tuple_ (bn A sc_law_by_place 0 rfl g_tuple bt_tuple) (Ev.shlI (nmB A sc_law_by_place 8 rfl rfl rfl) (imms_map (fun _ => rfl) _)) .lst rfl) (ea_consH (Ev.scO (nm2 A sc_law_by_place 9 rfl rfl rfl) (fun _ => rfl)) ea_nil (.inl rfl) rfl) (.inl rfl) rfl) (.inl rfl) rfl) (.inl rfl) rfl) (.inl rfl) (.inr (.inl rfl)) rfl rfl ⟨a_crew, p_1.1, p_1.2.2.2.2.2.2.1, p_1.2.2.2.2.2.2.2, r_9, rfl, hr_9, rfl, rfl⟩) (by first | rfl | exact heldOf_c) htold_10 ⟨rfl, rfl, rfl⟩ rfl rfl ?_
  show SS X [some (.bor (D.lst (List.map D.str a_crew))), some (.bor (D.tup [(D.lst (List.map D.int a_case.1)), (D.lst (List.map D.str a_case.2.1)), (D.lst (List.map D.str a_case.2.2.1)), (D.lst (List.map D.str a_case.2.2.2.1)), (D.str a_case.2.2.2.2.1), (D.int a_case.2.2.2.2.2.1), (D.lst (List.map D.str a_case.2.2.2.2.2.2.1)), (enO D.int a_case.2.2.2.2.2.2.2)])), some (.bor (D.lst (List.map D.int p_1.1))), some (.bor (D.lst (List.map D.str p_1.2.1))), some (.bor (D.lst (List.map D.str p_1.2.2.1))), some (.bor (D.lst (List.map D.str p_1.2.2.2.1))), some (.frz (D.str p_1.2.2.2.2.1)), some (.frz (D.int p_1.2.2.2.2.2.1)), some (.bor (D.lst (List.map D.str p_1.2.2.2.2.2.2.1))), some (slot2 .b (enO D.int p_1.2.2.2.2.2.2.2)), some (.own (D.lst (List.map (fun x : D => x) told_10)))] _ _
  obtain ⟨r_11, hr_11, H⟩ := bindO H
  obtain ⟨told_12, htold_12, H⟩ := bindO H
  refine app_ (en := (fun x : D => x)) (x := (D.str r_11)) A sc_law_by_place 10 rfl rfl rfl (Cal.ev C_longest A sc_law_by_place 4 rfl (by decide) (ea_cons (tuple_ (bn A sc_law_by_place 0 rfl g_tuple bt_tuple) (Ev.shlI (nmB A sc_law_by_place 0 rfl rfl rfl) (imms_map (fun _ => rfl) _)) .lst rfl) (ea_cons (tuple_ (bn A sc_law_by_place 0 rfl g_tuple bt_tuple) (Ev.shlI (nmB A sc_law_by_place 2 rfl rfl rfl) (imms_map (fun _ => rfl) _)) .lst rfl) (ea_cons (tuple_ (bn A sc_law_by_place 0 rfl g_tuple bt_tuple) (Ev.shlI (nmB A sc_law_by_place 3 rfl rfl rfl) (imms_map (fun _ => rfl) _)) .lst rfl) ea_nil (.inl rfl) rfl) (.inl rfl) rfl) (.inl rfl) rfl) (.inl rfl) (.inr (.inl rfl)) rfl rfl ⟨a_crew, p_1.1, p_1.2.1, r_11, rfl, hr_11, rfl, rfl⟩) (by first | rfl | exact heldOf_c) htold_12 ⟨rfl, rfl, rfl⟩ rfl rfl ?_
  show SS X [some (.bor (D.lst (List.map D.str a_crew))), some (.bor (D.tup [(D.lst (List.map D.int a_case.1)), (D.lst (List.map D.str a_case.2.1)), (D.lst (List.map D.str a_case.2.2.1)), (D.lst (List.map D.str a_case.2.2.2.1)), (D.str a_case.2.2.2.2.1), (D.int a_case.2.2.2.2.2.1), (D.lst (List.map D.str a_case.2.2.2.2.2.2.1)), (enO D.int a_case.2.2.2.2.2.2.2)])), some (.bor (D.lst (List.map D.int p_1.1))), some (.bor (D.lst (List.map D.str p_1.2.1))), some (.bor (D.lst (List.map D.str p_1.2.2.1))), some (.bor (D.lst (List.map D.str p_1.2.2.2.1))), some (.frz (D.str p_1.2.2.2.2.1)), some (.frz (D.int p_1.2.2.2.2.2.1)), some (.bor (D.lst (List.map D.str p_1.2.2.2.2.2.2.1))), some (slot2 .b (enO D.int p_1.2.2.2.2.2.2.2)), some (.own (D.lst (List.map (fun x : D => x) told_12)))] _ _
  obtain ⟨r_13, hr_13, H⟩ := bindO H
  obtain ⟨told_14, htold_14, H⟩ := bindO H
  refine app_ (en := (fun x : D => x)) (x := (D.str r_13)) A sc_law_by_place 10 rfl rfl rfl (Cal.ev C_longest A sc_law_by_place 4 rfl (by decide) (ea_cons (tuple_ (bn A sc_law_by_place 0 rfl g_tuple bt_tuple) (Ev.shlI (nmB A sc_law_by_place 0 rfl rfl rfl) (imms_map (fun _ => rfl) _)) .lst rfl) (ea_cons (tuple_ (bn A sc_law_by_place 0 rfl g_tuple bt_tuple) (Ev.shlI (nmB A sc_law_by_place 2 rfl rfl rfl) (imms_map (fun _ => rfl) _)) .lst rfl) (ea_cons (tuple_ (bn A sc_law_by_place 0 rfl g_tuple bt_tuple) (Ev.shlI (nmB A sc_law_by_place 4 rfl rfl rfl) (imms_map (fun _ => rfl) _)) .lst rfl) ea_nil (.inl rfl) rfl) (.inl rfl) rfl) (.inl rfl) rfl) (.inl rfl) (.inr (.inl rfl)) rfl rfl ⟨a_crew, p_1.1, p_1.2.2.1, r_13, rfl, hr_13, rfl, rfl⟩) (by first | rfl | exact heldOf_c) htold_14 ⟨rfl, rfl, rfl⟩ rfl rfl ?_
  show SS X [some (.bor (D.lst (List.map D.str a_crew))), some (.bor (D.tup [(D.lst (List.map D.int a_case.1)), (D.lst (List.map D.str a_case.2.1)), (D.lst (List.map D.str a_case.2.2.1)), (D.lst (List.map D.str a_case.2.2.2.1)), (D.str a_case.2.2.2.2.1), (D.int a_case.2.2.2.2.2.1), (D.lst (List.map D.str a_case.2.2.2.2.2.2.1)), (enO D.int a_case.2.2.2.2.2.2.2)])), some (.bor (D.lst (List.map D.int p_1.1))), some (.bor (D.lst (List.map D.str p_1.2.1))), some (.bor (D.lst (List.map D.str p_1.2.2.1))), some (.bor (D.lst (List.map D.str p_1.2.2.2.1))), some (.frz (D.str p_1.2.2.2.2.1)), some (.frz (D.int p_1.2.2.2.2.2.1)), some (.bor (D.lst (List.map D.str p_1.2.2.2.2.2.2.1))), some (slot2 .b (enO D.int p_1.2.2.2.2.2.2.2)), some (.own (D.lst (List.map (fun x : D => x) told_14)))] _ _
  exact retO A sc_law_by_place 10 rfl rfl rfl (⟨(congrArg (fun x : (List D) => (D.lst (List.map (fun x : D => x) x))) (Option.some.inj H)), .refl⟩)
def m_law_after (a_crew : (List Str)) (a_case : ((List Int) × (List Str) × (List Str) × (List Str) × Str × Int × (List Str) × (Option Int))) : Option (List Int) :=
  ((some a_case).bind fun p_1 => ((some ([] : (List Int))).bind fun after_2 => ((rng1G (a_crew.length : Int)).bind fun r_3 => ((List.foldlM (fun (s_4 : ((List Int))) (z_5 : Int) => ((catG p_1.2.2.2.1 [p_1.2.2.2.2.1]).bind fun xs_7 => ((lcG xs_7).bind fun ys_8 => ((lcM (fun z_9 : Str => ((idxG a_crew z_5).bind fun x_10 => some (decide (z_9 = x_10)))) (fun z_9 : Str => some (1 : Int)) ys_8).bind fun zs_11 => ((some (zs_11.length : Int)).bind fun held_12 => ((lcG p_1.2.1).bind fun ys_13 => ((lcM (fun z_14 : Str => ((idxG a_crew z_5).bind fun x_15 => some (decide (z_14 = x_15)))) (fun z_14 : Str => some (1 : Int)) ys_13).bind fun zs_16 => ((some (zs_16.length : Int)).bind fun wished_17 => ((if (decide ((0 : Int) < held_12)) = true then ((appG s_4 (0 : Int)).bind fun after_19 => some after_19) else ((if (decide ((0 : Int) < wished_17)) = true then ((idxG p_1.1 z_5).bind fun x_20 => some (decide (x_20 < p_1.2.2.2.2.2.1))) else some false).bind fun q_21 => ((if q_21 = true then ((idxG p_1.1 z_5).bind fun x_23 => ((appG s_4 (x_23 + (1 : Int))).bind fun after_24 => some after_24)) else ((idxG p_1.1 z_5).bind fun x_25 => ((appG s_4 x_25).bind fun after_26 => some after_26)) : Option ((List Int))).bind fun s_22 => some s_22)) : Option ((List Int))).bind fun s_18 => some s_18))))))))) after_2 r_3).bind fun s_6 => some s_6))))
def R_law_after : Rel := fun ds d k => ∃ (a_crew : (List Str)) (a_case : ((List Int) × (List Str) × (List Str) × (List Str) × Str × Int × (List Str) × (Option Int))) (r : (List Int)), ds = [(D.lst (List.map D.str a_crew)), (D.tup [(D.lst (List.map D.int a_case.1)), (D.lst (List.map D.str a_case.2.1)), (D.lst (List.map D.str a_case.2.2.1)), (D.lst (List.map D.str a_case.2.2.2.1)), (D.str a_case.2.2.2.2.1), (D.int a_case.2.2.2.2.2.1), (D.lst (List.map D.str a_case.2.2.2.2.2.2.1)), (enO D.int a_case.2.2.2.2.2.2.2)])] ∧ m_law_after a_crew a_case = some r ∧ d = (fun x : (List Int) => (D.tup (List.map D.int x))) r ∧ k = .cln
abbrev N_law_after : List Str := ["crew", "case", "loads", "wishes", "turned", "having", "late", "crest", "listed", "cap", "after", "k", "held", "name", "wished"]
theorem fs_law_after : FnScope N_law_after ["crew", "case"] (defScope s_law_after) := ⟨rfl, rfl, rfl, by decide +kernel, rfl, by decide +kernel, by decide +kernel⟩
theorem sc_law_after : Sc N_law_after (defScope s_law_after) [0, 1, 2, 3, 5, 6, 7, 10, 11, 12, 14] [2, 3, 4, 5, 6, 7, 8, 9, 10, 11, 12, 14] ["range", "len", "tuple"] := ⟨fs_law_after.nd, by decide +kernel⟩
abbrev cs_law_after_c1 : Scope := compScope (s_law_after) [2, 2, 1, 1]
theorem sc_law_after_c1 : Sc N_law_after cs_law_after_c1 [0, 11, 13] [13] [] := ⟨fs_law_after.nd, by decide +kernel⟩
abbrev cs_law_after_c2 : Scope := compScope (s_law_after) [2, 3, 1, 1]
theorem sc_law_after_c2 : Sc N_law_after cs_law_after_c2 [0, 11, 13] [13] [] := ⟨fs_law_after.nd, by decide +kernel⟩
theorem b_law_after {X : Cx} {Γ : Gd} (A : At X Γ N_law_after (defScope s_law_after) 0) (g_len : Γ.mg "len" = none) (g_range : Γ.mg "range" = none) (g_tuple : Γ.mg "tuple" = none) {ds : List D} {d : D} {k : Kd} (hR : R_law_after ds d k) :
    SS X (env0 15 ds) (defBody s_law_after) { rt := fun d' k' => d' = d ∧ Fits k' k d, nx := fun _ => d = .non ∧ k = .cln } := by
  obtain ⟨a_crew, a_case, r, rfl, H, rfl, rfl⟩ := hR
  unfold m_law_after at H
  obtain ⟨p_1, hp_1, H⟩ := bindO H
  refine asg_ (kz := .b) (Ev.cv (nmB A sc_law_after 1 rfl rfl rfl) (congrArg (fun x : ((List Int) × (List Str) × (List Str) × (List Str) × Str × Int × (List Str) × (Option Int)) => (D.tup [(D.lst (List.map D.int x.1)), (D.lst (List.map D.str x.2.1)), (D.lst (List.map D.str x.2.2.1)), (D.lst (List.map D.str x.2.2.2.1)), (D.str x.2.2.2.2.1), (D.int x.2.2.2.2.2.1), (D.lst (List.map D.str x.2.2.2.2.2.2.1)), (enO D.int x.2.2.2.2.2.2.2)])) (Option.some.inj hp_1))) (tg_tp A.calm (tgs_cons (tg A sc_law_after 2 rfl rfl) (tgs_cons (tg A sc_law_after 3 rfl rfl) (tgs_cons (tg A sc_law_after 4 rfl rfl) (tgs_cons (tg A sc_law_after 5 rfl rfl) (tgs_cons (tg A sc_law_after 6 rfl rfl) (tgs_cons (tg A sc_law_after 7 rfl rfl) (tgs_cons (tg A sc_law_after 8 rfl rfl) (tgs_cons (tg A sc_law_after 9 rfl rfl) tgs_nil rfl) rfl) rfl) rfl) rfl) rfl) rfl) rfl) rfl rfl) rfl rfl rfl rfl ?_
  show SS X [some (.bor (D.lst (List.map D.str a_crew))), some (.bor (D.tup [(D.lst (List.map D.int a_case.1)), (D.lst (List.map D.str a_case.2.1)), (D.lst (List.map D.str a_case.2.2.1)), (D.lst (List.map D.str a_case.2.2.2.1)), (D.str a_case.2.2.2.2.1), (D.int a_case.2.2.2.2.2.1), (D.lst (List.map D.str a_case.2.2.2.2.2.2.1)), (enO D.int a_case.2.2.2.2.2.2.2)])), some (.bor (D.lst (List.map D.int p_1.1))), some (.bor (D.lst (List.map D.str p_1.2.1))), some (.bor (D.lst (List.map D.str p_1.2.2.1))), some (.bor (D.lst (List.map D.str p_1.2.2.2.1))), some (.frz (D.str p_1.2.2.2.2.1)), some (.frz (D.int p_1.2.2.2.2.2.1)), some (.bor (D.lst (List.map D.str p_1.2.2.2.2.2.2.1))), some (slot2 .b (enO D.int p_1.2.2.2.2.2.2.2)), none, none, none, none, none] _ _
  obtain ⟨after_2, hafter_2, H⟩ := bindO H
  refine set_ A sc_law_after 10 rfl rfl (Ev.cv (ev_list ea_nil (.inl rfl) (le_line rfl)) (congrArg (fun x : (List Int) => (D.lst (List.map D.int x))) (Option.some.inj hafter_2))) .own rfl ?_
  show SS X [some (.bor (D.lst (List.map D.str a_crew))), some (.bor (D.tup [(D.lst (List.map D.int a_case.1)), (D.lst (List.map D.str a_case.2.1)), (D.lst (List.map D.str a_case.2.2.1)), (D.lst (List.map D.str a_case.2.2.2.1)), (D.str a_case.2.2.2.2.1), (D.int a_case.2.2.2.2.2.1), (D.lst (List.map D.str a_case.2.2.2.2.2.2.1)), (enO D.int a_case.2.2.2.2.2.2.2)])), some (.bor (D.lst (List.map D.int p_1.1))), some (.bor (D.lst (List.map D.str p_1.2.1))), some (.bor (D.lst (List.map D.str p_1.2.2.1))), some (.bor (D.lst (List.map D.str p_1.2.2.2.1))), some (.frz (D.str p_1.2.2.2.2.1)), some (.frz (D.int p_1.2.2.2.2.2.1)), some (.bor (D.lst (List.map D.str p_1.2.2.2.2.2.2.1))), some (slot2 .b (enO D.int p_1.2.2.2.2.2.2.2)), some (.own (D.lst (List.map D.int after_2))), none, none, none, none] _ _
  obtain ⟨r_3, hr_3, H⟩ := bindO H
  obtain ⟨s_6, hs_6, H⟩ := bindO H
  refine forM_ (en := D.int) (fun s_4 : ((List Int)) => [some (.bor (D.lst (List.map D.str a_crew))), some (.bor (D.tup [(D.lst (List.map D.int a_case.1)), (D.lst (List.map D.str a_case.2.1)), (D.lst (List.map D.str a_case.2.2.1)), (D.lst (List.map D.str a_case.2.2.2.1)), (D.str a_case.2.2.2.2.1), (D.int a_case.2.2.2.2.2.1), (D.lst (List.map D.str a_case.2.2.2.2.2.2.1)), (enO D.int a_case.2.2.2.2.2.2.2)])), some (.bor (D.lst (List.map D.int p_1.1))), some (.bor (D.lst (List.map D.str p_1.2.1))), some (.bor (D.lst (List.map D.str p_1.2.2.1))), some (.bor (D.lst (List.map D.str p_1.2.2.2.1))), some (.frz (D.str p_1.2.2.2.2.1)), some (.frz (D.int p_1.2.2.2.2.2.1)), some (.bor (D.lst (List.map D.str p_1.2.2.2.2.2.2.1))), some (slot2 .b (enO D.int p_1.2.2.2.2.2.2.2)), some (.own (D.lst (List.map D.int s_4))), none, none, none, none]) A (rng1_ (glo A sc_law_after 0 rfl) (by rw [A.eM]; exact g_range) (lenL_ (bn A sc_law_after 1 rfl g_len bt_len) (nmB A sc_law_after 0 rfl rfl rfl) rfl) hr_3 rfl) (tg A sc_law_after 11 rfl rfl) (fun _ => rfl) hs_6 ?_ ?_ ?_
  · exact (wkr (wkr (wkr (wkr (wkr (wkr (wkr (wkr (wkr (wkr (wkr (wkn (wkn (wkn (wkn wk0)))))))))))))))
  · intro s_4 z_5 s' hx H
    refine ⟨_, rfl, ?_⟩
    obtain ⟨xs_7, hxs_7, H⟩ := bindO H
    obtain ⟨ys_8, hys_8, H⟩ := bindO H
    obtain ⟨zs_11, hzs_11, H⟩ := bindO H
    obtain ⟨held_12, hheld_12, H⟩ := bindO H
    refine set_ A sc_law_after 12 rfl rfl (Ev.cv (lenL_ (bn A sc_law_after 1 rfl g_len bt_len) (Ec.ev (lcM_ (en := D.str) D.int [("name", 13)] .c A sc_law_after (by decide +kernel) (iter_ (catL_ (f := D.str) (Ev.shlI (nmB A sc_law_after 5 rfl rfl rfl) (imms_map (fun _ => rfl) _)) (Ev.cv (ev_list (ea_cons (nmF A sc_law_after 6 rfl rfl rfl) ea_nil (.inl rfl) rfl) (.inl rfl) (le_line rfl)) rfl) hxs_7) .lstO) hys_8 hzs_11 (Clear_of rfl) (fun Y AY => (tg AY sc_law_after_c1 13 rfl rfl)) (by decide) (fun _ => rfl) (fun z_9 _ => ⟨_, rfl, fun b H Y AY => by obtain ⟨x_10, hx_10, H⟩ := bindO H; obtain rfl := Option.some.inj H; exact (ets_one (et_eqS (nmF AY sc_law_after_c1 13 rfl rfl rfl) (ixL_ (f := D.str) (Ev.shlI (nmB AY sc_law_after_c1 0 rfl rfl rfl) (imms_map (fun _ => rfl) _)) (nmF AY sc_law_after_c1 11 rfl rfl rfl) hx_10 (fun _ _ => rfl)))), fun y _ H => by obtain rfl := Option.some.inj H; exact ⟨_, rfl, fun Y AY => ev_int⟩⟩))) rfl) (congrArg D.int (Option.some.inj hheld_12))) .int rfl ?_
    show SS X [some (.bor (D.lst (List.map D.str a_crew))), some (.bor (D.tup [(D.lst (List.map D.int a_case.1)), (D.lst (List.map D.str a_case.2.1)), (D.lst (List.map D.str a_case.2.2.1)), (D.lst (List.map D.str a_case.2.2.2.1)), (D.str a_case.2.2.2.2.1), (D.int a_case.2.2.2.2.2.1), (D.lst (List.map D.str a_case.2.2.2.2.2.2.1)), (enO D.int a_case.2.2.2.2.2.2.2)])), some (.bor (D.lst (List.map D.int p_1.1))), some (.bor (D.lst (List.map D.str p_1.2.1))), some (.bor (D.lst (List.map D.str p_1.2.2.1))), some (.bor (D.lst (List.map D.str p_1.2.2.2.1))), some (.frz (D.str p_1.2.2.2.2.1)), some (.frz (D.int p_1.2.2.2.2.2.1)), some (.bor (D.lst (List.map D.str p_1.2.2.2.2.2.2.1))), some (slot2 .b (enO D.int p_1.2.2.2.2.2.2.2)), some (.own (D.lst (List.map D.int s_4))), some (.frz (D.int z_5)), some (.frz (D.int held_12)), none, none] _ _
    obtain ⟨ys_13, hys_13, H⟩ := bindO H
    obtain ⟨zs_16, hzs_16, H⟩ := bindO H
    obtain ⟨wished_17, hwished_17, H⟩ := bindO H
    refine set_ A sc_law_after 14 rfl rfl (Ev.cv (lenL_ (bn A sc_law_after 1 rfl g_len bt_len) (Ec.ev (lcM_ (en := D.str) D.int [("name", 13)] .c A sc_law_after (by decide +kernel) (iter_ (nmB A sc_law_after 3 rfl rfl rfl) .lstB) hys_13 hzs_16 (Clear_of rfl) (fun Y AY => (tg AY sc_law_after_c2 13 rfl rfl)) (by decide) (fun _ => rfl) (fun z_14 _ => ⟨_, rfl, fun b H Y AY => by obtain ⟨x_15, hx_15, H⟩ := bindO H; obtain rfl := Option.some.inj H; exact (ets_one (et_eqS (nmF AY sc_law_after_c2 13 rfl rfl rfl) (ixL_ (f := D.str) (Ev.shlI (nmB AY sc_law_after_c2 0 rfl rfl rfl) (imms_map (fun _ => rfl) _)) (nmF AY sc_law_after_c2 11 rfl rfl rfl) hx_15 (fun _ _ => rfl)))), fun y _ H => by obtain rfl := Option.some.inj H; exact ⟨_, rfl, fun Y AY => ev_int⟩⟩))) rfl) (congrArg D.int (Option.some.inj hwished_17))) .int rfl ?_
    show SS X [some (.bor (D.lst (List.map D.str a_crew))), some (.bor (D.tup [(D.lst (List.map D.int a_case.1)), (D.lst (List.map D.str a_case.2.1)), (D.lst (List.map D.str a_case.2.2.1)), (D.lst (List.map D.str a_case.2.2.2.1)), (D.str a_case.2.2.2.2.1), (D.int a_case.2.2.2.2.2.1), (D.lst (List.map D.str a_case.2.2.2.2.2.2.1)), (enO D.int a_case.2.2.2.2.2.2.2)])), some (.bor (D.lst (List.map D.int p_1.1))), some (.bor (D.lst (List.map D.str p_1.2.1))), some (.bor (D.lst (List.map D.str p_1.2.2.1))), some (.bor (D.lst (List.map D.str p_1.2.2.2.1))), some (.frz (D.str p_1.2.2.2.2.1)), some (.frz (D.int p_1.2.2.2.2.2.1)), some (.bor (D.lst (List.map D.str p_1.2.2.2.2.2.2.1))), some (slot2 .b (enO D.int p_1.2.2.2.2.2.2.2)), some (.own (D.lst (List.map D.int s_4))), some (.frz (D.int z_5)), some (.frz (D.int held_12)), none, some (.frz (D.int wished_17))] _ _
    obtain ⟨s_18, hs_18, H⟩ := bindO H
    refine ss_ifM [some (.bor (D.lst (List.map D.str a_crew))), some (.bor (D.tup [(D.lst (List.map D.int a_case.1)), (D.lst (List.map D.str a_case.2.1)), (D.lst (List.map D.str a_case.2.2.1)), (D.lst (List.map D.str a_case.2.2.2.1)), (D.str a_case.2.2.2.2.1), (D.int a_case.2.2.2.2.2.1), (D.lst (List.map D.str a_case.2.2.2.2.2.2.1)), (enO D.int a_case.2.2.2.2.2.2.2)])), some (.bor (D.lst (List.map D.int p_1.1))), some (.bor (D.lst (List.map D.str p_1.2.1))), some (.bor (D.lst (List.map D.str p_1.2.2.1))), some (.bor (D.lst (List.map D.str p_1.2.2.2.1))), some (.frz (D.str p_1.2.2.2.2.1)), some (.frz (D.int p_1.2.2.2.2.2.1)), some (.bor (D.lst (List.map D.str p_1.2.2.2.2.2.2.1))), some (slot2 .b (enO D.int p_1.2.2.2.2.2.2.2)), some (.own (D.lst (List.map D.int s_18))), some (.frz (D.int z_5)), some (.frz (D.int held_12)), none, some (.frz (D.int wished_17))] (et_cI (nmF A sc_law_after 12 rfl rfl rfl) ev_int .gt) ?_ (fun hc => ?_) (fun hc => ?_)
    · skip
      obtain rfl := Option.some.inj H
      refine ss_nil ?_
      exact (wkr (wkr (wkr (wkr (wkr (wkr (wkr (wkr (wkr (wkr (wkr (wkn (wkn (wkn (wkn wk0)))))))))))))))
    · replace H := ifT hs_18 hc
      obtain ⟨after_19, hafter_19, H⟩ := bindO H
      refine app_ (en := D.int) (x := (0 : Int)) A sc_law_after 10 rfl rfl rfl ev_int (by first | rfl | exact heldOf_c) hafter_19 ⟨rfl, rfl, rfl⟩ rfl rfl ?_
      show SS X [some (.bor (D.lst (List.map D.str a_crew))), some (.bor (D.tup [(D.lst (List.map D.int a_case.1)), (D.lst (List.map D.str a_case.2.1)), (D.lst (List.map D.str a_case.2.2.1)), (D.lst (List.map D.str a_case.2.2.2.1)), (D.str a_case.2.2.2.2.1), (D.int a_case.2.2.2.2.2.1), (D.lst (List.map D.str a_case.2.2.2.2.2.2.1)), (enO D.int a_case.2.2.2.2.2.2.2)])), some (.bor (D.lst (List.map D.int p_1.1))), some (.bor (D.lst (List.map D.str p_1.2.1))), some (.bor (D.lst (List.map D.str p_1.2.2.1))), some (.bor (D.lst (List.map D.str p_1.2.2.2.1))), some (.frz (D.str p_1.2.2.2.2.1)), some (.frz (D.int p_1.2.2.2.2.2.1)), some (.bor (D.lst (List.map D.str p_1.2.2.2.2.2.2.1))), some (slot2 .b (enO D.int p_1.2.2.2.2.2.2.2)), some (.own (D.lst (List.map D.int after_19))), some (.frz (D.int z_5)), some (.frz (D.int held_12)), none, some (.frz (D.int wished_17))] _ _
      obtain rfl := Option.some.inj H
      refine ss_nil ?_
      exact (wkr (wkr (wkr (wkr (wkr (wkr (wkr (wkr (wkr (wkr (wkr (wkr (wkr (wkn (wkr wk0)))))))))))))))
    · replace H := ifF hs_18 hc
      obtain ⟨q_21, hq_21, H⟩ := bindO H
      obtain ⟨s_22, hs_22, H⟩ := bindO H
      refine ss_ifM [some (.bor (D.lst (List.map D.str a_crew))), some (.bor (D.tup [(D.lst (List.map D.int a_case.1)), (D.lst (List.map D.str a_case.2.1)), (D.lst (List.map D.str a_case.2.2.1)), (D.lst (List.map D.str a_case.2.2.2.1)), (D.str a_case.2.2.2.2.1), (D.int a_case.2.2.2.2.2.1), (D.lst (List.map D.str a_case.2.2.2.2.2.2.1)), (enO D.int a_case.2.2.2.2.2.2.2)])), some (.bor (D.lst (List.map D.int p_1.1))), some (.bor (D.lst (List.map D.str p_1.2.1))), some (.bor (D.lst (List.map D.str p_1.2.2.1))), some (.bor (D.lst (List.map D.str p_1.2.2.2.1))), some (.frz (D.str p_1.2.2.2.2.1)), some (.frz (D.int p_1.2.2.2.2.2.1)), some (.bor (D.lst (List.map D.str p_1.2.2.2.2.2.2.1))), some (slot2 .b (enO D.int p_1.2.2.2.2.2.2.2)), some (.own (D.lst (List.map D.int s_22))), some (.frz (D.int z_5)), some (.frz (D.int held_12)), none, some (.frz (D.int wished_17))] (Ew.et (ew_andM (et_cI (nmF A sc_law_after 14 rfl rfl rfl) ev_int .gt) hq_21 fun H => by obtain ⟨x_20, hx_20, H⟩ := bindO H; obtain rfl := Option.some.inj H; exact (ew_and1 (et_cI (ixL_ (f := D.int) (Ev.shlI (nmB A sc_law_after 2 rfl rfl rfl) (imms_map (fun _ => rfl) _)) (nmF A sc_law_after 11 rfl rfl rfl) hx_20 (fun _ _ => rfl)) (nmF A sc_law_after 7 rfl rfl rfl) .lt)))) ?_ (fun hc => ?_) (fun hc => ?_)
      · skip
        obtain rfl := Option.some.inj H
        refine ss_nil ?_
        exact (wkr (wkr (wkr (wkr (wkr (wkr (wkr (wkr (wkr (wkr (wkr (wkr (wkr (wkn (wkr wk0)))))))))))))))
      · replace H := ifT hs_22 hc
        obtain ⟨x_23, hx_23, H⟩ := bindO H
        obtain ⟨after_24, hafter_24, H⟩ := bindO H
        refine app_ (en := D.int) (x := (x_23 + (1 : Int))) A sc_law_after 10 rfl rfl rfl (ev_add (ixL_ (f := D.int) (Ev.shlI (nmB A sc_law_after 2 rfl rfl rfl) (imms_map (fun _ => rfl) _)) (nmF A sc_law_after 11 rfl rfl rfl) hx_23 (fun _ _ => rfl)) ev_int) (by first | rfl | exact heldOf_c) hafter_24 ⟨rfl, rfl, rfl⟩ rfl rfl ?_
        show SS X [some (.bor (D.lst (List.map D.str a_crew))), some (.bor (D.tup [(D.lst (List.map D.int a_case.1)), (D.lst (List.map D.str a_case.2.1)), (D.lst (List.map D.str a_case.2.2.1)), (D.lst (List.map D.str a_case.2.2.2.1)), (D.str a_case.2.2.2.2.1), (D.int a_case.2.2.2.2.2.1), (D.lst (List.map D.str a_case.2.2.2.2.2.2.1)), (enO D.int a_case.2.2.2.2.2.2.2)])), some (.bor (D.lst (List.map D.int p_1.1))), some (.bor (D.lst (List.map D.str p_1.2.1))), some (.bor (D.lst (List.map D.str p_1.2.2.1))), some (.bor (D.lst (List.map D.str p_1.2.2.2.1))), some (.frz (D.str p_1.2.2.2.2.1)), some (.frz (D.int p_1.2.2.2.2.2.1)), some (.bor (D.lst (List.map D.str p_1.2.2.2.2.2.2.1))), some (slot2 .b (enO D.int p_1.2.2.2.2.2.2.2)), some (.own (D.lst (List.map D.int after_24))), some (.frz (D.int z_5)), some (.frz (D.int held_12)), none, some (.frz (D.int wished_17))] _ _
        obtain rfl := Option.some.inj H
        refine ss_nil ?_
        exact (wkr (wkr (wkr (wkr (wkr (wkr (wkr (wkr (wkr (wkr (wkr (wkr (wkr (wkn (wkr wk0)))))))))))))))
      · replace H := ifF hs_22 hc
        obtain ⟨x_25, hx_25, H⟩ := bindO H
        obtain ⟨after_26, hafter_26, H⟩ := bindO H
        refine app_ (en := D.int) (x := x_25) A sc_law_after 10 rfl rfl rfl (ixL_ (f := D.int) (Ev.shlI (nmB A sc_law_after 2 rfl rfl rfl) (imms_map (fun _ => rfl) _)) (nmF A sc_law_after 11 rfl rfl rfl) hx_25 (fun _ _ => rfl)) (by first | rfl | exact heldOf_c) hafter_26 ⟨rfl, rfl, rfl⟩ rfl rfl ?_
        show SS X [some (.bor (D.lst (List.map D.str a_crew))), some (.bor (D.tup [(D.lst (List.map D.int a_case.1)), (D.lst (List.map D.str a_case.2.1)), (D.lst (List.map D.str a_case.2.2.1)), (D.lst (List.map D.str a_case.2.2.2.1)), (D.str a_case.2.2.2.2.1), (D.int a_case.2.2.2.2.2.1), (D.lst (List.map D.str a_case.2.2.2.2.2.2.1)), (enO D.int a_case.2.2.2.2.2.2.2)])), some (.bor (D.lst (List.map D.int p_1.1))), some (.bor (D.lst (List.map D.str p_1.2.1))), some (.bor (D.lst (List.map D.str p_1.2.2.1))), some (.bor (D.lst (List.map D.str p_1.2.2.2.1))), some (.frz (D.str p_1.2.2.2.2.1)), some (.frz (D.int p_1.2.2.2.2.2.1)), some (.bor (D.lst (List.map D.str p_1.2.2.2.2.2.2.1))), some (slot2 .b (enO D.int p_1.2.2.2.2.2.2.2)), some (.own (D.lst (List.map D.int after_26))), some (.frz (D.int z_5)), some (.frz (D.int held_12)), none, some (.frz (D.int wished_17))] _ _
        obtain rfl := Option.some.inj H
        refine ss_nil ?_
        exact (wkr (wkr (wkr (wkr (wkr (wkr (wkr (wkr (wkr (wkr (wkr (wkr (wkr (wkn (wkr wk0)))))))))))))))
  exact ss_ret (tuple_ (bn A sc_law_after 2 rfl g_tuple bt_tuple) (nmO A sc_law_after 10 rfl rfl rfl) .lst rfl) (⟨(congrArg (fun x : (List Int) => (D.tup (List.map D.int x))) (Option.some.inj H)), .refl⟩)
def m_law_over (a_crew : (List Str)) (a_loads : (List Int)) (a_listed : (List Str)) (a_cap : (Option Int)) : Option (Option Str) :=
  ((some (none : (Option Str))).bind fun over_1 => ((List.foldlM (fun (s_2 : ((Option Str))) (z_3 : Str) => ((if (!a_cap.isNone) = true then ((fndG a_crew z_3).bind fun i_5 => ((idxG a_loads i_5).bind fun x_6 => ((a_cap).bind fun v_7 => some (decide (v_7 ≤ x_6))))) else some false).bind fun q_8 => ((if q_8 = true then ((some (some z_3)).bind fun over_10 => some over_10) else some s_2 : Option ((Option Str))).bind fun s_9 => some s_9))) over_1 (a_listed.reverse)).bind fun s_4 => some s_4))
def R_law_over : Rel := fun ds d k => ∃ (a_crew : (List Str)) (a_loads : (List Int)) (a_listed : (List Str)) (a_cap : (Option Int)) (r : (Option Str)), ds = [(D.lst (List.map D.str a_crew)), (D.lst (List.map D.int a_loads)), (D.lst (List.map D.str a_listed)), (enO D.int a_cap)] ∧ m_law_over a_crew a_loads a_listed a_cap = some r ∧ d = (enO D.str) r ∧ k = .cln
abbrev N_law_over : List Str := ["crew", "loads", "listed", "cap", "over", "name"]
theorem fs_law_over : FnScope N_law_over ["crew", "loads", "listed", "cap"] (defScope s_law_over) := ⟨rfl, rfl, rfl, by decide +kernel, rfl, by decide +kernel, by decide +kernel⟩
theorem sc_law_over : Sc N_law_over (defScope s_law_over) [0, 1, 2, 3, 4, 5] [4, 5] [] := ⟨fs_law_over.nd, by decide +kernel⟩
theorem b_law_over {X : Cx} {Γ : Gd} (A : At X Γ N_law_over (defScope s_law_over) 0)  {ds : List D} {d : D} {k : Kd} (hR : R_law_over ds d k) :
    SS X (env0 6 ds) (defBody s_law_over) { rt := fun d' k' => d' = d ∧ Fits k' k d, nx := fun _ => d = .non ∧ k = .cln } := by
  obtain ⟨a_crew, a_loads, a_listed, a_cap, r, rfl, H, rfl, rfl⟩ := hR
  unfold m_law_over at H
  obtain ⟨over_1, hover_1, H⟩ := bindO H
  refine set_ A sc_law_over 4 rfl rfl (Ev.cv (Ev.cv ev_non rfl) (congrArg (enO D.str) (Option.some.inj hover_1))) .cln rfl ?_
  show SS X [some (.bor (D.lst (List.map D.str a_crew))), some (.bor (D.lst (List.map D.int a_loads))), some (.bor (D.lst (List.map D.str a_listed))), some (slot2 .b (enO D.int a_cap)), some (.frz (enO D.str over_1)), none] _ _
  obtain ⟨s_4, hs_4, H⟩ := bindO H
  refine forM_ (en := D.str) (fun s_2 : ((Option Str)) => [some (.bor (D.lst (List.map D.str a_crew))), some (.bor (D.lst (List.map D.int a_loads))), some (.bor (D.lst (List.map D.str a_listed))), some (slot2 .b (enO D.int a_cap)), some (.frz (enO D.str s_2)), none]) A (iter_ (revL_ (Ev.shlI (nmB A sc_law_over 2 rfl rfl rfl) (imms_map (fun _ => rfl) _))) .lstO) (tg A sc_law_over 5 rfl rfl) (fun _ => rfl) hs_4 ?_ ?_ ?_
  · exact (wkr (wkr (wkr (wkr (wkr (wkn wk0))))))
  · intro s_2 z_3 s' hx H
    refine ⟨_, rfl, ?_⟩
    obtain ⟨q_8, hq_8, H⟩ := bindO H
    obtain ⟨s_9, hs_9, H⟩ := bindO H
    refine ss_ifM [some (.bor (D.lst (List.map D.str a_crew))), some (.bor (D.lst (List.map D.int a_loads))), some (.bor (D.lst (List.map D.str a_listed))), some (slot2 .b (enO D.int a_cap)), some (.frz (enO D.str s_9)), some (.frz (D.str z_3))] (Ew.et (ew_andM (et_notN (Ev.scO (nm2 A sc_law_over 3 rfl rfl rfl) (fun _ => rfl)) (isN_enO (fun _ => rfl))) hq_8 fun H => by obtain ⟨i_5, hi_5, H⟩ := bindO H; obtain ⟨x_6, hx_6, H⟩ := bindO H; obtain ⟨v_7, hv_7, H⟩ := bindO H; obtain rfl := Option.some.inj H; exact (ew_and1 (et_cI (ixL_ (f := D.int) (Ev.shlI (nmB A sc_law_over 1 rfl rfl rfl) (imms_map (fun _ => rfl) _)) (indexLS_ (nmB A sc_law_over 0 rfl rfl rfl) (nmF A sc_law_over 5 rfl rfl rfl) hi_5 ⟨rfl, rfl, rfl⟩) hx_6 (fun _ _ => rfl)) (Ev.getO (f := D.int) (Ev.scO (nm2 A sc_law_over 3 rfl rfl rfl) (fun _ => rfl)) hv_7) .ge)))) ?_ (fun hc => ?_) (fun hc => ?_)
    · skip
      obtain rfl := Option.some.inj H
      refine ss_nil ?_
      exact (wkr (wkr (wkr (wkr (wkr (wkn wk0))))))
    · replace H := ifT hs_9 hc
      obtain ⟨over_10, hover_10, H⟩ := bindO H
      refine set_ A sc_law_over 4 rfl rfl (Ev.cv (Ev.cv (nmF A sc_law_over 5 rfl rfl rfl) rfl) (congrArg (enO D.str) (Option.some.inj hover_10))) .cln rfl ?_
      show SS X [some (.bor (D.lst (List.map D.str a_crew))), some (.bor (D.lst (List.map D.int a_loads))), some (.bor (D.lst (List.map D.str a_listed))), some (slot2 .b (enO D.int a_cap)), some (.frz (enO D.str over_10)), some (.frz (D.str z_3))] _ _
      obtain rfl := Option.some.inj H
      refine ss_nil ?_
      exact (wkr (wkr (wkr (wkr (wkr (wkr wk0))))))
    · replace H := ifF hs_9 hc
      obtain rfl := Option.some.inj H
      refine ss_nil ?_
      exact (wkr (wkr (wkr (wkr (wkr (wkr wk0))))))
  exact ss_ret (nmF A sc_law_over 4 rfl rfl rfl) (⟨(congrArg (enO D.str) (Option.some.inj H)), .refl⟩)
def m_law_longest (a_crew : (List Str)) (a_loads : (List Int)) (a_wishes : (List Str)) : Option Str :=
  ((some ("" : Str)).bind fun best_1 => ((List.foldlM (fun (s_2 : (Str)) (z_3 : Str) => ((if (decide (s_2 = ("" : Str))) = true then some true else ((fndG a_crew z_3).bind fun i_5 => ((idxG a_loads i_5).bind fun x_6 => ((fndG a_crew s_2).bind fun i_7 => ((idxG a_loads i_7).bind fun x_8 => some (decide (x_8 ≤ x_6))))))).bind fun q_9 => ((if q_9 = true then ((some z_3).bind fun best_11 => some best_11) else some s_2 : Option (Str)).bind fun s_10 => some s_10))) best_1 (a_wishes.reverse)).bind fun s_4 => some s_4))
def R_law_longest : Rel := fun ds d k => ∃ (a_crew : (List Str)) (a_loads : (List Int)) (a_wishes : (List Str)) (r : Str), ds = [(D.lst (List.map D.str a_crew)), (D.lst (List.map D.int a_loads)), (D.lst (List.map D.str a_wishes))] ∧ m_law_longest a_crew a_loads a_wishes = some r ∧ d = D.str r ∧ k = .cln
abbrev N_law_longest : List Str := ["crew", "loads", "wishes", "best", "name"]
theorem fs_law_longest : FnScope N_law_longest ["crew", "loads", "wishes"] (defScope s_law_longest) := ⟨rfl, rfl, rfl, by decide +kernel, rfl, by decide +kernel, by decide +kernel⟩
theorem sc_law_longest : Sc N_law_longest (defScope s_law_longest) [0, 1, 2, 3, 4] [3, 4] [] := ⟨fs_law_longest.nd, by decide +kernel⟩
theorem b_law_longest {X : Cx} {Γ : Gd} (A : At X Γ N_law_longest (defScope s_law_longest) 0)  {ds : List D} {d : D} {k : Kd} (hR : R_law_longest ds d k) :
    SS X (env0 5 ds) (defBody s_law_longest) { rt := fun d' k' => d' = d ∧ Fits k' k d, nx := fun _ => d = .non ∧ k = .cln } := by
  obtain ⟨a_crew, a_loads, a_wishes, r, rfl, H, rfl, rfl⟩ := hR
  unfold m_law_longest at H
  obtain ⟨best_1, hbest_1, H⟩ := bindO H
  refine set_ A sc_law_longest 3 rfl rfl (Ev.cv ev_str (congrArg D.str (Option.some.inj hbest_1))) .str rfl ?_
  show SS X [some (.bor (D.lst (List.map D.str a_crew))), some (.bor (D.lst (List.map D.int a_loads))), some (.bor (D.lst (List.map D.str a_wishes))), some (.frz (D.str best_1)), none] _ _
  obtain ⟨s_4, hs_4, H⟩ := bindO H
  refine forM_ (en := D.str) (fun s_2 : (Str) => [some (.bor (D.lst (List.map D.str a_crew))), some (.bor (D.lst (List.map D.int a_loads))), some (.bor (D.lst (List.map D.str a_wishes))), some (.frz (D.str s_2)), none]) A (iter_ (revL_ (Ev.shlI (nmB A sc_law_longest 2 rfl rfl rfl) (imms_map (fun _ => rfl) _))) .lstO) (tg A sc_law_longest 4 rfl rfl) (fun _ => rfl) hs_4 ?_ ?_ ?_
  · exact (wkr (wkr (wkr (wkr (wkn wk0)))))
  · intro s_2 z_3 s' hx H
    refine ⟨_, rfl, ?_⟩
    obtain ⟨q_9, hq_9, H⟩ := bindO H
    obtain ⟨s_10, hs_10, H⟩ := bindO H
    refine ss_ifM [some (.bor (D.lst (List.map D.str a_crew))), some (.bor (D.lst (List.map D.int a_loads))), some (.bor (D.lst (List.map D.str a_wishes))), some (.frz (D.str s_10)), some (.frz (D.str z_3))] (Ew.et (ew_orM (et_eqS (nmF A sc_law_longest 3 rfl rfl rfl) ev_str) hq_9 fun H => by obtain ⟨i_5, hi_5, H⟩ := bindO H; obtain ⟨x_6, hx_6, H⟩ := bindO H; obtain ⟨i_7, hi_7, H⟩ := bindO H; obtain ⟨x_8, hx_8, H⟩ := bindO H; obtain rfl := Option.some.inj H; exact (ew_or1 (et_cI (ixL_ (f := D.int) (Ev.shlI (nmB A sc_law_longest 1 rfl rfl rfl) (imms_map (fun _ => rfl) _)) (indexLS_ (nmB A sc_law_longest 0 rfl rfl rfl) (nmF A sc_law_longest 4 rfl rfl rfl) hi_5 ⟨rfl, rfl, rfl⟩) hx_6 (fun _ _ => rfl)) (ixL_ (f := D.int) (Ev.shlI (nmB A sc_law_longest 1 rfl rfl rfl) (imms_map (fun _ => rfl) _)) (indexLS_ (nmB A sc_law_longest 0 rfl rfl rfl) (nmF A sc_law_longest 3 rfl rfl rfl) hi_7 ⟨rfl, rfl, rfl⟩) hx_8 (fun _ _ => rfl)) .ge)))) ?_ (fun hc => ?_) (fun hc => ?_)
    · skip
      obtain rfl := Option.some.inj H
      refine ss_nil ?_
      exact (wkr (wkr (wkr (wkr (wkn wk0)))))
    · replace H := ifT hs_10 hc
      obtain ⟨best_11, hbest_11, H⟩ := bindO H
      refine set_ A sc_law_longest 3 rfl rfl (Ev.cv (nmF A sc_law_longest 4 rfl rfl rfl) (congrArg D.str (Option.some.inj hbest_11))) .str rfl ?_
      show SS X [some (.bor (D.lst (List.map D.str a_crew))), some (.bor (D.lst (List.map D.int a_loads))), some (.bor (D.lst (List.map D.str a_wishes))), some (.frz (D.str best_11)), some (.frz (D.str z_3))] _ _
      obtain rfl := Option.some.inj H
      refine ss_nil ?_
      exact (wkr (wkr (wkr (wkr (wkr wk0)))))
    · replace H := ifF hs_10 hc
      obtain rfl := Option.some.inj H
      refine ss_nil ?_
      exact (wkr (wkr (wkr (wkr (wkr wk0)))))
  exact ss_ret (nmF A sc_law_longest 3 rfl rfl rfl) (⟨(congrArg D.str (Option.some.inj H)), .str⟩)
def m_law_due (a_crew : (List Str)) (a_case : ((List Int) × (List Str) × (List Str) × (List Str) × Str × Int × (List Str) × (Option Int))) : Option (List D) :=
  ((some a_case).bind fun p_1 => ((some ([] : (List D))).bind fun due_2 => ((List.foldlM (fun (s_3 : ((List D))) (z_4 : (List Str)) => ((lcG z_4).bind fun ys_6 => ((appG s_3 (D.tup (List.map D.str ((List.filter (fun z_7 : Str => ((!(decide (z_7 = p_1.2.2.2.2.1))) && (!(decide (z_7 ∈ p_1.2.2.2.1))))) ys_6).map (fun z_7 : Str => z_7))))).bind fun due_8 => some due_8))) due_2 [p_1.2.1, p_1.2.2.1]).bind fun s_5 => ((m_law_after a_crew a_case).bind fun r_9 => ((some r_9).bind fun after_10 => ((m_law_over a_crew p_1.1 p_1.2.2.2.2.2.2.1 p_1.2.2.2.2.2.2.2).bind fun r_11 => ((catG s_5 [(D.tup (List.map D.int after_10)), (D.tup (List.map D.int after_10)), (enO D.str r_11)]).bind fun xs_12 => ((some xs_12).bind fun due_13 => ((m_law_longest a_crew p_1.1 p_1.2.1).bind fun r_14 => ((m_law_longest a_crew p_1.1 p_1.2.2.1).bind fun r_15 => ((catG due_13 (List.map D.str [r_14, r_15])).bind fun xs_16 => some xs_16)))))))))))
def R_law_due : Rel := fun ds d k => ∃ (a_crew : (List Str)) (a_case : ((List Int) × (List Str) × (List Str) × (List Str) × Str × Int × (List Str) × (Option Int))) (r : (List D)), ds = [(D.lst (List.map D.str a_crew)), (D.tup [(D.lst (List.map D.int a_case.1)), (D.lst (List.map D.str a_case.2.1)), (D.lst (List.map D.str a_case.2.2.1)), (D.lst (List.map D.str a_case.2.2.2.1)), (D.str a_case.2.2.2.2.1), (D.int a_case.2.2.2.2.2.1), (D.lst (List.map D.str a_case.2.2.2.2.2.2.1)), (enO D.int a_case.2.2.2.2.2.2.2)])] ∧ m_law_due a_crew a_case = some r ∧ d = (fun x : (List D) => (D.lst (List.map (fun x : D => x) x))) r ∧ k = .own
abbrev N_law_due : List Str := ["crew", "case", "loads", "wishes", "turned", "having", "late", "crest", "listed", "cap", "due", "row", "name", "after"]
theorem fs_law_due : FnScope N_law_due ["crew", "case"] (defScope s_law_due) := ⟨rfl, rfl, rfl, by decide +kernel, rfl, by decide +kernel, by decide +kernel⟩
theorem sc_law_due : Sc N_law_due (defScope s_law_due) [0, 1, 2, 3, 4, 8, 9, 10, 11, 13] [2, 3, 4, 5, 6, 7, 8, 9, 10, 11, 13] ["tuple", "_law_after", "_law_over", "_law_longest"] := ⟨fs_law_due.nd, by decide +kernel⟩
abbrev cs_law_due_c1 : Scope := compScope (s_law_due) [2, 2, 0, 1, 1]
theorem sc_law_due_c1 : Sc N_law_due cs_law_due_c1 [5, 6, 12] [12] [] := ⟨fs_law_due.nd, by decide +kernel⟩
theorem b_law_due {X : Cx} {Γ : Gd} (A : At X Γ N_law_due (defScope s_law_due) 1) (g_tuple : Γ.mg "tuple" = none) (C_law_after : Cal Γ "_law_after" R_law_after 1 []) (C_law_longest : Cal Γ "_law_longest" R_law_longest 1 []) (C_law_over : Cal Γ "_law_over" R_law_over 1 []) {ds : List D} {d : D} {k : Kd} (hR : R_law_due ds d k) :
    SS X (env0 14 ds) (defBody s_law_due) { rt := fun d' k' => d' = d ∧ Fits k' k d, nx := fun _ => d = .non ∧ k = .cln } := by
  obtain ⟨a_crew, a_case, r, rfl, H, rfl, rfl⟩ := hR
  unfold m_law_due at H
  obtain ⟨p_1, hp_1, H⟩ := bindO H
  refine asg_ (kz := .b) (Ev.cv (nmB A sc_law_due 1 rfl rfl rfl) (congrArg (fun x : ((List Int) × (List Str) × (List Str) × (List Str) × Str × Int × (List Str) × (Option Int)) => (D.tup [(D.lst (List.map D.int x.1)), (D.lst (List.map D.str x.2.1)), (D.lst (List.map D.str x.2.2.1)), (D.lst (List.map D.str x.2.2.2.1)), (D.str x.2.2.2.2.1), (D.int x.2.2.2.2.2.1), (D.lst (List.map D.str x.2.2.2.2.2.2.1)), (enO D.int x.2.2.2.2.2.2.2)])) (Option.some.inj hp_1))) (tg_tp A.calm (tgs_cons (tg A sc_law_due 2 rfl rfl) (tgs_cons (tg A sc_law_due 3 rfl rfl) (tgs_cons (tg A sc_law_due 4 rfl rfl) (tgs_cons (tg A sc_law_due 5 rfl rfl) (tgs_cons (tg A sc_law_due 6 rfl rfl) (tgs_cons (tg A sc_law_due 7 rfl rfl) (tgs_cons (tg A sc_law_due 8 rfl rfl) (tgs_cons (tg A sc_law_due 9 rfl rfl) tgs_nil rfl) rfl) rfl) rfl) rfl) rfl) rfl) rfl) rfl rfl) rfl rfl rfl rfl ?_
  show SS X [some (.bor (D.lst (List.map D.str a_crew))), some (.bor (D.tup [(D.lst (List.map D.int a_case.1)), (D.lst (List.map D.str a_case.2.1)), (D.lst (List.map D.str a_case.2.2.1)), (D.lst (List.map D.str a_case.2.2.2.1)), (D.str a_case.2.2.2.2.1), (D.int a_case.2.2.2.2.2.1), (D.lst (List.map D.str a_case.2.2.2.2.2.2.1)), (enO D.int a_case.2.2.2.2.2.2.2)])), some (.bor (D.lst (List.map D.int p_1.1))), some (.bor (D.lst (List.map D.str p_1.2.1))), some (.bor (D.lst (List.map D.str p_1.2.2.1))), some (.bor (D.lst (List.map D.str p_1.2.2.2.1))), some (.frz (D.str p_1.2.2.2.2.1)), some (.frz (D.int p_1.2.2.2.2.2.1)), some (.bor (D.lst (List.map D.str p_1.2.2.2.2.2.2.1))), some (slot2 .b (enO D.int p_1.2.2.2.2.2.2.2)), none, none, none, none] _ _
  obtain ⟨due_2, hdue_2, H⟩ := bindO H
  refine set_ A sc_law_due 10 rfl rfl (Ev.cv (ev_list ea_nil (.inl rfl) (le_line rfl)) (congrArg (fun x : (List D) => (D.lst (List.map (fun x : D => x) x))) (Option.some.inj hdue_2))) .own rfl ?_
  show SS X [some (.bor (D.lst (List.map D.str a_crew))), some (.bor (D.tup [(D.lst (List.map D.int a_case.1)), (D.lst (List.map D.str a_case.2.1)), (D.lst (List.map D.str a_case.2.2.1)), (D.lst (List.map D.str a_case.2.2.2.1)), (D.str a_case.2.2.2.2.1), (D.int a_case.2.2.2.2.2.1), (D.lst (List.map D.str a_case.2.2.2.2.2.2.1)), (enO D.int a_case.2.2.2.2.2.2.2)])), some (.bor (D.lst (List.map D.int p_1.1))), some (.bor (D.lst (List.map D.str p_1.2.1))), some (.bor (D.lst (List.map D.str p_1.2.2.1))), some (.bor (D.lst (List.map D.str p_1.2.2.2.1))), some (.frz (D.str p_1.2.2.2.2.1)), some (.frz (D.int p_1.2.2.2.2.2.1)), some (.bor (D.lst (List.map D.str p_1.2.2.2.2.2.2.1))), some (slot2 .b (enO D.int p_1.2.2.2.2.2.2.2)), some (.own (D.lst (List.map (fun x : D => x) due_2))), none, none, none] _ _
  obtain ⟨s_5, hs_5, H⟩ := bindO H
  refine forM_ (en := (fun x : (List Str) => (D.lst (List.map D.str x)))) (fun s_3 : ((List D)) => [some (.bor (D.lst (List.map D.str a_crew))), some (.bor (D.tup [(D.lst (List.map D.int a_case.1)), (D.lst (List.map D.str a_case.2.1)), (D.lst (List.map D.str a_case.2.2.1)), (D.lst (List.map D.str a_case.2.2.2.1)), (D.str a_case.2.2.2.2.1), (D.int a_case.2.2.2.2.2.1), (D.lst (List.map D.str a_case.2.2.2.2.2.2.1)), (enO D.int a_case.2.2.2.2.2.2.2)])), some (.bor (D.lst (List.map D.int p_1.1))), some (.bor (D.lst (List.map D.str p_1.2.1))), some (.bor (D.lst (List.map D.str p_1.2.2.1))), some (.bor (D.lst (List.map D.str p_1.2.2.2.1))), some (.frz (D.str p_1.2.2.2.2.1)), some (.frz (D.int p_1.2.2.2.2.2.1)), some (.bor (D.lst (List.map D.str p_1.2.2.2.2.2.2.1))), some (slot2 .b (enO D.int p_1.2.2.2.2.2.2.2)), some (.own (D.lst (List.map (fun x : D => x) s_3))), none, none, none]) A (iter_ (Ev.cv (ev_list (ea_cons (nmB A sc_law_due 3 rfl rfl rfl) (ea_cons (nmB A sc_law_due 4 rfl rfl rfl) ea_nil (.inl rfl) rfl) (.inr (.inl rfl)) rfl) (.inr (.inl rfl)) (le_line rfl)) rfl) .lstB) (tg A sc_law_due 11 rfl rfl) (fun _ => rfl) hs_5 ?_ ?_ ?_
  · exact (wkr (wkr (wkr (wkr (wkr (wkr (wkr (wkr (wkr (wkr (wkr (wkn (wkn (wkn wk0))))))))))))))
  · intro s_3 z_4 s' hx H
    refine ⟨_, rfl, ?_⟩
    obtain ⟨ys_6, hys_6, H⟩ := bindO H
    obtain ⟨due_8, hdue_8, H⟩ := bindO H
    refine app_ (en := (fun x : D => x)) (x := (D.tup (List.map D.str ((List.filter (fun z_7 : Str => ((!(decide (z_7 = p_1.2.2.2.2.1))) && (!(decide (z_7 ∈ p_1.2.2.2.1))))) ys_6).map (fun z_7 : Str => z_7))))) A sc_law_due 10 rfl rfl rfl (tuple_ (bn A sc_law_due 0 rfl g_tuple bt_tuple) (Ec.ev (lcP_ (en := D.str) D.str [("name", 12)] (fun z_7 : Str => ((!(decide (z_7 = p_1.2.2.2.2.1))) && (!(decide (z_7 ∈ p_1.2.2.2.1))))) (fun z_7 : Str => z_7) .c A sc_law_due (by decide +kernel) (iter_ (nmB A sc_law_due 11 rfl rfl rfl) .lstB) hys_6 (Clear_of rfl) (fun Y AY => (tg AY sc_law_due_c1 12 rfl rfl)) (by decide) (fun _ => rfl) (fun z_7 _ => ⟨_, rfl, fun Y AY => (ets_one (Ew.et (ew_and (et_neS (nmF AY sc_law_due_c1 12 rfl rfl rfl) (nmF AY sc_law_due_c1 6 rfl rfl rfl)) fun _ => (ew_and1 (et_ninLS (nmF AY sc_law_due_c1 12 rfl rfl rfl) (nmB AY sc_law_due_c1 5 rfl rfl rfl)))))), fun _ => ⟨_, rfl, fun Y AY => (nmF AY sc_law_due_c1 12 rfl rfl rfl)⟩⟩))) .lst rfl) (by first | rfl | exact heldOf_c) hdue_8 ⟨rfl, rfl, rfl⟩ rfl rfl ?_
    show SS X [some (.bor (D.lst (List.map D.str a_crew))), some (.bor (D.tup [(D.lst (List.map D.int a_case.1)), (D.lst (List.map D.str a_case.2.1)), (D.lst (List.map D.str a_case.2.2.1)), (D.lst (List.map D.str a_case.2.2.2.1)), (D.str a_case.2.2.2.2.1), (D.int a_case.2.2.2.2.2.1), (D.lst (List.map D.str a_case.2.2.2.2.2.2.1)), (enO D.int a_case.2.2.2.2.2.2.2)])), some (.bor (D.lst (List.map D.int p_1.1))), some (.bor (D.lst (List.map D.str p_1.2.1))), some (.bor (D.lst (List.map D.str p_1.2.2.1))), some (.bor (D.lst (List.map D.str p_1.2.2.2.1))), some (.frz (D.str p_1.2.2.2.2.1)), some (.frz (D.int p_1.2.2.2.2.2.1)), some (.bor (D.lst (List.map D.str p_1.2.2.2.2.2.2.1))), some (slot2 .b (enO D.int p_1.2.2.2.2.2.2.2)), some (.own (D.lst (List.map (fun x : D => x) due_8))), some (.bor (D.lst (List.map D.str z_4))), none, none] _ _
    obtain rfl := Option.some.inj H
    refine ss_nil ?_
    exact (wkr (wkr (wkr (wkr (wkr (wkr (wkr (wkr (wkr (wkr (wkr (wkn (wkn (wkn wk0))))))))))))))
  obtain ⟨r_9, hr_9, H⟩ := bindO H
  obtain ⟨after_10, hafter_10, H⟩ := bindO H
  refine set_ A sc_law_due 13 rfl rfl (Ev.cv (Cal.ev C_law_after A sc_law_due 1 rfl (by decide) (ea_cons (nmB A sc_law_due 0 rfl rfl rfl) (ea_cons (nmB A sc_law_due 1 rfl rfl rfl) ea_nil (.inl rfl) rfl) (.inr (.inl rfl)) rfl) (.inr (.inl rfl)) (.inr (.inl rfl)) rfl rfl ⟨a_crew, a_case, r_9, rfl, hr_9, rfl, rfl⟩) (congrArg (fun x : (List Int) => (D.tup (List.map D.int x))) (Option.some.inj hafter_10))) .cln rfl ?_
  show SS X [some (.bor (D.lst (List.map D.str a_crew))), some (.bor (D.tup [(D.lst (List.map D.int a_case.1)), (D.lst (List.map D.str a_case.2.1)), (D.lst (List.map D.str a_case.2.2.1)), (D.lst (List.map D.str a_case.2.2.2.1)), (D.str a_case.2.2.2.2.1), (D.int a_case.2.2.2.2.2.1), (D.lst (List.map D.str a_case.2.2.2.2.2.2.1)), (enO D.int a_case.2.2.2.2.2.2.2)])), some (.bor (D.lst (List.map D.int p_1.1))), some (.bor (D.lst (List.map D.str p_1.2.1))), some (.bor (D.lst (List.map D.str p_1.2.2.1))), some (.bor (D.lst (List.map D.str p_1.2.2.2.1))), some (.frz (D.str p_1.2.2.2.2.1)), some (.frz (D.int p_1.2.2.2.2.2.1)), some (.bor (D.lst (List.map D.str p_1.2.2.2.2.2.2.1))), some (slot2 .b (enO D.int p_1.2.2.2.2.2.2.2)), some (.own (D.lst (List.map (fun x : D => x) s_5))), none, none, some (.frz (D.tup (List.map D.int after_10)))] _ _
  obtain ⟨r_11, hr_11, H⟩ := bindO H
  obtain ⟨xs_12, hxs_12, H⟩ := bindO H
  obtain ⟨due_13, hdue_13, H⟩ := bindO H
  refine set_ A sc_law_due 10 rfl rfl (Ev.cv (catL_ (f := (fun x : D => x)) (nmO A sc_law_due 10 rfl rfl rfl) (Ev.cv (ev_list (ea_consH (nmF A sc_law_due 13 rfl rfl rfl) (ea_consH (nmF A sc_law_due 13 rfl rfl rfl) (ea_consH (Cal.ev C_law_over A sc_law_due 2 rfl (by decide) (ea_cons (nmB A sc_law_due 0 rfl rfl rfl) (ea_cons (nmB A sc_law_due 2 rfl rfl rfl) (ea_cons (nmB A sc_law_due 8 rfl rfl rfl) (ea_consH (Ev.scO (nm2 A sc_law_due 9 rfl rfl rfl) (fun _ => rfl)) ea_nil (.inl rfl) rfl) (.inl rfl) rfl) (.inr (.inl rfl)) rfl) (.inr (.inl rfl)) rfl) (.inr (.inl rfl)) (.inr (.inl rfl)) rfl rfl ⟨a_crew, p_1.1, p_1.2.2.2.2.2.2.1, p_1.2.2.2.2.2.2.2, r_11, rfl, hr_11, rfl, rfl⟩) ea_nil (.inl rfl) rfl) (.inl rfl) rfl) (.inl rfl) rfl) (.inl rfl) (le_line rfl)) rfl) hxs_12) (congrArg (fun x : (List D) => (D.lst (List.map (fun x : D => x) x))) (Option.some.inj hdue_13))) .own rfl ?_
  show SS X [some (.bor (D.lst (List.map D.str a_crew))), some (.bor (D.tup [(D.lst (List.map D.int a_case.1)), (D.lst (List.map D.str a_case.2.1)), (D.lst (List.map D.str a_case.2.2.1)), (D.lst (List.map D.str a_case.2.2.2.1)), (D.str a_case.2.2.2.2.1), (D.int a_case.2.2.2.2.2.1), (D.lst (List.map D.str a_case.2.2.2.2.2.2.1)), (enO D.int a_case.2.2.2.2.2.2.2)])), some (.bor (D.lst (List.map D.int p_1.1))), some (.bor (D.lst (List.map D.str p_1.2.1))), some (.bor (D.lst (List.map D.str p_1.2.2.1))), some (.bor (D.lst (List.map D.str p_1.2.2.2.1))), some (.frz (D.str p_1.2.2.2.2.1)), some (.frz (D.int p_1.2.2.2.2.2.1)), some (.bor (D.lst (List.map D.str p_1.2.2.2.2.2.2.1))), some (slot2 .b (enO D.int p_1.2.2.2.2.2.2.2)), some (.own (D.lst (List.map (fun x : D => x) due_13))), none, none, some (.frz (D.tup (List.map D.int after_10)))] _ _
  obtain ⟨r_14, hr_14, H⟩ := bindO H
  obtain ⟨r_15, hr_15, H⟩ := bindO H
  obtain ⟨xs_16, hxs_16, H⟩ := bindO H
  exact ss_ret (catL_ (f := (fun x : D => x)) (nmO A sc_law_due 10 rfl rfl rfl) (Ev.cv (Ev.cv (ev_list (ea_cons (Cal.ev C_law_longest A sc_law_due 3 rfl (by decide) (ea_cons (nmB A sc_law_due 0 rfl rfl rfl) (ea_cons (nmB A sc_law_due 2 rfl rfl rfl) (ea_cons (nmB A sc_law_due 3 rfl rfl rfl) ea_nil (.inl rfl) rfl) (.inr (.inl rfl)) rfl) (.inr (.inl rfl)) rfl) (.inr (.inl rfl)) (.inr (.inl rfl)) rfl rfl ⟨a_crew, p_1.1, p_1.2.1, r_14, rfl, hr_14, rfl, rfl⟩) (ea_cons (Cal.ev C_law_longest A sc_law_due 3 rfl (by decide) (ea_cons (nmB A sc_law_due 0 rfl rfl rfl) (ea_cons (nmB A sc_law_due 2 rfl rfl rfl) (ea_cons (nmB A sc_law_due 4 rfl rfl rfl) ea_nil (.inl rfl) rfl) (.inr (.inl rfl)) rfl) (.inr (.inl rfl)) rfl) (.inr (.inl rfl)) (.inr (.inl rfl)) rfl rfl ⟨a_crew, p_1.1, p_1.2.2.1, r_15, rfl, hr_15, rfl, rfl⟩) ea_nil (.inl rfl) rfl) (.inl rfl) rfl) (.inl rfl) (le_line rfl)) rfl) (congrArg D.lst (List.map_id _).symm)) hxs_16) (⟨(congrArg (fun x : (List D) => (D.lst (List.map (fun x : D => x) x))) (Option.some.inj H)), .refl⟩)
def m_law_integer (a_got : D) : Option Bool :=
  ((isiG "int" a_got).bind fun q_1 => ((if q_1 = true then ((isiG "bool" a_got).bind fun q_2 => some (!q_2)) else some false).bind fun q_3 => some q_3))
def R_law_integer : Rel := fun ds d k => ∃ (a_got : D) (r : Bool), ds = [a_got] ∧ m_law_integer a_got = some r ∧ d = D.bl r ∧ k = .cln
abbrev N_law_integer : List Str := ["got"]
theorem fs_law_integer : FnScope N_law_integer ["got"] (defScope s_law_integer) := ⟨rfl, rfl, rfl, by decide +kernel, rfl, by decide +kernel, by decide +kernel⟩
theorem sc_law_integer : Sc N_law_integer (defScope s_law_integer) [0] [] ["isinstance", "int", "bool"] := ⟨fs_law_integer.nd, by decide +kernel⟩
theorem b_law_integer {X : Cx} {Γ : Gd} (A : At X Γ N_law_integer (defScope s_law_integer) 0) (g_bool : Γ.mg "bool" = none) (g_int : Γ.mg "int" = none) (g_isinstance : Γ.mg "isinstance" = none) {ds : List D} {d : D} {k : Kd} (hR : R_law_integer ds d k) :
    SS X (env0 1 ds) (defBody s_law_integer) { rt := fun d' k' => d' = d ∧ Fits k' k d, nx := fun _ => d = .non ∧ k = .cln } := by
  obtain ⟨a_got, r, rfl, H, rfl, rfl⟩ := hR
  unfold m_law_integer at H
  obtain ⟨q_1, hq_1, H⟩ := bindO H
  obtain ⟨q_3, hq_3, H⟩ := bindO H
  exact ss_ret (ev_andM (isiG_ (bn A sc_law_integer 0 rfl g_isinstance bt_isinstance) (nm2 A sc_law_integer 0 rfl rfl rfl) (bn A sc_law_integer 1 rfl g_int bt_int) rfl rfl hq_1) hq_3 fun H => by obtain ⟨q_2, hq_2, H⟩ := bindO H; obtain rfl := Option.some.inj H; exact (ev_one (ev_not (isiG_ (bn A sc_law_integer 0 rfl g_isinstance bt_isinstance) (nm2 A sc_law_integer 0 rfl rfl rfl) (bn A sc_law_integer 2 rfl g_bool bt_bool) rfl rfl hq_2)))) (⟨(congrArg D.bl (Option.some.inj H)), .bl⟩)
def m_law_same : Nat → D → D → Option Bool
  | 0, _, _ => none
  | n + 1, a_got, a_wanted =>
  (if (D.isN a_wanted) = true then some (D.isN a_got) else (if (D.isT true a_wanted) = true then some (D.isT true a_got) else (if (D.isT false a_wanted) = true then some (D.isT false a_got) else ((isiG "int" a_wanted).bind fun q_1 => (if q_1 = true then ((m_law_integer a_got).bind fun r_2 => ((if r_2 = true then ((eqG a_got a_wanted).bind fun q_3 => some q_3) else some false).bind fun q_4 => some q_4)) else ((isiG "str" a_wanted).bind fun q_5 => (if q_5 = true then ((isiG "str" a_got).bind fun q_6 => ((if q_6 = true then ((eqG a_got a_wanted).bind fun q_7 => some q_7) else some false).bind fun q_8 => some q_8)) else ((isiG "tuple" a_wanted).bind fun q_9 => ((if q_9 = true then ((isiG "tuple" a_got).bind fun q_10 => some (!q_10)) else some false).bind fun q_11 => (if q_11 = true then some false else ((isiG "list" a_wanted).bind fun q_12 => ((if q_12 = true then ((isiG "list" a_got).bind fun q_13 => some (!q_13)) else some false).bind fun q_14 => (if q_14 = true then some false else ((lenDG a_got).bind fun n_15 => ((lenDG a_wanted).bind fun n_16 => (if (!decide (n_15 = n_16)) = true then some false else ((lenDG a_wanted).bind fun n_17 => ((rng1G n_17).bind fun r_18 => ((loopM (fun (s_19 : Unit) (z_20 : Int) => (((idxDG a_got z_20).bind fun x_22 => ((idxDG a_wanted z_20).bind fun x_23 => ((m_law_same n x_22 x_23).bind fun r_24 => (if (!r_24) = true then some (Ctl.ret false) else some (Ctl.nx ()))))) : Option (Ctl Unit Bool))) () r_18).bind fun s_21 => match s_21 with | .nx s_211 => some true | .ret r_25 => some r_25 | .brk _ => none)))))))))))))))))))
def R_law_same (n : Nat) : Rel := fun ds d k => ∃ (a_got : D) (a_wanted : D) (r : Bool), ds = [a_got, a_wanted] ∧ m_law_same n a_got a_wanted = some r ∧ d = D.bl r ∧ k = .cln
abbrev N_law_same : List Str := ["got", "wanted", "k"]
theorem fs_law_same : FnScope N_law_same ["got", "wanted"] (defScope s_law_same) := ⟨rfl, rfl, rfl, by decide +kernel, rfl, by decide +kernel, by decide +kernel⟩
theorem sc_law_same : Sc N_law_same (defScope s_law_same) [0, 1, 2] [2] ["isinstance", "int", "_law_integer", "str", "tuple", "list", "len", "range", "_law_same"] := ⟨fs_law_same.nd, by decide +kernel⟩
theorem b_law_same {X : Cx} {Γ : Gd} {n : Nat} (A : At X Γ N_law_same (defScope s_law_same) (2 + n)) (g_int : Γ.mg "int" = none) (g_isinstance : Γ.mg "isinstance" = none) (g_len : Γ.mg "len" = none) (g_list : Γ.mg "list" = none) (g_range : Γ.mg "range" = none) (g_str : Γ.mg "str" = none) (g_tuple : Γ.mg "tuple" = none) (C_law_integer : Cal Γ "_law_integer" R_law_integer 1 []) (C_law_same : Cal Γ "_law_same" (R_law_same n) (2 + n) []) {ds : List D} {d : D} {k : Kd} (hR : R_law_same (n + 1) ds d k) :
    SS X (env0 3 ds) (defBody s_law_same) { rt := fun d' k' => d' = d ∧ Fits k' k d, nx := fun _ => d = .non ∧ k = .cln } := by
  obtain ⟨a_got, a_wanted, r, rfl, H, rfl, rfl⟩ := hR
  unfold m_law_same at H
  refine ss_if (et_isN (nm2 A sc_law_same 1 rfl rfl rfl) rfl) (fun hc => ?_) (fun hc => ?_)
  · replace H := ifT H hc
    exact ss_ret (ev_isN (nm2 A sc_law_same 0 rfl rfl rfl) rfl) (⟨(congrArg D.bl (Option.some.inj H)), .bl⟩)
  · replace H := ifF H hc
    refine ss_nil ?_
    show SS X _ _ _
    refine ss_if (et_isT (nm2 A sc_law_same 1 rfl rfl rfl) rfl) (fun hc => ?_) (fun hc => ?_)
    · replace H := ifT H hc
      exact ss_ret (ev_isT (nm2 A sc_law_same 0 rfl rfl rfl) rfl) (⟨(congrArg D.bl (Option.some.inj H)), .bl⟩)
    · replace H := ifF H hc
      refine ss_nil ?_
      show SS X _ _ _
      refine ss_if (et_isT (nm2 A sc_law_same 1 rfl rfl rfl) rfl) (fun hc => ?_) (fun hc => ?_)
      · replace H := ifT H hc
        exact ss_ret (ev_isT (nm2 A sc_law_same 0 rfl rfl rfl) rfl) (⟨(congrArg D.bl (Option.some.inj H)), .bl⟩)
      · replace H := ifF H hc
        refine ss_nil ?_
        show SS X _ _ _
        obtain ⟨q_1, hq_1, H⟩ := bindO H
        refine ss_if (Ev.et (isiG_ (bn A sc_law_same 0 rfl g_isinstance bt_isinstance) (nm2 A sc_law_same 1 rfl rfl rfl) (bn A sc_law_same 1 rfl g_int bt_int) rfl rfl hq_1) fun _ => rfl) (fun hc => ?_) (fun hc => ?_)
        · replace H := ifT H hc
          obtain ⟨r_2, hr_2, H⟩ := bindO H
          obtain ⟨q_4, hq_4, H⟩ := bindO H
          exact ss_ret (ev_andM (Cal.ev C_law_integer A sc_law_same 2 rfl (by omega) (ea_consH (nm2 A sc_law_same 0 rfl rfl rfl) ea_nil (.inl rfl) rfl) (.inr (.inl rfl)) (.inr (.inl rfl)) rfl rfl ⟨a_got, r_2, rfl, hr_2, rfl, rfl⟩) hq_4 fun H => by obtain ⟨q_3, hq_3, H⟩ := bindO H; obtain rfl := Option.some.inj H; exact (ev_one (ev_eqG A.room.units (nm2 A sc_law_same 0 rfl rfl rfl) (nm2 A sc_law_same 1 rfl rfl rfl) hq_3))) (⟨(congrArg D.bl (Option.some.inj H)), .bl⟩)
        · replace H := ifF H hc
          refine ss_nil ?_
          show SS X _ _ _
          obtain ⟨q_5, hq_5, H⟩ := bindO H
          refine ss_if (Ev.et (isiG_ (bn A sc_law_same 0 rfl g_isinstance bt_isinstance) (nm2 A sc_law_same 1 rfl rfl rfl) (bn A sc_law_same 3 rfl g_str bt_str) rfl rfl hq_5) fun _ => rfl) (fun hc => ?_) (fun hc => ?_)
          · replace H := ifT H hc
            obtain ⟨q_6, hq_6, H⟩ := bindO H
            obtain ⟨q_8, hq_8, H⟩ := bindO H
            exact ss_ret (ev_andM (isiG_ (bn A sc_law_same 0 rfl g_isinstance bt_isinstance) (nm2 A sc_law_same 0 rfl rfl rfl) (bn A sc_law_same 3 rfl g_str bt_str) rfl rfl hq_6) hq_8 fun H => by obtain ⟨q_7, hq_7, H⟩ := bindO H; obtain rfl := Option.some.inj H; exact (ev_one (ev_eqG A.room.units (nm2 A sc_law_same 0 rfl rfl rfl) (nm2 A sc_law_same 1 rfl rfl rfl) hq_7))) (⟨(congrArg D.bl (Option.some.inj H)), .bl⟩)
          · replace H := ifF H hc
            refine ss_nil ?_
            show SS X _ _ _
            obtain ⟨q_9, hq_9, H⟩ := bindO H
            obtain ⟨q_11, hq_11, H⟩ := bindO H
            refine ss_if (Ew.et (ew_andM (Ev.et (isiG_ (bn A sc_law_same 0 rfl g_isinstance bt_isinstance) (nm2 A sc_law_same 1 rfl rfl rfl) (bn A sc_law_same 4 rfl g_tuple bt_tuple) rfl rfl hq_9) fun _ => rfl) hq_11 fun H => by obtain ⟨q_10, hq_10, H⟩ := bindO H; obtain rfl := Option.some.inj H; exact (ew_and1 (et_not (Ev.et (isiG_ (bn A sc_law_same 0 rfl g_isinstance bt_isinstance) (nm2 A sc_law_same 0 rfl rfl rfl) (bn A sc_law_same 4 rfl g_tuple bt_tuple) rfl rfl hq_10) fun _ => rfl))))) (fun hc => ?_) (fun hc => ?_)
            · replace H := ifT H hc
              exact ss_ret ev_bl (⟨(congrArg D.bl (Option.some.inj H)), .bl⟩)
            · replace H := ifF H hc
              refine ss_nil ?_
              show SS X _ _ _
              obtain ⟨q_12, hq_12, H⟩ := bindO H
              obtain ⟨q_14, hq_14, H⟩ := bindO H
              refine ss_if (Ew.et (ew_andM (Ev.et (isiG_ (bn A sc_law_same 0 rfl g_isinstance bt_isinstance) (nm2 A sc_law_same 1 rfl rfl rfl) (bn A sc_law_same 5 rfl g_list bt_list) rfl rfl hq_12) fun _ => rfl) hq_14 fun H => by obtain ⟨q_13, hq_13, H⟩ := bindO H; obtain rfl := Option.some.inj H; exact (ew_and1 (et_not (Ev.et (isiG_ (bn A sc_law_same 0 rfl g_isinstance bt_isinstance) (nm2 A sc_law_same 0 rfl rfl rfl) (bn A sc_law_same 5 rfl g_list bt_list) rfl rfl hq_13) fun _ => rfl))))) (fun hc => ?_) (fun hc => ?_)
              · replace H := ifT H hc
                exact ss_ret ev_bl (⟨(congrArg D.bl (Option.some.inj H)), .bl⟩)
              · replace H := ifF H hc
                refine ss_nil ?_
                show SS X _ _ _
                obtain ⟨n_15, hn_15, H⟩ := bindO H
                obtain ⟨n_16, hn_16, H⟩ := bindO H
                refine ss_if (et_cI (lenD_ (bn A sc_law_same 6 rfl g_len bt_len) (nm2 A sc_law_same 0 rfl rfl rfl) hn_15 rfl) (lenD_ (bn A sc_law_same 6 rfl g_len bt_len) (nm2 A sc_law_same 1 rfl rfl rfl) hn_16 rfl) .ne) (fun hc => ?_) (fun hc => ?_)
                · replace H := ifT H hc
                  exact ss_ret ev_bl (⟨(congrArg D.bl (Option.some.inj H)), .bl⟩)
                · replace H := ifF H hc
                  refine ss_nil ?_
                  show SS X _ _ _
                  obtain ⟨n_17, hn_17, H⟩ := bindO H
                  obtain ⟨r_18, hr_18, H⟩ := bindO H
                  obtain ⟨s_21, hs_21, H⟩ := bindO H
                  refine forR_ (en := D.int) (fun s_19 : Unit => [some (slot2 .b a_got), some (slot2 .b a_wanted), none]) (fun r d k => d = D.bl r ∧ Fits k .cln (D.bl r)) A (rng1_ (glo A sc_law_same 7 rfl) (by rw [A.eM]; exact g_range) (lenD_ (bn A sc_law_same 6 rfl g_len bt_len) (nm2 A sc_law_same 1 rfl rfl rfl) hn_17 rfl) hr_18 rfl) (tg A sc_law_same 2 rfl rfl) (fun _ => rfl) hs_21 ?_ ?_ ?_ ?_
                  · exact (wkr (wkr (wkn wk0)))
                  · intro s_19 z_20 c' hx H
                    refine ⟨_, rfl, ?_⟩
                    obtain ⟨x_22, hx_22, H⟩ := bindO H
                    obtain ⟨x_23, hx_23, H⟩ := bindO H
                    obtain ⟨r_24, hr_24, H⟩ := bindO H
                    refine ss_if (et_not (Ev.et (Cal.ev C_law_same A sc_law_same 8 rfl (by omega) (ea_consH (ixD_ (nm2 A sc_law_same 0 rfl rfl rfl) (nmF A sc_law_same 2 rfl rfl rfl) hx_22 (fun _ _ => rfl)) (ea_consH (ixD_ (nm2 A sc_law_same 1 rfl rfl rfl) (nmF A sc_law_same 2 rfl rfl rfl) hx_23 (fun _ _ => rfl)) ea_nil (.inl rfl) rfl) (.inr (.inl rfl)) rfl) (.inr (.inl rfl)) (.inr (.inl rfl)) rfl rfl ⟨x_22, x_23, r_24, rfl, hr_24, rfl, rfl⟩) fun _ => rfl)) (fun hc => ?_) (fun hc => ?_)
                    · replace H := ifT H hc
                      exact ss_ret ev_bl (⟨_, (Option.some.inj H).symm, rfl, .bl⟩)
                    · replace H := ifF H hc
                      refine ss_nil ?_
                      show SS X _ _ _
                      obtain rfl := Option.some.inj H
                      refine ss_nil ⟨_, rfl, ?_⟩
                      exact (wkr (wkr (wkn wk0)))
                  · intro r_25 d k e ⟨hd, hf⟩
                    subst e
                    subst hd
                    exact ⟨(congrArg D.bl (Option.some.inj H)), (Option.some.inj H) ▸ hf⟩
                  · intro s_211 e
                    subst e
                    exact ss_ret ev_bl (⟨(congrArg D.bl (Option.some.inj H)), .bl⟩)
def m_law_by_name (a_crew : (List Str)) (a_case : ((List Int) × (List Str) × (List Str) × (List Str) × Str × Int × (List Str) × (Option Int))) : Option (List D) :=
  ((some a_case).bind fun p_1 => ((m_passed_over p_1.2.1 p_1.2.2.2.1 p_1.2.2.2.2.1).bind fun r_2 => ((some (List.map (fun x : (List Str) => (D.tup (List.map D.str x))) [r_2])).bind fun told_3 => ((m_passed_over p_1.2.2.1 p_1.2.2.2.1 p_1.2.2.2.2.1).bind fun r_4 => ((appG told_3 (D.tup (List.map D.str r_4))).bind fun told_5 => ((m_next_passes a_crew p_1.1 p_1.2.1 p_1.2.2.2.1 p_1.2.2.2.2.1 p_1.2.2.2.2.2.1).bind fun r_6 => ((appG told_5 (D.tup (List.map D.int r_6))).bind fun told_7 => ((m_next_passes a_crew p_1.1 p_1.2.2.1 p_1.2.2.2.1 p_1.2.2.2.2.1 p_1.2.2.2.2.2.1).bind fun r_8 => ((appG told_7 (D.tup (List.map D.int r_8))).bind fun told_9 => ((m_first_over a_crew p_1.1 p_1.2.2.2.2.2.2.1 p_1.2.2.2.2.2.2.2).bind fun r_10 => ((appG told_9 (enO D.str r_10)).bind fun told_11 => ((m_longest a_crew p_1.1 p_1.2.1).bind fun r_12 => ((appG told_11 (D.str r_12)).bind fun told_13 => ((m_longest a_crew p_1.1 p_1.2.2.1).bind fun r_14 => ((appG told_13 (D.str r_14)).bind fun told_15 => some told_15)))))))))))))))
def R_law_by_name : Rel := fun ds d k => ∃ (a_crew : (List Str)) (a_case : ((List Int) × (List Str) × (List Str) × (List Str) × Str × Int × (List Str) × (Option Int))) (r : (List D)), ds = [(D.lst (List.map D.str a_crew)), (D.tup [(D.lst (List.map D.int a_case.1)), (D.lst (List.map D.str a_case.2.1)), (D.lst (List.map D.str a_case.2.2.1)), (D.lst (List.map D.str a_case.2.2.2.1)), (D.str a_case.2.2.2.2.1), (D.int a_case.2.2.2.2.2.1), (D.lst (List.map D.str a_case.2.2.2.2.2.2.1)), (enO D.int a_case.2.2.2.2.2.2.2)])] ∧ m_law_by_name a_crew a_case = some r ∧ d = (fun x : (List D) => (D.lst (List.map (fun x : D => x) x))) r ∧ k = .own
abbrev N_law_by_name : List Str := ["crew", "case", "loads", "wishes", "turned", "having", "late", "crest", "listed", "cap", "told"]
theorem fs_law_by_name : FnScope N_law_by_name ["crew", "case"] (defScope s_law_by_name) := ⟨rfl, rfl, rfl, by decide +kernel, rfl, by decide +kernel, by decide +kernel⟩
theorem sc_law_by_name : Sc N_law_by_name (defScope s_law_by_name) [0, 1, 2, 3, 4, 5, 6, 7, 8, 9, 10] [2, 3, 4, 5, 6, 7, 8, 9, 10] ["tuple", "passed_over", "next_passes", "first_over", "longest"] := ⟨fs_law_by_name.nd, by decide +kernel⟩
theorem b_law_by_name {X : Cx} {Γ : Gd} (A : At X Γ N_law_by_name (defScope s_law_by_name) 2) (g_tuple : Γ.mg "tuple" = none) (C_first_over_k0_limit_passed_passes_members : CalK Γ "first_over" R_first_over 1 0 ["limit", "passed", "passes", "members"] (fun a b => pick a [] [] b [.k 3, .k 2, .k 1, .k 0])) (C_longest_k0_candidates_passes_members : CalK Γ "longest" R_longest 1 0 ["candidates", "passes", "members"] (fun a b => pick a [] [] b [.k 2, .k 1, .k 0])) (C_longest_k1_candidates_passes : CalK Γ "longest" R_longest 1 1 ["candidates", "passes"] (fun a b => pick a [] [] b [.p 0, .k 1, .k 0])) (C_next_passes_k0_most_keeper_takers_candidates_passes_members : CalK Γ "next_passes" R_next_passes 2 0 ["most", "keeper", "takers", "candidates", "passes", "members"] (fun a b => pick a [] [] b [.k 5, .k 4, .k 3, .k 2, .k 1, .k 0])) (C_next_passes_k2_takers_candidates_most_keeper : CalK Γ "next_passes" R_next_passes 2 2 ["takers", "candidates", "most", "keeper"] (fun a b => pick a [] [] b [.p 0, .p 1, .k 1, .k 0, .k 3, .k 2])) (C_passed_over_k0_keeper_takers_candidates : CalK Γ "passed_over" R_passed_over 1 0 ["keeper", "takers", "candidates"] (fun a b => pick a [] [] b [.k 2, .k 1, .k 0])) (C_passed_over_k1_keeper_takers : CalK Γ "passed_over" R_passed_over 1 1 ["keeper", "takers"] (fun a b => pick a [] [] b [.p 0, .k 1, .k 0])) {ds : List D} {d : D} {k : Kd} (hR : R_law_by_name ds d k) :
    SS X (env0 11 ds) (defBody s_law_by_name) { rt := fun d' k' => d' = d ∧ Fits k' k d, nx := fun _ => d = .non ∧ k = .cln } := by
  obtain ⟨a_crew, a_case, r, rfl, H, rfl, rfl⟩ := hR
  unfold m_law_by_name at H
  obtain ⟨p_1, hp_1, H⟩ := bindO H
  refine asg_ (kz := .b) (Ev.cv (nmB A sc_law_by_name 1 rfl rfl rfl) (congrArg (fun x : ((List Int) × (List Str) × (List Str) × (List Str) × Str × Int × (List Str) × (Option Int)) => (D.tup [(D.lst (List.map D.int x.1)), (D.lst (List.map D.str x.2.1)), (D.lst (List.map D.str x.2.2.1)), (D.lst (List.map D.str x.2.2.2.1)), (D.str x.2.2.2.2.1), (D.int x.2.2.2.2.2.1), (D.lst (List.map D.str x.2.2.2.2.2.2.1)), (enO D.int x.2.2.2.2.2.2.2)])) (Option.some.inj hp_1))) (tg_tp A.calm (tgs_cons (tg A sc_law_by_name 2 rfl rfl) (tgs_cons (tg A sc_law_by_name 3 rfl rfl) (tgs_cons (tg A sc_law_by_name 4 rfl rfl) (tgs_cons (tg A sc_law_by_name 5 rfl rfl) (tgs_cons (tg A sc_law_by_name 6 rfl rfl) (tgs_cons (tg A sc_law_by_name 7 rfl rfl) (tgs_cons (tg A sc_law_by_name 8 rfl rfl) (tgs_cons (tg A sc_law_by_name 9 rfl rfl) tgs_nil rfl) rfl) rfl) rfl) rfl) rfl) rfl) rfl) rfl rfl) rfl rfl rfl rfl ?_
  show SS X [some (.bor (D.lst (List.map D.str a_crew))), some (.bor (D.tup [(D.lst (List.map D.int a_case.1)), (D.lst (List.map D.str a_case.2.1)), (D.lst (List.map D.str a_case.2.2.1)), (D.lst (List.map D.str a_case.2.2.2.1)), (D.str a_case.2.2.2.2.1), (D.int a_case.2.2.2.2.2.1), (D.lst (List.map D.str a_case.2.2.2.2.2.2.1)), (enO D.int a_case.2.2.2.2.2.2.2)])), some (.bor (D.lst (List.map D.int p_1.1))), some (.bor (D.lst (List.map D.str p_1.2.1))), some (.bor (D.lst (List.map D.str p_1.2.2.1))), some (.bor (D.lst (List.map D.str p_1.2.2.2.1))), some (.frz (D.str p_1.2.2.2.2.1)), some (.frz (D.int p_1.2.2.2.2.2.1)), some (.bor (D.lst (List.map D.str p_1.2.2.2.2.2.2.1))), some (slot2 .b (enO D.int p_1.2.2.2.2.2.2.2)), none] _ _
  obtain ⟨r_2, hr_2, H⟩ := bindO H
  obtain ⟨told_3, htold_3, H⟩ := bindO H
  refine set_ A sc_law_by_name 10 rfl rfl (Ev.cv (Ev.cv (Ev.cv (ev_list (ea_cons (CalK.ev0 C_passed_over_k0_keeper_takers_candidates A sc_law_by_name 1 rfl (by decide) (ek_cons (nmF A sc_law_by_name 6 rfl rfl rfl) (ek_cons (tuple_ (bn A sc_law_by_name 0 rfl g_tuple bt_tuple) (Ev.shlI (nmB A sc_law_by_name 5 rfl rfl rfl) (imms_map (fun _ => rfl) _)) .lst rfl) (ek_cons (tuple_ (bn A sc_law_by_name 0 rfl g_tuple bt_tuple) (Ev.shlI (nmB A sc_law_by_name 3 rfl rfl rfl) (imms_map (fun _ => rfl) _)) .lst rfl) ek_nil (.inl rfl)) (.inl rfl)) (.inl rfl)) (.inl rfl) (.inr (.inl rfl)) rfl rfl rfl rfl ⟨p_1.2.1, p_1.2.2.2.1, p_1.2.2.2.2.1, r_2, rfl, hr_2, rfl, rfl⟩) ea_nil (.inl rfl) rfl) (.inl rfl) (le_line rfl)) rfl) (congrArg D.lst (List.map_id _).symm)) (congrArg (fun x : (List D) => (D.lst (List.map (fun x : D => x) x))) (Option.some.inj htold_3))) .own rfl ?_
  show SS X [some (.bor (D.lst (List.map D.str a_crew))), some (.bor (D.tup [(D.lst (List.map D.int a_case.1)), (D.lst (List.map D.str a_case.2.1)), (D.lst (List.map D.str a_case.2.2.1)), (D.lst (List.map D.str a_case.2.2.2.1)), (D.str a_case.2.2.2.2.1), (D.int a_case.2.2.2.2.2.1), (D.lst (List.map D.str a_case.2.2.2.2.2.2.1)), (enO D.int a_case.2.2.2.2.2.2.2)])), some (.bor (D.lst (List.map D.int p_1.1))), some (.bor (D.lst (List.map D.str p_1.2.1))), some (.bor (D.lst (List.map D.str p_1.2.2.1))), some (.bor (D.lst (List.map D.str p_1.2.2.2.1))), some (.frz (D.str p_1.2.2.2.2.1)), some (.frz (D.int p_1.2.2.2.2.2.1)), some (.bor (D.lst (List.map D.str p_1.2.2.2.2.2.2.1))), some (slot2 .b (enO D.int p_1.2.2.2.2.2.2.2)), some (.own (D.lst (List.map (fun x : D => x) told_3)))] _ _
  obtain ⟨r_4, hr_4, H⟩ := bindO H
  obtain ⟨told_5, htold_5, H⟩ := bindO H
  refine app_ (en := (fun x : D => x)) (x := (D.tup (List.map D.str r_4))) A sc_law_by_name 10 rfl rfl rfl (CalK.ev C_passed_over_k1_keeper_takers A sc_law_by_name 1 rfl (by decide) (ea_cons (tuple_ (bn A sc_law_by_name 0 rfl g_tuple bt_tuple) (Ev.shlI (nmB A sc_law_by_name 4 rfl rfl rfl) (imms_map (fun _ => rfl) _)) .lst rfl) ea_nil (.inl rfl) rfl) (.inl rfl) (ek_cons (nmF A sc_law_by_name 6 rfl rfl rfl) (ek_cons (tuple_ (bn A sc_law_by_name 0 rfl g_tuple bt_tuple) (Ev.shlI (nmB A sc_law_by_name 5 rfl rfl rfl) (imms_map (fun _ => rfl) _)) .lst rfl) ek_nil (.inl rfl)) (.inl rfl)) (.inl rfl) (.inr (.inl rfl)) rfl rfl rfl rfl rfl rfl ⟨p_1.2.2.1, p_1.2.2.2.1, p_1.2.2.2.2.1, r_4, rfl, hr_4, rfl, rfl⟩) (by first | rfl | exact heldOf_c) htold_5 ⟨rfl, rfl, rfl⟩ rfl rfl ?_
  show SS X [some (.bor (D.lst (List.map D.str a_crew))), some (.bor (D.tup [(D.lst (List.map D.int a_case.1)), (D.lst (List.map D.str a_case.2.1)), (D.lst (List.map D.str a_case.2.2.1)), (D.lst (List.map D.str a_case.2.2.2.1)), (D.str a_case.2.2.2.2.1), (D.int a_case.2.2.2.2.2.1), (D.lst (List.map D.str a_case.2.2.2.2.2.2.1)), (enO D.int a_case.2.2.2.2.2.2.2)])), some (.bor (D.lst (List.map D.int p_1.1))), some (.bor (D.lst (List.map D.str p_1.2.1))), some (.bor (D.lst (List.map D.str p_1.2.2.1))), some (.bor (D.lst (List.map D.str p_1.2.2.2.1))), some (.frz (D.str p_1.2.2.2.2.1)), some (.frz (D.int p_1.2.2.2.2.2.1)), some (.bor (D.lst (List.map D.str p_1.2.2.2.2.2.2.1))), some (slot2 .b (enO D.int p_1.2.2.2.2.2.2.2)), some (.own (D.lst (List.map (fun x : D => x) told_5)))] _ _
  obtain ⟨r_6, hr_6, H⟩ := bindO H
  obtain ⟨told_7, htold_7, H⟩ := bindO H
  refine app_ (en := (fun x : D => x)) (x := (D.tup (List.map D.int r_6))) A sc_law_by_name 10 rfl rfl rfl (CalK.ev0 C_next_passes_k0_most_keeper_takers_candidates_passes_members A sc_law_by_name 2 rfl (by decide) (ek_cons (nmF A sc_law_by_name 7 rfl rfl rfl) (ek_cons (nmF A sc_law_by_name 6 rfl rfl rfl) (ek_cons (tuple_ (bn A sc_law_by_name 0 rfl g_tuple bt_tuple) (Ev.shlI (nmB A sc_law_by_name 5 rfl rfl rfl) (imms_map (fun _ => rfl) _)) .lst rfl) (ek_cons (tuple_ (bn A sc_law_by_name 0 rfl g_tuple bt_tuple) (Ev.shlI (nmB A sc_law_by_name 3 rfl rfl rfl) (imms_map (fun _ => rfl) _)) .lst rfl) (ek_cons (tuple_ (bn A sc_law_by_name 0 rfl g_tuple bt_tuple) (Ev.shlI (nmB A sc_law_by_name 2 rfl rfl rfl) (imms_map (fun _ => rfl) _)) .lst rfl) (ek_cons (tuple_ (bn A sc_law_by_name 0 rfl g_tuple bt_tuple) (Ev.shlI (nmB A sc_law_by_name 0 rfl rfl rfl) (imms_map (fun _ => rfl) _)) .lst rfl) ek_nil (.inl rfl)) (.inl rfl)) (.inl rfl)) (.inl rfl)) (.inl rfl)) (.inl rfl)) (.inl rfl) (.inr (.inl rfl)) rfl rfl rfl rfl ⟨a_crew, p_1.1, p_1.2.1, p_1.2.2.2.1, p_1.2.2.2.2.1, p_1.2.2.2.2.2.1, r_6, rfl, hr_6, rfl, rfl⟩) (by first | rfl | exact heldOf_c) htold_7 ⟨rfl, rfl, rfl⟩ rfl rfl ?_
  show SS X [some (.bor (D.lst (List.map D.str a_crew))), some (.bor (D.tup [(D.lst (List.map D.int a_case.1)), (D.lst (List.map D.str a_case.2.1)), (D.lst (List.map D.str a_case.2.2.1)), (D.lst (List.map D.str a_case.2.2.2.1)), (D.str a_case.2.2.2.2.1), (D.int a_case.2.2.2.2.2.1), (D.lst (List.map D.str a_case.2.2.2.2.2.2.1)), (enO D.int a_case.2.2.2.2.2.2.2)])), some (.bor (D.lst (List.map D.int p_1.1))), some (.bor (D.lst (List.map D.str p_1.2.1))), some (.bor (D.lst (List.map D.str p_1.2.2.1))), some (.bor (D.lst (List.map D.str p_1.2.2.2.1))), some (.frz (D.str p_1.2.2.2.2.1)), some (.frz (D.int p_1.2.2.2.2.2.1)), some (.bor (D.lst (List.map D.str p_1.2.2.2.2.2.2.1))), some (slot2 .b (enO D.int p_1.2.2.2.2.2.2.2)), some (.own (D.lst (List.map (fun x : D => x) told_7)))] _ _
  obtain ⟨r_8, hr_8, H⟩ := bindO H
  obtain ⟨told_9, htold_9, H⟩ := bindO H
  refine app_ (en := (fun x : D => x)) (x := (D.tup (List.map D.int r_8))) A sc_law_by_name 10 rfl rfl rfl (CalK.ev C_next_passes_k2_takers_candidates_most_keeper A sc_law_by_name 2 rfl (by decide) (ea_cons (tuple_ (bn A sc_law_by_name 0 rfl g_tuple bt_tuple) (Ev.shlI (nmB A sc_law_by_name 0 rfl rfl rfl) (imms_map (fun _ => rfl) _)) .lst rfl) (ea_cons (tuple_ (bn A sc_law_by_name 0 rfl g_tuple bt_tuple) (Ev.shlI (nmB A sc_law_by_name 2 rfl rfl rfl) (imms_map (fun _ => rfl) _)) .lst rfl) ea_nil (.inl rfl) rfl) (.inl rfl) rfl) (.inl rfl) (ek_cons (tuple_ (bn A sc_law_by_name 0 rfl g_tuple bt_tuple) (Ev.shlI (nmB A sc_law_by_name 5 rfl rfl rfl) (imms_map (fun _ => rfl) _)) .lst rfl) (ek_cons (tuple_ (bn A sc_law_by_name 0 rfl g_tuple bt_tuple) (Ev.shlI (nmB A sc_law_by_name 4 rfl rfl rfl) (imms_map (fun _ => rfl) _)) .lst rfl) (ek_cons (nmF A sc_law_by_name 7 rfl rfl rfl) (ek_cons (nmF A sc_law_by_name 6 rfl rfl rfl) ek_nil (.inl rfl)) (.inl rfl)) (.inl rfl)) (.inl rfl)) (.inl rfl) (.inr (.inl rfl)) rfl rfl rfl rfl rfl rfl ⟨a_crew, p_1.1, p_1.2.2.1, p_1.2.2.2.1, p_1.2.2.2.2.1, p_1.2.2.2.2.2.1, r_8, rfl, hr_8, rfl, rfl⟩) (by first | rfl | exact heldOf_c) htold_9 ⟨rfl, rfl, rfl⟩ rfl rfl ?_
  show SS X [some (.bor (D.lst (List.map D.str a_crew))), some (.bor (D.tup [(D.lst (List.map D.int a_case.1)), (D.lst (List.map D.str a_case.2.1)), (D.lst (List.map D.str a_case.2.2.1)), (D.lst (List.map D.str a_case.2.2.2.1)), (D.str a_case.2.2.2.2.1), (D.int a_case.2.2.2.2.2.1), (D.lst (List.map D.str a_case.2.2.2.2.2.2.1)), (enO D.int a_case.2.2.2.2.2.2.2)])), some (.bor (D.lst (List.map D.int p_1.1))), some (.bor (D.lst (List.map D.str p_1.2.1))), some (.bor (D.lst (List.map D.str p_1.2.2.1))), some (.bor (D.lst (List.map D.str p_1.2.2.2.1))), some (.frz (D.str p_1.2.2.2.2.1)), some (.frz (D.int p_1.2.2.2.2.2.1)), some (.bor (D.lst (List.map D.str p_1.2.2.2.2.2.2.1))), some (slot2 .b (enO D.int p_1.2.2.2.2.2.2.2)), some (.own (D.lst (List.map (fun x : D => x) told_9)))] _ _
  obtain ⟨r_10, hr_10, H⟩ := bindO H
  obtain ⟨told_11, htold_11, H⟩ := bindO H
  refine app_ (en := (fun x : D => x)) (x := (enO D.str r_10)) A sc_law_by_name 10 rfl rfl rfl (CalK.ev0 C_first_over_k0_limit_passed_passes_members A sc_law_by_name 3 rfl (by decide) (ek_consH (Ev.scO (nm2 A sc_law_by_name 9 rfl rfl rfl) (fun _ => rfl)) (ek_cons (tuple_ (bn A sc_law_by_name 0 rfl g_tuple bt_tuple) (Ev.shlI (nmB A sc_law_by_name 8 rfl rfl rfl) (imms_map (fun _ => rfl) _)) .lst rfl) (ek_cons (tuple_ (bn A sc_law_by_name 0 rfl g_tuple bt_tuple) (Ev.shlI (nmB A sc_law_by_name 2 rfl rfl rfl) (imms_map (fun _ => rfl) _)) .lst rfl) (ek_cons (tuple_ (bn A sc_law_by_name 0 rfl g_tuple bt_tuple) (Ev.shlI (nmB A sc_law_by_name 0 rfl rfl rfl) (imms_map (fun _ => rfl) _)) .lst rfl) ek_nil (.inl rfl)) (.inl rfl)) (.inl rfl)) (.inl rfl)) (.inl rfl) (.inr (.inl rfl)) rfl rfl rfl rfl ⟨a_crew, p_1.1, p_1.2.2.2.2.2.2.1, p_1.2.2.2.2.2.2.2, r_10, rfl, hr_10, rfl, rfl⟩) (by first | rfl | exact heldOf_c) htold_11 ⟨rfl, rfl, rfl⟩ rfl rfl ?_
  show SS X [some (.bor (D.lst (List.map D.str a_crew))), some (.bor (D.tup [(D.lst (List.map D.int a_case.1)), (D.lst (List.map D.str a_case.2.1)), (D.lst (List.map D.str a_case.2.2.1)), (D.lst (List.map D.str a_case.2.2.2.1)), (D.str a_case.2.2.2.2.1), (D.int a_case.2.2.2.2.2.1), (D.lst (List.map D.str a_case.2.2.2.2.2.2.1)), (enO D.int a_case.2.2.2.2.2.2.2)])), some (.bor (D.lst (List.map D.int p_1.1))), some (.bor (D.lst (List.map D.str p_1.2.1))), some (.bor (D.lst (List.map D.str p_1.2.2.1))), some (.bor (D.lst (List.map D.str p_1.2.2.2.1))), some (.frz (D.str p_1.2.2.2.2.1)), some (.frz (D.int p_1.2.2.2.2.2.1)), some (.bor (D.lst (List.map D.str p_1.2.2.2.2.2.2.1))), some (slot2 .b (enO D.int p_1.2.2.2.2.2.2.2)), some (.own (D.lst (List.map (fun x : D => x) told_11)))] _ _
  obtain ⟨r_12, hr_12, H⟩ := bindO H
  obtain ⟨told_13, htold_13, H⟩ := bindO H
  refine app_ (en := (fun x : D => x)) (x := (D.str r_12)) A sc_law_by_name 10 rfl rfl rfl (CalK.ev0 C_longest_k0_candidates_passes_members A sc_law_by_name 4 rfl (by decide) (ek_cons (tuple_ (bn A sc_law_by_name 0 rfl g_tuple bt_tuple) (Ev.shlI (nmB A sc_law_by_name 3 rfl rfl rfl) (imms_map (fun _ => rfl) _)) .lst rfl) (ek_cons (tuple_ (bn A sc_law_by_name 0 rfl g_tuple bt_tuple) (Ev.shlI (nmB A sc_law_by_name 2 rfl rfl rfl) (imms_map (fun _ => rfl) _)) .lst rfl) (ek_cons (tuple_ (bn A sc_law_by_name 0 rfl g_tuple bt_tuple) (Ev.shlI (nmB A sc_law_by_name 0 rfl rfl rfl) (imms_map (fun _ => rfl) _)) .lst rfl) ek_nil (.inl rfl)) (.inl rfl)) (.inl rfl)) (.inl rfl) (.inr (.inl rfl)) rfl rfl rfl rfl ⟨a_crew, p_1.1, p_1.2.1, r_12, rfl, hr_12, rfl, rfl⟩) (by first | rfl | exact heldOf_c) htold_13 ⟨rfl, rfl, rfl⟩ rfl rfl ?_
  show SS X [some (.bor (D.lst (List.map D.str a_crew))), some (.bor (D.tup [(D.lst (List.map D.int a_case.1)), (D.lst (List.map D.str a_case.2.1)), (D.lst (List.map D.str a_case.2.2.1)), (D.lst (List.map D.str a_case.2.2.2.1)), (D.str a_case.2.2.2.2.1), (D.int a_case.2.2.2.2.2.1), (D.lst (List.map D.str a_case.2.2.2.2.2.2.1)), (enO D.int a_case.2.2.2.2.2.2.2)])), some (.bor (D.lst (List.map D.int p_1.1))), some (.bor (D.lst (List.map D.str p_1.2.1))), some (.bor (D.lst (List.map D.str p_1.2.2.1))), some (.bor (D.lst (List.map D.str p_1.2.2.2.1))), some (.frz (D.str p_1.2.2.2.2.1)), some (.frz (D.int p_1.2.2.2.2.2.1)), some (.bor (D.lst (List.map D.str p_1.2.2.2.2.2.2.1))), some (slot2 .b (enO D.int p_1.2.2.2.2.2.2.2)), some (.own (D.lst (List.map (fun x : D => x) told_13)))] _ _
  obtain ⟨r_14, hr_14, H⟩ := bindO H
  obtain ⟨told_15, htold_15, H⟩ := bindO H
  refine app_ (en := (fun x : D => x)) (x := (D.str r_14)) A sc_law_by_name 10 rfl rfl rfl (CalK.ev C_longest_k1_candidates_passes A sc_law_by_name 4 rfl (by decide) (ea_cons (tuple_ (bn A sc_law_by_name 0 rfl g_tuple bt_tuple) (Ev.shlI (nmB A sc_law_by_name 0 rfl rfl rfl) (imms_map (fun _ => rfl) _)) .lst rfl) ea_nil (.inl rfl) rfl) (.inl rfl) (ek_cons (tuple_ (bn A sc_law_by_name 0 rfl g_tuple bt_tuple) (Ev.shlI (nmB A sc_law_by_name 4 rfl rfl rfl) (imms_map (fun _ => rfl) _)) .lst rfl) (ek_cons (tuple_ (bn A sc_law_by_name 0 rfl g_tuple bt_tuple) (Ev.shlI (nmB A sc_law_by_name 2 rfl rfl rfl) (imms_map (fun _ => rfl) _)) .lst rfl) ek_nil (.inl rfl)) (.inl rfl)) (.inl rfl) (.inr (.inl rfl)) rfl rfl rfl rfl rfl rfl ⟨a_crew, p_1.1, p_1.2.2.1, r_14, rfl, hr_14, rfl, rfl⟩) (by first | rfl | exact heldOf_c) htold_15 ⟨rfl, rfl, rfl⟩ rfl rfl ?_
  show SS X [some (.bor (D.lst (List.map D.str a_crew))), some (.bor (D.tup [(D.lst (List.map D.int a_case.1)), (D.lst (List.map D.str a_case.2.1)), (D.lst (List.map D.str a_case.2.2.1)), (D.lst (List.map D.str a_case.2.2.2.1)), (D.str a_case.2.2.2.2.1), (D.int a_case.2.2.2.2.2.1), (D.lst (List.map D.str a_case.2.2.2.2.2.2.1)), (enO D.int a_case.2.2.2.2.2.2.2)])), some (.bor (D.lst (List.map D.int p_1.1))), some (.bor (D.lst (List.map D.str p_1.2.1))), some (.bor (D.lst (List.map D.str p_1.2.2.1))), some (.bor (D.lst (List.map D.str p_1.2.2.2.1))), some (.frz (D.str p_1.2.2.2.2.1)), some (.frz (D.int p_1.2.2.2.2.2.1)), some (.bor (D.lst (List.map D.str p_1.2.2.2.2.2.2.1))), some (slot2 .b (enO D.int p_1.2.2.2.2.2.2.2)), some (.own (D.lst (List.map (fun x : D => x) told_15)))] _ _
  exact retO A sc_law_by_name 10 rfl rfl rfl (⟨(congrArg (fun x : (List D) => (D.lst (List.map (fun x : D => x) x))) (Option.some.inj H)), .refl⟩)
def m_law_one_half (a_script : (List Int)) : Option Bool :=
  ((m_law_cell a_script (0 : Int)).bind fun r_1 => ((m_law_pool r_1 (6 : Int)).bind fun r_2 => ((some r_2).bind fun head_3 => ((m_law_part head_3 (5 : Int) (1 : Int) (4 : Int)).bind fun r_4 => ((m_law_names head_3 (0 : Int) ((1 : Int) + r_4)).bind fun r_5 => ((some r_5).bind fun crew_6 => ((rng1G (3 : Int)).bind fun r_7 => ((lcG r_7).bind fun ys_8 => ((lcM (fun z_9 : Int => some true) (fun z_9 : Int => ((m_law_cell a_script ((1 : Int) + z_9)).bind fun r_10 => ((m_law_pool r_10 (7 : Int)).bind fun r_11 => ((m_law_case r_11 crew_6).bind fun r_12 => some r_12)))) ys_8).bind fun zs_13 => ((some zs_13).bind fun cases_14 => ((loopM (fun (s_15 : Unit) (z_16 : ((List Int) × (List Str) × (List Str) × (List Str) × Str × Int × (List Str) × (Option Int))) => (((m_law_by_place crew_6 z_16).bind fun r_18 => ((m_law_due crew_6 z_16).bind fun r_19 => ((m_law_same 8 (D.lst (List.map (fun x : D => x) r_18)) (D.lst (List.map (fun x : D => x) r_19))).bind fun r_20 => (if (!r_20) = true then some (Ctl.ret false) else some (Ctl.nx ()))))) : Option (Ctl Unit Bool))) () cases_14).bind fun s_17 => match s_17 with | .nx s_171 => ((loopM (fun (s_21 : Unit) (z_22 : ((List Int) × (List Str) × (List Str) × (List Str) × Str × Int × (List Str) × (Option Int))) => (((m_law_by_name crew_6 z_22).bind fun r_24 => ((m_law_due crew_6 z_22).bind fun r_25 => ((m_law_same 8 (D.lst (List.map (fun x : D => x) r_24)) (D.lst (List.map (fun x : D => x) r_25))).bind fun r_26 => (if (!r_26) = true then some (Ctl.ret false) else some (Ctl.nx ()))))) : Option (Ctl Unit Bool))) () cases_14).bind fun s_23 => match s_23 with | .nx s_231 => some true | .ret r_27 => some r_27 | .brk _ => none) | .ret r_28 => some r_28 | .brk _ => none)))))))))))
def R_law_one_half : Rel := fun ds d k => ∃ (a_script : (List Int)) (r : Bool), ds = [(D.scr a_script)] ∧ m_law_one_half a_script = some r ∧ d = D.bl r ∧ k = .cln
abbrev N_law_one_half : List Str := ["script", "head", "crew", "cases", "k", "case"]
theorem fs_law_one_half : FnScope N_law_one_half ["script"] (defScope s_law_one_half) := ⟨rfl, rfl, rfl, by decide +kernel, rfl, by decide +kernel, by decide +kernel⟩
theorem sc_law_one_half : Sc N_law_one_half (defScope s_law_one_half) [0, 1, 2, 3, 5] [1, 2, 3, 5] ["_law_cell", "_law_pool", "_law_part", "_law_names", "range", "_law_by_place", "_law_due", "_law_same", "_law_by_name"] := ⟨fs_law_one_half.nd, by decide +kernel⟩
abbrev cs_law_one_half_c1 : Scope := compScope (s_law_one_half) [2, 1]
theorem sc_law_one_half_c1 : Sc N_law_one_half cs_law_one_half_c1 [0, 2, 4] [4] ["_law_cell", "_law_pool", "_law_case"] := ⟨fs_law_one_half.nd, by decide +kernel⟩
theorem b_law_one_half {X : Cx} {Γ : Gd} (A : At X Γ N_law_one_half (defScope s_law_one_half) 10) (g_range : Γ.mg "range" = none) (C_law_by_name : Cal Γ "_law_by_name" R_law_by_name 3 []) (C_law_by_place : Cal Γ "_law_by_place" R_law_by_place 3 []) (C_law_case : Cal Γ "_law_case" R_law_case 3 []) (C_law_cell : Cal Γ "_law_cell" R_law_cell 1 []) (C_law_due : Cal Γ "_law_due" R_law_due 2 []) (C_law_names : Cal Γ "_law_names" R_law_names 2 []) (C_law_part : Cal Γ "_law_part" R_law_part 1 []) (C_law_pool : Cal Γ "_law_pool" R_law_pool 2 []) (C_law_same : Cal Γ "_law_same" (R_law_same 8) (2 + 8) []) {ds : List D} {d : D} {k : Kd} (hR : R_law_one_half ds d k) :
    SS X (env0 6 ds) (defBody s_law_one_half) { rt := fun d' k' => d' = d ∧ Fits k' k d, nx := fun _ => d = .non ∧ k = .cln } := by
  obtain ⟨a_script, r, rfl, H, rfl, rfl⟩ := hR
  unfold m_law_one_half at H
  obtain ⟨r_1, hr_1, H⟩ := bindO H
  obtain ⟨r_2, hr_2, H⟩ := bindO H
  obtain ⟨head_3, hhead_3, H⟩ := bindO H
  refine set_ A sc_law_one_half 1 rfl rfl (Ev.cv (Cal.ev C_law_pool A sc_law_one_half 1 rfl (by decide) (ea_cons (Cal.ev C_law_cell A sc_law_one_half 0 rfl (by decide) (ea_cons (nmB A sc_law_one_half 0 rfl rfl rfl) (ea_cons ev_int ea_nil (.inl rfl) rfl) (.inl rfl) rfl) (.inr (.inl rfl)) (.inr (.inl rfl)) rfl rfl ⟨a_script, (0 : Int), r_1, rfl, hr_1, rfl, rfl⟩) (ea_cons ev_int ea_nil (.inl rfl) rfl) (.inl rfl) rfl) (.inl rfl) (.inl rfl) rfl rfl ⟨r_1, (6 : Int), r_2, rfl, hr_2, rfl, rfl⟩) (congrArg (fun x : (List Int) => (D.lst (List.map D.int x))) (Option.some.inj hhead_3))) .own rfl ?_
  show SS X [some (.bor (D.scr a_script)), some (.own (D.lst (List.map D.int head_3))), none, none, none, none] _ _
  obtain ⟨r_4, hr_4, H⟩ := bindO H
  obtain ⟨r_5, hr_5, H⟩ := bindO H
  obtain ⟨crew_6, hcrew_6, H⟩ := bindO H
  refine set_ A sc_law_one_half 2 rfl rfl (Ev.cv (Cal.ev C_law_names A sc_law_one_half 3 rfl (by decide) (ea_cons (nmO A sc_law_one_half 1 rfl rfl rfl) (ea_cons ev_int (ea_cons (ev_add ev_int (Cal.ev C_law_part A sc_law_one_half 2 rfl (by decide) (ea_cons (nmO A sc_law_one_half 1 rfl rfl rfl) (ea_cons ev_int (ea_cons ev_int (ea_cons ev_int ea_nil (.inl rfl) rfl) (.inl rfl) rfl) (.inl rfl) rfl) (.inl rfl) rfl) (.inr (.inr rfl)) (.inr (.inl rfl)) rfl rfl ⟨head_3, (5 : Int), (1 : Int), (4 : Int), r_4, rfl, hr_4, rfl, rfl⟩)) ea_nil (.inl rfl) rfl) (.inl rfl) rfl) (.inl rfl) rfl) (.inr (.inr rfl)) (.inl rfl) rfl rfl ⟨head_3, (0 : Int), ((1 : Int) + r_4), r_5, rfl, hr_5, rfl, rfl⟩) (congrArg (fun x : (List Str) => (D.lst (List.map D.str x))) (Option.some.inj hcrew_6))) .own rfl ?_
  show SS X [some (.bor (D.scr a_script)), some (.own (D.lst (List.map D.int head_3))), some (.own (D.lst (List.map D.str crew_6))), none, none, none] _ _
  obtain ⟨r_7, hr_7, H⟩ := bindO H
  obtain ⟨ys_8, hys_8, H⟩ := bindO H
  obtain ⟨zs_13, hzs_13, H⟩ := bindO H
  obtain ⟨cases_14, hcases_14, H⟩ := bindO H
  refine setLc_ A sc_law_one_half 3 rfl (by decide +kernel) (by decide +kernel) rfl (by decide +kernel) (Ec.cv (lcM_ (en := D.int) (fun x : ((List Int) × (List Str) × (List Str) × (List Str) × Str × Int × (List Str) × (Option Int)) => (D.tup [(D.lst (List.map D.int x.1)), (D.lst (List.map D.str x.2.1)), (D.lst (List.map D.str x.2.2.1)), (D.lst (List.map D.str x.2.2.2.1)), (D.str x.2.2.2.2.1), (D.int x.2.2.2.2.2.1), (D.lst (List.map D.str x.2.2.2.2.2.2.1)), (enO D.int x.2.2.2.2.2.2.2)])) [("k", 4)] .c A sc_law_one_half (by decide +kernel) (rng1_ (glo A sc_law_one_half 4 rfl) (by rw [A.eM]; exact g_range) ev_int hr_7 rfl) hys_8 hzs_13 (Clear_of rfl) (fun Y AY => (tg AY sc_law_one_half_c1 4 rfl rfl)) (by decide) (fun _ => rfl) (fun z_9 _ => ⟨_, rfl, fun b H Y AY => by obtain rfl := Option.some.inj H; exact ets_nil, fun y _ H => by obtain ⟨r_10, hr_10, H⟩ := bindO H; obtain ⟨r_11, hr_11, H⟩ := bindO H; obtain ⟨r_12, hr_12, H⟩ := bindO H; obtain rfl := Option.some.inj H; exact ⟨_, rfl, fun Y AY => (Cal.ev C_law_case AY sc_law_one_half_c1 2 rfl (by decide) (ea_cons (Cal.ev C_law_pool AY sc_law_one_half_c1 1 rfl (by decide) (ea_cons (Cal.ev C_law_cell AY sc_law_one_half_c1 0 rfl (by decide) (ea_cons (nmB AY sc_law_one_half_c1 0 rfl rfl rfl) (ea_cons (ev_add ev_int (nmF AY sc_law_one_half_c1 4 rfl rfl rfl)) ea_nil (.inl rfl) rfl) (.inl rfl) rfl) (.inr (.inl rfl)) (.inr (.inl rfl)) rfl rfl ⟨a_script, ((1 : Int) + z_9), r_10, rfl, hr_10, rfl, rfl⟩) (ea_cons ev_int ea_nil (.inl rfl) rfl) (.inl rfl) rfl) (.inl rfl) (.inl rfl) rfl rfl ⟨r_10, (7 : Int), r_11, rfl, hr_11, rfl, rfl⟩) (ea_cons (nmO AY sc_law_one_half_c1 2 rfl rfl rfl) ea_nil (.inl rfl) rfl) (.inr (.inr rfl)) rfl) (.inr (.inr rfl)) (.inr (.inl rfl)) rfl rfl ⟨r_11, crew_6, r_12, rfl, hr_12, rfl, rfl⟩)⟩⟩)) (congrArg (fun x : (List ((List Int) × (List Str) × (List Str) × (List Str) × Str × Int × (List Str) × (Option Int))) => (D.lst (List.map (fun x : ((List Int) × (List Str) × (List Str) × (List Str) × Str × Int × (List Str) × (Option Int)) => (D.tup [(D.lst (List.map D.int x.1)), (D.lst (List.map D.str x.2.1)), (D.lst (List.map D.str x.2.2.1)), (D.lst (List.map D.str x.2.2.2.1)), (D.str x.2.2.2.2.1), (D.int x.2.2.2.2.2.1), (D.lst (List.map D.str x.2.2.2.2.2.2.1)), (enO D.int x.2.2.2.2.2.2.2)])) x))) (Option.some.inj hcases_14))) .own ?_
  show SS X [some (.bor (D.scr a_script)), some (.own (D.lst (List.map D.int head_3))), some (.own (D.lst (List.map D.str crew_6))), some (.own (D.lst (List.map (fun x : ((List Int) × (List Str) × (List Str) × (List Str) × Str × Int × (List Str) × (Option Int)) => (D.tup [(D.lst (List.map D.int x.1)), (D.lst (List.map D.str x.2.1)), (D.lst (List.map D.str x.2.2.1)), (D.lst (List.map D.str x.2.2.2.1)), (D.str x.2.2.2.2.1), (D.int x.2.2.2.2.2.1), (D.lst (List.map D.str x.2.2.2.2.2.2.1)), (enO D.int x.2.2.2.2.2.2.2)])) cases_14))), none, none] _ _
  refine ss_frz 3 rfl ?_
  obtain ⟨s_17, hs_17, H⟩ := bindO H
  refine forR_ (en := (fun x : ((List Int) × (List Str) × (List Str) × (List Str) × Str × Int × (List Str) × (Option Int)) => (D.tup [(D.lst (List.map D.int x.1)), (D.lst (List.map D.str x.2.1)), (D.lst (List.map D.str x.2.2.1)), (D.lst (List.map D.str x.2.2.2.1)), (D.str x.2.2.2.2.1), (D.int x.2.2.2.2.2.1), (D.lst (List.map D.str x.2.2.2.2.2.2.1)), (enO D.int x.2.2.2.2.2.2.2)]))) (fun s_15 : Unit => [some (.bor (D.scr a_script)), some (.own (D.lst (List.map D.int head_3))), some (.own (D.lst (List.map D.str crew_6))), some (.frz (D.lst (List.map (fun x : ((List Int) × (List Str) × (List Str) × (List Str) × Str × Int × (List Str) × (Option Int)) => (D.tup [(D.lst (List.map D.int x.1)), (D.lst (List.map D.str x.2.1)), (D.lst (List.map D.str x.2.2.1)), (D.lst (List.map D.str x.2.2.2.1)), (D.str x.2.2.2.2.1), (D.int x.2.2.2.2.2.1), (D.lst (List.map D.str x.2.2.2.2.2.2.1)), (enO D.int x.2.2.2.2.2.2.2)])) cases_14))), none, none]) (fun r d k => d = D.bl r ∧ Fits k .cln (D.bl r)) A (iter_ (nmF A sc_law_one_half 3 rfl rfl rfl) .lstC) (tg A sc_law_one_half 5 rfl rfl) (fun _ => rfl) hs_17 ?_ ?_ ?_ ?_
  · exact (wkr (wkr (wkr (wkr (wkn (wkn wk0))))))
  · intro s_15 z_16 c' hx H
    refine ⟨_, rfl, ?_⟩
    obtain ⟨r_18, hr_18, H⟩ := bindO H
    obtain ⟨r_19, hr_19, H⟩ := bindO H
    obtain ⟨r_20, hr_20, H⟩ := bindO H
    refine ss_if (et_not (Ev.et (Cal.ev C_law_same A sc_law_one_half 7 rfl (by decide) (ea_consH (Cal.ev C_law_by_place A sc_law_one_half 5 rfl (by decide) (ea_cons (nmO A sc_law_one_half 2 rfl rfl rfl) (ea_cons (nmF A sc_law_one_half 5 rfl rfl rfl) ea_nil (.inl rfl) rfl) (.inl rfl) rfl) (.inr (.inr rfl)) (.inl rfl) rfl rfl ⟨crew_6, z_16, r_18, rfl, hr_18, rfl, rfl⟩) (ea_consH (Cal.ev C_law_due A sc_law_one_half 6 rfl (by decide) (ea_cons (nmO A sc_law_one_half 2 rfl rfl rfl) (ea_cons (nmF A sc_law_one_half 5 rfl rfl rfl) ea_nil (.inl rfl) rfl) (.inl rfl) rfl) (.inr (.inr rfl)) (.inl rfl) rfl rfl ⟨crew_6, z_16, r_19, rfl, hr_19, rfl, rfl⟩) ea_nil (.inl rfl) rfl) (.inl rfl) rfl) (.inl rfl) (.inr (.inl rfl)) rfl rfl ⟨(D.lst (List.map (fun x : D => x) r_18)), (D.lst (List.map (fun x : D => x) r_19)), r_20, rfl, hr_20, rfl, rfl⟩) fun _ => rfl)) (fun hc => ?_) (fun hc => ?_)
    · replace H := ifT H hc
      exact ss_ret ev_bl (⟨_, (Option.some.inj H).symm, rfl, .bl⟩)
    · replace H := ifF H hc
      refine ss_nil ?_
      show SS X _ _ _
      obtain rfl := Option.some.inj H
      refine ss_nil ⟨_, rfl, ?_⟩
      exact (wkr (wkr (wkr (wkr (wkn (wkn wk0))))))
  · intro r_28 d k e ⟨hd, hf⟩
    subst e
    subst hd
    exact ⟨(congrArg D.bl (Option.some.inj H)), (Option.some.inj H) ▸ hf⟩
  · intro s_171 e
    subst e
    obtain ⟨s_23, hs_23, H⟩ := bindO H
    refine forR_ (en := (fun x : ((List Int) × (List Str) × (List Str) × (List Str) × Str × Int × (List Str) × (Option Int)) => (D.tup [(D.lst (List.map D.int x.1)), (D.lst (List.map D.str x.2.1)), (D.lst (List.map D.str x.2.2.1)), (D.lst (List.map D.str x.2.2.2.1)), (D.str x.2.2.2.2.1), (D.int x.2.2.2.2.2.1), (D.lst (List.map D.str x.2.2.2.2.2.2.1)), (enO D.int x.2.2.2.2.2.2.2)]))) (fun s_21 : Unit => [some (.bor (D.scr a_script)), some (.own (D.lst (List.map D.int head_3))), some (.own (D.lst (List.map D.str crew_6))), some (.frz (D.lst (List.map (fun x : ((List Int) × (List Str) × (List Str) × (List Str) × Str × Int × (List Str) × (Option Int)) => (D.tup [(D.lst (List.map D.int x.1)), (D.lst (List.map D.str x.2.1)), (D.lst (List.map D.str x.2.2.1)), (D.lst (List.map D.str x.2.2.2.1)), (D.str x.2.2.2.2.1), (D.int x.2.2.2.2.2.1), (D.lst (List.map D.str x.2.2.2.2.2.2.1)), (enO D.int x.2.2.2.2.2.2.2)])) cases_14))), none, none]) (fun r d k => d = D.bl r ∧ Fits k .cln (D.bl r)) A (iter_ (nmF A sc_law_one_half 3 rfl rfl rfl) .lstC) (tg A sc_law_one_half 5 rfl rfl) (fun _ => rfl) hs_23 ?_ ?_ ?_ ?_
    · exact (wkr (wkr (wkr (wkr (wkn (wkn wk0))))))
    · intro s_21 z_22 c' hx H
      refine ⟨_, rfl, ?_⟩
      obtain ⟨r_24, hr_24, H⟩ := bindO H
      obtain ⟨r_25, hr_25, H⟩ := bindO H
      obtain ⟨r_26, hr_26, H⟩ := bindO H
      refine ss_if (et_not (Ev.et (Cal.ev C_law_same A sc_law_one_half 7 rfl (by decide) (ea_consH (Cal.ev C_law_by_name A sc_law_one_half 8 rfl (by decide) (ea_cons (nmO A sc_law_one_half 2 rfl rfl rfl) (ea_cons (nmF A sc_law_one_half 5 rfl rfl rfl) ea_nil (.inl rfl) rfl) (.inl rfl) rfl) (.inr (.inr rfl)) (.inl rfl) rfl rfl ⟨crew_6, z_22, r_24, rfl, hr_24, rfl, rfl⟩) (ea_consH (Cal.ev C_law_due A sc_law_one_half 6 rfl (by decide) (ea_cons (nmO A sc_law_one_half 2 rfl rfl rfl) (ea_cons (nmF A sc_law_one_half 5 rfl rfl rfl) ea_nil (.inl rfl) rfl) (.inl rfl) rfl) (.inr (.inr rfl)) (.inl rfl) rfl rfl ⟨crew_6, z_22, r_25, rfl, hr_25, rfl, rfl⟩) ea_nil (.inl rfl) rfl) (.inl rfl) rfl) (.inl rfl) (.inr (.inl rfl)) rfl rfl ⟨(D.lst (List.map (fun x : D => x) r_24)), (D.lst (List.map (fun x : D => x) r_25)), r_26, rfl, hr_26, rfl, rfl⟩) fun _ => rfl)) (fun hc => ?_) (fun hc => ?_)
      · replace H := ifT H hc
        exact ss_ret ev_bl (⟨_, (Option.some.inj H).symm, rfl, .bl⟩)
      · replace H := ifF H hc
        refine ss_nil ?_
        show SS X _ _ _
        obtain rfl := Option.some.inj H
        refine ss_nil ⟨_, rfl, ?_⟩
        exact (wkr (wkr (wkr (wkr (wkn (wkn wk0))))))
    · intro r_27 d k e ⟨hd, hf⟩
      subst e
      subst hd
      exact ⟨(congrArg D.bl (Option.some.inj H)), (Option.some.inj H) ▸ hf⟩
    · intro s_231 e
      subst e
      exact ss_ret ev_bl (⟨(congrArg D.bl (Option.some.inj H)), .bl⟩)
def m_law_rounds (a_script : (List Int)) (a_crew : (List Str)) : Option (List ((List Str) × Str)) :=
  ((m_law_cell a_script (0 : Int)).bind fun r_1 => ((m_law_pool r_1 (8 : Int)).bind fun r_2 => ((some r_2).bind fun head_3 => ((m_law_cell a_script (1 : Int)).bind fun r_4 => ((m_law_pool r_4 (60 : Int)).bind fun r_5 => ((some r_5).bind fun wishing_6 => ((m_law_cell a_script (2 : Int)).bind fun r_7 => ((m_law_pool r_7 (60 : Int)).bind fun r_8 => ((some r_8).bind fun keeping_9 => ((m_law_part head_3 (6 : Int) (1 : Int) (6 : Int)).bind fun r_10 => ((idxG [(0 : Int), (1 : Int), (3 : Int), (8 : Int), (15 : Int), (16 : Int)] r_10).bind fun x_11 => ((some x_11).bind fun share_12 => ((some ([] : (List ((List Str) × Str)))).bind fun rounds_13 => ((m_law_part head_3 (7 : Int) (1 : Int) (60 : Int)).bind fun r_14 => ((rng1G ((1 : Int) + r_14)).bind fun r_15 => ((List.foldlM (fun (s_16 : ((List ((List Str) × Str)))) (z_17 : Int) => ((m_law_some wishing_6 z_17 a_crew).bind fun r_19 => ((some r_19).bind fun wishes_20 => ((m_law_part wishing_6 z_17 (16 : Int) (3 : Int)).bind fun r_21 => ((if (decide ((0 : Int) < r_21)) = true then ((m_law_part head_3 (6 : Int) (144 : Int) (3 : Int)).bind fun r_22 => some (decide ((0 : Int) < r_22))) else some false).bind fun q_23 => ((if q_23 = true then ((some a_crew).bind fun wishes_25 => some wishes_25) else some wishes_20 : Option ((List Str))).bind fun s_24 => ((some ("" : Str)).bind fun late_26 => ((m_law_part keeping_9 z_17 (1 : Int) (16 : Int)).bind fun r_27 => ((if (decide (r_27 < share_12)) = true then ((m_law_part keeping_9 z_17 (16 : Int) (12 : Int)).bind fun r_29 => ((modG r_29 (a_crew.length : Int)).bind fun n_30 => ((idxG a_crew n_30).bind fun x_31 => ((some x_31).bind fun late_32 => ((m_law_part head_3 (6 : Int) (6 : Int) (2 : Int)).bind fun r_33 => ((if (decide (r_33 = (1 : Int))) = true then ((m_law_part head_3 (6 : Int) (12 : Int) (12 : Int)).bind fun r_35 => ((modG r_35 (a_crew.length : Int)).bind fun n_36 => ((idxG a_crew n_36).bind fun x_37 => ((some x_37).bind fun late_38 => some late_38)))) else some late_32 : Option (Str)).bind fun s_34 => some s_34)))))) else some late_26 : Option (Str)).bind fun s_28 => ((appG s_16 (s_24, s_28)).bind fun rounds_39 => some rounds_39)))))))))) rounds_13 r_15).bind fun s_18 => some s_18))))))))))))))))
def R_law_rounds : Rel := fun ds d k => ∃ (a_script : (List Int)) (a_crew : (List Str)) (r : (List ((List Str) × Str))), ds = [(D.scr a_script), (D.lst (List.map D.str a_crew))] ∧ m_law_rounds a_script a_crew = some r ∧ d = (fun x : (List ((List Str) × Str)) => (D.lst (List.map (fun x : ((List Str) × Str) => (D.tup [(D.lst (List.map D.str x.1)), (D.str x.2)])) x))) r ∧ k = .own
abbrev N_law_rounds : List Str := ["script", "crew", "head", "wishing", "keeping", "share", "rounds", "k", "wishes", "late"]
theorem fs_law_rounds : FnScope N_law_rounds ["script", "crew"] (defScope s_law_rounds) := ⟨rfl, rfl, rfl, by decide +kernel, rfl, by decide +kernel, by decide +kernel⟩
theorem sc_law_rounds : Sc N_law_rounds (defScope s_law_rounds) [0, 1, 2, 3, 4, 5, 6, 7, 8, 9] [2, 3, 4, 5, 6, 7, 8, 9] ["_law_cell", "_law_pool", "_law_part", "range", "_law_some", "list", "len"] := ⟨fs_law_rounds.nd, by decide +kernel⟩
theorem b_law_rounds {X : Cx} {Γ : Gd} (A : At X Γ N_law_rounds (defScope s_law_rounds) 2) (g_len : Γ.mg "len" = none) (g_list : Γ.mg "list" = none) (g_range : Γ.mg "range" = none) (C_law_cell : Cal Γ "_law_cell" R_law_cell 1 []) (C_law_part : Cal Γ "_law_part" R_law_part 1 []) (C_law_pool : Cal Γ "_law_pool" R_law_pool 2 []) (C_law_some : Cal Γ "_law_some" R_law_some 2 []) {ds : List D} {d : D} {k : Kd} (hR : R_law_rounds ds d k) :
    SS X (env0 10 ds) (defBody s_law_rounds) { rt := fun d' k' => d' = d ∧ Fits k' k d, nx := fun _ => d = .non ∧ k = .cln } := by
  obtain ⟨a_script, a_crew, r, rfl, H, rfl, rfl⟩ := hR
  unfold m_law_rounds at H
  obtain ⟨r_1, hr_1, H⟩ := bindO H
  obtain ⟨r_2, hr_2, H⟩ := bindO H
  obtain ⟨head_3, hhead_3, H⟩ := bindO H
  refine set_ A sc_law_rounds 2 rfl rfl (Ev.cv (Cal.ev C_law_pool A sc_law_rounds 1 rfl (by decide) (ea_cons (Cal.ev C_law_cell A sc_law_rounds 0 rfl (by decide) (ea_cons (nmB A sc_law_rounds 0 rfl rfl rfl) (ea_cons ev_int ea_nil (.inl rfl) rfl) (.inl rfl) rfl) (.inr (.inl rfl)) (.inr (.inl rfl)) rfl rfl ⟨a_script, (0 : Int), r_1, rfl, hr_1, rfl, rfl⟩) (ea_cons ev_int ea_nil (.inl rfl) rfl) (.inl rfl) rfl) (.inl rfl) (.inl rfl) rfl rfl ⟨r_1, (8 : Int), r_2, rfl, hr_2, rfl, rfl⟩) (congrArg (fun x : (List Int) => (D.lst (List.map D.int x))) (Option.some.inj hhead_3))) .own rfl ?_
  show SS X [some (.bor (D.scr a_script)), some (.bor (D.lst (List.map D.str a_crew))), some (.own (D.lst (List.map D.int head_3))), none, none, none, none, none, none, none] _ _
  obtain ⟨r_4, hr_4, H⟩ := bindO H
  obtain ⟨r_5, hr_5, H⟩ := bindO H
  obtain ⟨wishing_6, hwishing_6, H⟩ := bindO H
  refine set_ A sc_law_rounds 3 rfl rfl (Ev.cv (Cal.ev C_law_pool A sc_law_rounds 1 rfl (by decide) (ea_cons (Cal.ev C_law_cell A sc_law_rounds 0 rfl (by decide) (ea_cons (nmB A sc_law_rounds 0 rfl rfl rfl) (ea_cons ev_int ea_nil (.inl rfl) rfl) (.inl rfl) rfl) (.inr (.inl rfl)) (.inr (.inl rfl)) rfl rfl ⟨a_script, (1 : Int), r_4, rfl, hr_4, rfl, rfl⟩) (ea_cons ev_int ea_nil (.inl rfl) rfl) (.inl rfl) rfl) (.inl rfl) (.inl rfl) rfl rfl ⟨r_4, (60 : Int), r_5, rfl, hr_5, rfl, rfl⟩) (congrArg (fun x : (List Int) => (D.lst (List.map D.int x))) (Option.some.inj hwishing_6))) .own rfl ?_
  show SS X [some (.bor (D.scr a_script)), some (.bor (D.lst (List.map D.str a_crew))), some (.own (D.lst (List.map D.int head_3))), some (.own (D.lst (List.map D.int wishing_6))), none, none, none, none, none, none] _ _
  obtain ⟨r_7, hr_7, H⟩ := bindO H
  obtain ⟨r_8, hr_8, H⟩ := bindO H
  obtain ⟨keeping_9, hkeeping_9, H⟩ := bindO H
  refine set_ A sc_law_rounds 4 rfl rfl (Ev.cv (Cal.ev C_law_pool A sc_law_rounds 1 rfl (by decide) (ea_cons (Cal.ev C_law_cell A sc_law_rounds 0 rfl (by decide) (ea_cons (nmB A sc_law_rounds 0 rfl rfl rfl) (ea_cons ev_int ea_nil (.inl rfl) rfl) (.inl rfl) rfl) (.inr (.inl rfl)) (.inr (.inl rfl)) rfl rfl ⟨a_script, (2 : Int), r_7, rfl, hr_7, rfl, rfl⟩) (ea_cons ev_int ea_nil (.inl rfl) rfl) (.inl rfl) rfl) (.inl rfl) (.inl rfl) rfl rfl ⟨r_7, (60 : Int), r_8, rfl, hr_8, rfl, rfl⟩) (congrArg (fun x : (List Int) => (D.lst (List.map D.int x))) (Option.some.inj hkeeping_9))) .own rfl ?_
  show SS X [some (.bor (D.scr a_script)), some (.bor (D.lst (List.map D.str a_crew))), some (.own (D.lst (List.map D.int head_3))), some (.own (D.lst (List.map D.int wishing_6))), some (.own (D.lst (List.map D.int keeping_9))), none, none, none, none, none] _ _
  obtain ⟨r_10, hr_10, H⟩ := bindO H
  obtain ⟨x_11, hx_11, H⟩ := bindO H
  obtain ⟨share_12, hshare_12, H⟩ := bindO H
  refine set_ A sc_law_rounds 5 rfl rfl (Ev.cv (ixL_ (f := D.int) (Ev.cv (ev_list (ea_cons ev_int (ea_cons ev_int (ea_cons ev_int (ea_cons ev_int (ea_cons ev_int (ea_cons ev_int ea_nil (.inl rfl) rfl) (.inl rfl) rfl) (.inl rfl) rfl) (.inl rfl) rfl) (.inl rfl) rfl) (.inl rfl) rfl) (.inl rfl) (le_line rfl)) rfl) (Cal.ev C_law_part A sc_law_rounds 2 rfl (by decide) (ea_cons (nmO A sc_law_rounds 2 rfl rfl rfl) (ea_cons ev_int (ea_cons ev_int (ea_cons ev_int ea_nil (.inl rfl) rfl) (.inl rfl) rfl) (.inl rfl) rfl) (.inl rfl) rfl) (.inr (.inr rfl)) (.inr (.inl rfl)) rfl rfl ⟨head_3, (6 : Int), (1 : Int), (6 : Int), r_10, rfl, hr_10, rfl, rfl⟩) hx_11 (fun _ _ => rfl)) (congrArg D.int (Option.some.inj hshare_12))) .int rfl ?_
  show SS X [some (.bor (D.scr a_script)), some (.bor (D.lst (List.map D.str a_crew))), some (.own (D.lst (List.map D.int head_3))), some (.own (D.lst (List.map D.int wishing_6))), some (.own (D.lst (List.map D.int keeping_9))), some (.frz (D.int share_12)), none, none, none, none] _ _
  obtain ⟨rounds_13, hrounds_13, H⟩ := bindO H
  refine set_ A sc_law_rounds 6 rfl rfl (Ev.cv (ev_list ea_nil (.inl rfl) (le_line rfl)) (congrArg (fun x : (List ((List Str) × Str)) => (D.lst (List.map (fun x : ((List Str) × Str) => (D.tup [(D.lst (List.map D.str x.1)), (D.str x.2)])) x))) (Option.some.inj hrounds_13))) .own rfl ?_
  show SS X [some (.bor (D.scr a_script)), some (.bor (D.lst (List.map D.str a_crew))), some (.own (D.lst (List.map D.int head_3))), some (.own (D.lst (List.map D.int wishing_6))), some (.own (D.lst (List.map D.int keeping_9))), some (.frz (D.int share_12)), some (.own (D.lst (List.map (fun x : ((List Str) × Str) => (D.tup [(D.lst (List.map D.str x.1)), (D.str x.2)])) rounds_13))), none, none, none] _ _
  obtain ⟨r_14, hr_14, H⟩ := bindO H
  obtain ⟨r_15, hr_15, H⟩ := bindO H
  obtain ⟨s_18, hs_18, H⟩ := bindO H
  refine forM_ (en := D.int) (fun s_16 : ((List ((List Str) × Str))) => [some (.bor (D.scr a_script)), some (.bor (D.lst (List.map D.str a_crew))), some (.own (D.lst (List.map D.int head_3))), some (.own (D.lst (List.map D.int wishing_6))), some (.own (D.lst (List.map D.int keeping_9))), some (.frz (D.int share_12)), some (.own (D.lst (List.map (fun x : ((List Str) × Str) => (D.tup [(D.lst (List.map D.str x.1)), (D.str x.2)])) s_16))), none, none, none]) A (rng1_ (glo A sc_law_rounds 3 rfl) (by rw [A.eM]; exact g_range) (ev_add ev_int (Cal.ev C_law_part A sc_law_rounds 2 rfl (by decide) (ea_cons (nmO A sc_law_rounds 2 rfl rfl rfl) (ea_cons ev_int (ea_cons ev_int (ea_cons ev_int ea_nil (.inl rfl) rfl) (.inl rfl) rfl) (.inl rfl) rfl) (.inl rfl) rfl) (.inr (.inr rfl)) (.inr (.inl rfl)) rfl rfl ⟨head_3, (7 : Int), (1 : Int), (60 : Int), r_14, rfl, hr_14, rfl, rfl⟩)) hr_15 rfl) (tg A sc_law_rounds 7 rfl rfl) (fun _ => rfl) hs_18 ?_ ?_ ?_
  · exact (wkr (wkr (wkr (wkr (wkr (wkr (wkr (wkn (wkn (wkn wk0))))))))))
  · intro s_16 z_17 s' hx H
    refine ⟨_, rfl, ?_⟩
    obtain ⟨r_19, hr_19, H⟩ := bindO H
    obtain ⟨wishes_20, hwishes_20, H⟩ := bindO H
    refine set_ A sc_law_rounds 8 rfl rfl (Ev.cv (Cal.ev C_law_some A sc_law_rounds 4 rfl (by decide) (ea_cons (nmO A sc_law_rounds 3 rfl rfl rfl) (ea_cons (nmF A sc_law_rounds 7 rfl rfl rfl) (ea_cons (nmB A sc_law_rounds 1 rfl rfl rfl) ea_nil (.inl rfl) rfl) (.inr (.inl rfl)) rfl) (.inr (.inl rfl)) rfl) (.inr (.inr rfl)) (.inl rfl) rfl rfl ⟨wishing_6, z_17, a_crew, r_19, rfl, hr_19, rfl, rfl⟩) (congrArg (fun x : (List Str) => (D.lst (List.map D.str x))) (Option.some.inj hwishes_20))) .own rfl ?_
    show SS X [some (.bor (D.scr a_script)), some (.bor (D.lst (List.map D.str a_crew))), some (.own (D.lst (List.map D.int head_3))), some (.own (D.lst (List.map D.int wishing_6))), some (.own (D.lst (List.map D.int keeping_9))), some (.frz (D.int share_12)), some (.own (D.lst (List.map (fun x : ((List Str) × Str) => (D.tup [(D.lst (List.map D.str x.1)), (D.str x.2)])) s_16))), some (.frz (D.int z_17)), some (.own (D.lst (List.map D.str wishes_20))), none] _ _
    obtain ⟨r_21, hr_21, H⟩ := bindO H
    obtain ⟨q_23, hq_23, H⟩ := bindO H
    obtain ⟨s_24, hs_24, H⟩ := bindO H
    refine ss_ifM [some (.bor (D.scr a_script)), some (.bor (D.lst (List.map D.str a_crew))), some (.own (D.lst (List.map D.int head_3))), some (.own (D.lst (List.map D.int wishing_6))), some (.own (D.lst (List.map D.int keeping_9))), some (.frz (D.int share_12)), some (.own (D.lst (List.map (fun x : ((List Str) × Str) => (D.tup [(D.lst (List.map D.str x.1)), (D.str x.2)])) s_16))), some (.frz (D.int z_17)), some (.own (D.lst (List.map D.str s_24))), none] (Ew.et (ew_andM (et_cI (Cal.ev C_law_part A sc_law_rounds 2 rfl (by decide) (ea_cons (nmO A sc_law_rounds 3 rfl rfl rfl) (ea_cons (nmF A sc_law_rounds 7 rfl rfl rfl) (ea_cons ev_int (ea_cons ev_int ea_nil (.inl rfl) rfl) (.inl rfl) rfl) (.inl rfl) rfl) (.inl rfl) rfl) (.inr (.inr rfl)) (.inr (.inl rfl)) rfl rfl ⟨wishing_6, z_17, (16 : Int), (3 : Int), r_21, rfl, hr_21, rfl, rfl⟩) ev_int .gt) hq_23 fun H => by obtain ⟨r_22, hr_22, H⟩ := bindO H; obtain rfl := Option.some.inj H; exact (ew_and1 (et_cI (Cal.ev C_law_part A sc_law_rounds 2 rfl (by decide) (ea_cons (nmO A sc_law_rounds 2 rfl rfl rfl) (ea_cons ev_int (ea_cons ev_int (ea_cons ev_int ea_nil (.inl rfl) rfl) (.inl rfl) rfl) (.inl rfl) rfl) (.inl rfl) rfl) (.inr (.inr rfl)) (.inr (.inl rfl)) rfl rfl ⟨head_3, (6 : Int), (144 : Int), (3 : Int), r_22, rfl, hr_22, rfl, rfl⟩) ev_int .gt)))) ?_ (fun hc => ?_) (fun hc => ?_)
    · skip
      obtain ⟨late_26, hlate_26, H⟩ := bindO H
      refine set_ A sc_law_rounds 9 rfl rfl (Ev.cv ev_str (congrArg D.str (Option.some.inj hlate_26))) .str rfl ?_
      show SS X [some (.bor (D.scr a_script)), some (.bor (D.lst (List.map D.str a_crew))), some (.own (D.lst (List.map D.int head_3))), some (.own (D.lst (List.map D.int wishing_6))), some (.own (D.lst (List.map D.int keeping_9))), some (.frz (D.int share_12)), some (.own (D.lst (List.map (fun x : ((List Str) × Str) => (D.tup [(D.lst (List.map D.str x.1)), (D.str x.2)])) s_16))), some (.frz (D.int z_17)), some (.own (D.lst (List.map D.str s_24))), some (.frz (D.str late_26))] _ _
      obtain ⟨r_27, hr_27, H⟩ := bindO H
      obtain ⟨s_28, hs_28, H⟩ := bindO H
      refine ss_ifM [some (.bor (D.scr a_script)), some (.bor (D.lst (List.map D.str a_crew))), some (.own (D.lst (List.map D.int head_3))), some (.own (D.lst (List.map D.int wishing_6))), some (.own (D.lst (List.map D.int keeping_9))), some (.frz (D.int share_12)), some (.own (D.lst (List.map (fun x : ((List Str) × Str) => (D.tup [(D.lst (List.map D.str x.1)), (D.str x.2)])) s_16))), some (.frz (D.int z_17)), some (.own (D.lst (List.map D.str s_24))), some (.frz (D.str s_28))] (et_cI (Cal.ev C_law_part A sc_law_rounds 2 rfl (by decide) (ea_cons (nmO A sc_law_rounds 4 rfl rfl rfl) (ea_cons (nmF A sc_law_rounds 7 rfl rfl rfl) (ea_cons ev_int (ea_cons ev_int ea_nil (.inl rfl) rfl) (.inl rfl) rfl) (.inl rfl) rfl) (.inl rfl) rfl) (.inr (.inr rfl)) (.inr (.inl rfl)) rfl rfl ⟨keeping_9, z_17, (1 : Int), (16 : Int), r_27, rfl, hr_27, rfl, rfl⟩) (nmF A sc_law_rounds 5 rfl rfl rfl) .lt) ?_ (fun hc => ?_) (fun hc => ?_)
      · skip
        refine ss_frz 8 rfl ?_
        obtain ⟨rounds_39, hrounds_39, H⟩ := bindO H
        refine app_ (en := (fun x : ((List Str) × Str) => (D.tup [(D.lst (List.map D.str x.1)), (D.str x.2)]))) (x := (s_24, s_28)) A sc_law_rounds 6 rfl rfl rfl (ev_tup (ea_cons (nmF A sc_law_rounds 8 rfl rfl rfl) (ea_cons (nmF A sc_law_rounds 9 rfl rfl rfl) ea_nil (.inl rfl) rfl) (.inl rfl) rfl) (.inl rfl) (le_line rfl)) (by first | rfl | exact heldOf_c) hrounds_39 ⟨rfl, rfl, rfl⟩ rfl rfl ?_
        show SS X [some (.bor (D.scr a_script)), some (.bor (D.lst (List.map D.str a_crew))), some (.own (D.lst (List.map D.int head_3))), some (.own (D.lst (List.map D.int wishing_6))), some (.own (D.lst (List.map D.int keeping_9))), some (.frz (D.int share_12)), some (.own (D.lst (List.map (fun x : ((List Str) × Str) => (D.tup [(D.lst (List.map D.str x.1)), (D.str x.2)])) rounds_39))), some (.frz (D.int z_17)), some (.frz (D.lst (List.map D.str s_24))), some (.frz (D.str s_28))] _ _
        obtain rfl := Option.some.inj H
        refine ss_nil ?_
        exact (wkr (wkr (wkr (wkr (wkr (wkr (wkr (wkn (wkn (wkn wk0))))))))))
      · replace H := ifT hs_28 hc
        obtain ⟨r_29, hr_29, H⟩ := bindO H
        obtain ⟨n_30, hn_30, H⟩ := bindO H
        obtain ⟨x_31, hx_31, H⟩ := bindO H
        obtain ⟨late_32, hlate_32, H⟩ := bindO H
        refine set_ A sc_law_rounds 9 rfl rfl (Ev.cv (ixL_ (f := D.str) (Ev.shlI (nmB A sc_law_rounds 1 rfl rfl rfl) (imms_map (fun _ => rfl) _)) (mod_ (Cal.ev C_law_part A sc_law_rounds 2 rfl (by decide) (ea_cons (nmO A sc_law_rounds 4 rfl rfl rfl) (ea_cons (nmF A sc_law_rounds 7 rfl rfl rfl) (ea_cons ev_int (ea_cons ev_int ea_nil (.inl rfl) rfl) (.inl rfl) rfl) (.inl rfl) rfl) (.inl rfl) rfl) (.inr (.inr rfl)) (.inr (.inl rfl)) rfl rfl ⟨keeping_9, z_17, (16 : Int), (12 : Int), r_29, rfl, hr_29, rfl, rfl⟩) (lenL_ (bn A sc_law_rounds 6 rfl g_len bt_len) (nmB A sc_law_rounds 1 rfl rfl rfl) rfl) hn_30) hx_31 (fun _ _ => rfl)) (congrArg D.str (Option.some.inj hlate_32))) .str rfl ?_
        show SS X [some (.bor (D.scr a_script)), some (.bor (D.lst (List.map D.str a_crew))), some (.own (D.lst (List.map D.int head_3))), some (.own (D.lst (List.map D.int wishing_6))), some (.own (D.lst (List.map D.int keeping_9))), some (.frz (D.int share_12)), some (.own (D.lst (List.map (fun x : ((List Str) × Str) => (D.tup [(D.lst (List.map D.str x.1)), (D.str x.2)])) s_16))), some (.frz (D.int z_17)), some (.own (D.lst (List.map D.str s_24))), some (.frz (D.str late_32))] _ _
        obtain ⟨r_33, hr_33, H⟩ := bindO H
        obtain ⟨s_34, hs_34, H⟩ := bindO H
        refine ss_ifM [some (.bor (D.scr a_script)), some (.bor (D.lst (List.map D.str a_crew))), some (.own (D.lst (List.map D.int head_3))), some (.own (D.lst (List.map D.int wishing_6))), some (.own (D.lst (List.map D.int keeping_9))), some (.frz (D.int share_12)), some (.own (D.lst (List.map (fun x : ((List Str) × Str) => (D.tup [(D.lst (List.map D.str x.1)), (D.str x.2)])) s_16))), some (.frz (D.int z_17)), some (.own (D.lst (List.map D.str s_24))), some (.frz (D.str s_34))] (et_cI (Cal.ev C_law_part A sc_law_rounds 2 rfl (by decide) (ea_cons (nmO A sc_law_rounds 2 rfl rfl rfl) (ea_cons ev_int (ea_cons ev_int (ea_cons ev_int ea_nil (.inl rfl) rfl) (.inl rfl) rfl) (.inl rfl) rfl) (.inl rfl) rfl) (.inr (.inr rfl)) (.inr (.inl rfl)) rfl rfl ⟨head_3, (6 : Int), (6 : Int), (2 : Int), r_33, rfl, hr_33, rfl, rfl⟩) ev_int .eq) ?_ (fun hc => ?_) (fun hc => ?_)
        · skip
          obtain rfl := Option.some.inj H
          refine ss_nil ?_
          exact (wkr (wkr (wkr (wkr (wkr (wkr (wkr (wkr (wkr (wkr wk0))))))))))
        · replace H := ifT hs_34 hc
          obtain ⟨r_35, hr_35, H⟩ := bindO H
          obtain ⟨n_36, hn_36, H⟩ := bindO H
          obtain ⟨x_37, hx_37, H⟩ := bindO H
          obtain ⟨late_38, hlate_38, H⟩ := bindO H
          refine set_ A sc_law_rounds 9 rfl rfl (Ev.cv (ixL_ (f := D.str) (Ev.shlI (nmB A sc_law_rounds 1 rfl rfl rfl) (imms_map (fun _ => rfl) _)) (mod_ (Cal.ev C_law_part A sc_law_rounds 2 rfl (by decide) (ea_cons (nmO A sc_law_rounds 2 rfl rfl rfl) (ea_cons ev_int (ea_cons ev_int (ea_cons ev_int ea_nil (.inl rfl) rfl) (.inl rfl) rfl) (.inl rfl) rfl) (.inl rfl) rfl) (.inr (.inr rfl)) (.inr (.inl rfl)) rfl rfl ⟨head_3, (6 : Int), (12 : Int), (12 : Int), r_35, rfl, hr_35, rfl, rfl⟩) (lenL_ (bn A sc_law_rounds 6 rfl g_len bt_len) (nmB A sc_law_rounds 1 rfl rfl rfl) rfl) hn_36) hx_37 (fun _ _ => rfl)) (congrArg D.str (Option.some.inj hlate_38))) .str rfl ?_
          show SS X [some (.bor (D.scr a_script)), some (.bor (D.lst (List.map D.str a_crew))), some (.own (D.lst (List.map D.int head_3))), some (.own (D.lst (List.map D.int wishing_6))), some (.own (D.lst (List.map D.int keeping_9))), some (.frz (D.int share_12)), some (.own (D.lst (List.map (fun x : ((List Str) × Str) => (D.tup [(D.lst (List.map D.str x.1)), (D.str x.2)])) s_16))), some (.frz (D.int z_17)), some (.own (D.lst (List.map D.str s_24))), some (.frz (D.str late_38))] _ _
          obtain rfl := Option.some.inj H
          refine ss_nil ?_
          exact (wkr (wkr (wkr (wkr (wkr (wkr (wkr (wkr (wkr (wkr wk0))))))))))
        · replace H := ifF hs_34 hc
          obtain rfl := Option.some.inj H
          refine ss_nil ?_
          exact (wkr (wkr (wkr (wkr (wkr (wkr (wkr (wkr (wkr (wkr wk0))))))))))
      · replace H := ifF hs_28 hc
        obtain rfl := Option.some.inj H
        refine ss_nil ?_
        exact (wkr (wkr (wkr (wkr (wkr (wkr (wkr (wkr (wkr (wkr wk0))))))))))
    · replace H := ifT hs_24 hc
      obtain ⟨wishes_25, hwishes_25, H⟩ := bindO H
      refine set_ A sc_law_rounds 8 rfl rfl (Ev.cv (list_ (bn A sc_law_rounds 5 rfl g_list bt_list) (Ev.shlI (nmB A sc_law_rounds 1 rfl rfl rfl) (imms_map (fun _ => rfl) _)) .lst rfl) (congrArg (fun x : (List Str) => (D.lst (List.map D.str x))) (Option.some.inj hwishes_25))) .own rfl ?_
      show SS X [some (.bor (D.scr a_script)), some (.bor (D.lst (List.map D.str a_crew))), some (.own (D.lst (List.map D.int head_3))), some (.own (D.lst (List.map D.int wishing_6))), some (.own (D.lst (List.map D.int keeping_9))), some (.frz (D.int share_12)), some (.own (D.lst (List.map (fun x : ((List Str) × Str) => (D.tup [(D.lst (List.map D.str x.1)), (D.str x.2)])) s_16))), some (.frz (D.int z_17)), some (.own (D.lst (List.map D.str wishes_25))), none] _ _
      obtain rfl := Option.some.inj H
      refine ss_nil ?_
      exact (wkr (wkr (wkr (wkr (wkr (wkr (wkr (wkr (wkr (wkn wk0))))))))))
    · replace H := ifF hs_24 hc
      obtain rfl := Option.some.inj H
      refine ss_nil ?_
      exact (wkr (wkr (wkr (wkr (wkr (wkr (wkr (wkr (wkr (wkn wk0))))))))))
  exact retO A sc_law_rounds 6 rfl rfl rfl (⟨(congrArg (fun x : (List ((List Str) × Str)) => (D.lst (List.map (fun x : ((List Str) × Str) => (D.tup [(D.lst (List.map D.str x.1)), (D.str x.2)])) x))) (Option.some.inj H)), .refl⟩)
def m_law_chosen (a_crew : (List Str)) (a_loads : (List Int)) (a_wishes : (List Str)) (a_chosen : Str) : Option Bool :=
  ((eqG (D.lst (List.map D.str a_wishes)) (D.lst (List.map D.int []))).bind fun q_1 => (if q_1 = true then some (decide (a_chosen = ("" : Str))) else (if (!(decide (a_chosen ∈ a_wishes))) = true then some false else ((loopM (fun (s_2 : Unit) (z_3 : Str) => (((fndG a_crew z_3).bind fun i_5 => ((idxG a_loads i_5).bind fun x_6 => ((fndG a_crew a_chosen).bind fun i_7 => ((idxG a_loads i_7).bind fun x_8 => (if (decide (x_8 < x_6)) = true then some (Ctl.ret false) else some (Ctl.nx ())))))) : Option (Ctl Unit Bool))) () a_wishes).bind fun s_4 => match s_4 with | .nx s_41 => some true | .ret r_9 => some r_9 | .brk _ => none))))
def R_law_chosen : Rel := fun ds d k => ∃ (a_crew : (List Str)) (a_loads : (List Int)) (a_wishes : (List Str)) (a_chosen : Str) (r : Bool), ds = [(D.lst (List.map D.str a_crew)), (D.lst (List.map D.int a_loads)), (D.lst (List.map D.str a_wishes)), (D.str a_chosen)] ∧ m_law_chosen a_crew a_loads a_wishes a_chosen = some r ∧ d = D.bl r ∧ k = .cln
abbrev N_law_chosen : List Str := ["crew", "loads", "wishes", "chosen", "name"]
theorem fs_law_chosen : FnScope N_law_chosen ["crew", "loads", "wishes", "chosen"] (defScope s_law_chosen) := ⟨rfl, rfl, rfl, by decide +kernel, rfl, by decide +kernel, by decide +kernel⟩
theorem sc_law_chosen : Sc N_law_chosen (defScope s_law_chosen) [0, 1, 2, 3, 4] [4] ["isinstance", "str"] := ⟨fs_law_chosen.nd, by decide +kernel⟩
theorem b_law_chosen {X : Cx} {Γ : Gd} (A : At X Γ N_law_chosen (defScope s_law_chosen) 0) (g_isinstance : Γ.mg "isinstance" = none) (g_str : Γ.mg "str" = none) {ds : List D} {d : D} {k : Kd} (hR : R_law_chosen ds d k) :
    SS X (env0 5 ds) (defBody s_law_chosen) { rt := fun d' k' => d' = d ∧ Fits k' k d, nx := fun _ => d = .non ∧ k = .cln } := by
  obtain ⟨a_crew, a_loads, a_wishes, a_chosen, r, rfl, H, rfl, rfl⟩ := hR
  unfold m_law_chosen at H
  refine ss_if (p := false) (et_not (Ev.et (isi_ (p := true) (bn A sc_law_chosen 0 rfl g_isinstance bt_isinstance) (nmF A sc_law_chosen 3 rfl rfl rfl) (bn A sc_law_chosen 1 rfl g_str bt_str) rfl rfl (by rfl)) fun _ => rfl)) (fun hc => nomatch hc) (fun _ => ?_)
  refine ss_nil ?_
  show SS X _ _ _
  obtain ⟨q_1, hq_1, H⟩ := bindO H
  refine ss_if (et_eqG A.room.units (nmB A sc_law_chosen 2 rfl rfl rfl) (ev_list ea_nil (.inl rfl) (le_line rfl)) hq_1) (fun hc => ?_) (fun hc => ?_)
  · replace H := ifT H hc
    exact ss_ret (ev_eqS (nmF A sc_law_chosen 3 rfl rfl rfl) ev_str) (⟨(congrArg D.bl (Option.some.inj H)), .bl⟩)
  · replace H := ifF H hc
    refine ss_nil ?_
    show SS X _ _ _
    refine ss_if (et_ninLS (nmF A sc_law_chosen 3 rfl rfl rfl) (nmB A sc_law_chosen 2 rfl rfl rfl)) (fun hc => ?_) (fun hc => ?_)
    · replace H := ifT H hc
      exact ss_ret ev_bl (⟨(congrArg D.bl (Option.some.inj H)), .bl⟩)
    · replace H := ifF H hc
      refine ss_nil ?_
      show SS X _ _ _
      obtain ⟨s_4, hs_4, H⟩ := bindO H
      refine forR_ (en := D.str) (fun s_2 : Unit => [some (.bor (D.lst (List.map D.str a_crew))), some (.bor (D.lst (List.map D.int a_loads))), some (.bor (D.lst (List.map D.str a_wishes))), some (.frz (D.str a_chosen)), none]) (fun r d k => d = D.bl r ∧ Fits k .cln (D.bl r)) A (iter_ (nmB A sc_law_chosen 2 rfl rfl rfl) .lstB) (tg A sc_law_chosen 4 rfl rfl) (fun _ => rfl) hs_4 ?_ ?_ ?_ ?_
      · exact (wkr (wkr (wkr (wkr (wkn wk0)))))
      · intro s_2 z_3 c' hx H
        refine ⟨_, rfl, ?_⟩
        obtain ⟨i_5, hi_5, H⟩ := bindO H
        obtain ⟨x_6, hx_6, H⟩ := bindO H
        obtain ⟨i_7, hi_7, H⟩ := bindO H
        obtain ⟨x_8, hx_8, H⟩ := bindO H
        refine ss_if (et_cI (ixL_ (f := D.int) (Ev.shlI (nmB A sc_law_chosen 1 rfl rfl rfl) (imms_map (fun _ => rfl) _)) (indexLS_ (nmB A sc_law_chosen 0 rfl rfl rfl) (nmF A sc_law_chosen 4 rfl rfl rfl) hi_5 ⟨rfl, rfl, rfl⟩) hx_6 (fun _ _ => rfl)) (ixL_ (f := D.int) (Ev.shlI (nmB A sc_law_chosen 1 rfl rfl rfl) (imms_map (fun _ => rfl) _)) (indexLS_ (nmB A sc_law_chosen 0 rfl rfl rfl) (nmF A sc_law_chosen 3 rfl rfl rfl) hi_7 ⟨rfl, rfl, rfl⟩) hx_8 (fun _ _ => rfl)) .gt) (fun hc => ?_) (fun hc => ?_)
        · replace H := ifT H hc
          exact ss_ret ev_bl (⟨_, (Option.some.inj H).symm, rfl, .bl⟩)
        · replace H := ifF H hc
          refine ss_nil ?_
          show SS X _ _ _
          obtain rfl := Option.some.inj H
          refine ss_nil ⟨_, rfl, ?_⟩
          exact (wkr (wkr (wkr (wkr (wkn wk0)))))
      · intro r_9 d k e ⟨hd, hf⟩
        subst e
        subst hd
        exact ⟨(congrArg D.bl (Option.some.inj H)), (Option.some.inj H) ▸ hf⟩
      · intro s_41 e
        subst e
        exact ss_ret ev_bl (⟨(congrArg D.bl (Option.some.inj H)), .bl⟩)
def m_law_after_b (a_crew : (List Str)) (a_loads : (List Int)) (a_wishes : (List Str)) (a_holder : Str) : Option (List Int) :=
  ((some ([] : (List Int))).bind fun after_1 => ((rng1G (a_crew.length : Int)).bind fun r_2 => ((List.foldlM (fun (s_3 : ((List Int))) (z_4 : Int) => ((idxG a_crew z_4).bind fun x_6 => ((if (decide (x_6 = a_holder)) = true then ((appG s_3 (0 : Int)).bind fun after_8 => some after_8) else ((idxG a_crew z_4).bind fun x_9 => ((if (decide (x_9 ∈ a_wishes)) = true then ((idxG a_loads z_4).bind fun x_11 => ((appG s_3 (x_11 + (1 : Int))).bind fun after_12 => some after_12)) else ((idxG a_loads z_4).bind fun x_13 => ((appG s_3 x_13).bind fun after_14 => some after_14)) : Option ((List Int))).bind fun s_10 => some s_10)) : Option ((List Int))).bind fun s_7 => some s_7))) after_1 r_2).bind fun s_5 => some s_5)))
def R_law_after_b : Rel := fun ds d k => ∃ (a_crew : (List Str)) (a_loads : (List Int)) (a_wishes : (List Str)) (a_holder : Str) (r : (List Int)), ds = [(D.lst (List.map D.str a_crew)), (D.lst (List.map D.int a_loads)), (D.lst (List.map D.str a_wishes)), (D.str a_holder)] ∧ m_law_after_b a_crew a_loads a_wishes a_holder = some r ∧ d = (fun x : (List Int) => (D.lst (List.map D.int x))) r ∧ k = .own
abbrev N_law_after_b : List Str := ["crew", "loads", "wishes", "holder", "after", "k"]
theorem fs_law_after_b : FnScope N_law_after_b ["crew", "loads", "wishes", "holder"] (defScope s_law_after_b) := ⟨rfl, rfl, rfl, by decide +kernel, rfl, by decide +kernel, by decide +kernel⟩
theorem sc_law_after_b : Sc N_law_after_b (defScope s_law_after_b) [0, 1, 2, 3, 4, 5] [4, 5] ["range", "len"] := ⟨fs_law_after_b.nd, by decide +kernel⟩
theorem b_law_after_b {X : Cx} {Γ : Gd} (A : At X Γ N_law_after_b (defScope s_law_after_b) 0) (g_len : Γ.mg "len" = none) (g_range : Γ.mg "range" = none) {ds : List D} {d : D} {k : Kd} (hR : R_law_after_b ds d k) :
    SS X (env0 6 ds) (defBody s_law_after_b) { rt := fun d' k' => d' = d ∧ Fits k' k d, nx := fun _ => d = .non ∧ k = .cln } := by
  obtain ⟨a_crew, a_loads, a_wishes, a_holder, r, rfl, H, rfl, rfl⟩ := hR
  unfold m_law_after_b at H
  obtain ⟨after_1, hafter_1, H⟩ := bindO H
  refine set_ A sc_law_after_b 4 rfl rfl (Ev.cv (ev_list ea_nil (.inl rfl) (le_line rfl)) (congrArg (fun x : (List Int) => (D.lst (List.map D.int x))) (Option.some.inj hafter_1))) .own rfl ?_
  show SS X [some (.bor (D.lst (List.map D.str a_crew))), some (.bor (D.lst (List.map D.int a_loads))), some (.bor (D.lst (List.map D.str a_wishes))), some (.frz (D.str a_holder)), some (.own (D.lst (List.map D.int after_1))), none] _ _
  obtain ⟨r_2, hr_2, H⟩ := bindO H
  obtain ⟨s_5, hs_5, H⟩ := bindO H
  refine forM_ (en := D.int) (fun s_3 : ((List Int)) => [some (.bor (D.lst (List.map D.str a_crew))), some (.bor (D.lst (List.map D.int a_loads))), some (.bor (D.lst (List.map D.str a_wishes))), some (.frz (D.str a_holder)), some (.own (D.lst (List.map D.int s_3))), none]) A (rng1_ (glo A sc_law_after_b 0 rfl) (by rw [A.eM]; exact g_range) (lenL_ (bn A sc_law_after_b 1 rfl g_len bt_len) (nmB A sc_law_after_b 0 rfl rfl rfl) rfl) hr_2 rfl) (tg A sc_law_after_b 5 rfl rfl) (fun _ => rfl) hs_5 ?_ ?_ ?_
  · exact (wkr (wkr (wkr (wkr (wkr (wkn wk0))))))
  · intro s_3 z_4 s' hx H
    refine ⟨_, rfl, ?_⟩
    obtain ⟨x_6, hx_6, H⟩ := bindO H
    obtain ⟨s_7, hs_7, H⟩ := bindO H
    refine ss_ifM [some (.bor (D.lst (List.map D.str a_crew))), some (.bor (D.lst (List.map D.int a_loads))), some (.bor (D.lst (List.map D.str a_wishes))), some (.frz (D.str a_holder)), some (.own (D.lst (List.map D.int s_7))), some (.frz (D.int z_4))] (et_eqS (ixL_ (f := D.str) (Ev.shlI (nmB A sc_law_after_b 0 rfl rfl rfl) (imms_map (fun _ => rfl) _)) (nmF A sc_law_after_b 5 rfl rfl rfl) hx_6 (fun _ _ => rfl)) (nmF A sc_law_after_b 3 rfl rfl rfl)) ?_ (fun hc => ?_) (fun hc => ?_)
    · skip
      obtain rfl := Option.some.inj H
      refine ss_nil ?_
      exact (wkr (wkr (wkr (wkr (wkr (wkn wk0))))))
    · replace H := ifT hs_7 hc
      obtain ⟨after_8, hafter_8, H⟩ := bindO H
      refine app_ (en := D.int) (x := (0 : Int)) A sc_law_after_b 4 rfl rfl rfl ev_int (by first | rfl | exact heldOf_c) hafter_8 ⟨rfl, rfl, rfl⟩ rfl rfl ?_
      show SS X [some (.bor (D.lst (List.map D.str a_crew))), some (.bor (D.lst (List.map D.int a_loads))), some (.bor (D.lst (List.map D.str a_wishes))), some (.frz (D.str a_holder)), some (.own (D.lst (List.map D.int after_8))), some (.frz (D.int z_4))] _ _
      obtain rfl := Option.some.inj H
      refine ss_nil ?_
      exact (wkr (wkr (wkr (wkr (wkr (wkr wk0))))))
    · replace H := ifF hs_7 hc
      obtain ⟨x_9, hx_9, H⟩ := bindO H
      obtain ⟨s_10, hs_10, H⟩ := bindO H
      refine ss_ifM [some (.bor (D.lst (List.map D.str a_crew))), some (.bor (D.lst (List.map D.int a_loads))), some (.bor (D.lst (List.map D.str a_wishes))), some (.frz (D.str a_holder)), some (.own (D.lst (List.map D.int s_10))), some (.frz (D.int z_4))] (et_inLS (ixL_ (f := D.str) (Ev.shlI (nmB A sc_law_after_b 0 rfl rfl rfl) (imms_map (fun _ => rfl) _)) (nmF A sc_law_after_b 5 rfl rfl rfl) hx_9 (fun _ _ => rfl)) (nmB A sc_law_after_b 2 rfl rfl rfl)) ?_ (fun hc => ?_) (fun hc => ?_)
      · skip
        obtain rfl := Option.some.inj H
        refine ss_nil ?_
        exact (wkr (wkr (wkr (wkr (wkr (wkr wk0))))))
      · replace H := ifT hs_10 hc
        obtain ⟨x_11, hx_11, H⟩ := bindO H
        obtain ⟨after_12, hafter_12, H⟩ := bindO H
        refine app_ (en := D.int) (x := (x_11 + (1 : Int))) A sc_law_after_b 4 rfl rfl rfl (ev_add (ixL_ (f := D.int) (Ev.shlI (nmB A sc_law_after_b 1 rfl rfl rfl) (imms_map (fun _ => rfl) _)) (nmF A sc_law_after_b 5 rfl rfl rfl) hx_11 (fun _ _ => rfl)) ev_int) (by first | rfl | exact heldOf_c) hafter_12 ⟨rfl, rfl, rfl⟩ rfl rfl ?_
        show SS X [some (.bor (D.lst (List.map D.str a_crew))), some (.bor (D.lst (List.map D.int a_loads))), some (.bor (D.lst (List.map D.str a_wishes))), some (.frz (D.str a_holder)), some (.own (D.lst (List.map D.int after_12))), some (.frz (D.int z_4))] _ _
        obtain rfl := Option.some.inj H
        refine ss_nil ?_
        exact (wkr (wkr (wkr (wkr (wkr (wkr wk0))))))
      · replace H := ifF hs_10 hc
        obtain ⟨x_13, hx_13, H⟩ := bindO H
        obtain ⟨after_14, hafter_14, H⟩ := bindO H
        refine app_ (en := D.int) (x := x_13) A sc_law_after_b 4 rfl rfl rfl (ixL_ (f := D.int) (Ev.shlI (nmB A sc_law_after_b 1 rfl rfl rfl) (imms_map (fun _ => rfl) _)) (nmF A sc_law_after_b 5 rfl rfl rfl) hx_13 (fun _ _ => rfl)) (by first | rfl | exact heldOf_c) hafter_14 ⟨rfl, rfl, rfl⟩ rfl rfl ?_
        show SS X [some (.bor (D.lst (List.map D.str a_crew))), some (.bor (D.lst (List.map D.int a_loads))), some (.bor (D.lst (List.map D.str a_wishes))), some (.frz (D.str a_holder)), some (.own (D.lst (List.map D.int after_14))), some (.frz (D.int z_4))] _ _
        obtain rfl := Option.some.inj H
        refine ss_nil ?_
        exact (wkr (wkr (wkr (wkr (wkr (wkr wk0))))))
  exact retO A sc_law_after_b 4 rfl rfl rfl (⟨(congrArg (fun x : (List Int) => (D.lst (List.map D.int x))) (Option.some.inj H)), .refl⟩)
def m_law_within (a_crew : (List Str)) (a_loads : (List Int)) (a_kept : Int) : Option Bool :=
  ((some (a_crew.length : Int)).bind fun size_1 => ((rng2G (a_kept + (1 : Int)) ((a_kept + size_1) + (1 : Int))).bind fun r_2 => ((loopM (fun (s_3 : Unit) (z_4 : Int) => (((lcG a_loads).bind fun ys_6 => (if (decide (((size_1 - z_4) + a_kept) < (((List.filter (fun z_7 : Int => (decide (z_4 ≤ z_7))) ys_6).map (fun z_7 : Int => z_7)).length : Int))) = true then some (Ctl.ret false) else some (Ctl.nx ()))) : Option (Ctl Unit Bool))) () r_2).bind fun s_5 => match s_5 with | .nx s_51 => ((maxG a_loads).bind fun n_8 => some (decide (n_8 ≤ ((size_1 - (1 : Int)) + a_kept)))) | .ret r_9 => some r_9 | .brk _ => none)))
def R_law_within : Rel := fun ds d k => ∃ (a_crew : (List Str)) (a_loads : (List Int)) (a_kept : Int) (r : Bool), ds = [(D.lst (List.map D.str a_crew)), (D.lst (List.map D.int a_loads)), (D.int a_kept)] ∧ m_law_within a_crew a_loads a_kept = some r ∧ d = D.bl r ∧ k = .cln
abbrev N_law_within : List Str := ["crew", "loads", "kept", "size", "number", "load"]
theorem fs_law_within : FnScope N_law_within ["crew", "loads", "kept"] (defScope s_law_within) := ⟨rfl, rfl, rfl, by decide +kernel, rfl, by decide +kernel, by decide +kernel⟩
theorem sc_law_within : Sc N_law_within (defScope s_law_within) [0, 1, 2, 3, 4] [3, 4] ["len", "range", "max"] := ⟨fs_law_within.nd, by decide +kernel⟩
abbrev cs_law_within_c1 : Scope := compScope (s_law_within) [1, 2, 0, 0, 1]
theorem sc_law_within_c1 : Sc N_law_within cs_law_within_c1 [4, 5] [5] [] := ⟨fs_law_within.nd, by decide +kernel⟩
theorem b_law_within {X : Cx} {Γ : Gd} (A : At X Γ N_law_within (defScope s_law_within) 0) (g_len : Γ.mg "len" = none) (g_max : Γ.mg "max" = none) (g_range : Γ.mg "range" = none) {ds : List D} {d : D} {k : Kd} (hR : R_law_within ds d k) :
    SS X (env0 6 ds) (defBody s_law_within) { rt := fun d' k' => d' = d ∧ Fits k' k d, nx := fun _ => d = .non ∧ k = .cln } := by
  obtain ⟨a_crew, a_loads, a_kept, r, rfl, H, rfl, rfl⟩ := hR
  unfold m_law_within at H
  obtain ⟨size_1, hsize_1, H⟩ := bindO H
  refine set_ A sc_law_within 3 rfl rfl (Ev.cv (lenL_ (bn A sc_law_within 0 rfl g_len bt_len) (nmB A sc_law_within 0 rfl rfl rfl) rfl) (congrArg D.int (Option.some.inj hsize_1))) .int rfl ?_
  show SS X [some (.bor (D.lst (List.map D.str a_crew))), some (.bor (D.lst (List.map D.int a_loads))), some (.frz (D.int a_kept)), some (.frz (D.int size_1)), none, none] _ _
  obtain ⟨r_2, hr_2, H⟩ := bindO H
  obtain ⟨s_5, hs_5, H⟩ := bindO H
  refine forR_ (en := D.int) (fun s_3 : Unit => [some (.bor (D.lst (List.map D.str a_crew))), some (.bor (D.lst (List.map D.int a_loads))), some (.frz (D.int a_kept)), some (.frz (D.int size_1)), none, none]) (fun r d k => d = D.bl r ∧ Fits k .cln (D.bl r)) A (rng2_ (glo A sc_law_within 1 rfl) (by rw [A.eM]; exact g_range) (ev_add (nmF A sc_law_within 2 rfl rfl rfl) ev_int) (ev_add (ev_add (nmF A sc_law_within 2 rfl rfl rfl) (nmF A sc_law_within 3 rfl rfl rfl)) ev_int) hr_2 rfl rfl) (tg A sc_law_within 4 rfl rfl) (fun _ => rfl) hs_5 ?_ ?_ ?_ ?_
  · exact (wkr (wkr (wkr (wkr (wkn (wkn wk0))))))
  · intro s_3 z_4 c' hx H
    refine ⟨_, rfl, ?_⟩
    obtain ⟨ys_6, hys_6, H⟩ := bindO H
    refine ss_if (et_cI (lenL_ (bn A sc_law_within 0 rfl g_len bt_len) (Ec.ev (lcP_ (en := D.int) D.int [("load", 5)] (fun z_7 : Int => (decide (z_4 ≤ z_7))) (fun z_7 : Int => z_7) .c A sc_law_within (by decide +kernel) (iter_ (nmB A sc_law_within 1 rfl rfl rfl) .lstB) hys_6 (Clear_of rfl) (fun Y AY => (tg AY sc_law_within_c1 5 rfl rfl)) (by decide) (fun _ => rfl) (fun z_7 _ => ⟨_, rfl, fun Y AY => (ets_one (et_cI (nmF AY sc_law_within_c1 5 rfl rfl rfl) (nmF AY sc_law_within_c1 4 rfl rfl rfl) .ge)), fun _ => ⟨_, rfl, fun Y AY => (nmF AY sc_law_within_c1 5 rfl rfl rfl)⟩⟩))) rfl) (ev_add (ev_sub (nmF A sc_law_within 3 rfl rfl rfl) (nmF A sc_law_within 4 rfl rfl rfl)) (nmF A sc_law_within 2 rfl rfl rfl)) .gt) (fun hc => ?_) (fun hc => ?_)
    · replace H := ifT H hc
      exact ss_ret ev_bl (⟨_, (Option.some.inj H).symm, rfl, .bl⟩)
    · replace H := ifF H hc
      refine ss_nil ?_
      show SS X _ _ _
      obtain rfl := Option.some.inj H
      refine ss_nil ⟨_, rfl, ?_⟩
      exact (wkr (wkr (wkr (wkr (wkn (wkn wk0))))))
  · intro r_9 d k e ⟨hd, hf⟩
    subst e
    subst hd
    exact ⟨(congrArg D.bl (Option.some.inj H)), (Option.some.inj H) ▸ hf⟩
  · intro s_51 e
    subst e
    obtain ⟨n_8, hn_8, H⟩ := bindO H
    exact ss_ret (ev_cI (maxL_ A.calm (bn A sc_law_within 2 rfl g_max bt_max) (nmB A sc_law_within 1 rfl rfl rfl) hn_8 rfl) (ev_add (ev_sub (nmF A sc_law_within 3 rfl rfl rfl) ev_int) (nmF A sc_law_within 2 rfl rfl rfl)) .le) (⟨(congrArg D.bl (Option.some.inj H)), .bl⟩)
def m_law_other_half (a_script : (List Int)) : Option Bool :=
  ((m_law_cell a_script (0 : Int)).bind fun r_1 => ((m_law_pool r_1 (8 : Int)).bind fun r_2 => ((some r_2).bind fun head_3 => ((m_law_part head_3 (5 : Int) (1 : Int) (4 : Int)).bind fun r_4 => ((m_law_names head_3 (0 : Int) ((1 : Int) + r_4)).bind fun r_5 => ((some r_5).bind fun crew_6 => ((lcG crew_6).bind fun ys_7 => ((some (ys_7.map (fun z_8 : Str => (0 : Int)))).bind fun loads_9 => ((some (0 : Int)).bind fun kept_10 => ((m_law_rounds a_script crew_6).bind fun r_11 => ((loopM (fun (s_12 : ((List Int) × Int)) (z_13 : ((List Str) × Str)) => (((some z_13.2).bind fun holder_15 => ((some ([] : (List Str))).bind fun having_16 => (if (decide (z_13.2 = ("" : Str))) = true then ((m_longest crew_6 s_12.1 z_13.1).bind fun r_17 => ((some r_17).bind fun holder_18 => ((m_law_chosen crew_6 s_12.1 z_13.1 holder_18).bind fun r_19 => (if (!r_19) = true then some (Ctl.ret false) else ((if (!(decide (holder_18 = ("" : Str)))) = true then ((some ([holder_18] : (List Str))).bind fun having_21 => some having_21) else some having_16 : Option ((List Str))).bind fun s_20 => ((m_next_passes crew_6 s_12.1 z_13.1 s_20 z_13.2 (100 : Int)).bind fun r_22 => ((some r_22).bind fun after_23 => ((m_law_after_b crew_6 s_12.1 z_13.1 holder_18).bind fun r_24 => ((some r_24).bind fun loads_25 => ((some (s_12.2 + (if (!(decide (z_13.2 = ("" : Str)))) = true then 1 else 0 : Int))).bind fun kept_26 => ((m_law_same 8 (D.tup (List.map D.int after_23)) (D.tup (List.map D.int loads_25))).bind fun r_27 => ((if (!r_27) = true then some true else ((m_law_within crew_6 loads_25 kept_26).bind fun r_28 => some (!r_28))).bind fun q_29 => (if q_29 = true then some (Ctl.ret false) else some (Ctl.nx (loads_25, kept_26))))))))))))))) else ((m_next_passes crew_6 s_12.1 z_13.1 having_16 z_13.2 (100 : Int)).bind fun r_30 => ((some r_30).bind fun after_31 => ((m_law_after_b crew_6 s_12.1 z_13.1 holder_15).bind fun r_32 => ((some r_32).bind fun loads_33 => ((some (s_12.2 + (if (!(decide (z_13.2 = ("" : Str)))) = true then 1 else 0 : Int))).bind fun kept_34 => ((m_law_same 8 (D.tup (List.map D.int after_31)) (D.tup (List.map D.int loads_33))).bind fun r_35 => ((if (!r_35) = true then some true else ((m_law_within crew_6 loads_33 kept_34).bind fun r_36 => some (!r_36))).bind fun q_37 => (if q_37 = true then some (Ctl.ret false) else some (Ctl.nx (loads_33, kept_34))))))))))))) : Option (Ctl ((List Int) × Int) Bool))) (loads_9, kept_10) r_11).bind fun s_14 => match s_14 with | .nx s_141 => some true | .ret r_38 => some r_38 | .brk _ => none)))))))))))
def R_law_other_half : Rel := fun ds d k => ∃ (a_script : (List Int)) (r : Bool), ds = [(D.scr a_script)] ∧ m_law_other_half a_script = some r ∧ d = D.bl r ∧ k = .cln
abbrev N_law_other_half : List Str := ["script", "head", "crew", "loads", "name", "kept", "wishes", "late", "holder", "having", "after"]
theorem fs_law_other_half : FnScope N_law_other_half ["script"] (defScope s_law_other_half) := ⟨rfl, rfl, rfl, by decide +kernel, rfl, by decide +kernel, by decide +kernel⟩
theorem sc_law_other_half : Sc N_law_other_half (defScope s_law_other_half) [0, 1, 2, 3, 5, 6, 7, 8, 9, 10] [1, 2, 3, 5, 6, 7, 8, 9, 10] ["_law_cell", "_law_pool", "_law_part", "_law_names", "_law_rounds", "tuple", "longest", "_law_chosen", "next_passes", "_law_after_b", "int", "_law_same", "_law_within"] := ⟨fs_law_other_half.nd, by decide +kernel⟩
abbrev cs_law_other_half_c1 : Scope := compScope (s_law_other_half) [2, 1]
theorem sc_law_other_half_c1 : Sc N_law_other_half cs_law_other_half_c1 [] [4] [] := ⟨fs_law_other_half.nd, by decide +kernel⟩
theorem b_law_other_half {X : Cx} {Γ : Gd} (A : At X Γ N_law_other_half (defScope s_law_other_half) 10) (g_int : Γ.mg "int" = none) (g_tuple : Γ.mg "tuple" = none) (C_law_after_b : Cal Γ "_law_after_b" R_law_after_b 1 []) (C_law_cell : Cal Γ "_law_cell" R_law_cell 1 []) (C_law_chosen : Cal Γ "_law_chosen" R_law_chosen 1 []) (C_law_names : Cal Γ "_law_names" R_law_names 2 []) (C_law_part : Cal Γ "_law_part" R_law_part 1 []) (C_law_pool : Cal Γ "_law_pool" R_law_pool 2 []) (C_law_rounds : Cal Γ "_law_rounds" R_law_rounds 3 []) (C_law_same : Cal Γ "_law_same" (R_law_same 8) (2 + 8) []) (C_law_within : Cal Γ "_law_within" R_law_within 1 []) (C_longest : Cal Γ "longest" R_longest 1 []) (C_next_passes : Cal Γ "next_passes" R_next_passes 2 []) {ds : List D} {d : D} {k : Kd} (hR : R_law_other_half ds d k) :
    SS X (env0 11 ds) (defBody s_law_other_half) { rt := fun d' k' => d' = d ∧ Fits k' k d, nx := fun _ => d = .non ∧ k = .cln } := by
  obtain ⟨a_script, r, rfl, H, rfl, rfl⟩ := hR
  unfold m_law_other_half at H
  obtain ⟨r_1, hr_1, H⟩ := bindO H
  obtain ⟨r_2, hr_2, H⟩ := bindO H
  obtain ⟨head_3, hhead_3, H⟩ := bindO H
  refine set_ A sc_law_other_half 1 rfl rfl (Ev.cv (Cal.ev C_law_pool A sc_law_other_half 1 rfl (by decide) (ea_cons (Cal.ev C_law_cell A sc_law_other_half 0 rfl (by decide) (ea_cons (nmB A sc_law_other_half 0 rfl rfl rfl) (ea_cons ev_int ea_nil (.inl rfl) rfl) (.inl rfl) rfl) (.inr (.inl rfl)) (.inr (.inl rfl)) rfl rfl ⟨a_script, (0 : Int), r_1, rfl, hr_1, rfl, rfl⟩) (ea_cons ev_int ea_nil (.inl rfl) rfl) (.inl rfl) rfl) (.inl rfl) (.inl rfl) rfl rfl ⟨r_1, (8 : Int), r_2, rfl, hr_2, rfl, rfl⟩) (congrArg (fun x : (List Int) => (D.lst (List.map D.int x))) (Option.some.inj hhead_3))) .own rfl ?_
  show SS X [some (.bor (D.scr a_script)), some (.own (D.lst (List.map D.int head_3))), none, none, none, none, none, none, none, none, none] _ _
  obtain ⟨r_4, hr_4, H⟩ := bindO H
  obtain ⟨r_5, hr_5, H⟩ := bindO H
  obtain ⟨crew_6, hcrew_6, H⟩ := bindO H
  refine set_ A sc_law_other_half 2 rfl rfl (Ev.cv (Cal.ev C_law_names A sc_law_other_half 3 rfl (by decide) (ea_cons (nmO A sc_law_other_half 1 rfl rfl rfl) (ea_cons ev_int (ea_cons (ev_add ev_int (Cal.ev C_law_part A sc_law_other_half 2 rfl (by decide) (ea_cons (nmO A sc_law_other_half 1 rfl rfl rfl) (ea_cons ev_int (ea_cons ev_int (ea_cons ev_int ea_nil (.inl rfl) rfl) (.inl rfl) rfl) (.inl rfl) rfl) (.inl rfl) rfl) (.inr (.inr rfl)) (.inr (.inl rfl)) rfl rfl ⟨head_3, (5 : Int), (1 : Int), (4 : Int), r_4, rfl, hr_4, rfl, rfl⟩)) ea_nil (.inl rfl) rfl) (.inl rfl) rfl) (.inl rfl) rfl) (.inr (.inr rfl)) (.inl rfl) rfl rfl ⟨head_3, (0 : Int), ((1 : Int) + r_4), r_5, rfl, hr_5, rfl, rfl⟩) (congrArg (fun x : (List Str) => (D.lst (List.map D.str x))) (Option.some.inj hcrew_6))) .own rfl ?_
  show SS X [some (.bor (D.scr a_script)), some (.own (D.lst (List.map D.int head_3))), some (.own (D.lst (List.map D.str crew_6))), none, none, none, none, none, none, none, none] _ _
  obtain ⟨ys_7, hys_7, H⟩ := bindO H
  obtain ⟨loads_9, hloads_9, H⟩ := bindO H
  refine setLc_ A sc_law_other_half 3 rfl (by decide +kernel) (by decide +kernel) rfl (by decide +kernel) (Ec.cv (Ec.cv (lcP_ (en := D.str) D.int [("name", 4)] (fun z_8 : Str => true) (fun z_8 : Str => (0 : Int)) .c A sc_law_other_half (by decide +kernel) (iter_ (nmO A sc_law_other_half 2 rfl rfl rfl) .lstS) hys_7 (Clear_of rfl) (fun Y AY => (tg AY sc_law_other_half_c1 4 rfl rfl)) (by decide) (fun _ => rfl) (fun z_8 _ => ⟨_, rfl, fun Y AY => ets_nil, fun _ => ⟨_, rfl, fun Y AY => ev_int⟩⟩)) (by rw [List.filter_eq_self.mpr (fun _ _ => rfl)])) (congrArg (fun x : (List Int) => (D.lst (List.map D.int x))) (Option.some.inj hloads_9))) .own ?_
  show SS X [some (.bor (D.scr a_script)), some (.own (D.lst (List.map D.int head_3))), some (.own (D.lst (List.map D.str crew_6))), some (.own (D.lst (List.map D.int loads_9))), none, none, none, none, none, none, none] _ _
  obtain ⟨kept_10, hkept_10, H⟩ := bindO H
  refine set_ A sc_law_other_half 5 rfl rfl (Ev.cv ev_int (congrArg D.int (Option.some.inj hkept_10))) .int rfl ?_
  show SS X [some (.bor (D.scr a_script)), some (.own (D.lst (List.map D.int head_3))), some (.own (D.lst (List.map D.str crew_6))), some (.own (D.lst (List.map D.int loads_9))), none, some (.frz (D.int kept_10)), none, none, none, none, none] _ _
  obtain ⟨r_11, hr_11, H⟩ := bindO H
  obtain ⟨s_14, hs_14, H⟩ := bindO H
  refine forR_ (en := (fun x : ((List Str) × Str) => (D.tup [(D.lst (List.map D.str x.1)), (D.str x.2)]))) (fun s_12 : ((List Int) × Int) => [some (.bor (D.scr a_script)), some (.own (D.lst (List.map D.int head_3))), some (.own (D.lst (List.map D.str crew_6))), some (.own (D.lst (List.map D.int s_12.1))), none, some (.frz (D.int s_12.2)), none, none, none, none, none]) (fun r d k => d = D.bl r ∧ Fits k .cln (D.bl r)) A (iter_ (Cal.ev C_law_rounds A sc_law_other_half 4 rfl (by decide) (ea_cons (nmB A sc_law_other_half 0 rfl rfl rfl) (ea_cons (nmO A sc_law_other_half 2 rfl rfl rfl) ea_nil (.inl rfl) rfl) (.inr (.inr rfl)) rfl) (.inr (.inr rfl)) (.inl rfl) rfl rfl ⟨a_script, crew_6, r_11, rfl, hr_11, rfl, rfl⟩) .lstO) (tg_tp A.calm (tgs_cons (tg A sc_law_other_half 6 rfl rfl) (tgs_cons (tg A sc_law_other_half 7 rfl rfl) tgs_nil rfl) rfl) rfl rfl) (fun _ => rfl) hs_14 ?_ ?_ ?_ ?_
  · exact (wkr (wkr (wkr (wkr (wkn (wkr (wkn (wkn (wkn (wkn (wkn wk0)))))))))))
  · intro s_12 z_13 c' hx H
    refine ⟨_, rfl, ?_⟩
    obtain ⟨holder_15, hholder_15, H⟩ := bindO H
    refine set_ A sc_law_other_half 8 rfl rfl (Ev.cv (nmF A sc_law_other_half 7 rfl rfl rfl) (congrArg D.str (Option.some.inj hholder_15))) .str rfl ?_
    show SS X [some (.bor (D.scr a_script)), some (.own (D.lst (List.map D.int head_3))), some (.own (D.lst (List.map D.str crew_6))), some (.own (D.lst (List.map D.int s_12.1))), none, some (.frz (D.int s_12.2)), some (.frz (D.lst (List.map D.str z_13.1))), some (.frz (D.str z_13.2)), some (.frz (D.str holder_15)), none, none] _ _
    obtain ⟨having_16, hhaving_16, H⟩ := bindO H
    refine set_ A sc_law_other_half 9 rfl rfl (Ev.cv (ev_tup ea_nil (.inl rfl) (le_line rfl)) (congrArg (fun x : (List Str) => (D.tup (List.map D.str x))) (Option.some.inj hhaving_16))) .cln rfl ?_
    show SS X [some (.bor (D.scr a_script)), some (.own (D.lst (List.map D.int head_3))), some (.own (D.lst (List.map D.str crew_6))), some (.own (D.lst (List.map D.int s_12.1))), none, some (.frz (D.int s_12.2)), some (.frz (D.lst (List.map D.str z_13.1))), some (.frz (D.str z_13.2)), some (.frz (D.str holder_15)), some (.frz (D.tup (List.map D.str having_16))), none] _ _
    refine ss_if (et_eqS (nmF A sc_law_other_half 7 rfl rfl rfl) ev_str) (fun hc => ?_) (fun hc => ?_)
    · replace H := ifT H hc
      obtain ⟨r_17, hr_17, H⟩ := bindO H
      obtain ⟨holder_18, hholder_18, H⟩ := bindO H
      refine set_ A sc_law_other_half 8 rfl rfl (Ev.cv (Cal.ev C_longest A sc_law_other_half 6 rfl (by decide) (ea_cons (tuple_ (bn A sc_law_other_half 5 rfl g_tuple bt_tuple) (nmO A sc_law_other_half 2 rfl rfl rfl) .lst rfl) (ea_cons (tuple_ (bn A sc_law_other_half 5 rfl g_tuple bt_tuple) (nmO A sc_law_other_half 3 rfl rfl rfl) .lst rfl) (ea_cons (tuple_ (bn A sc_law_other_half 5 rfl g_tuple bt_tuple) (nmF A sc_law_other_half 6 rfl rfl rfl) .lst rfl) ea_nil (.inl rfl) rfl) (.inl rfl) rfl) (.inl rfl) rfl) (.inl rfl) (.inr (.inl rfl)) rfl rfl ⟨crew_6, s_12.1, z_13.1, r_17, rfl, hr_17, rfl, rfl⟩) (congrArg D.str (Option.some.inj hholder_18))) .str rfl ?_
      show SS X [some (.bor (D.scr a_script)), some (.own (D.lst (List.map D.int head_3))), some (.own (D.lst (List.map D.str crew_6))), some (.own (D.lst (List.map D.int s_12.1))), none, some (.frz (D.int s_12.2)), some (.frz (D.lst (List.map D.str z_13.1))), some (.frz (D.str z_13.2)), some (.frz (D.str holder_18)), some (.frz (D.tup (List.map D.str having_16))), none] _ _
      obtain ⟨r_19, hr_19, H⟩ := bindO H
      refine ss_if (et_not (Ev.et (Cal.ev C_law_chosen A sc_law_other_half 7 rfl (by decide) (ea_cons (nmO A sc_law_other_half 2 rfl rfl rfl) (ea_cons (nmO A sc_law_other_half 3 rfl rfl rfl) (ea_cons (nmF A sc_law_other_half 6 rfl rfl rfl) (ea_cons (nmF A sc_law_other_half 8 rfl rfl rfl) ea_nil (.inl rfl) rfl) (.inl rfl) rfl) (.inl rfl) rfl) (.inr (.inr rfl)) rfl) (.inr (.inr rfl)) (.inr (.inl rfl)) rfl rfl ⟨crew_6, s_12.1, z_13.1, holder_18, r_19, rfl, hr_19, rfl, rfl⟩) fun _ => rfl)) (fun hc => ?_) (fun hc => ?_)
      · replace H := ifT H hc
        exact ss_ret ev_bl (⟨_, (Option.some.inj H).symm, rfl, .bl⟩)
      · replace H := ifF H hc
        refine ss_nil ?_
        show SS X _ _ _
        obtain ⟨s_20, hs_20, H⟩ := bindO H
        refine ss_ifM [some (.bor (D.scr a_script)), some (.own (D.lst (List.map D.int head_3))), some (.own (D.lst (List.map D.str crew_6))), some (.own (D.lst (List.map D.int s_12.1))), none, some (.frz (D.int s_12.2)), some (.frz (D.lst (List.map D.str z_13.1))), some (.frz (D.str z_13.2)), some (.frz (D.str holder_18)), some (.frz (D.tup (List.map D.str s_20))), none] (et_neS (nmF A sc_law_other_half 8 rfl rfl rfl) ev_str) ?_ (fun hc => ?_) (fun hc => ?_)
        · skip
          refine ss_nil ?_
          show SS X _ _ _
          obtain ⟨r_22, hr_22, H⟩ := bindO H
          obtain ⟨after_23, hafter_23, H⟩ := bindO H
          refine set_ A sc_law_other_half 10 rfl rfl (Ev.cv (Cal.ev C_next_passes A sc_law_other_half 8 rfl (by decide) (ea_cons (tuple_ (bn A sc_law_other_half 5 rfl g_tuple bt_tuple) (nmO A sc_law_other_half 2 rfl rfl rfl) .lst rfl) (ea_cons (tuple_ (bn A sc_law_other_half 5 rfl g_tuple bt_tuple) (nmO A sc_law_other_half 3 rfl rfl rfl) .lst rfl) (ea_cons (tuple_ (bn A sc_law_other_half 5 rfl g_tuple bt_tuple) (nmF A sc_law_other_half 6 rfl rfl rfl) .lst rfl) (ea_cons (nmF A sc_law_other_half 9 rfl rfl rfl) (ea_cons (nmF A sc_law_other_half 7 rfl rfl rfl) (ea_cons ev_int ea_nil (.inl rfl) rfl) (.inl rfl) rfl) (.inl rfl) rfl) (.inl rfl) rfl) (.inl rfl) rfl) (.inl rfl) rfl) (.inl rfl) (.inr (.inl rfl)) rfl rfl ⟨crew_6, s_12.1, z_13.1, s_20, z_13.2, (100 : Int), r_22, rfl, hr_22, rfl, rfl⟩) (congrArg (fun x : (List Int) => (D.tup (List.map D.int x))) (Option.some.inj hafter_23))) .cln rfl ?_
          show SS X [some (.bor (D.scr a_script)), some (.own (D.lst (List.map D.int head_3))), some (.own (D.lst (List.map D.str crew_6))), some (.own (D.lst (List.map D.int s_12.1))), none, some (.frz (D.int s_12.2)), some (.frz (D.lst (List.map D.str z_13.1))), some (.frz (D.str z_13.2)), some (.frz (D.str holder_18)), some (.frz (D.tup (List.map D.str s_20))), some (.frz (D.tup (List.map D.int after_23)))] _ _
          obtain ⟨r_24, hr_24, H⟩ := bindO H
          obtain ⟨loads_25, hloads_25, H⟩ := bindO H
          refine set_ A sc_law_other_half 3 rfl rfl (Ev.cv (Cal.ev C_law_after_b A sc_law_other_half 9 rfl (by decide) (ea_cons (nmO A sc_law_other_half 2 rfl rfl rfl) (ea_cons (nmO A sc_law_other_half 3 rfl rfl rfl) (ea_cons (nmF A sc_law_other_half 6 rfl rfl rfl) (ea_cons (nmF A sc_law_other_half 8 rfl rfl rfl) ea_nil (.inl rfl) rfl) (.inl rfl) rfl) (.inl rfl) rfl) (.inr (.inr rfl)) rfl) (.inr (.inr rfl)) (.inl rfl) rfl rfl ⟨crew_6, s_12.1, z_13.1, holder_18, r_24, rfl, hr_24, rfl, rfl⟩) (congrArg (fun x : (List Int) => (D.lst (List.map D.int x))) (Option.some.inj hloads_25))) .own rfl ?_
          show SS X [some (.bor (D.scr a_script)), some (.own (D.lst (List.map D.int head_3))), some (.own (D.lst (List.map D.str crew_6))), some (.own (D.lst (List.map D.int loads_25))), none, some (.frz (D.int s_12.2)), some (.frz (D.lst (List.map D.str z_13.1))), some (.frz (D.str z_13.2)), some (.frz (D.str holder_18)), some (.frz (D.tup (List.map D.str s_20))), some (.frz (D.tup (List.map D.int after_23)))] _ _
          obtain ⟨kept_26, hkept_26, H⟩ := bindO H
          refine set_ A sc_law_other_half 5 rfl rfl (Ev.cv (ev_add (nmF A sc_law_other_half 5 rfl rfl rfl) (int_ (bn A sc_law_other_half 10 rfl g_int bt_int) (ev_neS (nmF A sc_law_other_half 7 rfl rfl rfl) ev_str) .bl rfl)) (congrArg D.int (Option.some.inj hkept_26))) .int rfl ?_
          show SS X [some (.bor (D.scr a_script)), some (.own (D.lst (List.map D.int head_3))), some (.own (D.lst (List.map D.str crew_6))), some (.own (D.lst (List.map D.int loads_25))), none, some (.frz (D.int kept_26)), some (.frz (D.lst (List.map D.str z_13.1))), some (.frz (D.str z_13.2)), some (.frz (D.str holder_18)), some (.frz (D.tup (List.map D.str s_20))), some (.frz (D.tup (List.map D.int after_23)))] _ _
          obtain ⟨r_27, hr_27, H⟩ := bindO H
          obtain ⟨q_29, hq_29, H⟩ := bindO H
          refine ss_if (Ew.et (ew_orM (et_not (Ev.et (Cal.ev C_law_same A sc_law_other_half 11 rfl (by decide) (ea_consH (nmF A sc_law_other_half 10 rfl rfl rfl) (ea_consH (tuple_ (bn A sc_law_other_half 5 rfl g_tuple bt_tuple) (nmO A sc_law_other_half 3 rfl rfl rfl) .lst rfl) ea_nil (.inl rfl) rfl) (.inl rfl) rfl) (.inl rfl) (.inr (.inl rfl)) rfl rfl ⟨(D.tup (List.map D.int after_23)), (D.tup (List.map D.int loads_25)), r_27, rfl, hr_27, rfl, rfl⟩) fun _ => rfl)) hq_29 fun H => by obtain ⟨r_28, hr_28, H⟩ := bindO H; obtain rfl := Option.some.inj H; exact (ew_or1 (et_not (Ev.et (Cal.ev C_law_within A sc_law_other_half 12 rfl (by decide) (ea_cons (nmO A sc_law_other_half 2 rfl rfl rfl) (ea_cons (nmO A sc_law_other_half 3 rfl rfl rfl) (ea_cons (nmF A sc_law_other_half 5 rfl rfl rfl) ea_nil (.inl rfl) rfl) (.inl rfl) rfl) (.inr (.inr rfl)) rfl) (.inr (.inr rfl)) (.inr (.inl rfl)) rfl rfl ⟨crew_6, loads_25, kept_26, r_28, rfl, hr_28, rfl, rfl⟩) fun _ => rfl))))) (fun hc => ?_) (fun hc => ?_)
          · replace H := ifT H hc
            exact ss_ret ev_bl (⟨_, (Option.some.inj H).symm, rfl, .bl⟩)
          · replace H := ifF H hc
            refine ss_nil ?_
            show SS X _ _ _
            obtain rfl := Option.some.inj H
            refine ss_nil ⟨_, rfl, ?_⟩
            exact (wkr (wkr (wkr (wkr (wkn (wkr (wkn (wkn (wkn (wkn (wkn wk0)))))))))))
        · replace H := ifT hs_20 hc
          obtain ⟨having_21, hhaving_21, H⟩ := bindO H
          refine set_ A sc_law_other_half 9 rfl rfl (Ev.cv (Ev.cv (ev_tup (ea_cons (nmF A sc_law_other_half 8 rfl rfl rfl) ea_nil (.inl rfl) rfl) (.inl rfl) (le_line rfl)) rfl) (congrArg (fun x : (List Str) => (D.tup (List.map D.str x))) (Option.some.inj hhaving_21))) .cln rfl ?_
          show SS X [some (.bor (D.scr a_script)), some (.own (D.lst (List.map D.int head_3))), some (.own (D.lst (List.map D.str crew_6))), some (.own (D.lst (List.map D.int s_12.1))), none, some (.frz (D.int s_12.2)), some (.frz (D.lst (List.map D.str z_13.1))), some (.frz (D.str z_13.2)), some (.frz (D.str holder_18)), some (.frz (D.tup (List.map D.str having_21))), none] _ _
          obtain rfl := Option.some.inj H
          refine ss_nil ?_
          exact (wkr (wkr (wkr (wkr (wkn (wkr (wkr (wkr (wkr (wkr (wkn wk0)))))))))))
        · replace H := ifF hs_20 hc
          obtain rfl := Option.some.inj H
          refine ss_nil ?_
          exact (wkr (wkr (wkr (wkr (wkn (wkr (wkr (wkr (wkr (wkr (wkn wk0)))))))))))
    · replace H := ifF H hc
      refine ss_nil ?_
      show SS X _ _ _
      obtain ⟨r_30, hr_30, H⟩ := bindO H
      obtain ⟨after_31, hafter_31, H⟩ := bindO H
      refine set_ A sc_law_other_half 10 rfl rfl (Ev.cv (Cal.ev C_next_passes A sc_law_other_half 8 rfl (by decide) (ea_cons (tuple_ (bn A sc_law_other_half 5 rfl g_tuple bt_tuple) (nmO A sc_law_other_half 2 rfl rfl rfl) .lst rfl) (ea_cons (tuple_ (bn A sc_law_other_half 5 rfl g_tuple bt_tuple) (nmO A sc_law_other_half 3 rfl rfl rfl) .lst rfl) (ea_cons (tuple_ (bn A sc_law_other_half 5 rfl g_tuple bt_tuple) (nmF A sc_law_other_half 6 rfl rfl rfl) .lst rfl) (ea_cons (nmF A sc_law_other_half 9 rfl rfl rfl) (ea_cons (nmF A sc_law_other_half 7 rfl rfl rfl) (ea_cons ev_int ea_nil (.inl rfl) rfl) (.inl rfl) rfl) (.inl rfl) rfl) (.inl rfl) rfl) (.inl rfl) rfl) (.inl rfl) rfl) (.inl rfl) (.inr (.inl rfl)) rfl rfl ⟨crew_6, s_12.1, z_13.1, having_16, z_13.2, (100 : Int), r_30, rfl, hr_30, rfl, rfl⟩) (congrArg (fun x : (List Int) => (D.tup (List.map D.int x))) (Option.some.inj hafter_31))) .cln rfl ?_
      show SS X [some (.bor (D.scr a_script)), some (.own (D.lst (List.map D.int head_3))), some (.own (D.lst (List.map D.str crew_6))), some (.own (D.lst (List.map D.int s_12.1))), none, some (.frz (D.int s_12.2)), some (.frz (D.lst (List.map D.str z_13.1))), some (.frz (D.str z_13.2)), some (.frz (D.str holder_15)), some (.frz (D.tup (List.map D.str having_16))), some (.frz (D.tup (List.map D.int after_31)))] _ _
      obtain ⟨r_32, hr_32, H⟩ := bindO H
      obtain ⟨loads_33, hloads_33, H⟩ := bindO H
      refine set_ A sc_law_other_half 3 rfl rfl (Ev.cv (Cal.ev C_law_after_b A sc_law_other_half 9 rfl (by decide) (ea_cons (nmO A sc_law_other_half 2 rfl rfl rfl) (ea_cons (nmO A sc_law_other_half 3 rfl rfl rfl) (ea_cons (nmF A sc_law_other_half 6 rfl rfl rfl) (ea_cons (nmF A sc_law_other_half 8 rfl rfl rfl) ea_nil (.inl rfl) rfl) (.inl rfl) rfl) (.inl rfl) rfl) (.inr (.inr rfl)) rfl) (.inr (.inr rfl)) (.inl rfl) rfl rfl ⟨crew_6, s_12.1, z_13.1, holder_15, r_32, rfl, hr_32, rfl, rfl⟩) (congrArg (fun x : (List Int) => (D.lst (List.map D.int x))) (Option.some.inj hloads_33))) .own rfl ?_
      show SS X [some (.bor (D.scr a_script)), some (.own (D.lst (List.map D.int head_3))), some (.own (D.lst (List.map D.str crew_6))), some (.own (D.lst (List.map D.int loads_33))), none, some (.frz (D.int s_12.2)), some (.frz (D.lst (List.map D.str z_13.1))), some (.frz (D.str z_13.2)), some (.frz (D.str holder_15)), some (.frz (D.tup (List.map D.str having_16))), some (.frz (D.tup (List.map D.int after_31)))] _ _
      obtain ⟨kept_34, hkept_34, H⟩ := bindO H
      refine set_ A sc_law_other_half 5 rfl rfl (Ev.cv (ev_add (nmF A sc_law_other_half 5 rfl rfl rfl) (int_ (bn A sc_law_other_half 10 rfl g_int bt_int) (ev_neS (nmF A sc_law_other_half 7 rfl rfl rfl) ev_str) .bl rfl)) (congrArg D.int (Option.some.inj hkept_34))) .int rfl ?_
      show SS X [some (.bor (D.scr a_script)), some (.own (D.lst (List.map D.int head_3))), some (.own (D.lst (List.map D.str crew_6))), some (.own (D.lst (List.map D.int loads_33))), none, some (.frz (D.int kept_34)), some (.frz (D.lst (List.map D.str z_13.1))), some (.frz (D.str z_13.2)), some (.frz (D.str holder_15)), some (.frz (D.tup (List.map D.str having_16))), some (.frz (D.tup (List.map D.int after_31)))] _ _
      obtain ⟨r_35, hr_35, H⟩ := bindO H
      obtain ⟨q_37, hq_37, H⟩ := bindO H
      refine ss_if (Ew.et (ew_orM (et_not (Ev.et (Cal.ev C_law_same A sc_law_other_half 11 rfl (by decide) (ea_consH (nmF A sc_law_other_half 10 rfl rfl rfl) (ea_consH (tuple_ (bn A sc_law_other_half 5 rfl g_tuple bt_tuple) (nmO A sc_law_other_half 3 rfl rfl rfl) .lst rfl) ea_nil (.inl rfl) rfl) (.inl rfl) rfl) (.inl rfl) (.inr (.inl rfl)) rfl rfl ⟨(D.tup (List.map D.int after_31)), (D.tup (List.map D.int loads_33)), r_35, rfl, hr_35, rfl, rfl⟩) fun _ => rfl)) hq_37 fun H => by obtain ⟨r_36, hr_36, H⟩ := bindO H; obtain rfl := Option.some.inj H; exact (ew_or1 (et_not (Ev.et (Cal.ev C_law_within A sc_law_other_half 12 rfl (by decide) (ea_cons (nmO A sc_law_other_half 2 rfl rfl rfl) (ea_cons (nmO A sc_law_other_half 3 rfl rfl rfl) (ea_cons (nmF A sc_law_other_half 5 rfl rfl rfl) ea_nil (.inl rfl) rfl) (.inl rfl) rfl) (.inr (.inr rfl)) rfl) (.inr (.inr rfl)) (.inr (.inl rfl)) rfl rfl ⟨crew_6, loads_33, kept_34, r_36, rfl, hr_36, rfl, rfl⟩) fun _ => rfl))))) (fun hc => ?_) (fun hc => ?_)
      · replace H := ifT H hc
        exact ss_ret ev_bl (⟨_, (Option.some.inj H).symm, rfl, .bl⟩)
      · replace H := ifF H hc
        refine ss_nil ?_
        show SS X _ _ _
        obtain rfl := Option.some.inj H
        refine ss_nil ⟨_, rfl, ?_⟩
        exact (wkr (wkr (wkr (wkr (wkn (wkr (wkn (wkn (wkn (wkn (wkn wk0)))))))))))
  · intro r_38 d k e ⟨hd, hf⟩
    subst e
    subst hd
    exact ⟨(congrArg D.bl (Option.some.inj H)), (Option.some.inj H) ▸ hf⟩
  · intro s_141 e
    subst e
    exact ss_ret ev_bl (⟨(congrArg D.bl (Option.some.inj H)), .bl⟩)
def m_law (a_script : (List Int)) : Option Bool :=
  ((m_law_one_half a_script).bind fun r_1 => ((if r_1 = true then ((m_law_other_half a_script).bind fun r_2 => some r_2) else some false).bind fun q_3 => some q_3))
def R_law : Rel := fun ds d k => ∃ (a_script : (List Int)) (r : Bool), ds = [(D.scr a_script)] ∧ m_law a_script = some r ∧ d = D.bl r ∧ k = .cln
abbrev N_law : List Str := ["script"]
theorem fs_law : FnScope N_law ["script"] (defScope s_law) := ⟨rfl, rfl, rfl, by decide +kernel, rfl, by decide +kernel, by decide +kernel⟩
theorem sc_law : Sc N_law (defScope s_law) [0] [] ["_law_one_half", "_law_other_half"] := ⟨fs_law.nd, by decide +kernel⟩
theorem b_law {X : Cx} {Γ : Gd} (A : At X Γ N_law (defScope s_law) 11) (C_law_one_half : Cal Γ "_law_one_half" R_law_one_half 11 []) (C_law_other_half : Cal Γ "_law_other_half" R_law_other_half 11 []) {ds : List D} {d : D} {k : Kd} (hR : R_law ds d k) :
    SS X (env0 1 ds) (defBody s_law) { rt := fun d' k' => d' = d ∧ Fits k' k d, nx := fun _ => d = .non ∧ k = .cln } := by
  obtain ⟨a_script, r, rfl, H, rfl, rfl⟩ := hR
  unfold m_law at H
  obtain ⟨r_1, hr_1, H⟩ := bindO H
  obtain ⟨q_3, hq_3, H⟩ := bindO H
  exact ss_ret (ev_andM (Cal.ev C_law_one_half A sc_law 0 rfl (by decide) (ea_cons (nmB A sc_law 0 rfl rfl rfl) ea_nil (.inl rfl) rfl) (.inr (.inl rfl)) (.inr (.inl rfl)) rfl rfl ⟨a_script, r_1, rfl, hr_1, rfl, rfl⟩) hq_3 fun H => by obtain ⟨r_2, hr_2, H⟩ := bindO H; obtain rfl := Option.some.inj H; exact (ev_one (Cal.ev C_law_other_half A sc_law 1 rfl (by decide) (ea_cons (nmB A sc_law 0 rfl rfl rfl) ea_nil (.inl rfl) rfl) (.inr (.inl rfl)) (.inr (.inl rfl)) rfl rfl ⟨a_script, r_2, rfl, hr_2, rfl, rfl⟩))) (⟨(congrArg D.bl (Option.some.inj H)), .bl⟩)
end K23
namespace K23
open PySem L2 DL
theorem cell_ok (s : List Int) (k : Nat) (h : s.length ≤ 1000) : ∃ r, m_law_cell s k = some r := by
  have : Sm (m_law_cell s k) fun _ => True := by
    unfold m_law_cell
    refine Sm.ite (fun c => ?_) fun c => ?_
    · have c := of_decide_eq_true c
      obtain ⟨x, _, e⟩ := idxG_in (xs := s) (i := k) (by omega) c
      exact Sm.bindE e (Sm.some trivial)
    · refine Sm.bindE rfl (Sm.bindE (rng1G_eq (by omega)) (Sm.bind (Sm.foldN (fun _ _ => True) trivial fun i t hi _ => ?_) fun _ _ => Sm.some trivial))
      obtain ⟨x, _, e⟩ := idxG_in (xs := s) (i := 0 + (i : Int)) (by omega) (by omega)
      exact Sm.bindE e (Sm.bindE (mulG_l (by omega) (by omega)) (Sm.bindE rfl (Sm.some trivial)))
  obtain ⟨r, e, _⟩ := this
  exact ⟨r, e⟩
theorem mixed_ok (c : Int) (k : Nat) (h : k < 100000) : ∃ r, m_law_mixed c k = some r ∧ 0 ≤ r := by
  have : Sm (m_law_mixed c k) fun r => 0 ≤ r := by
    unfold m_law_mixed
    refine Sm.bindE rfl (Sm.bindE (mulG_l (by omega) (by omega)) (Sm.bindE rfl (Sm.bindE (mulG_l (by omega) (by omega)) (Sm.bindE rfl (Sm.some ?_)))))
    omega
  exact this
theorem pool_ok (c : Int) (n : Nat) (h : n ≤ 1000) : ∃ r, m_law_pool c n = some r ∧ r.length = n ∧ ∀ x ∈ r, 0 ≤ x := by
  have : Sm (m_law_pool c n) fun r => r.length = n ∧ ∀ x ∈ r, 0 ≤ x := by
    unfold m_law_pool
    refine Sm.bindE rfl (Sm.bindE rfl (Sm.bindE rfl (Sm.bindE (rng1G_eq (by omega)) (Sm.bind (Sm.foldN (fun i s => s.2.length = i ∧ (∀ x ∈ s.2, 0 ≤ x)) ⟨rfl, fun x hx => nomatch hx⟩ fun i s hi ⟨h1, h2⟩ => ?_) fun s hs => Sm.some hs))))
    have app : ∀ y : Int, 0 ≤ y → (s.2 ++ [y]).length = i + 1 ∧ ∀ x ∈ s.2 ++ [y], 0 ≤ x := fun y hy => ⟨by simp [h1], fun x hx => by
      rcases List.mem_append.mp hx with z | z
      · exact h2 x z
      · rw [List.mem_singleton.mp z]; exact hy⟩
    refine Sm.bind (P := fun s' => s'.2.length = i + 1 ∧ ∀ x ∈ s'.2, 0 ≤ x) (Sm.ite (fun _ => ?_) fun _ => ?_) fun s' hs' => Sm.some hs'
    · exact Sm.bindE (appG_eq (by omega)) (Sm.bindE rfl (Sm.some (app _ (by omega))))
    · obtain ⟨r, e1, e2⟩ := mixed_ok c i (by omega)
      have e1 : m_law_mixed c (0 + (i : Int)) = some r := by rw [Int.zero_add]; exact e1
      exact Sm.bindE e1 (Sm.bindE (appG_eq (by omega)) (Sm.some (app _ e2)))
  exact this
def part (pool : List Int) (spot : Nat) (under size : Int) : Int := pool.getD spot 0 / under % size
theorem part_eq {pool : List Int} {spot under size : Int} (h0 : 0 ≤ spot) (h1 : spot < pool.length) (u0 : 0 < under) (u1 : under < 1073741824) (z : 0 < size) : m_law_part pool spot under size = some (part pool spot.toNat under size) := by
  unfold m_law_part
  rw [idxG_getD 0 h0 h1]
  show ((divG _ under).bind _) = _
  rw [divG_eq u0 u1]
  show ((modG _ size).bind _) = _
  rw [modG_eq z]; rfl
theorem part_in (pool : List Int) (spot : Nat) (under size : Int) (z : 0 < size) : 0 ≤ part pool spot under size ∧ part pool spot under size < size := ⟨Int.emod_nonneg _ (by omega), Int.emod_lt_of_pos _ z⟩
theorem part_sm {pool : List Int} {spot under size : Int} (h0 : 0 ≤ spot) (h1 : spot < pool.length) (u0 : 0 < under) (u1 : under < 1073741824) (z : 0 < size) : Sm (m_law_part pool spot under size) fun r => 0 ≤ r ∧ r < size :=
  Sm.eq (part_eq h0 h1 u0 u1 z) (part_in _ _ _ _ z)
end K23
namespace K23
open PySem L2 DL
theorem mark_ne {t : Int} {i j : Nat} (ht : 0 ≤ t) (h1 : i < 6) (h2 : j < 6) (h : ((i : Int) + t) % 6 = ((j : Int) + t) % 6) : i = j := by omega
theorem letter_ne {f m n : Int} (hm : 0 ≤ m) (hm6 : m < 6) (hn : 0 ≤ n) (hn6 : n < 6) (h : (f + 7 * m) % 26 = (f + 7 * n) % 26) : m = n := by omega
theorem letter_ne' {f m n : Int} (hm : 0 ≤ m) (hm6 : m < 6) (hn : 0 ≤ n) (hn6 : n < 6) (h : 97 + ((f + 7 * m) % 26).toNat = 97 + ((f + 7 * n) % 26).toNat) : m = n := by omega
theorem names_ok {pool : List Int} {n : Nat} (hp : 5 ≤ pool.length) (hn : n ≤ 6) : Sm (m_law_names pool 0 n) fun r => r.length = n ∧ r.Nodup ∧ ∀ x ∈ r, NameOk x := by
  unfold m_law_names
  rw [abc_eq]
  refine Sm.bindE rfl (Sm.bindE rfl ?_)
  rw [show (Str.ofString "") = Sl [] by decide +kernel]
  refine Sm.bindE (rng1G_eq (n := 3) (by omega)) (Sm.bind (Sm.foldN (fun i s => ∃ l : List Nat, s = Sl l ∧ l.length = 2 * i ∧ ∀ c ∈ l, c ∈ abc) ⟨[], rfl, rfl, fun c hc => nomatch hc⟩ fun i s hi ⟨l, e, hl, ha⟩ => ?_) fun s ⟨l, e, hl, ha⟩ => ?_)
  · subst e
    refine Sm.bind (part_sm (by omega) (by omega) (by omega) (by omega) (by omega)) fun r1 ⟨a1, a2⟩ => Sm.bindE (idxSG_eq (by decide) a1 a2) (Sm.bindE (addSG_eq (by simp; omega)) ?_)
    refine Sm.bind (part_sm (by omega) (by omega) (by omega) (by omega) (by omega)) fun r2 ⟨b1, b2⟩ => Sm.bindE (idxSG_eq (by decide) b1 b2) (Sm.bindE (addSG_eq (by simp; omega)) (Sm.bindE rfl (Sm.some ⟨_, rfl, by simp; omega, fun c hc => ?_⟩)))
    rcases List.mem_append.mp hc with hc | hc
    · rcases List.mem_append.mp hc with hc | hc
      · exact ha c hc
      · rw [List.mem_singleton.mp hc]; exact abc_get (by omega)
    · rw [List.mem_singleton.mp hc]; exact abc_get (by omega)
  · subst e
    refine Sm.bind (part_sm (by omega) (by omega) (by omega) (by omega) (by omega)) fun turn ⟨t1, t2⟩ => Sm.bindE rfl ?_
    refine Sm.bind (part_sm (by omega) (by omega) (by omega) (by omega) (by omega)) fun cut ⟨c1, c2⟩ => Sm.bindE rfl ?_
    refine Sm.bind (part_sm (by omega) (by omega) (by omega) (by omega) (by omega)) fun first ⟨f1, f2⟩ => Sm.bindE rfl ?_
    refine Sm.bind (part_sm (by omega) (by omega) (by omega) (by omega) (by omega)) fun sh ⟨s1, s2⟩ => Sm.bindE (slSG_take (by omega) s1) (Sm.bindE rfl ?_)
    refine Sm.bind (part_sm (by omega) (by omega) (by omega) (by omega) (by omega)) fun ta ⟨ta1, ta2⟩ => Sm.bindE (slSG_take (by omega) ta1) (Sm.bindE rfl (Sm.bindE rfl ?_))
    have hq : m_law_part pool (0 + 4) 1 2 = some (part pool 4 1 2) := part_eq (by omega) (by omega) (by omega) (by omega) (by omega)
    let sl := l.take sh.toNat
    let tl := l.take ta.toNat
    have hsl : sl.length ≤ 6 := by show (l.take _).length ≤ 6; rw [List.length_take]; omega
    have htl : tl.length ≤ 1 := by show (l.take _).length ≤ 1; rw [List.length_take]; omega
    have asl : ∀ c ∈ sl, c ∈ abc := fun c hc => ha c (List.mem_of_mem_take hc)
    have atl : ∀ c ∈ tl, c ∈ abc := fun c hc => ha c (List.mem_of_mem_take hc)
    let mk : Nat → Int := fun k => ((k : Int) + turn) % 6
    have mk0 : ∀ k, 0 ≤ mk k ∧ mk k < 6 := fun k => ⟨Int.emod_nonneg _ (by decide), Int.emod_lt_of_pos _ (by decide)⟩
    let nm : Nat → List Nat := fun k => if part pool 4 1 2 = 0 then sl.take cut.toNat ++ ([abc.getD ((first + 7 * mk k) % 26).toNat 0] ++ (sl.drop cut.toNat ++ tl)) else l.take ((mk k).toNat + 1)
    have ok : ∀ k, NameOk (Sl (nm k)) := fun k => by
      refine ⟨_, rfl, ?_⟩
      by_cases z : part pool 4 1 2 = 0
      · rw [show nm k = sl.take cut.toNat ++ ([abc.getD ((first + 7 * mk k) % 26).toNat 0] ++ (sl.drop cut.toNat ++ tl)) from if_pos z]
        refine ⟨by simp; omega, by simp; omega, fun c hc => ?_⟩
        simp only [List.mem_append, List.mem_singleton] at hc
        rcases hc with hc | hc | hc | hc
        · exact asl c (List.mem_of_mem_take hc)
        · rw [hc]; exact abc_get (by omega)
        · exact asl c (List.mem_of_mem_drop hc)
        · exact atl c hc
      · rw [show nm k = l.take ((mk k).toNat + 1) from if_neg z]
        have := mk0 k
        refine ⟨by rw [List.length_take]; omega, by rw [List.length_take]; omega, fun c hc => ha c (List.mem_of_mem_take hc)⟩
    have inj : ∀ i j, i < 6 → j < 6 → nm i = nm j → i = j := fun i j hi hj e => by
      by_cases z : part pool 4 1 2 = 0
      · rw [show nm i = _ from if_pos z, show nm j = _ from if_pos z] at e
        have e := List.append_cancel_left e
        rw [List.singleton_append, List.singleton_append] at e
        have e := (List.cons.inj e).1
        have w : ∀ k, (((first + 7 * mk k) % 26).toNat : Nat) < 26 := fun k => by omega
        rw [abc_at _ (w i), abc_at _ (w j)] at e
        exact mark_ne t1 hi hj (letter_ne' (f := first) (mk0 i).1 (mk0 i).2 (mk0 j).1 (mk0 j).2 e)
      · rw [show nm i = _ from if_neg z, show nm j = _ from if_neg z] at e
        have e := congrArg List.length e
        rw [List.length_take, List.length_take] at e
        have := mk0 i
        have := mk0 j
        refine mark_ne (t := turn) t1 hi hj ?_
        show mk i = mk j
        omega
    refine Sm.bindE (rng1G_eq (by omega)) (Sm.bind (Sm.foldN (fun i s => s = (List.range i).map fun k => Sl (nm k)) rfl fun i s hi e => ?_) fun s e => Sm.some ?_)
    · have hi : i < n := hi
      have hm : ((0 + (i : Int)) + turn) % 6 = mk i := by show _ = ((i : Int) + turn) % 6; rw [Int.zero_add]
      refine Sm.bindE rfl (Sm.bindE hq ?_)
      rw [hm]
      refine Sm.bind (P := fun s' => s' = (List.range (i + 1)).map fun k => Sl (nm k)) ?_ fun s' h' => Sm.some h'
      have hs : s.length < 1000000 := by rw [e]; simp; omega
      refine Sm.ite (fun c => ?_) fun c => ?_
      · have z : part pool 4 1 2 = 0 := of_decide_eq_true c
        refine Sm.bindE (slSG_take (a := sl) (by omega) c1) (Sm.bindE (idxSG_eq (by decide) (by omega) (show _ < ((26 : Nat) : Int) by omega)) (Sm.bindE (addSG_eq (by simp; omega)) (Sm.bindE (slSG_drop (a := sl) (by omega) c1) (Sm.bindE (addSG_eq (by simp; omega)) (Sm.bindE (addSG_eq (a := _) (b := tl) (by simp; omega)) (Sm.bindE (appG_eq hs) (Sm.some ?_)))))))
        rw [e, List.range_succ, List.map_append]
        congr 1
        show [_] = [Sl (nm i)]
        rw [show nm i = _ from if_pos z]
        simp
      · have z : ¬ part pool 4 1 2 = 0 := of_decide_eq_false c
        have := mk0 i
        refine Sm.bindE (slSG_take (by omega) (by omega)) (Sm.bindE (appG_eq hs) (Sm.some ?_))
        rw [e, List.range_succ, List.map_append]
        congr 1
        show [_] = [Sl (nm i)]
        rw [show nm i = _ from if_neg z, show (mk i + 1).toNat = (mk i).toNat + 1 by omega]
    · subst e
      refine ⟨by simp, ?_, fun x hx => ?_⟩
      · refine List.pairwise_map.mpr (List.nodup_range.imp_of_mem fun {a b} h1 h2 h3 e => ?_)
        have h1 := List.mem_range.mp h1
        have h2 := List.mem_range.mp h2
        exact h3 (inj a b (by omega) (by omega) (Sl_inj e))
      · obtain ⟨k, _, e⟩ := List.mem_map.mp hx
        rw [← e]; exact ok k
end K23
namespace K23
open PySem L2 DL
theorem same_seq {k : Nat} (ih : ∀ {d : D}, D.gd k d = true → m_law_same (k + 1) d d = some true) (ds : List D) (h1 : D.gds k ds = true) :
    loopM (fun (s_19 : Unit) (z_20 : Int) => (((atI ds z_20).bind fun x_22 => ((atI ds z_20).bind fun x_23 => ((m_law_same (k + 1) x_22 x_23).bind fun r_24 => (if (!r_24) = true then some (Ctl.ret false) else some (Ctl.nx ()))))) : Option (Ctl Unit Bool))) () (rngI 0 ds.length) = some (.nx ()) := by
  refine loopM_nx (R := Bool) (fun _ _ => ()) fun s x hx => ?_
  obtain ⟨i, hi, e⟩ := List.mem_map.mp hx
  have hi := List.mem_range.mp hi
  subst e
  have e1 : atI ds (0 + (i : Int)) = some ds[i] := by rw [Int.zero_add]; exact idxG_nat (List.getElem?_eq_getElem hi)
  have e2 := ih (D.gds_at h1 (List.getElem_mem hi))
  show ((atI ds (0 + (i : Int))).bind _) = _
  rw [e1]
  show ((m_law_same (k + 1) ds[i] ds[i]).bind _) = _
  rw [e2]; rfl
theorem same_int (n : Nat) (i : Int) : m_law_same (n + 1) (.int i) (.int i) = some true := by
  have := eqG_self (k := 0) (d := .int i) rfl (by omega)
  rw [m_law_same]
  simp [D.isN, D.isT, isiG, D.ty, D.isi, m_law_integer, this]
theorem same_str (n : Nat) (s : Str) (h : PyData.strOk s = true) : m_law_same (n + 1) (.str s) (.str s) = some true := by
  have := eqG_self (k := 0) (d := .str s) (by simpa [D.gd] using h) (by omega)
  rw [m_law_same]
  simp [D.isN, D.isT, isiG, D.ty, D.isi, m_law_integer, this]
theorem iG {T : String} {d : D} {b : Bool} (h1 : d.ty.isSome = true) (h2 : d.isi T = b) : isiG T d = some b := by unfold isiG; rw [if_pos h1, h2]
theorem same_lst {k : Nat} (ih : ∀ {d : D}, D.gd k d = true → m_law_same (k + 1) d d = some true) (ds : List D) (h1 : D.gds k ds = true) (h : ds.length ≤ 1000000) : m_law_same (k + 1 + 1) (.lst ds) (.lst ds) = some true := by
  have e := same_seq ih ds h1
  have n1 : (D.lst ds).isN = false := rfl
  have n2 : D.isT true (D.lst ds) = false := rfl
  have n3 : D.isT false (D.lst ds) = false := rfl
  rw [m_law_same, n1, n2, n3, if_neg Bool.false_ne_true, if_neg Bool.false_ne_true, if_neg Bool.false_ne_true, iG (b := false) rfl (by simp [D.isi])]
  rw [Option.bind_some, if_neg Bool.false_ne_true, iG (b := false) rfl (by simp [D.isi])]
  rw [Option.bind_some, if_neg Bool.false_ne_true, iG (T := "tuple") (b := false) rfl (by simp [D.isi])]
  rw [Option.bind_some, if_neg Bool.false_ne_true, Option.bind_some, if_neg Bool.false_ne_true, iG (T := "list") (b := true) rfl (by simp [D.isi])]
  rw [Option.bind_some, if_pos rfl, Option.bind_some, Option.bind_some, Bool.not_true, if_neg Bool.false_ne_true]
  have e0 : lenDG (.lst ds) = some (ds.length : Int) := rfl
  rw [e0, Option.bind_some, Option.bind_some, Option.bind_some, rng1G_eq h, Option.bind_some]
  have e1 : decide ((ds.length : Int) = (ds.length : Int)) = true := decide_eq_true rfl
  rw [e1, if_neg (by decide)]
  have e2 : idxDG (.lst ds) = atI ds := rfl
  rw [e2, e]; rfl
theorem same_tup {k : Nat} (ih : ∀ {d : D}, D.gd k d = true → m_law_same (k + 1) d d = some true) (ds : List D) (h1 : D.gds k ds = true) (h : ds.length ≤ 1000000) : m_law_same (k + 1 + 1) (.tup ds) (.tup ds) = some true := by
  have e := same_seq ih ds h1
  have n1 : (D.tup ds).isN = false := rfl
  have n2 : D.isT true (D.tup ds) = false := rfl
  have n3 : D.isT false (D.tup ds) = false := rfl
  rw [m_law_same, n1, n2, n3, if_neg Bool.false_ne_true, if_neg Bool.false_ne_true, if_neg Bool.false_ne_true, iG (b := false) rfl (by simp [D.isi])]
  rw [Option.bind_some, if_neg Bool.false_ne_true, iG (b := false) rfl (by simp [D.isi])]
  rw [Option.bind_some, if_neg Bool.false_ne_true, iG (T := "tuple") (b := true) rfl (by simp [D.isi])]
  rw [Option.bind_some, if_pos rfl, Option.bind_some, Option.bind_some, Bool.not_true, if_neg Bool.false_ne_true, iG (T := "list") (b := false) rfl (by simp [D.isi])]
  rw [Option.bind_some, if_neg Bool.false_ne_true, Option.bind_some, if_neg Bool.false_ne_true]
  have e0 : lenDG (.tup ds) = some (ds.length : Int) := rfl
  rw [e0, Option.bind_some, Option.bind_some, Option.bind_some, rng1G_eq h, Option.bind_some]
  have e1 : decide ((ds.length : Int) = (ds.length : Int)) = true := decide_eq_true rfl
  rw [e1, if_neg (by decide)]
  have e2 : idxDG (.tup ds) = atI ds := rfl
  rw [e2, e]; rfl
theorem same_self : ∀ {k : Nat} {d : D}, D.gd k d = true → m_law_same (k + 1) d d = some true := by
  intro k
  induction k with
  | zero =>
    intro d h
    cases d with
    | non => simp [m_law_same, D.isN]
    | bl b => cases b <;> simp [m_law_same, D.isN, D.isT]
    | int i => exact same_int 0 i
    | str s => exact same_str 0 s (by simpa [D.gd] using h)
    | _ => simp [D.gd] at h
  | succ k ih =>
    intro d h
    cases d with
    | non => simp [m_law_same, D.isN]
    | bl b => cases b <;> simp [m_law_same, D.isN, D.isT]
    | int i => exact same_int _ i
    | str s => exact same_str _ s (by simpa [D.gd] using h)
    | lst ds =>
      rw [D.gd, Bool.and_eq_true] at h
      exact same_lst ih ds h.2 (of_decide_eq_true h.1)
    | tup ds =>
      rw [D.gd, Bool.and_eq_true] at h
      exact same_tup ih ds h.2 (of_decide_eq_true h.1)
    | _ => simp [D.gd] at h
end K23
namespace K23
open PySem L2 DL
structure CrewOk (c : List Str) : Prop where
  l1 : 1 ≤ c.length
  l4 : c.length ≤ 4
  nd : c.Nodup
  ok : ∀ x ∈ c, NameOk x
theorem NameOk.ne {x : Str} (h : NameOk x) : x ≠ Str.ofString "" := by
  obtain ⟨l, rfl, h1, _⟩ := h
  intro e
  have e2 : Sl l = Sl [] := e
  have := Sl_inj e2
  rw [this] at h1; simp at h1
theorem lit_get {xs : List Int} {i : Nat} (h : i < xs.length) : ∃ x, idxG xs (i : Int) = some x ∧ x ∈ xs := by
  have e := List.getElem?_eq_getElem h
  exact ⟨_, idxG_nat e, List.getElem_mem h⟩
theorem some_ok {pool : List Int} {spot : Int} {c : List Str} (h0 : 0 ≤ spot) (h1 : spot < pool.length) (hc : c.length ≤ 4) : Sm (m_law_some pool spot c) fun r => r.Sublist c := by
  unfold m_law_some
  refine Sm.bindE rfl (Sm.bindE (rng1G_eq (by omega)) (Sm.bind (Sm.foldN (fun i s => s.Sublist (c.take i)) (by simp) fun i s hi hs => ?_) fun s hs => Sm.some (by rw [List.take_length] at hs; exact hs)))
  rw [show (0 : Int) + (i : Int) = (i : Int) by omega]
  obtain ⟨x, e1, e2⟩ := lit_get (xs := [1, 2, 4, 8]) (i := i) (by simp; omega)
  have hx : 1 ≤ x ∧ x ≤ 8 := by
    simp only [List.mem_cons, List.not_mem_nil, or_false] at e2
    omega
  have et : c.take (i + 1) = c.take i ++ [c[i]] := by rw [List.take_add_one, List.getElem?_eq_getElem hi]; rfl
  have sl := hs.length_le
  rw [List.length_take] at sl
  refine Sm.bindE e1 (Sm.bind (part_sm h0 h1 (by omega) (by omega) (by omega)) fun r7 _ => Sm.bind (P := fun s' : List Str => s'.Sublist (c.take (i + 1))) (Sm.ite (fun _ => ?_) fun _ => ?_) fun s' hs' => Sm.some hs')
  · refine Sm.bindE (idxG_nat (List.getElem?_eq_getElem hi)) (Sm.bindE (appG_eq (by omega)) (Sm.some ?_))
    rw [et]; exact hs.append_right [c[i]]
  · refine Sm.some ?_
    rw [et]; exact hs.trans (List.sublist_append_left ..)
theorem erase_perm {α : Type} : ∀ {xs : List α} {i : Nat} {x : α}, xs[i]? = some x → (x :: xs.eraseIdx i).Perm xs
  | [], _, _, e => by simp at e
  | y :: ys, 0, x, e => by simp at e; subst e; exact .refl _
  | y :: ys, i + 1, x, e => (List.Perm.swap ..).trans ((erase_perm (xs := ys) (i := i) (by simpa using e)).cons y)
theorem shuffled_ok {pool : List Int} {spot : Int} {row : List Str} (h0 : 0 ≤ spot) (h1 : spot < pool.length) (hc : row.length ≤ 4) : Sm (m_law_shuffled pool spot row) fun r => r.Perm row := by
  unfold m_law_shuffled
  refine Sm.bindE rfl (Sm.bindE rfl (Sm.bindE (rng1G_eq (by omega)) (Sm.bind (Sm.foldN (fun i s => s.1.length + i = row.length ∧ (s.1 ++ s.2).Perm row) ⟨by simp, by simp⟩ fun i s hi ⟨s1, s2⟩ => ?_) fun s ⟨s1, s2⟩ => Sm.some ?_)))
  · rw [show (0 : Int) + (i : Int) = (i : Int) by omega]
    obtain ⟨x, e1, e2⟩ := lit_get (xs := [1, 4, 12, 24]) (i := i) (by simp; omega)
    have hx : 1 ≤ x ∧ x ≤ 24 := by
      simp only [List.mem_cons, List.not_mem_nil, or_false] at e2
      omega
    obtain ⟨y, e3, e4⟩ := lit_get (xs := [4, 3, 2, 1]) (i := i) (by simp; omega)
    have hy : 1 ≤ y := by
      simp only [List.mem_cons, List.not_mem_nil, or_false] at e4
      omega
    have sz : (s.1 ++ s.2).length ≤ 4 := by rw [s2.length_eq]; exact hc
    rw [List.length_append] at sz
    have pos : (0 : Int) < (s.1.length : Int) := by omega
    refine Sm.bindE e1 (Sm.bindE e3 (Sm.bind (part_sm h0 h1 (by omega) (by omega) (by omega)) fun r9 _ => Sm.bindE (modG_eq pos) ?_))
    have a1 := Int.emod_nonneg r9 (b := (s.1.length : Int)) (by omega)
    have a2 := Int.emod_lt_of_pos r9 pos
    obtain ⟨z, e5, e6⟩ := popG_in (xs := s.1) a1 a2 (by omega)
    refine Sm.bindE e6 (Sm.bindE (appG_eq (by omega)) (Sm.some ⟨?_, ?_⟩))
    · have hl := (List.getElem?_eq_some_iff.mp e5).1
      show (s.1.eraseIdx _).length + (i + 1) = row.length
      rw [List.length_eraseIdx_of_lt hl]; omega
    · refine List.Perm.trans ?_ s2
      show (s.1.eraseIdx _ ++ (s.2 ++ [z])).Perm (s.1 ++ s.2)
      rw [← List.append_assoc]
      refine List.perm_append_comm.trans ?_
      rw [List.singleton_append, ← List.cons_append]
      exact (erase_perm e5).append_right _
  · have : s.1 = [] := List.length_eq_zero_iff.mp (by omega)
    rw [this, List.nil_append] at s2
    exact s2
end K23
namespace K23
open PySem L2 DL
abbrev Case := (List Int) × (List Str) × (List Str) × (List Str) × Str × Int × (List Str) × (Option Int)
structure CaseOk (c : List Str) (x : Case) : Prop where
  ll : x.1.length = c.length
  lb : ∀ y ∈ x.1, y ≤ x.2.2.2.2.2.1
  ws : x.2.1.Sublist c
  tu : x.2.2.1.Perm x.2.1
  hv : x.2.2.2.1.length ≤ 4
  la : x.2.2.2.2.1 = Str.ofString "" ∨ x.2.2.2.2.1 ∈ c
  ls : ∀ y ∈ x.2.2.2.2.2.2.1, y ∈ c
  lz : x.2.2.2.2.2.2.1.length ≤ 4
theorem take_of {α : Type} {xs c : List α} {r : Int} (h : xs.Perm c) (hc : c.length ≤ 4) (h0 : 0 ≤ r) : (cutX xs none (some r)).length ≤ 4 ∧ ∀ y ∈ cutX xs none (some r), y ∈ c := by
  rw [cutX_take h0]
  refine ⟨Nat.le_trans (List.length_take_le' ..) (by rw [h.length_eq]; exact hc), fun y hy => h.mem_iff.mp (List.mem_of_mem_take hy)⟩
theorem case_ok {pool : List Int} {c : List Str} (hp : pool.length = 7) (hc : CrewOk c) : Sm (m_law_case pool c) (CaseOk c) := by
  unfold m_law_case
  have P := fun (spot under size : Int) (h0 : 0 ≤ spot) (h1 : spot < 7) (u0 : 0 < under) (u1 : under < 1000) (z : 0 < size) => part_sm (pool := pool) (spot := spot) h0 (by omega) u0 (show under < 1073741824 by omega) z
  have c4 := hc.l4
  have c1 := hc.l1
  refine Sm.bind (P 0 1 5 (by omega) (by omega) (by omega) (by omega) (by omega)) fun r1 ⟨a1, a2⟩ => ?_
  obtain ⟨base, b1, b2⟩ : ∃ x, idxG [(0 : Int), (0 : Int), (0 : Int), (1000000000 : Int), (100000000000000000000000000000000000000000000000000000000000 : Int)] r1 = some x ∧ 0 ≤ x := by
    obtain ⟨x, e1, e2⟩ := lit_get (xs := [(0 : Int), (0 : Int), (0 : Int), (1000000000 : Int), (100000000000000000000000000000000000000000000000000000000000 : Int)]) (i := r1.toNat) (by simp; omega)
    rw [Int.toNat_of_nonneg a1] at e1
    refine ⟨x, e1, ?_⟩
    simp only [List.mem_cons, List.not_mem_nil, or_false] at e2
    omega
  refine Sm.bindE b1 (Sm.bindE rfl (Sm.bind (P 0 5 6 (by omega) (by omega) (by omega) (by omega) (by omega)) fun r4 ⟨a3, a4⟩ => Sm.bindE rfl (Sm.bindE rfl (Sm.bindE (rng1G_eq (by omega)) ?_))))
  have hcr : 0 ≤ base + r4 := by omega
  generalize base + r4 = crest at hcr
  refine Sm.bind (Sm.foldN (fun i s => s.length = i ∧ ∀ y ∈ s, y ≤ crest) ⟨rfl, fun y hy => nomatch hy⟩ fun i s hi ⟨s1, s2⟩ => ?_) fun loads ⟨l1, l2⟩ => ?_
  · rw [show (0 : Int) + (i : Int) = (i : Int) by omega]
    obtain ⟨x, e1, e2⟩ := lit_get (xs := [1, 6, 36, 216]) (i := i) (by simp; omega)
    have hx : 1 ≤ x ∧ x ≤ 216 := by
      simp only [List.mem_cons, List.not_mem_nil, or_false] at e2
      omega
    refine Sm.bindE e1 (Sm.bind (P 1 x 6 (by omega) (by omega) (by omega) (by omega) (by omega)) fun r12 ⟨z1, z2⟩ => Sm.bindE (appG_eq (by omega)) (Sm.some ⟨by simp [s1], fun y hy => ?_⟩))
    rcases List.mem_append.mp hy with z | z
    · exact s2 y z
    · rw [List.mem_singleton.mp z]; split <;> omega
  refine Sm.bind (some_ok (pool := pool) (by omega) (by omega) c4) fun wishes hw => Sm.bindE rfl (Sm.bindE rfl (Sm.bind (P 2 16 4 (by omega) (by omega) (by omega) (by omega) (by omega)) fun way _ => Sm.bindE rfl ?_))
  have w4 : wishes.length ≤ 4 := Nat.le_trans hw.length_le c4
  refine Sm.bind (P := fun h : List Str => h.length ≤ 4) (Sm.ite (fun _ => Sm.bind (shuffled_ok (pool := pool) (by omega) (by omega) w4) fun q hq => Sm.bindE rfl (Sm.some (take_of hq w4 (by omega)).1)) fun _ => Sm.some (by simp)) fun h1 hh1 => ?_
  refine Sm.bind (P := fun h : List Str => h.length ≤ 4) (Sm.ite (fun _ => Sm.bind (shuffled_ok (pool := pool) (by omega) (by omega) w4) fun q hq => Sm.bindE rfl (Sm.some (take_of hq w4 (by omega)).1)) fun _ => Sm.some hh1) fun h2 hh2 => ?_
  refine Sm.bind (P := fun h : List Str => h.length ≤ 4) (Sm.ite (fun _ => Sm.bind (shuffled_ok (pool := pool) (by omega) (by omega) c4) fun q hq => Sm.bind (P 3 24 5 (by omega) (by omega) (by omega) (by omega) (by omega)) fun r ⟨x1, x2⟩ => Sm.bindE rfl (Sm.some (take_of hq c4 x1).1)) fun _ => Sm.some hh2) fun h3 hh3 => ?_
  refine Sm.bindE (catG_eq (by simp; omega)) (Sm.bind (P 4 1 8 (by omega) (by omega) (by omega) (by omega) (by omega)) fun r30 _ => Sm.bindE (modG_eq (by omega)) ?_)
  have m1 := Int.emod_nonneg r30 (b := (c.length : Int) + 4) (by omega)
  have m2 := Int.emod_lt_of_pos r30 (b := (c.length : Int) + 4) (by omega)
  obtain ⟨late, e1, e2⟩ := idxG_in (xs := c ++ [Str.ofString "", Str.ofString "", Str.ofString "", Str.ofString ""]) m1 (by simp; omega)
  have hl : late = Str.ofString "" ∨ late ∈ c := by
    have := List.mem_of_getElem? e1
    simp only [List.mem_append, List.mem_cons, List.not_mem_nil, or_false] at this
    rcases this with h | h | h | h | h <;> simp [h]
  refine Sm.bindE e2 (Sm.bindE rfl (Sm.bind (shuffled_ok (pool := pool) (by omega) (by omega) c4) fun q hq => Sm.bind (P 5 24 5 (by omega) (by omega) (by omega) (by omega) (by omega)) fun r ⟨x1, x2⟩ => Sm.bindE rfl ?_))
  have hls := take_of hq c4 x1
  refine Sm.bind (P 4 8 7 (by omega) (by omega) (by omega) (by omega) (by omega)) fun _ _ => Sm.bind (P 4 56 2 (by omega) (by omega) (by omega) (by omega) (by omega)) fun _ _ => Sm.bindE rfl ?_
  refine Sm.bind (P 4 112 6 (by omega) (by omega) (by omega) (by omega) (by omega)) fun _ _ => Sm.bind (P := fun _ => True) (Sm.ite (fun _ => Sm.bindE rfl (Sm.some trivial)) fun _ => Sm.some trivial) fun _ _ => ?_
  refine Sm.bind (P 4 112 6 (by omega) (by omega) (by omega) (by omega) (by omega)) fun _ _ => Sm.bind (P := fun _ => True) (Sm.ite (fun _ => Sm.bindE rfl (Sm.some trivial)) fun _ => Sm.some trivial) fun cap _ => ?_
  exact Sm.bind (shuffled_ok (pool := pool) (by omega) (by omega) w4) fun t ht => Sm.some ⟨l1, l2, hw, ht, hh3, hl, hls.2, hls.1⟩
end K23
namespace K23
open PySem L2 DL
def wt (c : List Str) (ls : List Int) (m : Str) : Int := (dGet (dZip c ls) m).getD 0
structure Wts (c : List Str) (ls : List Int) : Prop where
  nd : c.Nodup
  len : ls.length = c.length
theorem Wts.at_ {c : List Str} {ls : List Int} (h : Wts c ls) {i : Nat} {m : Str} (e : c[i]? = some m) : dGet (dZip c ls) m = some (wt c ls m) ∧ fndG c m = some (i : Int) ∧ ls[i]? = some (wt c ls m) ∧ idxG ls (i : Int) = some (wt c ls m) := by
  have hi := (List.getElem?_eq_some_iff.mp e).1
  have hl : i < ls.length := by rw [h.len]; exact hi
  have e2 := List.getElem?_eq_getElem hl
  have eg := dGet_zip h.nd e e2
  have ew : wt c ls m = ls[i] := by unfold wt; rw [eg]; rfl
  rw [ew]
  exact ⟨eg, fndG_at h.nd e, e2, idxG_nat e2⟩
theorem Wts.mem {c : List Str} {ls : List Int} (h : Wts c ls) {m : Str} (e : m ∈ c) : dGet (dZip c ls) m = some (wt c ls m) ∧ ∃ i : Int, fndG c m = some i ∧ idxG ls i = some (wt c ls m) := by
  obtain ⟨i, hi, rfl⟩ := List.getElem_of_mem e
  obtain ⟨h1, h2, _, h3⟩ := h.at_ (List.getElem?_eq_getElem hi)
  exact ⟨h1, _, h2, h3⟩
theorem passed_eq {cand takers : List Str} {keeper : Str} (h : cand.length ≤ 1000000) : m_passed_over cand takers keeper = some (cand.filter fun z => !decide (z ∈ takers) && !decide (z = keeper)) := by
  unfold m_passed_over
  rw [lcG_eq h, Option.bind_some, List.map_id']
def nextF (c : List Str) (ls : List Int) (wishes takers : List Str) (keeper : Str) (most : Int) : List Int :=
  (c.zip ls).map fun p => if p.1 ∈ takers ∨ p.1 = keeper then 0 else if p.1 ∈ wishes then (if most < p.2 + 1 then most else p.2 + 1) else p.2
theorem nextF_congr {c : List Str} {ls : List Int} {w1 w2 takers : List Str} {keeper : Str} {most : Int} (h : ∀ z, z ∈ w1 ↔ z ∈ w2) : nextF c ls w1 takers keeper most = nextF c ls w2 takers keeper most := by
  unfold nextF
  refine List.map_congr_left fun p _ => ?_
  simp only [h]
theorem next_eq {c : List Str} {ls : List Int} {cand takers : List Str} {keeper : Str} {most : Int} (h : cand.length ≤ 1000000) (hc : c.length ≤ 1000) : m_next_passes c ls cand takers keeper most = some (nextF c ls cand takers keeper most) := by
  unfold m_next_passes
  rw [passed_eq h, Option.bind_some, Option.bind_some, Option.bind_some]
  rw [foldlM_app (fun p : Str × Int => if p.1 ∈ takers ∨ p.1 = keeper then 0 else if p.1 ∈ cand then (if most < p.2 + 1 then most else p.2 + 1) else p.2)]
  · rfl
  · rw [List.length_nil, List.length_zip]; omega
  · intro s x hx hs
    have ap : ∀ y : Int, appG s y = some (s ++ [y]) := fun y => appG_eq hs
    simp only [ap, Option.bind_some]
    by_cases h1 : x.1 ∈ takers
    · simp [h1]
    · by_cases h2 : x.1 = keeper
      · simp [h2]
      · by_cases h3 : x.1 ∈ cand
        · simp [h1, h2, h3]
        · simp [h1, h2, h3]
theorem cnt_eq {c : List Str} {i : Int} {m : Str} {xs : List Str} (e : idxG c i = some m) (h : xs.length ≤ 1000000) :
    ((lcG xs).bind fun ys => (lcM (fun z : Str => ((idxG c i).bind fun x => some (decide (z = x)))) (fun z : Str => some (1 : Int)) ys).bind fun zs => some (zs.length : Int)) = some ((xs.filter fun z => decide (z = m)).length : Int) := by
  rw [lcG_eq h, Option.bind_some, lcM_eq (fun z => decide (z = m)) (fun _ => 1) (fun z _ => ⟨by rw [e]; rfl, fun _ => rfl⟩), Option.bind_some, List.length_map]
theorem cnt_pos {xs : List Str} {m : Str} : (0 : Int) < ((xs.filter fun z => decide (z = m)).length : Int) ↔ m ∈ xs := by
  constructor
  · intro h
    have : 0 < (xs.filter fun z => decide (z = m)).length := by omega
    obtain ⟨y, hy⟩ := List.exists_mem_of_length_pos this
    obtain ⟨h1, h2⟩ := List.mem_filter.mp hy
    rw [← of_decide_eq_true h2]; exact h1
  · intro h
    have : m ∈ xs.filter fun z => decide (z = m) := List.mem_filter.mpr ⟨h, by simp⟩
    have := List.length_pos_of_mem this
    omega
theorem after_eq {c : List Str} {x : Case} (hc : CrewOk c) (hx : CaseOk c x) : m_law_after c x = some (nextF c x.1 x.2.1 x.2.2.2.1 x.2.2.2.2.1 x.2.2.2.2.2.1) := by
  obtain ⟨ls, wishes, turned, having, late, crest, listed, cap⟩ := x
  have l1 : ls.length = c.length := hx.ll
  have hv : having.length ≤ 4 := hx.hv
  have lb : ∀ y ∈ ls, y ≤ crest := hx.lb
  have c4 := hc.l4
  have w4 : wishes.length ≤ 4 := Nat.le_trans (List.Sublist.length_le hx.ws) c4
  have : Sm (m_law_after c (ls, wishes, turned, having, late, crest, listed, cap)) (· = nextF c ls wishes having late crest) := by
    unfold m_law_after
    refine Sm.bindE rfl (Sm.bindE rfl (Sm.bindE (rng1G_eq (by omega)) (Sm.bind (Sm.foldN (fun i s => s = (nextF c ls wishes having late crest).take i) rfl fun i s hi hs => ?_) fun s hs => Sm.some ?_)))
    · rw [show (0 : Int) + (i : Int) = (i : Int) by omega]
      subst hs
      have ec := List.getElem?_eq_getElem hi
      have el := List.getElem?_eq_getElem (l := ls) (i := i) (by omega)
      have en : (nextF c ls wishes having late crest)[i]? = some (if c[i] ∈ having ∨ c[i] = late then 0 else if c[i] ∈ wishes then (if crest < ls[i] + 1 then crest else ls[i] + 1) else ls[i]) := by
        unfold nextF
        rw [List.getElem?_map, (List.getElem?_zip_eq_some (z := (c[i], ls[i]))).mpr ⟨ec, el⟩]; rfl
      have sl : ((nextF c ls wishes having late crest).take i).length ≤ 4 := by
        refine Nat.le_trans (List.length_take_le' ..) ?_
        unfold nextF; rw [List.length_map, List.length_zip]; omega
      have et : (nextF c ls wishes having late crest).take (i + 1) = (nextF c ls wishes having late crest).take i ++ [if c[i] ∈ having ∨ c[i] = late then 0 else if c[i] ∈ wishes then (if crest < ls[i] + 1 then crest else ls[i] + 1) else ls[i]] := by
        rw [List.take_add_one, en]; rfl
      rw [et]
      generalize (nextF c ls wishes having late crest).take i = s at sl
      have ei := idxG_nat ec
      have eil := idxG_nat el
      have ap : ∀ y : Int, appG s y = some (s ++ [y]) := fun y => appG_eq (by omega)
      have hb := lb _ (List.getElem_mem (l := ls) (n := i) (by omega))
      refine Sm.bindE (catG_eq (by simp; omega)) (Sm.bindE (lcG_eq (by simp; omega)) (Sm.bindE (lcM_eq (fun z => decide (z = c[i])) (fun _ => 1) (fun z _ => ⟨by rw [ei]; rfl, fun _ => rfl⟩)) (Sm.bindE rfl ?_)))
      refine Sm.bindE (lcG_eq (by show wishes.length ≤ _; omega)) (Sm.bindE (lcM_eq (fun z => decide (z = c[i])) (fun _ => 1) (fun z _ => ⟨by rw [ei]; rfl, fun _ => rfl⟩)) (Sm.bindE rfl ?_))
      simp only [List.length_map, cnt_pos, ap, eil, Option.bind_some, List.mem_append, List.mem_singleton, decide_eq_true_eq]
      by_cases h1 : c[i] ∈ having ∨ c[i] = late
      · rw [if_pos h1, if_pos h1]; exact Sm.some rfl
      · rw [if_neg h1, if_neg h1]
        by_cases h2 : c[i] ∈ wishes
        · rw [if_pos h2, if_pos h2]
          by_cases h3 : ls[i] < crest
          · rw [if_neg (show ¬ crest < ls[i] + 1 by omega)]
            simp only [Option.bind_some, decide_eq_true h3, if_true]
            exact Sm.some rfl
          · rw [if_pos (show crest < ls[i] + 1 by omega)]
            simp only [Option.bind_some, decide_eq_false h3, Bool.false_eq_true, if_false]
            have : ls[i] = crest := by omega
            rw [this]; exact Sm.some rfl
        · rw [if_neg h2, if_neg h2]
          simp only [Option.bind_some, Bool.false_eq_true, if_false]
          exact Sm.some rfl
    · rw [hs, List.take_of_length_le]
      unfold nextF; rw [List.length_map, List.length_zip]; omega
  obtain ⟨r, e, rfl⟩ := this
  exact e
def overF (c : List Str) (ls : List Int) (listed : List Str) : Option Int → Option Str
  | none => none
  | some v => listed.find? fun z => decide (v ≤ wt c ls z)
theorem find_rev {α : Type} (p : α → Bool) : ∀ xs : List α, xs.reverse.foldl (fun s z => if p z = true then some z else s) none = xs.find? p
  | [] => rfl
  | x :: xs => by
    rw [List.reverse_cons, List.foldl_append, find_rev p xs, List.find?_cons]
    cases q : p x <;> simp [q]
theorem over_eq {c : List Str} {ls : List Int} (h : Wts c ls) {listed : List Str} {cap : Option Int} (hl : ∀ y ∈ listed, y ∈ c) : m_first_over c ls listed cap = some (overF c ls listed cap) ∧ m_law_over c ls listed cap = some (overF c ls listed cap) := by
  constructor
  · unfold m_first_over
    cases cap with
    | none => rfl
    | some v =>
      show ((loopM _ _ _).bind _) = _
      rw [loopM_find (fun z => decide (v ≤ wt c ls z)) (fun z => some z) (fun z hz => ?_)]
      · unfold overF
        rw [Option.bind_some]
        simp only
        cases listed.find? fun z => decide (v ≤ wt c ls z) with
        | none => rfl
        | some z => rfl
      · rw [(h.mem (hl z hz)).1]
        show (if decide (v ≤ wt c ls z) = true then _ else _) = _
        split <;> rfl
  · unfold m_law_over
    rw [Option.bind_some]
    cases cap with
    | none =>
      refine Eq.trans (congrArg (fun o => Option.bind o _) (foldlM_pure (fun s _ => s) fun s x _ => rfl)) ?_
      show some _ = some _
      unfold overF
      congr 1
      have : ∀ (xs : List Str) (s : Option Str), xs.foldl (fun s _ => s) s = s := fun xs => by induction xs with
        | nil => intro s; rfl
        | cons x xs ih => intro s; exact ih s
      exact this _ _
    | some v =>
      rw [foldlM_pure (fun s z => if decide (v ≤ wt c ls z) = true then some z else s) (fun s z hz => ?_)]
      · rw [find_rev]; rfl
      · obtain ⟨_, i, e1, e2⟩ := h.mem (hl z (List.mem_reverse.mp hz))
        rw [e1, Option.bind_some, e2]
        show ((if decide (v ≤ wt c ls z) = true then _ else _ : Option (Option Str)).bind _) = _
        split <;> rfl
def longF (w : Str → Int) (b : Str) (z : Str) : Str := if b = Str.ofString "" ∨ w b < w z then z else b
def longR (w : Str → Int) (b : Str) (z : Str) : Str := if b = Str.ofString "" ∨ w b ≤ w z then z else b
def longL (w : Str → Int) (xs : List Str) : Str := xs.foldr (fun z b => longR w b z) (Str.ofString "")
theorem long_from (w : Str → Int) : ∀ (xs : List Str) (b : Str), (∀ x ∈ xs, x ≠ Str.ofString "") → b ≠ Str.ofString "" → xs.foldl (longF w) b = if longL w xs = Str.ofString "" ∨ w (longL w xs) ≤ w b then b else longL w xs
  | [], b, _, _ => by simp [longL]
  | x :: xs, b, h, hb => by
    have hx := h x (List.mem_cons_self ..)
    have h' : ∀ y ∈ xs, y ≠ Str.ofString "" := fun y hy => h y (List.mem_cons_of_mem _ hy)
    have step : longF w b x = if w b < w x then x else b := by unfold longF; simp [hb]
    have eL : longL w (x :: xs) = longR w (longL w xs) x := rfl
    have nb : longF w b x ≠ Str.ofString "" := by rw [step]; split <;> assumption
    rw [List.foldl_cons, long_from w xs _ h' nb, step, eL]
    unfold longR
    generalize longL w xs = t
    by_cases h1 : t = Str.ofString ""
    · simp only [h1, true_or, if_true, hx, false_or]
      by_cases h2 : w b < w x
      · rw [if_pos h2, if_neg (by omega)]
      · rw [if_neg h2, if_pos (by omega)]
    · simp only [h1, false_or]
      by_cases h2 : w t ≤ w x
      · simp only [h2, if_true, hx, false_or]
        by_cases h3 : w b < w x
        · simp only [h3, if_true, h2]; rw [if_neg (by omega)]
        · simp only [h3, if_false]; rw [if_pos (by omega), if_pos (by omega)]
      · simp only [h2, if_false, h1, false_or]
        by_cases h3 : w b < w x
        · simp only [h3, if_true, h2, if_false]; rw [if_neg (by omega)]
        · simp only [h3, if_false]
theorem long_same (w : Str → Int) {xs : List Str} (h : ∀ x ∈ xs, x ≠ Str.ofString "") : xs.foldl (longF w) (Str.ofString "") = longL w xs := by
  cases xs with
  | nil => rfl
  | cons x xs =>
    have hx := h x (List.mem_cons_self ..)
    have : longF w (Str.ofString "") x = x := by unfold longF; simp
    rw [List.foldl_cons, this, long_from w xs x (fun y hy => h y (List.mem_cons_of_mem _ hy)) hx]
    rfl
theorem long_mem (w : Str → Int) : ∀ (xs : List Str), longL w xs = Str.ofString "" ∨ longL w xs ∈ xs
  | [] => .inl rfl
  | x :: xs => by
    have eL : longL w (x :: xs) = longR w (longL w xs) x := rfl
    rw [eL]; unfold longR
    split
    · exact .inr (List.mem_cons_self ..)
    · next h => rcases long_mem w xs with z | z
                · exact absurd (.inl z) h
                · exact .inr (List.mem_cons_of_mem _ z)
theorem longest_eq {c : List Str} {ls : List Int} (h : Wts c ls) (hn : ∀ x ∈ c, x ≠ Str.ofString "") {ws : List Str} (hw : ∀ y ∈ ws, y ∈ c) : m_longest c ls ws = some (longL (wt c ls) ws) ∧ m_law_longest c ls ws = some (longL (wt c ls) ws) := by
  constructor
  · unfold m_longest
    rw [Option.bind_some, Option.bind_some]
    have := (foldlM_pureI (xs := ws) (s0 := Str.ofString "") (step := fun (s_3 : (Str)) (z_4 : Str) => ((if (decide (s_3 = ("" : Str))) = true then some true else ((dGet (dZip c ls) z_4).bind fun x_6 => ((dGet (dZip c ls) s_3).bind fun x_7 => some (decide (x_7 < x_6))))).bind fun q_8 => ((if q_8 = true then ((some z_4).bind fun chosen_10 => some chosen_10) else some s_3 : Option (Str)).bind fun s_9 => some s_9)))
      (longF (wt c ls)) (fun s => s = Str.ofString "" ∨ s ∈ c) (.inl rfl) fun s z hz hs => ?_).1
    · rw [this, Option.bind_some, long_same (wt c ls) fun x hx => hn x (hw x hx)]
    · refine ⟨?_, by unfold longF; split; exact .inr (hw z hz); exact hs⟩
      by_cases h1 : s = Str.ofString ""
      · subst h1; unfold longF; simp
      · have hs' : s ∈ c := hs.resolve_left h1
        rw [decide_eq_false h1, if_neg Bool.false_ne_true, (h.mem (hw z hz)).1, (h.mem hs').1]
        unfold longF
        simp only [Option.bind_some, h1, false_or, decide_eq_true_eq]
        split <;> rfl
  · unfold m_law_longest
    rw [Option.bind_some]
    have := (foldlM_pureI (xs := ws.reverse) (s0 := Str.ofString "") (step := fun (s_2 : (Str)) (z_3 : Str) => ((if (decide (s_2 = ("" : Str))) = true then some true else ((fndG c z_3).bind fun i_5 => ((idxG ls i_5).bind fun x_6 => ((fndG c s_2).bind fun i_7 => ((idxG ls i_7).bind fun x_8 => some (decide (x_8 ≤ x_6))))))).bind fun q_9 => ((if q_9 = true then ((some z_3).bind fun best_11 => some best_11) else some s_2 : Option (Str)).bind fun s_10 => some s_10)))
      (longR (wt c ls)) (fun s => s = Str.ofString "" ∨ s ∈ c) (.inl rfl) fun s z hz hs => ?_).1
    · rw [this, Option.bind_some, List.foldl_reverse]; rfl
    · have hz := hw z (List.mem_reverse.mp hz)
      refine ⟨?_, by unfold longR; split; exact .inr hz; exact hs⟩
      by_cases h1 : s = Str.ofString ""
      · subst h1; unfold longR; simp
      · have hs' : s ∈ c := hs.resolve_left h1
        obtain ⟨_, i, e1, e2⟩ := h.mem hz
        obtain ⟨_, j, e3, e4⟩ := h.mem hs'
        rw [decide_eq_false h1, if_neg Bool.false_ne_true, e1]
        simp only [Option.bind_some, e2, e3, e4]
        unfold longR
        simp only [h1, false_or, decide_eq_true_eq]
        split <;> rfl
end K23
namespace K23
open PySem L2 DL
theorem gd_strT {k : Nat} {ns : List Str} (hl : ns.length ≤ 1000000) (h : ∀ s ∈ ns, PyData.strOk s = true) : D.gd (k + 1) (.tup (ns.map D.str)) = true := by
  rw [D.gd, Bool.and_eq_true]
  refine ⟨decide_eq_true (by rw [List.length_map]; exact hl), D.gds_mem fun d hd => ?_⟩
  obtain ⟨x, hx, e⟩ := List.mem_map.mp hd
  subst e; rw [D.gd]; exact h x hx
theorem gd_intT {k : Nat} {ns : List Int} (hl : ns.length ≤ 1000000) : D.gd (k + 1) (.tup (ns.map D.int)) = true := by
  rw [D.gd, Bool.and_eq_true]
  refine ⟨decide_eq_true (by rw [List.length_map]; exact hl), D.gds_mem fun d hd => ?_⟩
  obtain ⟨x, hx, e⟩ := List.mem_map.mp hd
  subst e; rw [D.gd]
theorem gd_lst {k : Nat} {ds : List D} (hl : ds.length ≤ 1000000) (h : ∀ d ∈ ds, D.gd k d = true) : D.gd (k + 1) (.lst ds) = true := by
  rw [D.gd, Bool.and_eq_true]
  exact ⟨decide_eq_true hl, D.gds_mem h⟩
theorem strOk_nil : PyData.strOk (Str.ofString "") = true := by decide +kernel
def pas (ws having : List Str) (late : Str) : List Str := ws.filter fun z => !decide (z ∈ having) && !decide (z = late)
def nx (c : List Str) (x : Case) : List Int := nextF c x.1 x.2.1 x.2.2.2.1 x.2.2.2.2.1 x.2.2.2.2.2.1
def toldF (c : List Str) (x : Case) : List D := [.tup ((pas x.2.1 x.2.2.2.1 x.2.2.2.2.1).map D.str), .tup ((pas x.2.2.1 x.2.2.2.1 x.2.2.2.2.1).map D.str), .tup ((nx c x).map D.int), .tup ((nx c x).map D.int),
  enO D.str (overF c x.1 x.2.2.2.2.2.2.1 x.2.2.2.2.2.2.2), .str (longL (wt c x.1) x.2.1), .str (longL (wt c x.1) x.2.2.1)]
section
variable {c : List Str} {x : Case}
theorem CaseOk.wts (hc : CrewOk c) (hx : CaseOk c x) : Wts c x.1 := ⟨hc.nd, hx.ll⟩
theorem CaseOk.w4 (hc : CrewOk c) (hx : CaseOk c x) : x.2.1.length ≤ 4 := Nat.le_trans hx.ws.length_le hc.l4
theorem CaseOk.t4 (hc : CrewOk c) (hx : CaseOk c x) : x.2.2.1.length ≤ 4 := by rw [hx.tu.length_eq]; exact hx.w4 hc
theorem CaseOk.wc (hx : CaseOk c x) : ∀ y ∈ x.2.1, y ∈ c := fun y hy => hx.ws.subset hy
theorem CaseOk.tc (hx : CaseOk c x) : ∀ y ∈ x.2.2.1, y ∈ c := fun y hy => hx.wc y (hx.tu.mem_iff.mp hy)
theorem nx_len (hc : CrewOk c) : (nx c x).length ≤ 4 := by
  unfold nx nextF
  rw [List.length_map, List.length_zip]
  have := hc.l4; omega
theorem by_place (hc : CrewOk c) (hx : CaseOk c x) : m_law_by_place c x = some (toldF c x) := by
  have w4 := hx.w4 hc
  have t4 := hx.t4 hc
  have c4 := hc.l4
  have hn : ∀ z ∈ c, z ≠ Str.ofString "" := fun z hz => K23.NameOk.ne (hc.ok z hz)
  have n2 : m_next_passes c x.1 x.2.2.1 x.2.2.2.1 x.2.2.2.2.1 x.2.2.2.2.2.1 = some (nx c x) := by
    rw [next_eq (by omega) (by omega)]; congr 1; exact nextF_congr fun z => hx.tu.mem_iff
  unfold m_law_by_place
  rw [Option.bind_some, passed_eq (by omega), Option.bind_some, passed_eq (by omega), Option.bind_some, Option.bind_some, next_eq (by omega) (by omega), Option.bind_some, appG_eq (by simp), Option.bind_some,
    n2, Option.bind_some, appG_eq (by simp), Option.bind_some, (over_eq (hx.wts hc) hx.ls).1, Option.bind_some, appG_eq (by simp), Option.bind_some, (longest_eq (hx.wts hc) hn hx.wc).1, Option.bind_some, appG_eq (by simp), Option.bind_some,
    (longest_eq (hx.wts hc) hn hx.tc).1, Option.bind_some, appG_eq (by simp), Option.bind_some]
  rfl
theorem by_name (hc : CrewOk c) (hx : CaseOk c x) : m_law_by_name c x = some (toldF c x) := by
  have w4 := hx.w4 hc
  have t4 := hx.t4 hc
  have c4 := hc.l4
  have hn : ∀ z ∈ c, z ≠ Str.ofString "" := fun z hz => K23.NameOk.ne (hc.ok z hz)
  have n2 : m_next_passes c x.1 x.2.2.1 x.2.2.2.1 x.2.2.2.2.1 x.2.2.2.2.2.1 = some (nx c x) := by
    rw [next_eq (by omega) (by omega)]; congr 1; exact nextF_congr fun z => hx.tu.mem_iff
  unfold m_law_by_name
  rw [Option.bind_some, passed_eq (by omega), Option.bind_some, Option.bind_some, passed_eq (by omega), Option.bind_some, appG_eq (by simp), Option.bind_some, next_eq (by omega) (by omega), Option.bind_some, appG_eq (by simp), Option.bind_some,
    n2, Option.bind_some, appG_eq (by simp), Option.bind_some, (over_eq (hx.wts hc) hx.ls).1, Option.bind_some, appG_eq (by simp), Option.bind_some, (longest_eq (hx.wts hc) hn hx.wc).1, Option.bind_some, appG_eq (by simp), Option.bind_some,
    (longest_eq (hx.wts hc) hn hx.tc).1, Option.bind_some, appG_eq (by simp), Option.bind_some]
  rfl
theorem pas_comm (ws having : List Str) (late : Str) : ((ws.filter fun z => (!decide (z = late)) && (!decide (z ∈ having))).map fun z => z) = pas ws having late := by
  rw [List.map_id']
  unfold pas
  exact List.filter_congr fun z _ => Bool.and_comm ..
theorem due (hc : CrewOk c) (hx : CaseOk c x) : m_law_due c x = some (toldF c x) := by
  have w4 := hx.w4 hc
  have t4 := hx.t4 hc
  have c4 := hc.l4
  have hn : ∀ z ∈ c, z ≠ Str.ofString "" := fun z hz => K23.NameOk.ne (hc.ok z hz)
  unfold m_law_due
  rw [Option.bind_some, Option.bind_some, foldlM_app (fun z : List Str => D.tup ((pas z x.2.2.2.1 x.2.2.2.2.1).map D.str)) (by simp) (fun s z hz hs => by
    have hz4 : z.length ≤ 4 := by
      rcases List.mem_cons.mp hz with e | e
      · rw [e]; exact w4
      · rw [List.mem_singleton.mp e]; exact t4
    rw [lcG_eq (by omega), Option.bind_some, pas_comm, appG_eq hs]; rfl)]
  rw [Option.bind_some, after_eq hc hx, Option.bind_some, Option.bind_some, (over_eq (hx.wts hc) hx.ls).2, Option.bind_some, catG_eq (by simp), Option.bind_some, Option.bind_some, (longest_eq (hx.wts hc) hn hx.wc).2, Option.bind_some,
    (longest_eq (hx.wts hc) hn hx.tc).2, Option.bind_some, catG_eq (by simp), Option.bind_some]
  rfl
theorem told_gd (hc : CrewOk c) (hx : CaseOk c x) : D.gd 7 (.lst (List.map (fun x : D => x) (toldF c x))) = true := by
  rw [List.map_id']
  have w4 := hx.w4 hc
  have t4 := hx.t4 hc
  have so : ∀ z, z = Str.ofString "" ∨ z ∈ c → PyData.strOk z = true := fun z h => by
    rcases h with h | h
    · rw [h]; exact strOk_nil
    · exact (hc.ok z h).strOk
  have pl : ∀ ws : List Str, ws.length ≤ 4 → (pas ws x.2.2.2.1 x.2.2.2.2.1).length ≤ 1000000 := fun ws h => Nat.le_trans (List.length_filter_le ..) (by omega)
  refine gd_lst (by simp [toldF]) fun d hd => ?_
  have n4 := nx_len (x := x) hc
  simp only [toldF, List.mem_cons, List.not_mem_nil, or_false] at hd
  rcases hd with h | h | h | h | h | h | h <;> subst h
  · exact gd_strT (pl _ w4) fun s hs => so s (.inr (hx.wc s (List.mem_filter.mp hs).1))
  · exact gd_strT (pl _ t4) fun s hs => so s (.inr (hx.tc s (List.mem_filter.mp hs).1))
  · exact gd_intT (by omega)
  · exact gd_intT (by omega)
  · cases e : overF c x.1 x.2.2.2.2.2.2.1 x.2.2.2.2.2.2.2 with
    | none => rfl
    | some z =>
      show D.gd 6 (D.str z) = true
      rw [D.gd]
      refine so z (.inr ?_)
      unfold overF at e
      split at e
      · cases e
      · exact hx.ls z (List.mem_of_find?_eq_some e)
  · rw [D.gd]; exact so _ ((long_mem ..).imp_right (hx.wc _))
  · rw [D.gd]; exact so _ ((long_mem ..).imp_right (hx.tc _))
end
theorem crew_ok {s : List Int} (h : s.length ≤ 1000) (n : Nat) (hn : 6 ≤ n ∧ n ≤ 1000) : ∃ r head, m_law_cell s 0 = some r ∧ m_law_pool r n = some head ∧ head.length = n ∧ (∀ x ∈ head, 0 ≤ x) ∧
    ∃ p, m_law_part head 5 1 4 = some p ∧ 0 ≤ p ∧ p < 4 ∧ ∃ c, m_law_names head 0 (1 + p) = some c ∧ CrewOk c := by
  obtain ⟨r, e1⟩ := cell_ok s 0 h
  obtain ⟨head, e2, l2, p2⟩ := pool_ok r n (by omega)
  obtain ⟨p, e3, p3, p4⟩ := part_sm (pool := head) (spot := 5) (under := 1) (size := 4) (by omega) (by omega) (by omega) (by omega) (by omega)
  obtain ⟨c, e4, c1, c2, c3⟩ := names_ok (pool := head) (n := (1 + p).toNat) (by omega) (by omega)
  rw [Int.toNat_of_nonneg (by omega)] at e4
  exact ⟨r, head, e1, e2, l2, p2, p, e3, p3, p4, c, e4, by omega, by omega, c2, c3⟩
theorem one_half {s : List Int} (h : s.length ≤ 63) : m_law_one_half s = some true := by
  obtain ⟨r, head, e1, e2, l2, p2, p, e3, p3, p4, c, e4, hc⟩ := crew_ok (s := s) (by omega) 6 (by omega)
  have : Sm (m_law_one_half s) (· = true) := by
    unfold m_law_one_half
    refine Sm.bindE e1 (Sm.bindE e2 (Sm.bindE rfl (Sm.bindE e3 (Sm.bindE e4 (Sm.bindE rfl (Sm.bindE (rng1G_eq (n := 3) (by omega)) (Sm.bindE (lcG_eq (by rw [rngI_length]; omega)) ?_)))))))
    refine Sm.bind (P := fun cases => ∀ x ∈ cases, CaseOk c x) ?_ fun cases hcs => ?_
    · have : ∀ ys : List Int, (∀ y ∈ ys, 0 ≤ y ∧ y < 3) → Sm (lcM (fun z_9 : Int => some true) (fun z_9 : Int => ((m_law_cell s ((1 : Int) + z_9)).bind fun r_10 => ((m_law_pool r_10 (7 : Int)).bind fun r_11 => ((m_law_case r_11 c).bind fun r_12 => some r_12)))) ys) fun cases => ∀ x ∈ cases, CaseOk c x := fun ys => by
        induction ys with
        | nil => intro _; exact Sm.some fun x hx => nomatch hx
        | cons y ys ih =>
          intro hy
          obtain ⟨y0, y1⟩ := hy y (List.mem_cons_self ..)
          unfold lcM
          refine Sm.bindE rfl ?_
          rw [if_pos rfl]
          refine Sm.bind (P := CaseOk c) ?_ fun x hx => Sm.bind (ih fun z hz => hy z (List.mem_cons_of_mem _ hz)) fun xs hxs => Sm.some fun z hz => ?_
          · obtain ⟨r, q1⟩ := cell_ok s (1 + y).toNat (by omega)
            rw [Int.toNat_of_nonneg (by omega)] at q1
            obtain ⟨pl, q2, q3, q4⟩ := pool_ok r 7 (by omega)
            exact Sm.bindE q1 (Sm.bindE q2 (Sm.bind (case_ok q3 hc) fun x hx => Sm.some hx))
          · rcases List.mem_cons.mp hz with e | e
            · rw [e]; exact hx
            · exact hxs z e
      exact this _ fun y hy => by have := rngI_mem hy; omega
    · refine Sm.bindE rfl (Sm.bindE (loopM_unit fun x hx => ?_) ?_)
      · rw [by_place hc (hcs x hx), Option.bind_some, due hc (hcs x hx), Option.bind_some, same_self (told_gd hc (hcs x hx))]; rfl
      · refine Sm.bindE (loopM_unit fun x hx => ?_) (Sm.some rfl)
        rw [by_name hc (hcs x hx), Option.bind_some, due hc (hcs x hx), Option.bind_some, same_self (told_gd hc (hcs x hx))]; rfl
  obtain ⟨b, e, rfl⟩ := this
  exact e
end K23
namespace K23
open PySem L2 DL
theorem rounds_ok {s : List Int} {c : List Str} (h : s.length ≤ 1000) (hc : CrewOk c) : Sm (m_law_rounds s c) fun rs => rs.length ≤ 60 ∧ ∀ x ∈ rs, x.1.Sublist c ∧ (x.2 = Str.ofString "" ∨ x.2 ∈ c) := by
  have c4 := hc.l4
  have c1 := hc.l1
  unfold m_law_rounds
  obtain ⟨r1, e1⟩ := cell_ok s 0 h
  obtain ⟨head, e2, l2, p2⟩ := pool_ok r1 8 (by omega)
  obtain ⟨r3, e3⟩ := cell_ok s 1 h
  obtain ⟨wishing, e4, l4, p4⟩ := pool_ok r3 60 (by omega)
  obtain ⟨r5, e5⟩ := cell_ok s 2 h
  obtain ⟨keeping, e6, l6, p6⟩ := pool_ok r5 60 (by omega)
  refine Sm.bindE e1 (Sm.bindE e2 (Sm.bindE rfl (Sm.bindE e3 (Sm.bindE e4 (Sm.bindE rfl (Sm.bindE e5 (Sm.bindE e6 (Sm.bindE rfl ?_))))))))
  have PH := fun (spot under size : Int) (h0 : 0 ≤ spot) (h1 : spot < 8) (u0 : 0 < under) (u1 : under < 1000) (z : 0 < size) => part_sm (pool := head) (spot := spot) h0 (by omega) u0 (show under < 1073741824 by omega) z
  refine Sm.bind (PH 6 1 6 (by omega) (by omega) (by omega) (by omega) (by omega)) fun r10 ⟨a1, a2⟩ => ?_
  obtain ⟨x, e7, _⟩ := lit_get (xs := [0, 1, 3, 8, 15, 16]) (i := r10.toNat) (by simp; omega)
  rw [Int.toNat_of_nonneg a1] at e7
  refine Sm.bindE e7 (Sm.bindE rfl (Sm.bindE rfl (Sm.bind (PH 7 1 60 (by omega) (by omega) (by omega) (by omega) (by omega)) fun r14 ⟨a3, a4⟩ => ?_)))
  have er : (1 : Int) + r14 = ((1 + r14).toNat : Nat) := by omega
  have hn : (1 + r14).toNat ≤ 60 := by omega
  rw [er]
  generalize (1 + r14).toNat = n at hn
  refine Sm.bindE (rng1G_eq (by omega)) (Sm.bind (Sm.foldN (fun i s => s.length = i ∧ ∀ x ∈ s, x.1.Sublist c ∧ (x.2 = Str.ofString "" ∨ x.2 ∈ c)) ⟨rfl, fun x hx => nomatch hx⟩ fun i s hi ⟨s1, s2⟩ => ?_) fun rs ⟨x1, x2⟩ => Sm.some ⟨by omega, x2⟩)
  rw [show (0 : Int) + (i : Int) = (i : Int) by omega]
  have PW := fun (under size : Int) (u0 : 0 < under) (u1 : under < 1000) (z : 0 < size) => part_sm (pool := wishing) (spot := (i : Int)) (by omega) (by omega) u0 (show under < 1073741824 by omega) z
  have PK := fun (under size : Int) (u0 : 0 < under) (u1 : under < 1000) (z : 0 < size) => part_sm (pool := keeping) (spot := (i : Int)) (by omega) (by omega) u0 (show under < 1073741824 by omega) z
  refine Sm.bind (some_ok (pool := wishing) (by omega) (by omega) c4) fun wishes hw => Sm.bindE rfl (Sm.bind (PW 16 3 (by omega) (by omega) (by omega)) fun _ _ => ?_)
  refine Sm.bind (P := fun _ => True) (Sm.ite (fun _ => Sm.bind (PH 6 144 3 (by omega) (by omega) (by omega) (by omega) (by omega)) fun _ _ => Sm.some trivial) fun _ => Sm.some trivial) fun q _ => ?_
  refine Sm.bind (P := fun w : List Str => w.Sublist c) (Sm.ite (fun _ => Sm.bindE rfl (Sm.some (List.Sublist.refl _))) fun _ => Sm.some hw) fun w hw => Sm.bindE rfl ?_
  have pick : ∀ r : Int, Sm (modG r (c.length : Int)) fun n => ∃ y, idxG c n = some y ∧ y ∈ c := fun r => by
    have a1 := Int.emod_nonneg r (b := (c.length : Int)) (by omega)
    have a2 := Int.emod_lt_of_pos r (b := (c.length : Int)) (by omega)
    obtain ⟨y, g1, g2⟩ := idxG_in (xs := c) a1 a2
    exact Sm.eq (modG_eq (by omega)) ⟨y, g2, List.mem_of_getElem? g1⟩
  refine Sm.bind (PK 1 16 (by omega) (by omega) (by omega)) fun _ _ => Sm.bind (P := fun l : Str => l = Str.ofString "" ∨ l ∈ c) (Sm.ite (fun _ => ?_) fun _ => Sm.some (.inl rfl)) fun l hl => Sm.bindE (appG_eq (by omega)) (Sm.some ⟨by simp [s1], fun z hz => ?_⟩)
  · refine Sm.bind (PK 16 12 (by omega) (by omega) (by omega)) fun _ _ => Sm.bind (pick _) fun n ⟨y, g1, g2⟩ => Sm.bindE g1 (Sm.bindE rfl (Sm.bind (PH 6 6 2 (by omega) (by omega) (by omega) (by omega) (by omega)) fun _ _ => ?_))
    refine Sm.bind (P := fun l : Str => l ∈ c) (Sm.ite (fun _ => Sm.bind (PH 6 12 12 (by omega) (by omega) (by omega) (by omega) (by omega)) fun _ _ => Sm.bind (pick _) fun n ⟨y, g1, g2⟩ => Sm.bindE g1 (Sm.bindE rfl (Sm.some g2))) fun _ => Sm.some g2) fun l hl => Sm.some (.inr hl)
  · rcases List.mem_append.mp hz with e | e
    · exact s2 z e
    · rw [List.mem_singleton.mp e]; exact ⟨hw, hl⟩
def stepB (c : List Str) (ls : List Int) (wishes : List Str) (holder : Str) : List Int := (c.zip ls).map fun p => if p.1 = holder then 0 else if p.1 ∈ wishes then p.2 + 1 else p.2
theorem afterb_eq {c : List Str} {ls : List Int} {wishes : List Str} {holder : Str} (hc : CrewOk c) (hl : ls.length = c.length) : m_law_after_b c ls wishes holder = some (stepB c ls wishes holder) := by
  have c4 := hc.l4
  have : Sm (m_law_after_b c ls wishes holder) (· = stepB c ls wishes holder) := by
    unfold m_law_after_b
    refine Sm.bindE rfl (Sm.bindE (rng1G_eq (by omega)) (Sm.bind (Sm.foldN (fun i s => s = (stepB c ls wishes holder).take i) rfl fun i s hi hs => ?_) fun s hs => Sm.some ?_))
    · rw [show (0 : Int) + (i : Int) = (i : Int) by omega]
      subst hs
      have ec := List.getElem?_eq_getElem hi
      have el := List.getElem?_eq_getElem (l := ls) (i := i) (by omega)
      have en : (stepB c ls wishes holder)[i]? = some (if c[i] = holder then 0 else if c[i] ∈ wishes then ls[i] + 1 else ls[i]) := by
        unfold stepB
        rw [List.getElem?_map, (List.getElem?_zip_eq_some (z := (c[i], ls[i]))).mpr ⟨ec, el⟩]; rfl
      have sl : ((stepB c ls wishes holder).take i).length ≤ 4 := by
        refine Nat.le_trans (List.length_take_le' ..) ?_
        unfold stepB; rw [List.length_map, List.length_zip]; omega
      have et : (stepB c ls wishes holder).take (i + 1) = (stepB c ls wishes holder).take i ++ [if c[i] = holder then 0 else if c[i] ∈ wishes then ls[i] + 1 else ls[i]] := by
        rw [List.take_add_one, en]; rfl
      rw [et]
      generalize (stepB c ls wishes holder).take i = s at sl
      have ap : ∀ y : Int, appG s y = some (s ++ [y]) := fun y => appG_eq (by omega)
      simp only [idxG_nat ec, idxG_nat el, Option.bind_some, ap, decide_eq_true_eq]
      by_cases h1 : c[i] = holder
      · rw [if_pos h1, if_pos h1]; exact Sm.some rfl
      · rw [if_neg h1, if_neg h1]
        by_cases h2 : c[i] ∈ wishes
        · rw [if_pos h2, if_pos h2]; exact Sm.some rfl
        · rw [if_neg h2, if_neg h2]; exact Sm.some rfl
    · rw [hs, List.take_of_length_le]
      unfold stepB; rw [List.length_map, List.length_zip]; omega
  obtain ⟨r, e, rfl⟩ := this
  exact e
theorem next_step {c : List Str} {ls : List Int} {wishes having : List Str} {late holder : Str} {most : Int} (h : ∀ m ∈ c, (m ∈ having ∨ m = late) ↔ m = holder) (hb : ∀ y ∈ ls, y + 1 ≤ most) : nextF c ls wishes having late most = stepB c ls wishes holder := by
  unfold nextF stepB
  refine List.map_congr_left fun p hp => ?_
  obtain ⟨h1, h2⟩ := List.of_mem_zip hp
  simp only [h p.1 h1]
  have := hb p.2 h2
  rw [if_neg (show ¬ most < p.2 + 1 by omega)]
def cnt (j : Int) (ls : List Int) : Int := ((ls.filter fun z => decide (j ≤ z)).length : Int)
theorem filt_le {α : Type} {p q : α → Bool} : ∀ {xs : List α}, (∀ x ∈ xs, p x = true → q x = true) → (xs.filter p).length ≤ (xs.filter q).length
  | [], _ => Nat.le_refl _
  | x :: xs, h => by
    have ih := filt_le (xs := xs) fun y hy => h y (List.mem_cons_of_mem _ hy)
    have hx := h x (List.mem_cons_self ..)
    rw [List.filter_cons, List.filter_cons]
    cases e1 : p x with
    | true => rw [hx e1]; simpa using ih
    | false => cases e2 : q x <;> simp <;> omega
theorem filt_lt {α : Type} {p q : α → Bool} : ∀ {xs : List α} {y : α}, (∀ x ∈ xs, p x = true → q x = true) → y ∈ xs → p y = false → q y = true → (xs.filter p).length + 1 ≤ (xs.filter q).length
  | x :: xs, y, h, hy, e1, e2 => by
    have ih := filt_le (xs := xs) fun y hy => h y (List.mem_cons_of_mem _ hy)
    have hx := h x (List.mem_cons_self ..)
    rw [List.filter_cons, List.filter_cons]
    rcases List.mem_cons.mp hy with z | z
    · subst z; rw [e1, e2]; simpa using ih
    · have ih := filt_lt (xs := xs) (fun y hy => h y (List.mem_cons_of_mem _ hy)) z e1 e2
      cases e3 : p x with
      | true => rw [hx e3]; simp; omega
      | false => cases e4 : q x <;> simp <;> omega
theorem cnt_step {c : List Str} {ls : List Int} {wishes : List Str} {holder : Str} (j : Int) : cnt j (stepB c ls wishes holder) = (((c.zip ls).filter fun p => decide (j ≤ if p.1 = holder then 0 else if p.1 ∈ wishes then p.2 + 1 else p.2)).length : Int) := by
  unfold cnt stepB
  rw [List.filter_map, List.length_map]; rfl
theorem cnt_zip {c : List Str} {ls : List Int} (hl : ls.length = c.length) (j : Int) : cnt j ls = (((c.zip ls).filter fun p => decide (j ≤ p.2)).length : Int) := by
  have : ls = (c.zip ls).map (·.2) := (List.map_snd_zip (by omega)).symm
  unfold cnt
  conv => lhs; rw [this]
  rw [List.filter_map, List.length_map]; rfl
structure Inv (c : List Str) (ls : List Int) (kept : Int) : Prop where
  len : ls.length = c.length
  k0 : 0 ≤ kept
  cn : ∀ j, kept < j → j ≤ kept + c.length → cnt j ls ≤ (c.length : Int) - j + kept
theorem Inv.top {c : List Str} {ls : List Int} {kept : Int} (h : Inv c ls kept) (hc : CrewOk c) : ∀ y ∈ ls, y ≤ (c.length : Int) - 1 + kept := fun y hy => by
  have c1 := hc.l1
  have := h.cn (kept + c.length) (by omega) (by omega)
  by_cases z : y ≤ (c.length : Int) - 1 + kept
  · exact z
  · have : y ∈ ls.filter fun z => decide (kept + (c.length : Int) ≤ z) := List.mem_filter.mpr ⟨hy, decide_eq_true (by omega)⟩
    have := List.length_pos_of_mem this
    unfold cnt at *
    omega
theorem Inv.late {c : List Str} {ls : List Int} {kept : Int} (h : Inv c ls kept) {wishes : List Str} {holder : Str} : Inv c (stepB c ls wishes holder) (kept + 1) := by
  have k0 := h.k0
  refine ⟨by unfold stepB; rw [List.length_map, List.length_zip, h.len]; omega, by omega, fun j h1 h2 => ?_⟩
  have := h.cn (j - 1) (by omega) (by omega)
  rw [cnt_zip h.len] at this
  rw [cnt_step]
  have le := filt_le (xs := c.zip ls) (p := fun p => decide (j ≤ if p.1 = holder then 0 else if p.1 ∈ wishes then p.2 + 1 else p.2)) (q := fun p => decide (j - 1 ≤ p.2)) fun p _ hp => by
    have hp := of_decide_eq_true hp
    refine decide_eq_true ?_
    split at hp
    · omega
    · split at hp <;> omega
  omega
theorem longL_ge (w : Str → Int) : ∀ (xs : List Str), (∀ x ∈ xs, x ≠ Str.ofString "") → ∀ x ∈ xs, longL w xs ≠ Str.ofString "" ∧ w x ≤ w (longL w xs)
  | x :: xs, h, y, hy => by
    have hx := h x (List.mem_cons_self ..)
    have ih := longL_ge w xs fun z hz => h z (List.mem_cons_of_mem _ hz)
    have eL : longL w (x :: xs) = longR w (longL w xs) x := rfl
    rw [eL]; unfold longR
    by_cases h1 : longL w xs = Str.ofString "" ∨ w (longL w xs) ≤ w x
    · rw [if_pos h1]
      refine ⟨hx, ?_⟩
      rcases List.mem_cons.mp hy with z | z
      · rw [z]; exact Int.le_refl _
      · obtain ⟨i1, i2⟩ := ih y z
        have := h1.resolve_left i1
        omega
    · rw [if_neg h1]
      refine ⟨fun z => h1 (.inl z), ?_⟩
      rcases List.mem_cons.mp hy with z | z
      · rw [z]
        have : ¬ w (longL w xs) ≤ w x := fun z => h1 (.inr z)
        omega
      · exact (ih y z).2
theorem Inv.turn {c : List Str} {ls : List Int} {kept : Int} (h : Inv c ls kept) (hc : CrewOk c) {wishes : List Str} (hw : ∀ y ∈ wishes, y ∈ c) : Inv c (stepB c ls wishes (longL (wt c ls) wishes)) kept := by
  have k0 := h.k0
  have W : Wts c ls := ⟨hc.nd, h.len⟩
  have hn : ∀ z ∈ c, z ≠ Str.ofString "" := fun z hz => K23.NameOk.ne (hc.ok z hz)
  have hnw : ∀ z ∈ wishes, z ≠ Str.ofString "" := fun z hz => hn z (hw z hz)
  have wp : ∀ p ∈ c.zip ls, p.2 = wt c ls p.1 := fun p hp => by
    obtain ⟨i, hi, e⟩ := List.getElem_of_mem hp
    have e1 : (c.zip ls)[i]? = some p := by rw [List.getElem?_eq_getElem hi, e]
    obtain ⟨e2, e3⟩ := List.getElem?_zip_eq_some.mp e1
    have := (W.at_ e2).2.2.1
    rw [e3] at this
    exact Option.some.inj this
  refine ⟨by unfold stepB; rw [List.length_map, List.length_zip, h.len]; omega, k0, fun j h1 h2 => ?_⟩
  have I0 := h.cn j h1 h2
  rw [cnt_step]
  generalize hH : longL (wt c ls) wishes = H
  have mx : ∀ x ∈ wishes, H ≠ Str.ofString "" ∧ wt c ls x ≤ wt c ls H := hH ▸ longL_ge (wt c ls) wishes hnw
  have hm : H = Str.ofString "" ∨ H ∈ wishes := hH ▸ long_mem (wt c ls) wishes
  by_cases big : H ∈ wishes ∧ j - 1 ≤ wt c ls H
  · obtain ⟨b1, b2⟩ := big
    obtain ⟨i, hi, ei⟩ := List.getElem_of_mem (hw H b1)
    have e2 : c[i]? = some H := by rw [List.getElem?_eq_getElem hi, ei]
    have e3 := (W.at_ e2).2.2.1
    have hp : (H, wt c ls H) ∈ c.zip ls := List.mem_of_getElem? (i := i) (List.getElem?_zip_eq_some.mpr ⟨e2, e3⟩)
    have lt := filt_lt (xs := c.zip ls) (p := fun p => decide (j ≤ if p.1 = H then 0 else if p.1 ∈ wishes then p.2 + 1 else p.2)) (q := fun p => decide (j - 1 ≤ p.2)) (y := (H, wt c ls H)) (fun p _ hp => by
      have hp := of_decide_eq_true hp
      refine decide_eq_true ?_
      split at hp
      · omega
      · split at hp <;> omega) hp (by simp; omega) (decide_eq_true b2)
    by_cases z : kept < j - 1
    · have := h.cn (j - 1) z (by omega)
      rw [cnt_zip h.len] at this
      omega
    · have : ((c.zip ls).filter fun p => decide (j - 1 ≤ p.2)).length ≤ (c.zip ls).length := List.length_filter_le ..
      rw [List.length_zip] at this
      omega
  · have le := filt_le (xs := c.zip ls) (p := fun p => decide (j ≤ if p.1 = H then 0 else if p.1 ∈ wishes then p.2 + 1 else p.2)) (q := fun p => decide (j ≤ p.2)) fun p hp hj => by
      have hj := of_decide_eq_true hj
      refine decide_eq_true ?_
      split at hj
      · omega
      · split at hj
        · next hw1 =>
          obtain ⟨m1, m2⟩ := mx p.1 hw1
          have := wp p hp
          have : ¬ j - 1 ≤ wt c ls H := fun z => big ⟨hm.resolve_left m1, z⟩
          omega
        · exact hj
    rw [cnt_zip h.len] at I0
    omega
theorem chosen_eq {c : List Str} {ls : List Int} (hc : CrewOk c) (hl : ls.length = c.length) {wishes : List Str} (hw : ∀ y ∈ wishes, y ∈ c) (w4 : wishes.length ≤ 4) : m_law_chosen c ls wishes (longL (wt c ls) wishes) = some true := by
  have W : Wts c ls := ⟨hc.nd, hl⟩
  have hn : ∀ z ∈ wishes, z ≠ Str.ofString "" := fun z hz => K23.NameOk.ne (hc.ok z (hw z hz))
  unfold m_law_chosen
  rw [show (D.lst (List.map D.int [])) = D.lst [] from rfl, eqG_nil (k := 7) (gd_lst (by rw [List.length_map]; omega) fun d hd => by
    obtain ⟨x, hx, rfl⟩ := List.mem_map.mp hd
    rw [D.gd]; exact (hc.ok x (hw x hx)).strOk) (by omega), Option.bind_some]
  cases wishes with
  | nil => rfl
  | cons x xs =>
    rw [List.map_cons, List.isEmpty_cons, if_neg Bool.false_ne_true]
    have hx := longL_ge (wt c ls) (x :: xs) hn
    have hne := (hx x (List.mem_cons_self ..)).1
    have hm := (long_mem (wt c ls) (x :: xs)).resolve_left hne
    generalize longL (wt c ls) (x :: xs) = H at *
    rw [decide_eq_true hm, Bool.not_true, if_neg Bool.false_ne_true]
    rw [loopM_unit fun y hy => ?_]
    · rfl
    · obtain ⟨_, i, e1, e2⟩ := W.mem (hw y hy)
      obtain ⟨_, j, e3, e4⟩ := W.mem (hw H hm)
      simp only [e1, e2, e3, e4, Option.bind_some]
      rw [if_neg]
      have := (hx y hy).2
      simp only [decide_eq_true_eq]; omega
theorem within_eq {c : List Str} {ls : List Int} {kept : Int} (hc : CrewOk c) (h : Inv c ls kept) (hk : kept ≤ 60) : m_law_within c ls kept = some true := by
  have c4 := hc.l4
  have c1 := hc.l1
  have k0 := h.k0
  unfold m_law_within
  have en : ((kept + (c.length : Int)) + 1 - (kept + 1)).toNat = c.length := by omega
  rw [Option.bind_some, rng2G_eq (by omega) (by omega) (by omega) (by omega), Option.bind_some, en, loopM_unit fun j hj => ?_]
  · rw [Option.bind_some]
    have hne : ls ≠ [] := fun e => by have := h.len; rw [e] at this; simp at this; omega
    obtain ⟨m, e⟩ : ∃ m, maxG ls = some m := by
      cases ls with
      | nil => exact absurd rfl hne
      | cons x xs => exact ⟨_, rfl⟩
    show ((maxG ls).bind _) = _
    rw [e, Option.bind_some, decide_eq_true (h.top hc m (maxG_ok e).1)]
  · obtain ⟨j1, j2⟩ := rngI_mem hj
    rw [lcG_eq (by rw [h.len]; omega), Option.bind_some, List.map_id']
    have := h.cn j (by omega) (by omega)
    unfold cnt at this
    rw [if_neg]
    simp only [decide_eq_true_eq]; omega
theorem sameI (ls : List Int) (h : ls.length ≤ 1000) : m_law_same 8 (D.tup (ls.map D.int)) (D.tup (ls.map D.int)) = some true := same_self (gd_intT (by omega))
theorem other_half {s : List Int} (h : s.length ≤ 63) : m_law_other_half s = some true := by
  obtain ⟨r, head, e1, e2, l2, p2, p, e3, p3, p4, c, e4, hc⟩ := crew_ok (s := s) (by omega) 8 (by omega)
  have c4 := hc.l4
  have c1 := hc.l1
  have hn : ∀ z ∈ c, z ≠ Str.ofString "" := fun z hz => K23.NameOk.ne (hc.ok z hz)
  have : Sm (m_law_other_half s) (· = true) := by
    unfold m_law_other_half
    refine Sm.bindE e1 (Sm.bindE e2 (Sm.bindE rfl (Sm.bindE e3 (Sm.bindE e4 (Sm.bindE rfl (Sm.bindE (lcG_eq (by omega)) (Sm.bindE rfl (Sm.bindE rfl (Sm.bind (rounds_ok (by omega) hc) fun rs ⟨q1, q2⟩ => ?_)))))))))
    refine Sm.bind (Sm.loop (fun (p : List (List Str × Str)) (t : List Int × Int) => Inv c t.1 t.2 ∧ t.2 ≤ (p.length : Int)) ⟨⟨by rw [List.length_map], Int.le_refl _, fun j h1 h2 => ?_⟩, Int.le_refl _⟩ fun p x q t ex ⟨hI, hk⟩ => ?_) fun _ ⟨t, e, _⟩ => ?_
    · have : cnt j (c.map fun _ => (0 : Int)) = 0 := by
        unfold cnt
        rw [List.filter_eq_nil_iff.mpr fun y hy => ?_]; rfl
        obtain ⟨_, _, rfl⟩ := List.mem_map.mp hy
        simp only [decide_eq_true_eq]; omega
      rw [this]; omega
    · obtain ⟨ws, late⟩ := x
      obtain ⟨ls, kept⟩ := t
      have hx : (ws, late) ∈ rs := by rw [ex]; simp
      obtain ⟨w1, w2⟩ := q2 _ hx
      have w1 : ws.Sublist c := w1
      have w2 : late = Str.ofString "" ∨ late ∈ c := w2
      have hw : ∀ y ∈ ws, y ∈ c := fun y hy => w1.subset hy
      have w4 : ws.length ≤ 4 := Nat.le_trans w1.length_le c4
      have hpl : p.length + 1 ≤ 60 := by
        have := congrArg List.length ex
        rw [List.length_append, List.length_cons] at this; omega
      have hI : Inv c ls kept := hI
      have hk : kept ≤ p.length := hk
      have tp := hI.top hc
      have b100 : ∀ y ∈ ls, y + 1 ≤ 100 := fun y hy => by have := tp y hy; omega
      have W : Wts c ls := ⟨hc.nd, hI.len⟩
      refine Sm.bindE rfl (Sm.bindE rfl (Sm.ite (fun cl => ?_) fun cl => ?_))
      · have cl : late = Str.ofString "" := of_decide_eq_true cl
        subst cl
        have ht := hI.turn hc hw
        have hm := long_mem (wt c ls) ws
        have hce := chosen_eq hc hI.len hw w4
        refine Sm.bindE (longest_eq W hn hw).1 (Sm.bindE rfl (Sm.bindE hce ?_))
        generalize longL (wt c ls) ws = H at *
        rw [Bool.not_true, if_neg Bool.false_ne_true]
        refine Sm.bind (P := fun hv : List Str => hv.length ≤ 1 ∧ ∀ m ∈ c, (m ∈ hv ∨ m = Str.ofString "") ↔ m = H) (Sm.ite (fun z => Sm.bindE rfl (Sm.some ⟨by simp, fun m hm => ?_⟩)) fun z => Sm.some ⟨by simp, fun m hm => ?_⟩) fun hv ⟨_, hhv⟩ => ?_
        · have := hn m hm
          simp [this]
        · have z : H = Str.ofString "" := by simpa using z
          rw [z]; simp
        · refine Sm.bindE (next_eq (by show ws.length ≤ _; omega) (by omega)) (Sm.bindE rfl (Sm.bindE (afterb_eq hc hI.len) (Sm.bindE rfl (Sm.bindE rfl ?_))))
          rw [next_step hhv b100]
          have ek : kept + (if (!(decide (Str.ofString "" = Str.ofString ""))) = true then 1 else 0 : Int) = kept := by simp
          refine Sm.bindE (sameI _ (by rw [ht.len]; omega)) (Sm.bindE (a := false) ?_ ?_)
          · show ((m_law_within c _ (kept + _)).bind _) = _
            rw [ek, within_eq hc ht (by omega)]; rfl
          · refine Sm.some ⟨_, rfl, ?_, ?_⟩
            · show Inv c _ (kept + _)
              rw [ek]; exact ht
            · show kept + _ ≤ _
              rw [ek, List.length_append]; simp; omega
      · have cl : ¬ late = Str.ofString "" := of_decide_eq_false cl
        have ht : Inv c (stepB c ls ws late) (kept + 1) := hI.late
        refine Sm.bindE (next_eq (by show ws.length ≤ _; omega) (by omega)) (Sm.bindE rfl (Sm.bindE (afterb_eq hc hI.len) (Sm.bindE rfl (Sm.bindE rfl ?_))))
        rw [next_step (holder := late) (fun m _ => by simp) b100]
        have ek : kept + (if (!(decide (late = Str.ofString ""))) = true then 1 else 0 : Int) = kept + 1 := by simp [cl]
        refine Sm.bindE (sameI _ (by rw [ht.len]; omega)) (Sm.bindE (a := false) ?_ ?_)
        · show ((m_law_within c _ (kept + _)).bind _) = _
          rw [ek, within_eq hc ht (by omega)]; rfl
        · refine Sm.some ⟨_, rfl, ?_, ?_⟩
          · show Inv c _ (kept + _)
            rw [ek]; exact ht
          · show kept + _ ≤ _
            rw [ek, List.length_append]; simp; omega
    · subst e; exact Sm.some rfl
  obtain ⟨b, e, rfl⟩ := this
  exact e
theorem Plain.main (ns : List Int) (h : ns.length ≤ 63) : m_law ns = some true := by
  unfold m_law
  rw [one_half h, Option.bind_some, if_pos rfl, other_half h]
  rfl
end K23
namespace K23
open PySem PySem.Spec L2 DL Hd
open PyProof.Rows hiding St
section
variable {P : Program} {w : World} {K : PySem.W.Frag} {h : Heap} {mg : Str → Option Value} {f : Addr}
theorem facts (X : K.In h) (G : h.Ns mainGlobals mg) (hfa : mg ("law" : Str) = some (.ref f)) (c : He.SaysD fa fn K) :
    ∃ fd : FuncData, (∀ (s : Shared) (v : Value), BindsTo s fd ⟨[v], []⟩ [("script", v)]) ∧ ∀ base : Heap, K.In base → base.Ns mainGlobals mg → FnOk P w K mg base CX0 12 f fd ["script"] (FnSp K R_law) := by
  obtain ⟨fd_law_cell, F0_law_cell⟩ := c.def_ 4 (d := d_law_cell) rfl
  have F_law_cell : FunD K "_law_cell" "_law_cell" (defArgs s_law_cell) (defBody s_law_cell) (defScope s_law_cell) [] [] _ fd_law_cell := F0_law_cell
  have m_law_cell := He.glo_ok X G (c.fact 4 (f := .glo "_law_cell") rfl)
  obtain ⟨fd_law_mixed, F0_law_mixed⟩ := c.def_ 5 (d := d_law_mixed) rfl
  have F_law_mixed : FunD K "_law_mixed" "_law_mixed" (defArgs s_law_mixed) (defBody s_law_mixed) (defScope s_law_mixed) [] [] _ fd_law_mixed := F0_law_mixed
  have m_law_mixed := He.glo_ok X G (c.fact 5 (f := .glo "_law_mixed") rfl)
  obtain ⟨fd_law_pool, F0_law_pool⟩ := c.def_ 6 (d := d_law_pool) rfl
  have F_law_pool : FunD K "_law_pool" "_law_pool" (defArgs s_law_pool) (defBody s_law_pool) (defScope s_law_pool) [] [] _ fd_law_pool := F0_law_pool
  have m_law_pool := He.glo_ok X G (c.fact 6 (f := .glo "_law_pool") rfl)
  obtain ⟨fd_law_part, F0_law_part⟩ := c.def_ 7 (d := d_law_part) rfl
  have F_law_part : FunD K "_law_part" "_law_part" (defArgs s_law_part) (defBody s_law_part) (defScope s_law_part) [] [] _ fd_law_part := F0_law_part
  have m_law_part := He.glo_ok X G (c.fact 7 (f := .glo "_law_part") rfl)
  obtain ⟨fd_law_names, F0_law_names⟩ := c.def_ 8 (d := d_law_names) rfl
  have F_law_names : FunD K "_law_names" "_law_names" (defArgs s_law_names) (defBody s_law_names) (defScope s_law_names) [] [] _ fd_law_names := F0_law_names
  have m_law_names := He.glo_ok X G (c.fact 8 (f := .glo "_law_names") rfl)
  obtain ⟨fd_law_some, F0_law_some⟩ := c.def_ 9 (d := d_law_some) rfl
  have F_law_some : FunD K "_law_some" "_law_some" (defArgs s_law_some) (defBody s_law_some) (defScope s_law_some) [] [] _ fd_law_some := F0_law_some
  have m_law_some := He.glo_ok X G (c.fact 9 (f := .glo "_law_some") rfl)
  obtain ⟨fd_law_shuffled, F0_law_shuffled⟩ := c.def_ 12 (d := d_law_shuffled) rfl
  have F_law_shuffled : FunD K "_law_shuffled" "_law_shuffled" (defArgs s_law_shuffled) (defBody s_law_shuffled) (defScope s_law_shuffled) [] [] _ fd_law_shuffled := F0_law_shuffled
  have m_law_shuffled := He.glo_ok X G (c.fact 12 (f := .glo "_law_shuffled") rfl)
  obtain ⟨fd_law_case, F0_law_case⟩ := c.def_ 13 (d := d_law_case) rfl
  have F_law_case : FunD K "_law_case" "_law_case" (defArgs s_law_case) (defBody s_law_case) (defScope s_law_case) [] [] _ fd_law_case := F0_law_case
  have m_law_case := He.glo_ok X G (c.fact 13 (f := .glo "_law_case") rfl)
  obtain ⟨fd_passed_over, F0_passed_over⟩ := c.def_ 0 (d := d_passed_over) rfl
  have F_passed_over : FunD K "passed_over" "passed_over" (defArgs s_passed_over) (defBody s_passed_over) (defScope s_passed_over) [] [] _ fd_passed_over := F0_passed_over
  have m_passed_over := He.glo_ok X G (c.fact 0 (f := .glo "passed_over") rfl)
  obtain ⟨fd_next_passes, F0_next_passes⟩ := c.def_ 1 (d := d_next_passes) rfl
  have F_next_passes : FunD K "next_passes" "next_passes" (defArgs s_next_passes) (defBody s_next_passes) (defScope s_next_passes) [] [] _ fd_next_passes := F0_next_passes
  have m_next_passes := He.glo_ok X G (c.fact 1 (f := .glo "next_passes") rfl)
  obtain ⟨fd_first_over, F0_first_over⟩ := c.def_ 2 (d := d_first_over) rfl
  have F_first_over : FunD K "first_over" "first_over" (defArgs s_first_over) (defBody s_first_over) (defScope s_first_over) [] [] _ fd_first_over := F0_first_over
  have m_first_over := He.glo_ok X G (c.fact 2 (f := .glo "first_over") rfl)
  obtain ⟨fd_longest, F0_longest⟩ := c.def_ 3 (d := d_longest) rfl
  have F_longest : FunD K "longest" "longest" (defArgs s_longest) (defBody s_longest) (defScope s_longest) [] [] _ fd_longest := F0_longest
  have m_longest := He.glo_ok X G (c.fact 3 (f := .glo "longest") rfl)
  obtain ⟨fd_law_by_place, F0_law_by_place⟩ := c.def_ 17 (d := d_law_by_place) rfl
  have F_law_by_place : FunD K "_law_by_place" "_law_by_place" (defArgs s_law_by_place) (defBody s_law_by_place) (defScope s_law_by_place) [] [] _ fd_law_by_place := F0_law_by_place
  have m_law_by_place := He.glo_ok X G (c.fact 17 (f := .glo "_law_by_place") rfl)
  obtain ⟨fd_law_after, F0_law_after⟩ := c.def_ 14 (d := d_law_after) rfl
  have F_law_after : FunD K "_law_after" "_law_after" (defArgs s_law_after) (defBody s_law_after) (defScope s_law_after) [] [] _ fd_law_after := F0_law_after
  have m_law_after := He.glo_ok X G (c.fact 14 (f := .glo "_law_after") rfl)
  obtain ⟨fd_law_over, F0_law_over⟩ := c.def_ 15 (d := d_law_over) rfl
  have F_law_over : FunD K "_law_over" "_law_over" (defArgs s_law_over) (defBody s_law_over) (defScope s_law_over) [] [] _ fd_law_over := F0_law_over
  have m_law_over := He.glo_ok X G (c.fact 15 (f := .glo "_law_over") rfl)
  obtain ⟨fd_law_longest, F0_law_longest⟩ := c.def_ 16 (d := d_law_longest) rfl
  have F_law_longest : FunD K "_law_longest" "_law_longest" (defArgs s_law_longest) (defBody s_law_longest) (defScope s_law_longest) [] [] _ fd_law_longest := F0_law_longest
  have m_law_longest := He.glo_ok X G (c.fact 16 (f := .glo "_law_longest") rfl)
  obtain ⟨fd_law_due, F0_law_due⟩ := c.def_ 19 (d := d_law_due) rfl
  have F_law_due : FunD K "_law_due" "_law_due" (defArgs s_law_due) (defBody s_law_due) (defScope s_law_due) [] [] _ fd_law_due := F0_law_due
  have m_law_due := He.glo_ok X G (c.fact 19 (f := .glo "_law_due") rfl)
  obtain ⟨fd_law_integer, F0_law_integer⟩ := c.def_ 10 (d := d_law_integer) rfl
  have F_law_integer : FunD K "_law_integer" "_law_integer" (defArgs s_law_integer) (defBody s_law_integer) (defScope s_law_integer) [] [] _ fd_law_integer := F0_law_integer
  have m_law_integer := He.glo_ok X G (c.fact 10 (f := .glo "_law_integer") rfl)
  obtain ⟨fd_law_same, F0_law_same⟩ := c.def_ 11 (d := d_law_same) rfl
  have F_law_same : FunD K "_law_same" "_law_same" (defArgs s_law_same) (defBody s_law_same) (defScope s_law_same) [] [] _ fd_law_same := F0_law_same
  have m_law_same := He.glo_ok X G (c.fact 11 (f := .glo "_law_same") rfl)
  obtain ⟨fd_law_by_name, F0_law_by_name⟩ := c.def_ 18 (d := d_law_by_name) rfl
  have F_law_by_name : FunD K "_law_by_name" "_law_by_name" (defArgs s_law_by_name) (defBody s_law_by_name) (defScope s_law_by_name) [] [] _ fd_law_by_name := F0_law_by_name
  have m_law_by_name := He.glo_ok X G (c.fact 18 (f := .glo "_law_by_name") rfl)
  obtain ⟨fd_law_one_half, F0_law_one_half⟩ := c.def_ 24 (d := d_law_one_half) rfl
  have F_law_one_half : FunD K "_law_one_half" "_law_one_half" (defArgs s_law_one_half) (defBody s_law_one_half) (defScope s_law_one_half) [] [] _ fd_law_one_half := F0_law_one_half
  have m_law_one_half := He.glo_ok X G (c.fact 24 (f := .glo "_law_one_half") rfl)
  obtain ⟨fd_law_rounds, F0_law_rounds⟩ := c.def_ 20 (d := d_law_rounds) rfl
  have F_law_rounds : FunD K "_law_rounds" "_law_rounds" (defArgs s_law_rounds) (defBody s_law_rounds) (defScope s_law_rounds) [] [] _ fd_law_rounds := F0_law_rounds
  have m_law_rounds := He.glo_ok X G (c.fact 20 (f := .glo "_law_rounds") rfl)
  obtain ⟨fd_law_chosen, F0_law_chosen⟩ := c.def_ 21 (d := d_law_chosen) rfl
  have F_law_chosen : FunD K "_law_chosen" "_law_chosen" (defArgs s_law_chosen) (defBody s_law_chosen) (defScope s_law_chosen) [] [] _ fd_law_chosen := F0_law_chosen
  have m_law_chosen := He.glo_ok X G (c.fact 21 (f := .glo "_law_chosen") rfl)
  obtain ⟨fd_law_after_b, F0_law_after_b⟩ := c.def_ 22 (d := d_law_after_b) rfl
  have F_law_after_b : FunD K "_law_after_b" "_law_after_b" (defArgs s_law_after_b) (defBody s_law_after_b) (defScope s_law_after_b) [] [] _ fd_law_after_b := F0_law_after_b
  have m_law_after_b := He.glo_ok X G (c.fact 22 (f := .glo "_law_after_b") rfl)
  obtain ⟨fd_law_within, F0_law_within⟩ := c.def_ 23 (d := d_law_within) rfl
  have F_law_within : FunD K "_law_within" "_law_within" (defArgs s_law_within) (defBody s_law_within) (defScope s_law_within) [] [] _ fd_law_within := F0_law_within
  have m_law_within := He.glo_ok X G (c.fact 23 (f := .glo "_law_within") rfl)
  obtain ⟨fd_law_other_half, F0_law_other_half⟩ := c.def_ 25 (d := d_law_other_half) rfl
  have F_law_other_half : FunD K "_law_other_half" "_law_other_half" (defArgs s_law_other_half) (defBody s_law_other_half) (defScope s_law_other_half) [] [] _ fd_law_other_half := F0_law_other_half
  have m_law_other_half := He.glo_ok X G (c.fact 25 (f := .glo "_law_other_half") rfl)
  obtain ⟨fd_law, F0_law⟩ := c.def_ 26 (d := d_law) rfl
  have F_law : FunD K "law" "law" (defArgs s_law) (defBody s_law) (defScope s_law) [] [] _ fd_law := F0_law
  have m_law := He.glo_ok X G (c.fact 26 (f := .glo "law") rfl)
  have g_abs : mg "abs" = none := He.free_ok X G (c.fact 27 (f := .free "abs") rfl)
  have g_bool : mg "bool" = none := He.free_ok X G (c.fact 28 (f := .free "bool") rfl)
  have g_dict : mg "dict" = none := He.free_ok X G (c.fact 29 (f := .free "dict") rfl)
  have g_int : mg "int" = none := He.free_ok X G (c.fact 30 (f := .free "int") rfl)
  have g_isinstance : mg "isinstance" = none := He.free_ok X G (c.fact 31 (f := .free "isinstance") rfl)
  have g_len : mg "len" = none := He.free_ok X G (c.fact 32 (f := .free "len") rfl)
  have g_list : mg "list" = none := He.free_ok X G (c.fact 33 (f := .free "list") rfl)
  have g_max : mg "max" = none := He.free_ok X G (c.fact 34 (f := .free "max") rfl)
  have g_min : mg "min" = none := He.free_ok X G (c.fact 35 (f := .free "min") rfl)
  have g_range : mg "range" = none := He.free_ok X G (c.fact 36 (f := .free "range") rfl)
  have g_str : mg "str" = none := He.free_ok X G (c.fact 37 (f := .free "str") rfl)
  have g_tuple : mg "tuple" = none := He.free_ok X G (c.fact 38 (f := .free "tuple") rfl)
  have g_zip : mg "zip" = none := He.free_ok X G (c.fact 39 (f := .free "zip") rfl)
  have e := hfa.symm.trans m_law
  cases e
  have bl := FunD.bindsA (ps := ["script"]) F_law fun _ _ _ _ _ _ us hl => match us, hl with | [_], _ => rfl
  refine ⟨fd_law, fun s v => bl s [v] rfl, fun base _ _ => ?_⟩
  have G_law_cell : ∀ X : Cx, At X ⟨P, w, K, mg, base⟩ N_law_cell (defScope s_law_cell) 0 → ∀ ds d k, R_law_cell ds d k → SS X (env0 4 ds) (defBody s_law_cell) { rt := fun d' k' => d' = d ∧ Fits k' k d, nx := fun _ => d = .non ∧ k = .cln } := fun X A ds d k hR => b_law_cell A g_abs g_len g_range hR
  have C_law_cell : Cal ⟨P, w, K, mg, base⟩ "_law_cell" R_law_cell 1 [] := Cal.mk' F_law_cell m_law_cell (F_law_cell.bindsN fun _ _ _ _ _ _ us hl => match us, hl with | [_, _], _ => rfl) .nil (fun _ => .nil) fs_law_cell (fun _ _ _ ⟨_, _, _, h, _⟩ => (congrArg List.length h).trans rfl) (Nat.le_of_ble_eq_true rfl) G_law_cell
  have G_law_mixed : ∀ X : Cx, At X ⟨P, w, K, mg, base⟩ N_law_mixed (defScope s_law_mixed) 0 → ∀ ds d k, R_law_mixed ds d k → SS X (env0 3 ds) (defBody s_law_mixed) { rt := fun d' k' => d' = d ∧ Fits k' k d, nx := fun _ => d = .non ∧ k = .cln } := fun X A ds d k hR => b_law_mixed A g_abs hR
  have C_law_mixed : Cal ⟨P, w, K, mg, base⟩ "_law_mixed" R_law_mixed 1 [] := Cal.mk' F_law_mixed m_law_mixed (F_law_mixed.bindsN fun _ _ _ _ _ _ us hl => match us, hl with | [_, _], _ => rfl) .nil (fun _ => .nil) fs_law_mixed (fun _ _ _ ⟨_, _, _, h, _⟩ => (congrArg List.length h).trans rfl) (Nat.le_of_ble_eq_true rfl) G_law_mixed
  have G_law_pool : ∀ X : Cx, At X ⟨P, w, K, mg, base⟩ N_law_pool (defScope s_law_pool) 1 → ∀ ds d k, R_law_pool ds d k → SS X (env0 6 ds) (defBody s_law_pool) { rt := fun d' k' => d' = d ∧ Fits k' k d, nx := fun _ => d = .non ∧ k = .cln } := fun X A ds d k hR => b_law_pool A g_abs g_range C_law_mixed hR
  have C_law_pool : Cal ⟨P, w, K, mg, base⟩ "_law_pool" R_law_pool 2 [] := Cal.mk' F_law_pool m_law_pool (F_law_pool.bindsN fun _ _ _ _ _ _ us hl => match us, hl with | [_, _], _ => rfl) .nil (fun _ => .nil) fs_law_pool (fun _ _ _ ⟨_, _, _, h, _⟩ => (congrArg List.length h).trans rfl) (Nat.le_of_ble_eq_true rfl) G_law_pool
  have G_law_part : ∀ X : Cx, At X ⟨P, w, K, mg, base⟩ N_law_part (defScope s_law_part) 0 → ∀ ds d k, R_law_part ds d k → SS X (env0 4 ds) (defBody s_law_part) { rt := fun d' k' => d' = d ∧ Fits k' k d, nx := fun _ => d = .non ∧ k = .cln } := fun X A ds d k hR => b_law_part A g_int hR
  have C_law_part : Cal ⟨P, w, K, mg, base⟩ "_law_part" R_law_part 1 [] := Cal.mk' F_law_part m_law_part (F_law_part.bindsN fun _ _ _ _ _ _ us hl => match us, hl with | [_, _, _, _], _ => rfl) .nil (fun _ => .nil) fs_law_part (fun _ _ _ ⟨_, _, _, _, _, h, _⟩ => (congrArg List.length h).trans rfl) (Nat.le_of_ble_eq_true rfl) G_law_part
  have G_law_names : ∀ X : Cx, At X ⟨P, w, K, mg, base⟩ N_law_names (defScope s_law_names) 1 → ∀ ds d k, R_law_names ds d k → SS X (env0 13 ds) (defBody s_law_names) { rt := fun d' k' => d' = d ∧ Fits k' k d, nx := fun _ => d = .non ∧ k = .cln } := fun X A ds d k hR => b_law_names A g_int g_range C_law_part hR
  have C_law_names : Cal ⟨P, w, K, mg, base⟩ "_law_names" R_law_names 2 [] := Cal.mk' F_law_names m_law_names (F_law_names.bindsN fun _ _ _ _ _ _ us hl => match us, hl with | [_, _, _], _ => rfl) .nil (fun _ => .nil) fs_law_names (fun _ _ _ ⟨_, _, _, _, h, _⟩ => (congrArg List.length h).trans rfl) (Nat.le_of_ble_eq_true rfl) G_law_names
  have G_law_some : ∀ X : Cx, At X ⟨P, w, K, mg, base⟩ N_law_some (defScope s_law_some) 1 → ∀ ds d k, R_law_some ds d k → SS X (env0 5 ds) (defBody s_law_some) { rt := fun d' k' => d' = d ∧ Fits k' k d, nx := fun _ => d = .non ∧ k = .cln } := fun X A ds d k hR => b_law_some A g_len g_range C_law_part hR
  have C_law_some : Cal ⟨P, w, K, mg, base⟩ "_law_some" R_law_some 2 [] := Cal.mk' F_law_some m_law_some (F_law_some.bindsN fun _ _ _ _ _ _ us hl => match us, hl with | [_, _, _], _ => rfl) .nil (fun _ => .nil) fs_law_some (fun _ _ _ ⟨_, _, _, _, h, _⟩ => (congrArg List.length h).trans rfl) (Nat.le_of_ble_eq_true rfl) G_law_some
  have G_law_shuffled : ∀ X : Cx, At X ⟨P, w, K, mg, base⟩ N_law_shuffled (defScope s_law_shuffled) 1 → ∀ ds d k, R_law_shuffled ds d k → SS X (env0 6 ds) (defBody s_law_shuffled) { rt := fun d' k' => d' = d ∧ Fits k' k d, nx := fun _ => d = .non ∧ k = .cln } := fun X A ds d k hR => b_law_shuffled A g_len g_list g_range C_law_part hR
  have C_law_shuffled : Cal ⟨P, w, K, mg, base⟩ "_law_shuffled" R_law_shuffled 2 [] := Cal.mk' F_law_shuffled m_law_shuffled (F_law_shuffled.bindsN fun _ _ _ _ _ _ us hl => match us, hl with | [_, _, _], _ => rfl) .nil (fun _ => .nil) fs_law_shuffled (fun _ _ _ ⟨_, _, _, _, h, _⟩ => (congrArg List.length h).trans rfl) (Nat.le_of_ble_eq_true rfl) G_law_shuffled
  have G_law_case : ∀ X : Cx, At X ⟨P, w, K, mg, base⟩ N_law_case (defScope s_law_case) 2 → ∀ ds d k, R_law_case ds d k → SS X (env0 12 ds) (defBody s_law_case) { rt := fun d' k' => d' = d ∧ Fits k' k d, nx := fun _ => d = .non ∧ k = .cln } := fun X A ds d k hR => b_law_case A g_len g_max g_range C_law_part C_law_shuffled C_law_some hR
  have C_law_case : Cal ⟨P, w, K, mg, base⟩ "_law_case" R_law_case 3 [] := Cal.mk' F_law_case m_law_case (F_law_case.bindsN fun _ _ _ _ _ _ us hl => match us, hl with | [_, _], _ => rfl) .nil (fun _ => .nil) fs_law_case (fun _ _ _ ⟨_, _, _, h, _⟩ => (congrArg List.length h).trans rfl) (Nat.le_of_ble_eq_true rfl) G_law_case
  have G_passed_over : ∀ X : Cx, At X ⟨P, w, K, mg, base⟩ N_passed_over (defScope s_passed_over) 0 → ∀ ds d k, R_passed_over ds d k → SS X (env0 4 ds) (defBody s_passed_over) { rt := fun d' k' => d' = d ∧ Fits k' k d, nx := fun _ => d = .non ∧ k = .cln } := fun X A ds d k hR => b_passed_over A g_tuple hR
  have C_passed_over : Cal ⟨P, w, K, mg, base⟩ "passed_over" R_passed_over 1 [] := Cal.mk' F_passed_over m_passed_over (F_passed_over.bindsN fun _ _ _ _ _ _ us hl => match us, hl with | [_, _, _], _ => rfl) .nil (fun _ => .nil) fs_passed_over (fun _ _ _ ⟨_, _, _, _, h, _⟩ => (congrArg List.length h).trans rfl) (Nat.le_of_ble_eq_true rfl) G_passed_over
  have C_passed_over_k0_keeper_takers_candidates : CalK ⟨P, w, K, mg, base⟩ "passed_over" R_passed_over 1 0 ["keeper", "takers", "candidates"] (fun a b => pick a [] [] b [.k 2, .k 1, .k 0]) := CalK.of (def_ok F_passed_over fs_passed_over (fun _ _ _ ⟨_, _, _, _, h, _⟩ => (congrArg List.length h).trans rfl) (Nat.le_of_ble_eq_true rfl) fun X c => G_passed_over X c.at_) F_passed_over.kp m_passed_over (its := []) (mv := []) (dvs := []) (mz := []) (kb_n F_passed_over 0 ["keeper", "takers", "candidates"] [.k 2, .k 1, .k 0] fun kV doc pm an cdv ct us ws h1 h2 => match us, ws, h1, h2 with | [], [_, _, _], _, _ => rfl) (fun _ => .nil) (fun _ => .nil)
  have C_passed_over_k1_keeper_takers : CalK ⟨P, w, K, mg, base⟩ "passed_over" R_passed_over 1 1 ["keeper", "takers"] (fun a b => pick a [] [] b [.p 0, .k 1, .k 0]) := CalK.of (def_ok F_passed_over fs_passed_over (fun _ _ _ ⟨_, _, _, _, h, _⟩ => (congrArg List.length h).trans rfl) (Nat.le_of_ble_eq_true rfl) fun X c => G_passed_over X c.at_) F_passed_over.kp m_passed_over (its := []) (mv := []) (dvs := []) (mz := []) (kb_n F_passed_over 1 ["keeper", "takers"] [.p 0, .k 1, .k 0] fun kV doc pm an cdv ct us ws h1 h2 => match us, ws, h1, h2 with | [_], [_, _], _, _ => rfl) (fun _ => .nil) (fun _ => .nil)
  have G_next_passes : ∀ X : Cx, At X ⟨P, w, K, mg, base⟩ N_next_passes (defScope s_next_passes) 1 → ∀ ds d k, R_next_passes ds d k → SS X (env0 10 ds) (defBody s_next_passes) { rt := fun d' k' => d' = d ∧ Fits k' k d, nx := fun _ => d = .non ∧ k = .cln } := fun X A ds d k hR => b_next_passes A g_min g_tuple g_zip C_passed_over hR
  have C_next_passes : Cal ⟨P, w, K, mg, base⟩ "next_passes" R_next_passes 2 [] := Cal.mk' F_next_passes m_next_passes (F_next_passes.bindsN fun _ _ _ _ _ _ us hl => match us, hl with | [_, _, _, _, _, _], _ => rfl) .nil (fun _ => .nil) fs_next_passes (fun _ _ _ ⟨_, _, _, _, _, _, _, h, _⟩ => (congrArg List.length h).trans rfl) (Nat.le_of_ble_eq_true rfl) G_next_passes
  have C_next_passes_k0_most_keeper_takers_candidates_passes_members : CalK ⟨P, w, K, mg, base⟩ "next_passes" R_next_passes 2 0 ["most", "keeper", "takers", "candidates", "passes", "members"] (fun a b => pick a [] [] b [.k 5, .k 4, .k 3, .k 2, .k 1, .k 0]) := CalK.of (def_ok F_next_passes fs_next_passes (fun _ _ _ ⟨_, _, _, _, _, _, _, h, _⟩ => (congrArg List.length h).trans rfl) (Nat.le_of_ble_eq_true rfl) fun X c => G_next_passes X c.at_) F_next_passes.kp m_next_passes (its := []) (mv := []) (dvs := []) (mz := []) (kb_n F_next_passes 0 ["most", "keeper", "takers", "candidates", "passes", "members"] [.k 5, .k 4, .k 3, .k 2, .k 1, .k 0] fun kV doc pm an cdv ct us ws h1 h2 => match us, ws, h1, h2 with | [], [_, _, _, _, _, _], _, _ => rfl) (fun _ => .nil) (fun _ => .nil)
  have C_next_passes_k2_takers_candidates_most_keeper : CalK ⟨P, w, K, mg, base⟩ "next_passes" R_next_passes 2 2 ["takers", "candidates", "most", "keeper"] (fun a b => pick a [] [] b [.p 0, .p 1, .k 1, .k 0, .k 3, .k 2]) := CalK.of (def_ok F_next_passes fs_next_passes (fun _ _ _ ⟨_, _, _, _, _, _, _, h, _⟩ => (congrArg List.length h).trans rfl) (Nat.le_of_ble_eq_true rfl) fun X c => G_next_passes X c.at_) F_next_passes.kp m_next_passes (its := []) (mv := []) (dvs := []) (mz := []) (kb_n F_next_passes 2 ["takers", "candidates", "most", "keeper"] [.p 0, .p 1, .k 1, .k 0, .k 3, .k 2] fun kV doc pm an cdv ct us ws h1 h2 => match us, ws, h1, h2 with | [_, _], [_, _, _, _], _, _ => rfl) (fun _ => .nil) (fun _ => .nil)
  have G_first_over : ∀ X : Cx, At X ⟨P, w, K, mg, base⟩ N_first_over (defScope s_first_over) 0 → ∀ ds d k, R_first_over ds d k → SS X (env0 6 ds) (defBody s_first_over) { rt := fun d' k' => d' = d ∧ Fits k' k d, nx := fun _ => d = .non ∧ k = .cln } := fun X A ds d k hR => b_first_over A g_dict g_zip hR
  have C_first_over : Cal ⟨P, w, K, mg, base⟩ "first_over" R_first_over 1 [] := Cal.mk' F_first_over m_first_over (F_first_over.bindsN fun _ _ _ _ _ _ us hl => match us, hl with | [_, _, _, _], _ => rfl) .nil (fun _ => .nil) fs_first_over (fun _ _ _ ⟨_, _, _, _, _, h, _⟩ => (congrArg List.length h).trans rfl) (Nat.le_of_ble_eq_true rfl) G_first_over
  have C_first_over_k0_limit_passed_passes_members : CalK ⟨P, w, K, mg, base⟩ "first_over" R_first_over 1 0 ["limit", "passed", "passes", "members"] (fun a b => pick a [] [] b [.k 3, .k 2, .k 1, .k 0]) := CalK.of (def_ok F_first_over fs_first_over (fun _ _ _ ⟨_, _, _, _, _, h, _⟩ => (congrArg List.length h).trans rfl) (Nat.le_of_ble_eq_true rfl) fun X c => G_first_over X c.at_) F_first_over.kp m_first_over (its := []) (mv := []) (dvs := []) (mz := []) (kb_n F_first_over 0 ["limit", "passed", "passes", "members"] [.k 3, .k 2, .k 1, .k 0] fun kV doc pm an cdv ct us ws h1 h2 => match us, ws, h1, h2 with | [], [_, _, _, _], _, _ => rfl) (fun _ => .nil) (fun _ => .nil)
  have G_longest : ∀ X : Cx, At X ⟨P, w, K, mg, base⟩ N_longest (defScope s_longest) 0 → ∀ ds d k, R_longest ds d k → SS X (env0 6 ds) (defBody s_longest) { rt := fun d' k' => d' = d ∧ Fits k' k d, nx := fun _ => d = .non ∧ k = .cln } := fun X A ds d k hR => b_longest A g_dict g_zip hR
  have C_longest : Cal ⟨P, w, K, mg, base⟩ "longest" R_longest 1 [] := Cal.mk' F_longest m_longest (F_longest.bindsN fun _ _ _ _ _ _ us hl => match us, hl with | [_, _, _], _ => rfl) .nil (fun _ => .nil) fs_longest (fun _ _ _ ⟨_, _, _, _, h, _⟩ => (congrArg List.length h).trans rfl) (Nat.le_of_ble_eq_true rfl) G_longest
  have C_longest_k0_candidates_passes_members : CalK ⟨P, w, K, mg, base⟩ "longest" R_longest 1 0 ["candidates", "passes", "members"] (fun a b => pick a [] [] b [.k 2, .k 1, .k 0]) := CalK.of (def_ok F_longest fs_longest (fun _ _ _ ⟨_, _, _, _, h, _⟩ => (congrArg List.length h).trans rfl) (Nat.le_of_ble_eq_true rfl) fun X c => G_longest X c.at_) F_longest.kp m_longest (its := []) (mv := []) (dvs := []) (mz := []) (kb_n F_longest 0 ["candidates", "passes", "members"] [.k 2, .k 1, .k 0] fun kV doc pm an cdv ct us ws h1 h2 => match us, ws, h1, h2 with | [], [_, _, _], _, _ => rfl) (fun _ => .nil) (fun _ => .nil)
  have C_longest_k1_candidates_passes : CalK ⟨P, w, K, mg, base⟩ "longest" R_longest 1 1 ["candidates", "passes"] (fun a b => pick a [] [] b [.p 0, .k 1, .k 0]) := CalK.of (def_ok F_longest fs_longest (fun _ _ _ ⟨_, _, _, _, h, _⟩ => (congrArg List.length h).trans rfl) (Nat.le_of_ble_eq_true rfl) fun X c => G_longest X c.at_) F_longest.kp m_longest (its := []) (mv := []) (dvs := []) (mz := []) (kb_n F_longest 1 ["candidates", "passes"] [.p 0, .k 1, .k 0] fun kV doc pm an cdv ct us ws h1 h2 => match us, ws, h1, h2 with | [_], [_, _], _, _ => rfl) (fun _ => .nil) (fun _ => .nil)
  have G_law_by_place : ∀ X : Cx, At X ⟨P, w, K, mg, base⟩ N_law_by_place (defScope s_law_by_place) 2 → ∀ ds d k, R_law_by_place ds d k → SS X (env0 11 ds) (defBody s_law_by_place) { rt := fun d' k' => d' = d ∧ Fits k' k d, nx := fun _ => d = .non ∧ k = .cln } := fun X A ds d k hR => b_law_by_place A g_tuple C_first_over C_longest C_next_passes C_passed_over hR
  have C_law_by_place : Cal ⟨P, w, K, mg, base⟩ "_law_by_place" R_law_by_place 3 [] := Cal.mk' F_law_by_place m_law_by_place (F_law_by_place.bindsN fun _ _ _ _ _ _ us hl => match us, hl with | [_, _], _ => rfl) .nil (fun _ => .nil) fs_law_by_place (fun _ _ _ ⟨_, _, _, h, _⟩ => (congrArg List.length h).trans rfl) (Nat.le_of_ble_eq_true rfl) G_law_by_place
  have G_law_after : ∀ X : Cx, At X ⟨P, w, K, mg, base⟩ N_law_after (defScope s_law_after) 0 → ∀ ds d k, R_law_after ds d k → SS X (env0 15 ds) (defBody s_law_after) { rt := fun d' k' => d' = d ∧ Fits k' k d, nx := fun _ => d = .non ∧ k = .cln } := fun X A ds d k hR => b_law_after A g_len g_range g_tuple hR
  have C_law_after : Cal ⟨P, w, K, mg, base⟩ "_law_after" R_law_after 1 [] := Cal.mk' F_law_after m_law_after (F_law_after.bindsN fun _ _ _ _ _ _ us hl => match us, hl with | [_, _], _ => rfl) .nil (fun _ => .nil) fs_law_after (fun _ _ _ ⟨_, _, _, h, _⟩ => (congrArg List.length h).trans rfl) (Nat.le_of_ble_eq_true rfl) G_law_after
  have G_law_over : ∀ X : Cx, At X ⟨P, w, K, mg, base⟩ N_law_over (defScope s_law_over) 0 → ∀ ds d k, R_law_over ds d k → SS X (env0 6 ds) (defBody s_law_over) { rt := fun d' k' => d' = d ∧ Fits k' k d, nx := fun _ => d = .non ∧ k = .cln } := fun X A ds d k hR => b_law_over A  hR
  have C_law_over : Cal ⟨P, w, K, mg, base⟩ "_law_over" R_law_over 1 [] := Cal.mk' F_law_over m_law_over (F_law_over.bindsN fun _ _ _ _ _ _ us hl => match us, hl with | [_, _, _, _], _ => rfl) .nil (fun _ => .nil) fs_law_over (fun _ _ _ ⟨_, _, _, _, _, h, _⟩ => (congrArg List.length h).trans rfl) (Nat.le_of_ble_eq_true rfl) G_law_over
  have G_law_longest : ∀ X : Cx, At X ⟨P, w, K, mg, base⟩ N_law_longest (defScope s_law_longest) 0 → ∀ ds d k, R_law_longest ds d k → SS X (env0 5 ds) (defBody s_law_longest) { rt := fun d' k' => d' = d ∧ Fits k' k d, nx := fun _ => d = .non ∧ k = .cln } := fun X A ds d k hR => b_law_longest A  hR
  have C_law_longest : Cal ⟨P, w, K, mg, base⟩ "_law_longest" R_law_longest 1 [] := Cal.mk' F_law_longest m_law_longest (F_law_longest.bindsN fun _ _ _ _ _ _ us hl => match us, hl with | [_, _, _], _ => rfl) .nil (fun _ => .nil) fs_law_longest (fun _ _ _ ⟨_, _, _, _, h, _⟩ => (congrArg List.length h).trans rfl) (Nat.le_of_ble_eq_true rfl) G_law_longest
  have G_law_due : ∀ X : Cx, At X ⟨P, w, K, mg, base⟩ N_law_due (defScope s_law_due) 1 → ∀ ds d k, R_law_due ds d k → SS X (env0 14 ds) (defBody s_law_due) { rt := fun d' k' => d' = d ∧ Fits k' k d, nx := fun _ => d = .non ∧ k = .cln } := fun X A ds d k hR => b_law_due A g_tuple C_law_after C_law_longest C_law_over hR
  have C_law_due : Cal ⟨P, w, K, mg, base⟩ "_law_due" R_law_due 2 [] := Cal.mk' F_law_due m_law_due (F_law_due.bindsN fun _ _ _ _ _ _ us hl => match us, hl with | [_, _], _ => rfl) .nil (fun _ => .nil) fs_law_due (fun _ _ _ ⟨_, _, _, h, _⟩ => (congrArg List.length h).trans rfl) (Nat.le_of_ble_eq_true rfl) G_law_due
  have G_law_integer : ∀ X : Cx, At X ⟨P, w, K, mg, base⟩ N_law_integer (defScope s_law_integer) 0 → ∀ ds d k, R_law_integer ds d k → SS X (env0 1 ds) (defBody s_law_integer) { rt := fun d' k' => d' = d ∧ Fits k' k d, nx := fun _ => d = .non ∧ k = .cln } := fun X A ds d k hR => b_law_integer A g_bool g_int g_isinstance hR
  have C_law_integer : Cal ⟨P, w, K, mg, base⟩ "_law_integer" R_law_integer 1 [] := Cal.mk' F_law_integer m_law_integer (F_law_integer.bindsN fun _ _ _ _ _ _ us hl => match us, hl with | [_], _ => rfl) .nil (fun _ => .nil) fs_law_integer (fun _ _ _ ⟨_, _, h, _⟩ => (congrArg List.length h).trans rfl) (Nat.le_of_ble_eq_true rfl) G_law_integer
  have A_law_same : ∀ n, Cal ⟨P, w, K, mg, base⟩ "_law_same" (R_law_same n) (2 + n) [] := fun n => by
    induction n with
    | zero => exact Cal.absurd (lv := 1) F_law_same m_law_same (F_law_same.bindsN fun _ _ _ _ _ _ us hl => match us, hl with | [_, _], _ => rfl) .nil (fun _ => .nil) fs_law_same (Nat.le_of_ble_eq_true rfl) (fun _ _ _ ⟨_, _, _, _, H, _⟩ => nomatch H)
    | succ n ih => exact Cal.mk' (lv := 2 + n) F_law_same m_law_same (F_law_same.bindsN fun _ _ _ _ _ _ us hl => match us, hl with | [_, _], _ => rfl) .nil (fun _ => .nil) fs_law_same (fun _ _ _ ⟨_, _, _, h, _⟩ => (congrArg List.length h).trans rfl) (Nat.le_of_ble_eq_true rfl) (fun X A ds d k hR => b_law_same A g_int g_isinstance g_len g_list g_range g_str g_tuple C_law_integer ih hR)
  have C_law_same := A_law_same 8
  have G_law_by_name : ∀ X : Cx, At X ⟨P, w, K, mg, base⟩ N_law_by_name (defScope s_law_by_name) 2 → ∀ ds d k, R_law_by_name ds d k → SS X (env0 11 ds) (defBody s_law_by_name) { rt := fun d' k' => d' = d ∧ Fits k' k d, nx := fun _ => d = .non ∧ k = .cln } := fun X A ds d k hR => b_law_by_name A g_tuple C_first_over_k0_limit_passed_passes_members C_longest_k0_candidates_passes_members C_longest_k1_candidates_passes C_next_passes_k0_most_keeper_takers_candidates_passes_members C_next_passes_k2_takers_candidates_most_keeper C_passed_over_k0_keeper_takers_candidates C_passed_over_k1_keeper_takers hR
  have C_law_by_name : Cal ⟨P, w, K, mg, base⟩ "_law_by_name" R_law_by_name 3 [] := Cal.mk' F_law_by_name m_law_by_name (F_law_by_name.bindsN fun _ _ _ _ _ _ us hl => match us, hl with | [_, _], _ => rfl) .nil (fun _ => .nil) fs_law_by_name (fun _ _ _ ⟨_, _, _, h, _⟩ => (congrArg List.length h).trans rfl) (Nat.le_of_ble_eq_true rfl) G_law_by_name
  have G_law_one_half : ∀ X : Cx, At X ⟨P, w, K, mg, base⟩ N_law_one_half (defScope s_law_one_half) 10 → ∀ ds d k, R_law_one_half ds d k → SS X (env0 6 ds) (defBody s_law_one_half) { rt := fun d' k' => d' = d ∧ Fits k' k d, nx := fun _ => d = .non ∧ k = .cln } := fun X A ds d k hR => b_law_one_half A g_range C_law_by_name C_law_by_place C_law_case C_law_cell C_law_due C_law_names C_law_part C_law_pool C_law_same hR
  have C_law_one_half : Cal ⟨P, w, K, mg, base⟩ "_law_one_half" R_law_one_half 11 [] := Cal.mk' F_law_one_half m_law_one_half (F_law_one_half.bindsN fun _ _ _ _ _ _ us hl => match us, hl with | [_], _ => rfl) .nil (fun _ => .nil) fs_law_one_half (fun _ _ _ ⟨_, _, h, _⟩ => (congrArg List.length h).trans rfl) (Nat.le_of_ble_eq_true rfl) G_law_one_half
  have G_law_rounds : ∀ X : Cx, At X ⟨P, w, K, mg, base⟩ N_law_rounds (defScope s_law_rounds) 2 → ∀ ds d k, R_law_rounds ds d k → SS X (env0 10 ds) (defBody s_law_rounds) { rt := fun d' k' => d' = d ∧ Fits k' k d, nx := fun _ => d = .non ∧ k = .cln } := fun X A ds d k hR => b_law_rounds A g_len g_list g_range C_law_cell C_law_part C_law_pool C_law_some hR
  have C_law_rounds : Cal ⟨P, w, K, mg, base⟩ "_law_rounds" R_law_rounds 3 [] := Cal.mk' F_law_rounds m_law_rounds (F_law_rounds.bindsN fun _ _ _ _ _ _ us hl => match us, hl with | [_, _], _ => rfl) .nil (fun _ => .nil) fs_law_rounds (fun _ _ _ ⟨_, _, _, h, _⟩ => (congrArg List.length h).trans rfl) (Nat.le_of_ble_eq_true rfl) G_law_rounds
  have G_law_chosen : ∀ X : Cx, At X ⟨P, w, K, mg, base⟩ N_law_chosen (defScope s_law_chosen) 0 → ∀ ds d k, R_law_chosen ds d k → SS X (env0 5 ds) (defBody s_law_chosen) { rt := fun d' k' => d' = d ∧ Fits k' k d, nx := fun _ => d = .non ∧ k = .cln } := fun X A ds d k hR => b_law_chosen A g_isinstance g_str hR
  have C_law_chosen : Cal ⟨P, w, K, mg, base⟩ "_law_chosen" R_law_chosen 1 [] := Cal.mk' F_law_chosen m_law_chosen (F_law_chosen.bindsN fun _ _ _ _ _ _ us hl => match us, hl with | [_, _, _, _], _ => rfl) .nil (fun _ => .nil) fs_law_chosen (fun _ _ _ ⟨_, _, _, _, _, h, _⟩ => (congrArg List.length h).trans rfl) (Nat.le_of_ble_eq_true rfl) G_law_chosen
  have G_law_after_b : ∀ X : Cx, At X ⟨P, w, K, mg, base⟩ N_law_after_b (defScope s_law_after_b) 0 → ∀ ds d k, R_law_after_b ds d k → SS X (env0 6 ds) (defBody s_law_after_b) { rt := fun d' k' => d' = d ∧ Fits k' k d, nx := fun _ => d = .non ∧ k = .cln } := fun X A ds d k hR => b_law_after_b A g_len g_range hR
  have C_law_after_b : Cal ⟨P, w, K, mg, base⟩ "_law_after_b" R_law_after_b 1 [] := Cal.mk' F_law_after_b m_law_after_b (F_law_after_b.bindsN fun _ _ _ _ _ _ us hl => match us, hl with | [_, _, _, _], _ => rfl) .nil (fun _ => .nil) fs_law_after_b (fun _ _ _ ⟨_, _, _, _, _, h, _⟩ => (congrArg List.length h).trans rfl) (Nat.le_of_ble_eq_true rfl) G_law_after_b
  have G_law_within : ∀ X : Cx, At X ⟨P, w, K, mg, base⟩ N_law_within (defScope s_law_within) 0 → ∀ ds d k, R_law_within ds d k → SS X (env0 6 ds) (defBody s_law_within) { rt := fun d' k' => d' = d ∧ Fits k' k d, nx := fun _ => d = .non ∧ k = .cln } := fun X A ds d k hR => b_law_within A g_len g_max g_range hR
  have C_law_within : Cal ⟨P, w, K, mg, base⟩ "_law_within" R_law_within 1 [] := Cal.mk' F_law_within m_law_within (F_law_within.bindsN fun _ _ _ _ _ _ us hl => match us, hl with | [_, _, _], _ => rfl) .nil (fun _ => .nil) fs_law_within (fun _ _ _ ⟨_, _, _, _, h, _⟩ => (congrArg List.length h).trans rfl) (Nat.le_of_ble_eq_true rfl) G_law_within
  have G_law_other_half : ∀ X : Cx, At X ⟨P, w, K, mg, base⟩ N_law_other_half (defScope s_law_other_half) 10 → ∀ ds d k, R_law_other_half ds d k → SS X (env0 11 ds) (defBody s_law_other_half) { rt := fun d' k' => d' = d ∧ Fits k' k d, nx := fun _ => d = .non ∧ k = .cln } := fun X A ds d k hR => b_law_other_half A g_int g_tuple C_law_after_b C_law_cell C_law_chosen C_law_names C_law_part C_law_pool C_law_rounds C_law_same C_law_within C_longest C_next_passes hR
  have C_law_other_half : Cal ⟨P, w, K, mg, base⟩ "_law_other_half" R_law_other_half 11 [] := Cal.mk' F_law_other_half m_law_other_half (F_law_other_half.bindsN fun _ _ _ _ _ _ us hl => match us, hl with | [_], _ => rfl) .nil (fun _ => .nil) fs_law_other_half (fun _ _ _ ⟨_, _, h, _⟩ => (congrArg List.length h).trans rfl) (Nat.le_of_ble_eq_true rfl) G_law_other_half
  have G_law : ∀ X : Cx, At X ⟨P, w, K, mg, base⟩ N_law (defScope s_law) 11 → ∀ ds d k, R_law ds d k → SS X (env0 1 ds) (defBody s_law) { rt := fun d' k' => d' = d ∧ Fits k' k d, nx := fun _ => d = .non ∧ k = .cln } := fun X A ds d k hR => b_law A C_law_one_half C_law_other_half hR
  exact def_ok F_law fs_law (fun _ _ _ ⟨_, _, h, _⟩ => (congrArg List.length h).trans rfl) (Nat.le_of_ble_eq_true rfl) fun X c => G_law X c.at_
end
end K23
open PySem PySem.W PySem.Calls PyProof.Rows
theorem PySem.Challenge.cw_turnkeepers_k23_whole_passes_kept_holds : PySem.Challenge.rw_turnkeepers_k23_whole_passes_kept.Holds := by
  w_on; o_law
  refine HandSHeadRun.head_any (r := OpenLaw.row PySem.Challenge.rw_turnkeepers_k23_whole_passes_kept) (q := view (OpenLaw.row PySem.Challenge.rw_turnkeepers_k23_whole_passes_kept).prog [28]) (H := Hd.hk) (ob := Hd.ob) (M := 40000) (loose := Hd.names) (d := HandSHeadRun.topDef (OpenLaw.row PySem.Challenge.rw_turnkeepers_k23_whole_passes_kept).prog 28) (kwd := []) Hd.ob_eq
    (by kernel_rfl) (fun s => by kernel_rfl) Hd.run (by kernel_rfl) (by kernel_rfl) (by kernel_rfl) (by rfl) (by first | assumption | decide +kernel) (by decide +kernel) ⟨rfl, rfl, rfl, rfl, rfl, by decide +kernel⟩ ?hw ?hc
  case hw => w_witness2
  case hc =>
    refine L2.walk_ofE (l := PySem.Challenge.rw_turnkeepers_k23_whole_passes_kept) (n := 63) (k := 12) (x := "script") (CX := L2.CX0) rfl (by decide) (by kernel_rfl) ⟨rfl, by decide, by decide⟩ ?F (fun _ _ _ _ z => z)
    intro w mg fa h Y G hmg0
    obtain ⟨K, KX, c⟩ := Y
    have hmg : mg ("law" : PySem.Str) = some (.ref fa) := by
      have e : (HandSHeadRun.topDef (OpenLaw.row PySem.Challenge.rw_turnkeepers_k23_whole_passes_kept).prog 28).name = ("law" : PySem.Str) := by kernel_rfl
      rw [← e]
      exact hmg0
    obtain ⟨fd, hb, hF⟩ := K23.facts (P := (PySem.Challenge.rw_turnkeepers_k23_whole_passes_kept).prog) (w := w) KX G hmg c
    exact ⟨K, fd, DL.FnSp K K23.R_law, KX, hb, fun H a ns hl _ hS => DL.sp_law hS ⟨ns, true, rfl, K23.Plain.main ns hl, rfl, rfl⟩, hF⟩
