import PyProof.Rows.All
import Wide.All
import OpenK.AllK
import Wide.FinOn
import HandS.ForMost
import HandS.Exc
import HandS.Defaults
import HandS.SortInts
import HandS.SortRule
import HandS.TupAny
import HandS.IsInst
import HandS.Style
import HandS.Iter
import HandS.Strs
import HandS.Zip
import KE.GoesMore
import HandS.SortKw
import HandS.MakeKw
import HandS.MakeKwOnly
import KE.KDictZip
import HandS.DictComp
import HandS.Codes
import KE.KIndexOf
import KE.KStateDown
import HandS.Base
import HandS.Call
import HandS.Ends
import HandS.More
import HandS.Words
import HandS.WordsExc
import HandS.Head0
import HandS.Head1
import HandS.Head2
import HandS.HeadEnd
import HandS.HeadHook1
import HandS.HeadHook2
import PySem.Challenge.RW_turnkeepers_k17_whole_dearest_rents
set_option Elab.async false
set_option linter.all false
set_option maxRecDepth 100000
set_option maxHeartbeats 0
namespace DL
open PySem PySem.Spec L2
open PyProof.Rows hiding St
inductive D where
  | non | bl (b : Bool) | int (i : Int) | str (x : Str)
  | lst (xs : List D) | tup (xs : List D)
  | dK (kvs : List (Key × D)) | dT (kvs : List (List Key × D))
  | obj (C : Addr) (fs : List (Str × D))
    | scr (ns : List Int)
  | adr (a : Addr)
    | tpx (xs : List D) | tpk (xs : List D)
def D.sc : D → Bool
  | .non => true | .bl _ => true | .int _ => true | .str _ => true | _ => false
mutual
def D.imm : D → Bool
  | .non => true | .bl _ => true | .int _ => true | .str _ => true
  | .tup xs => D.imms xs
  | _ => false
def D.imms : List D → Bool
  | [] => true
  | d :: ds => D.imm d && D.imms ds
end
mutual
inductive Rep (K : PySem.W.Frag) (B : Hp) : D → V → Prop
  | non : Rep K B .non .non
  | bl (b : Bool) : Rep K B (.bl b) (.bl b)
  | int (i : Int) : Rep K B (.int i) (.int i)
  | str (x : Str) : Rep K B (.str x) (.str x)
  | lst {a : Addr} {vs : List V} {ds : List D} : B a = some (.lst vs) → Reps K B ds vs → Rep K B (.lst ds) (.ref a)
  | tup {a : Addr} {vs : List V} {ds : List D} : SqT K B a vs → Reps K B ds vs → Rep K B (.tup ds) (.ref a)
  | dK {a : Addr} {us : List (Key × V)} {kvs : List (Key × D)} : B a = some (.dK us) → RepP K B Key kvs us → Rep K B (.dK kvs) (.ref a)
  | dT {a : Addr} {us : List (List Key × V)} {kvs : List (List Key × D)} : B a = some (.dT us) → RepP K B (List Key) kvs us → Rep K B (.dT kvs) (.ref a)
  | obj {a C dx : Addr} {us : List (Str × V)} {fs : List (Str × D)} : B a = some (.ins C dx us) → RepP K B Str fs us → Rep K B (.obj C fs) (.ref a)
  | scr {a : Addr} {ns : List Int} : SqL K B a (ns.map V.int) → Rep K B (.scr ns) (.ref a)
  | adr {a : Addr} : Rep K B (.adr a) (.ref a)
  | tpx {a : Addr} {o : Obj} {vs : List V} {ds : List D} : B a = some (.frz o (.tup vs)) → o.dict = none → Reps K B ds vs → Rep K B (.tpx ds) (.ref a)
  | tpk {a : Addr} {vs : List V} {ds : List D} : B a = some (.tup vs) → Reps K B ds vs → Rep K B (.tpk ds) (.ref a)
inductive Reps (K : PySem.W.Frag) (B : Hp) : List D → List V → Prop
  | nil : Reps K B [] []
  | cons {d : D} {v : V} {ds : List D} {vs : List V} : Rep K B d v → Reps K B ds vs → Reps K B (d :: ds) (v :: vs)
inductive RepP (K : PySem.W.Frag) (B : Hp) : (κ : Type) → List (κ × D) → List (κ × V) → Prop
  | nil {κ : Type} : RepP K B κ [] []
  | cons {κ : Type} {k : κ} {d : D} {v : V} {ds : List (κ × D)} {vs : List (κ × V)} : Rep K B d v → RepP K B κ ds vs → RepP K B κ ((k, d) :: ds) ((k, v) :: vs)
end
theorem Same.rd {H H' : Hp} (e : Same H H') {a : Addr} {o : HO} (h : Rd H a o) : Rd H' a o := by
  rcases h with h | ⟨u, h⟩
  · exact .inl (e _ _ h)
  · exact .inr ⟨u, e _ _ h⟩
theorem Same.seqT {K : PySem.W.Frag} {H H' : Hp} {a : Addr} {xs : List V} (e : Same H H') (h : SqT K H a xs) : SqT K H' a xs := by
  rcases h with h | h
  · exact .inl (Same.rd e h)
  · exact .inr h
section
variable {K : PySem.W.Frag} {B B' F H : Hp}
mutual
theorem Rep.mono (e : Same B B') : ∀ {d : D} {v : V}, Rep K B d v → Rep K B' d v
  | _, _, .non => .non
  | _, _, .bl b => .bl b
  | _, _, .int b => .int b
  | _, _, .str b => .str b
  | _, _, .lst s r => .lst (e _ _ s) (Reps.mono e r)
  | _, _, .tup s r => .tup (Same.seqT e s) (Reps.mono e r)
  | _, _, .dK s r => .dK (e _ _ s) (RepP.mono e r)
  | _, _, .dT s r => .dT (e _ _ s) (RepP.mono e r)
  | _, _, .obj s r => .obj (e _ _ s) (RepP.mono e r)
  | _, _, .scr s => .scr (e.seq s)
  | _, _, .adr => .adr
  | _, _, .tpx s d r => .tpx (e _ _ s) d (Reps.mono e r)
  | _, _, .tpk s r => .tpk (e _ _ s) (Reps.mono e r)
theorem Reps.mono (e : Same B B') : ∀ {d : List D} {v : List V}, Reps K B d v → Reps K B' d v
  | _, _, .nil => .nil
  | _, _, .cons r t => .cons (Rep.mono e r) (Reps.mono e t)
theorem RepP.mono (e : Same B B') : ∀ {κ : Type} {d : List (κ × D)} {v : List (κ × V)}, RepP K B κ d v → RepP K B' κ d v
  | _, _, _, .nil => .nil
  | _, _, _, .cons r t => .cons (Rep.mono e r) (RepP.mono e t)
end
def TupOk (F H : Hp) : Prop := ∀ a xs, Rd H a (.tup xs) → Rd F a (.tup xs)
mutual
theorem Rep.immF (t : TupOk F H) : ∀ {d : D} {v : V}, d.imm = true → Rep K H d v → Rep K F d v
  | _, _, _, .non => .non
  | _, _, _, .bl b => .bl b
  | _, _, _, .int b => .int b
  | _, _, _, .str b => .str b
  | .tup ds, _, i, .tup s r => .tup (by
      rcases s with s | s
      · exact .inl (t _ _ s)
      · exact .inr s) (Reps.immF t i r)
  | .lst _, _, i, .lst _ _ => nomatch i
  | .dK _, _, i, .dK _ _ => nomatch i
  | .dT _, _, i, .dT _ _ => nomatch i
  | .obj _ _, _, i, .obj _ _ => nomatch i
  | .scr _, _, i, .scr _ => nomatch i
  | .adr _, _, i, .adr => nomatch i
  | .tpx _, _, i, .tpx _ _ _ => nomatch i
  | .tpk _, _, i, .tpk _ _ => nomatch i
theorem Reps.immF (t : TupOk F H) : ∀ {d : List D} {v : List V}, D.imms d = true → Reps K H d v → Reps K F d v
  | _, _, _, .nil => .nil
  | _ :: _, _, i, .cons r q => .cons (Rep.immF t (Bool.and_eq_true_iff.mp i).1 r) (Reps.immF t (Bool.and_eq_true_iff.mp i).2 q)
end
theorem Rep.scal {d : D} {v : V} (h : d.sc = true) (r : Rep K B d v) : Rep K B' d v := by
  cases r with
  | non => exact .non
  | bl b => exact .bl b
  | int b => exact .int b
  | str b => exact .str b
  | _ => cases h
theorem Reps.length : ∀ {ds : List D} {vs : List V}, Reps K B ds vs → vs.length = ds.length
  | _, _, .nil => rfl
  | _, _, .cons _ t => congrArg Nat.succ (Reps.length t)
theorem Reps.get : ∀ {ds : List D} {vs : List V} {i : Nat} {d : D}, Reps K B ds vs → ds[i]? = some d → ∃ v, vs[i]? = some v ∧ Rep K B d v
  | _, _, _, _, .nil, e => by simp at e
  | _, _, 0, d, .cons r _, e => by simp at e; subst e; exact ⟨_, rfl, r⟩
  | _, _, i + 1, d, .cons _ t, e => by
    obtain ⟨v, h1, h2⟩ := Reps.get (i := i) (d := d) t (by simpa using e)
    exact ⟨v, by simpa using h1, h2⟩
theorem Reps.getV : ∀ {ds : List D} {vs : List V} {i : Nat} {v : V}, Reps K B ds vs → vs[i]? = some v → ∃ d, ds[i]? = some d ∧ Rep K B d v
  | _, _, _, _, .nil, e => by simp at e
  | _, _, 0, d, .cons r _, e => by simp at e; subst e; exact ⟨_, rfl, r⟩
  | _, _, i + 1, d, .cons _ t, e => by
    obtain ⟨v, h1, h2⟩ := Reps.getV (i := i) (v := d) t (by simpa using e)
    exact ⟨v, by simpa using h1, h2⟩
theorem Reps.append : ∀ {ds es : List D} {vs us : List V}, Reps K B ds vs → Reps K B es us → Reps K B (ds ++ es) (vs ++ us)
  | _, _, _, _, .nil, s => s
  | _, _, _, _, .cons r t, s => .cons r (Reps.append t s)
theorem Reps.take : ∀ {ds : List D} {vs : List V} (n : Nat), Reps K B ds vs → Reps K B (ds.take n) (vs.take n)
  | _, _, 0, _ => .nil
  | _, _, _ + 1, .nil => .nil
  | _, _, n + 1, .cons r t => .cons r (Reps.take n t)
theorem Reps.drop : ∀ {ds : List D} {vs : List V} (n : Nat), Reps K B ds vs → Reps K B (ds.drop n) (vs.drop n)
  | _, _, 0, r => r
  | _, _, _ + 1, .nil => .nil
  | _, _, n + 1, .cons _ t => Reps.drop n t
theorem Reps.set {d : D} {v : V} (r : Rep K B d v) : ∀ {ds : List D} {vs : List V} (i : Nat), Reps K B ds vs → Reps K B (ds.set i d) (vs.set i v)
  | _, _, _, .nil => .nil
  | _, _, 0, .cons _ t => .cons r t
  | _, _, i + 1, .cons q t => .cons q (Reps.set r i t)
theorem Reps.one {d : D} {v : V} (r : Rep K B d v) : Reps K B [d] [v] := .cons r .nil
theorem Reps.reverse : ∀ {ds : List D} {vs : List V}, Reps K B ds vs → Reps K B ds.reverse vs.reverse
  | _, _, .nil => .nil
  | _, _, .cons r t => by rw [List.reverse_cons, List.reverse_cons]; exact Reps.append (Reps.reverse t) (.one r)
theorem Reps.eraseIdx : ∀ {ds : List D} {vs : List V} (i : Nat), Reps K B ds vs → Reps K B (ds.eraseIdx i) (vs.eraseIdx i)
  | _, _, _, .nil => .nil
  | _, _, 0, .cons _ t => t
  | _, _, i + 1, .cons q t => .cons q (Reps.eraseIdx i t)
theorem Reps.dropLast : ∀ {ds : List D} {vs : List V}, Reps K B ds vs → Reps K B ds.dropLast vs.dropLast
  | _, _, .nil => .nil
  | _, _, .cons _ .nil => .nil
  | _, _, .cons r (.cons q t) => .cons r (Reps.dropLast (.cons q t))
theorem RepP.lookup {κ : Type} [BEq κ] : ∀ {ds : List (κ × D)} {vs : List (κ × V)} {k : κ} {d : D}, RepP K B κ ds vs → ds.lookup k = some d → ∃ v, vs.lookup k = some v ∧ Rep K B d v
  | _, _, _, _, .nil, e => nomatch e
  | _, _, x, d, .cons (k := k) r t, e => by
    rw [List.lookup_cons] at e ⊢
    cases q : (x == k) with
    | true => rw [q] at e; exact ⟨_, rfl, by cases e; exact r⟩
    | false => rw [q] at e; exact RepP.lookup t e
theorem RepP.lookup_none {κ : Type} [BEq κ] : ∀ {ds : List (κ × D)} {vs : List (κ × V)} {k : κ}, RepP K B κ ds vs → ds.lookup k = none → vs.lookup k = none
  | _, _, _, .nil, e => rfl
  | _, _, x, .cons (k := k) r t, e => by
    rw [List.lookup_cons] at e ⊢
    cases q : (x == k) with
    | true => rw [q] at e; cases e
    | false => rw [q] at e; exact RepP.lookup_none t e
theorem RepP.length {κ : Type} : ∀ {ds : List (κ × D)} {vs : List (κ × V)}, RepP K B κ ds vs → vs.length = ds.length
  | _, _, .nil => rfl
  | _, _, .cons _ t => congrArg Nat.succ (RepP.length t)
end
inductive Kd where
  | own | cln | brw | shl | drt
  deriving DecidableEq
inductive Slot where
  | own (d : D) | frz (d : D) | bor (d : D)
abbrev DEnv := List (Option Slot)
def OwnRep (K : PySem.W.Frag) (F H : Hp) (p : Addr) : D → Prop
  | .lst ds => ∃ vs, H p = some (.lst vs) ∧ Reps K F ds vs
  | .dK kvs => ∃ us, H p = some (.dK us) ∧ RepP K F Key kvs us
  | .dT kvs => ∃ us, H p = some (.dT us) ∧ RepP K F (List Key) kvs us
  | .obj C fs => ∃ dx us, H p = some (.ins C dx us) ∧ RepP K F Str fs us
  | _ => False
def ShlRep (K : PySem.W.Frag) (F H : Hp) : D → V → Prop
  | .lst ds, v => ∃ a vs, v = .ref a ∧ H a = some (.lst vs) ∧ Reps K F ds vs
  | .dK kvs, v => ∃ a us, v = .ref a ∧ H a = some (.dK us) ∧ RepP K F Key kvs us
  | .dT kvs, v => ∃ a us, v = .ref a ∧ H a = some (.dT us) ∧ RepP K F (List Key) kvs us
  | .obj C fs, v => ∃ a dx us, v = .ref a ∧ H a = some (.ins C dx us) ∧ RepP K F Str fs us
  | d, v => Rep K F d v
def RepK (K : PySem.W.Frag) (F B H0 H : Hp) : Kd → D → V → Prop
  | .own, d, v => ∃ p, v = .ref p ∧ H0 p = none ∧ B p = none ∧ OwnRep K F H p d
  | .cln, d, v => Rep K F d v
  | .brw, d, v => Rep K B d v
  | .shl, d, v => ShlRep K F H d v
  | .drt, d, v => Rep K H d v
def SlotE (K : PySem.W.Frag) (F B H : Hp) : Slot → V → Prop
  | .own d, v => ∃ p, v = .ref p ∧ OwnRep K F H p d
  | .frz d, v => Rep K F d v
  | .bor d, v => Rep K B d v
structure Hs (F B H : Hp) : Prop where
  fb : Same F B
  bh : Same B H
  tup : TupOk F H
theorem Hs.fh {F B H : Hp} (s : Hs F B H) : Same F H := s.fb.trans s.bh
structure EnvE (K : PySem.W.Frag) (F B H : Hp) (env : DEnv) (σ : St) : Prop where
  hs : Hs F B H
  len : env.length = σ.length
  at_ : ∀ (i : Nat) s, env[i]? = some (some s) → ∃ v, σ[i]? = some (some v) ∧ SlotE K F B H s v
structure Grow (F B H F' B' H' : Hp) : Prop where
  f : Same F F'
  b : Same B B'
  h : Same H H'
  hs : Hs F' B' H'
  newF : ∀ p, H p ≠ none → F' p ≠ none → F p ≠ none
  newB : ∀ p, H p ≠ none → B' p ≠ none → B p ≠ none
theorem Grow.refl {F B H : Hp} (s : Hs F B H) : Grow F B H F B H := ⟨.refl _, .refl _, .refl _, s, fun _ _ h => h, fun _ _ h => h⟩
theorem ne_none_of_same {H H' : Hp} (e : Same H H') {p : Addr} (h : H p ≠ none) : H' p ≠ none := by
  cases q : H p with
  | none => exact absurd q h
  | some o => rw [e p o q]; exact fun z => nomatch z
theorem Grow.trans {F B H F1 B1 H1 F2 B2 H2 : Hp} (a : Grow F B H F1 B1 H1) (b : Grow F1 B1 H1 F2 B2 H2) : Grow F B H F2 B2 H2 :=
  ⟨a.f.trans b.f, a.b.trans b.b, a.h.trans b.h, b.hs, fun p h1 h2 => a.newF p h1 (b.newF p (ne_none_of_same a.h h1) h2), fun p h1 h2 => a.newB p h1 (b.newB p (ne_none_of_same a.h h1) h2)⟩
section
variable {K : PySem.W.Frag} {F B H F' B' H' H0 : Hp}
theorem OwnRep.grow (f : Same F F') (h : Same H H') {p : Addr} : ∀ {d : D}, OwnRep K F H p d → OwnRep K F' H' p d
  | .lst _, ⟨vs, e, r⟩ => ⟨vs, h _ _ e, r.mono f⟩
  | .dK _, ⟨vs, e, r⟩ => ⟨vs, h _ _ e, r.mono f⟩
  | .dT _, ⟨vs, e, r⟩ => ⟨vs, h _ _ e, r.mono f⟩
  | .obj _ _, ⟨dx, vs, e, r⟩ => ⟨dx, vs, h _ _ e, r.mono f⟩
theorem ShlRep.grow (f : Same F F') (h : Same H H') : ∀ {d : D} {v : V}, ShlRep K F H d v → ShlRep K F' H' d v
  | .lst _, _, ⟨a, vs, e, s, r⟩ => ⟨a, vs, e, h _ _ s, r.mono f⟩
  | .dK _, _, ⟨a, vs, e, s, r⟩ => ⟨a, vs, e, h _ _ s, r.mono f⟩
  | .dT _, _, ⟨a, vs, e, s, r⟩ => ⟨a, vs, e, h _ _ s, r.mono f⟩
  | .obj _ _, _, ⟨a, dx, vs, e, s, r⟩ => ⟨a, dx, vs, e, h _ _ s, r.mono f⟩
  | .non, _, r => Rep.mono f (show Rep K F _ _ from r)
  | .bl _, _, r => Rep.mono f (show Rep K F _ _ from r)
  | .int _, _, r => Rep.mono f (show Rep K F _ _ from r)
  | .str _, _, r => Rep.mono f (show Rep K F _ _ from r)
  | .tup _, _, r => Rep.mono f (show Rep K F _ _ from r)
  | .scr _, _, r => Rep.mono f (show Rep K F _ _ from r)
  | .adr _, _, r => Rep.mono f (show Rep K F _ _ from r)
  | .tpx _, _, r => Rep.mono f (show Rep K F _ _ from r)
  | .tpk _, _, r => Rep.mono f (show Rep K F _ _ from r)
theorem OwnRep.rep (f : Same F H) {p : Addr} : ∀ {d : D}, OwnRep K F H p d → Rep K H d (.ref p)
  | .lst _, ⟨vs, e, r⟩ => .lst e (r.mono f)
  | .dK _, ⟨vs, e, r⟩ => .dK e (r.mono f)
  | .dT _, ⟨vs, e, r⟩ => .dT e (r.mono f)
  | .obj _ _, ⟨dx, vs, e, r⟩ => .obj e (r.mono f)
theorem OwnRep.shl {p : Addr} : ∀ {d : D}, OwnRep K F H p d → ShlRep K F H d (.ref p)
  | .lst _, ⟨vs, e, r⟩ => ⟨_, _, rfl, e, r⟩
  | .dK _, ⟨vs, e, r⟩ => ⟨_, _, rfl, e, r⟩
  | .dT _, ⟨vs, e, r⟩ => ⟨_, _, rfl, e, r⟩
  | .obj _ _, ⟨dx, vs, e, r⟩ => ⟨_, _, _, rfl, e, r⟩
theorem ShlRep.rep (f : Same F H) : ∀ {d : D} {v : V}, ShlRep K F H d v → Rep K H d v
  | .lst _, _, ⟨a, vs, e, s, r⟩ => by subst e; exact .lst s (r.mono f)
  | .dK _, _, ⟨a, vs, e, s, r⟩ => by subst e; exact .dK s (r.mono f)
  | .dT _, _, ⟨a, vs, e, s, r⟩ => by subst e; exact .dT s (r.mono f)
  | .obj _ _, _, ⟨a, dx, vs, e, s, r⟩ => by subst e; exact .obj s (r.mono f)
  | .non, _, r => Rep.mono f (show Rep K F _ _ from r)
  | .bl _, _, r => Rep.mono f (show Rep K F _ _ from r)
  | .int _, _, r => Rep.mono f (show Rep K F _ _ from r)
  | .str _, _, r => Rep.mono f (show Rep K F _ _ from r)
  | .tup _, _, r => Rep.mono f (show Rep K F _ _ from r)
  | .scr _, _, r => Rep.mono f (show Rep K F _ _ from r)
  | .adr _, _, r => Rep.mono f (show Rep K F _ _ from r)
  | .tpx _, _, r => Rep.mono f (show Rep K F _ _ from r)
  | .tpk _, _, r => Rep.mono f (show Rep K F _ _ from r)
theorem Rep.shl (f : Same F H) : ∀ {d : D} {v : V}, Rep K F d v → ShlRep K F H d v
  | .lst _, _, .lst s r => ⟨_, _, rfl, f _ _ s, r⟩
  | .dK _, _, .dK s r => ⟨_, _, rfl, f _ _ s, r⟩
  | .dT _, _, .dT s r => ⟨_, _, rfl, f _ _ s, r⟩
  | .obj _ _, _, .obj s r => ⟨_, _, _, rfl, f _ _ s, r⟩
  | .non, _, r => r
  | .bl _, _, r => r
  | .int _, _, r => r
  | .str _, _, r => r
  | .tup _, _, r => r
  | .scr _, _, r => r
  | .adr _, _, r => r
  | .tpx _, _, r => r
  | .tpk _, _, r => r
theorem RepK.rep (s : Hs F B H) : ∀ {k : Kd} {d : D} {v : V}, RepK K F B H0 H k d v → Rep K H d v
  | .own, _, _, ⟨p, e, _, _, r⟩ => by subst e; exact r.rep s.fh
  | .cln, _, _, r => Rep.mono s.fh r
  | .brw, _, _, r => Rep.mono s.bh r
  | .shl, _, _, r => ShlRep.rep s.fh r
  | .drt, _, _, r => r
theorem SlotE.grow (f : Same F F') (b : Same B B') (h : Same H H') : ∀ {s : Slot} {v : V}, SlotE K F B H s v → SlotE K F' B' H' s v
  | .own _, _, ⟨p, e, r⟩ => ⟨p, e, r.grow f h⟩
  | .frz _, _, r => Rep.mono f r
  | .bor _, _, r => Rep.mono b r
theorem EnvE.grow {env : DEnv} {σ : St} (e : EnvE K F B H env σ) (g : Grow F B H F' B' H') : EnvE K F' B' H' env σ :=
  ⟨g.hs, e.len, fun i s h => by obtain ⟨v, h1, h2⟩ := e.at_ i s h; exact ⟨v, h1, h2.grow g.f g.b g.h⟩⟩
end
end DL
namespace DL
open PySem PySem.Spec L2
open PyProof.Rows hiding St
def frzAt (F H : Hp) (p : Addr) : Hp := fun q => if q = p then H p else F q
section
variable {K : PySem.W.Frag} {F B H F' B' H' H0 : Hp}
theorem frz_same (f : Same F H) (p : Addr) : Same F (frzAt F H p) := fun q o e => by
  unfold frzAt
  split
  · next z => subst z; exact f _ _ e
  · exact e
theorem frz_sub (f : Same F H) (p : Addr) : Same (frzAt F H p) H := fun q o e => by
  unfold frzAt at e
  split at e
  · next z => subst z; exact e
  · exact f _ _ e
theorem frz_two (f : Same F B) (p : Addr) : Same (frzAt F H p) (frzAt B H p) := fun q o e => by
  unfold frzAt at e ⊢
  split at e
  · next z => rw [if_pos z]; exact e
  · next z => rw [if_neg z]; exact f _ _ e
theorem Hs.frz (s : Hs F B H) (p : Addr) : Hs (frzAt F H p) (frzAt B H p) H := ⟨frz_two s.fb p, frz_sub s.bh p, fun a xs h => Same.rd (frz_same s.fh p) (s.tup a xs h)⟩
theorem frz_ne {q p : Addr} (h : frzAt F H p q ≠ none) : q = p ∨ F q ≠ none := by
  unfold frzAt at h
  split at h
  · next z => exact .inl z
  · exact .inr h
theorem Grow.frz (g : Grow F B H F' B' H') {p : Addr} (n : H p = none) : Grow F B H (frzAt F' H' p) (frzAt B' H' p) H' :=
  ⟨g.f.trans (frz_same g.hs.fh p), g.b.trans (frz_same g.hs.bh p), g.h, g.hs.frz p, fun q h1 h2 => by
    rcases frz_ne h2 with z | z
    · subst z; exact absurd n h1
    · exact g.newF q h1 z, fun q h1 h2 => by
    rcases frz_ne h2 with z | z
    · subst z; exact absurd n h1
    · exact g.newB q h1 z⟩
theorem frz_at {p : Addr} {o : HO} (e : H p = some o) : frzAt F H p p = some o := by unfold frzAt; rw [if_pos rfl]; exact e
theorem OwnRep.frz (f : Same F H) {p : Addr} : ∀ {d : D}, OwnRep K F H p d → Rep K (frzAt F H p) d (.ref p)
  | .lst _, ⟨vs, e, r⟩ => .lst (frz_at e) (r.mono (frz_same f p))
  | .dK _, ⟨vs, e, r⟩ => .dK (frz_at e) (r.mono (frz_same f p))
  | .dT _, ⟨vs, e, r⟩ => .dT (frz_at e) (r.mono (frz_same f p))
  | .obj _ _, ⟨dx, vs, e, r⟩ => .obj (frz_at e) (r.mono (frz_same f p))
end
def tEv (K : PySem.W.Frag) (env : DEnv) (d : D) (k : Kd) : TE := fun σ H Q => ∃ F B, EnvE K F B H env σ ∧ ∀ v H' F' B', Grow F B H F' B' H' → RepK K F' B' H H' k d v → Q v H'
structure Ev (X : Cx) (env : DEnv) (e : Expr) (d : D) (k : Kd) : Prop where
  pe : PE X e (tEv X.K env d k)
def tEt (K : PySem.W.Frag) (env : DEnv) (b : Bool) : TT := fun σ H Q => ∃ F B, EnvE K F B H env σ ∧ ∀ H' F' B', Grow F B H F' B' H' → Q b H'
structure Et (X : Cx) (env : DEnv) (e : Expr) (b : Bool) : Prop where
  pt : PT X e (tEt X.K env b)
def repsK (K : PySem.W.Frag) (F B H : Hp) : Kd → List D → List V → Prop
  | .brw, ds, vs => Reps K B ds vs
  | .drt, ds, vs => Reps K H ds vs
  | _, ds, vs => Reps K F ds vs
def tEA (K : PySem.W.Frag) (env : DEnv) (ds : List D) (k : Kd) : TA := fun σ H Q => ∃ F B, EnvE K F B H env σ ∧ ∀ vs H' F' B', Grow F B H F' B' H' → repsK K F' B' H' k ds vs → Q vs H'
structure EA (X : Cx) (env : DEnv) (es : List Expr) (ds : List D) (k : Kd) : Prop where
  pa : PA X es (tEA X.K env ds k)
theorem _root_.L2.PE.mono {X : Cx} {e : Expr} {t t' : TE} (h : PE X e t) (m : ∀ σ H Q, t' σ H Q → t σ H Q) : PE X e t' := ⟨fun pins s σ H Q I q => h.run pins s σ H Q I (m σ H Q q)⟩
theorem _root_.L2.PT.mono {X : Cx} {e : Expr} {t t' : TT} (h : PT X e t) (m : ∀ σ H Q, t' σ H Q → t σ H Q) : PT X e t' := ⟨fun pins s σ H Q I q => h.run pins s σ H Q I (m σ H Q q)⟩
theorem _root_.L2.PW.mono {X : Cx} {e : Expr} {t t' : TT} (h : PW X e t) (m : ∀ σ H Q, t' σ H Q → t σ H Q) : PW X e t' := ⟨fun wh pins s σ H Q I q => h.run wh pins s σ H Q I (m σ H Q q)⟩
theorem _root_.L2.PA.mono {X : Cx} {e : List Expr} {t t' : TA} (h : PA X e t) (m : ∀ σ H Q, t' σ H Q → t σ H Q) : PA X e t' := ⟨fun pos pins s σ H Q I q => h.run pos pins s σ H Q I (m σ H Q q)⟩
theorem _root_.L2.PS.mono {X : Cx} {e : Stmt} {t t' : TS} (h : PS X e t) (m : ∀ D σ H, t' D σ H → t D σ H) : PS X e t' := ⟨fun pins s σ H D I q => h.run pins s σ H D I (m D σ H q)⟩
theorem _root_.L2.PSs.mono {X : Cx} {e : List Stmt} {t t' : TS} (h : PSs X e t) (m : ∀ D σ H, t' D σ H → t D σ H) : PSs X e t' := ⟨fun pins s σ H D I q => h.run pins s σ H D I (m D σ H q)⟩
section
variable {X : Cx} {env : DEnv} {e a b c : Expr} {d x y z : D} {k k1 k2 k3 : Kd} {pos : Pos}
theorem Ev.drt (h : Ev X env e d k) : Ev X env e d .drt := ⟨h.pe.mono fun σ H Q ⟨F, B, E, q⟩ => ⟨F, B, E, fun v H' F' B' g r => q v H' F' B' g (r.rep g.hs)⟩⟩
theorem Ev.own_cln (h : Ev X env e d .own) : Ev X env e d .cln := ⟨h.pe.mono fun σ H Q ⟨F, B, E, q⟩ => ⟨F, B, E, fun v H' F' B' g ⟨p, e1, n0, n1, r⟩ => by
  subst e1
  exact q _ H' _ _ (g.frz n0) (r.frz g.hs.fh)⟩⟩
theorem Ev.cln_shl (h : Ev X env e d .cln) : Ev X env e d .shl := ⟨h.pe.mono fun σ H Q ⟨F, B, E, q⟩ => ⟨F, B, E, fun v H' F' B' g r => q v H' F' B' g (Rep.shl g.hs.fh r)⟩⟩
theorem Ev.cln_brw (h : Ev X env e d .cln) : Ev X env e d .brw := ⟨h.pe.mono fun σ H Q ⟨F, B, E, q⟩ => ⟨F, B, E, fun v H' F' B' g r => q v H' F' B' g (Rep.mono g.hs.fb r)⟩⟩
theorem Ev.imm (h : Ev X env e d k) (i : d.imm = true) : Ev X env e d .cln := ⟨h.drt.pe.mono fun σ H Q ⟨F, B, E, q⟩ => ⟨F, B, E, fun v H' F' B' g r => q v H' F' B' g (Rep.immF g.hs.tup i r)⟩⟩
theorem Ev.scal (h : Ev X env e d k) (i : d.sc = true := by rfl) : Ev X env e d .cln := ⟨h.drt.pe.mono fun σ H Q ⟨F, B, E, q⟩ => ⟨F, B, E, fun v H' F' B' g r => q v H' F' B' g (Rep.scal i r)⟩⟩
def Kd.st : Kd → Kd
  | .drt => .drt | .brw => .brw | _ => .shl
theorem Ev.st (h : Ev X env e d k) : Ev X env e d k.st := by
  cases k with
  | own => exact h.own_cln.cln_shl
  | cln => exact h.cln_shl
  | brw => exact h
  | shl => exact h
  | drt => exact h
def Kd.held : Kd → Kd
  | .own => .cln | .cln => .cln | .brw => .brw | _ => .drt
theorem Ev.held (h : Ev X env e d k) : Ev X env e d k.held := by
  cases k with
  | own => exact h.own_cln
  | cln => exact h
  | brw => exact h
  | shl => exact h.drt
  | drt => exact h
def heldOf (k : Kd) (d : D) : Kd := if d.sc then .cln else k.held
theorem Ev.heldOf (h : Ev X env e d k) : Ev X env e d (DL.heldOf k d) := by
  unfold DL.heldOf
  split
  · next i => exact h.scal i
  · exact h.held
def Kd.join : Kd → Kd → Kd
  | .cln, .cln => .cln | .cln, .brw => .brw | .brw, .cln => .brw | .brw, .brw => .brw | _, _ => .drt
def Kd.kid : Kd → Kd
  | .drt => .drt | .brw => .brw | _ => .cln
def Kd.new : Kd → Kd
  | .cln => .own | .own => .own | _ => .drt
end
section
variable {K : PySem.W.Frag} {F B H F' B' H' H0 : Hp} {d : D} {v : V}
theorem RepK.back {k : Kd} (e : Same H0 H) (r : RepK K F' B' H H' k d v) : RepK K F' B' H0 H' k d v := by
  cases k with
  | own => obtain ⟨p, e1, n, m, r⟩ := r; exact ⟨p, e1, e.free n, m, r⟩
  | _ => exact r
theorem RepK.growS {k : Kd} (g : Grow F B H F' B' H') (r : RepK K F B H0 H k.st d v) : RepK K F' B' H0 H' k.st d v := by
  cases k with
  | drt => exact Rep.mono g.h r
  | brw => exact Rep.mono g.b r
  | own => exact ShlRep.grow g.f g.h r
  | cln => exact ShlRep.grow g.f g.h r
  | shl => exact ShlRep.grow g.f g.h r
theorem RepK.any0 {k : Kd} {H1 : Hp} (r : RepK K F B H0 H k.st d v) : RepK K F B H1 H k.st d v := by
  cases k <;> exact r
abbrev RepS (K : PySem.W.Frag) (F B H : Hp) (k : Kd) (d : D) (v : V) : Prop := RepK K F B H H k.st d v
abbrev Fin (K : PySem.W.Frag) (F B H : Hp) (k : Kd) (z : D) (Q : VK) : Prop := ∀ w H' F' B', Grow F B H F' B' H' → RepK K F' B' H H' k z w → Q w H'
theorem RepK.scalR {k : Kd} (i : d.sc = true) (s : Hs F B H) (r : RepK K F B H0 H k d v) : Rep K F d v := Rep.scal i (r.rep s)
theorem repsK.grow {k : Kd} {ds : List D} {vs : List V} (g : Grow F B H F' B' H') (r : repsK K F B H k ds vs) : repsK K F' B' H' k ds vs := by
  cases k with
  | drt => exact Reps.mono g.h r
  | brw => exact Reps.mono g.b r
  | own => exact Reps.mono g.f r
  | cln => exact Reps.mono g.f r
  | shl => exact Reps.mono g.f r
theorem repsK.reps {k : Kd} {ds : List D} {vs : List V} (s : Hs F B H) (r : repsK K F B H k ds vs) : Reps K H ds vs := by
  cases k with
  | drt => exact r
  | brw => exact Reps.mono s.bh r
  | own => exact Reps.mono s.fh r
  | cln => exact Reps.mono s.fh r
  | shl => exact Reps.mono s.fh r
end
section
variable {X : Cx} {env : DEnv} {e a b c : Expr} {d x y z : D} {k k1 k2 k3 : Kd} {pos : Pos}
theorem two {r : R2} (ha : Ev X env a x k1) (hb : Ev X env b y k2)
    (hr : ∀ F B H v u Q, Hs F B H → RepS X.K F B H k1 x v → RepS X.K F B H k2 y u → Fin X.K F B H k z Q → r v u H Q) :
    ∀ σ H Q, tEv X.K env z k σ H Q → tOp r (tEv X.K env x k1.st) (tEv X.K env y k2.st) σ H Q := fun σ H Q ⟨F, B, E, q⟩ =>
  ⟨F, B, E, fun v H1 F1 B1 g1 r1 => ⟨F1, B1, E.grow g1, fun u H2 F2 B2 g2 r2 => hr F2 B2 H2 v u Q g2.hs (RepK.any0 (RepK.growS g2 r1)) (RepK.any0 r2) fun w H3 F3 B3 g3 r3 =>
    q w H3 F3 B3 ((g1.trans g2).trans g3) (RepK.back (g1.h.trans g2.h) r3)⟩⟩
theorem ev_op2 {op : Operator} {r : R2} (ho : OpR X (binaryOp op) r) (ha : Ev X env a x k1) (hb : Ev X env b y k2)
    (hr : ∀ F B H v u Q, Hs F B H → RepS X.K F B H k1 x v → RepS X.K F B H k2 y u → Fin X.K F B H k z Q → r v u H Q) : Ev X env (.BinOp a op b pos) z k :=
  ⟨(pe_op ho ha.st.pe hb.st.pe).mono (two ha hb hr)⟩
theorem ev_cmp2 {op : CmpOp} {r : R2} (ho : OpR X (compareOp op) r) (ha : Ev X env a x k1) (hb : Ev X env b y k2) (hm : behindInMarks op b = false)
    (hr : ∀ F B H v u Q, Hs F B H → RepS X.K F B H k1 x v → RepS X.K F B H k2 y u → Fin X.K F B H k z Q → r v u H Q) : Ev X env (.Compare a [op] [b] pos) z k :=
  ⟨(pe_cmpR ho ha.st.pe hb.st.pe hm).mono (two ha hb hr)⟩
theorem et_cmp2 {op : CmpOp} {r : R2} {t : Bool} (ho : OpR X (compareOp op) r) (ha : Ev X env a x k1) (hb : Ev X env b y k2) (hm : behindInMarks op b = false)
    (hr : ∀ F B H v u Q, Hs F B H → RepS X.K F B H k1 x v → RepS X.K F B H k2 y u → Fin X.K F B H .cln (.bl t) Q → r v u H Q) : Et X env (.Compare a [op] [b] pos) t :=
  ⟨(pt_cmpR ho ha.st.pe hb.st.pe hm).mono fun σ H Q ⟨F, B, E, q⟩ => two (z := .bl t) (k := .cln) ha hb hr σ H _ ⟨F, B, E, fun w H' F' B' g r => by
    cases (show Rep X.K F' (.bl t) w from r) with
    | bl => exact ⟨t, rfl, q H' F' B' g⟩⟩⟩
theorem one_te {r : V → Hp → VK → Prop} {te : TE → TE} (hte : ∀ t σ H Q, (t σ H fun x H1 => r x H1 Q) → te t σ H Q) (ha : Ev X env a x k1)
    (hr : ∀ F B H v Q, Hs F B H → RepS X.K F B H k1 x v → Fin X.K F B H k z Q → r v H Q) : ∀ σ H Q, tEv X.K env z k σ H Q → te (tEv X.K env x k1.st) σ H Q := fun σ H Q ⟨F, B, E, q⟩ =>
  hte _ σ H Q ⟨F, B, E, fun v H1 F1 B1 g1 r1 => hr F1 B1 H1 v Q g1.hs (RepK.any0 r1) fun w H3 F3 B3 g3 r3 => q w H3 F3 B3 (g1.trans g3) (RepK.back g1.h r3)⟩
section
variable {K : PySem.W.Frag} {F B H : Hp} {Q : VK} {v w : V} {ds : List D} {i : Int} {t : Bool} {s : Str}
theorem Fin.sc (hs : Hs F B H) (q : Fin K F B H .cln z Q) (r : Rep K F z w) : Q w H := q w H F B (.refl hs) r
theorem fin_int (hs : Hs F B H) (q : Fin K F B H .cln (.int i) Q) : Q (.int i) H := q.sc hs (.int i)
theorem fin_bl (hs : Hs F B H) (q : Fin K F B H .cln (.bl t) Q) : Q (.bl t) H := q.sc hs (.bl t)
theorem fin_str (hs : Hs F B H) (q : Fin K F B H .cln (.str s) Q) : Q (.str s) H := q.sc hs (.str s)
theorem fin_non (hs : Hs F B H) (q : Fin K F B H .cln .non Q) : Q .non H := q.sc hs .non
theorem RepS.int (hs : Hs F B H) (r : RepS K F B H k (.int i) v) : v = .int i := by
  cases (RepK.scalR rfl hs r) with
  | int => rfl
theorem RepS.bl (hs : Hs F B H) (r : RepS K F B H k (.bl t) v) : v = .bl t := by
  cases (RepK.scalR rfl hs r) with
  | bl => rfl
theorem RepS.str (hs : Hs F B H) (r : RepS K F B H k (.str s) v) : v = .str s := by
  cases (RepK.scalR rfl hs r) with
  | str => rfl
theorem RepS.non (hs : Hs F B H) (r : RepS K F B H k .non v) : v = .non := by
  cases (RepK.scalR rfl hs r) with
  | non => rfl
theorem RepS.lst (hs : Hs F B H) (r : RepS K F B H k (.lst ds) v) : ∃ a vs, v = .ref a ∧ H a = some (.lst vs) ∧ repsK K F B H k.kid ds vs := by
  cases k with
  | drt => cases (show Rep K H (.lst ds) v from r) with
    | lst s t => exact ⟨_, _, rfl, s, t⟩
  | brw => cases (show Rep K B (.lst ds) v from r) with
    | lst s t => exact ⟨_, _, rfl, hs.bh _ _ s, t⟩
  | own => exact r
  | cln => exact r
  | shl => exact r
theorem RepS.tup (hs : Hs F B H) (r : RepS K F B H k (.tup ds) v) : ∃ a vs, v = .ref a ∧ SqT K H a vs ∧ repsK K F B H k.kid ds vs := by
  have h : ∀ {B : Hp}, Rep K B (.tup ds) v → ∃ a vs, v = .ref a ∧ SqT K B a vs ∧ Reps K B ds vs := fun r => by
    cases r with
    | tup s t => exact ⟨_, _, rfl, s, t⟩
  cases k with
  | drt => exact h r
  | brw => obtain ⟨a, vs, e, s, t⟩ := h (show Rep K B (.tup ds) v from r); exact ⟨a, vs, e, Same.seqT hs.bh s, t⟩
  | own => obtain ⟨a, vs, e, s, t⟩ := h (show Rep K F (.tup ds) v from r); exact ⟨a, vs, e, Same.seqT hs.fh s, t⟩
  | cln => obtain ⟨a, vs, e, s, t⟩ := h (show Rep K F (.tup ds) v from r); exact ⟨a, vs, e, Same.seqT hs.fh s, t⟩
  | shl => obtain ⟨a, vs, e, s, t⟩ := h (show Rep K F (.tup ds) v from r); exact ⟨a, vs, e, Same.seqT hs.fh s, t⟩
theorem RepS.scr {ns : List Int} (hs : Hs F B H) (r : RepS K F B H k (.scr ns) v) : ∃ a, v = .ref a ∧ SqL K H a (ns.map V.int) := by
  cases (show Rep K H (.scr ns) v from RepK.rep hs r) with
  | scr s => exact ⟨_, rfl, s⟩
theorem repsK.get {kk : Kd} {vs : List V} {j : Nat} (h : kk = .cln ∨ kk = .brw ∨ kk = .drt) (r : repsK K F B H kk ds vs) (e : ds[j]? = some d) : ∃ u, vs[j]? = some u ∧ RepK K F B H H kk d u := by
  rcases h with h | h | h <;> subst h
  · exact Reps.get r e
  · exact Reps.get r e
  · exact Reps.get r e
end
theorem kid_cases (k : Kd) : k.kid = .cln ∨ k.kid = .brw ∨ k.kid = .drt := by cases k <;> simp [Kd.kid]
end
end DL
namespace DL
open PySem PySem.Spec L2
open PyProof.Rows hiding St
section
variable {K : PySem.W.Frag} {F B H : Hp} {p : Addr} {o : HO}
theorem same_upd (n : H p = none) : Same H (upd H p o) := fun b u e => by rw [upd_ne (ne_of_none e n)]; exact e
theorem Same.none {H H' : Hp} (s : Same H H') {p : Addr} (n : H' p = none) : H p = none := s.free n
theorem upd_same2 {F H : Hp} (f : Same F H) (n : H p = none) : Same F (upd H p o) := f.trans (same_upd n)
theorem upd_two {F H : Hp} (f : Same F H) : Same (upd F p o) (upd H p o) := fun b u e => by
  unfold upd at e ⊢
  split at e
  · next z => rw [if_pos z]; exact e
  · next z => rw [if_neg z]; exact f _ _ e
theorem ne_upd {q : Addr} (h : upd H p o q ≠ none) : q = p ∨ H q ≠ none := by
  unfold upd at h
  split at h
  · next z => exact .inl z
  · exact .inr h
def notTup : HO → Bool
  | .tup _ => false | .frz _ _ => false | _ => true
theorem tup_upd (t : TupOk F H) (n : H p = none) (nt : notTup o = true) : TupOk F (upd H p o) := fun a xs h => by
  have h' : Rd H a (.tup xs) := by
    rcases h with h | ⟨u, h⟩
    · by_cases z : a = p
      · subst z; rw [upd_same] at h; cases h; cases nt
      · rw [upd_ne z] at h; exact .inl h
    · by_cases z : a = p
      · subst z; rw [upd_same] at h; cases h; cases nt
      · rw [upd_ne z] at h; exact .inr ⟨u, h⟩
  exact t a xs h'
theorem grow_own (s : Hs F B H) (n : H p = none) (nt : notTup o = true) : Grow F B H F B (upd H p o) :=
  ⟨.refl _, .refl _, same_upd n, ⟨s.fb, upd_same2 s.bh n, tup_upd s.tup n nt⟩, fun _ _ h => h, fun _ _ h => h⟩
theorem grow_brw (s : Hs F B H) (n : H p = none) (nt : notTup o = true) : Grow F B H F (upd B p o) (upd H p o) :=
  ⟨.refl _, same_upd (s.bh.free n), same_upd n, ⟨upd_same2 s.fb (s.bh.free n), upd_two s.bh, tup_upd s.tup n nt⟩, fun _ _ h => h, fun q h1 h2 => by
    rcases ne_upd h2 with z | z
    · subst z; exact absurd n h1
    · exact z⟩
theorem grow_cln (s : Hs F B H) (n : H p = none) : Grow F B H (upd F p o) (upd B p o) (upd H p o) :=
  ⟨same_upd (s.fh.free n), same_upd (s.bh.free n), same_upd n, ⟨upd_two s.fb, upd_two s.bh, fun a xs h => by
    by_cases z : a = p
    · subst z
      rcases h with h | ⟨u, h⟩
      · rw [upd_same] at h; cases h; exact .inl upd_same
      · rw [upd_same] at h; cases h; exact .inr ⟨u, upd_same⟩
    · have h' : Rd H a (.tup xs) := by
        rcases h with h | ⟨u, h⟩
        · rw [upd_ne z] at h; exact .inl h
        · rw [upd_ne z] at h; exact .inr ⟨u, h⟩
      exact Same.rd (same_upd (s.fh.free n)) (s.tup a xs h')⟩, fun q h1 h2 => by
    rcases ne_upd h2 with z | z
    · subst z; exact absurd n h1
    · exact z, fun q h1 h2 => by
    rcases ne_upd h2 with z | z
    · subst z; exact absurd n h1
    · exact z⟩
theorem new_lst {kk : Kd} {ds : List D} {vs : List V} {Q : VK} (hk : kk = .cln ∨ kk = .brw ∨ kk = .drt) (s : Hs F B H) (r : repsK K F B H kk ds vs) (q : Fin K F B H (if kk = .brw then .brw else kk.new) (.lst ds) Q) :
    ∀ p, H p = none → Q (.ref p) (upd H p (.lst vs)) := fun p n => by
  rcases hk with h | h | h <;> subst h
  · exact q (.ref p) _ _ _ (grow_own s n rfl) ⟨p, rfl, n, s.bh.free n, vs, upd_same, r⟩
  · exact q (.ref p) _ _ _ (grow_brw s n rfl) (Rep.lst upd_same (Reps.mono (same_upd (s.bh.free n)) r))
  · exact q (.ref p) _ _ _ (grow_own s n rfl) (Rep.lst upd_same (Reps.mono (same_upd n) r))
theorem new_tup {kk : Kd} {ds : List D} {vs : List V} {Q : VK} (hk : kk = .cln ∨ kk = .brw ∨ kk = .drt) (s : Hs F B H) (r : repsK K F B H kk ds vs) (q : Fin K F B H kk (.tup ds) Q) :
    ∀ p, H p = none → Q (.ref p) (upd H p (.tup vs)) := fun p n => by
  have g := grow_cln (o := .tup vs) s n
  rcases hk with h | h | h <;> subst h
  · exact q (.ref p) _ _ _ g (Rep.tup (SqT.of upd_same) (Reps.mono g.f r))
  · exact q (.ref p) _ _ _ g (Rep.tup (SqT.of upd_same) (Reps.mono g.b r))
  · exact q (.ref p) _ _ _ g (Rep.tup (SqT.of upd_same) (Reps.mono g.h r))
end
def Kd.mk : Kd → Kd
  | .cln => .own | .brw => .brw | _ => .drt
theorem mk_eq {k : Kd} (h : k = .cln ∨ k = .brw ∨ k = .drt) : (if k = .brw then Kd.brw else k.new) = k.mk := by
  rcases h with h | h | h <;> subst h <;> rfl
section
variable {X : Cx} {env : DEnv} {e a b c : Expr} {es : List Expr} {d x y z : D} {k k1 k2 k3 kz : Kd} {pos : Pos} {ds : List D}
theorem ev_nameO (i : Nat) {n : Str} (hN : X.N[i]? = some n) (hv : Vis X.env.scope n) (he : env[i]? = some (some (.own d))) (hd : (n == ("__debug__" : Str)) = false) (hcd : (n == ("__classdict__" : Str)) = false) : Ev X env (.Name n pos) d .shl :=
  ⟨(pe_var hN hv hd hcd).mono fun σ H Q ⟨F, B, E, q⟩ => by
    obtain ⟨v, h1, p, e1, r⟩ := E.at_ i _ he
    subst e1
    exact ⟨_, h1, q _ H F B (.refl E.hs) r.shl⟩⟩
theorem ev_nameF (i : Nat) {n : Str} (hN : X.N[i]? = some n) (hv : Vis X.env.scope n) (he : env[i]? = some (some (.frz d))) (hd : (n == ("__debug__" : Str)) = false) (hcd : (n == ("__classdict__" : Str)) = false) : Ev X env (.Name n pos) d .cln :=
  ⟨(pe_var hN hv hd hcd).mono fun σ H Q ⟨F, B, E, q⟩ => by
    obtain ⟨v, h1, r⟩ := E.at_ i _ he
    exact ⟨_, h1, q _ H F B (.refl E.hs) r⟩⟩
theorem ev_nameB (i : Nat) {n : Str} (hN : X.N[i]? = some n) (hv : Vis X.env.scope n) (he : env[i]? = some (some (.bor d))) (hd : (n == ("__debug__" : Str)) = false) (hcd : (n == ("__classdict__" : Str)) = false) : Ev X env (.Name n pos) d .brw :=
  ⟨(pe_var hN hv hd hcd).mono fun σ H Q ⟨F, B, E, q⟩ => by
    obtain ⟨v, h1, r⟩ := E.at_ i _ he
    exact ⟨_, h1, q _ H F B (.refl E.hs) r⟩⟩
theorem ev_C {v : V} (h : PE X e (tC v)) (r : ∀ B : Hp, Rep X.K B d v) : Ev X env e d .cln := ⟨h.mono fun σ H Q ⟨F, B, E, q⟩ => q v H F B (.refl E.hs) (r F)⟩
theorem ev_int {i j pos} : Ev X env (.Constant (.int i) j pos) (.int i) .cln := ev_C pe_int fun _ => .int i
theorem ev_bl {b j pos} : Ev X env (.Constant (.bool b) j pos) (.bl b) .cln := ev_C pe_bl fun _ => .bl b
theorem ev_non {j pos} : Ev X env (.Constant .none j pos) .non .cln := ev_C pe_non fun _ => .non
theorem ev_str {x j pos} : Ev X env (.Constant (.str x) j pos) (.str x) .cln := ev_C pe_str fun _ => .str x
theorem ev_globI {n : Str} {i : Int} {t : Tok} (hg : Gl X n) (hm : X.mg n = some (.int i t)) (hd : (n == ("__debug__" : Str)) = false) : Ev X env (.Name n pos) (.int i) .cln := ev_C (pe_glob (v := .int i) hg hm ⟨t, rfl⟩ hd) fun _ => .int i
theorem ev_globS {n s : Str} {t : Tok} (hg : Gl X n) (hm : X.mg n = some (.str s t)) (hd : (n == ("__debug__" : Str)) = false) : Ev X env (.Name n pos) (.str s) .cln := ev_C (pe_glob (v := .str s) hg hm ⟨t, rfl⟩ hd) fun _ => .str s
theorem ea_nil : EA X env [] [] .cln := ⟨pa_nil.mono fun σ H Q ⟨F, B, E, q⟩ => q [] H F B (.refl E.hs) .nil⟩
theorem held_cases (k : Kd) (d : D) : heldOf k d = .cln ∨ heldOf k d = .brw ∨ heldOf k d = .drt := by
  unfold heldOf
  split
  · exact .inl rfl
  · cases k <;> simp [Kd.held]
theorem join_cases (a b : Kd) : a.join b = .cln ∨ a.join b = .brw ∨ a.join b = .drt := by cases a <;> cases b <;> simp [Kd.join]
theorem repsK.up {K : PySem.W.Frag} {F B H : Hp} {vs : List V} (hs : Hs F B H) {k j : Kd} (hk : k = .cln ∨ k = .brw ∨ k = .drt) (hj : j = .cln ∨ j = .brw ∨ j = .drt) (r : repsK K F B H k ds vs) : repsK K F B H (k.join j) ds vs := by
  rcases hk with h | h | h <;> subst h <;> rcases hj with h | h | h <;> subst h
  · exact r
  · exact Reps.mono hs.fb r
  · exact Reps.mono hs.fh r
  · exact r
  · exact r
  · exact Reps.mono hs.bh r
  · exact r
  · exact r
  · exact r
theorem join_comm (a b : Kd) : a.join b = b.join a := by cases a <;> cases b <;> rfl
theorem repK_one {K : PySem.W.Frag} {F B H H0 : Hp} {v : V} {k : Kd} (hk : k = .cln ∨ k = .brw ∨ k = .drt) (r : RepK K F B H0 H k d v) : repsK K F B H k [d] [v] := by
  rcases hk with h | h | h <;> subst h <;> exact .one r
theorem repsK_cons {K : PySem.W.Frag} {F B H : Hp} {v : V} {vs : List V} {k : Kd} (hk : k = .cln ∨ k = .brw ∨ k = .drt) (r : repsK K F B H k [d] [v]) (t : repsK K F B H k ds vs) : repsK K F B H k (d :: ds) (v :: vs) := by
  have f : ∀ {B : Hp}, Reps K B [d] [v] → Reps K B ds vs → Reps K B (d :: ds) (v :: vs) := fun r t => by cases r with | cons r _ => exact .cons r t
  rcases hk with h | h | h <;> subst h <;> exact f r t
theorem ea_cons (ha : Ev X env a d k1) (hr : EA X env es ds k2) (h2 : k2 = .cln ∨ k2 = .brw ∨ k2 = .drt) (hs : starEach (a :: es) X.env = (false, eval a X.env) :: starEach es X.env) : EA X env (a :: es) (d :: ds) ((heldOf k1 d).join k2) :=
  ⟨(pa_cons ha.heldOf.pe hr.pa hs).mono fun σ H Q ⟨F, B, E, q⟩ => ⟨F, B, E, fun v H1 F1 B1 g1 r1 => ⟨F1, B1, E.grow g1, fun vs H2 F2 B2 g2 r2 => by
    have h1 := held_cases k1 d
    refine q _ _ _ _ (g1.trans g2) (repsK_cons (join_cases _ _) (repsK.up g2.hs h1 h2 (repsK.grow g2 (repK_one h1 r1))) ?_)
    rw [join_comm]
    exact repsK.up g2.hs h2 h1 r2⟩⟩⟩
theorem ea_cases (k1 k2 : Kd) (d : D) : (heldOf k1 d).join k2 = .cln ∨ (heldOf k1 d).join k2 = .brw ∨ (heldOf k1 d).join k2 = .drt := join_cases _ _
theorem repsK.len {K : PySem.W.Frag} {F B H : Hp} {vs : List V} {k : Kd} (r : repsK K F B H k ds vs) : vs.length = ds.length := by
  cases k <;> exact Reps.length r
theorem ev_list (h : EA X env es ds k) (hk : k = .cln ∨ k = .brw ∨ k = .drt) (hz : ds.length ≤ sizeLine) : Ev X env (.List es pos) (.lst ds) k.mk :=
  ⟨(pe_lst h.pa).mono fun σ H Q ⟨F, B, E, q⟩ => ⟨F, B, E, fun vs H1 F1 B1 g r => ⟨by rw [r.len]; exact hz, new_lst hk g.hs r fun w H2 F2 B2 g2 r2 => q w H2 F2 B2 (g.trans g2) (RepK.back g.h (by rw [mk_eq hk] at r2; exact r2))⟩⟩⟩
theorem ev_tup {x1} (h : EA X env es ds k) (hk : k = .cln ∨ k = .brw ∨ k = .drt) (hz : ds.length ≤ sizeLine) : Ev X env (.Tuple es x1 pos) (.tup ds) k :=
  ⟨(pe_tup h.pa).mono fun σ H Q ⟨F, B, E, q⟩ => ⟨F, B, E, fun vs H1 F1 B1 g r => ⟨by rw [r.len]; exact hz, new_tup hk g.hs r fun w H2 F2 B2 g2 r2 => q w H2 F2 B2 (g.trans g2) (RepK.back g.h r2)⟩⟩⟩
theorem two_pa (ha : Ev X env a x k1) (hb : Ev X env b y k2) {r : List V → Hp → VK → Prop}
    (hr : ∀ F B H v u Q, Hs F B H → RepS X.K F B H k1 x v → RepS X.K F B H k2 y u → Fin X.K F B H kz z Q → r [v, u] H Q) :
    ∀ σ H Q, tEv X.K env z kz σ H Q → tCB r (tCons (tEv X.K env x k1.st) (tCons (tEv X.K env y k2.st) tNil)) σ H Q := fun σ H Q ⟨F, B, E, q⟩ =>
  ⟨F, B, E, fun v H1 F1 B1 g1 r1 => ⟨F1, B1, E.grow g1, fun u H2 F2 B2 g2 r2 => hr F2 B2 H2 v u Q g2.hs (RepK.any0 (RepK.growS g2 r1)) (RepK.any0 r2) fun w H3 F3 B3 g3 r3 =>
    q w H3 F3 B3 ((g1.trans g2).trans g3) (RepK.back (g1.h.trans g2.h) r3)⟩⟩
theorem one_pa (ha : Ev X env a x k1) {r : List V → Hp → VK → Prop}
    (hr : ∀ F B H v Q, Hs F B H → RepS X.K F B H k1 x v → Fin X.K F B H kz z Q → r [v] H Q) :
    ∀ σ H Q, tEv X.K env z kz σ H Q → tCB r (tCons (tEv X.K env x k1.st) tNil) σ H Q := fun σ H Q ⟨F, B, E, q⟩ =>
  ⟨F, B, E, fun v H1 F1 B1 g1 r1 => hr F1 B1 H1 v Q g1.hs (RepK.any0 r1) fun w H3 F3 B3 g3 r3 => q w H3 F3 B3 (g1.trans g3) (RepK.back g1.h r3)⟩
structure Bn (X : Cx) (n : Str) (u : Value) : Prop where
  gl : Gl X n
  mg : X.mg n = none
  bt : bootBuiltins n = some u
  nn : n ≠ "__name__"
  db : (n == ("__debug__" : Str)) = false
theorem ev_call1 {n : Str} {id : String} {r : List V → Hp → VK → Prop} {p : Pos} (hc : CallR X (.builtin id) r) (bn : Bn X n (.builtin id)) (ha : Ev X env a x k1)
    (hr : ∀ F B H v Q, Hs F B H → RepS X.K F B H k1 x v → Fin X.K F B H kz z Q → r [v] H Q) (he : starEach [a] X.env = [(false, eval a X.env)]) : Ev X env (.Call (.Name n p) [a] [] pos) z kz :=
  ⟨(pe_callB hc bn.gl bn.mg bn.bt (pa_cons ha.st.pe pa_nil he) bn.nn bn.db he rfl).mono (one_pa ha hr)⟩
theorem ev_call2 {n : Str} {id : String} {r : List V → Hp → VK → Prop} {p : Pos} (hc : CallR X (.builtin id) r) (bn : Bn X n (.builtin id)) (ha : Ev X env a x k1) (hb : Ev X env b y k2)
    (hr : ∀ F B H v u Q, Hs F B H → RepS X.K F B H k1 x v → RepS X.K F B H k2 y u → Fin X.K F B H kz z Q → r [v, u] H Q) (he : starEach [a, b] X.env = [(false, eval a X.env), (false, eval b X.env)]) (hb' : starEach [b] X.env = [(false, eval b X.env)]) : Ev X env (.Call (.Name n p) [a, b] [] pos) z kz :=
  ⟨(pe_callB hc bn.gl bn.mg bn.bt (pa_cons ha.st.pe (pa_cons hb.st.pe pa_nil hb') (he.trans (by rw [hb']))) bn.nn bn.db (he.trans (by rw [hb'])) (by rw [hb']; rfl)).mono (two_pa ha hb hr)⟩
theorem ev_callT1 {n : Str} {T : String} {r : List V → Hp → VK → Prop} {p : Pos} (hc : CallR X (.type T) r) (bn : Bn X n (.type T)) (ha : Ev X env a x k1)
    (hr : ∀ F B H v Q, Hs F B H → RepS X.K F B H k1 x v → Fin X.K F B H kz z Q → r [v] H Q) (he : starEach [a] X.env = [(false, eval a X.env)]) : Ev X env (.Call (.Name n p) [a] [] pos) z kz :=
  ⟨(pe_callTy hc bn.gl bn.mg bn.bt (pa_cons ha.st.pe pa_nil he) bn.nn bn.db he rfl).mono (one_pa ha hr)⟩
end
end DL
namespace DL
open PySem PySem.Spec L2
open PyProof.Rows hiding St
section
variable {K : PySem.W.Frag} {B F H : Hp} {k : Kd}
theorem reps_ints : ∀ {ns : List Int} {vs : List V}, Reps K B (ns.map D.int) vs → vs = ns.map V.int
  | [], _, .nil => rfl
  | n :: ns, _, .cons r t => by
    cases r with
    | int => rw [reps_ints t]; rfl
theorem reps_strs : ∀ {ns : List Str} {vs : List V}, Reps K B (ns.map D.str) vs → vs = ns.map V.str
  | [], _, .nil => rfl
  | n :: ns, _, .cons r t => by
    cases r with
    | str => rw [reps_strs t]; rfl
theorem reps_bls : ∀ {ns : List Bool} {vs : List V}, Reps K B (ns.map D.bl) vs → vs = ns.map V.bl
  | [], _, .nil => rfl
  | n :: ns, _, .cons r t => by
    cases r with
    | bl => rw [reps_bls t]; rfl
theorem ints_reps : ∀ (ns : List Int), Reps K B (ns.map D.int) (ns.map V.int)
  | [] => .nil
  | n :: ns => .cons (.int n) (ints_reps ns)
theorem strs_reps : ∀ (ns : List Str), Reps K B (ns.map D.str) (ns.map V.str)
  | [] => .nil
  | n :: ns => .cons (.str n) (strs_reps ns)
end
section
variable {X : Cx} {env : DEnv} {e a b c : Expr} {k1 k2 k3 : Kd} {pos : Pos} {i j : Int} {s t : Str} {p q : Bool}
theorem ev_add (ha : Ev X env a (.int i) k1) (hb : Ev X env b (.int j) k2) : Ev X env (.BinOp a .Add b pos) (.int (i + j)) .cln :=
  ev_op2 op_add ha hb fun F B H v u Q hs r1 r2 q => ⟨i, j, r1.int hs, r2.int hs, fin_int hs q⟩
theorem ev_sub (ha : Ev X env a (.int i) k1) (hb : Ev X env b (.int j) k2) : Ev X env (.BinOp a .Sub b pos) (.int (i - j)) .cln :=
  ev_op2 op_sub ha hb fun F B H v u Q hs r1 r2 q => ⟨i, j, r1.int hs, r2.int hs, fin_int hs q⟩
theorem ev_mul (ha : Ev X env a (.int i) k1) (hb : Ev X env b (.int j) k2) (h : CMul i j) : Ev X env (.BinOp a .Mult b pos) (.int (i * j)) .cln :=
  ev_op2 op_mul ha hb fun F B H v u Q hs r1 r2 q => ⟨i, j, r1.int hs, r2.int hs, h, fin_int hs q⟩
theorem ev_fdiv (ha : Ev X env a (.int i) k1) (hb : Ev X env b (.int j) k2) (h : CDiv i j) : Ev X env (.BinOp a .FloorDiv b pos) (.int (i / j)) .cln :=
  ev_op2 op_fdiv ha hb fun F B H v u Q hs r1 r2 q => ⟨i, j, r1.int hs, r2.int hs, h, fin_int hs q⟩
theorem ev_mod (ha : Ev X env a (.int i) k1) (hb : Ev X env b (.int j) k2) (h : 0 < j) : Ev X env (.BinOp a .Mod b pos) (.int (i % j)) .cln :=
  ev_op2 op_mod ha hb fun F B H v u Q hs r1 r2 q => ⟨i, j, r1.int hs, r2.int hs, h, fin_int hs q⟩
theorem ev_pow (ha : Ev X env a (.int i) k1) (hb : Ev X env b (.int j) k2) (h : CPow i j) : Ev X env (.BinOp a .Pow b pos) (.int (i ^ j.toNat)) .cln :=
  ev_op2 op_pow ha hb fun F B H v u Q hs r1 r2 q => ⟨i, j, r1.int hs, r2.int hs, h, fin_int hs q⟩
theorem ev_addS (ha : Ev X env a (.str s) k1) (hb : Ev X env b (.str t) k2) (h : s.length + t.length ≤ sizeLine) : Ev X env (.BinOp a .Add b pos) (.str (s ++ t)) .cln :=
  ev_op2 op_add_str ha hb fun F B H v u Q hs r1 r2 q => ⟨s, t, r1.str hs, r2.str hs, h, fin_str hs q⟩
theorem ev_neg (ha : Ev X env a (.int i) k1) : Ev X env (.UnaryOp .USub a pos) (.int (-i)) .cln :=
  ⟨(pe_un un_neg ha.st.pe).mono (one_te (te := tUn _) (fun _ _ _ _ h => h) ha fun F B H v Q hs r1 q => ⟨i, r1.int hs, fin_int hs q⟩)⟩
end
inductive CmpI : CmpOp → Int → Int → Bool → Prop
  | lt {i j} : CmpI .Lt i j (decide (i < j))
  | le {i j} : CmpI .LtE i j (decide (i ≤ j))
  | gt {i j} : CmpI .Gt i j (decide (j < i))
  | ge {i j} : CmpI .GtE i j (decide (j ≤ i))
  | eq {i j} : CmpI .Eq i j (decide (i = j))
  | ne {i j} : CmpI .NotEq i j (!decide (i = j))
def rCI (op : CmpOp) : R2 := fun x y H Q => ∃ i j t, x = .int i ∧ y = .int j ∧ CmpI op i j t ∧ Q (.bl t) H
section
variable {X : Cx} {op : CmpOp}
theorem op_cI : OpR X (compareOp op) (rCI op) := by
  intro pins s σ H x y v u Q I rx ry h
  obtain ⟨i, j, t, rfl, rfl, c, q⟩ := h
  cases c with
  | lt => exact op_lt pins s σ H _ _ v u Q I rx ry ⟨i, j, rfl, rfl, q⟩
  | le => exact op_le pins s σ H _ _ v u Q I rx ry ⟨i, j, rfl, rfl, q⟩
  | gt => exact op_gt pins s σ H _ _ v u Q I rx ry ⟨i, j, rfl, rfl, q⟩
  | ge => exact op_ge pins s σ H _ _ v u Q I rx ry ⟨i, j, rfl, rfl, q⟩
  | eq => exact op_eq pins s σ H _ _ v u Q I rx ry ⟨rfl, by rw [show decide (V.int i = V.int j) = decide (i = j) by simp]; exact q⟩
  | ne => exact op_ne pins s σ H _ _ v u Q I rx ry ⟨rfl, by rw [show decide (V.int i = V.int j) = decide (i = j) by simp]; exact q⟩
theorem CmpI.nomark {i j : Int} {t : Bool} (c : CmpI op i j t) (b : Expr) : behindInMarks op b = false := by
  cases c <;> exact L2.nomark _
variable {env : DEnv} {a b c : Expr} {k1 k2 k3 : Kd} {pos : Pos} {i j l : Int} {s t : Str} {p q : Bool} {op2 : CmpOp}
theorem ev_cI (ha : Ev X env a (.int i) k1) (hb : Ev X env b (.int j) k2) (h : CmpI op i j p) : Ev X env (.Compare a [op] [b] pos) (.bl p) .cln :=
  ev_cmp2 op_cI ha hb (h.nomark b) fun F B H v u Q hs r1 r2 q => ⟨i, j, p, r1.int hs, r2.int hs, h, fin_bl hs q⟩
theorem et_cI (ha : Ev X env a (.int i) k1) (hb : Ev X env b (.int j) k2) (h : CmpI op i j p) : Et X env (.Compare a [op] [b] pos) p :=
  et_cmp2 op_cI ha hb (h.nomark b) fun F B H v u Q hs r1 r2 q => ⟨i, j, p, r1.int hs, r2.int hs, h, fin_bl hs q⟩
theorem three (ha : Ev X env a (.int i) k1) (hb : Ev X env b (.int j) k2) (hc : Ev X env c (.int l) k3) (h1 : CmpI op i j p) (h2 : CmpI op2 j l q) :
    ∀ σ H Q, tEv X.K env (.bl (p && q)) .cln σ H Q → tChain (rCI op) (rCI op2) (tEv X.K env (.int i) k1) (tEv X.K env (.int j) k2) (tEv X.K env (.int l) k3) σ H Q := fun σ H Q ⟨F, B, E, w⟩ =>
  ⟨F, B, E, fun v H1 F1 B1 g1 r1 => ⟨F1, B1, E.grow g1, fun u H2 F2 B2 g2 r2 => by
    cases (RepK.scalR rfl g1.hs r1)
    cases (RepK.scalR rfl g2.hs r2)
    refine ⟨i, j, p, rfl, rfl, h1, p, rfl, ?_⟩
    cases p with
    | false => rw [if_neg Bool.false_ne_true]; exact w _ _ _ _ (g1.trans g2) (.bl _)
    | true =>
      rw [if_pos rfl]
      refine ⟨F2, B2, (E.grow g1).grow g2, fun x H3 F3 B3 g3 r3 => ?_⟩
      cases (RepK.scalR rfl g3.hs r3)
      exact ⟨j, l, q, rfl, rfl, h2, w _ _ _ _ ((g1.trans g2).trans g3) (.bl _)⟩⟩⟩
theorem ev_chain (ha : Ev X env a (.int i) k1) (hb : Ev X env b (.int j) k2) (hc : Ev X env c (.int l) k3) (h1 : CmpI op i j p) (h2 : CmpI op2 j l q) (hm : lastMarks [op, op2] [b, c] = false) : Ev X env (.Compare a [op, op2] [b, c] pos) (.bl (p && q)) .cln :=
  ⟨(pe_chain op_cI op_cI ha.pe hb.pe hc.pe hm).mono (three ha hb hc h1 h2)⟩
theorem et_chain (ha : Ev X env a (.int i) k1) (hb : Ev X env b (.int j) k2) (hc : Ev X env c (.int l) k3) (h1 : CmpI op i j p) (h2 : CmpI op2 j l q) (hm : lastMarks [op, op2] [b, c] = false) : Et X env (.Compare a [op, op2] [b, c] pos) (p && q) :=
  ⟨(pt_chain op_cI op_cI ha.pe hb.pe hc.pe hm).mono fun σ H Q ⟨F, B, E, w⟩ => three ha hb hc h1 h2 σ H _ ⟨F, B, E, fun v H' F' B' g r => by
    cases (show Rep X.K F' (.bl (p && q)) v from r)
    exact ⟨_, rfl, w H' F' B' g⟩⟩⟩
end
mutual
def D.py : D → PyData
  | .non => .none | .bl b => .bool b | .int i => .int i | .str x => .str x
  | .lst xs => .list (D.pys xs) | .tup xs => .tuple (D.pys xs)
  | _ => .none
def D.pys : List D → List PyData
  | [] => []
  | d :: ds => D.py d :: D.pys ds
end
mutual
def D.pyo : D → Bool
  | .non => true | .bl _ => true | .int _ => true | .str x => PyData.strOk x
  | .lst xs => D.pyos xs | .tup xs => D.pyos xs
  | _ => false
def D.pyos : List D → Bool
  | [] => true
  | d :: ds => D.pyo d && D.pyos ds
end
section
variable {K : PySem.W.Frag} {H : Hp}
mutual
theorem Rep.dp : ∀ {d : D} {v : V}, d.pyo = true → Rep K H d v → Dp K H v d.py
  | _, _, _, .non => .non
  | _, _, _, .bl b => .bl b
  | _, _, _, .int b => .int b
  | _, _, _, .str b => .str b
  | .lst ds, _, i, .lst s r => .lst (SqL.of s) (Reps.dp i r)
  | .tup ds, _, i, .tup s r => .tup s (Reps.dp i r)
  | .dK _, _, i, .dK _ _ => nomatch i
  | .dT _, _, i, .dT _ _ => nomatch i
  | .obj _ _, _, i, .obj _ _ => nomatch i
  | .scr _, _, i, .scr _ => nomatch i
  | .adr _, _, i, .adr => nomatch i
  | .tpx _, _, i, .tpx _ _ _ => nomatch i
  | .tpk _, _, i, .tpk _ _ => nomatch i
theorem Reps.dp : ∀ {d : List D} {v : List V}, D.pyos d = true → Reps K H d v → DpAll K H v (D.pys d)
  | _, _, _, .nil => .nil
  | _ :: _, _, i, .cons r q => .cons (Rep.dp (Bool.and_eq_true_iff.mp i).1 r) (Reps.dp (Bool.and_eq_true_iff.mp i).2 q)
end
end
mutual
theorem D.canLay : ∀ {d : D}, d.pyo = true → d.py.canLay0 = true
  | .non, _ => rfl
  | .bl _, _ => rfl
  | .int _, _ => rfl
  | .str _, h => by show PyData.canLay0 (.str _) = true; rw [PyData.canLay0]; exact h
  | .lst ds, h => by show PyData.canLay0 (.list _) = true; rw [PyData.canLay0]; exact D.canLays h
  | .tup ds, h => by show PyData.canLay0 (.tuple _) = true; rw [PyData.canLay0]; exact D.canLays h
  | .dK _, h => nomatch h
  | .dT _, h => nomatch h
  | .obj _ _, h => nomatch h
  | .scr _, h => nomatch h
  | .adr _, h => nomatch h
  | .tpx _, h => nomatch h
  | .tpk _, h => nomatch h
theorem D.canLays : ∀ {ds : List D}, D.pyos ds = true → PyData.canLayAll0 (D.pys ds) = true
  | [], _ => by show PyData.canLayAll0 [] = true; rw [PyData.canLayAll0]
  | d :: ds, h => by
    show PyData.canLayAll0 (_ :: _) = true
    rw [PyData.canLayAll0, D.canLay (Bool.and_eq_true_iff.mp h).1, D.canLays (Bool.and_eq_true_iff.mp h).2]; rfl
end
abbrev D.shal (d : D) : Prop := d.py.depth ≤ 64
theorem D.shaped {d : D} (h : d.pyo = true) (s : d.shal) : SeqAt.shaped d.py = true := by
  show (d.py.canLay0 && decide (d.py.depth ≤ 64)) = true
  rw [D.canLay h, decide_eq_true s]; rfl
section
variable {X : Cx} {env : DEnv} {a b c : Expr} {k1 k2 k3 : Kd} {pos : Pos} {i j l : Int} {s t : Str} {p q : Bool} {x y : D}
theorem ev_eqS (ha : Ev X env a (.str s) k1) (hb : Ev X env b (.str t) k2) : Ev X env (.Compare a [.Eq] [b] pos) (.bl (decide (s = t))) .cln :=
  ev_cmp2 op_eq ha hb (nomark b) fun F B H v u Q hs r1 r2 q => by
    rw [r1.str hs, r2.str hs]
    exact ⟨rfl, by rw [show decide (V.str s = V.str t) = decide (s = t) by simp]; exact fin_bl hs q⟩
theorem ev_neS (ha : Ev X env a (.str s) k1) (hb : Ev X env b (.str t) k2) : Ev X env (.Compare a [.NotEq] [b] pos) (.bl (!decide (s = t))) .cln :=
  ev_cmp2 op_ne ha hb (nomark b) fun F B H v u Q hs r1 r2 q => by
    rw [r1.str hs, r2.str hs]
    exact ⟨rfl, by rw [show decide (V.str s = V.str t) = decide (s = t) by simp]; exact fin_bl hs q⟩
theorem et_eqS (ha : Ev X env a (.str s) k1) (hb : Ev X env b (.str t) k2) : Et X env (.Compare a [.Eq] [b] pos) (decide (s = t)) :=
  et_cmp2 op_eq ha hb (nomark b) fun F B H v u Q hs r1 r2 q => by
    rw [r1.str hs, r2.str hs]
    exact ⟨rfl, by rw [show decide (V.str s = V.str t) = decide (s = t) by simp]; exact fin_bl hs q⟩
theorem et_neS (ha : Ev X env a (.str s) k1) (hb : Ev X env b (.str t) k2) : Et X env (.Compare a [.NotEq] [b] pos) (!decide (s = t)) :=
  et_cmp2 op_ne ha hb (nomark b) fun F B H v u Q hs r1 r2 q => by
    rw [r1.str hs, r2.str hs]
    exact ⟨rfl, by rw [show decide (V.str s = V.str t) = decide (s = t) by simp]; exact fin_bl hs q⟩
theorem ev_eqB (ha : Ev X env a (.bl p) k1) (hb : Ev X env b (.bl q) k2) : Ev X env (.Compare a [.Eq] [b] pos) (.bl (decide (p = q))) .cln :=
  ev_cmp2 op_eq ha hb (nomark b) fun F B H v u Q hs r1 r2 w => by
    rw [r1.bl hs, r2.bl hs]
    exact ⟨rfl, by rw [show decide (V.bl p = V.bl q) = decide (p = q) by simp]; exact fin_bl hs w⟩
theorem ev_neB (ha : Ev X env a (.bl p) k1) (hb : Ev X env b (.bl q) k2) : Ev X env (.Compare a [.NotEq] [b] pos) (.bl (!decide (p = q))) .cln :=
  ev_cmp2 op_ne ha hb (nomark b) fun F B H v u Q hs r1 r2 w => by
    rw [r1.bl hs, r2.bl hs]
    exact ⟨rfl, by rw [show decide (V.bl p = V.bl q) = decide (p = q) by simp]; exact fin_bl hs w⟩
theorem et_eqB (ha : Ev X env a (.bl p) k1) (hb : Ev X env b (.bl q) k2) : Et X env (.Compare a [.Eq] [b] pos) (decide (p = q)) :=
  et_cmp2 op_eq ha hb (nomark b) fun F B H v u Q hs r1 r2 w => by
    rw [r1.bl hs, r2.bl hs]
    exact ⟨rfl, by rw [show decide (V.bl p = V.bl q) = decide (p = q) by simp]; exact fin_bl hs w⟩
theorem et_neB (ha : Ev X env a (.bl p) k1) (hb : Ev X env b (.bl q) k2) : Et X env (.Compare a [.NotEq] [b] pos) (!decide (p = q)) :=
  et_cmp2 op_ne ha hb (nomark b) fun F B H v u Q hs r1 r2 w => by
    rw [r1.bl hs, r2.bl hs]
    exact ⟨rfl, by rw [show decide (V.bl p = V.bl q) = decide (p = q) by simp]; exact fin_bl hs w⟩
theorem ev_eqD (hu : X.A.units + 64 < cLine) (ha : Ev X env a x k1) (hb : Ev X env b y k2) (ox : x.pyo = true) (oy : y.pyo = true) (sx : x.shal) (sy : y.shal) (hp : PyData.eqv x.py y.py = p) : Ev X env (.Compare a [.Eq] [b] pos) (.bl p) .cln :=
  ev_cmp2 (op_eqD hu) ha hb (nomark b) fun F B H v u Q hs r1 r2 w => ⟨x.py, y.py, Rep.dp ox (r1.rep hs), Rep.dp oy (r2.rep hs), D.shaped ox sx, D.shaped oy sy, by rw [hp]; exact fin_bl hs w⟩
theorem ev_neD (hu : X.A.units + 64 < cLine) (ha : Ev X env a x k1) (hb : Ev X env b y k2) (ox : x.pyo = true) (oy : y.pyo = true) (sx : x.shal) (sy : y.shal) (hp : PyData.eqv x.py y.py = p) : Ev X env (.Compare a [.NotEq] [b] pos) (.bl (!p)) .cln :=
  ev_cmp2 (op_neD hu) ha hb (nomark b) fun F B H v u Q hs r1 r2 w => ⟨x.py, y.py, Rep.dp ox (r1.rep hs), Rep.dp oy (r2.rep hs), D.shaped ox sx, D.shaped oy sy, by rw [hp]; exact fin_bl hs w⟩
theorem et_eqD (hu : X.A.units + 64 < cLine) (ha : Ev X env a x k1) (hb : Ev X env b y k2) (ox : x.pyo = true) (oy : y.pyo = true) (sx : x.shal) (sy : y.shal) (hp : PyData.eqv x.py y.py = p) : Et X env (.Compare a [.Eq] [b] pos) p :=
  et_cmp2 (op_eqD hu) ha hb (nomark b) fun F B H v u Q hs r1 r2 w => ⟨x.py, y.py, Rep.dp ox (r1.rep hs), Rep.dp oy (r2.rep hs), D.shaped ox sx, D.shaped oy sy, by rw [hp]; exact fin_bl hs w⟩
theorem et_neD (hu : X.A.units + 64 < cLine) (ha : Ev X env a x k1) (hb : Ev X env b y k2) (ox : x.pyo = true) (oy : y.pyo = true) (sx : x.shal) (sy : y.shal) (hp : PyData.eqv x.py y.py = p) : Et X env (.Compare a [.NotEq] [b] pos) (!p) :=
  et_cmp2 (op_neD hu) ha hb (nomark b) fun F B H v u Q hs r1 r2 w => ⟨x.py, y.py, Rep.dp ox (r1.rep hs), Rep.dp oy (r2.rep hs), D.shaped ox sx, D.shaped oy sy, by rw [hp]; exact fin_bl hs w⟩
def D.isN : D → Bool
  | .non => true | _ => false
theorem rep_isN {K : PySem.W.Frag} {H : Hp} {v : V} (r : Rep K H x v) : decide (v = .non) = x.isN := by
  cases r <;> rfl
theorem ev_isN {j' pos'} (ha : Ev X env a x k1) (hp : x.isN = p) : Ev X env (.Compare a [.Is] [.Constant .none j' pos'] pos) (.bl p) .cln :=
  ⟨(pe_cmp (pc_isN ha.st.pe)).mono (one_te (te := tIsN) (r := fun x H Q => Q (.bl (decide (x = .non))) H) (fun _ _ _ _ h => h) ha fun F B H v Q hs r1 q => by rw [rep_isN (r1.rep hs), hp]; exact fin_bl hs q)⟩
theorem ev_notN {j' pos'} (ha : Ev X env a x k1) (hp : x.isN = p) : Ev X env (.Compare a [.IsNot] [.Constant .none j' pos'] pos) (.bl (!p)) .cln :=
  ⟨(pe_cmp (pc_notN ha.st.pe)).mono (one_te (te := tNotN) (r := fun x H Q => Q (.bl (!decide (x = .non))) H) (fun _ _ _ _ h => h) ha fun F B H v Q hs r1 q => by rw [rep_isN (r1.rep hs), hp]; exact fin_bl hs q)⟩
theorem Ev.et (h : Ev X env a (.bl p) k1) (he : ∀ whole, isTrue a X.env whole = (do let v ← whole; standAt a.pos; holding [v] (truthy v))) : Et X env a p :=
  ⟨(pt_val h.pe he).mono fun σ H Q ⟨F, B, E, q⟩ => ⟨F, B, E, fun v H' F' B' g r => by
    cases (RepK.scalR rfl g.hs r)
    exact ⟨p, rfl, q H' F' B' g⟩⟩⟩
theorem et_not (h : Et X env a p) : Et X env (.UnaryOp .Not a pos) (!p) :=
  ⟨(pt_not h.pt).mono fun σ H Q ⟨F, B, E, q⟩ => ⟨F, B, E, fun H' F' B' g => q H' F' B' g⟩⟩
theorem ev_not (h : Ev X env a (.bl p) k1) : Ev X env (.UnaryOp .Not a pos) (.bl (!p)) .cln :=
  ⟨(pe_not h.pe).mono fun σ H Q ⟨F, B, E, q⟩ => ⟨F, B, E, fun v H' F' B' g r => by
    cases (RepK.scalR rfl g.hs r)
    exact ⟨p, rfl, q _ H' F' B' g (.bl _)⟩⟩⟩
structure Ew (X : Cx) (env : DEnv) (e : Expr) (b : Bool) : Prop where
  pw : PW X e (tEt X.K env b)
variable {rest : List Expr}
theorem Ew.et (h : Ew X env a p) : Et X env a p := ⟨h.pw.pt⟩
theorem ew_and1 (h : Et X env a p) : Ew X env (.BoolOp .And [a] pos) p := ⟨pw_and1 h.pt⟩
theorem ew_or1 (h : Et X env a p) : Ew X env (.BoolOp .Or [a] pos) p := ⟨pw_or1 h.pt⟩
theorem pw_false {e : Expr} : PW X e (fun _ _ _ => False) := ⟨fun _ _ _ _ _ _ _ h => h.elim⟩
theorem pe_false {e : Expr} : PE X e (fun _ _ _ => False) := ⟨fun _ _ _ _ _ _ h => h.elim⟩
theorem ew_and (h1 : Et X env a p) (h2 : p = true → Ew X env (.BoolOp .And (b :: rest) pos) q) : Ew X env (.BoolOp .And (a :: b :: rest) pos) (p && q) := by
  cases p with
  | true =>
    exact ⟨(pw_and h1.pt (h2 rfl).pw).mono fun σ H Q ⟨F, B, E, w⟩ => ⟨F, B, E, fun H' F' B' g => by
      show if true = true then _ else _
      rw [if_pos rfl]
      exact ⟨F', B', E.grow g, fun H2 F2 B2 g2 => w H2 F2 B2 (g.trans g2)⟩⟩⟩
  | false =>
    exact ⟨(pw_and h1.pt pw_false).mono fun σ H Q ⟨F, B, E, w⟩ => ⟨F, B, E, fun H' F' B' g => by
      show if false = true then _ else _
      rw [if_neg Bool.false_ne_true]
      exact w H' F' B' g⟩⟩
theorem ew_or (h1 : Et X env a p) (h2 : p = false → Ew X env (.BoolOp .Or (b :: rest) pos) q) : Ew X env (.BoolOp .Or (a :: b :: rest) pos) (p || q) := by
  cases p with
  | false =>
    exact ⟨(pw_or h1.pt (h2 rfl).pw).mono fun σ H Q ⟨F, B, E, w⟩ => ⟨F, B, E, fun H' F' B' g => by
      show if false = true then _ else _
      rw [if_neg Bool.false_ne_true]
      exact ⟨F', B', E.grow g, fun H2 F2 B2 g2 => w H2 F2 B2 (g.trans g2)⟩⟩⟩
  | true =>
    exact ⟨(pw_or h1.pt pw_false).mono fun σ H Q ⟨F, B, E, w⟩ => ⟨F, B, E, fun H' F' B' g => by
      show if true = true then _ else _
      rw [if_pos rfl]
      exact w H' F' B' g⟩⟩
theorem ev_one {op} (h : Ev X env a (.bl p) k1) : Ev X env (.BoolOp op [a] pos) (.bl p) .cln := ⟨(pe_one h.scal.pe)⟩
theorem ev_and (h1 : Ev X env a (.bl p) k1) (h2 : p = true → Ev X env (.BoolOp .And (b :: rest) pos) (.bl q) .cln) : Ev X env (.BoolOp .And (a :: b :: rest) pos) (.bl (p && q)) .cln := by
  cases p with
  | true =>
    exact ⟨(pe_and h1.scal.pe (h2 rfl).pe).mono fun σ H Q ⟨F, B, E, w⟩ => ⟨F, B, E, fun v H' F' B' g r => by
      cases (show Rep X.K F' (.bl true) v from r)
      refine ⟨true, rfl, ?_⟩
      rw [if_pos rfl]
      exact ⟨F', B', E.grow g, fun u H2 F2 B2 g2 r2 => w u H2 F2 B2 (g.trans g2) r2⟩⟩⟩
  | false =>
    exact ⟨(pe_and h1.scal.pe pe_false).mono fun σ H Q ⟨F, B, E, w⟩ => ⟨F, B, E, fun v H' F' B' g r => by
      cases (show Rep X.K F' (.bl false) v from r)
      refine ⟨false, rfl, ?_⟩
      rw [if_neg Bool.false_ne_true]
      exact w _ H' F' B' g (.bl _)⟩⟩
theorem ev_or (h1 : Ev X env a (.bl p) k1) (h2 : p = false → Ev X env (.BoolOp .Or (b :: rest) pos) (.bl q) .cln) : Ev X env (.BoolOp .Or (a :: b :: rest) pos) (.bl (p || q)) .cln := by
  cases p with
  | false =>
    exact ⟨(pe_or h1.scal.pe (h2 rfl).pe).mono fun σ H Q ⟨F, B, E, w⟩ => ⟨F, B, E, fun v H' F' B' g r => by
      cases (show Rep X.K F' (.bl false) v from r)
      refine ⟨false, rfl, ?_⟩
      rw [if_neg Bool.false_ne_true]
      exact ⟨F', B', E.grow g, fun u H2 F2 B2 g2 r2 => w u H2 F2 B2 (g.trans g2) r2⟩⟩⟩
  | true =>
    exact ⟨(pe_or h1.scal.pe pe_false).mono fun σ H Q ⟨F, B, E, w⟩ => ⟨F, B, E, fun v H' F' B' g r => by
      cases (show Rep X.K F' (.bl true) v from r)
      refine ⟨true, rfl, ?_⟩
      rw [if_pos rfl]
      exact w _ H' F' B' g (.bl _)⟩⟩
theorem ev_if (hc : Et X env c p) (ha : p = true → Ev X env a x k1) (hb : p = false → Ev X env b x k1) : Ev X env (.IfExp c a b pos) x k1 := by
  cases p with
  | true =>
    exact ⟨(pe_ifExp hc.pt (ha rfl).pe pe_false).mono fun σ H Q ⟨F, B, E, w⟩ => ⟨F, B, E, fun H' F' B' g => by
      show if true = true then _ else _
      rw [if_pos rfl]
      exact ⟨F', B', E.grow g, fun u H2 F2 B2 g2 r2 => w u H2 F2 B2 (g.trans g2) (RepK.back g.h r2)⟩⟩⟩
  | false =>
    exact ⟨(pe_ifExp hc.pt pe_false (hb rfl).pe).mono fun σ H Q ⟨F, B, E, w⟩ => ⟨F, B, E, fun H' F' B' g => by
      show if false = true then _ else _
      rw [if_neg Bool.false_ne_true]
      exact ⟨F', B', E.grow g, fun u H2 F2 B2 g2 r2 => w u H2 F2 B2 (g.trans g2) (RepK.back g.h r2)⟩⟩⟩
end
end DL
namespace DL
open PySem PySem.Spec L2
open PyProof.Rows hiding St
section
variable {X : Cx} {env : DEnv} {e a b c : Expr} {k1 k2 k3 : Kd} {pos : Pos} {i j : Int} {s t : Str} {p q : Bool} {x y : D} {ds es : List D} {d : D}
theorem ixN_len {n : Nat} {i : Int} {j : Nat} (h : ixN n i = some j) : j < n := (ixN_seq h).2.1
theorem atI_reps {K : PySem.W.Frag} {F B H : Hp} {kk : Kd} {vs : List V} (hk : kk = .cln ∨ kk = .brw ∨ kk = .drt) (r : repsK K F B H kk ds vs) (h : atI ds i = some d) : ∃ u, atI vs i = some u ∧ RepK K F B H H kk d u := by
  unfold atI at h ⊢
  rw [r.len]
  cases e : ixN ds.length i with
  | none => rw [e] at h; cases h
  | some j =>
    rw [e] at h
    exact repsK.get hk r h
theorem Fin.now {K : PySem.W.Frag} {F B H : Hp} {k : Kd} {z : D} {Q : VK} {w : V} (hs : Hs F B H) (q : Fin K F B H k z Q) (r : RepK K F B H H k z w) : Q w H := q w H F B (.refl hs) r
theorem two_ix {r : R2} (hr : IxR X r) (ha : Ev X env a x k1) (hb : Ev X env b y k2) (hs : PlainIx b) {z : D} {kz : Kd}
    (h : ∀ F B H v u Q, Hs F B H → RepS X.K F B H k1 x v → RepS X.K F B H k2 y u → Fin X.K F B H kz z Q → r v u H Q) : Ev X env (.Subscript a b pos) z kz :=
  ⟨(pe_ix hr ha.st.pe hb.st.pe hs).mono (two ha hb h)⟩
theorem ev_ixL (ha : Ev X env a (.lst ds) k1) (hb : Ev X env b (.int i) k2) (h : atI ds i = some d) (hs : PlainIx b) : Ev X env (.Subscript a b pos) d k1.kid :=
  two_ix ix_list ha hb hs fun F B H v u Q s r1 r2 q => by
    obtain ⟨l, vs, e1, e2, r⟩ := r1.lst s
    obtain ⟨w, e3, r3⟩ := atI_reps (kid_cases _) r h
    exact ⟨l, vs, i, w, e1, r2.int s, SqL.of e2, e3, q.now s r3⟩
theorem ev_ixT (ha : Ev X env a (.tup ds) k1) (hb : Ev X env b (.int i) k2) (h : atI ds i = some d) (hs : PlainIx b) : Ev X env (.Subscript a b pos) d k1.kid :=
  two_ix ix_tup ha hb hs fun F B H v u Q s r1 r2 q => by
    obtain ⟨l, vs, e1, e2, r⟩ := r1.tup s
    obtain ⟨w, e3, r3⟩ := atI_reps (kid_cases _) r h
    exact ⟨l, vs, i, w, e1, r2.int s, e2, e3, q.now s r3⟩
theorem ev_ixC {ns : List Int} (ha : Ev X env a (.scr ns) k1) (hb : Ev X env b (.int i) k2) (h : atI ns i = some j) (hs : PlainIx b) : Ev X env (.Subscript a b pos) (.int j) .cln :=
  two_ix ix_list ha hb hs fun F B H v u Q s r1 r2 q => by
    obtain ⟨l, e1, e2⟩ := r1.scr s
    refine ⟨l, ns.map V.int, i, .int j, e1, r2.int s, e2, ?_, fin_int s q⟩
    unfold atI at h ⊢
    rw [List.length_map]
    cases e : ixN ns.length i with
    | none => rw [e] at h; cases h
    | some m =>
      rw [e] at h
      show (ns.map V.int)[m]? = _
      rw [List.getElem?_map, show ns[m]? = some j from h]; rfl
theorem ev_ixS {cc : Nat} (ha : Ev X env a (.str s) k1) (hb : Ev X env b (.int i) k2) (hz : s.length ≤ sizeLine) (h : atI s.cps.toList i = some cc) (hs : PlainIx b) : Ev X env (.Subscript a b pos) (.str ⟨#[cc]⟩) .cln :=
  two_ix ix_str ha hb hs fun F B H v u Q hh r1 r2 q => ⟨s, i, cc, r1.str hh, r2.int hh, hz, h, fin_str hh q⟩
def cutD (xs : List D) (lo hi : Option Int) : List D := (xs.drop (HT.sIx xs.length 0 lo)).take (HT.sIx xs.length xs.length hi - HT.sIx xs.length 0 lo)
theorem repsK.cut {K : PySem.W.Frag} {F B H : Hp} {k : Kd} {vs : List V} (r : repsK K F B H k ds vs) (lo hi : Option Int) : repsK K F B H k (cutD ds lo hi) (cutV vs lo hi) := by
  have e := r.len
  unfold cutD cutV
  rw [e]
  cases k <;> exact Reps.take _ (Reps.drop _ r)
structure Eo (X : Cx) (env : DEnv) (e : Option Expr) (o : Option Int) : Prop where
  po : PO X e (fun σ H Q => ∃ F B, EnvE X.K F B H env σ ∧ ∀ H' F' B', Grow F B H F' B' H' → Q o H')
theorem _root_.L2.PO.mono {e : Option Expr} {t t' : TO} (h : PO X e t) (m : ∀ σ H Q, t' σ H Q → t σ H Q) : PO X e t' := ⟨fun pins s σ H Q I q => h.run pins s σ H Q I (m σ H Q q)⟩
theorem eo_none : Eo X env none none := ⟨po_none.mono fun σ H Q ⟨F, B, E, q⟩ => q H F B (.refl E.hs)⟩
theorem eo_some (h : Ev X env e (.int i) k1) : Eo X env (some e) (some i) := ⟨(po_some h.pe).mono fun σ H Q ⟨F, B, E, q⟩ => ⟨F, B, E, fun v H' F' B' g r => by
  cases (RepK.scalR rfl g.hs r)
  exact ⟨i, rfl, q H' F' B' g⟩⟩⟩
variable {lo hi : Option Expr} {l u : Option Int} {p2 : Pos}
theorem sl_te {r : V → Option Int → Option Int → Hp → VK → Prop} {z : D} {kz : Kd} (hr : SlR X r) (ha : Ev X env a x k1) (hl : Eo X env lo l) (hu : Eo X env hi u)
    (h : ∀ F B H v Q, Hs F B H → RepS X.K F B H k1 x v → Fin X.K F B H kz z Q → r v l u H Q) : Ev X env (.Subscript a (.Slice lo hi none p2) pos) z kz :=
  ⟨(pe_slice hr ha.st.pe hl.po hu.po).mono fun σ H Q ⟨F, B, E, q⟩ => ⟨F, B, E, fun v H1 F1 B1 g1 r1 => ⟨F1, B1, E.grow g1, fun H2 F2 B2 g2 => ⟨F2, B2, (E.grow g1).grow g2, fun H3 F3 B3 g3 =>
    h F3 B3 H3 v Q g3.hs (RepK.any0 (RepK.growS g3 (RepK.growS g2 r1))) fun w H4 F4 B4 g4 r4 => q w H4 F4 B4 (((g1.trans g2).trans g3).trans g4) (RepK.back ((g1.h.trans g2.h).trans g3.h) r4)⟩⟩⟩⟩
theorem ev_slL (ha : Ev X env a (.lst ds) k1) (hl : Eo X env lo l) (hu : Eo X env hi u) : Ev X env (.Subscript a (.Slice lo hi none p2) pos) (.lst (cutD ds l u)) k1.kid.mk :=
  sl_te sl_list ha hl hu fun F B H v Q s r1 q => by
    obtain ⟨a, vs, e1, e2, r⟩ := r1.lst s
    exact ⟨a, vs, e1, SqL.of e2, new_lst (kid_cases _) s (repsK.cut r l u) (by rw [mk_eq (kid_cases _)]; exact q)⟩
theorem cut_len {ds : List D} (l u : Option Int) : (cutD ds l u).length ≤ ds.length := by
  unfold cutD; rw [List.length_take, List.length_drop]; omega
theorem cut_whole {ds : List D} {l u : Option Int} (h : HT.sIx ds.length 0 l = 0 ∧ HT.sIx ds.length ds.length u = ds.length) : cutD ds l u = ds := by
  unfold cutD; rw [h.1, h.2]; simp
theorem RepS.back {K : PySem.W.Frag} {F B H : Hp} {k : Kd} {v : V} (s : Hs F B H) (r : RepS K F B H k (.tup ds) v) : RepK K F B H H k.kid (.tup ds) v := by
  cases k with
  | drt => exact r
  | brw => exact r
  | own => exact r
  | cln => exact r
  | shl => exact r
theorem ev_slT (ha : Ev X env a (.tup ds) k1) (hl : Eo X env lo l) (hu : Eo X env hi u) : Ev X env (.Subscript a (.Slice lo hi none p2) pos) (.tup (cutD ds l u)) k1.kid :=
  sl_te sl_tupA ha hl hu fun F B H v Q s r1 q => by
    obtain ⟨a, vs, e1, e2, r⟩ := r1.tup s
    refine ⟨a, vs, e1, e2, fun hw => ?_, fun hw => new_tup (kid_cases _) s (repsK.cut r l u) q⟩
    rw [r.len] at hw
    rw [cut_whole hw] at q
    rw [e1] at r1
    exact q.now s (RepS.back s r1)
theorem ev_slS (ha : Ev X env a (.str s) k1) (hl : Eo X env lo l) (hu : Eo X env hi u) (hz : s.length ≤ sizeLine) : Ev X env (.Subscript a (.Slice lo hi none p2) pos) (.str (cutS s l u)) .cln :=
  sl_te sl_str ha hl hu fun F B H v Q hs r1 q => ⟨s, r1.str hs, hz, fin_str hs q⟩
theorem ev_revL {kk : Nat} {p1 p2 p3 : Pos} (ha : Ev X env a (.lst ds) k1) : Ev X env (.Subscript a (.Slice none none (some (.UnaryOp .USub (.Constant (.int 1) kk p1) p2)) p3) pos) (.lst ds.reverse) k1.kid.mk :=
  ⟨(pe_revL ha.st.pe).mono fun σ H Q ⟨F, B, E, q⟩ => ⟨F, B, E, fun v H1 F1 B1 g r1 => by
    obtain ⟨a, vs, e1, e2, r⟩ := RepS.lst g.hs (RepK.any0 r1)
    refine ⟨a, vs, e1, SqL.of e2, new_lst (kid_cases _) g.hs (?_ : repsK _ _ _ _ _ ds.reverse _) fun w H2 F2 B2 g2 r2 => q w H2 F2 B2 (g.trans g2) (RepK.back g.h (by rw [mk_eq (kid_cases _)] at r2; exact r2))⟩
    cases k1 <;> exact Reps.reverse r⟩⟩
theorem repsK.app {K : PySem.W.Frag} {F B H : Hp} {k : Kd} {vs us : List V} (r : repsK K F B H k ds vs) (q : repsK K F B H k es us) : repsK K F B H k (ds ++ es) (vs ++ us) := by
  cases k <;> exact Reps.append r q
theorem ev_addL (ha : Ev X env a (.lst ds) k1) (hb : Ev X env b (.lst es) k2) (hz : ds.length + es.length ≤ sizeLine) : Ev X env (.BinOp a .Add b pos) (.lst (ds ++ es)) (k1.kid.join k2.kid).mk :=
  ev_op2 op_cat ha hb fun F B H v u Q s r1 r2 q => by
    obtain ⟨l1, vs, e1, h1, q1⟩ := r1.lst s
    obtain ⟨l2, us, e2, h2, q2⟩ := r2.lst s
    refine ⟨l1, l2, vs, us, e1, e2, h1, h2, by rw [q1.len, q2.len]; exact hz, new_lst (join_cases _ _) s (repsK.app (repsK.up s (kid_cases _) (kid_cases _) q1) (by rw [join_comm]; exact repsK.up s (kid_cases _) (kid_cases _) q2)) (by rw [mk_eq (join_cases _ _)]; exact q)⟩
theorem repsK.nil_iff {K : PySem.W.Frag} {F B H : Hp} {k : Kd} {vs : List V} (r : repsK K F B H k ds vs) : vs = [] ↔ ds = [] := by
  have e := r.len
  constructor
  · intro h; subst h; exact List.length_eq_zero_iff.mp e.symm
  · intro h; subst h; exact List.length_eq_zero_iff.mp e
theorem repK_up {K : PySem.W.Frag} {F B H : Hp} (hs : Hs F B H) {k j : Kd} {v : V} (hk : k = .cln ∨ k = .brw ∨ k = .drt) (hj : j = .cln ∨ j = .brw ∨ j = .drt) (r : RepK K F B H H k d v) : RepK K F B H H (k.join j) d v := by
  rcases hk with h | h | h <;> subst h <;> rcases hj with h | h | h <;> subst h
  · exact r
  · exact Rep.mono hs.fb r
  · exact Rep.mono hs.fh r
  · exact r
  · exact r
  · exact Rep.mono hs.bh r
  · exact r
  · exact r
  · exact r
theorem ev_addT (ha : Ev X env a (.tup ds) k1) (hb : Ev X env b (.tup es) k2) (hz : ds.length + es.length ≤ sizeLine) : Ev X env (.BinOp a .Add b pos) (.tup (ds ++ es)) (k1.kid.join k2.kid) :=
  ev_op2 op_catA ha hb fun F B H v u Q s r1 r2 q => by
    obtain ⟨l1, vs, e1, h1, q1⟩ := r1.tup s
    obtain ⟨l2, us, e2, h2, q2⟩ := r2.tup s
    have b1 := repK_up s (kid_cases _) (kid_cases k2) (RepS.back s r1)
    have b2 := repK_up s (kid_cases _) (kid_cases k1) (RepS.back s r2)
    rw [join_comm] at b2
    refine ⟨l1, l2, vs, us, e1, e2, h1, h2, by rw [q1.len, q2.len]; exact hz, fun z => ?_, fun z y => ?_, fun _ _ => new_tup (join_cases _ _) s (repsK.app (repsK.up s (kid_cases _) (kid_cases _) q1) (by rw [join_comm]; exact repsK.up s (kid_cases _) (kid_cases _) q2)) q⟩
    · rw [e2] at b2
      rw [q1.nil_iff.mp z, List.nil_append] at q
      exact q.now s b2
    · rw [e1] at b1
      rw [q2.nil_iff.mp y, List.append_nil] at q
      exact q.now s b1
variable {pn : Pos}
theorem ev_lenL (bn : Bn X "len" (.builtin "len")) (ha : Ev X env a (.lst ds) k1) (he : starEach [a] X.env = [(false, eval a X.env)]) : Ev X env (.Call (.Name "len" pn) [a] [] pos) (.int ds.length) .cln :=
  ev_call1 call_len_seq bn ha (fun F B H v Q s r1 q => by
    obtain ⟨a, vs, e1, e2, r⟩ := r1.lst s
    exact ⟨a, vs, by rw [e1], .inl (SqL.of e2), by rw [r.len]; exact fin_int s q⟩) he
theorem ev_lenT (bn : Bn X "len" (.builtin "len")) (ha : Ev X env a (.tup ds) k1) (he : starEach [a] X.env = [(false, eval a X.env)]) : Ev X env (.Call (.Name "len" pn) [a] [] pos) (.int ds.length) .cln :=
  ev_call1 call_len_seq bn ha (fun F B H v Q s r1 q => by
    obtain ⟨a, vs, e1, e2, r⟩ := r1.tup s
    exact ⟨a, vs, by rw [e1], .inr e2, by rw [r.len]; exact fin_int s q⟩) he
theorem ev_lenC {ns : List Int} (bn : Bn X "len" (.builtin "len")) (ha : Ev X env a (.scr ns) k1) (he : starEach [a] X.env = [(false, eval a X.env)]) : Ev X env (.Call (.Name "len" pn) [a] [] pos) (.int ns.length) .cln :=
  ev_call1 call_len_seq bn ha (fun F B H v Q s r1 q => by
    obtain ⟨a, e1, e2⟩ := r1.scr s
    exact ⟨a, _, by rw [e1], .inl e2, by rw [List.length_map]; exact fin_int s q⟩) he
theorem ev_lenS (bn : Bn X "len" (.builtin "len")) (ha : Ev X env a (.str s) k1) (hz : s.length ≤ sizeLine) (he : starEach [a] X.env = [(false, eval a X.env)]) : Ev X env (.Call (.Name "len" pn) [a] [] pos) (.int s.length) .cln :=
  ev_call1 call_len_str bn ha (fun F B H v Q hs r1 q => ⟨s, by rw [r1.str hs], hz, fin_int hs q⟩) he
theorem ev_abs (bn : Bn X "abs" (.builtin "abs")) (ha : Ev X env a (.int i) k1) (he : starEach [a] X.env = [(false, eval a X.env)]) : Ev X env (.Call (.Name "abs" pn) [a] [] pos) (.int (if i < 0 then -i else i)) .cln :=
  ev_call1 call_abs bn ha (fun F B H v Q hs r1 q => ⟨i, by rw [r1.int hs], fin_int hs q⟩) he
theorem ev_max2 (hc : X.calm = true) (bn : Bn X "max" (.builtin "max")) (ha : Ev X env a (.int i) k1) (hb : Ev X env b (.int j) k2) (he : starEach [a, b] X.env = [(false, eval a X.env), (false, eval b X.env)]) (hb' : starEach [b] X.env = [(false, eval b X.env)]) :
    Ev X env (.Call (.Name "max" pn) [a, b] [] pos) (.int (if j > i then j else i)) .cln :=
  ev_call2 (call_max2 hc) bn ha hb (fun F B H v u Q hs r1 r2 q => ⟨i, j, by rw [r1.int hs, r2.int hs], fin_int hs q⟩) he hb'
theorem ev_min2 (hc : X.calm = true) (bn : Bn X "min" (.builtin "min")) (ha : Ev X env a (.int i) k1) (hb : Ev X env b (.int j) k2) (he : starEach [a, b] X.env = [(false, eval a X.env), (false, eval b X.env)]) (hb' : starEach [b] X.env = [(false, eval b X.env)]) :
    Ev X env (.Call (.Name "min" pn) [a, b] [] pos) (.int (if j < i then j else i)) .cln :=
  ev_call2 (call_min2 hc) bn ha hb (fun F B H v u Q hs r1 r2 q => ⟨i, j, by rw [r1.int hs, r2.int hs], fin_int hs q⟩) he hb'
theorem ev_intI (bn : Bn X "int" (.type "int")) (ha : Ev X env a (.int i) k1) (he : starEach [a] X.env = [(false, eval a X.env)]) : Ev X env (.Call (.Name "int" pn) [a] [] pos) (.int i) .cln :=
  ev_callT1 call_int1 bn ha (fun F B H v Q hs r1 q => .inl ⟨i, by rw [r1.int hs], fin_int hs q⟩) he
theorem ev_intB (bn : Bn X "int" (.type "int")) (ha : Ev X env a (.bl p) k1) (he : starEach [a] X.env = [(false, eval a X.env)]) : Ev X env (.Call (.Name "int" pn) [a] [] pos) (.int (if p then 1 else 0)) .cln :=
  ev_callT1 call_int1 bn ha (fun F B H v Q hs r1 q => .inr ⟨p, by rw [r1.bl hs], fin_int hs q⟩) he
theorem ev_listL (bn : Bn X "list" (.type "list")) (ha : Ev X env a (.lst ds) k1) (he : starEach [a] X.env = [(false, eval a X.env)]) : Ev X env (.Call (.Name "list" pn) [a] [] pos) (.lst ds) k1.kid.mk :=
  ev_callT1 call_list_of bn ha (fun F B H v Q s r1 q => by
    obtain ⟨a, vs, e1, e2, r⟩ := r1.lst s
    exact ⟨a, vs, by rw [e1], .inl (SqL.of e2), new_lst (kid_cases _) s r (by rw [mk_eq (kid_cases _)]; exact q)⟩) he
theorem ev_listT (bn : Bn X "list" (.type "list")) (ha : Ev X env a (.tup ds) k1) (he : starEach [a] X.env = [(false, eval a X.env)]) : Ev X env (.Call (.Name "list" pn) [a] [] pos) (.lst ds) k1.kid.mk :=
  ev_callT1 call_list_of bn ha (fun F B H v Q s r1 q => by
    obtain ⟨a, vs, e1, e2, r⟩ := r1.tup s
    exact ⟨a, vs, by rw [e1], .inr e2, new_lst (kid_cases _) s r (by rw [mk_eq (kid_cases _)]; exact q)⟩) he
theorem ev_tupL (bn : Bn X "tuple" (.type "tuple")) (ha : Ev X env a (.lst ds) k1) (he : starEach [a] X.env = [(false, eval a X.env)]) : Ev X env (.Call (.Name "tuple" pn) [a] [] pos) (.tup ds) k1.kid :=
  ev_callT1 call_tuple_of bn ha (fun F B H v Q s r1 q => by
    obtain ⟨a, vs, e1, e2, r⟩ := r1.lst s
    exact ⟨a, vs, by rw [e1], .inl ⟨SqL.of e2, new_tup (kid_cases _) s r q⟩⟩) he
theorem ev_tupT (bn : Bn X "tuple" (.type "tuple")) (ha : Ev X env a (.tup ds) k1) (he : starEach [a] X.env = [(false, eval a X.env)]) : Ev X env (.Call (.Name "tuple" pn) [a] [] pos) (.tup ds) k1.kid :=
  ev_callT1 call_tuple_of bn ha (fun F B H v Q s r1 q => by
    obtain ⟨a, vs, e1, e2, r⟩ := r1.tup s
    rw [e1] at r1
    exact ⟨a, vs, by rw [e1], .inr ⟨e2, q.now s (RepS.back s r1)⟩⟩) he
theorem ev_sumL {ns : List Int} (hc : X.calm = true) (bn : Bn X "sum" (.builtin "sum")) (ha : Ev X env a (.lst (ns.map D.int)) k1) (he : starEach [a] X.env = [(false, eval a X.env)]) : Ev X env (.Call (.Name "sum" pn) [a] [] pos) (.int ns.sum) .cln :=
  ev_call1 (cr_sum hc) bn ha (fun F B H v Q s r1 q => by
    obtain ⟨a, vs, e1, e2, r⟩ := r1.lst s
    exact ⟨a, ns, by rw [e1], by rw [← reps_ints (r.reps s)]; exact SqL.of e2, fin_int s q⟩) he
theorem ev_allL {ns : List Bool} (hc : X.calm = true) (bn : Bn X "all" (.builtin "all")) (ha : Ev X env a (.lst (ns.map D.bl)) k1) (he : starEach [a] X.env = [(false, eval a X.env)]) : Ev X env (.Call (.Name "all" pn) [a] [] pos) (.bl (ns.all id)) .cln :=
  ev_call1 (cr_all hc) bn ha (fun F B H v Q s r1 q => by
    obtain ⟨a, vs, e1, e2, r⟩ := r1.lst s
    exact ⟨a, ns, by rw [e1], by rw [← reps_bls (r.reps s)]; exact SqL.of e2, fin_bl s q⟩) he
theorem ev_anyL {ns : List Bool} (hc : X.calm = true) (bn : Bn X "any" (.builtin "any")) (ha : Ev X env a (.lst (ns.map D.bl)) k1) (he : starEach [a] X.env = [(false, eval a X.env)]) : Ev X env (.Call (.Name "any" pn) [a] [] pos) (.bl (ns.any id)) .cln :=
  ev_call1 (cr_any hc) bn ha (fun F B H v Q s r1 q => by
    obtain ⟨a, vs, e1, e2, r⟩ := r1.lst s
    exact ⟨a, ns, by rw [e1], by rw [← reps_bls (r.reps s)]; exact SqL.of e2, fin_bl s q⟩) he
theorem ev_maxL {ns : List Int} {m : Int} (hc : X.calm = true) (bn : Bn X "max" (.builtin "max")) (ha : Ev X env a (.lst (ns.map D.int)) k1) (h1 : m ∈ ns) (h2 : ∀ y ∈ ns, y ≤ m) (he : starEach [a] X.env = [(false, eval a X.env)]) : Ev X env (.Call (.Name "max" pn) [a] [] pos) (.int m) .cln :=
  ev_call1 (cr_max hc) bn ha (fun F B H v Q s r1 q => by
    obtain ⟨a, vs, e1, e2, r⟩ := r1.lst s
    refine ⟨a, ns, by rw [e1], by rw [← reps_ints (r.reps s)]; exact SqL.of e2, List.length_pos_of_mem h1, fun m' i1 i2 => ?_⟩
    have e : m' = m := Int.le_antisymm (h2 _ i1) (i2 _ h1)
    rw [e]
    exact fin_int s q) he
theorem ev_minL {ns : List Int} {m : Int} (hc : X.calm = true) (bn : Bn X "min" (.builtin "min")) (ha : Ev X env a (.lst (ns.map D.int)) k1) (h1 : m ∈ ns) (h2 : ∀ y ∈ ns, m ≤ y) (he : starEach [a] X.env = [(false, eval a X.env)]) : Ev X env (.Call (.Name "min" pn) [a] [] pos) (.int m) .cln :=
  ev_call1 (cr_min hc) bn ha (fun F B H v Q s r1 q => by
    obtain ⟨a, vs, e1, e2, r⟩ := r1.lst s
    refine ⟨a, ns, by rw [e1], by rw [← reps_ints (r.reps s)]; exact SqL.of e2, List.length_pos_of_mem h1, fun m' i1 i2 => ?_⟩
    have e : m' = m := Int.le_antisymm (i2 _ h1) (h2 _ i1)
    rw [e]
    exact fin_int s q) he
end
end DL
namespace DL
open PySem PySem.Spec L2
open PyProof.Rows hiding St
def SlotS (K : PySem.W.Frag) (F B G H : Hp) : Slot → V → Prop
  | .own d, v => ∃ p, v = .ref p ∧ B p = none ∧ G p = none ∧ OwnRep K F H p d
  | .frz d, v => Rep K F d v
  | .bor d, v => Rep K B d v
structure EnvS (K : PySem.W.Frag) (F B G H : Hp) (env : DEnv) (σ : St) : Prop where
  hs : Hs F B H
  gh : Same G H
  len : env.length = σ.length
  at_ : ∀ (i : Nat) s, env[i]? = some (some s) → ∃ v, σ[i]? = some (some v) ∧ SlotS K F B G H s v
  dis : ∀ (i j : Nat) d d' p, env[i]? = some (some (.own d)) → env[j]? = some (some (.own d')) → σ[i]? = some (some (.ref p)) → σ[j]? = some (some (.ref p)) → i = j
structure GS (F B G F' B' : Hp) : Prop where
  f : Same F F'
  b : Same B B'
  newF : ∀ p, G p ≠ none → F' p ≠ none → F p ≠ none
  newB : ∀ p, G p ≠ none → B' p ≠ none → B p ≠ none
theorem GS.refl {F B G : Hp} : GS F B G F B := ⟨.refl _, .refl _, fun _ _ h => h, fun _ _ h => h⟩
theorem GS.trans {F B G F1 B1 F2 B2 : Hp} (a : GS F B G F1 B1) (b : GS F1 B1 G F2 B2) : GS F B G F2 B2 :=
  ⟨a.f.trans b.f, a.b.trans b.b, fun p h1 h2 => a.newF p h1 (b.newF p h1 h2), fun p h1 h2 => a.newB p h1 (b.newB p h1 h2)⟩
section
variable {K : PySem.W.Frag} {F B G H F' B' H' : Hp} {env : DEnv} {σ : St}
theorem SlotS.e {s : Slot} {v : V} (h : SlotS K F B G H s v) : SlotE K F B H s v := by
  cases s with
  | own d => obtain ⟨p, e, _, _, r⟩ := h; exact ⟨p, e, r⟩
  | frz d => exact h
  | bor d => exact h
theorem EnvS.e (E : EnvS K F B G H env σ) : EnvE K F B H env σ := ⟨E.hs, E.len, fun i s h => by obtain ⟨v, h1, h2⟩ := E.at_ i s h; exact ⟨v, h1, h2.e⟩⟩
theorem Grow.gs (g : Grow F B H F' B' H') (gh : Same G H) : GS F B G F' B' := ⟨g.f, g.b, fun p h1 h2 => g.newF p (ne_none_of_same gh h1) h2, fun p h1 h2 => g.newB p (ne_none_of_same gh h1) h2⟩
theorem OwnRep.some {p : Addr} {d : D} (r : OwnRep K F H p d) : H p ≠ none := by
  cases d with
  | lst ds => obtain ⟨_, e, _⟩ := r; rw [e]; exact fun z => nomatch z
  | dK ds => obtain ⟨_, e, _⟩ := r; rw [e]; exact fun z => nomatch z
  | dT ds => obtain ⟨_, e, _⟩ := r; rw [e]; exact fun z => nomatch z
  | obj C ds => obtain ⟨_, _, e, _⟩ := r; rw [e]; exact fun z => nomatch z
  | _ => exact r.elim
theorem SlotS.grow (g : Grow F B H F' B' H') {s : Slot} {v : V} (h : SlotS K F B G H s v) : SlotS K F' B' G H' s v := by
  cases s with
  | own d =>
    obtain ⟨p, e, n, m, r⟩ := h
    refine ⟨p, e, ?_, m, r.grow g.f g.h⟩
    cases q : B' p with
    | none => rfl
    | some o => exact absurd n (g.newB p r.some (by rw [q]; exact fun z => nomatch z))
  | frz d => exact Rep.mono g.f h
  | bor d => exact Rep.mono g.b h
theorem EnvS.grow (E : EnvS K F B G H env σ) (g : Grow F B H F' B' H') : EnvS K F' B' G H' env σ :=
  ⟨g.hs, E.gh.trans g.h, E.len, fun i s h => by obtain ⟨v, h1, h2⟩ := E.at_ i s h; exact ⟨v, h1, h2.grow g⟩, E.dis⟩
end
inductive SlotOf : Kd → D → Slot → Prop
  | int {k : Kd} {i : Int} : SlotOf k (.int i) (.frz (.int i))
  | str {k : Kd} {i : Str} : SlotOf k (.str i) (.frz (.str i))
  | bl {k : Kd} {i : Bool} : SlotOf k (.bl i) (.frz (.bl i))
  | non {k : Kd} : SlotOf k .non (.frz .non)
  | own {d : D} : SlotOf .own d (.own d)
  | cln {d : D} : SlotOf .cln d (.frz d)
  | brw {d : D} : SlotOf .brw d (.bor d)
structure Outs where
  nx : DEnv → Prop := fun _ => False
  rt : D → Kd → Prop := fun _ _ => False
  bk : DEnv → Prop := fun _ => False
  ct : DEnv → Prop := fun _ => False
structure Post (K : PySem.W.Frag) (F B G : Hp) (Φ : Outs) (Dd : Ends) : Prop where
  nx : ∀ env' σ' H' F' B', GS F B G F' B' → EnvS K F' B' G H' env' σ' → Φ.nx env' → Dd.nx σ' H'
  rt : ∀ d k v H' F' B', GS F B G F' B' → Hs F' B' H' → Same G H' → RepK K F' B' G H' k d v → Φ.rt d k → Dd.rt v H'
  bk : ∀ env' σ' H' F' B', GS F B G F' B' → EnvS K F' B' G H' env' σ' → Φ.bk env' → Dd.bk σ' H'
  ct : ∀ env' σ' H' F' B', GS F B G F' B' → EnvS K F' B' G H' env' σ' → Φ.ct env' → Dd.ct σ' H'
def tSS (K : PySem.W.Frag) (env : DEnv) (Φ : Outs) : TS := fun Dd σ H => ∃ F B G, EnvS K F B G H env σ ∧ Post K F B G Φ Dd
structure SS (X : Cx) (env : DEnv) (sts : List Stmt) (Φ : Outs) : Prop where
  ps : PSs X sts (tSS X.K env Φ)
structure S1 (X : Cx) (env : DEnv) (st : Stmt) (Φ : Outs) : Prop where
  ps : PS X st (tSS X.K env Φ)
theorem Post.gs {K : PySem.W.Frag} {F B G F1 B1 : Hp} {Φ : Outs} {Dd : Ends} (P : Post K F B G Φ Dd) (g : GS F B G F1 B1) : Post K F1 B1 G Φ Dd :=
  ⟨fun e σ H F' B' q E h => P.nx e σ H F' B' (g.trans q) E h, fun d k v H F' B' q s gh r h => P.rt d k v H F' B' (g.trans q) s gh r h, fun e σ H F' B' q E h => P.bk e σ H F' B' (g.trans q) E h, fun e σ H F' B' q E h => P.ct e σ H F' B' (g.trans q) E h⟩
section
variable {X : Cx} {env env' : DEnv} {Φ : Outs} {st : Stmt} {rest A Bs : List Stmt} {e a b c : Expr} {d x y z : D} {k k1 k2 : Kd} {pos : Pos} {p : Bool}
theorem ss_nil (h : Φ.nx env) : SS X env [] Φ := ⟨pss_nil.mono fun Dd σ H ⟨F, B, G, E, P⟩ => P.nx env σ H F B .refl E h⟩
abbrev Outs.thn (Φ : Outs) (X : Cx) (rest : List Stmt) : Outs := { Φ with nx := fun env' => SS X env' rest Φ }
theorem ss_cons (h : S1 X env st (Φ.thn X rest)) : SS X env (st :: rest) Φ := by
  have hu : PSs X rest (fun Dd σ H => ∃ env', SS X env' rest Φ ∧ tSS X.K env' Φ Dd σ H) := ⟨fun pins s σ H Dd I ⟨env', h1, h2⟩ => h1.ps.run pins s σ H Dd I h2⟩
  refine ⟨(pss_cons h.ps hu).mono fun Dd σ H ⟨F, B, G, E, P⟩ => ⟨F, B, G, E, ?_⟩⟩
  exact ⟨fun e σ H F' B' q E h => ⟨e, h, F', B', G, E, P.gs q⟩, P.rt, P.bk, P.ct⟩
theorem ss_one (h : S1 X env st Φ) : SS X env [st] Φ := ⟨(pss_one h.ps)⟩
theorem SS.imp {Ψ : Outs} (h : SS X env A Φ) (hn : ∀ e, Φ.nx e → Ψ.nx e) (hr : ∀ d k, Φ.rt d k → Ψ.rt d k) (hb : ∀ e, Φ.bk e → Ψ.bk e) (hc : ∀ e, Φ.ct e → Ψ.ct e) : SS X env A Ψ :=
  ⟨h.ps.mono fun Dd σ H ⟨F, B, G, E, P⟩ => ⟨F, B, G, E, fun e σ H F' B' q E h => P.nx e σ H F' B' q E (hn _ h), fun d k v H F' B' q s gh r h => P.rt d k v H F' B' q s gh r (hr _ _ h), fun e σ H F' B' q E h => P.bk e σ H F' B' q E (hb _ h), fun e σ H F' B' q E h => P.ct e σ H F' B' q E (hc _ h)⟩⟩
theorem RepK.slot {K : PySem.W.Frag} {F B G H0 H : Hp} {v : V} {s : Slot} (hs : Hs F B H) (gh : Same G H0) (so : SlotOf k d s) (r : RepK K F B H0 H k d v) : SlotS K F B G H s v := by
  cases so with
  | int => exact RepK.scalR rfl hs r
  | str => exact RepK.scalR rfl hs r
  | bl => exact RepK.scalR rfl hs r
  | non => exact RepK.scalR rfl hs r
  | own => obtain ⟨p, e, n, m, q⟩ := r; exact ⟨p, e, m, gh.free n, q⟩
  | cln => exact r
  | brw => exact r
theorem get_set {α : Type} {l : List α} {i j : Nat} {a b : α} (h : (l.set i a)[j]? = some b) : (j = i ∧ b = a ∧ i < l.length) ∨ (j ≠ i ∧ l[j]? = some b) := by
  by_cases e : i = j
  · subst e
    by_cases hl : i < l.length
    · rw [List.getElem?_set_self hl] at h; cases h; exact .inl ⟨rfl, rfl, hl⟩
    · rw [List.getElem?_eq_none (by rw [List.length_set]; omega)] at h; cases h
  · rw [List.getElem?_set_ne e] at h; exact .inr ⟨fun z => e z.symm, h⟩
theorem EnvS.set {K : PySem.W.Frag} {F B G H : Hp} {σ : St} {v : V} {s : Slot} {i : Nat} (E : EnvS K F B G H env σ) (h : SlotS K F B G H s v)
    (hd : ∀ d p, s = .own d → v = .ref p → ∀ (j : Nat) d', env[j]? = some (some (.own d')) → σ[j]? ≠ some (some (.ref p))) : EnvS K F B G H (env.set i (some s)) (σ.set i (some v)) := by
  refine ⟨E.hs, E.gh, by rw [List.length_set, List.length_set]; exact E.len, fun j t e => ?_, fun j m d d' p e1 e2 e3 e4 => ?_⟩
  · rcases get_set e with ⟨z, y, hl⟩ | ⟨z, y⟩
    · cases y
      rw [z, List.getElem?_set_self (by rw [← E.len]; exact hl)]
      exact ⟨v, rfl, h⟩
    · obtain ⟨u, h1, h2⟩ := E.at_ j t y
      exact ⟨u, by rw [List.getElem?_set_ne (Ne.symm z)]; exact h1, h2⟩
  · rcases get_set e1 with ⟨z1, y1, l1⟩ | ⟨z1, y1⟩ <;> rcases get_set e2 with ⟨z2, y2, l2⟩ | ⟨z2, y2⟩
    · rw [z1, z2]
    · rw [z1, List.getElem?_set_self (by rw [← E.len]; exact l1)] at e3
      rw [List.getElem?_set_ne (Ne.symm z2)] at e4
      cases e3
      exact absurd e4 (hd d p (Option.some.inj y1).symm rfl m d' y2)
    · rw [z2, List.getElem?_set_self (by rw [← E.len]; exact l2)] at e4
      rw [List.getElem?_set_ne (Ne.symm z1)] at e3
      cases e4
      exact absurd e3 (hd d' p (Option.some.inj y2).symm rfl j d y1)
    · rw [List.getElem?_set_ne (Ne.symm z1)] at e3
      rw [List.getElem?_set_ne (Ne.symm z2)] at e4
      exact E.dis j m d d' p y1 y2 e3 e4
theorem own_new {K : PySem.W.Frag} {F B G H : Hp} {σ : St} (E : EnvS K F B G H env σ) {q : Addr} (n : H q = none) : ∀ (j : Nat) d', env[j]? = some (some (.own d')) → σ[j]? ≠ some (some (.ref q)) := fun j d' e1 e2 => by
  obtain ⟨u, h1, p, h2, _, _, r⟩ := E.at_ j _ e1
  rw [e2] at h1; cases h1; cases h2
  exact r.some n
theorem s1_set (i : Nat) {n : Str} {s : Slot} {pos' : Pos} (hN : X.N.Nodup) (hi : X.N[i]? = some n) (hx : Loc X.env.scope n) (he : Ev X env e d k) (so : SlotOf k d s) (hs : swapsWith e (some (.Name n pos')) pos.line X.env = pure false)
    (hf : X.fn n = true ∨ X.env.scope.names.lookup n = some .local) (h : Φ.nx (env.set i (some s))) : S1 X env (.Assign [.Name n pos'] e pos) Φ :=
  ⟨(ps_set hN hi hx he.pe hs hf).mono fun Dd σ H ⟨F, B, G, E, P⟩ => ⟨F, B, E.e, fun v H' F' B' g r => by
    refine P.nx _ _ _ F' B' (g.gs E.gh) ((E.grow g).set (RepK.slot g.hs E.gh so r) fun d' p es ev => ?_) h
    subst es
    cases so with
    | own =>
      obtain ⟨q, e1, n, _, _⟩ := r
      rw [e1] at ev; cases ev
      exact own_new E n⟩⟩
theorem ss_set (i : Nat) {n : Str} {s : Slot} {pos' : Pos} (hN : X.N.Nodup) (hi : X.N[i]? = some n) (hx : Loc X.env.scope n) (he : Ev X env e d k) (so : SlotOf k d s) (hs : swapsWith e (some (.Name n pos')) pos.line X.env = pure false)
    (hf : X.fn n = true ∨ X.env.scope.names.lookup n = some .local) (h : SS X (env.set i (some s)) rest Φ) : SS X env (.Assign [.Name n pos'] e pos :: rest) Φ := ss_cons (s1_set i hN hi hx he so hs hf h)
theorem s1_ret (he : Ev X env e d k) (h : Φ.rt d k) : S1 X env (.Return (some e) pos) Φ :=
  ⟨(ps_ret he.pe).mono fun Dd σ H ⟨F, B, G, E, P⟩ => ⟨F, B, E.e, fun v H' F' B' g r => P.rt d k v H' F' B' (g.gs E.gh) g.hs (E.gh.trans g.h) (RepK.back E.gh r) h⟩⟩
theorem ss_ret (he : Ev X env e d k) (h : Φ.rt d k) : SS X env (.Return (some e) pos :: rest) Φ := ss_cons (s1_ret he h)
theorem ss_retO (i : Nat) {n : Str} {pos' : Pos} (hN : X.N[i]? = some n) (hv : Vis X.env.scope n) (he : env[i]? = some (some (.own d))) (h : Φ.rt d .own) (hd : (n == ("__debug__" : Str)) = false) (hcd : (n == ("__classdict__" : Str)) = false) : SS X env (.Return (some (.Name n pos')) pos :: rest) Φ :=
  ss_cons ⟨(ps_ret (pe_var hN hv hd hcd)).mono fun Dd σ H ⟨F, B, G, E, P⟩ => by
    obtain ⟨v, h1, p, e1, n1, n2, r⟩ := E.at_ i _ he
    subst e1
    exact ⟨_, h1, P.rt d .own _ H F B .refl E.hs E.gh ⟨p, rfl, n2, n1, r⟩ h⟩⟩
theorem ss_retN (h : Φ.rt .non .cln) : SS X env (.Return none pos :: rest) Φ := ss_cons ⟨ps_retN.mono fun Dd σ H ⟨F, B, G, E, P⟩ => P.rt .non .cln _ H F B .refl E.hs E.gh .non h⟩
theorem pss_false {sts : List Stmt} : PSs X sts (fun _ _ _ => False) := ⟨fun _ _ _ _ _ _ h => h.elim⟩
theorem s1_if (hc : Et X env c p) (ha : p = true → SS X env A Φ) (hb : p = false → SS X env Bs Φ) : S1 X env (.If c A Bs pos) Φ := by
  cases p with
  | true =>
    exact ⟨(ps_if hc.pt (ha rfl).ps pss_false).mono fun Dd σ H ⟨F, B, G, E, P⟩ => ⟨F, B, E.e, fun H' F' B' g => by
      show if true = true then _ else _
      rw [if_pos rfl]
      exact ⟨F', B', G, E.grow g, P.gs (g.gs E.gh)⟩⟩⟩
  | false =>
    exact ⟨(ps_if hc.pt pss_false (hb rfl).ps).mono fun Dd σ H ⟨F, B, G, E, P⟩ => ⟨F, B, E.e, fun H' F' B' g => by
      show if false = true then _ else _
      rw [if_neg Bool.false_ne_true]
      exact ⟨F', B', G, E.grow g, P.gs (g.gs E.gh)⟩⟩⟩
theorem ss_if (hc : Et X env c p) (ha : p = true → SS X env A (Φ.thn X rest)) (hb : p = false → SS X env Bs (Φ.thn X rest)) : SS X env (.If c A Bs pos :: rest) Φ := ss_cons (s1_if hc ha hb)
theorem ss_ifJ (env' : DEnv) (hc : Et X env c p) (ha : p = true → SS X env A { Φ with nx := fun e => e = env' }) (hb : p = false → SS X env Bs { Φ with nx := fun e => e = env' }) (h : SS X env' rest Φ) : SS X env (.If c A Bs pos :: rest) Φ :=
  ss_cons (s1_if hc (fun z => (ha z).imp (fun e w => by rw [w]; exact h) (fun _ _ w => w) (fun _ w => w) fun _ w => w) fun z => (hb z).imp (fun e w => by rw [w]; exact h) (fun _ _ w => w) (fun _ w => w) fun _ w => w)
theorem ss_pass (h : SS X env rest Φ) : SS X env (.Pass pos :: rest) Φ := ss_cons ⟨ps_pass.mono fun Dd σ H ⟨F, B, G, E, P⟩ => P.nx _ _ _ F B .refl E h⟩
theorem ss_brk (h : Φ.bk env) : SS X env (.Break pos :: rest) Φ := ss_cons ⟨ps_break.mono fun Dd σ H ⟨F, B, G, E, P⟩ => P.bk _ _ _ F B .refl E h⟩
theorem ss_cont (h : Φ.ct env) : SS X env (.Continue pos :: rest) Φ := ss_cons ⟨ps_continue.mono fun Dd σ H ⟨F, B, G, E, P⟩ => P.ct _ _ _ F B .refl E h⟩
def Wk : DEnv → DEnv → Prop
  | [], [] => True
  | a :: r, b :: s => (b = none ∨ b = a) ∧ Wk r s
  | _, _ => False
theorem Wk.len : ∀ {a b : DEnv}, Wk a b → a.length = b.length
  | [], [], _ => rfl
  | _ :: _, _ :: _, h => congrArg Nat.succ (Wk.len h.2)
  | [], _ :: _, h => h.elim
  | _ :: _, [], h => h.elim
theorem Wk.get : ∀ {a b : DEnv} {i : Nat} {s : Slot}, Wk a b → b[i]? = some (some s) → a[i]? = some (some s)
  | [], [], _, _, _, e => by simp at e
  | a :: _, b :: _, 0, s, h, e => by
    have e' : b = some s := by simpa using e
    rcases h.1 with z | z
    · rw [z] at e'; cases e'
    · simpa [← z] using e
  | _ :: _, _ :: _, i + 1, s, h, e => by
    have := Wk.get (i := i) (s := s) h.2 (by simpa using e)
    simpa using this
  | [], _ :: _, _, _, h, _ => h.elim
  | _ :: _, [], _, _, h, _ => h.elim
theorem EnvS.wk {K : PySem.W.Frag} {F B G H : Hp} {σ : St} (E : EnvS K F B G H env σ) (w : Wk env env') : EnvS K F B G H env' σ :=
  ⟨E.hs, E.gh, by rw [← w.len]; exact E.len, fun i s h => E.at_ i s (w.get h), fun i j d d' p h1 h2 => E.dis i j d d' p (w.get h1) (w.get h2)⟩
theorem ss_wk (env' : DEnv) (w : Wk env env') (h : SS X env' A Φ) : SS X env A Φ := ⟨h.ps.mono fun Dd σ H ⟨F, B, G, E, P⟩ => ⟨F, B, G, E.wk w, P⟩⟩
theorem Wk.refl : ∀ a : DEnv, Wk a a
  | [] => trivial
  | _ :: r => ⟨.inr rfl, Wk.refl r⟩
theorem EnvS.frz {K : PySem.W.Frag} {F B G H : Hp} {σ : St} {i : Nat} (E : EnvS K F B G H env σ) (he : env[i]? = some (some (.own d))) : ∃ F' B', GS F B G F' B' ∧ EnvS K F' B' G H (env.set i (some (.frz d))) σ := by
  obtain ⟨v, h1, p, e1, n1, n2, r⟩ := E.at_ i _ he
  subst e1
  refine ⟨frzAt F H p, frzAt B H p, ⟨frz_same E.hs.fh p, frz_same E.hs.bh p, fun q g1 h2 => ?_, fun q g1 h2 => ?_⟩, E.hs.frz p, E.gh, by rw [List.length_set]; exact E.len, fun j t e => ?_, fun j m d1 d2 q e1 e2 e3 e4 => ?_⟩
  · rcases frz_ne h2 with z | z
    · subst z; exact absurd n2 g1
    · exact z
  · rcases frz_ne h2 with z | z
    · subst z; exact absurd n2 g1
    · exact z
  · rcases get_set e with ⟨z, y, hl⟩ | ⟨z, y⟩
    · cases y
      rw [z]
      exact ⟨_, h1, r.frz E.hs.fh⟩
    · obtain ⟨u, h3, h4⟩ := E.at_ j t y
      refine ⟨u, h3, ?_⟩
      cases t with
      | own d' =>
        obtain ⟨q, e5, n3, n4, r'⟩ := h4
        subst e5
        refine ⟨q, rfl, ?_, n4, r'.grow (frz_same E.hs.fh p) (.refl _)⟩
        have ne : q ≠ p := fun w => by subst w; exact z (E.dis j i d' d q y he h3 h1)
        unfold frzAt
        rw [if_neg ne]; exact n3
      | frz d' => exact Rep.mono (frz_same E.hs.fh p) h4
      | bor d' => exact Rep.mono (frz_same E.hs.bh p) h4
  · rcases get_set e1 with ⟨z1, y1, l1⟩ | ⟨z1, y1⟩
    · cases y1
    · rcases get_set e2 with ⟨z2, y2, l2⟩ | ⟨z2, y2⟩
      · cases y2
      · exact E.dis j m d1 d2 q y1 y2 e3 e4
theorem ss_frz (i : Nat) (he : env[i]? = some (some (.own d))) (h : SS X (env.set i (some (.frz d))) A Φ) : SS X env A Φ := ⟨h.ps.mono fun Dd σ H ⟨F, B, G, E, P⟩ => by
  obtain ⟨F', B', g, E'⟩ := E.frz he
  exact ⟨F', B', G, E', P.gs g⟩⟩
end
end DL
namespace DL
open PySem PySem.Spec L2
open PyProof.Rows hiding St
inductive Tg where
  | nm (i : Nat) | tp (ts : List Tg)
mutual
def gOf (K : PySem.W.Frag) : Tg → TG
  | .nm i => gName i
  | .tp ts => gTup K (gLen ts) (gsOf K ts)
def gsOf (K : PySem.W.Frag) : List Tg → TGs
  | [] => gNil
  | t :: ts => gCons (gOf K t) (gsOf K ts)
def gLen : List Tg → Nat
  | [] => 0
  | _ :: ts => gLen ts + 1
end
mutual
def Tg.ix : Tg → List Nat
  | .nm i => [i]
  | .tp ts => Tg.ixs ts
def Tg.ixs : List Tg → List Nat
  | [] => []
  | t :: ts => t.ix ++ Tg.ixs ts
end
inductive K2 where
  | c | b
abbrev K2.k : K2 → Kd
  | .c => .cln | .b => .brw
def slot2 (k : K2) (d : D) : Slot := match d with
  | .int i => .frz (.int i)
  | .str i => .frz (.str i)
  | .bl i => .frz (.bl i)
  | .non => .frz .non
  | d => match k with
    | .c => .frz d
    | .b => .bor d
mutual
def bnd (k : K2) : Tg → D → DEnv → Option DEnv
  | .nm i, d, env => some (env.set i (some (slot2 k d)))
  | .tp ts, .tup ds, env => bnds k ts ds env
  | .tp _, _, _ => none
def bnds (k : K2) : List Tg → List D → DEnv → Option DEnv
  | [], [], env => some env
  | t :: ts, d :: ds, env => match bnd k t d env with
    | some e => bnds k ts ds e
    | none => none
  | [], _ :: _, _ => none
  | _ :: _, [], _ => none
end
structure TgOk (X : Cx) (e : Expr) (t : Tg) : Prop where
  pg : PG X e (gOf X.K t)
structure TgsOk (X : Cx) (e : List Expr) (t : List Tg) : Prop where
  pg : PGs X e (gsOf X.K t)
section
variable {X : Cx} {pos : Pos}
theorem tg_nm (i : Nat) {n : Str} (hN : X.N.Nodup) (hi : X.N[i]? = some n) (hx : Loc X.env.scope n) (hf : X.fn n = true ∨ X.env.scope.names.lookup n = some .local) : TgOk X (.Name n pos) (.nm i) := ⟨pg_name hN hi hx hf⟩
theorem tgs_nil : TgsOk X [] [] := ⟨pgs_nil⟩
theorem tgs_cons {e : Expr} {es : List Expr} {t : Tg} {ts : List Tg} (h1 : TgOk X e t) (h2 : TgsOk X es ts) (hs : (assignEach (e :: es) X.env).map (·.2) = assign e X.env :: (assignEach es X.env).map (·.2)) : TgsOk X (e :: es) (t :: ts) := ⟨pgs_cons h1.pg h2.pg hs⟩
theorem tg_tp {es : List Expr} {ts : List Tg} {k : Nat} (hc : X.calm = true) (h : TgsOk X es ts) (hn : (assignEach es X.env).length = gLen ts) (hst : (assignEach es X.env).findIdx? (·.1) = none) : TgOk X (.Tuple es k pos) (.tp ts) := ⟨pg_tup hc h.pg hn hst⟩
end
section
variable {K : PySem.W.Frag} {F B H : Hp} {k : K2} {Pv : DEnv → St → Prop}
theorem slot2_rep {d : D} {v : V} (r : RepK K F B H H k.k d v) : (∃ d', slot2 k d = .frz d' ∧ Rep K F d' v) ∨ ∃ d', slot2 k d = .bor d' ∧ Rep K B d' v := by
  have sc : d.sc = true → ∀ {B' : Hp}, Rep K B' d v → Rep K F d v := fun h _ r => Rep.scal h r
  have any : ∃ B', Rep K B' d v := by cases k with | c => exact ⟨F, r⟩ | b => exact ⟨B, r⟩
  obtain ⟨B', r'⟩ := any
  cases d with
  | int i => exact .inl ⟨_, rfl, sc rfl r'⟩
  | str i => exact .inl ⟨_, rfl, sc rfl r'⟩
  | bl i => exact .inl ⟨_, rfl, sc rfl r'⟩
  | non => exact .inl ⟨_, rfl, sc rfl r'⟩
  | lst _ => cases k with | c => exact .inl ⟨_, rfl, r⟩ | b => exact .inr ⟨_, rfl, r⟩
  | tup _ => cases k with | c => exact .inl ⟨_, rfl, r⟩ | b => exact .inr ⟨_, rfl, r⟩
  | dK _ => cases k with | c => exact .inl ⟨_, rfl, r⟩ | b => exact .inr ⟨_, rfl, r⟩
  | dT _ => cases k with | c => exact .inl ⟨_, rfl, r⟩ | b => exact .inr ⟨_, rfl, r⟩
  | obj _ _ => cases k with | c => exact .inl ⟨_, rfl, r⟩ | b => exact .inr ⟨_, rfl, r⟩
  | scr _ => cases k with | c => exact .inl ⟨_, rfl, r⟩ | b => exact .inr ⟨_, rfl, r⟩
  | adr _ => cases k with | c => exact .inl ⟨_, rfl, r⟩ | b => exact .inr ⟨_, rfl, r⟩
  | tpx _ => cases k with | c => exact .inl ⟨_, rfl, r⟩ | b => exact .inr ⟨_, rfl, r⟩
  | tpk _ => cases k with | c => exact .inl ⟨_, rfl, r⟩ | b => exact .inr ⟨_, rfl, r⟩
def SetOk (K : PySem.W.Frag) (F B : Hp) (Pv : DEnv → St → Prop) (vs : Nat → Prop) : Prop :=
  ∀ env σ (i : Nat) s v, vs i → Pv env σ → ((∃ d', s = .frz d' ∧ Rep K F d' v) ∨ ∃ d', s = .bor d' ∧ Rep K B d' v) → Pv (env.set i (some s)) (σ.set i (some v))
theorem gLen_eq : ∀ ts : List Tg, gLen ts = ts.length
  | [] => rfl
  | _ :: ts => congrArg Nat.succ (gLen_eq ts)
theorem bnds_len : ∀ {ts : List Tg} {ds : List D} {env env' : DEnv}, bnds k ts ds env = some env' → ds.length = gLen ts
  | [], [], _, _, _ => rfl
  | t :: ts, d :: ds, env, env', h => by
    unfold bnds at h
    cases q : bnd k t d env with
    | none => rw [q] at h; cases h
    | some e => rw [q] at h; exact congrArg Nat.succ (bnds_len h)
  | [], _ :: _, _, _, h => nomatch h
  | _ :: _, [], _, _, h => nomatch h
mutual
theorem bnd_ok (s : Hs F B H) {vs : Nat → Prop} (so : SetOk K F B Pv vs) : ∀ {t : Tg} {d : D} {v : V} {env env' : DEnv} {σ : St} {Q : St → Hp → Prop}, (∀ j ∈ t.ix, vs j) → bnd k t d env = some env' → RepK K F B H H k.k d v → Pv env σ →
    (∀ σ', Pv env' σ' → Q σ' H) → gOf K t v σ H Q
  | .nm i, d, v, env, env', σ, Q, hv, h, r, p, q => by
    unfold bnd at h
    cases h
    exact q _ (so env σ i _ v (hv i (by simp [Tg.ix])) p (slot2_rep r))
  | .tp ts, .tup ds, v, env, env', σ, Q, hv, h, r, p, q => by
    unfold bnd at h
    have r' : ∃ B', Same B' H ∧ Rep K B' (.tup ds) v ∧ (∀ {d u}, Reps K B' d u → repsK K F B H k.k d u) := by
      cases k with
      | c => exact ⟨F, s.fh, r, fun z => z⟩
      | b => exact ⟨B, s.bh, r, fun z => z⟩
    obtain ⟨B', bh, r, up⟩ := r'
    cases r with
    | tup hq hr => exact ⟨_, _, rfl, Same.seqT bh hq, by rw [hr.length]; exact bnds_len h, bnds_ok s so (by simpa [Tg.ix] using hv) h (up hr) p q⟩
  | .tp _, .non, _, _, _, _, _, _, h, _, _, _ => nomatch h
  | .tp _, .bl _, _, _, _, _, _, _, h, _, _, _ => nomatch h
  | .tp _, .int _, _, _, _, _, _, _, h, _, _, _ => nomatch h
  | .tp _, .str _, _, _, _, _, _, _, h, _, _, _ => nomatch h
  | .tp _, .lst _, _, _, _, _, _, _, h, _, _, _ => nomatch h
  | .tp _, .dK _, _, _, _, _, _, _, h, _, _, _ => nomatch h
  | .tp _, .dT _, _, _, _, _, _, _, h, _, _, _ => nomatch h
  | .tp _, .obj _ _, _, _, _, _, _, _, h, _, _, _ => nomatch h
  | .tp _, .scr _, _, _, _, _, _, _, h, _, _, _ => nomatch h
  | .tp _, .adr _, _, _, _, _, _, _, h, _, _, _ => nomatch h
  | .tp _, .tpx _, _, _, _, _, _, _, h, _, _, _ => nomatch h
  | .tp _, .tpk _, _, _, _, _, _, _, h, _, _, _ => nomatch h
theorem bnds_ok (s : Hs F B H) {vs : Nat → Prop} (so : SetOk K F B Pv vs) : ∀ {ts : List Tg} {ds : List D} {us : List V} {env env' : DEnv} {σ : St} {Q : St → Hp → Prop}, (∀ j ∈ Tg.ixs ts, vs j) → bnds k ts ds env = some env' → repsK K F B H k.k ds us → Pv env σ →
    (∀ σ', Pv env' σ' → Q σ' H) → gsOf K ts us σ H Q
  | [], [], us, env, env', σ, Q, hv, h, r, p, q => by
    unfold bnds at h
    cases h
    have e : us = [] := List.length_eq_zero_iff.mp (by rw [r.len]; rfl)
    exact ⟨e, q σ p⟩
  | t :: ts, d :: ds, us, env, env', σ, Q, hv, h, r, p, q => by
    have r' : ∃ u ur, us = u :: ur ∧ RepK K F B H H k.k d u ∧ repsK K F B H k.k ds ur := by
      cases k with
      | c => cases (show Reps K F (d :: ds) us from r) with | cons a b => exact ⟨_, _, rfl, a, b⟩
      | b => cases (show Reps K B (d :: ds) us from r) with | cons a b => exact ⟨_, _, rfl, a, b⟩
    obtain ⟨u, ur, e, r1, r2⟩ := r'
    unfold bnds at h
    cases w : bnd k t d env with
    | none => rw [w] at h; cases h
    | some e1 =>
      rw [w] at h
      refine ⟨u, ur, e, bnd_ok s so (fun j hj => hv j (by simp [Tg.ixs, hj])) w r1 p fun σ1 p1 => ?_⟩
      exact bnds_ok s so (fun j hj => hv j (by simp [Tg.ixs, hj])) h r2 p1 q
  | [], _ :: _, _, _, _, _, _, _, h, _, _, _ => nomatch h
  | _ :: _, [], _, _, _, _, _, _, h, _, _, _ => nomatch h
end
end
structure ItOk (K : PySem.W.Frag) (P F B : Hp) (J : It) (k : K2) (ds : List D) : Prop where
  go : ∀ (i : Nat) d H, Same P H → ds[i]? = some d → J.go i H
  yl : ∀ (i : Nat) d H x H', Same P H → ds[i]? = some d → J.yld i H x H' → (H' = H ∧ RepK K F B H H k.k d x) ∨ ∃ T vs es, H T = none ∧ H' = upd H T (.tup vs) ∧ x = .ref T ∧ d = .tup es ∧ repsK K F B H k.k es vs
  st : ∀ H, Same P H → J.stop ds.length H
def tEI (K : PySem.W.Frag) (env : DEnv) (ds : List D) (k : K2) (fx : Bool) : TI := fun σ H R => ∃ F B, EnvE K F B H env σ ∧ ∀ J H' F' B', Grow F B H F' B' H' → ItOk K (if fx then B' else H') F' B' J k ds → R J H'
structure EI (X : Cx) (env : DEnv) (tg iter : Expr) (ds : List D) (k : K2) (fx : Bool) : Prop where
  pi : PI X tg iter (tEI X.K env ds k fx)
theorem _root_.L2.PI.mono {X : Cx} {tg e : Expr} {t t' : TI} (h : PI X tg e t) (m : ∀ σ H R, t' σ H R → t σ H R) : PI X tg e t' := ⟨fun pins s σ H Q I q => h.run pins s σ H Q I (m σ H Q q)⟩
section
variable {X : Cx} {env : DEnv} {tg e a b : Expr} {ds : List D} {k1 k2 : Kd} {i j : Int} {pos p : Pos}
theorem itl_ok {K : PySem.W.Frag} {P F B : Hp} {l : Addr} {vs : List V} {k : K2} (h : P l = some (.lst vs)) (r : repsK K F B P k.k ds vs) : ItOk K P F B (Itl K l) k ds := by
  have uniq : ∀ {H : Hp} {xs : List V}, Same P H → ∀ {i : Nat} {x : V}, (∀ xs, SqL K H l xs → xs[i]? = some x) → vs[i]? = some x := fun s i x y => y vs (SqL.of (s _ _ h))
  refine ⟨fun i d H s e => ?_, fun i d H x H' s e y => ?_, fun H s => ⟨vs, SqL.of (s _ _ h), by rw [r.len]; exact Nat.le_refl _⟩⟩
  · obtain ⟨u, e1, _⟩ := repsK.get (by cases k <;> simp) r e
    exact ⟨vs, u, SqL.of (s _ _ h), e1⟩
  · obtain ⟨e1, y⟩ := y
    obtain ⟨u, e2, r2⟩ := repsK.get (by cases k <;> simp) r e
    have := y vs (SqL.of (s _ _ h))
    rw [e2] at this; cases this
    refine .inl ⟨e1, ?_⟩
    cases k <;> exact r2
theorem itt_ok {K : PySem.W.Frag} {P F B : Hp} {l : Addr} {vs : List V} {k : K2} (h : SqT K P l vs) (r : repsK K F B P k.k ds vs) : ItOk K P F B (Itt K l) k ds := by
  refine ⟨fun i d H s e => ?_, fun i d H x H' s e y => ?_, fun H s => ⟨vs, Same.seqT s h, by rw [r.len]; exact Nat.le_refl _⟩⟩
  · obtain ⟨u, e1, _⟩ := repsK.get (by cases k <;> simp) r e
    exact ⟨vs, u, Same.seqT s h, e1⟩
  · obtain ⟨e1, y⟩ := y
    obtain ⟨u, e2, r2⟩ := repsK.get (by cases k <;> simp) r e
    have := y vs (Same.seqT s h)
    rw [e2] at this; cases this
    refine .inl ⟨e1, ?_⟩
    cases k <;> exact r2
theorem ei_lstC (h : Ev X env e (.lst ds) .cln) : EI X env tg e ds .c true := ⟨(pi_list h.pe).mono fun σ H R ⟨F, B, E, q⟩ => ⟨F, B, E, fun v H1 F1 B1 g r => by
  cases (show Rep X.K F1 (.lst ds) v from r) with
  | lst s t => exact ⟨_, rfl, ⟨_, SqL.of (g.hs.fh _ _ s)⟩, q _ H1 F1 B1 g (itl_ok (g.hs.fb _ _ s) t)⟩⟩⟩
theorem ei_lstB (h : Ev X env e (.lst ds) .brw) : EI X env tg e ds .b true := ⟨(pi_list h.pe).mono fun σ H R ⟨F, B, E, q⟩ => ⟨F, B, E, fun v H1 F1 B1 g r => by
  cases (show Rep X.K B1 (.lst ds) v from r) with
  | lst s t => exact ⟨_, rfl, ⟨_, SqL.of (g.hs.bh _ _ s)⟩, q _ H1 F1 B1 g (itl_ok s t)⟩⟩⟩
theorem ei_lstS (h : Ev X env e (.lst ds) .shl) : EI X env tg e ds .c false := ⟨(pi_list h.pe).mono fun σ H R ⟨F, B, E, q⟩ => ⟨F, B, E, fun v H1 F1 B1 g r => by
  obtain ⟨l, vs, e1, s, t⟩ := r
  exact ⟨_, e1, ⟨_, SqL.of s⟩, q _ H1 F1 B1 g (itl_ok s t)⟩⟩⟩
theorem ei_tupC (h : Ev X env e (.tup ds) .cln) : EI X env tg e ds .c true := ⟨(pi_tup h.pe).mono fun σ H R ⟨F, B, E, q⟩ => ⟨F, B, E, fun v H1 F1 B1 g r => by
  cases (show Rep X.K F1 (.tup ds) v from r) with
  | tup s t => exact ⟨_, rfl, ⟨_, Same.seqT g.hs.fh s⟩, q _ H1 F1 B1 g (itt_ok (Same.seqT g.hs.fb s) t)⟩⟩⟩
theorem ei_tupB (h : Ev X env e (.tup ds) .brw) : EI X env tg e ds .b true := ⟨(pi_tup h.pe).mono fun σ H R ⟨F, B, E, q⟩ => ⟨F, B, E, fun v H1 F1 B1 g r => by
  cases (show Rep X.K B1 (.tup ds) v from r) with
  | tup s t => exact ⟨_, rfl, ⟨_, Same.seqT g.hs.bh s⟩, q _ H1 F1 B1 g (itt_ok s t)⟩⟩⟩
def rngD (lo : Int) (n : Nat) : List D := (List.range n).map fun i : Nat => D.int (lo + (i : Int))
theorem rngD_len (lo : Int) (n : Nat) : (rngD lo n).length = n := by unfold rngD; rw [List.length_map, List.length_range]
theorem rngD_at {lo : Int} {n i : Nat} {d : D} (h : (rngD lo n)[i]? = some d) : i < n ∧ d = .int (lo + (i : Int)) := by
  have hi : i < n := by
    have := (List.getElem?_eq_some_iff.mp h).1
    rwa [rngD_len] at this
  refine ⟨hi, ?_⟩
  unfold rngD at h
  rw [List.getElem?_map, List.getElem?_range hi] at h
  exact (Option.some.inj h).symm
theorem itr_ok {K : PySem.W.Frag} {P F B : Hp} {lo : Int} {n : Nat} : ItOk K P F B (Itr lo n) .c (rngD lo n) :=
  ⟨fun i d H s e => (rngD_at e).1, fun i d H x H' s e y => .inl ⟨y.1, by rw [(rngD_at e).2, y.2]; exact .int _⟩, fun H s => by rw [rngD_len]; exact Nat.le_refl _⟩
theorem ei_rng1 (hg : Gl X "range") (hm : X.mg "range" = none) (ha : Ev X env a (.int j) k1) (h1 : -(2 ^ 62) ≤ j) (h2 : j < 2 ^ 62) (hs : starEach [a] X.env = [(false, eval a X.env)]) : EI X env tg (.Call (.Name "range" p) [a] [] pos) (rngD 0 j.toNat) .c true :=
  ⟨(pi_range1 hg hm (pa_cons ha.scal.pe pa_nil hs) hs).mono fun σ H R ⟨F, B, E, q⟩ => ⟨F, B, E, fun v H1 F1 B1 g r => by
    cases (show Rep X.K F1 (.int j) v from r)
    exact ⟨j, rfl, h1, h2, q _ H1 F1 B1 g itr_ok⟩⟩⟩
theorem ei_rng2 (hg : Gl X "range") (hm : X.mg "range" = none) (ha : Ev X env a (.int i) k1) (hb : Ev X env b (.int j) k2) (h1 : -(2 ^ 62) ≤ i) (h2 : i < 2 ^ 62) (h3 : -(2 ^ 62) ≤ j) (h4 : j < 2 ^ 62) (hs : starEach [a, b] X.env = [(false, eval a X.env), (false, eval b X.env)])
    (hs2 : starEach [b] X.env = [(false, eval b X.env)]) : EI X env tg (.Call (.Name "range" p) [a, b] [] pos) (rngD i (j - i).toNat) .c true :=
  ⟨(pi_range2 hg hm (pa_cons ha.scal.pe (pa_cons hb.scal.pe pa_nil hs2) (hs.trans (by rw [hs2]))) hs hs2).mono fun σ H R ⟨F, B, E, q⟩ => ⟨F, B, E, fun v H1 F1 B1 g r => ⟨F1, B1, E.grow g, fun u H2 F2 B2 g2 r2 => by
    cases (show Rep X.K F1 (.int i) v from r)
    cases (show Rep X.K F2 (.int j) u from r2)
    exact ⟨i, j, rfl, ⟨h1, h2, h3, h4⟩, q _ H2 F2 B2 (g.trans g2) itr_ok⟩⟩⟩⟩
end
section
variable {X : Cx} {env : DEnv} {Φ : Outs} {rest body : List Stmt} {tg iter : Expr} {ds : List D} {k : K2} {t : Tg} {pos : Pos}
theorem RepK.mono2 {K : PySem.W.Frag} {F B H F' B' H' : Hp} {d : D} {v : V} (f : Same F F') (b : Same B B') (r : RepK K F B H H k.k d v) : RepK K F' B' H' H' k.k d v := by
  cases k with
  | c => exact Rep.mono f r
  | b => exact Rep.mono b r
theorem repsK.mono2 {K : PySem.W.Frag} {F B H F' B' H' : Hp} {d : List D} {v : List V} (f : Same F F') (b : Same B B') (r : repsK K F B H k.k d v) : repsK K F' B' H' k.k d v := by
  cases k with
  | c => exact Reps.mono f r
  | b => exact Reps.mono b r
theorem EnvS.setOk {K : PySem.W.Frag} {F B G H : Hp} : SetOk K F B (fun env σ => EnvS K F B G H env σ) fun _ => True := fun env σ i s v _ E h => by
  rcases h with ⟨d, e, r⟩ | ⟨d, e, r⟩ <;> subst e
  · exact E.set r fun d p es => nomatch es
  · exact E.set r fun d p es => nomatch es
theorem yl_grow {K : PySem.W.Frag} {F B H H' : Hp} {d : D} {x : V} (s : Hs F B H) (h : (H' = H ∧ RepK K F B H H k.k d x) ∨ ∃ T vs es, H T = none ∧ H' = upd H T (.tup vs) ∧ x = .ref T ∧ d = .tup es ∧ repsK K F B H k.k es vs) :
    ∃ F' B', Grow F B H F' B' H' ∧ RepK K F' B' H' H' k.k d x := by
  rcases h with ⟨e, r⟩ | ⟨T, vs, es, n, e, ex, ed, r⟩
  · subst e
    exact ⟨F, B, .refl s, r⟩
  · subst e ex ed
    have g := grow_cln (o := .tup vs) s n
    refine ⟨_, _, g, ?_⟩
    cases k with
    | c => exact Rep.tup (SqT.of upd_same) (Reps.mono g.f r)
    | b => exact Rep.tup (SqT.of upd_same) (Reps.mono g.b r)
theorem s1_for (hp : PassesOwn (model X.prog X.w) X.A X.env X.xe) (hc : X.calm = true) (hi : EI X env tg iter ds k true) (ht : TgOk X tg t) (hs : ∀ x, foldedSetIterable iter X.env x = pure x)
    (Inv : Nat → DEnv → Prop) (h0 : Inv 0 env) (step : ∀ (i : Nat) d env1, ds[i]? = some d → Inv i env1 → ∃ env2, bnd k t d env1 = some env2 ∧ SS X env2 body { nx := Inv (i + 1), ct := Inv (i + 1), bk := Φ.nx, rt := Φ.rt })
    (done : ∀ env1, Inv ds.length env1 → Φ.nx env1) : S1 X env (.For tg iter body [] pos) Φ := by
  have hb : PSs X body (fun Dd σ H => ∃ env Ψ, SS X env body Ψ ∧ tSS X.K env Ψ Dd σ H) := ⟨fun pins s σ H Dd I ⟨env', Ψ, h1, h2⟩ => h1.ps.run pins s σ H Dd I h2⟩
  refine ⟨(ps_for hp hc hi.pi ht.pg hb hs).mono fun Dd σ H ⟨F, B, G, E, P⟩ => ⟨F, B, E.e, fun J H1 F1 B1 g it => ?_⟩⟩
  have P1 := P.gs (g.gs E.gh)
  have E1 := E.grow g
  let W : Nat → St → Hp → Prop := fun i σ H => ∃ env1 F2 B2, Inv i env1 ∧ GS F1 B1 G F2 B2 ∧ EnvS X.K F2 B2 G H env1 σ
  refine ⟨fun i m σ H => m = ds.length - i ∧ i ≤ ds.length ∧ W i σ H, ⟨_, rfl, Nat.zero_le _, env, F1, B1, h0, .refl, E1⟩, ?_⟩
  rintro i m σ2 H2 ⟨rfl, hle, env1, F2, B2, hI, gs2, E2⟩
  have sP : Same (if true = true then B1 else H1) H2 := gs2.b.trans E2.hs.bh
  by_cases hlt : i < ds.length
  · have hd : ds[i]? = some ds[i] := List.getElem?_eq_getElem hlt
    refine .inr ⟨it.go i _ H2 sP hd, W (i + 1), fun σ' H' w => ⟨ds.length - (i + 1), by omega, rfl, hlt, w⟩, fun x H' y => ?_⟩
    have y1 := it.yl i _ H2 x H' sP hd y
    have y2 : (H' = H2 ∧ RepK X.K F2 B2 H2 H2 k.k ds[i] x) ∨ ∃ T vs es, H2 T = none ∧ H' = upd H2 T (.tup vs) ∧ x = .ref T ∧ ds[i] = .tup es ∧ repsK X.K F2 B2 H2 k.k es vs := by
      rcases y1 with ⟨e, r⟩ | ⟨T, vs, es, n, e, ex, ed, r⟩
      · exact .inl ⟨e, RepK.mono2 gs2.f gs2.b r⟩
      · exact .inr ⟨T, vs, es, n, e, ex, ed, repsK.mono2 gs2.f gs2.b r⟩
    obtain ⟨F3, B3, g3, r3⟩ := yl_grow E2.hs y2
    have E3 := E2.grow g3
    obtain ⟨env2, eb, hS⟩ := step i _ env1 hd hI
    refine bnd_ok g3.hs (EnvS.setOk (G := G) (H := H')) (fun _ _ => trivial) eb r3 E3 fun σ4 E4 => ⟨env2, _, hS, F3, B3, G, E4, ?_⟩
    have gs3 : GS F1 B1 G F3 B3 := gs2.trans (g3.gs E2.gh)
    exact ⟨fun e σ H F' B' q E h => ⟨e, F', B', h, gs3.trans q, E⟩, fun d k v H F' B' q s gh r h => P1.rt d k v H F' B' (gs3.trans q) s gh r h, fun e σ H F' B' q E h => P1.nx e σ H F' B' (gs3.trans q) E h, fun e σ H F' B' q E h => ⟨e, F', B', h, gs3.trans q, E⟩⟩
  · have e : i = ds.length := by omega
    subst e
    exact .inl ⟨it.st H2 sP, P1.nx env1 σ2 H2 F2 B2 gs2 E2 (done env1 hI)⟩
theorem ss_for (hp : PassesOwn (model X.prog X.w) X.A X.env X.xe) (hc : X.calm = true) (hi : EI X env tg iter ds k true) (ht : TgOk X tg t) (hs : ∀ x, foldedSetIterable iter X.env x = pure x)
    (Inv : Nat → DEnv → Prop) (h0 : Inv 0 env) (step : ∀ (i : Nat) d env1, ds[i]? = some d → Inv i env1 → ∃ env2, bnd k t d env1 = some env2 ∧ SS X env2 body { nx := Inv (i + 1), ct := Inv (i + 1), bk := fun e => SS X e rest Φ, rt := Φ.rt })
    (done : ∀ env1, Inv ds.length env1 → SS X env1 rest Φ) : SS X env (.For tg iter body [] pos :: rest) Φ := ss_cons (s1_for hp hc hi ht hs Inv h0 step done)
end
end DL
namespace DL
open PySem PySem.Spec L2
open PyProof.Rows hiding St
section
variable {X : Cx} {env : DEnv} {Φ : Outs} {rest body : List Stmt} {e a b c : Expr} {ds : List D} {d d' x y z : D} {k k1 k2 kz : Kd} {pos : Pos} {i : Nat} {p : Bool}
theorem s1_while (hp : PassesOwn (model X.prog X.w) X.A X.env X.xe) (Inv : Nat → DEnv → Prop) (m0 : Nat) (h0 : Inv m0 env)
    (step : ∀ m env1, Inv m env1 → ∃ b, Et X env1 c b ∧ (b = true → SS X env1 body { nx := fun e => ∃ m', m' < m ∧ Inv m' e, ct := fun e => ∃ m', m' < m ∧ Inv m' e, bk := Φ.nx, rt := Φ.rt }) ∧ (b = false → Φ.nx env1)) : S1 X env (.While c body [] pos) Φ := by
  have hc : PT X c (fun σ H Q => ∃ env b, Et X env c b ∧ tEt X.K env b σ H Q) := ⟨fun pins s σ H Q I ⟨env', b, h1, h2⟩ => h1.pt.run pins s σ H Q I h2⟩
  have hb : PSs X body (fun Dd σ H => ∃ env Ψ, SS X env body Ψ ∧ tSS X.K env Ψ Dd σ H) := ⟨fun pins s σ H Dd I ⟨env', Ψ, h1, h2⟩ => h1.ps.run pins s σ H Dd I h2⟩
  refine ⟨(ps_while hp hc hb).mono fun Dd σ H ⟨F, B, G, E, P⟩ => ?_⟩
  refine ⟨fun m σ H => ∃ env1 F2 B2, Inv m env1 ∧ GS F B G F2 B2 ∧ EnvS X.K F2 B2 G H env1 σ, ⟨m0, env, F, B, h0, .refl, E⟩, ?_⟩
  rintro m σ2 H2 ⟨env1, F2, B2, hI, gs2, E2⟩
  obtain ⟨t, ht, hT, hF⟩ := step m env1 hI
  refine ⟨env1, t, ht, F2, B2, E2.e, fun H' F' B' g => ?_⟩
  have E3 := E2.grow g
  have gs3 := gs2.trans (g.gs E2.gh)
  cases t with
  | true =>
    show if true = true then _ else _
    rw [if_pos rfl]
    refine ⟨fun σ' H' => ∃ m', m' < m ∧ ∃ env1 F2 B2, Inv m' env1 ∧ GS F B G F2 B2 ∧ EnvS X.K F2 B2 G H' env1 σ', fun σ' H' ⟨m', l, w⟩ => ⟨m', l, w⟩, env1, _, hT rfl, F', B', G, E3, ?_⟩
    exact ⟨fun e σ H F' B' q E ⟨m', l, h⟩ => ⟨m', l, e, F', B', h, gs3.trans q, E⟩, fun d k v H F' B' q s gh r h => P.rt d k v H F' B' (gs3.trans q) s gh r h, fun e σ H F' B' q E h => P.nx e σ H F' B' (gs3.trans q) E h, fun e σ H F' B' q E ⟨m', l, h⟩ => ⟨m', l, e, F', B', h, gs3.trans q, E⟩⟩
  | false =>
    show if false = true then _ else _
    rw [if_neg Bool.false_ne_true]
    exact P.nx env1 σ2 H' F' B' gs3 E3 (hF rfl)
theorem ss_while (hp : PassesOwn (model X.prog X.w) X.A X.env X.xe) (Inv : Nat → DEnv → Prop) (m0 : Nat) (h0 : Inv m0 env)
    (step : ∀ m env1, Inv m env1 → ∃ b, Et X env1 c b ∧ (b = true → SS X env1 body { nx := fun e => ∃ m', m' < m ∧ Inv m' e, ct := fun e => ∃ m', m' < m ∧ Inv m' e, bk := fun e => SS X e rest Φ, rt := Φ.rt }) ∧ (b = false → SS X env1 rest Φ)) : SS X env (.While c body [] pos :: rest) Φ :=
  ss_cons (s1_while hp Inv m0 h0 step)
theorem s1_asg {tg : Expr} {t : Tg} {k : K2} (he : Ev X env e d k.k) (ht : TgOk X tg t) (hb : bnd k t d env = some env') (hs : swapsWithSole [tg] e pos.line X.env = pure false) (hw : swappedStores [tg] e X.env = pure none)
    (h1 : (assignEach [tg] X.env).map (·.2) = [assign tg X.env]) (h : Φ.nx env') : S1 X env (.Assign [tg] e pos) Φ :=
  ⟨(ps_asg he.pe ht.pg hs hw h1).mono fun Dd σ H ⟨F, B, G, E, P⟩ => ⟨F, B, E.e, fun v H' F' B' g r => by
    have r' : RepK X.K F' B' H' H' k.k d v := by cases k <;> exact r
    exact bnd_ok g.hs (EnvS.setOk (G := G) (H := H')) (fun _ _ => trivial) hb r' (E.grow g) fun σ' E' => P.nx _ _ _ F' B' (g.gs E.gh) E' h⟩⟩
theorem EnvS.mut {K : PySem.W.Frag} {F B G H : Hp} {σ : St} {q : Addr} {o : HO} (E : EnvS K F B G H env σ) (he : env[i]? = some (some (.own d))) (hq : σ[i]? = some (some (.ref q))) (nt : notTup o = true) (r : OwnRep K F (upd H q o) q d') :
    EnvS K F B G (upd H q o) (env.set i (some (.own d'))) σ := by
  obtain ⟨v, h1, p, e1, n1, n2, r0⟩ := E.at_ i _ he
  rw [hq] at h1; cases h1; cases e1
  have keep : ∀ {Z : Hp}, Z q = none → Same Z H → Same Z (upd H q o) := fun {Z} n s a u e => by
    rw [upd_ne (ne_of_none e n)]; exact s _ _ e
  have nF : F q = none := E.hs.fb.free n1
  refine ⟨⟨E.hs.fb, keep n1 E.hs.bh, fun a xs h => ?_⟩, keep n2 E.gh, by rw [List.length_set]; exact E.len, fun j s e => ?_, fun j m d1 d2 p e1 e2 e3 e4 => ?_⟩
  · have h' : Rd H a (.tup xs) := by
      by_cases z : a = q
      · subst z
        rcases h with h | ⟨u, h⟩
        · rw [upd_same] at h; cases h; cases nt
        · rw [upd_same] at h; cases h; cases nt
      · rcases h with h | ⟨u, h⟩
        · rw [upd_ne z] at h; exact .inl h
        · rw [upd_ne z] at h; exact .inr ⟨u, h⟩
    exact E.hs.tup a xs h'
  · rcases get_set e with ⟨z, y, hl⟩ | ⟨z, y⟩
    · cases y
      rw [z]
      exact ⟨_, hq, q, rfl, n1, n2, r⟩
    · obtain ⟨u, h3, h4⟩ := E.at_ j s y
      refine ⟨u, h3, ?_⟩
      cases s with
      | frz t => exact h4
      | bor t => exact h4
      | own t =>
        obtain ⟨p, e5, n3, n4, r5⟩ := h4
        subst e5
        have ne : p ≠ q := fun w => by subst w; exact z (E.dis j i t d p y he h3 hq)
        refine ⟨p, rfl, n3, n4, ?_⟩
        cases t with
        | lst t => obtain ⟨us, w1, w2⟩ := r5; exact ⟨us, by rw [upd_ne ne]; exact w1, w2⟩
        | dK t => obtain ⟨us, w1, w2⟩ := r5; exact ⟨us, by rw [upd_ne ne]; exact w1, w2⟩
        | dT t => obtain ⟨us, w1, w2⟩ := r5; exact ⟨us, by rw [upd_ne ne]; exact w1, w2⟩
        | obj C t => obtain ⟨dx, us, w1, w2⟩ := r5; exact ⟨dx, us, by rw [upd_ne ne]; exact w1, w2⟩
        | _ => exact r5.elim
  · have w : ∀ {j : Nat} {t : D}, (env.set i (some (.own d')))[j]? = some (some (.own t)) → ∃ t', env[j]? = some (some (.own t')) := fun {j t} e => by
      rcases get_set e with ⟨z, y, hl⟩ | ⟨z, y⟩
      · rw [z]; exact ⟨_, he⟩
      · exact ⟨_, y⟩
    obtain ⟨t1, y1⟩ := w e1
    obtain ⟨t2, y2⟩ := w e2
    exact E.dis j m t1 t2 p y1 y2 e3 e4
theorem EnvS.own {K : PySem.W.Frag} {F B G H : Hp} {σ : St} (E : EnvS K F B G H env σ) (he : env[i]? = some (some (.own (.lst ds)))) : ∃ q vs, σ[i]? = some (some (.ref q)) ∧ H q = some (.lst vs) ∧ Reps K F ds vs := by
  obtain ⟨v, h1, p, e1, n1, n2, vs, h2, h3⟩ := E.at_ i _ he
  subst e1
  exact ⟨p, vs, h1, h2, h3⟩
structure Mx (X : Cx) (o : Expr) (m : Str) (e : List Expr) (apos cpos : Pos) : Prop where
  base : attributeBase o m X.env (eval o X.env) = eval o X.env
  few : ((backTo cpos (starEach e X.env)).all (fun x => !x.1) && (backToKw cpos (keywordEach [] X.env)).all (fun x => x.1.isSome)
      && decide (e.length + ([] : List Keyword).length + (if ([] : List Keyword).isEmpty then 0 else 1) < 30)) = true
  line : (apos.endLine == cpos.line) = true
theorem s1_append (i : Nat) {n : Str} {np apos cpos : Pos} (hN : X.N[i]? = some n) (hv : Vis X.env.scope n) (he : env[i]? = some (some (.own (.lst ds)))) (ha : Ev X env e d k) (hk : heldOf k d = .cln) (hz : ds.length < sizeLine)
    (mx : Mx X (.Name n np) "append" [e] apos cpos) (hs : starEach [e] X.env = [(false, eval e X.env)]) (hsw : swapsWith (.Call (.Attribute (.Name n np) "append" apos) [e] [] cpos) none pos.line X.env = pure false)
    (hd : (n == ("__debug__" : Str)) = false) (hcd : (n == ("__classdict__" : Str)) = false) (h : Φ.nx (env.set i (some (.own (.lst (ds ++ [d])))))) : S1 X env (.Expr (.Call (.Attribute (.Name n np) "append" apos) [e] [] cpos) pos) Φ :=
  ⟨(ps_expr (pe_bm PySem.F.plainAttrs_list PySem.F.slot_list_append PySem.F.type_list_append (fun pins s σ H x xs v us Q I r r2 h => mt_append pins s σ H x xs v us Q I r r2 h) (pe_var hN hv hd hcd) (pa_cons ha.heldOf.pe pa_nil hs) mx.base mx.few mx.line hs rfl) hsw).mono fun Dd σ H ⟨F, B, G, E, P⟩ => by
    obtain ⟨q, vs, h1, h2, h3⟩ := E.own he
    refine ⟨_, h1, .inl ⟨rfl, vs, SqL.of h2⟩, F, B, E.e, fun v H' F' B' g r => ?_⟩
    rw [hk] at r
    have E' := E.grow g
    refine ⟨q, vs, v, rfl, rfl, g.h _ _ h2, by rw [h3.length]; exact hz, ?_⟩
    exact P.nx _ _ _ F' B' (g.gs E.gh) (E'.mut (d' := .lst (ds ++ [d])) he h1 rfl ⟨_, upd_same, Reps.append (h3.mono g.f) (.one r)⟩) h⟩
theorem s1_reverse (i : Nat) {n : Str} {np apos cpos : Pos} (hN : X.N[i]? = some n) (hv : Vis X.env.scope n) (he : env[i]? = some (some (.own (.lst ds))))
    (hb : attributeBase (.Name n np) "reverse" X.env (eval (.Name n np) X.env) = eval (.Name n np) X.env) (hl : (apos.endLine == cpos.line) = true) (hsw : swapsWith (.Call (.Attribute (.Name n np) "reverse" apos) [] [] cpos) none pos.line X.env = pure false)
    (hd : (n == ("__debug__" : Str)) = false) (hcd : (n == ("__classdict__" : Str)) = false) (h : Φ.nx (env.set i (some (.own (.lst ds.reverse))))) : S1 X env (.Expr (.Call (.Attribute (.Name n np) "reverse" apos) [] [] cpos) pos) Φ :=
  ⟨(ps_expr (pe_bm0 PySem.F.plainAttrs_list PySem.F.slot_list_reverse PySem.F.type_list_reverse (fun pins s σ H x xs v us Q I r r2 h => mt_reverse pins s σ H x xs v us Q I r r2 h) (pe_var hN hv hd hcd) hb hl) hsw).mono fun Dd σ H ⟨F, B, G, E, P⟩ => by
    obtain ⟨q, vs, h1, h2, h3⟩ := E.own he
    exact ⟨_, h1, .inl ⟨rfl, vs, SqL.of h2⟩, q, vs, rfl, rfl, h2, P.nx _ _ _ F B .refl (E.mut (d' := .lst ds.reverse) he h1 rfl ⟨_, upd_same, Reps.reverse h3⟩) h⟩⟩
theorem s1_clear (i : Nat) {n : Str} {np apos cpos : Pos} (hN : X.N[i]? = some n) (hv : Vis X.env.scope n) (he : env[i]? = some (some (.own (.lst ds))))
    (hb : attributeBase (.Name n np) "clear" X.env (eval (.Name n np) X.env) = eval (.Name n np) X.env) (hl : (apos.endLine == cpos.line) = true) (hsw : swapsWith (.Call (.Attribute (.Name n np) "clear" apos) [] [] cpos) none pos.line X.env = pure false)
    (hd : (n == ("__debug__" : Str)) = false) (hcd : (n == ("__classdict__" : Str)) = false) (h : Φ.nx (env.set i (some (.own (.lst []))))) : S1 X env (.Expr (.Call (.Attribute (.Name n np) "clear" apos) [] [] cpos) pos) Φ :=
  ⟨(ps_expr (pe_bm0 PySem.F.plainAttrs_list PySem.F.slot_list_clear PySem.F.type_list_clear (fun pins s σ H x xs v us Q I r r2 h => mt_clear pins s σ H x xs v us Q I r r2 h) (pe_var hN hv hd hcd) hb hl) hsw).mono fun Dd σ H ⟨F, B, G, E, P⟩ => by
    obtain ⟨q, vs, h1, h2, h3⟩ := E.own he
    exact ⟨_, h1, .inl ⟨rfl, vs, SqL.of h2⟩, q, vs, rfl, rfl, h2, P.nx _ _ _ F B .refl (E.mut (d' := .lst []) he h1 rfl ⟨_, upd_same, .nil⟩) h⟩⟩
theorem s1_setL (i : Nat) {n : Str} {np ap : Pos} {j : Int} {m : Nat} (hN : X.N[i]? = some n) (hv : Vis X.env.scope n) (he : env[i]? = some (some (.own (.lst ds)))) (ha : Ev X env e d k) (hk : heldOf k d = .cln) (hb : Ev X env b (.int j) k2) (hj : ixN ds.length j = some m)
    (hsub : ∀ v, assign (.Subscript (.Name n np) b ap) X.env v = (do
      let ov ← holding [v] (eval (.Name n np) X.env)
      let iv ← holding [v, ov] (eval b X.env)
      standAt ap
      holding [v, ov, iv] (setItem ov iv v)
      release [v, ov, iv] []))
    (hs : swapsWithSole [.Subscript (.Name n np) b ap] e pos.line X.env = pure false) (hw : swappedStores [.Subscript (.Name n np) b ap] e X.env = pure none)
    (h1 : (assignEach [.Subscript (.Name n np) b ap] X.env).map (·.2) = [assign (.Subscript (.Name n np) b ap) X.env])
    (hd : (n == ("__debug__" : Str)) = false) (hcd : (n == ("__classdict__" : Str)) = false) (h : Φ.nx (env.set i (some (.own (.lst (ds.set m d)))))) : S1 X env (.Assign [.Subscript (.Name n np) b ap] e pos) Φ :=
  ⟨(ps_asg ha.heldOf.pe (pg_sub (pe_var hN hv hd hcd) hb.pe set_list hsub) hs hw h1).mono fun Dd σ H ⟨F, B, G, E, P⟩ => ⟨F, B, E.e, fun v H1 F1 B1 g r => by
    rw [hk] at r
    obtain ⟨q, vs, w1, w2, w3⟩ := E.own he
    refine ⟨_, w1, F1, B1, E.e.grow g, fun u H2 F2 B2 g2 r2 => ?_⟩
    cases (RepK.scalR rfl g2.hs r2)
    refine ⟨q, vs, j, m, rfl, rfl, g2.h _ _ (g.h _ _ w2), by rw [w3.length]; exact hj, ?_⟩
    exact P.nx _ _ _ F2 B2 ((g.trans g2).gs E.gh) (((E.grow g).grow g2).mut (d' := .lst (ds.set m d)) he w1 rfl ⟨_, upd_same, Reps.set (Rep.mono g2.f r) m (w3.mono (g.f.trans g2.f))⟩) h⟩⟩
end
end DL
namespace DL
open PySem PySem.Spec L2
open PyProof.Rows hiding St
abbrev Rel := List D → D → Kd → Prop
def FnSp (K : PySem.W.Frag) (R : Rel) : Sp := fun vs H Q _ => ∃ F B ds d k, Hs F B H ∧ Reps K B ds vs ∧ R ds d k ∧ ∀ v H' F' B', Grow F B H F' B' H' → RepK K F' B' H H' k d v → Q v H'
inductive Fits : Kd → Kd → D → Prop
  | refl {k : Kd} {d : D} : Fits k k d
  | int {k : Kd} {i : Int} : Fits k .cln (.int i)
  | str {k : Kd} {i : Str} : Fits k .cln (.str i)
  | bl {k : Kd} {i : Bool} : Fits k .cln (.bl i)
  | non {k : Kd} : Fits k .cln .non
  | frz {d : D} : Fits .own .cln d
  | imm {k : Kd} {d : D} : d.imm = true → Fits k .cln d
section
variable {K : PySem.W.Frag} {F B H F' B' H' H0 : Hp} {k k' : Kd} {d : D} {v : V}
theorem Fits.ok (ft : Fits k' k d) (g : Grow F B H F' B' H') (r : RepK K F' B' H H' k' d v) : ∃ F2 B2, Grow F B H F2 B2 H' ∧ RepK K F2 B2 H H' k d v := by
  cases ft with
  | refl => exact ⟨F', B', g, r⟩
  | int => exact ⟨F', B', g, RepK.scalR rfl g.hs r⟩
  | str => exact ⟨F', B', g, RepK.scalR rfl g.hs r⟩
  | bl => exact ⟨F', B', g, RepK.scalR rfl g.hs r⟩
  | non => exact ⟨F', B', g, RepK.scalR rfl g.hs r⟩
  | frz =>
    obtain ⟨p, e, n, m, r⟩ := r
    subst e
    exact ⟨_, _, g.frz n, r.frz g.hs.fh⟩
  | imm i => exact ⟨F', B', g, Rep.immF g.hs.tup i (r.rep g.hs)⟩
end
def env0 (n : Nat) (ds : List D) : DEnv := (ds.map fun d => some (slot2 .b d)) ++ List.replicate (n - ds.length) none
theorem env0_ok {K : PySem.W.Frag} {F B H : Hp} {N : List Str} {ds : List D} {vs : List V} (hs : Hs F B H) (r : Reps K B ds vs) (hl : ds.length ≤ N.length) : EnvS K F B H H (env0 N.length ds) (L2.start N vs) := by
  have e := r.length
  have at_ : ∀ (i : Nat) s, (env0 N.length ds)[i]? = some (some s) → ∃ d v, ds[i]? = some d ∧ (L2.start N vs)[i]? = some (some v) ∧ s = slot2 .b d ∧ Rep K B d v := fun i s h => by
    unfold env0 at h
    by_cases hi : i < ds.length
    · rw [List.getElem?_append_left (by simpa using hi), List.getElem?_map, List.getElem?_eq_getElem hi] at h
      obtain ⟨u, h1, h2⟩ := r.get (List.getElem?_eq_getElem hi)
      refine ⟨ds[i], u, List.getElem?_eq_getElem hi, ?_, ?_, h2⟩
      · unfold L2.start
        rw [List.getElem?_append_left (by rw [List.length_map]; omega), List.getElem?_map, h1]; rfl
      · have h' : some (some (slot2 .b ds[i])) = some (some s) := h
        cases h'; rfl
    · rw [List.getElem?_append_right (by simpa using hi), List.getElem?_replicate] at h
      split at h <;> cases h
  refine ⟨hs, .refl _, ?_, fun i s h => ?_, fun i j d d' p h1 _ _ _ => ?_⟩
  · unfold env0 L2.start
    simp only [List.length_append, List.length_map, List.length_replicate, e]
  · obtain ⟨d, v, h1, h2, h3, h4⟩ := at_ i s h
    refine ⟨v, h2, ?_⟩
    rw [h3]
    rcases slot2_rep (K := K) (F := F) (B := B) (H := H) (k := .b) (d := d) (v := v) h4 with ⟨d', e1, r1⟩ | ⟨d', e1, r1⟩ <;> rw [e1] <;> exact r1
  · obtain ⟨d0, v, _, _, h3, _⟩ := at_ i _ h1
    cases d0 <;> cases h3
structure Cf (X : Cx) (P : Program) (w : World) (K : PySem.W.Frag) (mg : Str → Option Value) (base : Heap) (N : List Str) (sc : Scope) (lv : Nat) : Prop where
  prog : X.prog = P
  w : X.w = w
  K : X.K = K
  mg : X.mg = mg
  base : X.base = base
  N : X.N = N
  sc : X.env.scope = sc
  fn : ∀ x, X.fn x = true
  calm : X.calm = true
  room : Room lv X.A
  xe : X.xe = fun _ _ => False
theorem def_ok {P : Program} {w : World} {K : PySem.W.Frag} {mg : Str → Option Value} {base : Heap} {x qual : Str} {params : Arguments} {body : List Stmt} {scope : Scope} {dvs : List V} {kws : List (Str × V)} {f : Addr} {fd : FuncData} {N ps : List Str} {lv : Nat} {R : Rel}
    (Fd : FunD K x qual params body scope dvs kws f fd) (S : FnScope N ps scope) (hl : ∀ ds d k, R ds d k → ds.length = ps.length) (hn : ps.length ≤ N.length)
    (hb : ∀ X : Cx, Cf X P w K mg base N scope lv → ∀ ds d k, R ds d k → SS X (env0 N.length ds) body { rt := fun d' k' => d' = d ∧ Fits k' k d, nx := fun _ => d = .non ∧ k = .cln }) :
    FnOk P w K mg base CX0 (lv + 1) f fd ps (FnSp K R) := by
  refine Fd.ok S (fun vs H Q E ⟨F, B, ds, d, k, hs, r, hR, q⟩ => by rw [r.length]; exact hl _ _ _ hR) fun cdv A outer s H vs Q E hr ⟨F, B, ds, d, k, hs, r, hR, q⟩ => ?_
  have h := hb (cxOf CX0 P w K mg base N qual scope f cdv A outer s H E).nox ⟨rfl, rfl, rfl, rfl, rfl, rfl, rfl, fun _ => rfl, rfl, hr, rfl⟩ ds d k hR
  refine ⟨_, PSs.nox h.ps, F, B, H, env0_ok hs r (by rw [hl _ _ _ hR]; exact hn), ?_⟩
  have gr : ∀ {F' B' H'}, GS F B H F' B' → Hs F' B' H' → Same H H' → Grow F B H F' B' H' := fun g s e => ⟨g.f, g.b, e, s, g.newF, g.newB⟩
  refine ⟨fun e σ H' F' B' g E ⟨e1, e2⟩ => ?_, fun d' k' v H' F' B' g s e r ⟨e1, ft⟩ => ?_, fun _ _ _ _ _ _ _ h => h.elim, fun _ _ _ _ _ _ _ h => h.elim⟩
  · subst e1 e2
    exact q .non H' F' B' (gr g E.hs E.gh) .non
  · subst e1
    obtain ⟨F2, B2, g2, r2⟩ := ft.ok (gr g s e) r
    exact q v H' F2 B2 g2 r2
def uni (B2 B1 : Hp) : Hp := fun p => match B2 p with
  | some o => some o
  | none => B1 p
theorem uni_l (B2 B1 : Hp) : Same B2 (uni B2 B1) := fun p o e => by unfold uni; rw [e]
theorem uni_r {B2 B1 H : Hp} (a : Same B2 H) (b : Same B1 H) : Same B1 (uni B2 B1) := fun p o e => by
  unfold uni
  cases q : B2 p with
  | none => exact e
  | some o' =>
    have h1 := a _ _ q
    rw [b _ _ e] at h1
    exact h1.symm ▸ rfl
theorem uni_h {B2 B1 H : Hp} (a : Same B2 H) (b : Same B1 H) : Same (uni B2 B1) H := fun p o e => by
  unfold uni at e
  cases q : B2 p with
  | none => rw [q] at e; exact b _ _ e
  | some o' => rw [q] at e; cases e; exact a _ _ q
theorem uni_ne {B2 B1 : Hp} {p : Addr} (h : uni B2 B1 p ≠ none) : B2 p ≠ none ∨ B1 p ≠ none := by
  unfold uni at h
  cases q : B2 p with
  | none => rw [q] at h; exact .inr h
  | some o => exact .inl fun z => nomatch z
theorem uni_none {B2 B1 : Hp} {p : Addr} (h2 : B2 p = none) (h1 : B1 p = none) : uni B2 B1 p = none := by
  unfold uni; rw [h2]; exact h1
def retK (ka k : Kd) : Kd := match ka, k with
  | .cln, .brw => .cln
  | .brw, .brw => .brw
  | _, .brw => .drt
  | _, k => k
theorem call_rel {K : PySem.W.Frag} {R : Rel} {F B H : Hp} {ds : List D} {vs : List V} {d : D} {k ka : Kd} {Q : VK} {E : XK} (hs : Hs F B H) (hk : ka = .cln ∨ ka = .brw ∨ ka = .drt) (hkr : k = .own ∨ k = .cln ∨ k = .brw) (r : repsK K F B H ka ds vs) (hR : R ds d k)
    (q : Fin K F B H (retK ka k) d Q) : FnSp K R vs H Q E := by
  rcases hk with h | h | h <;> subst h
  · refine ⟨F, F, ds, d, k, ⟨.refl _, hs.fh, hs.tup⟩, r, hR, fun v H' F' B' g r' => ?_⟩
    have sB : Same B H' := hs.bh.trans g.h
    have g2 : Grow F B H B' (uni B' B) H' := ⟨g.b, uni_r g.hs.bh sB, g.h, ⟨uni_l _ _, uni_h g.hs.bh sB, fun a xs h => Same.rd g.hs.fb (g.hs.tup a xs h)⟩, fun p h1 h2 => g.newB p h1 h2, fun p h1 h2 => by
      rcases uni_ne h2 with z | z
      · exact ne_none_of_same hs.fb (g.newB p h1 z)
      · exact z⟩
    rcases hkr with e | e | e <;> subst e
    · obtain ⟨p, e1, n, m, r0⟩ := r'
      exact q v H' _ _ g2 ⟨p, e1, n, uni_none m (hs.bh.free n), OwnRep.grow g.hs.fb (.refl _) r0⟩
    · exact q v H' _ _ g2 (Rep.mono g.hs.fb r')
    · exact q v H' _ _ g2 r'
  · refine ⟨F, B, ds, d, k, hs, r, hR, fun v H' F' B' g r' => q v H' F' B' g ?_⟩
    rcases hkr with e | e | e <;> subst e <;> exact r'
  · refine ⟨F, H, ds, d, k, ⟨hs.fh, .refl _, hs.tup⟩, r, hR, fun v H' F' B' g r' => ?_⟩
    have sB : Same B H' := hs.bh.trans g.h
    have g2 : Grow F B H F' (uni F' B) H' := ⟨g.f, uni_r g.hs.fh sB, g.h, ⟨uni_l _ _, uni_h g.hs.fh sB, g.hs.tup⟩, fun p h1 h2 => g.newF p h1 h2, fun p h1 h2 => by
      rcases uni_ne h2 with z | z
      · exact ne_none_of_same hs.fb (g.newF p h1 z)
      · exact z⟩
    rcases hkr with e | e | e <;> subst e
    · obtain ⟨p, e1, n, m, r0⟩ := r'
      exact q v H' _ _ g2 ⟨p, e1, n, uni_none (g.hs.fb.free m) (hs.bh.free n), r0⟩
    · exact q v H' _ _ g2 r'
    · exact q v H' _ _ g2 (Rep.mono g.hs.bh r')
section
variable {X : Cx} {env : DEnv} {e : Expr} {es : List Expr} {ds dds : List D} {d : D} {k ka : Kd} {R : Rel} {f : Addr} {fd : FuncData} {ps : List Str} {dvs : List V} {dus : List Value} {lv : Nat} {x : Str} {p pos : Pos}
theorem reps_drop {K : PySem.W.Frag} {F B H : Hp} {vs : List V} (hk : ka = .cln ∨ ka = .brw ∨ ka = .drt) (r : repsK K F B H ka ds vs) (rd : ∀ B : Hp, Reps K B dds dvs) : repsK K F B H ka (ds ++ dds) (vs ++ dvs) := by
  rcases hk with h | h | h <;> subst h <;> exact Reps.append r (rd _)
theorem ev_call (G : FnOk X.prog X.w X.K X.mg X.base CX0 lv f fd ps (FnSp X.K R)) (hr : Room lv X.A) (hg : Gl X x) (hm : X.mg x = some (.ref f)) (hkp : PySem.W.keepIn X.K (.ref f) = true) (hb : Binds X.K fd ps dus) (hd : Vals dvs dus) (rd : ∀ B : Hp, Reps X.K B dds dvs)
    (ha : EA X env (e :: es) ds ka) (hR : R (ds ++ dds) d k) (hk : ka = .cln ∨ ka = .brw ∨ ka = .drt) (hkr : k = .own ∨ k = .cln ∨ k = .brw) (hdb : (x == ("__debug__" : Str)) = false)
    (he : starEach (e :: es) X.env = (false, eval e X.env) :: starEach es X.env) (hpl : (backTo pos (starEach es X.env)).any (·.1) = false) : Ev X env (.Call (.Name x p) (e :: es) [] pos) d (retK ka k) :=
  ⟨(pe_call G hr hg hm hkp hb hd pass0 ha.pa hdb he hpl).mono fun σ H Q ⟨F, B, E, q⟩ => ⟨F, B, E, fun vs H' F' B' g r => call_rel g.hs hk hkr (reps_drop hk r rd) hR fun w H2 F2 B2 g2 r2 => q w H2 F2 B2 (g.trans g2) (RepK.back g.h r2)⟩⟩
theorem ev_call0 (G : FnOk X.prog X.w X.K X.mg X.base CX0 lv f fd ps (FnSp X.K R)) (hr : Room lv X.A) (hg : Gl X x) (hm : X.mg x = some (.ref f)) (hkp : PySem.W.keepIn X.K (.ref f) = true) (hb : Binds X.K fd ps dus) (hd : Vals dvs dus) (rd : ∀ B : Hp, Reps X.K B dds dvs)
    (hR : R dds d k) (hkr : k = .own ∨ k = .cln ∨ k = .brw) (hdb : (x == ("__debug__" : Str)) = false) : Ev X env (.Call (.Name x p) [] [] pos) d (retK .cln k) :=
  ⟨(pe_call0 G hr hg hm hkp hb hd pass0 hdb).mono fun σ H Q ⟨F, B, E, q⟩ => call_rel (ds := dds) (ka := .cln) (E := E0) E.hs (.inl rfl) hkr (by rw [List.nil_append]; exact rd F) hR fun w H2 F2 B2 g2 r2 => q w H2 F2 B2 g2 r2⟩
end
end DL
namespace DL
open PySem PySem.Spec L2
open PyProof.Rows hiding St
def Blk (X : Cx) (scope : Scope) (Y : Cx) : Prop := ∃ s H C cl fp, Y = X.blk s H scope (compEnvC scope cl C X.env) fp
structure Ets (X : Cx) (env : DEnv) (ifs : List Expr) (b : Bool) : Prop where
  pts : PTs X ifs (tEt X.K env b)
theorem _root_.L2.PTs.mono {X : Cx} {e : List Expr} {t t' : TT} (h : PTs X e t) (m : ∀ σ H Q, t' σ H Q → t σ H Q) : PTs X e t' := ⟨fun pins s σ H Q I q => h.run pins s σ H Q I (m σ H Q q)⟩
theorem ets_nil {X : Cx} {env : DEnv} : Ets X env [] true := ⟨pts_nil.mono fun σ H Q ⟨F, B, E, q⟩ => q H F B (.refl E.hs)⟩
theorem ets_one {X : Cx} {env : DEnv} {c : Expr} {b : Bool} (h : Et X env c b) : Ets X env [c] b := ⟨pts_one h.pt⟩
theorem wipe_set {σ : St} {v : V} {i : Nat} : ∀ {vs : List Nat}, i ∈ vs → wipe (σ.set i (some v)) vs = wipe σ vs
  | [], h => nomatch h
  | w :: vs, h => by
    show (wipe (σ.set i (some v)) vs).set w none = (wipe σ vs).set w none
    by_cases z : i ∈ vs
    · rw [wipe_set z]
    · have e : i = w := by
        rcases List.mem_cons.mp h with y | y
        · exact y
        · exact absurd y z
      subst e
      apply List.ext_getElem?
      intro j
      by_cases hj : i = j
      · subst hj
        by_cases hl : i < σ.length
        · rw [List.getElem?_set_self (by rw [wipe_length, List.length_set]; exact hl), List.getElem?_set_self (by rw [wipe_length]; exact hl)]
        · rw [List.getElem?_eq_none (by rw [List.length_set, wipe_length, List.length_set]; omega), List.getElem?_eq_none (by rw [List.length_set, wipe_length]; omega)]
      · rw [List.getElem?_set_ne hj, List.getElem?_set_ne hj]
        by_cases hm : j ∈ vs
        · have w1 : ∀ {τ : St} {l : List Nat}, j ∈ l → (wipe τ l)[j]? = if j < τ.length then some none else none := fun {τ l} h => by
            induction l with
            | nil => cases h
            | cons a l ih =>
              show ((wipe τ l).set a none)[j]? = _
              by_cases e : a = j
              · subst e
                split
                · next q => rw [List.getElem?_set_self (by rw [wipe_length]; exact q)]
                · next q => rw [List.getElem?_eq_none (by rw [List.length_set, wipe_length]; omega)]
              · rw [List.getElem?_set_ne e]
                rcases List.mem_cons.mp h with y | y
                · exact absurd y.symm e
                · exact ih y
          rw [w1 hm, w1 hm, List.length_set]
        · rw [wipe_out hm, wipe_out hm, List.getElem?_set_ne hj]
theorem wipe_wipe {σ : St} {vs : List Nat} : wipe (wipe σ vs) vs = wipe σ vs := by
  apply List.ext_getElem?
  intro j
  by_cases hm : j ∈ vs
  · have w1 : ∀ {τ : St} {l : List Nat}, j ∈ l → (wipe τ l)[j]? = if j < τ.length then some none else none := fun {τ l} h => by
      induction l with
      | nil => cases h
      | cons a l ih =>
        show ((wipe τ l).set a none)[j]? = _
        by_cases e : a = j
        · subst e
          split
          · next q => rw [List.getElem?_set_self (by rw [wipe_length]; exact q)]
          · next q => rw [List.getElem?_eq_none (by rw [List.length_set, wipe_length]; omega)]
        · rw [List.getElem?_set_ne e]
          rcases List.mem_cons.mp h with y | y
          · exact absurd y.symm e
          · exact ih y
    rw [w1 hm, w1 hm, wipe_length]
  · rw [wipe_out hm]
def Clear (env : DEnv) (vs : List Nat) : Prop := ∀ v ∈ vs, ∀ s, env[v]? ≠ some (some s)
theorem EnvE.wipe {K : PySem.W.Frag} {F B H : Hp} {env : DEnv} {σ : St} {vs : List Nat} (E : EnvE K F B H env σ) (c : Clear env vs) : EnvE K F B H env (wipe σ vs) :=
  ⟨E.hs, by rw [wipe_length]; exact E.len, fun i s h => by
    obtain ⟨v, h1, h2⟩ := E.at_ i s h
    refine ⟨v, ?_, h2⟩
    rw [wipe_out fun z => c i z s h]; exact h1⟩
theorem EnvE.setOk {K : PySem.W.Frag} {F B H : Hp} {vs : List Nat} {σ0 : St} : SetOk K F B (fun env σ => EnvE K F B H env σ ∧ L2.wipe σ vs = σ0) fun i => i ∈ vs := fun env σ i s v hi ⟨E, w⟩ h => by
  refine ⟨⟨E.hs, by rw [List.length_set, List.length_set]; exact E.len, fun j t e => ?_⟩, by rw [wipe_set hi]; exact w⟩
  rcases get_set e with ⟨z, y, hl⟩ | ⟨z, y⟩
  · cases y
    rw [z, List.getElem?_set_self (by rw [← E.len]; exact hl)]
    rcases h with ⟨d, e1, r⟩ | ⟨d, e1, r⟩ <;> subst e1 <;> exact ⟨v, rfl, r⟩
  · obtain ⟨u, h1, h2⟩ := E.at_ j t y
    exact ⟨u, by rw [List.getElem?_set_ne (Ne.symm z)]; exact h1, h2⟩
section
variable {X : Cx} {env : DEnv} {elt tg iter : Expr} {ifs : List Expr} {scope : Scope} {own : List (Str × Nat)} {ds : List D} {k : K2} {fx : Bool} {t : Tg} {pos : Pos}
theorem Grow.at {F0 B0 H0 F B H : Hp} {D : Addr} {acc : List V} (g : Grow F0 B0 H0 F B H) (n : H0 D = none) (nB : B D = none) : Grow F0 B0 H0 F B (upd H D (.lst acc)) := by
  have keep : ∀ {Z : Hp}, Z D = none → Same Z H → Same Z (upd H D (.lst acc)) := fun {Z} n s a u e => by
    rw [upd_ne (ne_of_none e n)]; exact s _ _ e
  refine ⟨g.f, g.b, keep n g.h, ⟨g.hs.fb, keep nB g.hs.bh, fun a xs h => ?_⟩, g.newF, g.newB⟩
  have h' : Rd H a (.tup xs) := by
    by_cases z : a = D
    · subst z
      rcases h with h | ⟨u, h⟩
      · rw [upd_same] at h; cases h
      · rw [upd_same] at h; cases h
    · rcases h with h | ⟨u, h⟩
      · rw [upd_ne z] at h; exact .inl h
      · rw [upd_ne z] at h; exact .inr ⟨u, h⟩
  exact g.hs.tup a xs h'
theorem Grow.keepB {F B H F' B' H' : Hp} {D : Addr} (g : Grow F B H F' B' H') (h : H D ≠ none) (n : B D = none) : B' D = none := by
  cases q : B' D with
  | none => rfl
  | some o => exact absurd n (g.newB D h (by rw [q]; exact fun z => nomatch z))
theorem lc_te {tt : TT} {te : TE} {α : Type} (xs : List α) (en : α → D) (vs : List Nat) (pd : α → Bool) (f : α → D) (kz : K2) (hc : Clear env vs) (hix : ∀ j ∈ t.ix, j ∈ vs) (hz : xs.length ≤ sizeLine)
    (htt : ∀ env b σ H Q, (∀ Y, Blk X scope Y → Ets Y env ifs b) → tEt X.K env b σ H Q → tt σ H Q) (hte : ∀ env d k σ H Q, (∀ Y, Blk X scope Y → Ev Y env elt d k) → tEv X.K env d k σ H Q → te σ H Q)
    (item : ∀ x, x ∈ xs → ∃ env2, bnd k t (en x) env = some env2 ∧ (∀ Y, Blk X scope Y → Ets Y env2 ifs (pd x)) ∧ (pd x = true → ∃ ke, heldOf ke (f x) = kz.k ∧ ∀ Y, Blk X scope Y → Ev Y env2 elt (f x) ke)) :
    ∀ σ H Q, tEv X.K env (.lst ((xs.filter pd).map f)) kz.k.mk σ H Q → tLc (tEI X.K env (xs.map en) k fx) (gOf X.K t) tt te vs σ H Q := fun σ H Q ⟨Fs, Bs, Es, q⟩ => by
  refine ⟨Fs, Bs, Es, fun J H0 F0 B0 g0 it D hD => ?_⟩
  have E0 := Es.grow g0
  have nB0 : B0 D = none := g0.hs.bh.free hD
  refine ⟨fun i m H => m = xs.length - i ∧ i ≤ xs.length ∧ ∃ F B acc, Grow F0 B0 H0 F B H ∧ H D = some (.lst acc) ∧ B D = none ∧ repsK X.K F B H kz.k (((xs.take i).filter pd).map f) acc, ⟨_, rfl, Nat.zero_le _, F0, B0, [], (Grow.refl g0.hs).at hD nB0, upd_same, nB0, by cases kz <;> exact .nil⟩, ?_⟩
  rintro i m H1 ⟨rfl, hle, F, B, acc, g, hA, nB, r⟩
  have sP : Same (if fx = true then B0 else H0) H1 := by
    cases fx with
    | true => exact g.b.trans g.hs.bh
    | false => exact g.h
  by_cases hlt : i < xs.length
  · have hx0 : xs[i]? = some xs[i] := List.getElem?_eq_getElem hlt
    have hd : (xs.map en)[i]? = some (en xs[i]) := by rw [List.getElem?_map, hx0]; rfl
    obtain ⟨env2, eb, hT, hE⟩ := item xs[i] (List.getElem_mem hlt)
    have etake : xs.take (i + 1) = xs.take i ++ [xs[i]] := by rw [List.take_succ, hx0]; rfl
    refine .inr ⟨it.go i _ H1 sP hd, fun H' => ∃ F B acc, Grow F0 B0 H0 F B H' ∧ H' D = some (.lst acc) ∧ B D = none ∧ repsK X.K F B H' kz.k (((xs.take (i + 1)).filter pd).map f) acc, fun H' w => ⟨xs.length - (i + 1), by omega, rfl, hlt, w⟩, fun x H' y => ?_⟩
    have y1 := it.yl i _ H1 x H' sP hd y
    have y2 : (H' = H1 ∧ RepK X.K F B H1 H1 k.k (en xs[i]) x) ∨ ∃ T vs es, H1 T = none ∧ H' = upd H1 T (.tup vs) ∧ x = .ref T ∧ en xs[i] = .tup es ∧ repsK X.K F B H1 k.k es vs := by
      rcases y1 with ⟨e, r⟩ | ⟨T, vs, es, n, e, ex, ed, r⟩
      · exact .inl ⟨e, RepK.mono2 g.f g.b r⟩
      · exact .inr ⟨T, vs, es, n, e, ex, ed, repsK.mono2 g.f g.b r⟩
    obtain ⟨F3, B3, g3, r3⟩ := yl_grow g.hs y2
    have g4 := g.trans g3
    have nB3 : B3 D = none := g3.keepB (by rw [hA]; exact fun z => nomatch z) nB
    have E3 : EnvE X.K F3 B3 H' env (L2.wipe σ vs) := (E0.grow g4).wipe hc
    refine bnd_ok (Pv := fun e τ => EnvE X.K F3 B3 H' e τ ∧ L2.wipe τ vs = L2.wipe σ vs) g3.hs EnvE.setOk hix eb r3 ⟨E3, wipe_wipe⟩ fun σ4 ⟨E4, w4⟩ => ⟨w4, ?_⟩
    refine htt env2 (pd xs[i]) _ _ _ hT ⟨F3, B3, E4, fun H5 F5 B5 g5 => ?_⟩
    have hA5 : H5 D = some (.lst acc) := g5.h _ _ (g3.h _ _ hA)
    have nB5 : B5 D = none := g5.keepB (by rw [g3.h _ _ hA]; exact fun z => nomatch z) nB3
    have gr5 : Grow F B H1 F5 B5 H5 := g3.trans g5
    cases hp : pd xs[i] with
    | false =>
      show if false = true then _ else _
      rw [if_neg Bool.false_ne_true]
      refine ⟨F5, B5, acc, g4.trans g5, hA5, nB5, ?_⟩
      rw [etake, List.filter_append, show [xs[i]].filter pd = [] by simp [hp], List.append_nil]
      exact r.grow gr5
    | true =>
      show if true = true then _ else _
      rw [if_pos rfl]
      obtain ⟨ke, hk, hE⟩ := hE hp
      refine hte env2 (f xs[i]) _ _ _ _ (fun Y hY => (hE Y hY).heldOf) ⟨F5, B5, E4.grow g5, fun y6 H6 F6 B6 g6 r6 => ?_⟩
      rw [hk] at r6
      have hA6 : H6 D = some (.lst acc) := g6.h _ _ hA5
      have nB6 : B6 D = none := g6.keepB (by rw [hA5]; exact fun z => nomatch z) nB5
      have rr := r.grow (gr5.trans g6)
      have hlen : acc.length ≤ i := by
        have e := r.len
        rw [e, List.length_map]
        exact Nat.le_trans (List.length_filter_le _ _) (by rw [List.length_take]; omega)
      refine ⟨acc, hA6, by omega, F6, B6, acc ++ [y6], ((g4.trans g5).trans g6).at hD nB6, upd_same, nB6, ?_⟩
      rw [etake, List.filter_append, show [xs[i]].filter pd = [xs[i]] by simp [hp], List.map_append]
      have r7 : repsK X.K F6 B6 (upd H6 D (.lst (acc ++ [y6]))) kz.k (((xs.take i).filter pd).map f) acc := by cases kz <;> exact rr
      have r8 : repsK X.K F6 B6 (upd H6 D (.lst (acc ++ [y6]))) kz.k ([xs[i]].map f) [y6] := by cases kz <;> exact .one r6
      exact repsK.app r7 r8
  · have e : i = xs.length := by omega
    subst e
    refine .inl ⟨by have := it.st H1 sP; rwa [List.length_map] at this, ?_⟩
    rw [List.take_length] at r
    cases kz with
    | c => exact q _ H1 F B (g0.trans g) ⟨D, rfl, g0.h.free hD, nB, acc, hA, r⟩
    | b =>
      refine q _ H1 F (frzAt B H1 D) (g0.trans ⟨g.f, g.b.trans (frz_same g.hs.bh D), g.h, ⟨g.hs.fb.trans (frz_same g.hs.bh D), frz_sub g.hs.bh D, g.hs.tup⟩, g.newF, fun p h1 h2 => ?_⟩) (Rep.lst (frz_at hA) (Reps.mono (frz_same g.hs.bh D) r))
      rcases frz_ne h2 with z | z
      · subst z; exact absurd hD h1
      · exact g.newB p h1 z
def ttA (X : Cx) (scope : Scope) (ifs : List Expr) : TT := fun σ H Q => ∃ env b, (∀ Y, Blk X scope Y → Ets Y env ifs b) ∧ tEt X.K env b σ H Q
def teA (X : Cx) (scope : Scope) (elt : Expr) : TE := fun σ H Q => ∃ env d k, (∀ Y, Blk X scope Y → Ev Y env elt d k) ∧ tEv X.K env d k σ H Q
theorem ev_lc {α : Type} (xs : List α) (en : α → D) (pd : α → Bool) (f : α → D) (kz : K2) (hcalm : X.calm = true) (hN : X.N.Nodup) (hi : EI X env tg iter (xs.map en) k fx) (ok : BlkOk X.N X.env.scope scope own) (hc : Clear env (own.map (·.2))) (ht : ∀ Y, Blk X scope Y → TgOk Y tg t) (hix : ∀ j ∈ t.ix, j ∈ own.map (·.2)) (hz : xs.length ≤ sizeLine)
    (hs : ∀ x, foldedSetIterable iter X.env x = pure x)
    (item : ∀ x, x ∈ xs → ∃ env2, bnd k t (en x) env = some env2 ∧ (∀ Y, Blk X scope Y → Ets Y env2 ifs (pd x)) ∧ (pd x = true → ∃ ke, heldOf ke (f x) = kz.k ∧ ∀ Y, Blk X scope Y → Ev Y env2 elt (f x) ke)) :
    Ev X env (.ListComp elt [⟨tg, iter, ifs, 0⟩] scope pos) (.lst ((xs.filter pd).map f)) kz.k.mk :=
  ⟨(pe_lc (g := gOf X.K t) (tt := ttA X scope ifs) (te := teA X scope elt) hcalm hN hi.pi ok (fun s H C cl fp => (ht _ ⟨s, H, C, cl, fp, rfl⟩).pg)
    (fun s H C cl fp => ⟨fun pins s' σ H' Q I ⟨env, b, h1, h2⟩ => (h1 _ ⟨s, H, C, cl, fp, rfl⟩).pts.run pins s' σ H' Q I h2⟩) (fun s H C cl fp => ⟨fun pins s' σ H' Q I ⟨env, d, k, h1, h2⟩ => (h1 _ ⟨s, H, C, cl, fp, rfl⟩).pe.run pins s' σ H' Q I h2⟩) hs).mono
    (lc_te (tt := ttA X scope ifs) (te := teA X scope elt) xs en _ pd f kz hc hix hz (fun env b σ H Q h1 h2 => ⟨env, b, h1, h2⟩) (fun env d k σ H Q h1 h2 => ⟨env, d, k, h1, h2⟩) item)⟩
theorem s1_setLc {Φ : Outs} {y : Str} {py spos : Pos} {s : Slot} {α : Type} (xs : List α) (en : α → D) (i : Nat) (pd : α → Bool) (f : α → D) (kz : K2) (hcalm : X.calm = true) (hN : X.N.Nodup) (hy : X.N[i]? = some y) (hyl : X.env.scope.names.lookup y = some .local)
    (hsw : swapsWith (.ListComp elt [⟨tg, iter, ifs, 0⟩] scope pos) (some (.Name y py)) spos.line X.env = pure true) (hi : EI X env tg iter (xs.map en) k fx) (ok : BlkOk X.N X.env.scope scope own) (hc : Clear env (own.map (·.2))) (ht : ∀ Y, Blk X scope Y → TgOk Y tg t) (hix : ∀ j ∈ t.ix, j ∈ own.map (·.2)) (hz : xs.length ≤ sizeLine)
    (hs : ∀ x, foldedSetIterable iter X.env x = pure x)
    (item : ∀ x, x ∈ xs → ∃ env2, bnd k t (en x) env = some env2 ∧ (∀ Y, Blk X scope Y → Ets Y env2 ifs (pd x)) ∧ (pd x = true → ∃ ke, heldOf ke (f x) = kz.k ∧ ∀ Y, Blk X scope Y → Ev Y env2 elt (f x) ke))
    (so : SlotOf kz.k.mk (.lst ((xs.filter pd).map f)) s) (h : Φ.nx (env.set i (some s))) : S1 X env (.Assign [.Name y py] (.ListComp elt [⟨tg, iter, ifs, 0⟩] scope pos) spos) Φ :=
  ⟨(ps_setLc (i := i) (g := gOf X.K t) (tt := ttA X scope ifs) (te := teA X scope elt) hcalm hN hy hyl hsw hi.pi ok (fun s H C cl fp => (ht _ ⟨s, H, C, cl, fp, rfl⟩).pg)
    (fun s H C cl fp => ⟨fun pins s' σ H' Q I ⟨env, b, h1, h2⟩ => (h1 _ ⟨s, H, C, cl, fp, rfl⟩).pts.run pins s' σ H' Q I h2⟩) (fun s H C cl fp => ⟨fun pins s' σ H' Q I ⟨env, d, k, h1, h2⟩ => (h1 _ ⟨s, H, C, cl, fp, rfl⟩).pe.run pins s' σ H' Q I h2⟩) hs).mono
    fun Dd σ H ⟨F, B, G, E, P⟩ => by
      have key : ∀ v H' F' B', Grow F B H F' B' H' → RepK X.K F' B' H H' kz.k.mk (.lst ((xs.filter pd).map f)) v → gName i v σ H' Dd.nx := fun v H' F' B' g r => by
        refine P.nx _ _ _ F' B' (g.gs E.gh) ((E.grow g).set (RepK.slot g.hs E.gh so r) fun d' p es ev => ?_) h
        subst es
        cases kz with
        | c =>
          obtain ⟨q, e1, n, _, _⟩ := r
          rw [e1] at ev; cases ev
          exact own_new E n
        | b => cases so
      exact lc_te (tt := ttA X scope ifs) (te := teA X scope elt) xs en (own.map (·.2)) pd f kz hc hix hz (fun env b σ H Q h1 h2 => ⟨env, b, h1, h2⟩) (fun env d k σ H Q h1 h2 => ⟨env, d, k, h1, h2⟩) item σ H (fun v H' => gName i v σ H' Dd.nx) ⟨F, B, E.e, key⟩⟩
end
end DL
namespace DL
open PySem PySem.Spec L2
open PyProof.Rows hiding St
structure Gd where
  P : Program
  w : World
  K : PySem.W.Frag
  mg : Str → Option Value
  base : Heap
def visB (sc : Scope) (n : Str) : Bool := match sc.names.lookup n with
  | some .local => true | some .cell => true | some .free => true | _ => false
def locB (sc : Scope) (n : Str) : Bool := match sc.names.lookup n with
  | some .local => true | some .cell => true | _ => false
def glB (sc : Scope) (n : Str) : Bool := match sc.names.lookup n with
  | some .globalImplicit => true | _ => false
def plainB (n : Str) : Bool := !(n == ("__debug__" : Str)) && (!(n == ("__classdict__" : Str)) && !(n == ("__name__" : Str)))
def scB (N : List Str) (sc : Scope) (vl ll : List Nat) (gl : List Str) : Bool :=
  (vl.all fun i => match N[i]? with | some n => visB sc n && plainB n | none => false) && ((ll.all fun i => match N[i]? with | some n => locB sc n | none => false) && gl.all fun n => glB sc n && plainB n)
structure Sc (N : List Str) (sc : Scope) (vl ll : List Nat) (gl : List Str) : Prop where
  nd : N.Nodup
  ok : scB N sc vl ll gl = true
theorem visB_ok {sc : Scope} {n : Str} (h : visB sc n = true) : Vis sc n := by
  unfold visB at h
  split at h
  · next e => exact .inl e
  · next e => exact .inr (.inl e)
  · next e => exact .inr (.inr e)
  · cases h
theorem locB_ok {sc : Scope} {n : Str} (h : locB sc n = true) : Loc sc n := by
  unfold locB at h
  split at h
  · next e => exact .inl e
  · next e => exact .inr e
  · cases h
theorem glB_ok {sc : Scope} {n : Str} (h : glB sc n = true) : sc.names.lookup n = some .globalImplicit := by
  unfold glB at h
  split at h
  · next e => exact e
  · cases h
theorem plainB_ok {n : Str} (h : plainB n = true) : (n == ("__debug__" : Str)) = false ∧ (n == ("__classdict__" : Str)) = false ∧ n ≠ "__name__" := by
  unfold plainB at h
  simp only [Bool.and_eq_true, Bool.not_eq_true'] at h
  exact ⟨h.1, h.2.1, fun e => by have := h.2.2; rw [e] at this; simp at this⟩
section
variable {N : List Str} {sc : Scope} {vl ll : List Nat} {gl : List Str}
theorem Sc.vis (S : Sc N sc vl ll gl) {i : Nat} (h : vl.contains i = true) {n : Str} (hN : N[i]? = some n) : Vis sc n ∧ plainB n = true := by
  have h1 := S.ok
  unfold scB at h1
  have h2 := List.all_eq_true.mp (Bool.and_eq_true_iff.mp h1).1 i (by simpa using h)
  rw [hN] at h2
  exact ⟨visB_ok (Bool.and_eq_true_iff.mp h2).1, (Bool.and_eq_true_iff.mp h2).2⟩
theorem Sc.loc (S : Sc N sc vl ll gl) {i : Nat} (h : ll.contains i = true) {n : Str} (hN : N[i]? = some n) : Loc sc n := by
  have h1 := S.ok
  unfold scB at h1
  have h2 := List.all_eq_true.mp (Bool.and_eq_true_iff.mp (Bool.and_eq_true_iff.mp h1).2).1 i (by simpa using h)
  rw [hN] at h2
  exact locB_ok h2
theorem Sc.glo (S : Sc N sc vl ll gl) {j : Nat} {n : Str} (hg : gl[j]? = some n) : sc.names.lookup n = some .globalImplicit ∧ plainB n = true := by
  have h1 := S.ok
  unfold scB at h1
  have h2 := List.all_eq_true.mp (Bool.and_eq_true_iff.mp (Bool.and_eq_true_iff.mp h1).2).2 n (List.mem_of_getElem? hg)
  exact ⟨glB_ok (Bool.and_eq_true_iff.mp h2).1, (Bool.and_eq_true_iff.mp h2).2⟩
end
theorem lookup_rel {env : Env} : ∀ {names : List (Str × NameKind)} {x : Str} {k : NameKind}, names.lookup x = some k →
    ∃ k', (names.map fun (n, k) => if (k == NameKind.free && env.scope.kind == .function && env.kindOf n == some .cell) then (n, NameKind.cell) else (n, k)).lookup x = some k' ∧ (k' = k ∨ (k = .free ∧ k' = .cell))
  | [], _, _, h => by simp at h
  | (n, j) :: r, x, k, h => by
    rw [List.map_cons, List.lookup_cons] at *
    cases hx : x == n with
    | true =>
      rw [hx] at h
      cases h
      by_cases c : (j == NameKind.free && env.scope.kind == .function && env.kindOf n == some .cell) = true
      · simp only [c, if_true, List.lookup_cons, hx]
        refine ⟨_, rfl, .inr ⟨?_, rfl⟩⟩
        simp only [Bool.and_eq_true] at c
        exact eq_of_beq c.1.1
      · have c' := Bool.eq_false_iff.mpr c
        simp only [c', Bool.false_eq_true, if_false, List.lookup_cons, hx]
        exact ⟨_, rfl, .inl rfl⟩
    | false =>
      rw [hx] at h
      obtain ⟨k', e, r'⟩ := lookup_rel (env := env) h
      refine ⟨k', ?_, r'⟩
      by_cases c : (j == NameKind.free && env.scope.kind == .function && env.kindOf n == some .cell) = true
      · simp only [c, if_true, List.lookup_cons, hx]; exact e
      · have c' := Bool.eq_false_iff.mpr c
        simp only [c', Bool.false_eq_true, if_false, List.lookup_cons, hx]; exact e
structure ScLe (sc sc' : Scope) : Prop where
  kind : sc'.kind = sc.kind
  lk : ∀ n k, sc.names.lookup n = some k → ∃ k', sc'.names.lookup n = some k' ∧ (k' = k ∨ (k = .free ∧ k' = .cell))
theorem ScLe.refl (sc : Scope) : ScLe sc sc := ⟨rfl, fun _ k h => ⟨k, h, .inl rfl⟩⟩
section
variable {sc sc' : Scope} {n : Str}
theorem ScLe.vis (s : ScLe sc sc') (h : Vis sc n) : Vis sc' n := by
  rcases h with h | h | h <;> obtain ⟨k', e, r | ⟨r1, r2⟩⟩ := s.lk n _ h
  · exact .inl (r ▸ e)
  · cases r1
  · exact .inr (.inl (r ▸ e))
  · cases r1
  · exact .inr (.inr (r ▸ e))
  · exact .inr (.inl (r2 ▸ e))
theorem ScLe.loc (s : ScLe sc sc') (h : Loc sc n) : Loc sc' n := by
  rcases h with h | h <;> obtain ⟨k', e, r | ⟨r1, r2⟩⟩ := s.lk n _ h
  · exact .inl (r ▸ e)
  · cases r1
  · exact .inr (r ▸ e)
  · cases r1
theorem ScLe.glob (s : ScLe sc sc') (h : sc.names.lookup n = some .globalImplicit) : sc'.names.lookup n = some .globalImplicit := by
  obtain ⟨k', e, r | ⟨r1, r2⟩⟩ := s.lk n _ h
  · exact r ▸ e
  · cases r1
theorem ScLe.local (s : ScLe sc sc') (h : sc.names.lookup n = some .local) : sc'.names.lookup n = some .local := by
  obtain ⟨k', e, r | ⟨r1, r2⟩⟩ := s.lk n _ h
  · exact r ▸ e
  · cases r1
theorem ScLe.blk {N : List Str} {scope : Scope} {own : List (Str × Nat)} (s : ScLe sc sc') (b : BlkOk N sc scope own) : BlkOk N sc' scope own :=
  ⟨b.kind, b.uniq, b.ix, fun y hy e => by
    rcases b.free y hy e with h | h <;> obtain ⟨k', e', r | ⟨r1, r2⟩⟩ := s.lk _ _ h
    · exact .inl (r ▸ e')
    · cases r1
    · exact .inr (r ▸ e')
    · exact .inl (r2 ▸ e'), b.own⟩
end
structure At (X : Cx) (Γ : Gd) (N : List Str) (sc : Scope) (lv : Nat) : Prop where
  eP : X.prog = Γ.P
  eW : X.w = Γ.w
  eK : X.K = Γ.K
  eM : X.mg = Γ.mg
  eB : X.base = Γ.base
  eN : X.N = N
  eS : ScLe sc X.env.scope
  fn : ∀ n, sc.names.lookup n = some .cell → X.fn n = true
  calm : X.calm = true
  room : Room lv X.A
  pass : PassesOwn (model X.prog X.w) X.A X.env X.xe
theorem Cf.at_ {X : Cx} {P : Program} {w : World} {K : PySem.W.Frag} {mg : Str → Option Value} {base : Heap} {N : List Str} {sc : Scope} {lv : Nat} (c : Cf X P w K mg base N sc lv) : At X ⟨P, w, K, mg, base⟩ N sc lv :=
  ⟨c.prog, c.w, c.K, c.mg, c.base, c.N, by rw [c.sc]; exact .refl _, fun n _ => c.fn n, c.calm, c.room, by rw [c.xe]; exact PassesOwn.never⟩
section
variable {X Y : Cx} {Γ : Gd} {N : List Str} {sc scope : Scope} {lv : Nat}
theorem Blk.at_ (b : Blk X scope Y) (A : At X Γ N sc lv) : At Y Γ N scope lv := by
  obtain ⟨s, H, C, cl, fp, rfl⟩ := b
  exact ⟨A.eP, A.eW, A.eK, A.eM, A.eB, A.eN, ⟨rfl, fun n k h => lookup_rel h⟩, fun n h => by show (scope.names.lookup n == some .cell) = true; rw [h]; rfl, A.calm, A.room, PassesOwn.never⟩
variable {vl ll : List Nat} {gl : List Str} {env : DEnv} {Φ : Outs} {rest : List Stmt} {e a b : Expr} {es : List Expr} {d : D} {k k1 k2 : Kd} {pos pos' : Pos} {n : Str}
def sd : Slot → D
  | .own d => d | .frz d => d | .bor d => d
def sk : Slot → Kd
  | .own _ => .shl | .frz _ => .cln | .bor _ => .brw
theorem nm (A : At X Γ N sc lv) (S : Sc N sc vl ll gl) (i : Nat) {s : Slot} (hN : N[i]? = some n) (hv : vl.contains i = true) (he : env[i]? = some (some s)) : Ev X env (.Name n pos) (sd s) (sk s) := by
  obtain ⟨h1, h2⟩ := S.vis hv hN
  obtain ⟨p1, p2, _⟩ := plainB_ok h2
  have h1 : Vis X.env.scope n := A.eS.vis h1
  have hN : X.N[i]? = some n := by rw [A.eN]; exact hN
  cases s with
  | own d => exact ev_nameO i hN h1 he p1 p2
  | frz d => exact ev_nameF i hN h1 he p1 p2
  | bor d => exact ev_nameB i hN h1 he p1 p2
theorem glo (A : At X Γ N sc lv) (S : Sc N sc vl ll gl) (j : Nat) (hg : gl[j]? = some n) : Gl X n := by
  exact A.eS.glob (S.glo hg).1
theorem gI (A : At X Γ N sc lv) (S : Sc N sc vl ll gl) (j : Nat) {i : Int} (hg : gl[j]? = some n) (hm : ∃ t, Γ.mg n = some (.int i t)) : Ev X env (.Name n pos) (.int i) .cln := by
  obtain ⟨t, hm⟩ := hm
  exact ev_globI (glo A S j hg) (by rw [A.eM]; exact hm) (plainB_ok (S.glo hg).2).1
theorem gS (A : At X Γ N sc lv) (S : Sc N sc vl ll gl) (j : Nat) {s : Str} (hg : gl[j]? = some n) (hm : ∃ t, Γ.mg n = some (.str s t)) : Ev X env (.Name n pos) (.str s) .cln := by
  obtain ⟨t, hm⟩ := hm
  exact ev_globS (glo A S j hg) (by rw [A.eM]; exact hm) (plainB_ok (S.glo hg).2).1
theorem bn (A : At X Γ N sc lv) (S : Sc N sc vl ll gl) (j : Nat) {u : Value} (hg : gl[j]? = some n) (hm : Γ.mg n = none) (hb : bootBuiltins n = some u) : Bn X n u :=
  ⟨glo A S j hg, by rw [A.eM]; exact hm, hb, (plainB_ok (S.glo hg).2).2.2, (plainB_ok (S.glo hg).2).1⟩
theorem At.fnl (A : At X Γ N sc lv) (h : Loc sc n) : X.fn n = true ∨ X.env.scope.names.lookup n = some .local := by
  rcases h with h | h
  · exact .inr (A.eS.local h)
  · exact .inl (A.fn n h)
theorem set_ (A : At X Γ N sc lv) (S : Sc N sc vl ll gl) (i : Nat) {s : Slot} (hN : N[i]? = some n) (hl : ll.contains i = true) (he : Ev X env e d k) (so : SlotOf k d s) (hs : swapsWith e (some (.Name n pos')) pos.line X.env = pure false)
    (h : SS X (env.set i (some s)) rest Φ) : SS X env (.Assign [.Name n pos'] e pos :: rest) Φ :=
  ss_set i (by rw [A.eN]; exact S.nd) (by rw [A.eN]; exact hN) (A.eS.loc (S.loc hl hN)) he so hs (A.fnl (S.loc hl hN)) h
theorem tg (A : At X Γ N sc lv) (S : Sc N sc vl ll gl) (i : Nat) (hN : N[i]? = some n) (hl : ll.contains i = true) : TgOk X (.Name n pos) (.nm i) :=
  tg_nm i (by rw [A.eN]; exact S.nd) (by rw [A.eN]; exact hN) (A.eS.loc (S.loc hl hN)) (A.fnl (S.loc hl hN))
theorem append_ (A : At X Γ N sc lv) (S : Sc N sc vl ll gl) (i : Nat) {np apos cpos : Pos} {ds : List D} (hN : N[i]? = some n) (hv : vl.contains i = true) (he : env[i]? = some (some (.own (.lst ds)))) (ha : Ev X env e d k) (hk : heldOf k d = .cln) (hz : ds.length < sizeLine)
    (mx : Mx X (.Name n np) "append" [e] apos cpos) (hs : starEach [e] X.env = [(false, eval e X.env)]) (hsw : swapsWith (.Call (.Attribute (.Name n np) "append" apos) [e] [] cpos) none pos.line X.env = pure false)
    (h : SS X (env.set i (some (.own (.lst (ds ++ [d]))))) rest Φ) : SS X env (.Expr (.Call (.Attribute (.Name n np) "append" apos) [e] [] cpos) pos :: rest) Φ := by
  obtain ⟨h1, h2⟩ := S.vis hv hN
  obtain ⟨p1, p2, _⟩ := plainB_ok h2
  exact ss_cons (s1_append i (by rw [A.eN]; exact hN) (A.eS.vis h1) he ha hk hz mx hs hsw p1 p2 h)
theorem retO (A : At X Γ N sc lv) (S : Sc N sc vl ll gl) (i : Nat) (hN : N[i]? = some n) (hv : vl.contains i = true) (he : env[i]? = some (some (.own d))) (h : Φ.rt d .own) : SS X env (.Return (some (.Name n pos')) pos :: rest) Φ := by
  obtain ⟨h1, h2⟩ := S.vis hv hN
  obtain ⟨p1, p2, _⟩ := plainB_ok h2
  exact ss_retO i (by rw [A.eN]; exact hN) (A.eS.vis h1) he h p1 p2
end
inductive AddR : D → D → Kd → Kd → D → Kd → Prop
  | int {i j : Int} {k1 k2 : Kd} : AddR (.int i) (.int j) k1 k2 (.int (i + j)) .cln
  | str {s t : Str} {k1 k2 : Kd} : s.length + t.length ≤ sizeLine → AddR (.str s) (.str t) k1 k2 (.str (s ++ t)) .cln
  | lstM {α : Type} {f : α → D} {xs ys : List α} {k1 k2 : Kd} : xs.length + ys.length ≤ sizeLine → AddR (.lst (xs.map f)) (.lst (ys.map f)) k1 k2 (.lst ((xs ++ ys).map f)) (k1.kid.join k2.kid).mk
  | lst {ds es : List D} {k1 k2 : Kd} : ds.length + es.length ≤ sizeLine → AddR (.lst ds) (.lst es) k1 k2 (.lst (ds ++ es)) (k1.kid.join k2.kid).mk
  | tupM {α : Type} {f : α → D} {xs ys : List α} {k1 k2 : Kd} : xs.length + ys.length ≤ sizeLine → AddR (.tup (xs.map f)) (.tup (ys.map f)) k1 k2 (.tup ((xs ++ ys).map f)) (k1.kid.join k2.kid)
  | tup {ds es : List D} {k1 k2 : Kd} : ds.length + es.length ≤ sizeLine → AddR (.tup ds) (.tup es) k1 k2 (.tup (ds ++ es)) (k1.kid.join k2.kid)
inductive LenR : D → Int → Prop
  | lstM {α : Type} {f : α → D} {xs : List α} : LenR (.lst (xs.map f)) xs.length
  | lst {ds : List D} : LenR (.lst ds) ds.length
  | tupM {α : Type} {f : α → D} {xs : List α} : LenR (.tup (xs.map f)) xs.length
  | tup {ds : List D} : LenR (.tup ds) ds.length
  | scr {ns : List Int} : LenR (.scr ns) ns.length
  | str {s : Str} : s.length ≤ sizeLine → LenR (.str s) s.length
inductive IxD : D → Int → Kd → D → Kd → Prop
  | lst {ds : List D} {i : Int} {d : D} {k : Kd} : atI ds i = some d → IxD (.lst ds) i k d k.kid
  | tup {ds : List D} {i : Int} {d : D} {k : Kd} : atI ds i = some d → IxD (.tup ds) i k d k.kid
  | scr {ns : List Int} {i j : Int} {k : Kd} : atI ns i = some j → IxD (.scr ns) i k (.int j) .cln
  | str {s : Str} {i : Int} {c : Nat} {k : Kd} : s.length ≤ sizeLine → atI s.cps.toList i = some c → IxD (.str s) i k (.str ⟨#[c]⟩) .cln
inductive IntR : D → Int → Prop
  | int {i : Int} : IntR (.int i) i
  | bl {p : Bool} : IntR (.bl p) (if p then 1 else 0)
inductive SeqR : D → Kd → List D → Kd → Prop
  | lst {ds : List D} {k : Kd} : SeqR (.lst ds) k ds k.kid
  | tup {ds : List D} {k : Kd} : SeqR (.tup ds) k ds k.kid
inductive IterR : D → Kd → List D → K2 → Bool → Prop
  | lstC {ds : List D} : IterR (.lst ds) .cln ds .c true
  | lstO {ds : List D} : IterR (.lst ds) .own ds .c true
  | lstB {ds : List D} : IterR (.lst ds) .brw ds .b true
  | lstS {ds : List D} : IterR (.lst ds) .shl ds .c false
  | tupC {ds : List D} : IterR (.tup ds) .cln ds .c true
  | tupB {ds : List D} : IterR (.tup ds) .brw ds .b true
inductive CmpR : CmpOp → D → D → Bool → Prop
  | int {op : CmpOp} {i j : Int} {t : Bool} : CmpI op i j t → CmpR op (.int i) (.int j) t
  | eqS {s t : Str} : CmpR .Eq (.str s) (.str t) (decide (s = t))
  | neS {s t : Str} : CmpR .NotEq (.str s) (.str t) (!decide (s = t))
  | eqB {s t : Bool} : CmpR .Eq (.bl s) (.bl t) (decide (s = t))
  | neB {s t : Bool} : CmpR .NotEq (.bl s) (.bl t) (!decide (s = t))
  | eqD {x y : D} {p : Bool} : x.pyo = true → y.pyo = true → x.shal → y.shal → PyData.eqv x.py y.py = p → CmpR .Eq x y p
  | neD {x y : D} {p : Bool} : x.pyo = true → y.pyo = true → x.shal → y.shal → PyData.eqv x.py y.py = p → CmpR .NotEq x y (!p)
section
variable {X : Cx} {env : DEnv} {tg a b c : Expr} {k k1 k2 k3 kz : Kd} {pos pn : Pos} {x y z d : D} {i j : Int} {ds : List D} {op : CmpOp} {p : Bool} {kk : K2} {fx : Bool}
theorem add_ (ha : Ev X env a x k1) (hb : Ev X env b y k2) (h : AddR x y k1 k2 z kz) : Ev X env (.BinOp a .Add b pos) z kz := by
  cases h with
  | int => exact ev_add ha hb
  | str h => exact ev_addS ha hb h
  | lst h => exact ev_addL ha hb h
  | tup h => exact ev_addT ha hb h
  | lstM h => rw [List.map_append]; exact ev_addL ha hb (by rw [List.length_map, List.length_map]; exact h)
  | tupM h => rw [List.map_append]; exact ev_addT ha hb (by rw [List.length_map, List.length_map]; exact h)
theorem len_ (bn : Bn X "len" (.builtin "len")) (ha : Ev X env a x k1) (h : LenR x i) (he : starEach [a] X.env = [(false, eval a X.env)]) : Ev X env (.Call (.Name "len" pn) [a] [] pos) (.int i) .cln := by
  cases h with
  | lst => exact ev_lenL bn ha he
  | tup => exact ev_lenT bn ha he
  | lstM => have := ev_lenL (pn := pn) (pos := pos) bn ha he; rw [List.length_map] at this; exact this
  | tupM => have := ev_lenT (pn := pn) (pos := pos) bn ha he; rw [List.length_map] at this; exact this
  | scr => exact ev_lenC bn ha he
  | str h => exact ev_lenS bn ha h he
theorem ix_ (ha : Ev X env a x k1) (hb : Ev X env b (.int i) k2) (h : IxD x i k1 d kz) (hs : PlainIx b) : Ev X env (.Subscript a b pos) d kz := by
  cases h with
  | lst h => exact ev_ixL ha hb h hs
  | tup h => exact ev_ixT ha hb h hs
  | scr h => exact ev_ixC ha hb h hs
  | str hz h => exact ev_ixS ha hb hz h hs
theorem int_ (bn : Bn X "int" (.type "int")) (ha : Ev X env a x k1) (h : IntR x i) (he : starEach [a] X.env = [(false, eval a X.env)]) : Ev X env (.Call (.Name "int" pn) [a] [] pos) (.int i) .cln := by
  cases h with
  | int => exact ev_intI bn ha he
  | bl => exact ev_intB bn ha he
theorem list_ (bn : Bn X "list" (.type "list")) (ha : Ev X env a x k1) (h : SeqR x k1 ds k2) (he : starEach [a] X.env = [(false, eval a X.env)]) : Ev X env (.Call (.Name "list" pn) [a] [] pos) (.lst ds) k2.mk := by
  cases h with
  | lst => exact ev_listL bn ha he
  | tup => exact ev_listT bn ha he
theorem tuple_ (bn : Bn X "tuple" (.type "tuple")) (ha : Ev X env a x k1) (h : SeqR x k1 ds k2) (he : starEach [a] X.env = [(false, eval a X.env)]) : Ev X env (.Call (.Name "tuple" pn) [a] [] pos) (.tup ds) k2 := by
  cases h with
  | lst => exact ev_tupL bn ha he
  | tup => exact ev_tupT bn ha he
theorem iter_ (ha : Ev X env a x k1) (h : IterR x k1 ds kk fx) : EI X env tg a ds kk fx := by
  cases h with
  | lstC => exact ei_lstC ha
  | lstO => exact ei_lstC ha.own_cln
  | lstB => exact ei_lstB ha
  | lstS => exact ei_lstS ha
  | tupC => exact ei_tupC ha
  | tupB => exact ei_tupB ha
theorem cmp_ (hu : X.A.units + 64 < cLine) (ha : Ev X env a x k1) (hb : Ev X env b y k2) (h : CmpR op x y p) : Ev X env (.Compare a [op] [b] pos) (.bl p) .cln := by
  cases h with
  | int h => exact ev_cI ha hb h
  | eqS => exact ev_eqS ha hb
  | neS => exact ev_neS ha hb
  | eqB => exact ev_eqB ha hb
  | neB => exact ev_neB ha hb
  | eqD h1 h2 h3 h4 h5 => exact ev_eqD hu ha hb h1 h2 h3 h4 h5
  | neD h1 h2 h3 h4 h5 => exact ev_neD hu ha hb h1 h2 h3 h4 h5
theorem cmpT (hu : X.A.units + 64 < cLine) (ha : Ev X env a x k1) (hb : Ev X env b y k2) (h : CmpR op x y p) : Et X env (.Compare a [op] [b] pos) p := by
  cases h with
  | int h => exact et_cI ha hb h
  | eqS => exact et_eqS ha hb
  | neS => exact et_neS ha hb
  | eqB => exact et_eqB ha hb
  | neB => exact et_neB ha hb
  | eqD h1 h2 h3 h4 h5 => exact et_eqD hu ha hb h1 h2 h3 h4 h5
  | neD h1 h2 h3 h4 h5 => exact et_neD hu ha hb h1 h2 h3 h4 h5
end
theorem atI_map {α : Type} {f : α → D} {xs : List α} {i : Int} {x : α} (h : atI xs i = some x) : atI (xs.map f) i = some (f x) := by
  unfold atI at h ⊢
  rw [List.length_map]
  cases e : ixN xs.length i with
  | none => rw [e] at h; cases h
  | some m =>
    rw [e] at h
    show (xs.map f)[m]? = _
    rw [List.getElem?_map, show xs[m]? = some x from h]; rfl
theorem atI_getD {α : Type} {xs : List α} {i : Int} (d : α) (h0 : 0 ≤ i) (h1 : i < xs.length) : atI xs i = some (xs.getD i.toNat d) := by
  unfold atI ixN
  rw [if_pos h0, if_pos h1]
  have : i.toNat < xs.length := by omega
  show xs[i.toNat]? = _
  rw [List.getD_eq_getElem?_getD, List.getElem?_eq_getElem this]; rfl
end DL
namespace DL
open PySem PySem.Spec L2
open PyProof.Rows hiding St
def line : Nat := 16777216
theorem line_eq : sizeLine = line := by rw [sizeLine_eq]; rfl
def cmulB (i j : Int) : Bool := (decide (-18446744073709551616 < i) && decide (i < 18446744073709551616)) || (decide (-18446744073709551616 < j) && decide (j < 18446744073709551616))
theorem cmulB_ok {i j : Int} (h : cmulB i j = true) : CMul i j := by
  unfold cmulB at h
  simp only [Bool.or_eq_true, Bool.and_eq_true, decide_eq_true_eq] at h
  exact h
def mulG (i j : Int) : Option Int := if cmulB i j then some (i * j) else none
def divG (i j : Int) : Option Int := if decide (0 < j) && decide (j < 1073741824) then some (i / j) else none
def modG (i j : Int) : Option Int := if decide (0 < j) then some (i % j) else none
def powG (i j : Int) : Option Int := if decide (0 ≤ j) && (decide (j ≤ 1000000) && decide (i.natAbs < 18446744073709551616)) then some (i ^ j.toNat) else none
def addSG (s t : Str) : Option Str := if s.length + t.length ≤ line then some (s ++ t) else none
def catG {α : Type} (xs ys : List α) : Option (List α) := if xs.length + ys.length ≤ line then some (xs ++ ys) else none
def appG {α : Type} (xs : List α) (x : α) : Option (List α) := if xs.length < line then some (xs ++ [x]) else none
def rngI (lo : Int) (n : Nat) : List Int := (List.range n).map fun i : Nat => lo + (i : Int)
def rng1G (n : Int) : Option (List Int) := if decide (-4611686018427387904 ≤ n) && decide (n < 4611686018427387904) then some (rngI 0 n.toNat) else none
def rng2G (a b : Int) : Option (List Int) := if decide (-4611686018427387904 ≤ a) && (decide (a < 4611686018427387904) && (decide (-4611686018427387904 ≤ b) && decide (b < 4611686018427387904))) then some (rngI a (b - a).toNat) else none
def idxG {α : Type} (xs : List α) (i : Int) : Option α := atI xs i
def idxSG (s : Str) (i : Int) : Option Str := if s.length ≤ line then (atI s.cps.toList i).map fun c => ⟨#[c]⟩ else none
def lenSG (s : Str) : Option Int := if s.length ≤ line then some s.length else none
def slSG (s : Str) (l u : Option Int) : Option Str := if s.length ≤ line then some (cutS s l u) else none
def cutX {α : Type} (xs : List α) (lo hi : Option Int) : List α := (xs.drop (HT.sIx xs.length 0 lo)).take (HT.sIx xs.length xs.length hi - HT.sIx xs.length 0 lo)
def setG {α : Type} (xs : List α) (i : Int) (x : α) : Option (List α) := match ixN xs.length i with
  | some m => some (xs.set m x)
  | none => none
def lcG {α : Type} (xs : List α) : Option (List α) := if xs.length ≤ line then some xs else none
def maxG : List Int → Option Int
  | [] => none
  | x :: xs => some (xs.foldl (fun a b => if a < b then b else a) x)
def minG : List Int → Option Int
  | [] => none
  | x :: xs => some (xs.foldl (fun a b => if b < a then b else a) x)
def lcM {α β : Type} (p : α → Option Bool) (f : α → Option β) : List α → Option (List β)
  | [] => some []
  | x :: xs => (p x).bind fun b => if b = true then (f x).bind fun y => (lcM p f xs).bind fun ys => some (y :: ys) else lcM p f xs
inductive Ctl (S R : Type) where
  | nx (s : S) | ret (r : R) | brk (s : S)
def loopM {α S R : Type} (step : S → α → Option (Ctl S R)) : S → List α → Option (Ctl S R)
  | s, [] => some (.nx s)
  | s, x :: xs => match step s x with
    | some (.nx s') => loopM step s' xs
    | some (.ret r) => some (.ret r)
    | some (.brk s') => some (.nx s')
    | none => none
def whileM {S R : Type} (c : S → Option Bool) (step : S → Option (Ctl S R)) : Nat → S → Option (Ctl S R)
  | 0, _ => none
  | n + 1, s => (c s).bind fun b => if b = true then (match step s with
    | some (.nx s') => whileM c step n s'
    | some (.ret r) => some (.ret r)
    | some (.brk s') => some (.nx s')
    | none => none) else some (.nx s)
theorem bindO {α β : Type} {o : Option α} {f : α → Option β} {b : β} (h : o.bind f = some b) : ∃ a, o = some a ∧ f a = some b := Option.bind_eq_some_iff.mp h
theorem ifO {α : Type} {p : Bool} {a b : Option α} {x : α} (h : (if p = true then a else b) = some x) : (p = true → a = some x) ∧ (p = false → b = some x) := by
  cases p with
  | true => exact ⟨fun _ => h, fun z => nomatch z⟩
  | false => exact ⟨(fun z => nomatch z), fun _ => h⟩
theorem iteO {α : Type} {c : Prop} [Decidable c] {a x : α} (h : (if c then some a else none) = some x) : c ∧ a = x := by
  by_cases hc : c
  · rw [if_pos hc] at h; exact ⟨hc, Option.some.inj h⟩
  · rw [if_neg hc] at h; cases h
section
variable {X : Cx} {env : DEnv} {tg a b c : Expr} {k k1 k2 k3 : Kd} {pos pn : Pos} {i j v : Int} {s t w : Str} {d d' : D}
theorem Ev.cv (h : Ev X env a d k) (e : d = d') : Ev X env a d' k := e ▸ h
theorem mul_ (ha : Ev X env a (.int i) k1) (hb : Ev X env b (.int j) k2) (h : mulG i j = some v) : Ev X env (.BinOp a .Mult b pos) (.int v) .cln := by
  obtain ⟨h1, e⟩ := iteO h; subst e
  exact ev_mul ha hb (cmulB_ok h1)
theorem div_ (ha : Ev X env a (.int i) k1) (hb : Ev X env b (.int j) k2) (h : divG i j = some v) : Ev X env (.BinOp a .FloorDiv b pos) (.int v) .cln := by
  obtain ⟨h1, e⟩ := iteO h; subst e
  simp only [Bool.and_eq_true, decide_eq_true_eq] at h1
  exact ev_fdiv ha hb h1
theorem mod_ (ha : Ev X env a (.int i) k1) (hb : Ev X env b (.int j) k2) (h : modG i j = some v) : Ev X env (.BinOp a .Mod b pos) (.int v) .cln := by
  obtain ⟨h1, e⟩ := iteO h; subst e
  exact ev_mod ha hb (of_decide_eq_true h1)
theorem pow_ (ha : Ev X env a (.int i) k1) (hb : Ev X env b (.int j) k2) (h : powG i j = some v) : Ev X env (.BinOp a .Pow b pos) (.int v) .cln := by
  obtain ⟨h1, e⟩ := iteO h; subst e
  simp only [Bool.and_eq_true, decide_eq_true_eq] at h1
  exact ev_pow ha hb h1
theorem addS_ (ha : Ev X env a (.str s) k1) (hb : Ev X env b (.str t) k2) (h : addSG s t = some w) : Ev X env (.BinOp a .Add b pos) (.str w) .cln := by
  obtain ⟨h1, e⟩ := iteO h; subst e
  exact ev_addS ha hb (by rw [line_eq]; exact h1)
theorem catL_ {α : Type} {f : α → D} {xs ys zs : List α} (ha : Ev X env a (.lst (xs.map f)) k1) (hb : Ev X env b (.lst (ys.map f)) k2) (h : catG xs ys = some zs) : Ev X env (.BinOp a .Add b pos) (.lst (zs.map f)) (k1.kid.join k2.kid).mk := by
  obtain ⟨h1, e⟩ := iteO h; subst e
  exact add_ ha hb (.lstM (by rw [line_eq]; exact h1))
theorem catT_ {α : Type} {f : α → D} {xs ys zs : List α} (ha : Ev X env a (.tup (xs.map f)) k1) (hb : Ev X env b (.tup (ys.map f)) k2) (h : catG xs ys = some zs) : Ev X env (.BinOp a .Add b pos) (.tup (zs.map f)) (k1.kid.join k2.kid) := by
  obtain ⟨h1, e⟩ := iteO h; subst e
  exact add_ ha hb (.tupM (by rw [line_eq]; exact h1))
theorem ixL_ {α : Type} {f : α → D} {xs : List α} {x : α} (ha : Ev X env a (.lst (xs.map f)) k1) (hb : Ev X env b (.int i) k2) (h : idxG xs i = some x) (hs : PlainIx b) : Ev X env (.Subscript a b pos) (f x) k1.kid := ev_ixL ha hb (atI_map h) hs
theorem ixT_ {α : Type} {f : α → D} {xs : List α} {x : α} (ha : Ev X env a (.tup (xs.map f)) k1) (hb : Ev X env b (.int i) k2) (h : idxG xs i = some x) (hs : PlainIx b) : Ev X env (.Subscript a b pos) (f x) k1.kid := ev_ixT ha hb (atI_map h) hs
theorem ixC_ {ns : List Int} (ha : Ev X env a (.scr ns) k1) (hb : Ev X env b (.int i) k2) (h : idxG ns i = some v) (hs : PlainIx b) : Ev X env (.Subscript a b pos) (.int v) .cln := ev_ixC ha hb h hs
theorem ixS_ (ha : Ev X env a (.str s) k1) (hb : Ev X env b (.int i) k2) (h : idxSG s i = some w) (hs : PlainIx b) : Ev X env (.Subscript a b pos) (.str w) .cln := by
  unfold idxSG at h
  by_cases hz : s.length ≤ line
  · rw [if_pos hz] at h
    obtain ⟨c, e1, e2⟩ := Option.map_eq_some_iff.mp h
    subst e2
    exact ev_ixS ha hb (by rw [line_eq]; exact hz) e1 hs
  · rw [if_neg hz] at h; cases h
theorem lenL_ {α : Type} {f : α → D} {xs : List α} (bn : Bn X "len" (.builtin "len")) (ha : Ev X env a (.lst (xs.map f)) k1) (he : starEach [a] X.env = [(false, eval a X.env)]) : Ev X env (.Call (.Name "len" pn) [a] [] pos) (.int (xs.length : Nat)) .cln := len_ bn ha .lstM he
theorem lenT_ {α : Type} {f : α → D} {xs : List α} (bn : Bn X "len" (.builtin "len")) (ha : Ev X env a (.tup (xs.map f)) k1) (he : starEach [a] X.env = [(false, eval a X.env)]) : Ev X env (.Call (.Name "len" pn) [a] [] pos) (.int (xs.length : Nat)) .cln := len_ bn ha .tupM he
theorem lenC_ {ns : List Int} (bn : Bn X "len" (.builtin "len")) (ha : Ev X env a (.scr ns) k1) (he : starEach [a] X.env = [(false, eval a X.env)]) : Ev X env (.Call (.Name "len" pn) [a] [] pos) (.int (ns.length : Nat)) .cln := len_ bn ha .scr he
theorem lenS_ (bn : Bn X "len" (.builtin "len")) (ha : Ev X env a (.str s) k1) (h : lenSG s = some v) (he : starEach [a] X.env = [(false, eval a X.env)]) : Ev X env (.Call (.Name "len" pn) [a] [] pos) (.int v) .cln := by
  obtain ⟨h1, e⟩ := iteO h; subst e
  exact len_ bn ha (.str (by rw [line_eq]; exact h1)) he
variable {lo hi : Option Expr} {l u : Option Int} {p2 : Pos}
theorem cut_map {α : Type} {f : α → D} {xs : List α} : cutD (xs.map f) l u = (cutX xs l u).map f := by
  unfold cutD cutX
  rw [List.length_map, List.map_take, List.map_drop]
theorem slL_ {α : Type} {f : α → D} {xs : List α} (ha : Ev X env a (.lst (xs.map f)) k1) (hl : Eo X env lo l) (hu : Eo X env hi u) : Ev X env (.Subscript a (.Slice lo hi none p2) pos) (.lst ((cutX xs l u).map f)) k1.kid.mk := by
  rw [← cut_map]; exact ev_slL ha hl hu
theorem slT_ {α : Type} {f : α → D} {xs : List α} (ha : Ev X env a (.tup (xs.map f)) k1) (hl : Eo X env lo l) (hu : Eo X env hi u) : Ev X env (.Subscript a (.Slice lo hi none p2) pos) (.tup ((cutX xs l u).map f)) k1.kid := by
  rw [← cut_map]; exact ev_slT ha hl hu
theorem slS_ (ha : Ev X env a (.str s) k1) (hl : Eo X env lo l) (hu : Eo X env hi u) (h : slSG s l u = some w) : Ev X env (.Subscript a (.Slice lo hi none p2) pos) (.str w) .cln := by
  obtain ⟨h1, e⟩ := iteO h; subst e
  exact ev_slS ha hl hu (by rw [line_eq]; exact h1)
theorem revL_ {α : Type} {f : α → D} {xs : List α} {kk : Nat} {p1 p2 p3 : Pos} (ha : Ev X env a (.lst (xs.map f)) k1) : Ev X env (.Subscript a (.Slice none none (some (.UnaryOp .USub (.Constant (.int 1) kk p1) p2)) p3) pos) (.lst (xs.reverse.map f)) k1.kid.mk := by
  rw [List.map_reverse]; exact ev_revL ha
theorem rng_map (lo : Int) (n : Nat) : rngD lo n = (rngI lo n).map D.int := by unfold rngD rngI; rw [List.map_map]; rfl
theorem rng1_ {ns : List Int} (hg : Gl X "range") (hm : X.mg "range" = none) (ha : Ev X env a (.int j) k1) (h : rng1G j = some ns) (hs : starEach [a] X.env = [(false, eval a X.env)]) : EI X env tg (.Call (.Name "range" pn) [a] [] pos) (ns.map D.int) .c true := by
  obtain ⟨h1, e⟩ := iteO h; subst e
  simp only [Bool.and_eq_true, decide_eq_true_eq] at h1
  rw [← rng_map]
  exact ei_rng1 hg hm ha h1.1 h1.2 hs
theorem rng2_ {ns : List Int} (hg : Gl X "range") (hm : X.mg "range" = none) (ha : Ev X env a (.int i) k1) (hb : Ev X env b (.int j) k2) (h : rng2G i j = some ns) (hs : starEach [a, b] X.env = [(false, eval a X.env), (false, eval b X.env)]) (hs2 : starEach [b] X.env = [(false, eval b X.env)]) :
    EI X env tg (.Call (.Name "range" pn) [a, b] [] pos) (ns.map D.int) .c true := by
  obtain ⟨h1, e⟩ := iteO h; subst e
  simp only [Bool.and_eq_true, decide_eq_true_eq] at h1
  rw [← rng_map]
  exact ei_rng2 hg hm ha hb h1.1 h1.2.1 h1.2.2.1 h1.2.2.2 hs hs2
theorem maxG_go : ∀ (xs : List Int) (x : Int), (xs.foldl (fun a b => if a < b then b else a) x) ∈ x :: xs ∧ ∀ y ∈ x :: xs, y ≤ xs.foldl (fun a b => if a < b then b else a) x := by
  intro xs
  induction xs with
  | nil => intro x; exact ⟨by simp, fun y hy => by have : y = x := by simpa using hy
                                                   rw [this]; exact Int.le_refl _⟩
  | cons z zs ih =>
    intro x
    obtain ⟨h1, h2⟩ := ih (if x < z then z else x)
    have hx := h2 (if x < z then z else x) (by simp)
    have c1 : x ≤ (if x < z then z else x) := by split <;> omega
    have c2 : z ≤ (if x < z then z else x) := by split <;> omega
    refine ⟨?_, fun y hy => ?_⟩
    · show zs.foldl _ (if x < z then z else x) ∈ _
      rcases List.mem_cons.mp h1 with e | e
      · rw [e]; split <;> simp
      · simp [e]
    · show y ≤ zs.foldl _ (if x < z then z else x)
      rcases List.mem_cons.mp hy with e | e
      · rw [e]; exact Int.le_trans c1 hx
      · rcases List.mem_cons.mp e with e | e
        · rw [e]; exact Int.le_trans c2 hx
        · exact h2 y (by simp [e])
theorem maxG_ok {xs : List Int} {m : Int} (h : maxG xs = some m) : m ∈ xs ∧ ∀ y ∈ xs, y ≤ m := by
  cases xs with
  | nil => cases h
  | cons x xs => cases h; exact maxG_go xs x
theorem minG_go : ∀ (xs : List Int) (x : Int), (xs.foldl (fun a b => if b < a then b else a) x) ∈ x :: xs ∧ ∀ y ∈ x :: xs, xs.foldl (fun a b => if b < a then b else a) x ≤ y := by
  intro xs
  induction xs with
  | nil => intro x; exact ⟨by simp, fun y hy => by have : y = x := by simpa using hy
                                                   rw [this]; exact Int.le_refl _⟩
  | cons z zs ih =>
    intro x
    obtain ⟨h1, h2⟩ := ih (if z < x then z else x)
    have hx := h2 (if z < x then z else x) (by simp)
    have c1 : (if z < x then z else x) ≤ x := by split <;> omega
    have c2 : (if z < x then z else x) ≤ z := by split <;> omega
    refine ⟨?_, fun y hy => ?_⟩
    · show zs.foldl _ (if z < x then z else x) ∈ _
      rcases List.mem_cons.mp h1 with e | e
      · rw [e]; split <;> simp
      · simp [e]
    · show zs.foldl _ (if z < x then z else x) ≤ y
      rcases List.mem_cons.mp hy with e | e
      · rw [e]; exact Int.le_trans hx c1
      · rcases List.mem_cons.mp e with e | e
        · rw [e]; exact Int.le_trans hx c2
        · exact h2 y (by simp [e])
theorem minG_ok {xs : List Int} {m : Int} (h : minG xs = some m) : m ∈ xs ∧ ∀ y ∈ xs, m ≤ y := by
  cases xs with
  | nil => cases h
  | cons x xs => cases h; exact minG_go xs x
theorem maxL_ {ns : List Int} (hc : X.calm = true) (bn : Bn X "max" (.builtin "max")) (ha : Ev X env a (.lst (ns.map D.int)) k1) (h : maxG ns = some v) (he : starEach [a] X.env = [(false, eval a X.env)]) : Ev X env (.Call (.Name "max" pn) [a] [] pos) (.int v) .cln := ev_maxL hc bn ha (maxG_ok h).1 (maxG_ok h).2 he
theorem minL_ {ns : List Int} (hc : X.calm = true) (bn : Bn X "min" (.builtin "min")) (ha : Ev X env a (.lst (ns.map D.int)) k1) (h : minG ns = some v) (he : starEach [a] X.env = [(false, eval a X.env)]) : Ev X env (.Call (.Name "min" pn) [a] [] pos) (.int v) .cln := ev_minL hc bn ha (minG_ok h).1 (minG_ok h).2 he
variable {p q r : Bool} {rest : List Expr} {m : Option Bool}
theorem ifT {α : Type} {m m' : Option α} {r : α} {p : Bool} (h : (if p = true then m else m') = some r) (hp : p = true) : m = some r := by rw [if_pos hp] at h; exact h
theorem ifF {α : Type} {m m' : Option α} {r : α} {p : Bool} (h : (if p = true then m else m') = some r) (hp : p = false) : m' = some r := by rw [hp] at h; exact h
theorem ew_andM (h1 : Et X env a p) (h : (if p = true then m else some false) = some r) (h2 : m = some r → Ew X env (.BoolOp .And (b :: rest) pos) r) : Ew X env (.BoolOp .And (a :: b :: rest) pos) r := by
  cases p with
  | true => exact ew_and h1 fun _ => h2 h
  | false => cases h; exact ew_and (q := false) h1 fun z => nomatch z
theorem ew_orM (h1 : Et X env a p) (h : (if p = true then some true else m) = some r) (h2 : m = some r → Ew X env (.BoolOp .Or (b :: rest) pos) r) : Ew X env (.BoolOp .Or (a :: b :: rest) pos) r := by
  cases p with
  | false => exact ew_or h1 fun _ => h2 h
  | true => cases h; exact ew_or (q := true) h1 fun z => nomatch z
theorem ev_andM (h1 : Ev X env a (.bl p) k1) (h : (if p = true then m else some false) = some r) (h2 : m = some r → Ev X env (.BoolOp .And (b :: rest) pos) (.bl r) .cln) : Ev X env (.BoolOp .And (a :: b :: rest) pos) (.bl r) .cln := by
  cases p with
  | true => exact ev_and h1 fun _ => h2 h
  | false => cases h; exact ev_and (q := false) h1 fun z => nomatch z
theorem ev_orM (h1 : Ev X env a (.bl p) k1) (h : (if p = true then some true else m) = some r) (h2 : m = some r → Ev X env (.BoolOp .Or (b :: rest) pos) (.bl r) .cln) : Ev X env (.BoolOp .Or (a :: b :: rest) pos) (.bl r) .cln := by
  cases p with
  | false => exact ev_or h1 fun _ => h2 h
  | true => cases h; exact ev_or (q := true) h1 fun z => nomatch z
theorem ev_ifM {α : Type} {en : α → D} {x : α} {ma mb : Option α} (hc : Et X env c p) (h : (if p = true then ma else mb) = some x) (ha : ma = some x → Ev X env a (en x) k1) (hb : mb = some x → Ev X env b (en x) k1) : Ev X env (.IfExp c a b pos) (en x) k1 := by
  cases p with
  | true => exact ev_if hc (fun _ => ha h) fun z => nomatch z
  | false => exact ev_if hc (fun z => nomatch z) fun _ => hb h
theorem ev_ifP {α : Type} {en : α → D} {x y : α} (hc : Et X env c p) (ha : Ev X env a (en x) k1) (hb : Ev X env b (en y) k1) : Ev X env (.IfExp c a b pos) (en (if p = true then x else y)) k1 := by
  cases p with
  | true => exact ev_if hc (fun _ => ha) fun z => nomatch z
  | false => exact ev_if hc (fun z => nomatch z) fun _ => hb
end
theorem lcM_ok {α β : Type} {p : α → Option Bool} {f : α → Option β} (en : β → D) : ∀ {xs : List α} {ys : List β}, lcM p f xs = some ys →
    ∃ (pd : α → Bool) (g : α → D), ((xs.filter pd).map g) = ys.map en ∧ (∀ x, pd x = (p x).getD false) ∧ (∀ x, g x = match f x with | some y => en y | none => .non) ∧ ∀ x ∈ xs, p x = some (pd x) ∧ (pd x = true → ∃ y, f x = some y ∧ g x = en y) := by
  intro xs
  induction xs with
  | nil => intro ys h; cases h; exact ⟨_, _, rfl, fun _ => rfl, fun _ => rfl, fun x hx => nomatch hx⟩
  | cons x xs ih =>
    intro ys h
    unfold lcM at h
    obtain ⟨b, hb, h⟩ := bindO h
    cases b with
    | true =>
      rw [if_pos rfl] at h
      obtain ⟨y, hy, h⟩ := bindO h
      obtain ⟨zs, hz, h⟩ := bindO h
      cases h
      obtain ⟨pd, g, e, e1, e2, hi⟩ := ih hz
      have px : pd x = true := by rw [e1, hb]; rfl
      have gx : g x = en y := by rw [e2, hy]
      refine ⟨pd, g, ?_, e1, e2, fun z hm => ?_⟩
      · rw [List.filter_cons, if_pos px, List.map_cons, e, gx]; rfl
      · rcases List.mem_cons.mp hm with w | w
        · subst w; exact ⟨by rw [px]; exact hb, fun _ => ⟨y, hy, gx⟩⟩
        · exact hi z w
    | false =>
      rw [if_neg Bool.false_ne_true] at h
      obtain ⟨pd, g, e, e1, e2, hi⟩ := ih h
      have px : pd x = false := by rw [e1, hb]; rfl
      refine ⟨pd, g, ?_, e1, e2, fun z hm => ?_⟩
      · rw [List.filter_cons, px, if_neg Bool.false_ne_true, e]
      · rcases List.mem_cons.mp hm with w | w
        · subst w; exact ⟨by rw [px]; exact hb, fun z => by rw [px] at z; cases z⟩
        · exact hi z w
section
variable {X : Cx} {Γ : Gd} {N : List Str} {sc scope : Scope} {lv : Nat} {vl ll vl2 ll2 : List Nat} {gl gl2 : List Str} {env : DEnv} {Φ : Outs} {rest body : List Stmt} {elt tg iter : Expr} {ifs : List Expr} {own : List (Str × Nat)} {k : K2} {fx : Bool} {t : Tg} {pos : Pos}
theorem Clear_of {env : DEnv} {vs : List Nat} (h : (vs.all fun v => match env[v]? with | some (some _) => false | _ => true) = true) : Clear env vs := fun v hv s e => by
  have := List.all_eq_true.mp h v hv
  rw [e] at this; cases this
structure Ec (X : Cx) (env : DEnv) (e : Expr) (d : D) (k : Kd) : Prop where
  ev : Ev X env e d k
  sto : ∀ {y : Str} {py spos : Pos} {s : Slot} {i : Nat} {rest : List Stmt} {Φ : Outs}, X.N[i]? = some y → X.env.scope.names.lookup y = some .local → swapsWith e (some (.Name y py)) spos.line X.env = pure true → SlotOf k d s → SS X (env.set i (some s)) rest Φ → SS X env (.Assign [.Name y py] e spos :: rest) Φ
theorem Ec.cv {X : Cx} {env : DEnv} {e : Expr} {d d' : D} {k : Kd} (h : Ec X env e d k) (e' : d = d') : Ec X env e d' k := e' ▸ h
theorem ec_lc {α : Type} (xs : List α) (en : α → D) (pd : α → Bool) (f : α → D) (kz : K2) (A : At X Γ N sc lv) (S : Sc N sc vl ll gl) (ok : blkC N sc scope own = true) (hi : EI X env tg iter (xs.map en) k fx) (hz : xs.length ≤ sizeLine) (hc : Clear env (own.map (·.2)))
    (ht : ∀ Y, At Y Γ N scope lv → TgOk Y tg t) (hix : ∀ j ∈ t.ix, j ∈ own.map (·.2)) (hs : ∀ x, foldedSetIterable iter X.env x = pure x)
    (item : ∀ x, x ∈ xs → ∃ env2, bnd k t (en x) env = some env2 ∧ (∀ Y, Blk X scope Y → Ets Y env2 ifs (pd x)) ∧ (pd x = true → ∃ ke, heldOf ke (f x) = kz.k ∧ ∀ Y, Blk X scope Y → Ev Y env2 elt (f x) ke)) :
    Ec X env (.ListComp elt [⟨tg, iter, ifs, 0⟩] scope pos) (.lst ((xs.filter pd).map f)) kz.k.mk := by
  have ok' : BlkOk X.N X.env.scope scope own := by rw [A.eN]; exact A.eS.blk (blkOk_by ok)
  have nd : X.N.Nodup := by rw [A.eN]; exact S.nd
  refine ⟨ev_lc xs en pd f kz A.calm nd hi ok' hc (fun Y hY => ht Y (hY.at_ A)) hix hz hs item, fun hy hl hw so h => ss_cons ?_⟩
  exact s1_setLc xs en _ pd f kz A.calm nd hy hl hw hi ok' hc (fun Y hY => ht Y (hY.at_ A)) hix hz hs item so h
theorem lcP_ {α β : Type} {xs ys : List α} {en : α → D} (en2 : β → D) (own : List (Str × Nat)) (pd : α → Bool) (f : α → β) (kz : K2) (A : At X Γ N sc lv) (S : Sc N sc vl ll gl) (ok : blkC N sc scope own = true) (hi : EI X env tg iter (xs.map en) k fx) (h : lcG xs = some ys) (hc : Clear env (own.map (·.2)))
    (ht : ∀ Y, At Y Γ N scope lv → TgOk Y tg t) (hix : ∀ j ∈ t.ix, j ∈ own.map (·.2)) (hs : ∀ x, foldedSetIterable iter X.env x = pure x)
    (item : ∀ x, x ∈ xs → ∃ env2, bnd k t (en x) env = some env2 ∧ (∀ Y, At Y Γ N scope lv → Ets Y env2 ifs (pd x)) ∧ (pd x = true → ∃ ke, heldOf ke (en2 (f x)) = kz.k ∧ ∀ Y, At Y Γ N scope lv → Ev Y env2 elt (en2 (f x)) ke)) :
    Ec X env (.ListComp elt [⟨tg, iter, ifs, 0⟩] scope pos) (.lst (((ys.filter pd).map f).map en2)) kz.k.mk := by
  obtain ⟨h1, e⟩ := iteO h; subst e
  rw [List.map_map]
  exact ec_lc xs en pd (en2 ∘ f) kz A S ok hi (by rw [line_eq]; exact h1) hc ht hix hs fun x hx => by
    obtain ⟨env2, e1, e2, e3⟩ := item x hx
    exact ⟨env2, e1, fun Y hY => e2 Y (hY.at_ A), fun z => by
      obtain ⟨ke, w1, w2⟩ := e3 z
      exact ⟨ke, w1, fun Y hY => w2 Y (hY.at_ A)⟩⟩
theorem lcM_ {α β : Type} {xs ys : List α} {zs : List β} {en : α → D} (en2 : β → D) (own : List (Str × Nat)) {p : α → Option Bool} {f : α → Option β} (kz : K2) (A : At X Γ N sc lv) (S : Sc N sc vl ll gl) (ok : blkC N sc scope own = true) (hi : EI X env tg iter (xs.map en) k fx) (h : lcG xs = some ys) (hM : lcM p f ys = some zs) (hc : Clear env (own.map (·.2)))
    (ht : ∀ Y, At Y Γ N scope lv → TgOk Y tg t) (hix : ∀ j ∈ t.ix, j ∈ own.map (·.2)) (hs : ∀ x, foldedSetIterable iter X.env x = pure x)
    (item : ∀ x, x ∈ xs → ∃ env2, bnd k t (en x) env = some env2 ∧ (∀ b, p x = some b → ∀ Y, At Y Γ N scope lv → Ets Y env2 ifs b) ∧ ∀ y, p x = some true → f x = some y → ∃ ke, heldOf ke (en2 y) = kz.k ∧ ∀ Y, At Y Γ N scope lv → Ev Y env2 elt (en2 y) ke) :
    Ec X env (.ListComp elt [⟨tg, iter, ifs, 0⟩] scope pos) (.lst (zs.map en2)) kz.k.mk := by
  obtain ⟨h1, e⟩ := iteO h; subst e
  obtain ⟨pd, g, e, _, _, hi2⟩ := lcM_ok en2 hM
  rw [← e]
  exact ec_lc xs en pd g kz A S ok hi (by rw [line_eq]; exact h1) hc ht hix hs fun x hx => by
    obtain ⟨env2, e1, e2, e3⟩ := item x hx
    obtain ⟨p1, p2⟩ := hi2 x hx
    refine ⟨env2, e1, fun Y hY => e2 _ p1 Y (hY.at_ A), fun z => ?_⟩
    obtain ⟨y, y1, y2⟩ := p2 z
    obtain ⟨ke, w1, w2⟩ := e3 y (by rw [← z]; exact p1) y1
    rw [y2]
    exact ⟨ke, w1, fun Y hY => w2 Y (hY.at_ A)⟩
theorem swaps_at {sc' : Scope} {env : Env} {elt : Expr} {gens : List Comprehension} {pos py : Pos} {n : Str} {line : Nat} (hs : ScLe sc sc') (he : env.scope = sc') (hk : (sc.kind == .function) = true) (hl : (py.line == pos.line) = true) (hn : (scope.names.any fun (m, k) => m == n && (k == .local || k == .cell)) = false) (hc : (sc.names.lookup n == some .local) = true) :
    swapsWith (.ListComp elt gens scope pos) (some (.Name n py)) line env = pure true := by
  have hk' : env.scope.kind = .function := by rw [he, hs.kind]; exact eq_of_beq hk
  have hb : env.blockKind = .function := by unfold Env.blockKind; rw [hk']; rfl
  have hy : env.kindOf n = some .local := by unfold Env.kindOf; rw [he]; exact hs.local (eq_of_beq hc)
  have h1 : (env.blockKind == ScopeKind.function) = true := by rw [hb]; rfl
  have h2 : (env.kindOf n == some NameKind.local) = true := by rw [hy]; rfl
  show (pure (env.blockKind == ScopeKind.function && env.kindOf n == some NameKind.local && py.line == pos.line && !(scope.names.any fun (m, k) => m == n && (k == .local || k == .cell))) : Sem Bool) = pure true
  rw [h1, h2, hl, hn]; rfl
theorem swaps_not {sc' : Scope} {env : Env} {elt : Expr} {gens : List Comprehension} {pos py : Pos} {n : Str} {line : Nat} (hs : ScLe sc sc') (he : env.scope = sc') (hc : (sc.names.lookup n == some .cell) = true) :
    swapsWith (.ListComp elt gens scope pos) (some (.Name n py)) line env = pure false := by
  have hy : env.kindOf n = some .cell := by
    unfold Env.kindOf; rw [he]
    obtain ⟨k', e, r | ⟨r1, r2⟩⟩ := hs.lk n _ (eq_of_beq hc)
    · rw [e, r]
    · cases r1
  unfold swapsWith
  show (pure _ : Sem Bool) = pure false
  rw [hy]
  show (pure ((_ && false && _) && _) : Sem Bool) = pure false
  simp
theorem setLc_ {d : D} {kd : Kd} {s : Slot} {n : Str} {py spos : Pos} {gens : List Comprehension} (A : At X Γ N sc lv) (S : Sc N sc vl ll gl) (i : Nat) (hN : N[i]? = some n) (hl : (sc.names.lookup n == some .local) = true) (hk : (sc.kind == .function) = true) (hw : (py.line == pos.line) = true) (hn : (scope.names.any fun (m, k) => m == n && (k == .local || k == .cell)) = false) (he : Ec X env (.ListComp elt gens scope pos) d kd) (so : SlotOf kd d s)
    (h : SS X (env.set i (some s)) rest Φ) : SS X env (.Assign [.Name n py] (.ListComp elt gens scope pos) spos :: rest) Φ :=
  he.sto (by rw [A.eN]; exact hN) (A.eS.local (eq_of_beq hl)) (swaps_at A.eS rfl hk hw hn hl) so h
theorem setLcC_ {d : D} {kd : Kd} {s : Slot} {n : Str} {py spos : Pos} {gens : List Comprehension} (A : At X Γ N sc lv) (S : Sc N sc vl ll gl) (i : Nat) (hN : N[i]? = some n) (hl : (sc.names.lookup n == some .cell) = true) (hs : ll.contains i = true) (he : Ec X env (.ListComp elt gens scope pos) d kd) (so : SlotOf kd d s)
    (h : SS X (env.set i (some s)) rest Φ) : SS X env (.Assign [.Name n py] (.ListComp elt gens scope pos) spos :: rest) Φ :=
  set_ A S i hN hs he.ev so (swaps_not A.eS rfl hl) h
theorem Wk.set' {i : Nat} {x : Option Slot} : ∀ {a b : DEnv} {i : Nat}, Wk a b → Wk (a.set i x) (b.set i x)
  | [], [], _, h => trivial
  | _ :: _, _ :: _, 0, h => ⟨.inr rfl, h.2⟩
  | _ :: _, _ :: _, i + 1, h => ⟨h.1, Wk.set' (i := i) h.2⟩
  | [], _ :: _, _, h => h.elim
  | _ :: _, [], _, h => h.elim
mutual
theorem bnd_wk {k : K2} : ∀ {t : Tg} {d : D} {a b b' : DEnv}, Wk a b → bnd k t d b = some b' → ∃ a', bnd k t d a = some a' ∧ Wk a' b'
  | .nm i, d, a, b, b', w, h => by
    unfold bnd at h
    cases h
    exact ⟨_, by rw [bnd], Wk.set' (i := i) w⟩
  | .tp ts, .tup ds, a, b, b', w, h => by
    unfold bnd at h
    obtain ⟨a', e, w'⟩ := bnds_wk w h
    exact ⟨a', by rw [bnd]; exact e, w'⟩
  | .tp _, .non, _, _, _, _, h => nomatch h
  | .tp _, .bl _, _, _, _, _, h => nomatch h
  | .tp _, .int _, _, _, _, _, h => nomatch h
  | .tp _, .str _, _, _, _, _, h => nomatch h
  | .tp _, .lst _, _, _, _, _, h => nomatch h
  | .tp _, .dK _, _, _, _, _, h => nomatch h
  | .tp _, .dT _, _, _, _, _, h => nomatch h
  | .tp _, .obj _ _, _, _, _, _, h => nomatch h
  | .tp _, .scr _, _, _, _, _, h => nomatch h
  | .tp _, .adr _, _, _, _, _, h => nomatch h
  | .tp _, .tpx _, _, _, _, _, h => nomatch h
  | .tp _, .tpk _, _, _, _, _, h => nomatch h
theorem bnds_wk {k : K2} : ∀ {ts : List Tg} {ds : List D} {a b b' : DEnv}, Wk a b → bnds k ts ds b = some b' → ∃ a', bnds k ts ds a = some a' ∧ Wk a' b'
  | [], [], a, b, b', w, h => by
    unfold bnds at h
    cases h
    exact ⟨a, by rw [bnds], w⟩
  | t :: ts, d :: ds, a, b, b', w, h => by
    unfold bnds at h
    cases q : bnd k t d b with
    | none => rw [q] at h; cases h
    | some b1 =>
      rw [q] at h
      obtain ⟨a1, e1, w1⟩ := bnd_wk w q
      obtain ⟨a', e, w'⟩ := bnds_wk w1 h
      exact ⟨a', by rw [bnds, e1]; exact e, w'⟩
  | [], _ :: _, _, _, _, _, h => nomatch h
  | _ :: _, [], _, _, _, _, h => nomatch h
end
theorem forM_ {α S : Type} {xs : List α} (en : α → D) (E : S → DEnv) {step : S → α → Option S} {s0 s1 : S} (A : At X Γ N sc lv) (hi : EI X env tg iter (xs.map en) k true) (ht : TgOk X tg t) (hs : ∀ x, foldedSetIterable iter X.env x = pure x)
    (hM : xs.foldlM step s0 = some s1) (h0 : Wk env (E s0)) (hb : ∀ s x s', x ∈ xs → step s x = some s' → ∃ env2, bnd k t (en x) (E s) = some env2 ∧ SS X env2 body { nx := fun e => Wk e (E s'), ct := fun e => Wk e (E s'), rt := Φ.rt })
    (h : SS X (E s1) rest Φ) : SS X env (.For tg iter body [] pos :: rest) Φ := by
  have pre : ∀ i, i ≤ xs.length → ∃ s, (xs.take i).foldlM step s0 = some s := fun i hi => by
    rw [← List.take_append_drop i xs, List.foldlM_append] at hM
    obtain ⟨s, e, _⟩ := bindO hM
    exact ⟨s, e⟩
  refine ss_for A.pass A.calm hi ht hs (fun i e => ∃ s, (xs.take i).foldlM step s0 = some s ∧ Wk e (E s)) ⟨s0, rfl, h0⟩ (fun i d e1 hd ⟨s, hS, w⟩ => ?_) fun e1 ⟨s, hS, w⟩ => ?_
  · rw [List.getElem?_map] at hd
    obtain ⟨x, hx, e⟩ := Option.map_eq_some_iff.mp hd
    subst e
    have hlt := (List.getElem?_eq_some_iff.mp hx).1
    obtain ⟨s', hS'⟩ := pre (i + 1) hlt
    have hS2 := hS'
    rw [List.take_succ, hx, List.foldlM_append, hS] at hS2
    have hst : step s x = some s' := by
      have : ([x] : List α).foldlM step s = some s' := hS2
      rw [List.foldlM_cons, ] at this
      obtain ⟨s2, e1, e2⟩ := bindO this
      cases e2
      exact e1
    obtain ⟨env2, eb, hSS⟩ := hb s x s' (List.mem_of_getElem? hx) hst
    obtain ⟨env3, eb3, w3⟩ := bnd_wk w eb
    refine ⟨env3, eb3, ss_wk env2 w3 (hSS.imp (fun e w' => ⟨s', hS', w'⟩) (fun _ _ z => z) (fun _ z => z.elim) fun e w' => ⟨s', hS', w'⟩)⟩
  · rw [List.length_map, List.take_length] at hS
    rw [hM] at hS; cases hS
    exact ss_wk _ w h
end
end DL
namespace DL
open PySem PySem.Spec L2
open PyProof.Rows hiding St
section
variable {X : Cx} {Γ : Gd} {N : List Str} {sc scope : Scope} {lv lc : Nat} {vl ll : List Nat} {gl : List Str} {env : DEnv} {Φ : Outs} {rest body : List Stmt} {e a b c tg iter : Expr} {es : List Expr} {k : K2} {t : Tg} {pos p np apos cpos : Pos} {n : Str} {d : D} {ds dds : List D} {ka kk k1 k2 : Kd} {R : Rel}
theorem forR_ {α S Rt : Type} {xs : List α} (en : α → D) (E : S → DEnv) (RT : Rt → D → Kd → Prop) {step : S → α → Option (Ctl S Rt)} {s0 : S} {o : Ctl S Rt} (A : At X Γ N sc lv) (hi : EI X env tg iter (xs.map en) k true) (ht : TgOk X tg t) (hs : ∀ x, foldedSetIterable iter X.env x = pure x)
    (hM : loopM step s0 xs = some o) (h0 : Wk env (E s0))
    (hb : ∀ s x c, x ∈ xs → step s x = some c → ∃ env2, bnd k t (en x) (E s) = some env2 ∧ SS X env2 body { nx := fun e => ∃ s', c = .nx s' ∧ Wk e (E s'), ct := fun e => ∃ s', c = .nx s' ∧ Wk e (E s'), bk := fun e => ∃ s', c = .brk s' ∧ Wk e (E s'), rt := fun d k => ∃ r, c = .ret r ∧ RT r d k })
    (hR : ∀ r d k, o = .ret r → RT r d k → Φ.rt d k) (h : ∀ s1, o = .nx s1 → SS X (E s1) rest Φ) : SS X env (.For tg iter body [] pos :: rest) Φ := by
  refine ss_for A.pass A.calm hi ht hs (fun i e => ∃ s, loopM step s (xs.drop i) = some o ∧ Wk e (E s)) ⟨s0, hM, h0⟩ (fun i d e1 hd ⟨s, hS, w⟩ => ?_) fun e1 ⟨s, hS, w⟩ => ?_
  · rw [List.getElem?_map] at hd
    obtain ⟨x, hx, e⟩ := Option.map_eq_some_iff.mp hd
    subst e
    have hlt := (List.getElem?_eq_some_iff.mp hx).1
    have hx2 : xs[i] = x := (List.getElem?_eq_some_iff.mp hx).2
    rw [List.drop_eq_getElem_cons hlt, hx2] at hS
    unfold loopM at hS
    cases hst : step s x with
    | none => rw [hst] at hS; cases hS
    | some cc =>
      rw [hst] at hS
      obtain ⟨env2, eb, hSS⟩ := hb s x cc (List.mem_of_getElem? hx) hst
      obtain ⟨env3, eb3, w3⟩ := bnd_wk w eb
      refine ⟨env3, eb3, ss_wk env2 w3 (hSS.imp (fun e ⟨s', e1, w'⟩ => ?_) (fun d k ⟨r, e1, z⟩ => ?_) (fun e ⟨s', e1, w'⟩ => ?_) fun e ⟨s', e1, w'⟩ => ?_)⟩
      · subst e1; exact ⟨s', hS, w'⟩
      · subst e1; cases hS; exact hR r d k rfl z
      · subst e1; cases hS; exact ss_wk _ w' (h s' rfl)
      · subst e1; exact ⟨s', hS, w'⟩
  · rw [List.length_map, List.drop_length] at hS
    cases hS
    exact ss_wk _ w (h s rfl)
theorem EnvE.wk {K : PySem.W.Frag} {F B H : Hp} {env' : DEnv} {σ : St} (E : EnvE K F B H env σ) (w : Wk env env') : EnvE K F B H env' σ :=
  ⟨E.hs, by rw [← w.len]; exact E.len, fun i s h => E.at_ i s (w.get h)⟩
theorem Et.wk {env' : DEnv} {b : Bool} (h : Et X env' c b) (w : Wk env env') : Et X env c b := ⟨h.pt.mono fun σ H Q ⟨F, B, E, q⟩ => ⟨F, B, E.wk w, q⟩⟩
theorem whileR_ {S Rt : Type} (E : S → DEnv) (RT : Rt → D → Kd → Prop) {cM : S → Option Bool} {step : S → Option (Ctl S Rt)} {n : Nat} {s0 : S} {o : Ctl S Rt} (A : At X Γ N sc lv) (hM : whileM cM step n s0 = some o) (h0 : Wk env (E s0))
    (hc : ∀ s b, cM s = some b → Et X (E s) c b)
    (hb : ∀ s c, cM s = some true → step s = some c → SS X (E s) body { nx := fun e => ∃ s', c = .nx s' ∧ Wk e (E s'), ct := fun e => ∃ s', c = .nx s' ∧ Wk e (E s'), bk := fun e => ∃ s', c = .brk s' ∧ Wk e (E s'), rt := fun d k => ∃ r, c = .ret r ∧ RT r d k })
    (hR : ∀ r d k, o = .ret r → RT r d k → Φ.rt d k) (h : ∀ s1, o = .nx s1 → SS X (E s1) rest Φ) : SS X env (.While c body [] pos :: rest) Φ := by
  refine ss_while A.pass (fun m e => ∃ s, whileM cM step m s = some o ∧ Wk e (E s)) n ⟨s0, hM, h0⟩ fun m e1 ⟨s, hS, w⟩ => ?_
  cases m with
  | zero => cases hS
  | succ m =>
    unfold whileM at hS
    obtain ⟨b, hb1, hS⟩ := bindO hS
    refine ⟨b, (hc s b hb1).wk w, fun z => ?_, fun z => ?_⟩
    · subst z
      rw [if_pos rfl] at hS
      cases hst : step s with
      | none => rw [hst] at hS; cases hS
      | some cc =>
        rw [hst] at hS
        refine ss_wk _ w ((hb s cc hb1 hst).imp (fun e ⟨s', e1, w'⟩ => ?_) (fun d k ⟨r, e1, z⟩ => ?_) (fun e ⟨s', e1, w'⟩ => ?_) fun e ⟨s', e1, w'⟩ => ?_)
        · subst e1; exact ⟨m, Nat.lt_succ_self _, s', hS, w'⟩
        · subst e1; cases hS; exact hR r d k rfl z
        · subst e1; cases hS; exact ss_wk _ w' (h s' rfl)
        · subst e1; exact ⟨m, Nat.lt_succ_self _, s', hS, w'⟩
    · subst z
      rw [if_neg Bool.false_ne_true] at hS
      cases hS
      exact ss_wk _ w (h s rfl)
structure Cal (Γ : Gd) (n : Str) (R : Rel) (lc : Nat) (dds : List D) : Prop where
  ex : ∃ f fd ps dvs dus, FnOk Γ.P Γ.w Γ.K Γ.mg Γ.base CX0 lc f fd ps (FnSp Γ.K R) ∧ Γ.mg n = some (.ref f) ∧ PySem.W.keepIn Γ.K (.ref f) = true ∧ Binds Γ.K fd ps dus ∧ Vals dvs dus ∧ ∀ B : Hp, Reps Γ.K B dds dvs
theorem Cal.ev (C : Cal Γ n R lc dds) (A : At X Γ N sc lv) (S : Sc N sc vl ll gl) (j : Nat) (hg : gl[j]? = some n) (hl : lc ≤ lv) (ha : EA X env (e :: es) ds ka) (hk : ka = .cln ∨ ka = .brw ∨ ka = .drt) (hkr : kk = .own ∨ kk = .cln ∨ kk = .brw)
    (he : starEach (e :: es) X.env = (false, eval e X.env) :: starEach es X.env) (hpl : (backTo pos (starEach es X.env)).any (·.1) = false) (hR : R (ds ++ dds) d kk) : Ev X env (.Call (.Name n p) (e :: es) [] pos) d (retK ka kk) := by
  obtain ⟨f, fd, ps, dvs, dus, h1, h2, h3, h4, h5, h6⟩ := C.ex
  have eP := A.eP; have eW := A.eW; have eK := A.eK; have eM := A.eM; have eB := A.eB
  rw [← eP, ← eW, ← eK, ← eM, ← eB] at h1
  rw [← eM] at h2
  rw [← eK] at h3 h4 h6
  exact ev_call h1 (A.room.mono hl) (glo A S j hg) h2 h3 h4 h5 h6 ha hR hk hkr (plainB_ok (S.glo hg).2).1 he hpl
theorem Cal.mk' {P : Program} {w : World} {K : PySem.W.Frag} {mg : Str → Option Value} {base : Heap} {x qual : Str} {params : Arguments} {body : List Stmt} {scope : Scope} {dvs : List V} {dus : List Value} {kdv : List V} {kws : List (Str × V)} {f : Addr} {fd : FuncData} {N ps : List Str} {lv : Nat} {R : Rel} {dds : List D}
    (Fd : FunD K x qual params body scope kdv kws f fd) (hm : mg n = some (.ref f)) (bd : Binds K fd ps dus) (hv : Vals dvs dus) (hd : ∀ B : Hp, Reps K B dds dvs) (S : FnScope N ps scope) (hl : ∀ ds d k, R ds d k → ds.length = ps.length) (hn : ps.length ≤ N.length)
    (hb : ∀ X : Cx, At X ⟨P, w, K, mg, base⟩ N scope lv → ∀ ds d k, R ds d k → SS X (env0 N.length ds) body { rt := fun d' k' => d' = d ∧ Fits k' k d, nx := fun _ => d = .non ∧ k = .cln }) : Cal ⟨P, w, K, mg, base⟩ n R (lv + 1) dds :=
  ⟨f, fd, ps, dvs, dus, def_ok Fd S hl hn fun X c => hb X c.at_, hm, Fd.kp, bd, hv, hd⟩
theorem app_ {α : Type} {en : α → D} {xs ys : List α} {x : α} (A : At X Γ N sc lv) (S : Sc N sc vl ll gl) (i : Nat) (hN : N[i]? = some n) (hv : vl.contains i = true) (he : env[i]? = some (some (.own (.lst (xs.map en))))) (ha : Ev X env e (en x) k1) (hk : heldOf k1 (en x) = .cln) (hG : appG xs x = some ys)
    (mx : Mx X (.Name n np) "append" [e] apos cpos) (hs : starEach [e] X.env = [(false, eval e X.env)]) (hsw : swapsWith (.Call (.Attribute (.Name n np) "append" apos) [e] [] cpos) none pos.line X.env = pure false)
    (h : SS X (env.set i (some (.own (.lst (ys.map en))))) rest Φ) : SS X env (.Expr (.Call (.Attribute (.Name n np) "append" apos) [e] [] cpos) pos :: rest) Φ := by
  obtain ⟨h1, e⟩ := iteO hG; subst e
  rw [List.map_append] at h
  exact append_ A S i hN hv he ha hk (by rw [List.length_map, line_eq]; exact h1) mx hs hsw h
theorem setL_ {α : Type} {en : α → D} {xs ys : List α} {x : α} {ap : Pos} {j : Int} (A : At X Γ N sc lv) (S : Sc N sc vl ll gl) (i : Nat) (hN : N[i]? = some n) (hv : vl.contains i = true) (he : env[i]? = some (some (.own (.lst (xs.map en))))) (ha : Ev X env e (en x) k1) (hk : heldOf k1 (en x) = .cln) (hb : Ev X env b (.int j) k2) (hG : setG xs j x = some ys)
    (hsub : ∀ v, assign (.Subscript (.Name n np) b ap) X.env v = (do
      let ov ← holding [v] (eval (.Name n np) X.env)
      let iv ← holding [v, ov] (eval b X.env)
      standAt ap
      holding [v, ov, iv] (setItem ov iv v)
      release [v, ov, iv] []))
    (hs : swapsWithSole [.Subscript (.Name n np) b ap] e pos.line X.env = pure false) (hw : swappedStores [.Subscript (.Name n np) b ap] e X.env = pure none)
    (h1 : (assignEach [.Subscript (.Name n np) b ap] X.env).map (·.2) = [assign (.Subscript (.Name n np) b ap) X.env])
    (h : SS X (env.set i (some (.own (.lst (ys.map en))))) rest Φ) : SS X env (.Assign [.Subscript (.Name n np) b ap] e pos :: rest) Φ := by
  obtain ⟨v1, v2⟩ := S.vis hv hN
  obtain ⟨p1, p2, _⟩ := plainB_ok v2
  unfold setG at hG
  cases q : ixN xs.length j with
  | none => rw [q] at hG; cases hG
  | some m =>
    rw [q] at hG
    cases hG
    rw [List.map_set] at h
    exact ss_cons (s1_setL i (by rw [A.eN]; exact hN) (A.eS.vis v1) he ha hk hb (by rw [List.length_map]; exact q) hsub hs hw h1 p1 p2 h)
theorem rev_ {α : Type} {en : α → D} {xs : List α} (A : At X Γ N sc lv) (S : Sc N sc vl ll gl) (i : Nat) (hN : N[i]? = some n) (hv : vl.contains i = true) (he : env[i]? = some (some (.own (.lst (xs.map en)))))
    (hb : attributeBase (.Name n np) "reverse" X.env (eval (.Name n np) X.env) = eval (.Name n np) X.env) (hl : (apos.endLine == cpos.line) = true) (hsw : swapsWith (.Call (.Attribute (.Name n np) "reverse" apos) [] [] cpos) none pos.line X.env = pure false)
    (h : SS X (env.set i (some (.own (.lst (xs.reverse.map en))))) rest Φ) : SS X env (.Expr (.Call (.Attribute (.Name n np) "reverse" apos) [] [] cpos) pos :: rest) Φ := by
  obtain ⟨v1, v2⟩ := S.vis hv hN
  obtain ⟨p1, p2, _⟩ := plainB_ok v2
  rw [List.map_reverse] at h
  exact ss_cons (s1_reverse i (by rw [A.eN]; exact hN) (A.eS.vis v1) he hb hl hsw p1 p2 h)
theorem asg_ {env' : DEnv} {kz : K2} (he : Ev X env e d kz.k) (ht : TgOk X tg t) (hb : bnd kz t d env = some env') (hs : swapsWithSole [tg] e pos.line X.env = pure false) (hw : swappedStores [tg] e X.env = pure none)
    (h1 : (assignEach [tg] X.env).map (·.2) = [assign tg X.env]) (h : SS X env' rest Φ) : SS X env (.Assign [tg] e pos :: rest) Φ := ss_cons (s1_asg he ht hb hs hw h1 h)
end
section
variable {X : Cx} {Γ : Gd} {N : List Str} {sc : Scope} {lv : Nat} {vl ll : List Nat} {gl : List Str} {env : DEnv} {n : Str} {d : D} {pos : Pos}
theorem nmO (A : At X Γ N sc lv) (S : Sc N sc vl ll gl) (i : Nat) (hN : N[i]? = some n) (hv : vl.contains i = true) (he : env[i]? = some (some (.own d))) : Ev X env (.Name n pos) d .shl := nm A S i hN hv he
theorem nmF (A : At X Γ N sc lv) (S : Sc N sc vl ll gl) (i : Nat) (hN : N[i]? = some n) (hv : vl.contains i = true) (he : env[i]? = some (some (.frz d))) : Ev X env (.Name n pos) d .cln := nm A S i hN hv he
theorem nmB (A : At X Γ N sc lv) (S : Sc N sc vl ll gl) (i : Nat) (hN : N[i]? = some n) (hv : vl.contains i = true) (he : env[i]? = some (some (.bor d))) : Ev X env (.Name n pos) d .brw := nm A S i hN hv he
end
end DL
namespace DL
open PySem PySem.Spec L2
open PyProof.Rows hiding St
inductive Nd where
  | s (x : Stmt) | e (x : Expr)
def compKids (c : Comprehension) : List Nd := Nd.e c.target :: Nd.e c.iter :: c.ifs.map Nd.e
def optKid : Option Expr → List Nd
  | some e => [.e e] | none => []
def Nd.kids : Nd → List Nd
  | .s (.FunctionDef _ _ b _ _ _ _ _ _ _) => b.map .s
  | .s (.ClassDef _ _ _ b _ _ _ _ _ _ _) => b.map .s
  | .s (.Return v _) => optKid v
  | .s (.Assign ts v _) => ts.map .e ++ [.e v]
  | .s (.AugAssign t _ v _) => [.e t, .e v]
  | .s (.For t i b o _) => .e t :: .e i :: (b.map .s ++ o.map .s)
  | .s (.While t b o _) => .e t :: (b.map .s ++ o.map .s)
  | .s (.If t b o _) => .e t :: (b.map .s ++ o.map .s)
  | .s (.Raise x _ _) => optKid x
  | .s (.Try b _ o f _) => b.map .s ++ o.map .s ++ f.map .s
  | .s (.Expr x _) => [.e x]
  | .e (.BoolOp _ vs _) => vs.map .e
  | .e (.BinOp a _ b _) => [.e a, .e b]
  | .e (.UnaryOp _ a _) => [.e a]
  | .e (.IfExp a b c _) => [.e a, .e b, .e c]
  | .e (.Dict ks vs _) => (ks.filterMap id).map .e ++ vs.map .e
  | .e (.ListComp x cs _ _) => .e x :: cs.flatMap compKids
  | .e (.SetComp x cs _ _) => .e x :: cs.flatMap compKids
  | .e (.GeneratorExp x cs _ _) => .e x :: cs.flatMap compKids
  | .e (.DictComp k v cs _ _) => .e k :: .e v :: cs.flatMap compKids
  | .e (.Compare a _ bs _) => .e a :: bs.map .e
  | .e (.Call f as ks _) => .e f :: (as.map .e ++ ks.map fun k => .e k.value)
  | .e (.Attribute a _ _) => [.e a]
  | .e (.Subscript a b _) => [.e a, .e b]
  | .e (.Starred a _) => [.e a]
  | .e (.List es _) => es.map .e
  | .e (.Tuple es _ _) => es.map .e
  | .e (.Slice a b c _) => optKid a ++ (optKid b ++ optKid c)
  | _ => []
def Nd.go : Nd → List Nat → Nd
  | n, [] => n
  | n, i :: is => (n.kids.getD i (.e (.Constant .none 0 ⟨0, 0, 0, 0⟩))).go is
def Nd.scope : Nd → Scope
  | .e (.ListComp _ _ sc _) => sc
  | .e (.SetComp _ _ sc _) => sc
  | .e (.DictComp _ _ _ sc _) => sc
  | .e (.GeneratorExp _ _ sc _) => sc
  | .e (.Lambda _ _ sc _) => sc
  | _ => ⟨.function, [], false, false, []⟩
def compScope (s : Stmt) (is : List Nat) : Scope := ((Nd.s s).go is).scope
theorem bt_len : bootBuiltins "len" = some (.builtin "len") := by decide +kernel
theorem bt_abs : bootBuiltins "abs" = some (.builtin "abs") := by decide +kernel
theorem bt_max : bootBuiltins "max" = some (.builtin "max") := by decide +kernel
theorem bt_min : bootBuiltins "min" = some (.builtin "min") := by decide +kernel
theorem bt_sum : bootBuiltins "sum" = some (.builtin "sum") := by decide +kernel
theorem bt_all : bootBuiltins "all" = some (.builtin "all") := by decide +kernel
theorem bt_any : bootBuiltins "any" = some (.builtin "any") := by decide +kernel
theorem bt_sorted : bootBuiltins "sorted" = some (.builtin "sorted") := by decide +kernel
theorem bt_isinstance : bootBuiltins "isinstance" = some (.builtin "isinstance") := by decide +kernel
theorem bt_int : bootBuiltins "int" = some (.type "int") := by decide +kernel
theorem bt_str : bootBuiltins "str" = some (.type "str") := by decide +kernel
theorem bt_bool : bootBuiltins "bool" = some (.type "bool") := by decide +kernel
theorem bt_list : bootBuiltins "list" = some (.type "list") := by decide +kernel
theorem bt_tuple : bootBuiltins "tuple" = some (.type "tuple") := by decide +kernel
theorem bt_dict : bootBuiltins "dict" = some (.type "dict") := by decide +kernel
theorem bt_set : bootBuiltins "set" = some (.type "set") := by decide +kernel
theorem bt_enumerate : bootBuiltins "enumerate" = some (.type "enumerate") := by decide +kernel
theorem bt_zip : bootBuiltins "zip" = some (.type "zip") := by decide +kernel
theorem wk0 : Wk [] [] := trivial
theorem wkn {a : Option Slot} {r s : DEnv} (h : Wk r s) : Wk (a :: r) (none :: s) := ⟨.inl rfl, h⟩
theorem wkr {a : Option Slot} {r s : DEnv} (h : Wk r s) : Wk (a :: r) (a :: s) := ⟨.inr rfl, h⟩
theorem le_line {n : Nat} (h : Nat.ble n 4096 = true) : n ≤ sizeLine := by rw [line_eq]; exact Nat.le_trans (Nat.le_of_ble_eq_true h) (by decide)
section
variable {X : Cx} {env : DEnv} {Φ : Outs} {rest : List Stmt} {e a b : Expr} {d : D} {k k1 k2 : Kd} {pos : Pos} {s t : Str} {i : Int} {x y : D} {p : Bool}
theorem s1_ex (he : Ev X env e d k) (hs : swapsWith e none pos.line X.env = pure false) (h : Φ.nx env) : S1 X env (.Expr e pos) Φ :=
  ⟨(ps_expr he.pe hs).mono fun Dd σ H ⟨F, B, G, E, P⟩ => ⟨F, B, E.e, fun v H' F' B' g r => P.nx _ _ _ F' B' (g.gs E.gh) (E.grow g) h⟩⟩
theorem ss_ex (he : Ev X env e d k) (hs : swapsWith e none pos.line X.env = pure false) (h : SS X env rest Φ) : SS X env (.Expr e pos :: rest) Φ := ss_cons (s1_ex he hs h)
theorem flat_ints : ∀ ns : List Int, (ns.map V.int).all flatV = true
  | [] => rfl
  | _ :: ns => flat_ints ns
theorem flat_strs : ∀ ns : List Str, (ns.map V.str).all flatV = true
  | [] => rfl
  | _ :: ns => flat_strs ns
theorem inV_ints (i : Int) : ∀ ns : List Int, inV (.int i) (ns.map V.int) = decide (i ∈ ns)
  | [] => by simp [inV]
  | n :: ns => by
    have h := inV_ints i ns
    unfold inV at h ⊢
    rw [List.map_cons, List.any_cons, h]
    show (decide (n = i) || _) = _
    by_cases e : n = i
    · simp [e]
    · simp [e, Ne.symm e]
theorem inV_strs (i : Str) : ∀ ns : List Str, inV (.str i) (ns.map V.str) = decide (i ∈ ns)
  | [] => by simp [inV]
  | n :: ns => by
    have h := inV_strs i ns
    unfold inV at h ⊢
    rw [List.map_cons, List.any_cons, h]
    show (decide (n = i) || _) = _
    by_cases e : n = i
    · simp [e]
    · simp [e, Ne.symm e]
def inStr (s t : Str) : Bool := !(Builtin.Str.occurrences t s 0 t.length 1).isEmpty
def eqG (x y : D) : Option Bool := if x.pyo && (y.pyo && (decide (x.py.depth ≤ 64) && decide (y.py.depth ≤ 64))) then some (PyData.eqv x.py y.py) else none
theorem eqG_ok (h : eqG x y = some p) : x.pyo = true ∧ y.pyo = true ∧ x.shal ∧ y.shal ∧ PyData.eqv x.py y.py = p := by
  obtain ⟨h1, e⟩ := iteO h
  simp only [Bool.and_eq_true, decide_eq_true_eq] at h1
  exact ⟨h1.1, h1.2.1, h1.2.2.1, h1.2.2.2, e⟩
theorem ev_inLI {i : Int} {ns : List Int} (ha : Ev X env a (.int i) k1) (hb : Ev X env b (.lst (ns.map D.int)) k2) (hm : behindInMarks .In b = false := by rfl) : Ev X env (.Compare a [.In] [b] pos) (.bl (decide (i ∈ ns))) .cln :=
  ev_cmp2 op_in_seq ha hb hm fun F B H v u Q hs r1 r2 q => by
    obtain ⟨p, vs, rfl, h1, r⟩ := r2.lst hs
    obtain rfl := reps_ints (r.reps hs)
    rw [r1.int hs]
    exact ⟨p, _, rfl, .inl (SqL.of h1), rfl, flat_ints _, by rw [inV_ints]; exact fin_bl hs q⟩
theorem ev_inLS {i : Str} {ns : List Str} (ha : Ev X env a (.str i) k1) (hb : Ev X env b (.lst (ns.map D.str)) k2) (hm : behindInMarks .In b = false := by rfl) : Ev X env (.Compare a [.In] [b] pos) (.bl (decide (i ∈ ns))) .cln :=
  ev_cmp2 op_in_seq ha hb hm fun F B H v u Q hs r1 r2 q => by
    obtain ⟨p, vs, rfl, h1, r⟩ := r2.lst hs
    obtain rfl := reps_strs (r.reps hs)
    rw [r1.str hs]
    exact ⟨p, _, rfl, .inl (SqL.of h1), rfl, flat_strs _, by rw [inV_strs]; exact fin_bl hs q⟩
theorem ev_inTI {i : Int} {ns : List Int} (ha : Ev X env a (.int i) k1) (hb : Ev X env b (.tup (ns.map D.int)) k2) (hm : behindInMarks .In b = false := by rfl) : Ev X env (.Compare a [.In] [b] pos) (.bl (decide (i ∈ ns))) .cln :=
  ev_cmp2 op_in_seq ha hb hm fun F B H v u Q hs r1 r2 q => by
    obtain ⟨p, vs, rfl, h1, r⟩ := r2.tup hs
    obtain rfl := reps_ints (r.reps hs)
    rw [r1.int hs]
    exact ⟨p, _, rfl, .inr h1, rfl, flat_ints _, by rw [inV_ints]; exact fin_bl hs q⟩
theorem ev_inTS {i : Str} {ns : List Str} (ha : Ev X env a (.str i) k1) (hb : Ev X env b (.tup (ns.map D.str)) k2) (hm : behindInMarks .In b = false := by rfl) : Ev X env (.Compare a [.In] [b] pos) (.bl (decide (i ∈ ns))) .cln :=
  ev_cmp2 op_in_seq ha hb hm fun F B H v u Q hs r1 r2 q => by
    obtain ⟨p, vs, rfl, h1, r⟩ := r2.tup hs
    obtain rfl := reps_strs (r.reps hs)
    rw [r1.str hs]
    exact ⟨p, _, rfl, .inr h1, rfl, flat_strs _, by rw [inV_strs]; exact fin_bl hs q⟩
theorem ev_inStr (ha : Ev X env a (.str s) k1) (hb : Ev X env b (.str t) k2) (hm : behindInMarks .In b = false := by rfl) : Ev X env (.Compare a [.In] [b] pos) (.bl (inStr s t)) .cln :=
  ev_cmp2 op_in_str ha hb hm fun F B H v u Q hs r1 r2 q => ⟨s, t, r1.str hs, r2.str hs, fin_bl hs q⟩
theorem ev_eqG (hu : X.A.units + 64 < cLine) (ha : Ev X env a x k1) (hb : Ev X env b y k2) (h : eqG x y = some p) : Ev X env (.Compare a [.Eq] [b] pos) (.bl p) .cln := by
  obtain ⟨h1, h2, h3, h4, h5⟩ := eqG_ok h
  exact ev_eqD hu ha hb h1 h2 h3 h4 h5
theorem ev_neG (hu : X.A.units + 64 < cLine) (ha : Ev X env a x k1) (hb : Ev X env b y k2) (h : eqG x y = some p) : Ev X env (.Compare a [.NotEq] [b] pos) (.bl (!p)) .cln := by
  obtain ⟨h1, h2, h3, h4, h5⟩ := eqG_ok h
  exact ev_neD hu ha hb h1 h2 h3 h4 h5
theorem ev_ninLI {i : Int} {ns : List Int} (ha : Ev X env a (.int i) k1) (hb : Ev X env b (.lst (ns.map D.int)) k2) (hm : behindInMarks .NotIn b = false := by rfl) : Ev X env (.Compare a [.NotIn] [b] pos) (.bl ((!decide (i ∈ ns)))) .cln :=
  ev_cmp2 op_notIn_seq ha hb hm fun F B H v u Q hs r1 r2 q => by
    obtain ⟨p, vs, rfl, h1, r⟩ := r2.lst hs
    obtain rfl := reps_ints (r.reps hs)
    rw [r1.int hs]
    exact ⟨p, _, rfl, .inl (SqL.of h1), rfl, flat_ints _, by rw [inV_ints]; exact fin_bl hs q⟩
theorem ev_ninLS {i : Str} {ns : List Str} (ha : Ev X env a (.str i) k1) (hb : Ev X env b (.lst (ns.map D.str)) k2) (hm : behindInMarks .NotIn b = false := by rfl) : Ev X env (.Compare a [.NotIn] [b] pos) (.bl ((!decide (i ∈ ns)))) .cln :=
  ev_cmp2 op_notIn_seq ha hb hm fun F B H v u Q hs r1 r2 q => by
    obtain ⟨p, vs, rfl, h1, r⟩ := r2.lst hs
    obtain rfl := reps_strs (r.reps hs)
    rw [r1.str hs]
    exact ⟨p, _, rfl, .inl (SqL.of h1), rfl, flat_strs _, by rw [inV_strs]; exact fin_bl hs q⟩
theorem ev_ninTI {i : Int} {ns : List Int} (ha : Ev X env a (.int i) k1) (hb : Ev X env b (.tup (ns.map D.int)) k2) (hm : behindInMarks .NotIn b = false := by rfl) : Ev X env (.Compare a [.NotIn] [b] pos) (.bl ((!decide (i ∈ ns)))) .cln :=
  ev_cmp2 op_notIn_seq ha hb hm fun F B H v u Q hs r1 r2 q => by
    obtain ⟨p, vs, rfl, h1, r⟩ := r2.tup hs
    obtain rfl := reps_ints (r.reps hs)
    rw [r1.int hs]
    exact ⟨p, _, rfl, .inr h1, rfl, flat_ints _, by rw [inV_ints]; exact fin_bl hs q⟩
theorem ev_ninTS {i : Str} {ns : List Str} (ha : Ev X env a (.str i) k1) (hb : Ev X env b (.tup (ns.map D.str)) k2) (hm : behindInMarks .NotIn b = false := by rfl) : Ev X env (.Compare a [.NotIn] [b] pos) (.bl ((!decide (i ∈ ns)))) .cln :=
  ev_cmp2 op_notIn_seq ha hb hm fun F B H v u Q hs r1 r2 q => by
    obtain ⟨p, vs, rfl, h1, r⟩ := r2.tup hs
    obtain rfl := reps_strs (r.reps hs)
    rw [r1.str hs]
    exact ⟨p, _, rfl, .inr h1, rfl, flat_strs _, by rw [inV_strs]; exact fin_bl hs q⟩
theorem ev_ninStr (ha : Ev X env a (.str s) k1) (hb : Ev X env b (.str t) k2) (hm : behindInMarks .NotIn b = false := by rfl) : Ev X env (.Compare a [.NotIn] [b] pos) (.bl ((!inStr s t))) .cln :=
  ev_cmp2 op_notin_str ha hb hm fun F B H v u Q hs r1 r2 q => ⟨s, t, r1.str hs, r2.str hs, fin_bl hs q⟩
theorem et_inLI {i : Int} {ns : List Int} (ha : Ev X env a (.int i) k1) (hb : Ev X env b (.lst (ns.map D.int)) k2) (hm : behindInMarks .In b = false := by rfl) : Et X env (.Compare a [.In] [b] pos) (decide (i ∈ ns)) :=
  et_cmp2 op_in_seq ha hb hm fun F B H v u Q hs r1 r2 q => by
    obtain ⟨p, vs, rfl, h1, r⟩ := r2.lst hs
    obtain rfl := reps_ints (r.reps hs)
    rw [r1.int hs]
    exact ⟨p, _, rfl, .inl (SqL.of h1), rfl, flat_ints _, by rw [inV_ints]; exact fin_bl hs q⟩
theorem et_inLS {i : Str} {ns : List Str} (ha : Ev X env a (.str i) k1) (hb : Ev X env b (.lst (ns.map D.str)) k2) (hm : behindInMarks .In b = false := by rfl) : Et X env (.Compare a [.In] [b] pos) (decide (i ∈ ns)) :=
  et_cmp2 op_in_seq ha hb hm fun F B H v u Q hs r1 r2 q => by
    obtain ⟨p, vs, rfl, h1, r⟩ := r2.lst hs
    obtain rfl := reps_strs (r.reps hs)
    rw [r1.str hs]
    exact ⟨p, _, rfl, .inl (SqL.of h1), rfl, flat_strs _, by rw [inV_strs]; exact fin_bl hs q⟩
theorem et_inTI {i : Int} {ns : List Int} (ha : Ev X env a (.int i) k1) (hb : Ev X env b (.tup (ns.map D.int)) k2) (hm : behindInMarks .In b = false := by rfl) : Et X env (.Compare a [.In] [b] pos) (decide (i ∈ ns)) :=
  et_cmp2 op_in_seq ha hb hm fun F B H v u Q hs r1 r2 q => by
    obtain ⟨p, vs, rfl, h1, r⟩ := r2.tup hs
    obtain rfl := reps_ints (r.reps hs)
    rw [r1.int hs]
    exact ⟨p, _, rfl, .inr h1, rfl, flat_ints _, by rw [inV_ints]; exact fin_bl hs q⟩
theorem et_inTS {i : Str} {ns : List Str} (ha : Ev X env a (.str i) k1) (hb : Ev X env b (.tup (ns.map D.str)) k2) (hm : behindInMarks .In b = false := by rfl) : Et X env (.Compare a [.In] [b] pos) (decide (i ∈ ns)) :=
  et_cmp2 op_in_seq ha hb hm fun F B H v u Q hs r1 r2 q => by
    obtain ⟨p, vs, rfl, h1, r⟩ := r2.tup hs
    obtain rfl := reps_strs (r.reps hs)
    rw [r1.str hs]
    exact ⟨p, _, rfl, .inr h1, rfl, flat_strs _, by rw [inV_strs]; exact fin_bl hs q⟩
theorem et_inStr (ha : Ev X env a (.str s) k1) (hb : Ev X env b (.str t) k2) (hm : behindInMarks .In b = false := by rfl) : Et X env (.Compare a [.In] [b] pos) (inStr s t) :=
  et_cmp2 op_in_str ha hb hm fun F B H v u Q hs r1 r2 q => ⟨s, t, r1.str hs, r2.str hs, fin_bl hs q⟩
theorem et_eqG (hu : X.A.units + 64 < cLine) (ha : Ev X env a x k1) (hb : Ev X env b y k2) (h : eqG x y = some p) : Et X env (.Compare a [.Eq] [b] pos) p := by
  obtain ⟨h1, h2, h3, h4, h5⟩ := eqG_ok h
  exact et_eqD hu ha hb h1 h2 h3 h4 h5
theorem et_neG (hu : X.A.units + 64 < cLine) (ha : Ev X env a x k1) (hb : Ev X env b y k2) (h : eqG x y = some p) : Et X env (.Compare a [.NotEq] [b] pos) (!p) := by
  obtain ⟨h1, h2, h3, h4, h5⟩ := eqG_ok h
  exact et_neD hu ha hb h1 h2 h3 h4 h5
theorem et_ninLI {i : Int} {ns : List Int} (ha : Ev X env a (.int i) k1) (hb : Ev X env b (.lst (ns.map D.int)) k2) (hm : behindInMarks .NotIn b = false := by rfl) : Et X env (.Compare a [.NotIn] [b] pos) ((!decide (i ∈ ns))) :=
  et_cmp2 op_notIn_seq ha hb hm fun F B H v u Q hs r1 r2 q => by
    obtain ⟨p, vs, rfl, h1, r⟩ := r2.lst hs
    obtain rfl := reps_ints (r.reps hs)
    rw [r1.int hs]
    exact ⟨p, _, rfl, .inl (SqL.of h1), rfl, flat_ints _, by rw [inV_ints]; exact fin_bl hs q⟩
theorem et_ninLS {i : Str} {ns : List Str} (ha : Ev X env a (.str i) k1) (hb : Ev X env b (.lst (ns.map D.str)) k2) (hm : behindInMarks .NotIn b = false := by rfl) : Et X env (.Compare a [.NotIn] [b] pos) ((!decide (i ∈ ns))) :=
  et_cmp2 op_notIn_seq ha hb hm fun F B H v u Q hs r1 r2 q => by
    obtain ⟨p, vs, rfl, h1, r⟩ := r2.lst hs
    obtain rfl := reps_strs (r.reps hs)
    rw [r1.str hs]
    exact ⟨p, _, rfl, .inl (SqL.of h1), rfl, flat_strs _, by rw [inV_strs]; exact fin_bl hs q⟩
theorem et_ninTI {i : Int} {ns : List Int} (ha : Ev X env a (.int i) k1) (hb : Ev X env b (.tup (ns.map D.int)) k2) (hm : behindInMarks .NotIn b = false := by rfl) : Et X env (.Compare a [.NotIn] [b] pos) ((!decide (i ∈ ns))) :=
  et_cmp2 op_notIn_seq ha hb hm fun F B H v u Q hs r1 r2 q => by
    obtain ⟨p, vs, rfl, h1, r⟩ := r2.tup hs
    obtain rfl := reps_ints (r.reps hs)
    rw [r1.int hs]
    exact ⟨p, _, rfl, .inr h1, rfl, flat_ints _, by rw [inV_ints]; exact fin_bl hs q⟩
theorem et_ninTS {i : Str} {ns : List Str} (ha : Ev X env a (.str i) k1) (hb : Ev X env b (.tup (ns.map D.str)) k2) (hm : behindInMarks .NotIn b = false := by rfl) : Et X env (.Compare a [.NotIn] [b] pos) ((!decide (i ∈ ns))) :=
  et_cmp2 op_notIn_seq ha hb hm fun F B H v u Q hs r1 r2 q => by
    obtain ⟨p, vs, rfl, h1, r⟩ := r2.tup hs
    obtain rfl := reps_strs (r.reps hs)
    rw [r1.str hs]
    exact ⟨p, _, rfl, .inr h1, rfl, flat_strs _, by rw [inV_strs]; exact fin_bl hs q⟩
theorem et_ninStr (ha : Ev X env a (.str s) k1) (hb : Ev X env b (.str t) k2) (hm : behindInMarks .NotIn b = false := by rfl) : Et X env (.Compare a [.NotIn] [b] pos) ((!inStr s t)) :=
  et_cmp2 op_notin_str ha hb hm fun F B H v u Q hs r1 r2 q => ⟨s, t, r1.str hs, r2.str hs, fin_bl hs q⟩
theorem ss_ifM {c : Expr} {A Bs : List Stmt} (env' : DEnv) (hc : Et X env c p) (h : SS X env' rest Φ) (ha : p = true → SS X env A { Φ with nx := fun e => Wk e env' }) (hb : p = false → SS X env Bs { Φ with nx := fun e => Wk e env' }) : SS X env (.If c A Bs pos :: rest) Φ :=
  ss_cons (s1_if hc (fun z => (ha z).imp (fun e w => ss_wk _ w h) (fun _ _ w => w) (fun _ w => w) fun _ w => w) fun z => (hb z).imp (fun e w => ss_wk _ w h) (fun _ _ w => w) (fun _ w => w) fun _ w => w)
end
end DL
namespace DL
open PySem PySem.Spec L2
open PyProof.Rows hiding St
def enO {α : Type} (f : α → D) : Option α → D
  | some x => f x
  | none => .non
section
variable {X : Cx} {Γ : Gd} {N : List Str} {sc : Scope} {lv : Nat} {vl ll : List Nat} {gl : List Str} {env : DEnv} {Φ : Outs} {rest : List Stmt} {e a b : Expr} {es : List Expr} {ds : List D} {d : D} {k k1 k2 : Kd} {pos pn : Pos} {s t n : Str} {i : Int} {x y : D} {p : Bool} {kz : K2}
theorem Ev.getO {α : Type} {f : α → D} {o : Option α} {x : α} (h : Ev X env e (enO f o) k) (e' : o = some x) : Ev X env e (f x) k := by subst e'; exact h
theorem Ev.scO {α : Type} {f : α → D} {o : Option α} (h : Ev X env e (enO f o) k) (hf : ∀ x, (f x).sc = true) : Ev X env e (enO f o) .cln := h.scal (by cases o with | none => rfl | some x => exact hf x)
theorem Ev.toB (h : Ev X env e d .cln) : Ev X env e d .brw := h.cln_brw
theorem isN_enO {α : Type} {f : α → D} {o : Option α} (hf : ∀ x, (f x).isN = false) : (enO f o).isN = o.isNone := by cases o with
  | none => rfl
  | some x => exact hf x
theorem slot2_cases (kz : K2) (d : D) : (slot2 kz d = .frz d ∧ (d.sc = true ∨ kz = .c)) ∨ (slot2 kz d = .bor d ∧ kz = .b) := by
  cases d <;> cases kz <;> first | exact .inl ⟨rfl, .inl rfl⟩ | exact .inl ⟨rfl, .inr rfl⟩ | exact .inr ⟨rfl, rfl⟩
theorem nm2 (A : At X Γ N sc lv) (S : Sc N sc vl ll gl) (i : Nat) {kz : K2} (hN : N[i]? = some n) (hv : vl.contains i = true) (he : env[i]? = some (some (slot2 kz d))) : Ev X env (.Name n pos) d kz.k := by
  rcases slot2_cases kz d with ⟨h, q⟩ | ⟨h, q⟩ <;> rw [h] at he
  · have h1 := nmF (pos := pos) A S i hN hv he
    cases kz with
    | c => exact h1
    | b => exact h1.cln_brw
  · subst q; exact nmB A S i hN hv he
theorem EnvS.re {K : PySem.W.Frag} {F B G H : Hp} {σ : St} {i : Nat} {s s' : Slot} (E : EnvS K F B G H env σ) (he : env[i]? = some (some s)) (hs : ∀ v, SlotS K F B G H s v → SlotS K F B G H s' v) (no : ∀ d, s' ≠ .own d) : EnvS K F B G H (env.set i (some s')) σ := by
  obtain ⟨v, h1, h2⟩ := E.at_ i s he
  refine ⟨E.hs, E.gh, by rw [List.length_set]; exact E.len, fun j t e => ?_, fun j m d1 d2 q e1 e2 e3 e4 => ?_⟩
  · rcases get_set e with ⟨z, y, hl⟩ | ⟨z, y⟩
    · cases y
      rw [z]
      exact ⟨v, h1, hs v h2⟩
    · exact E.at_ j t y
  · rcases get_set e1 with ⟨z1, y1, l1⟩ | ⟨z1, y1⟩
    · cases y1; exact absurd rfl (no _)
    · rcases get_set e2 with ⟨z2, y2, l2⟩ | ⟨z2, y2⟩
      · cases y2; exact absurd rfl (no _)
      · exact E.dis j m d1 d2 q y1 y2 e3 e4
theorem ss_bor (i : Nat) {A : List Stmt} (he : env[i]? = some (some (.frz d))) (h : SS X (env.set i (some (.bor d))) A Φ) : SS X env A Φ := ⟨h.ps.mono fun Dd σ H ⟨F, B, G, E, P⟩ => ⟨F, B, G, E.re he (fun v r => Rep.mono E.hs.fb r) (fun _ z => nomatch z), P⟩⟩
theorem ss_s2 (i : Nat) {A : List Stmt} (he : env[i]? = some (some (slot2 kz d))) (h : SS X (env.set i (some (.bor d))) A Φ) : SS X env A Φ := by
  rcases slot2_cases kz d with ⟨q, _⟩ | ⟨q, _⟩ <;> rw [q] at he
  · exact ss_bor i he h
  · have : env.set i (some (.bor d)) = env := by
      apply List.ext_getElem?
      intro j
      by_cases z : i = j
      · subst z; rw [List.getElem?_set_self (List.getElem?_eq_some_iff.mp he).1, he]
      · rw [List.getElem?_set_ne z]
    rw [this] at h; exact h
theorem heldOf_c {d : D} : heldOf .cln d = .cln := by unfold heldOf; split <;> rfl
theorem ea_consH (ha : Ev X env a d k1) (hr : EA X env es ds k2) (h2 : k2 = .cln ∨ k2 = .brw ∨ k2 = .drt) (hs : starEach (a :: es) X.env = (false, eval a X.env) :: starEach es X.env) : EA X env (a :: es) (d :: ds) (k1.held.join k2) :=
  ⟨(pa_cons ha.held.pe hr.pa hs).mono fun σ H Q ⟨F, B, E, q⟩ => ⟨F, B, E, fun v H1 F1 B1 g1 r1 => ⟨F1, B1, E.grow g1, fun vs H2 F2 B2 g2 r2 => by
    have h1 : k1.held = .cln ∨ k1.held = .brw ∨ k1.held = .drt := by cases k1 <;> simp [Kd.held]
    refine q _ _ _ _ (g1.trans g2) (repsK_cons (join_cases _ _) (repsK.up g2.hs h1 h2 (repsK.grow g2 (repK_one h1 r1))) ?_)
    rw [join_comm]
    exact repsK.up g2.hs h2 h1 r2⟩⟩⟩
def D.isT (q : Bool) : D → Bool
  | .bl b => decide (b = q)
  | _ => false
def rIsT (K : PySem.W.Frag) (neg : Bool) : R2 := fun x y H Q => ∃ (d : D) (q : Bool), Rep K H d x ∧ y = .bl q ∧ Q (.bl (if neg then !d.isT q else d.isT q)) H
theorem isT_ne {K : PySem.W.Frag} {H : Hp} {d : D} {x : V} {v : Value} {q : Bool} (r : Rep K H d x) (rx : RelV x v) : (d.isT q = true ∧ v = .bool q) ∨ (d.isT q = false ∧ v ≠ .bool q ∧ plainIs v (.bool q) = true) := by
  cases r with
  | bl b =>
    cases (show v = Value.bool b from rx)
    by_cases e : b = q
    · subst e; exact .inl ⟨by simp [D.isT], rfl⟩
    · exact .inr ⟨by simp [D.isT, e], fun z => e (Value.bool.inj z), rfl⟩
  | non => cases (show v = Value.none from rx); exact .inr ⟨rfl, fun z => (nomatch z), rfl⟩
  | int i => obtain ⟨t, h⟩ := (show ∃ t, v = Value.int i t from rx); subst h; exact .inr ⟨rfl, fun z => (nomatch z), rfl⟩
  | str i => obtain ⟨t, h⟩ := (show ∃ t, v = Value.str i t from rx); subst h; exact .inr ⟨rfl, fun z => (nomatch z), rfl⟩
  | lst h1 h2 => cases rx; exact .inr ⟨rfl, fun z => (nomatch z), rfl⟩
  | tup h1 h2 => cases rx; exact .inr ⟨rfl, fun z => (nomatch z), rfl⟩
  | dK h1 h2 => cases rx; exact .inr ⟨rfl, fun z => (nomatch z), rfl⟩
  | dT h1 h2 => cases rx; exact .inr ⟨rfl, fun z => (nomatch z), rfl⟩
  | obj h1 h2 => cases rx; exact .inr ⟨rfl, fun z => (nomatch z), rfl⟩
  | scr h1 => cases rx; exact .inr ⟨rfl, fun z => (nomatch z), rfl⟩
  | adr => cases rx; exact .inr ⟨rfl, fun z => (nomatch z), rfl⟩
  | tpx h1 _ _ => cases rx; exact .inr ⟨rfl, fun z => (nomatch z), rfl⟩
  | tpk h1 _ => cases rx; exact .inr ⟨rfl, fun z => (nomatch z), rfl⟩
theorem op_isT : OpR X (compareOp .Is) (rIsT X.K false) := by
  intro pins s σ H x y v u Q I rx ry h
  obtain ⟨d, q, r, rfl, w⟩ := h
  cases (show u = Value.bool q from ry)
  rcases isT_ne (q := q) r rx with ⟨e, z⟩ | ⟨e, z, pl⟩
  · subst z; rw [e] at w; exact wpAny_is_self rfl ⟨.bl true, H, I, rfl, w⟩
  · rw [e] at w; exact wpAny_is_other pl z ⟨.bl false, H, I, rfl, w⟩
theorem op_nisT : OpR X (compareOp .IsNot) (rIsT X.K true) := by
  intro pins s σ H x y v u Q I rx ry h
  obtain ⟨d, q, r, rfl, w⟩ := h
  cases (show u = Value.bool q from ry)
  rcases isT_ne (q := q) r rx with ⟨e, z⟩ | ⟨e, z, pl⟩
  · subst z; rw [e] at w; exact wpAny_isNot_self rfl ⟨.bl false, H, I, rfl, w⟩
  · rw [e] at w; exact wpAny_isNot_other pl z ⟨.bl true, H, I, rfl, w⟩
theorem ev_isT {q : Bool} {j' : Nat} {pos' : Pos} (ha : Ev X env a x k1) (hp : x.isT q = p) : Ev X env (.Compare a [.Is] [.Constant (.bool q) j' pos'] pos) (.bl p) .cln :=
  ev_cmp2 op_isT ha (ev_bl (b := q)) rfl fun F B H v u Q hs r1 r2 w => ⟨x, q, r1.rep hs, r2.bl hs, by rw [hp]; exact fin_bl hs w⟩
theorem ev_nisT {q : Bool} {j' : Nat} {pos' : Pos} (ha : Ev X env a x k1) (hp : (!x.isT q) = p) : Ev X env (.Compare a [.IsNot] [.Constant (.bool q) j' pos'] pos) (.bl p) .cln :=
  ev_cmp2 op_nisT ha (ev_bl (b := q)) rfl fun F B H v u Q hs r1 r2 w => ⟨x, q, r1.rep hs, r2.bl hs, by show Q (.bl (!x.isT q)) H; rw [hp]; exact fin_bl hs w⟩
def D.ty : D → Option String
  | .non => some "NoneType" | .bl _ => some "bool" | .int _ => some "int" | .str _ => some "str" | .lst _ => some "list" | .tup _ => some "tuple" | .tpx _ => some "tuple" | .tpk _ => some "tuple" | .dK _ => some "dict" | .dT _ => some "dict" | .scr _ => some "list" | .obj _ _ => none | .adr _ => none
def D.isi (T : String) (d : D) : Bool := match d with
  | .non => T == "NoneType" | .bl _ => T == "bool" || T == "int" | .int _ => T == "int" | .str _ => T == "str" | .lst _ => T == "list" | .tup _ => T == "tuple" | .tpx _ => T == "tuple" | .tpk _ => T == "tuple" | .dK _ => T == "dict" | .dT _ => T == "dict" | .scr _ => T == "list" | .obj _ _ => false | .adr _ => false
theorem rep_ty {K : PySem.W.Frag} {H : Hp} {v : V} {T : String} (r : Rep K H d v) (h : d.ty = some T) : TyX K H v (.type T) := by
  cases r with
  | non => cases h; exact .base .non
  | bl b => cases h; exact .base (.bl b)
  | int b => cases h; exact .base (.int b)
  | str b => cases h; exact .base (.str b)
  | lst h1 h2 => cases h; exact .base (.lst h1)
  | tup h1 h2 =>
    cases h
    rcases h1 with (h1 | ⟨o, h1⟩) | ⟨o, its, m, h1, h3, _⟩
    · exact .base (.tup h1)
    · exact .fTuple h1
    · exact .kTuple h1 h3
  | tpx h1 _ _ => cases h; exact .fTuple h1
  | tpk h1 _ => cases h; exact .base (.tup h1)
  | dK h1 h2 => cases h; exact .base (.dK h1)
  | dT h1 h2 => cases h; exact .base (.dT h1)
  | obj h1 h2 => cases h
  | adr => cases h
  | scr h1 =>
    cases h
    rcases h1 with (h1 | ⟨o, h1⟩) | ⟨o, its, m, h1, h3, _⟩
    · exact .base (.lst h1)
    · exact .base (.frz h1)
    · exact .kList h1 h3
def isiT (T : String) : Bool := (["NoneType", "bool", "int", "str", "list", "tuple", "dict"].all fun t => kitB t T == some (t == T || (t == "bool" && T == "int")))
theorem isi_of {T t : String} (h : isiT T = true) (ht : d.ty = some t) : kitB t T = some (d.isi T) := by
  unfold isiT at h
  simp only [List.all_cons, List.all_nil, Bool.and_true, Bool.and_eq_true, beq_iff_eq] at h
  obtain ⟨h1, h2, h3, h4, h5, h6, h7⟩ := h
  have sw : ∀ x : String, (x == T) = (T == x) := fun x => by
    by_cases e : x = T
    · subst e; rfl
    · rw [beq_eq_false_iff_ne.mpr e, beq_eq_false_iff_ne.mpr (Ne.symm e)]
  cases d <;> cases ht <;> first | (rw [h1]) | (rw [h2]) | (rw [h3]) | (rw [h4]) | (rw [h5]) | (rw [h6]) | (rw [h7])
  all_goals (simp only [D.isi, sw]; simp)
theorem isi_ {nT : Str} {T : String} {pT : Pos} (bn : Bn X "isinstance" (.builtin "isinstance")) (ha : Ev X env a x k1) (bT : Bn X nT (.type T)) (he : starEach [a, .Name nT pT] X.env = [(false, eval a X.env), (false, eval (.Name nT pT) X.env)]) (hk : isiT T = true) (hx : (x.ty.isSome && decide (x.isi T = p)) = true) :
    Ev X env (.Call (.Name "isinstance" pn) [a, .Name nT pT] [] pos) (.bl p) .cln := by
  obtain ⟨h1, h2⟩ := Bool.and_eq_true_iff.mp hx
  obtain ⟨t, ht⟩ := Option.isSome_iff_exists.mp h1
  have h2 := of_decide_eq_true h2
  have hT : PE X (.Name nT pT) (tC (.ty T)) := pe_bltn bT.gl bT.mg bT.bt rfl bT.nn bT.db
  refine ⟨(pe_callB call_isi bn.gl bn.mg bn.bt (pa_cons ha.st.pe (pa_cons hT pa_nil rfl) he) bn.nn bn.db he rfl).mono fun σ H Q ⟨F, B, E, q⟩ => ⟨F, B, E, fun v H1 F1 B1 g1 r1 => ?_⟩⟩
  refine ⟨v, .ty T, .type t, .type T, p, rfl, .ty T, rep_ty (r1.rep g1.hs) ht, kit_ty (by rw [← h2]; exact isi_of hk ht), ?_⟩
  exact q _ _ _ _ g1 (.bl p)
end
end DL
namespace DL
open PySem PySem.Spec L2
open PyProof.Rows hiding St
section
variable {X : Cx} {env : DEnv} {a b : Expr} {k1 : Kd} {pos pn : Pos} {x : D} {p : Bool}
def isiG (T : String) (d : D) : Option Bool := if d.ty.isSome = true then some (d.isi T) else none
theorem isiG_ {nT : Str} {T : String} {pT : Pos} (bn : Bn X "isinstance" (.builtin "isinstance")) (ha : Ev X env a x k1) (bT : Bn X nT (.type T)) (he : starEach [a, .Name nT pT] X.env = [(false, eval a X.env), (false, eval (.Name nT pT) X.env)]) (hk : isiT T = true) (h : isiG T x = some p) :
    Ev X env (.Call (.Name "isinstance" pn) [a, .Name nT pT] [] pos) (.bl p) .cln := by
  obtain ⟨h1, e⟩ := iteO h
  exact isi_ bn ha bT he hk (by rw [h1, e]; simp)
end
end DL
namespace DL
open PySem PySem.Spec L2
open PyProof.Rows hiding St
section
variable {X : Cx} {env : DEnv} {a b : Expr} {k1 : Kd} {pos pn : Pos} {x : D} {p : Bool}
theorem et_of {te : TE} {r : V → Hp → VK → Prop} (ht : PT X b (tB (te))) (hte : ∀ σ H Q, tEv X.K env (.bl p) .cln σ H Q → te σ H Q) : Et X env b p :=
  ⟨ht.mono fun σ H Q ⟨F, B, E, q⟩ => hte σ H _ ⟨F, B, E, fun v H' F' B' g r => by
    cases (show Rep X.K F' (.bl p) v from r)
    exact ⟨_, rfl, q H' F' B' g⟩⟩⟩
theorem et_isN {j' pos'} (ha : Ev X env a x k1) (hp : x.isN = p) : Et X env (.Compare a [.Is] [.Constant .none j' pos'] pos) p :=
  et_of (r := fun _ _ _ => True) (pt_cmp (pc_isN ha.st.pe)) (one_te (te := tIsN) (r := fun x H Q => Q (.bl (decide (x = .non))) H) (fun _ _ _ _ h => h) ha fun F B H v Q hs r1 q => by rw [rep_isN (r1.rep hs), hp]; exact fin_bl hs q)
theorem et_notN {j' pos'} (ha : Ev X env a x k1) (hp : x.isN = p) : Et X env (.Compare a [.IsNot] [.Constant .none j' pos'] pos) (!p) :=
  et_of (r := fun _ _ _ => True) (pt_cmp (pc_notN ha.st.pe)) (one_te (te := tNotN) (r := fun x H Q => Q (.bl (!decide (x = .non))) H) (fun _ _ _ _ h => h) ha fun F B H v Q hs r1 q => by rw [rep_isN (r1.rep hs), hp]; exact fin_bl hs q)
theorem et_isT {q : Bool} {j' : Nat} {pos' : Pos} (ha : Ev X env a x k1) (hp : x.isT q = p) : Et X env (.Compare a [.Is] [.Constant (.bool q) j' pos'] pos) p :=
  et_cmp2 op_isT ha (ev_bl (b := q)) rfl fun F B H v u Q hs r1 r2 w => ⟨x, q, r1.rep hs, r2.bl hs, by rw [hp]; exact fin_bl hs w⟩
theorem et_nisT {q : Bool} {j' : Nat} {pos' : Pos} (ha : Ev X env a x k1) (hp : (!x.isT q) = p) : Et X env (.Compare a [.IsNot] [.Constant (.bool q) j' pos'] pos) p :=
  et_cmp2 op_nisT ha (ev_bl (b := q)) rfl fun F B H v u Q hs r1 r2 w => ⟨x, q, r1.rep hs, r2.bl hs, by show Q (.bl (!x.isT q)) H; rw [hp]; exact fin_bl hs w⟩
end
end DL
namespace DL
open PySem PySem.Spec L2
open PyProof.Rows hiding St
section
variable {X : Cx} {Γ : Gd} {N : List Str} {sc : Scope} {lv : Nat} {vl ll : List Nat} {gl : List Str} {env env' : DEnv} {Φ : Outs} {rest : List Stmt} {tg e a b : Expr} {es : List Expr} {ds : List D} {d : D} {k k1 k2 : Kd} {pos pn np apos cpos : Pos} {s t n : Str} {i j : Int} {x y : D} {p : Bool} {kz : K2}
def lenDG : D → Option Int
  | .lst ds => some ds.length
  | .tup ds => some ds.length
  | .str s => if s.length ≤ line then some s.length else none
  | _ => none
theorem lenD_ {v : Int} (bn : Bn X "len" (.builtin "len")) (ha : Ev X env a d k1) (h : lenDG d = some v) (he : starEach [a] X.env = [(false, eval a X.env)]) : Ev X env (.Call (.Name "len" pn) [a] [] pos) (.int v) .cln := by
  cases d <;> try cases h
  · obtain ⟨h1, e⟩ := iteO h; subst e
    exact len_ bn ha (.str (by rw [line_eq]; exact h1)) he
  · exact len_ bn ha .lst he
  · exact len_ bn ha .tup he
def idxDG (d : D) (i : Int) : Option D := match d with
  | .lst ds => atI ds i
  | .tup ds => atI ds i
  | _ => none
theorem ixD_ {v : D} (ha : Ev X env a d k1) (hb : Ev X env b (.int i) k2) (h : idxDG d i = some v) (hs : PlainIx b) : Ev X env (.Subscript a b pos) v k1.kid := by
  cases d <;> try cases h
  · exact ix_ ha hb (.lst h) hs
  · exact ix_ ha hb (.tup h) hs
def fndG {α : Type} [DecidableEq α] (xs : List α) (x : α) : Option Int := Option.map (fun n : Nat => (n : Int)) (xs.findIdx? (fun y => decide (y = x)))
theorem fnd_ok {α : Type} [DecidableEq α] {xs : List α} {x : α} {v : Int} (h : fndG xs x = some v) : ∃ n : Nat, v = n ∧ xs[n]? = some x ∧ ∀ m, m < n → xs[m]? ≠ some x := by
  obtain ⟨n, h1, h2⟩ := Option.map_eq_some_iff.mp h
  rw [List.findIdx?_eq_some_iff_getElem] at h1
  obtain ⟨hl, hp, hn⟩ := h1
  refine ⟨n, h2.symm, by rw [List.getElem?_eq_getElem hl, of_decide_eq_true hp], fun m hm e => ?_⟩
  have hm' : m < xs.length := by omega
  rw [List.getElem?_eq_getElem hm'] at e
  exact hn m hm (decide_eq_true (Option.some.inj e))
theorem indexLI_ {ns : List Int} {v : Int} (ha : Ev X env a (.lst (ns.map D.int)) k1) (hb : Ev X env b (.int i) k2) (h : fndG ns i = some v) (mx : Mx X a "index" [b] apos cpos) (hs : starEach [b] X.env = [(false, eval b X.env)] := by rfl) :
    Ev X env (.Call (.Attribute a "index" apos) [b] [] cpos) (.int v) .cln := by
  obtain ⟨m, e, h1, h2⟩ := fnd_ok h
  subst e
  refine ⟨(pe_bm PySem.F.plainAttrs_list PySem.F.slot_list_index PySem.F.type_list_index mt_index ha.st.pe (pa_cons hb.st.pe pa_nil hs) mx.base mx.few mx.line hs rfl).mono fun σ H Q ⟨F, B, E, q⟩ => ⟨F, B, E, fun v H1 F1 B1 g1 r1 => ?_⟩⟩
  obtain ⟨q1, vs, rfl, e2, r⟩ := RepS.lst g1.hs (RepK.any0 r1)
  refine ⟨.inl ⟨rfl, _, SqL.of e2⟩, F1, B1, E.grow g1, fun u H2 F2 B2 g2 r2 => ?_⟩
  have ei := RepS.int g2.hs (RepK.any0 r2)
  subst ei
  have ev := reps_ints (r.reps g1.hs)
  subst ev
  refine ⟨q1, ns.map V.int, .int i, m, .int i, rfl, rfl, SqL.of (g2.h _ _ e2), rfl, flat_ints ns, by rw [List.getElem?_map, h1]; rfl, by simp [eqV], fun m' z hm hz => ?_, q _ _ _ _ (g1.trans g2) (.int _)⟩
  rw [List.getElem?_map] at hz
  obtain ⟨w, hw, e⟩ := Option.map_eq_some_iff.mp hz
  subst e
  have := h2 m' hm
  rw [hw] at this
  show (w == i) = false
  exact beq_eq_false_iff_ne.mpr fun z => this (by rw [z])
theorem indexLS_ {ns : List Str} {i : Str} {v : Int} (ha : Ev X env a (.lst (ns.map D.str)) k1) (hb : Ev X env b (.str i) k2) (h : fndG ns i = some v) (mx : Mx X a "index" [b] apos cpos) (hs : starEach [b] X.env = [(false, eval b X.env)] := by rfl) :
    Ev X env (.Call (.Attribute a "index" apos) [b] [] cpos) (.int v) .cln := by
  obtain ⟨m, e, h1, h2⟩ := fnd_ok h
  subst e
  refine ⟨(pe_bm PySem.F.plainAttrs_list PySem.F.slot_list_index PySem.F.type_list_index mt_index ha.st.pe (pa_cons hb.st.pe pa_nil hs) mx.base mx.few mx.line hs rfl).mono fun σ H Q ⟨F, B, E, q⟩ => ⟨F, B, E, fun v H1 F1 B1 g1 r1 => ?_⟩⟩
  obtain ⟨q1, vs, rfl, e2, r⟩ := RepS.lst g1.hs (RepK.any0 r1)
  refine ⟨.inl ⟨rfl, _, SqL.of e2⟩, F1, B1, E.grow g1, fun u H2 F2 B2 g2 r2 => ?_⟩
  have ei := RepS.str g2.hs (RepK.any0 r2)
  subst ei
  have ev := reps_strs (r.reps g1.hs)
  subst ev
  refine ⟨q1, ns.map V.str, .str i, m, .str i, rfl, rfl, SqL.of (g2.h _ _ e2), rfl, DL.flat_strs ns, by rw [List.getElem?_map, h1]; rfl, by simp [eqV], fun m' z hm hz => ?_, q _ _ _ _ (g1.trans g2) (.int _)⟩
  rw [List.getElem?_map] at hz
  obtain ⟨w, hw, e⟩ := Option.map_eq_some_iff.mp hz
  subst e
  have := h2 m' hm
  rw [hw] at this
  show (w == i) = false
  exact beq_eq_false_iff_ne.mpr fun z => this (by rw [z])
theorem eraseIdx_map' {α β : Type} (f : α → β) : ∀ (xs : List α) (m : Nat), (xs.eraseIdx m).map f = (xs.map f).eraseIdx m
  | [], _ => rfl
  | _ :: _, 0 => rfl
  | x :: xs, m + 1 => congrArg (f x :: ·) (eraseIdx_map' f xs m)
structure Em (X : Cx) (env env' : DEnv) (e : Expr) (d : D) : Prop where
  pe : PE X e (fun σ H Q => ∃ F B G, EnvS X.K F B G H env σ ∧ ∀ v H' F' B', GS F B G F' B' → EnvS X.K F' B' G H' env' σ → Rep X.K F' d v → Q v H')
def popG {α : Type} (xs : List α) (i : Int) : Option (α × List α) :=
  if decide (-9223372036854775808 ≤ i) && decide (i < 9223372036854775808) then (match seqIndex? i xs.length with
    | some m => match xs[m]? with
      | some x => some (x, xs.eraseIdx m)
      | none => none
    | none => none) else none
theorem popG_ok {α : Type} {xs : List α} {i : Int} {r : α × List α} (h : popG xs i = some r) : -(2 ^ 63) ≤ i ∧ i < 2 ^ 63 ∧ ∃ m, seqIndex? i xs.length = some m ∧ xs[m]? = some r.1 ∧ r.2 = xs.eraseIdx m := by
  unfold popG at h
  split at h
  · next c =>
    simp only [Bool.and_eq_true, decide_eq_true_eq] at c
    cases e : seqIndex? i xs.length with
    | none => rw [e] at h; cases h
    | some m =>
      rw [e] at h
      cases e2 : xs[m]? with
      | none => simp only [e2] at h; cases h
      | some x => simp only [e2] at h; cases h; exact ⟨c.1, c.2, m, rfl, e2, rfl⟩
  · cases h
theorem popI_ {α : Type} {f : α → D} {xs : List α} {r : α × List α} (A : At X Γ N sc lv) (S : Sc N sc vl ll gl) (i : Nat) (hN : N[i]? = some n) (hv : vl.contains i = true) (he : env[i]? = some (some (.own (.lst (xs.map f))))) (hb : Ev X env b (.int j) k2) (h : popG xs j = some r) (hs : starEach [b] X.env = [(false, eval b X.env)]) (mx : Mx X (.Name n np) "pop" [b] apos cpos) :
    Em X env (env.set i (some (.own (.lst (r.2.map f))))) (.Call (.Attribute (.Name n np) "pop" apos) [b] [] cpos) (f r.1) := by
  obtain ⟨v1, v2⟩ := S.vis hv hN
  obtain ⟨p1, p2, _⟩ := plainB_ok v2
  obtain ⟨c1, c2, m, h1, h2, h3⟩ := popG_ok h
  refine ⟨(pe_bm PySem.F.plainAttrs_list PySem.F.slot_list_pop PySem.F.type_list_pop (fun pins s σ H x xs v us Q I r r2 h => mt_popAt pins s σ H x xs v us Q I r r2 h) (pe_var (by rw [A.eN]; exact hN) (A.eS.vis v1) p1 p2) (pa_cons hb.st.pe pa_nil hs) mx.base mx.few mx.line hs rfl).mono fun σ H Q ⟨F, B, G, E, q⟩ => ?_⟩
  obtain ⟨q1, vs, e1, e2, e3⟩ := E.own he
  refine ⟨_, e1, .inl ⟨rfl, vs, SqL.of e2⟩, F, B, E.e, fun u H2 F2 B2 g2 r2 => ?_⟩
  have ei := RepS.int g2.hs (RepK.any0 r2)
  subst ei
  have E' := E.grow g2
  have hl := e3.length
  rw [List.length_map] at hl
  obtain ⟨y, hy, ry⟩ := e3.get (i := m) (d := f r.1) (by rw [List.getElem?_map, h2]; rfl)
  refine ⟨q1, vs, j, m, y, rfl, rfl, g2.h _ _ e2, c1, c2, by rw [hl]; exact h1, hy, ?_⟩
  refine q _ _ F2 B2 (g2.gs E.gh) (E'.mut (d' := .lst (r.2.map f)) he e1 rfl ⟨_, upd_same, ?_⟩) (Rep.mono g2.f ry)
  rw [h3, show (xs.eraseIdx m).map f = (xs.map f).eraseIdx m from eraseIdx_map' f xs m]
  exact (e3.mono g2.f).eraseIdx m
def popE {α : Type} (xs : List α) : Option (α × List α) := match xs[xs.length - 1]? with
  | some x => some (x, xs.dropLast)
  | none => none
theorem popE_ {α : Type} {f : α → D} {xs : List α} {r : α × List α} (A : At X Γ N sc lv) (S : Sc N sc vl ll gl) (i : Nat) (hN : N[i]? = some n) (hv : vl.contains i = true) (he : env[i]? = some (some (.own (.lst (xs.map f))))) (h : popE xs = some r)
    (hb : attributeBase (.Name n np) "pop" X.env (eval (.Name n np) X.env) = eval (.Name n np) X.env) (hl : (apos.endLine == cpos.line) = true) :
    Em X env (env.set i (some (.own (.lst (r.2.map f))))) (.Call (.Attribute (.Name n np) "pop" apos) [] [] cpos) (f r.1) := by
  obtain ⟨v1, v2⟩ := S.vis hv hN
  obtain ⟨p1, p2, _⟩ := plainB_ok v2
  have h12 : xs[xs.length - 1]? = some r.1 ∧ r.2 = xs.dropLast := by
    unfold popE at h
    split at h
    · next x e => cases h; exact ⟨e, rfl⟩
    · cases h
  refine ⟨(pe_bm0 PySem.F.plainAttrs_list PySem.F.slot_list_pop PySem.F.type_list_pop (fun pins s σ H x xs v us Q I r r2 h => mt_pop pins s σ H x xs v us Q I r r2 h) (pe_var (by rw [A.eN]; exact hN) (A.eS.vis v1) p1 p2) hb hl).mono fun σ H Q ⟨F, B, G, E, q⟩ => ?_⟩
  obtain ⟨q1, vs, e1, e2, e3⟩ := E.own he
  have hl := e3.length
  rw [List.length_map] at hl
  obtain ⟨y, hy, ry⟩ := e3.get (i := xs.length - 1) (d := f r.1) (by rw [List.getElem?_map, h12.1]; rfl)
  refine ⟨_, e1, .inl ⟨rfl, vs, SqL.of e2⟩, q1, vs, y, rfl, rfl, e2, by rw [hl]; exact hy, ?_⟩
  refine q _ _ F B .refl (E.mut (d' := .lst (r.2.map f)) he e1 rfl ⟨_, upd_same, ?_⟩) ry
  rw [h12.2, List.map_dropLast]
  exact e3.dropLast
theorem setE_ (A : At X Γ N sc lv) (S : Sc N sc vl ll gl) (i : Nat) {pos' : Pos} (hN : N[i]? = some n) (hl : ll.contains i = true) (he : Em X env env' e d) (hs : swapsWith e (some (.Name n pos')) pos.line X.env = pure false)
    (h : SS X (env'.set i (some (.frz d))) rest Φ) : SS X env (.Assign [.Name n pos'] e pos :: rest) Φ :=
  ss_cons ⟨(ps_set (by rw [A.eN]; exact S.nd) (by rw [A.eN]; exact hN) (A.eS.loc (S.loc hl hN)) he.pe hs (A.fnl (S.loc hl hN))).mono fun Dd σ H ⟨F, B, G, E, P⟩ => ⟨F, B, G, E, fun v H' F' B' g E' r => P.nx _ _ _ F' B' g (E'.set (s := .frz d) r fun d' p es => nomatch es) h⟩⟩
theorem appE_ {α : Type} {en : α → D} {xs ys : List α} {x : α} (A : At X Γ N sc lv) (S : Sc N sc vl ll gl) (i : Nat) (hN : N[i]? = some n) (hv : vl.contains i = true) (he : env'[i]? = some (some (.own (.lst (xs.map en))))) (ha : Em X env env' e (en x)) (hk : heldOf .cln (en x) = .cln) (hG : appG xs x = some ys)
    (mx : Mx X (.Name n np) "append" [e] apos cpos) (hs : starEach [e] X.env = [(false, eval e X.env)]) (hsw : swapsWith (.Call (.Attribute (.Name n np) "append" apos) [e] [] cpos) none pos.line X.env = pure false) (heO : ∃ d0, env[i]? = some (some (.own (.lst d0))))
    (h : SS X (env'.set i (some (.own (.lst (ys.map en))))) rest Φ) : SS X env (.Expr (.Call (.Attribute (.Name n np) "append" apos) [e] [] cpos) pos :: rest) Φ := by
  obtain ⟨v1, v2⟩ := S.vis hv hN
  obtain ⟨p1, p2, _⟩ := plainB_ok v2
  obtain ⟨c1, e0⟩ := iteO hG
  subst e0
  obtain ⟨d0, heO⟩ := heO
  refine ss_cons ⟨(ps_expr (pe_bm PySem.F.plainAttrs_list PySem.F.slot_list_append PySem.F.type_list_append (fun pins s σ H x xs v us Q I r r2 h => mt_append pins s σ H x xs v us Q I r r2 h) (pe_var (by rw [A.eN]; exact hN) (A.eS.vis v1) p1 p2) (pa_cons ha.pe pa_nil hs) mx.base mx.few mx.line hs rfl) hsw).mono fun Dd σ H ⟨F, B, G, E, P⟩ => ?_⟩
  obtain ⟨q0, vs0, f1, f2, f3⟩ := E.own heO
  refine ⟨_, f1, .inl ⟨rfl, vs0, SqL.of f2⟩, F, B, G, E, fun v H' F' B' g E' r => ?_⟩
  obtain ⟨q, vs, h1, h2, h3⟩ := E'.own he
  rw [f1] at h1; cases h1
  refine ⟨q0, vs, v, rfl, rfl, h2, by rw [h3.length, List.length_map, line_eq]; exact c1, ?_⟩
  refine P.nx _ _ _ F' B' g (E'.mut (d' := .lst ((xs ++ [x]).map en)) he f1 rfl ⟨_, upd_same, ?_⟩) h
  rw [List.map_append]
  exact Reps.append h3 (.one r)
def strL (s : Str) : List Str := s.cps.toList.map fun c => ⟨#[c]⟩
theorem its_ok {K : PySem.W.Frag} {P F B : Hp} {s : Str} : ItOk K P F B (Its s) .c ((strL s).map D.str) := by
  have at_ : ∀ (i : Nat) d, ((strL s).map D.str)[i]? = some d → ∃ c, s.cps[i]? = some c ∧ d = .str ⟨#[c]⟩ := fun i d e => by
    unfold strL at e
    rw [List.getElem?_map, List.getElem?_map] at e
    cases q : s.cps.toList[i]? with
    | none => rw [q] at e; cases e
    | some c => rw [q] at e; cases e; exact ⟨c, by rw [← Array.getElem?_toList]; exact q, rfl⟩
  refine ⟨fun i d H _ e => ?_, fun i d H x H' _ e y => .inl ?_, fun H _ => ?_⟩
  · obtain ⟨c, h1, _⟩ := at_ i d e
    exact (Array.getElem?_eq_some_iff.mp h1).1
  · obtain ⟨c, h1, h2⟩ := at_ i d e
    obtain ⟨z, c', h3, h4⟩ := y
    rw [h1] at h3; cases h3
    subst h2 h4
    exact ⟨z, .str _⟩
  · show s.cps.size ≤ _
    unfold strL
    rw [List.length_map, List.length_map, Array.length_toList]
    exact Nat.le_refl _
theorem iterS_ (ha : Ev X env a (.str s) k1) : EI X env tg a ((strL s).map D.str) .c true :=
  ⟨(pi_str ha.st.pe).mono fun σ H R ⟨F, B, E, q⟩ => ⟨F, B, E, fun v H1 F1 B1 g r => ⟨s, RepS.str g.hs (RepK.any0 r), q _ H1 F1 B1 g its_ok⟩⟩⟩
def enumL {α : Type} (xs : List α) : List (Int × α) := xs.zipIdx.map fun p => ((p.2 : Int), p.1)
theorem enumL_get {α : Type} {xs : List α} {i : Nat} : (enumL xs)[i]? = xs[i]?.map fun x => ((i : Int), x) := by
  unfold enumL
  rw [List.getElem?_map, List.getElem?_zipIdx]
  cases xs[i]? with
  | none => rfl
  | some x => simp
theorem enumL_len {α : Type} (xs : List α) : (enumL xs).length = xs.length := by unfold enumL; rw [List.length_map, List.length_zipIdx]
theorem ite_ok {α : Type} {f : α → D} {xs : List α} {K : PySem.W.Frag} {P F B : Hp} {l : Addr} {vs : List V} {k : K2} (h : P l = some (.lst vs)) (r : repsK K F B P k.k (xs.map f) vs) : ItOk K P F B (Ite K l) k ((enumL xs).map fun x => .tup [.int x.1, f x.2]) := by
  have at_ : ∀ (i : Nat) d, ((enumL xs).map fun x => D.tup [.int x.1, f x.2])[i]? = some d → ∃ x, (xs.map f)[i]? = some (f x) ∧ d = .tup [.int (i : Int), f x] := fun i d e => by
    rw [List.getElem?_map, enumL_get] at e
    cases q : xs[i]? with
    | none => rw [q] at e; cases e
    | some x => rw [q] at e; cases e; exact ⟨x, by rw [List.getElem?_map, q]; rfl, rfl⟩
  refine ⟨fun i d H s e => ?_, fun i d H x H' s e y => .inr ?_, fun H s => ⟨vs, SqL.of (s _ _ h), by rw [r.len, List.length_map, List.length_map, enumL_len]; exact Nat.le_refl _⟩⟩
  · obtain ⟨x, e1, _⟩ := at_ i d e
    obtain ⟨u, e2, _⟩ := repsK.get (by cases k <;> simp) r e1
    exact ⟨vs, u, SqL.of (s _ _ h), e2⟩
  · obtain ⟨x0, e1, e3⟩ := at_ i d e
    obtain ⟨u, e2, r2⟩ := repsK.get (by cases k <;> simp) r e1
    obtain ⟨T, w, z1, z2, z3, z4⟩ := y
    have := z4 vs (SqL.of (s _ _ h))
    rw [e2] at this; cases this
    refine ⟨T, [.int (i : Nat), u], [.int (i : Int), f x0], z2, z3, z1, e3, ?_⟩
    cases k with
    | c => exact .cons (.int _) (.cons r2 .nil)
    | b => exact .cons (.int _) (.cons r2 .nil)
theorem enumLC_ {α : Type} {f : α → D} {xs : List α} {elts : List Expr} {kk : Nat} {tpos : Pos} (hg : Gl X "enumerate") (hm : X.mg "enumerate" = none) (ha : Ev X env a (.lst (xs.map f)) .cln) (hs : starEach [a] X.env = [(false, eval a X.env)]) :
    EI X env (.Tuple elts kk tpos) (.Call (.Name "enumerate" pn) [a] [] pos) ((enumL xs).map fun x => .tup [.int x.1, f x.2]) .c true :=
  ⟨(pi_enum hg hm (pa_cons ha.pe pa_nil hs) hs).mono fun σ H R ⟨F, B, E, q⟩ => ⟨F, B, E, fun v H1 F1 B1 g r => by
    cases (show Rep X.K F1 (.lst (xs.map f)) v from r) with
    | lst s t => exact ⟨_, _, rfl, SqL.of (g.hs.fh _ _ s), q _ H1 F1 B1 g (ite_ok (g.hs.fb _ _ s) t)⟩⟩⟩
theorem enumLB_ {α : Type} {f : α → D} {xs : List α} {elts : List Expr} {kk : Nat} {tpos : Pos} (hg : Gl X "enumerate") (hm : X.mg "enumerate" = none) (ha : Ev X env a (.lst (xs.map f)) .brw) (hs : starEach [a] X.env = [(false, eval a X.env)]) :
    EI X env (.Tuple elts kk tpos) (.Call (.Name "enumerate" pn) [a] [] pos) ((enumL xs).map fun x => .tup [.int x.1, f x.2]) .b true :=
  ⟨(pi_enum hg hm (pa_cons ha.pe pa_nil hs) hs).mono fun σ H R ⟨F, B, E, q⟩ => ⟨F, B, E, fun v H1 F1 B1 g r => by
    cases (show Rep X.K B1 (.lst (xs.map f)) v from r) with
    | lst s t => exact ⟨_, _, rfl, SqL.of (g.hs.bh _ _ s), q _ H1 F1 B1 g (ite_ok s t)⟩⟩⟩
end
end DL
namespace DL
open PySem PySem.Spec L2
open PyProof.Rows hiding St
open RZ
abbrev lexP (x y : Int × Int) : Bool := SrtO.lexB x y
def srtP (xs : List (Int × Int)) : List (Int × Int) := xs.mergeSort fun a b => !lexP b a
def srtG (xs : List (Int × Int)) : Option (List (Int × Int)) := some (srtP xs)
theorem lexP_total (a b : Int × Int) : ((!lexP b a) || (!lexP a b)) = true := by
  cases h : lexP b a with
  | false => rfl
  | true =>
    have := SrtO.lexB_iff.mp h
    rw [show lexP a b = false from SrtO.lexB_no.mpr (by omega)]; rfl
theorem lexP_trans (a b c : Int × Int) (h1 : (!lexP b a) = true) (h2 : (!lexP c b) = true) : (!lexP c a) = true := by
  have a1 := SrtO.lexB_no.mp (show SrtO.lexB b a = false by simpa using h1)
  have a2 := SrtO.lexB_no.mp (show SrtO.lexB c b = false by simpa using h2)
  rw [show lexP c a = false from SrtO.lexB_no.mpr (by omega)]; rfl
theorem srtP_perm (xs : List (Int × Int)) : (srtP xs).Perm xs := List.mergeSort_perm ..
theorem srtP_srt (xs : List (Int × Int)) : (srtP xs).Pairwise fun a b => SrtO.lexB b a = false := by
  have := List.pairwise_mergeSort (le := fun a b => !lexP b a) lexP_trans lexP_total xs
  exact this.imp fun h => by simpa using h
theorem srt_uniq {xs ys : List (Int × Int)} (hp : xs.Perm ys) (h1 : xs.Pairwise fun a b => SrtO.lexB b a = false) (h2 : ys.Pairwise fun a b => SrtO.lexB b a = false) : xs = ys := by
  refine List.Perm.eq_of_pairwise (le := fun a b => SrtO.lexB b a = false) (fun a b _ _ c1 c2 => ?_) h1 h2 hp
  have a1 := SrtO.lexB_no.mp c1
  have a2 := SrtO.lexB_no.mp c2
  exact Prod.ext (by omega) (by omega)
abbrev prD (p : Int × Int) : D := .tup [.int p.1, .int p.2]
theorem cr_sortedPD {X : Cx} : CallR X (.builtin "sorted") (fun vs H Q => ∃ (a : Addr) (xs : List V) (k : V → Int × Int), vs = [V.ref a] ∧ SqL X.K H a xs ∧ (∀ x ∈ xs, ∃ t, x = V.ref t ∧ SqT X.K H t [.int (k x).1, .int (k x).2]) ∧
    ∀ ys p, SrtO.Srtd (ltP k) ys → SrtO.Stb (ltP k) ys xs → H p = none → Q (.ref p) (upd H p (.lst ys))) := by
  intro pins s σ H vs us Q I r h
  obtain ⟨a, xs, k, rfl, hs, hx, q⟩ := h
  obtain ⟨its, rv, hl, hz⟩ := I.list hs
  obtain ⟨u, rfl, ru⟩ := vals1 r
  obtain rfl : u = Value.ref a := ru
  obtain ⟨e1, e2⟩ := refs_back rv fun x m => by
    obtain ⟨t, e, _⟩ := hx x m
    exact ⟨t, e⟩
  refine SrtO.sorted_pairsO (k := fun u => k (backV u)) hl.isList (by rw [← rv.length]; exact hz) (fun v hv => ?_) fun h' d out h1 h2 kp hd hn => ?_
  · obtain ⟨t, rfl⟩ := e2 v hv
    have hm : V.ref t ∈ xs := by rw [e1]; exact List.mem_map.mpr ⟨_, hv, rfl⟩
    obtain ⟨t', e, ht⟩ := hx _ hm
    cases e
    obtain ⟨its2, r2, ⟨o, ho, hc, n, hd⟩, _⟩ := I.tuple ht
    obtain ⟨u1, u2, rfl, ri, rj⟩ := vals2 r2
    obtain ⟨t1, rfl⟩ := ri
    obtain ⟨t2, rfl⟩ := rj
    exact ⟨t, o, t1, t2, n, rfl, ho, hc, hd⟩
  · have h3 : ∀ u ∈ out, ∃ a, u = Value.ref a := fun u hu => e2 u (h2.perm.mem_iff.mp hu)
    obtain ⟨n, hn⟩ := hn
    have hb : SrtO.Stb (ltP k) (out.map backV) xs := by
      rw [e1]
      exact SrtO.Stb.map (ltP_swo k) backV h2
    refine ⟨.ref d, upd H d (.lst (out.map backV)), I.laid (t' := s.toks) kp hd ⟨?_, out, n, vals_back h3, hn⟩, rfl, q _ d (SrtO.srtd_map h1) hb (I.hok.fresh hd)⟩
    rw [hb.len]
    exact hz
theorem rep_pr {X : Cx} {pins : List (Addr × Obj)} {σ : L2.St} {H : Hp} {s : Shared} {v : V} {p q : Int × Int} (I : Inv X pins σ H s) (h1 : Rep X.K H (prD p) v) (h2 : Rep X.K H (prD q) v) : p = q := by
  cases h1 with
  | tup a1 b1 =>
    cases h2 with
    | tup a2 b2 =>
      have e := I.tuple_inj a1 a2
      subst e
      cases b1 with
      | cons c1 d1 =>
        cases b2 with
        | cons c2 d2 =>
          cases d1 with
          | cons e1 f1 =>
            cases d2 with
            | cons e2 f2 =>
              have z1 : p.1 = q.1 := by generalize p.1 = x1 at c1; generalize q.1 = x2 at c2; cases c1; cases c2; rfl
              have z2 : p.2 = q.2 := by generalize p.2 = x1 at e1; generalize q.2 = x2 at e2; cases e1; cases e2; rfl
              exact Prod.ext z1 z2
theorem reps_mem {K : PySem.W.Frag} {Z : Hp} {k : V → Int × Int} : ∀ {ps : List (Int × Int)} {xs : List V}, Reps K Z (ps.map prD) xs → (∀ p v, Rep K Z (prD p) v → k v = p) → xs.map k = ps ∧ ∀ x ∈ xs, Rep K Z (prD (k x)) x
  | [], _, .nil, _ => ⟨rfl, fun x hx => nomatch hx⟩
  | p :: ps, _, .cons r t, h => by
    obtain ⟨h1, h2⟩ := reps_mem t h
    have e := h _ _ r
    refine ⟨by rw [List.map_cons, h1, e], fun x hx => ?_⟩
    rcases List.mem_cons.mp hx with z | z
    · subst z; rw [e]; exact r
    · exact h2 x z
theorem reps_of {K : PySem.W.Frag} {Z : Hp} {k : V → Int × Int} : ∀ {ys : List V}, (∀ y ∈ ys, Rep K Z (prD (k y)) y) → Reps K Z ((ys.map k).map prD) ys
  | [], _ => .nil
  | y :: ys, h => .cons (h y (List.mem_cons_self ..)) (reps_of fun z hz => h z (List.mem_cons_of_mem _ hz))
theorem cr_srtP {X : Cx} : CallR X (.builtin "sorted") (fun vs H Q => ∃ (a : Addr) (xs : List V) (ps : List (Int × Int)), vs = [V.ref a] ∧ SqL X.K H a xs ∧ Reps X.K H (ps.map prD) xs ∧
    ∀ ys p, (∀ Z : Hp, Same Z H → Reps X.K Z (ps.map prD) xs → Reps X.K Z ((srtP ps).map prD) ys) → H p = none → Q (.ref p) (upd H p (.lst ys))) := by
  intro pins s σ H vs us Q I r h
  obtain ⟨a, xs, ps, rfl, hs, hx, q⟩ := h
  classical
  let k : V → Int × Int := fun v => if h : ∃ p, Rep X.K H (prD p) v then Classical.choose h else (0, 0)
  have hk : ∀ p v, Rep X.K H (prD p) v → k v = p := fun p v r => by
    have ex : ∃ p, Rep X.K H (prD p) v := ⟨p, r⟩
    show (if h : ∃ p, Rep X.K H (prD p) v then Classical.choose h else (0, 0)) = p
    rw [dif_pos ex]
    exact rep_pr I (Classical.choose_spec ex) r
  obtain ⟨k1, k2⟩ := reps_mem hx hk
  refine cr_sortedPD pins s σ H _ us Q I r ⟨a, xs, k, rfl, hs, fun x hm => ?_, fun ys p h1 h2 hp => ?_⟩
  · cases k2 x hm with
    | tup a1 b1 =>
      cases b1 with
      | cons c1 d1 =>
        cases d1 with
        | cons e1 f1 => cases c1; cases e1; cases f1; exact ⟨_, rfl, a1⟩
  · refine q ys p (fun Z sz rz => ?_) hp
    have hkz : ∀ p v, Rep X.K Z (prD p) v → k v = p := fun p v r => hk p v (Rep.mono sz r)
    obtain ⟨m1, m2⟩ := reps_mem rz hkz
    have e : ys.map k = srtP ps := by
      refine srt_uniq ?_ (List.pairwise_map.mpr h1) (srtP_srt ps)
      exact ((h2.perm.map k).trans (by rw [m1])).trans (srtP_perm ps).symm
    rw [← e]
    exact reps_of fun y hy => m2 y (h2.perm.mem_iff.mp hy)
section
variable {X : Cx} {Γ : Gd} {N : List Str} {sc : Scope} {lv : Nat} {vl ll : List Nat} {gl : List Str} {env env' : DEnv} {Φ : Outs} {rest : List Stmt} {tg e a b : Expr} {es : List Expr} {ds : List D} {d : D} {k k1 k2 : Kd} {pos pn np apos cpos : Pos} {s t n : Str} {i j : Int} {x y : D} {p : Bool} {kz : K2}
theorem srtPL_ {ps qs : List (Int × Int)} (bn : Bn X "sorted" (.builtin "sorted")) (ha : Ev X env a (.lst (ps.map prD)) k1) (h : srtG ps = some qs) (he : starEach [a] X.env = [(false, eval a X.env)]) : Ev X env (.Call (.Name "sorted" pn) [a] [] pos) (.lst (qs.map prD)) k1.kid.mk := by
  cases h
  exact ev_call1 cr_srtP bn ha (fun F B H v Q s r1 q => by
    obtain ⟨a, vs, rfl, e2, r⟩ := r1.lst s
    refine ⟨a, vs, ps, rfl, SqL.of e2, r.reps s, fun ys p hy hp => ?_⟩
    have r2 : repsK X.K F B H k1.kid ((srtP ps).map prD) ys := by
      cases k1 with
      | drt => exact hy H (.refl _) r
      | brw => exact hy B s.bh r
      | own => exact hy F s.fh r
      | cln => exact hy F s.fh r
      | shl => exact hy F s.fh r
    exact new_lst (kid_cases _) s r2 (fun w H2 F2 B2 g2 r2 => q w H2 F2 B2 g2 (by rw [mk_eq (kid_cases _)] at r2; exact r2)) p hp) he
theorem itzL_ok {α β : Type} {f : α → D} {g : β → D} {xs : List α} {ys : List β} {K : PySem.W.Frag} {P F B : Hp} {l1 l2 : Addr} {vs us : List V} {k : K2} (h1 : P l1 = some (.lst vs)) (h2 : P l2 = some (.lst us)) (r1 : repsK K F B P k.k (xs.map f) vs) (r2 : repsK K F B P k.k (ys.map g) us) : ItOk K P F B (Itz K l1 l2) k ((List.zip xs ys).map fun x => .tup [f x.1, g x.2]) := by
  have at_ : ∀ (i : Nat) d, ((List.zip xs ys).map fun x => D.tup [f x.1, g x.2])[i]? = some d → ∃ x y, (xs.map f)[i]? = some (f x) ∧ (ys.map g)[i]? = some (g y) ∧ d = .tup [f x, g y] := fun i d e => by
    rw [List.getElem?_map] at e
    cases q : (List.zip xs ys)[i]? with
    | none => rw [q] at e; cases e
    | some x =>
      rw [q] at e; cases e
      rw [List.getElem?_zip_eq_some] at q
      exact ⟨x.1, x.2, by rw [List.getElem?_map, q.1]; rfl, by rw [List.getElem?_map, q.2]; rfl, rfl⟩
  refine ⟨fun i d H s e => ?_, fun i d H x H' s e y => .inr ?_, fun H s => ⟨vs, us, SqL.of (s _ _ h1), SqL.of (s _ _ h2), by rw [r1.len, r2.len, List.length_map, List.length_map, List.length_map, List.length_zip]; omega⟩⟩
  · obtain ⟨x, y, e1, e2, _⟩ := at_ i d e
    obtain ⟨u, c1, _⟩ := repsK.get (by cases k <;> simp) r1 e1
    obtain ⟨w, c2, _⟩ := repsK.get (by cases k <;> simp) r2 e2
    exact ⟨vs, us, u, w, SqL.of (s _ _ h1), SqL.of (s _ _ h2), c1, c2⟩
  · obtain ⟨x0, y0, e1, e2, e3⟩ := at_ i d e
    obtain ⟨u, c1, q1⟩ := repsK.get (by cases k <;> simp) r1 e1
    obtain ⟨w, c2, q2⟩ := repsK.get (by cases k <;> simp) r2 e2
    obtain ⟨T, a1, a2, z1, z2, z3, z4, z5⟩ := y
    have m1 := z4 vs (SqL.of (s _ _ h1))
    have m2 := z5 us (SqL.of (s _ _ h2))
    rw [c1] at m1; cases m1
    rw [c2] at m2; cases m2
    refine ⟨T, [u, w], [f x0, g y0], z2, z3, z1, e3, ?_⟩
    cases k with
    | c => exact .cons q1 (.cons q2 .nil)
    | b => exact .cons q1 (.cons q2 .nil)
theorem zipLC_ {α β : Type} {f : α → D} {g : β → D} {xs : List α} {ys : List β} {elts : List Expr} {kk : Nat} {tpos : Pos} (hg : Gl X "zip") (hm : X.mg "zip" = none) (ha : Ev X env a (.lst (xs.map f)) .cln) (hb : Ev X env b (.lst (ys.map g)) .cln) (hs : starEach [a, b] X.env = (false, eval a X.env) :: starEach [b] X.env) (hs2 : starEach [b] X.env = (false, eval b X.env) :: starEach [] X.env) :
    EI X env (.Tuple elts kk tpos) (.Call (.Name "zip" pn) [a, b] [] pos) ((List.zip xs ys).map fun x => .tup [f x.1, g x.2]) .c true :=
  ⟨(pi_zipA hg hm (pa_cons ha.pe (pa_cons hb.pe pa_nil hs2) hs) hs (by rw [hs2]; rfl)).mono fun σ H R ⟨F, B, E, q⟩ => ⟨F, B, E, fun v H1 F1 B1 g r => ⟨F1, B1, E.grow g, fun u H2 F2 B2 g2 r2 => by
    cases (show Rep X.K F1 (.lst (xs.map f)) v from r) with
    | lst s1 t1 =>
      cases (show Rep X.K F2 (.lst (ys.map _)) u from r2) with
      | lst s2 t2 =>
        have s1' := g2.f _ _ s1
        have t1' := Reps.mono g2.f t1
        have g := g.trans g2
        exact ⟨_, _, _, _, rfl, .inl ⟨SqL.of (g.hs.fh _ _ s1'), SqL.of (g.hs.fh _ _ s2), q _ H2 F2 B2 g (itzL_ok (g.hs.fb _ _ s1') (g.hs.fb _ _ s2) t1' t2)⟩⟩⟩⟩⟩
theorem zipLB_ {α β : Type} {f : α → D} {g : β → D} {xs : List α} {ys : List β} {elts : List Expr} {kk : Nat} {tpos : Pos} (hg : Gl X "zip") (hm : X.mg "zip" = none) (ha : Ev X env a (.lst (xs.map f)) .brw) (hb : Ev X env b (.lst (ys.map g)) .brw) (hs : starEach [a, b] X.env = (false, eval a X.env) :: starEach [b] X.env) (hs2 : starEach [b] X.env = (false, eval b X.env) :: starEach [] X.env) :
    EI X env (.Tuple elts kk tpos) (.Call (.Name "zip" pn) [a, b] [] pos) ((List.zip xs ys).map fun x => .tup [f x.1, g x.2]) .b true :=
  ⟨(pi_zipA hg hm (pa_cons ha.pe (pa_cons hb.pe pa_nil hs2) hs) hs (by rw [hs2]; rfl)).mono fun σ H R ⟨F, B, E, q⟩ => ⟨F, B, E, fun v H1 F1 B1 g r => ⟨F1, B1, E.grow g, fun u H2 F2 B2 g2 r2 => by
    cases (show Rep X.K B1 (.lst (xs.map f)) v from r) with
    | lst s1 t1 =>
      cases (show Rep X.K B2 (.lst (ys.map _)) u from r2) with
      | lst s2 t2 =>
        have s1' := g2.b _ _ s1
        have t1' := Reps.mono g2.b t1
        have g := g.trans g2
        exact ⟨_, _, _, _, rfl, .inl ⟨SqL.of (g.hs.bh _ _ s1'), SqL.of (g.hs.bh _ _ s2), q _ H2 F2 B2 g (itzL_ok (s1') (s2) t1' t2)⟩⟩⟩⟩⟩
theorem itzT_ok {α β : Type} {f : α → D} {g : β → D} {xs : List α} {ys : List β} {K : PySem.W.Frag} {P F B : Hp} {l1 l2 : Addr} {vs us : List V} {k : K2} (h1 : SqT K P l1 vs) (h2 : SqT K P l2 us) (r1 : repsK K F B P k.k (xs.map f) vs) (r2 : repsK K F B P k.k (ys.map g) us) : ItOk K P F B (ItzT K l1 l2) k ((List.zip xs ys).map fun x => .tup [f x.1, g x.2]) := by
  have at_ : ∀ (i : Nat) d, ((List.zip xs ys).map fun x => D.tup [f x.1, g x.2])[i]? = some d → ∃ x y, (xs.map f)[i]? = some (f x) ∧ (ys.map g)[i]? = some (g y) ∧ d = .tup [f x, g y] := fun i d e => by
    rw [List.getElem?_map] at e
    cases q : (List.zip xs ys)[i]? with
    | none => rw [q] at e; cases e
    | some x =>
      rw [q] at e; cases e
      rw [List.getElem?_zip_eq_some] at q
      exact ⟨x.1, x.2, by rw [List.getElem?_map, q.1]; rfl, by rw [List.getElem?_map, q.2]; rfl, rfl⟩
  refine ⟨fun i d H s e => ?_, fun i d H x H' s e y => .inr ?_, fun H s => ⟨vs, us, Same.seqT s h1, Same.seqT s h2, by rw [r1.len, r2.len, List.length_map, List.length_map, List.length_map, List.length_zip]; omega⟩⟩
  · obtain ⟨x, y, e1, e2, _⟩ := at_ i d e
    obtain ⟨u, c1, _⟩ := repsK.get (by cases k <;> simp) r1 e1
    obtain ⟨w, c2, _⟩ := repsK.get (by cases k <;> simp) r2 e2
    exact ⟨vs, us, u, w, Same.seqT s h1, Same.seqT s h2, c1, c2⟩
  · obtain ⟨x0, y0, e1, e2, e3⟩ := at_ i d e
    obtain ⟨u, c1, q1⟩ := repsK.get (by cases k <;> simp) r1 e1
    obtain ⟨w, c2, q2⟩ := repsK.get (by cases k <;> simp) r2 e2
    obtain ⟨T, a1, a2, z1, z2, z3, z4, z5⟩ := y
    have m1 := z4 vs (Same.seqT s h1)
    have m2 := z5 us (Same.seqT s h2)
    rw [c1] at m1; cases m1
    rw [c2] at m2; cases m2
    refine ⟨T, [u, w], [f x0, g y0], z2, z3, z1, e3, ?_⟩
    cases k with
    | c => exact .cons q1 (.cons q2 .nil)
    | b => exact .cons q1 (.cons q2 .nil)
theorem zipTC_ {α β : Type} {f : α → D} {g : β → D} {xs : List α} {ys : List β} {elts : List Expr} {kk : Nat} {tpos : Pos} (hg : Gl X "zip") (hm : X.mg "zip" = none) (ha : Ev X env a (.tup (xs.map f)) .cln) (hb : Ev X env b (.tup (ys.map g)) .cln) (hs : starEach [a, b] X.env = (false, eval a X.env) :: starEach [b] X.env) (hs2 : starEach [b] X.env = (false, eval b X.env) :: starEach [] X.env) :
    EI X env (.Tuple elts kk tpos) (.Call (.Name "zip" pn) [a, b] [] pos) ((List.zip xs ys).map fun x => .tup [f x.1, g x.2]) .c true :=
  ⟨(pi_zipA hg hm (pa_cons ha.pe (pa_cons hb.pe pa_nil hs2) hs) hs (by rw [hs2]; rfl)).mono fun σ H R ⟨F, B, E, q⟩ => ⟨F, B, E, fun v H1 F1 B1 g r => ⟨F1, B1, E.grow g, fun u H2 F2 B2 g2 r2 => by
    cases (show Rep X.K F1 (.tup (xs.map f)) v from r) with
    | tup s1 t1 =>
      cases (show Rep X.K F2 (.tup (ys.map _)) u from r2) with
      | tup s2 t2 =>
        have s1' := Same.seqT g2.f s1
        have t1' := Reps.mono g2.f t1
        have g := g.trans g2
        exact ⟨_, _, _, _, rfl, .inr ⟨Same.seqT g.hs.fh s1', Same.seqT g.hs.fh s2, q _ H2 F2 B2 g (itzT_ok (Same.seqT g.hs.fb s1') (Same.seqT g.hs.fb s2) t1' t2)⟩⟩⟩⟩⟩
theorem zipTB_ {α β : Type} {f : α → D} {g : β → D} {xs : List α} {ys : List β} {elts : List Expr} {kk : Nat} {tpos : Pos} (hg : Gl X "zip") (hm : X.mg "zip" = none) (ha : Ev X env a (.tup (xs.map f)) .brw) (hb : Ev X env b (.tup (ys.map g)) .brw) (hs : starEach [a, b] X.env = (false, eval a X.env) :: starEach [b] X.env) (hs2 : starEach [b] X.env = (false, eval b X.env) :: starEach [] X.env) :
    EI X env (.Tuple elts kk tpos) (.Call (.Name "zip" pn) [a, b] [] pos) ((List.zip xs ys).map fun x => .tup [f x.1, g x.2]) .b true :=
  ⟨(pi_zipA hg hm (pa_cons ha.pe (pa_cons hb.pe pa_nil hs2) hs) hs (by rw [hs2]; rfl)).mono fun σ H R ⟨F, B, E, q⟩ => ⟨F, B, E, fun v H1 F1 B1 g r => ⟨F1, B1, E.grow g, fun u H2 F2 B2 g2 r2 => by
    cases (show Rep X.K B1 (.tup (xs.map f)) v from r) with
    | tup s1 t1 =>
      cases (show Rep X.K B2 (.tup (ys.map _)) u from r2) with
      | tup s2 t2 =>
        have s1' := Same.seqT g2.b s1
        have t1' := Reps.mono g2.b t1
        have g := g.trans g2
        exact ⟨_, _, _, _, rfl, .inr ⟨Same.seqT g.hs.bh s1', Same.seqT g.hs.bh s2, q _ H2 F2 B2 g (itzT_ok (s1') (s2) t1' t2)⟩⟩⟩⟩⟩
def srtI (xs : List Int) : List Int := xs.mergeSort fun a b => decide (a ≤ b)
theorem srtIL_ {ns : List Int} (bn : Bn X "sorted" (.builtin "sorted")) (ha : Ev X env a (.lst (ns.map D.int)) k1) (he : starEach [a] X.env = [(false, eval a X.env)]) : Ev X env (.Call (.Name "sorted" pn) [a] [] pos) (.lst ((srtI ns).map D.int)) .own := by
  exact ev_call1 cr_sortedI bn ha (fun F B H v Q s r1 q => by
    obtain ⟨a, vs, rfl, e2, r⟩ := r1.lst s
    have ev := reps_ints (r.reps s)
    subst ev
    refine ⟨a, ns, rfl, SqL.of e2, fun ns' p hp hs hn => ?_⟩
    have e : ns' = srtI ns := by
      refine List.Perm.eq_of_pairwise (le := (· ≤ ·)) (fun a b _ _ c1 c2 => Int.le_antisymm c1 c2) hs ?_ (hp.trans (List.mergeSort_perm ..).symm)
      have := List.pairwise_mergeSort (le := fun a b : Int => decide (a ≤ b)) (fun a b c h1 h2 => decide_eq_true (Int.le_trans (of_decide_eq_true h1) (of_decide_eq_true h2))) (fun a b => by
        by_cases h : a ≤ b
        · simp [h]
        · simp [h]; omega) ns
      exact this.imp fun h => of_decide_eq_true h
    subst e
    have rr : ∀ ms : List Int, Reps X.K F (ms.map D.int) (ms.map V.int) := fun ms => by
      induction ms with
      | nil => exact .nil
      | cons m ms ih => exact .cons (.int m) ih
    exact new_lst (kk := .cln) (.inl rfl) s (rr _) (fun w H2 F2 B2 g2 r2 => q w H2 F2 B2 g2 r2) p hn) he
end
section
variable {prog : Program} {w : World} {A : Around} {E : Value → Shared → Prop} {s : Shared}
theorem sliceApplied_rev {sl : Addr} {vl vu vs : Value} {n : Nat} {Q : Int × Int × Nat → Shared → Prop} (hs : s.heap.IsSliceOf sl vl vu vs) (pl : IsPart vl none) (pu : IsPart vu none) (ps : IsPart vs (some (-1)))
    (h : Q (((n : Int) - 1), -1, n) s) : wpAny (model prog w) A (Builtin.Slice.sliceApplied (.ref sl) (pure (n : Int))) Q E s := by
  obtain ⟨os, hos, hcs, hds⟩ := id hs
  unfold Builtin.Slice.sliceApplied Builtin.Slice.sliceFields
  refine wpAny_bind (wpAny_bind (wpAny_field hos hds (x := vl) rfl (wpAny_bind (wpAny_field hos hds (x := vu) rfl (wpAny_bind (wpAny_field hos hds (x := vs) rfl (wpAny_pure ?_)))))))
  refine wpAny_bind (HT.slicePart_ ps ?_)
  show wpAny _ _ (if ((-1 : Int) == 0) = true then _ else _) _ _ s
  rw [if_neg (by decide)]
  refine wpAny_bind (HT.slicePart_ pl (wpAny_bind (HT.slicePart_ pu (wpAny_bind (wpAny_pure ?_)))))
  show wpAny _ _ (match Builtin.Slice.sliceAdjust none none (-1) (n : Int) with | (lo, hi) => pure (lo, (-1 : Int), Builtin.Slice.slicePlaces lo hi (-1))) _ _ s
  rw [show Builtin.Slice.sliceAdjust none none (-1) (n : Int) = ((n : Int) - 1, -1) by
    unfold Builtin.Slice.sliceAdjust
    simp]
  show wpAny _ _ (pure (((n : Int) - 1), (-1 : Int), Builtin.Slice.slicePlaces ((n : Int) - 1) (-1) (-1))) _ _ s
  rw [show Builtin.Slice.slicePlaces ((n : Int) - 1) (-1) (-1) = n by
    unfold Builtin.Slice.slicePlaces
    simp
    omega]
  exact wpAny_pure h
theorem pick_rev (xs : Array Value) : ((List.range xs.size).filterMap fun (m : Nat) => xs[((xs.size : Int) - 1 + (m : Int) * -1).toNat]?) = xs.toList.reverse := by
  apply List.ext_getElem?
  intro i
  have e : ((List.range xs.size).filterMap fun (m : Nat) => xs[((xs.size : Int) - 1 + (m : Int) * -1).toNat]?) = (List.range xs.size).map fun m => xs.getD (xs.size - 1 - m) .none := by
    have : ∀ l : List Nat, (∀ m ∈ l, m < xs.size) → (l.filterMap fun (m : Nat) => xs[((xs.size : Int) - 1 + (m : Int) * -1).toNat]?) = l.map fun m => xs.getD (xs.size - 1 - m) .none := by
      intro l
      induction l with
      | nil => intro _; rfl
      | cons m l ih =>
        intro h
        have hm := h m (List.mem_cons_self ..)
        have e1 : ((xs.size : Int) - 1 + (m : Int) * -1).toNat = xs.size - 1 - m := by omega
        rw [List.filterMap_cons, e1, Array.getElem?_eq_getElem (by omega), List.map_cons, ih fun z hz => h z (List.mem_cons_of_mem _ hz)]
        show _ :: _ = _
        rw [Array.getD_eq_getD_getElem?, Array.getElem?_eq_getElem (by omega)]; rfl
    exact this _ fun m hm => List.mem_range.mp hm
  rw [e, List.getElem?_map]
  by_cases hi : i < xs.size
  · rw [List.getElem?_range hi, List.getElem?_reverse (by simpa using hi)]
    show some (xs.getD (xs.size - 1 - i) .none) = _
    rw [Array.getD_eq_getD_getElem?, Array.getElem?_eq_getElem (by omega), Array.length_toList, List.getElem?_eq_getElem (by rw [Array.length_toList]; omega)]
    simp
  · rw [List.getElem?_eq_none (by rw [List.length_range]; omega), List.getElem?_eq_none (by rw [List.length_reverse, Array.length_toList]; omega)]; rfl
theorem getItem_tuple_rev {t sl : Addr} {items : Array Value} {vl vu vs : Value} {Q : Value → Shared → Prop} (ht : IsTup s.heap t items) (hs : s.heap.IsSliceOf sl vl vu vs) (pl : IsPart vl none) (pu : IsPart vu none) (ps : IsPart vs (some (-1)))
    (h : Q (.ref s.heap.objs.size) { s with heap := s.heap.push { cls := .type "tuple", data := .seq items.toList.reverse.toArray } })
    (hsz : items.size ≤ sizeLine) : wpAny (model prog w) A (getItem (.ref t) (.ref sl)) Q E s := by
  have htake : sizeOk (.seq items.toList.reverse.toArray) := by
    show items.toList.reverse.toArray.size ≤ sizeLine
    rw [List.size_toArray, List.length_reverse, Array.length_toList]
    omega
  obtain ⟨os, hos, hcs, hds⟩ := id hs
  have hTs : s.TypeIs (.ref sl) "slice" := ⟨os, hos, hcs⟩
  unfold getItem
  try with_reducible refine wpAny_holding ?_
  first | refine wpAny_bind (wpAny_pure ?_) | skip
  refine wpAny_bind (wpAny_sequenceKey ht.typeIs (by decide) ?_)
  refine wpAny_bind (wpAny_callSpecial?_slot (name := Str.ofString "__getitem__") ht.typeIs PyProof.Rows.slot_tuple_getitem
    (wpAny_call_entry PyProof.Rows.slot_tuple_getitem ht.typeIs entry_tuple_getitem ?_ (args_tuple_getitem _ _)))
  show wpAny _ _ (Builtin.Tuple.tupleItemsOf (.ref t) >>= _) _ _ s
  refine wpAny_bind (tupleItemsOf_ ht ?_)
  refine wpAny_bind (wpAny_typeOf hTs ?_)
  rw [if_pos (by decide)]
  refine wpAny_bind (sliceApplied_rev hs pl pu ps ?_)
  show wpAny _ _ (if ((((items.size : Int) - 1) == 0) && (-1 : Int) == 1 && (items.size == items.size)) = true then _ else _) _ _ s
  rw [if_neg (by simp), pick_rev]
  first
    | exact wpAny_bind (m := Builtin.Tuple.tupleExact _) (wpAny_newObj_type (wpAny_pure ⟨_, rfl, wpAny_pure h⟩) htake)
    | exact wpAny_bind (m := Builtin.Tuple.tupleExact _) (wpAny_newObj_type (wpAny_bind (wpAny_pure (wpAny_pure ⟨_, rfl, wpAny_pure h⟩))) htake)
    | exact wpAny_bind (wpAny_bind (m := Builtin.Tuple.tupleExact _) (wpAny_newObj_type (wpAny_pure (wpAny_pure ⟨_, rfl, wpAny_pure h⟩)) htake))
    | exact wpAny_bind (wpAny_bind (m := Builtin.Tuple.tupleExact _) (wpAny_newObj_type (wpAny_pure ⟨_, rfl, wpAny_pure h⟩) htake))
end
def tRevT (K : PySem.W.Frag) (te : TE) : TE := fun σ H Q => te σ H fun x H1 => ∃ a xs, x = .ref a ∧ SqT K H1 a xs ∧ ∀ p, H1 p = none → Q (.ref p) (upd H1 p (.tup xs.reverse))
theorem pe_revT {X : Cx} {e : Expr} {te : TE} {k : Nat} {p1 p2 p3 pos : Pos} (he : PE X e te) : PE X (.Subscript e (.Slice none none (some (.UnaryOp .USub (.Constant (.int 1) k p1) p2)) p3) pos) (tRevT X.K te) := by
  refine ⟨fun pins s σ H Q I h => ?_⟩
  refine Subscript_ (thn (he.run pins s σ H _ I h) fun v s1 ⟨x, H1, I1, r1, q1⟩ => ?_)
  obtain ⟨a, xs, ex, hx, q⟩ := q1
  subst ex
  cases r1
  have hst : PO X (some (.UnaryOp .USub (.Constant (.int 1) k p1) p2)) (tPart (tUn (rU fun i => .int (-i)) (tC (.int 1)))) := po_some (pe_un un_neg pe_int)
  refine wpAny_Slice (thn (po_none.run pins s1 σ H1 (fun o H2 => o = none ∧ H2 = H1) I1 ⟨rfl, rfl⟩) fun vl s2 ⟨l, H2, I2, pl, el, e2⟩ => ?_)
  subst el e2
  refine thn (po_none.run pins s2 σ H2 (fun o H3 => o = none ∧ H3 = H2) I2 ⟨rfl, rfl⟩) fun vu s3 ⟨u, H3, I3, pu, eu, e3⟩ => ?_
  subst eu e3
  refine thn (hst.run pins s3 σ H3 (fun o H4 => o = some (-1) ∧ H4 = H3) I3 ⟨1, rfl, -1, rfl, rfl, rfl⟩) fun vs s4 ⟨o, H4, I4, ps, eo, e4⟩ => ?_
  subst eo e4
  have I5 : Inv X pins σ H4 { s4 with heap := s4.heap.push { cls := .type "slice", data := .fields #[vl, vu, vs] } } := I4.kept (t' := s4.toks) fun b ob q => Heap.get?_push_of_some _ q
  obtain ⟨its, r, ht, hz⟩ := I5.tuple hx
  have hlen := r.length
  show wpAny (model X.prog X.w) X.A (subscriptTail e (.Slice none none (some (.UnaryOp .USub (.Constant (.int 1) k p1) p2)) p3) (.ref a) (.ref s4.heap.objs.size)) (EP X pins σ Q) X.xe { s4 with heap := s4.heap.push { cls := .type "slice", data := .fields #[vl, vu, vs] } }
  refine tail_any (ops := [.ref a, .ref s4.heap.objs.size]) ht.typeIs PyProof.Rows.slot_tuple_getitem.lookup ?_ (by with_unfolding_all rfl)
  refine getItem_tuple_rev ht (Heap.IsSliceOf.new _ vl vu vs) pl pu ps ?_ (by rw [List.size_toArray]; omega)
  refine ⟨.ref _, _, I5.laid (t' := s4.toks) (o := .tup xs.reverse) (fun b ob q => Heap.get?_push_of_some _ q) (Nat.le_refl _) ?_, rfl, q _ (I5.hok.fresh (Nat.le_refl _))⟩
  have rv : ∀ {xs : List V} {us : List Value}, Vals xs us → Vals xs.reverse us.reverse := fun {xs us} r => by
    induction r with
    | nil => exact .nil
    | cons a t ih => rw [List.reverse_cons, List.reverse_cons]; exact Vals.append ih (.cons a .nil)
  exact ⟨by rw [List.length_reverse]; exact hz, _, rv r, IsTup.new _ _⟩
section
variable {X : Cx} {env : DEnv} {a : Expr} {k1 : Kd} {pos : Pos}
theorem revT_ {α : Type} {f : α → D} {xs : List α} {kk : Nat} {p1 p2 p3 : Pos} (ha : Ev X env a (.tup (xs.map f)) k1) : Ev X env (.Subscript a (.Slice none none (some (.UnaryOp .USub (.Constant (.int 1) kk p1) p2)) p3) pos) (.tup (xs.reverse.map f)) k1.kid := by
  rw [List.map_reverse]
  refine ⟨(pe_revT ha.st.pe).mono fun σ H Q ⟨F, B, E, q⟩ => ⟨F, B, E, fun v H1 F1 B1 g r1 => ?_⟩⟩
  obtain ⟨a, vs, e1, e2, r⟩ := RepS.tup g.hs (RepK.any0 r1)
  refine ⟨a, vs, e1, e2, new_tup (kid_cases _) g.hs (?_ : repsK _ _ _ _ k1.kid (xs.map f).reverse _) fun w H2 F2 B2 g2 r2 => q w H2 F2 B2 (g.trans g2) (RepK.back g.h r2)⟩
  cases k1 <;> exact Reps.reverse r
end
end DL
namespace DL
open PySem PySem.Spec L2
open PyProof.Rows hiding St
section
variable {X : Cx} {Γ : Gd} {N : List Str} {sc : Scope} {lv lc : Nat} {vl ll : List Nat} {gl : List Str} {env env' : DEnv} {e : Expr} {es : List Expr} {ds zs dds : List D} {d : D} {ka kb kk k1 k2 : Kd} {pos p kpos : Pos} {n : Str} {R : Rel} {kws : List Keyword} {nm : Option Str}
theorem Cal.ev0 (C : Cal Γ n R lc dds) (A : At X Γ N sc lv) (S : Sc N sc vl ll gl) (j : Nat) (hg : gl[j]? = some n) (hl : lc ≤ lv) (hkr : kk = .own ∨ kk = .cln ∨ kk = .brw) (hR : R dds d kk) : Ev X env (.Call (.Name n p) [] [] pos) d (retK .cln kk) := by
  obtain ⟨f, fd, ps, dvs, dus, h1, h2, h3, h4, h5, h6⟩ := C.ex
  have eP := A.eP; have eW := A.eW; have eK := A.eK; have eM := A.eM; have eB := A.eB
  rw [← eP, ← eW, ← eK, ← eM, ← eB] at h1
  rw [← eM] at h2
  rw [← eK] at h3 h4 h6
  exact ev_call0 h1 (A.room.mono hl) (glo A S j hg) h2 h3 h4 h5 h6 hR hkr (plainB_ok (S.glo hg).2).1
structure EK (X : Cx) (env : DEnv) (kws : List Keyword) (ds : List D) (k : Kd) : Prop where
  pk : PK X kws (tEA X.K env ds k)
theorem _root_.L2.PK.mono {X : Cx} {e : List Keyword} {t t' : TA} (h : PK X e t) (m : ∀ σ H Q, t' σ H Q → t σ H Q) : PK X e t' := ⟨fun pos pins s σ H Q I q => h.run pos pins s σ H Q I (m σ H Q q)⟩
theorem ek_nil : EK X env [] [] .cln := ⟨pk_nil.mono fun σ H Q ⟨F, B, E, q⟩ => q [] H F B (.refl E.hs) .nil⟩
theorem ek_cons (ha : Ev X env e d k1) (hr : EK X env kws ds k2) (h2 : k2 = .cln ∨ k2 = .brw ∨ k2 = .drt) : EK X env (⟨nm, e, kpos⟩ :: kws) (d :: ds) ((heldOf k1 d).join k2) :=
  ⟨(pk_cons ha.heldOf.pe hr.pk).mono fun σ H Q ⟨F, B, E, q⟩ => ⟨F, B, E, fun v H1 F1 B1 g1 r1 => ⟨F1, B1, E.grow g1, fun vs H2 F2 B2 g2 r2 => by
    have h1 := held_cases k1 d
    refine q _ _ _ _ (g1.trans g2) (repsK_cons (join_cases _ _) (repsK.up g2.hs h1 h2 (repsK.grow g2 (repK_one h1 r1))) ?_)
    rw [join_comm]
    exact repsK.up g2.hs h2 h1 r2⟩⟩⟩
theorem ek_consH (ha : Ev X env e d k1) (hr : EK X env kws ds k2) (h2 : k2 = .cln ∨ k2 = .brw ∨ k2 = .drt) : EK X env (⟨nm, e, kpos⟩ :: kws) (d :: ds) (k1.held.join k2) :=
  ⟨(pk_cons ha.held.pe hr.pk).mono fun σ H Q ⟨F, B, E, q⟩ => ⟨F, B, E, fun v H1 F1 B1 g1 r1 => ⟨F1, B1, E.grow g1, fun vs H2 F2 B2 g2 r2 => by
    have h1 : k1.held = .cln ∨ k1.held = .brw ∨ k1.held = .drt := by cases k1 <;> simp [Kd.held]
    refine q _ _ _ _ (g1.trans g2) (repsK_cons (join_cases _ _) (repsK.up g2.hs h1 h2 (repsK.grow g2 (repK_one h1 r1))) ?_)
    rw [join_comm]
    exact repsK.up g2.hs h2 h1 r2⟩⟩⟩
structure CalK (Γ : Gd) (n : Str) (R : Rel) (lc np : Nat) (ks : List Str) (ord : List D → List D → List D) : Prop where
  ex : ∃ f fd ps g gV, FnOk Γ.P Γ.w Γ.K Γ.mg Γ.base CX0 lc f fd ps (FnSp Γ.K R) ∧ Γ.mg n = some (.ref f) ∧ PySem.W.keepIn Γ.K (.ref f) = true ∧ KBn Γ.K fd ps np ks g gV ∧
    ∀ (B : Hp) ds zs vs us, ds.length = np → zs.length = ks.length → Reps Γ.K B ds vs → Reps Γ.K B zs us → Reps Γ.K B (ord ds zs) (gV vs us)
theorem reps_ord {K : PySem.W.Frag} {F B H : Hp} {vs us : List V} {ord : List D → List D → List D} {gV : List V → List V → List V} {k : Kd} (hs : Hs F B H) (h : ∀ (B : Hp), Reps K B ds vs → Reps K B zs us → Reps K B (ord ds zs) (gV vs us)) (r1 : repsK K F B H k ds vs) (r2 : repsK K F B H k zs us) : repsK K F B H k (ord ds zs) (gV vs us) := by
  cases k with
  | drt => exact h H r1 r2
  | brw => exact h B r1 r2
  | own => exact h F r1 r2
  | cln => exact h F r1 r2
  | shl => exact h F r1 r2
theorem CalK.ev {np : Nat} {ks : List Str} {ord : List D → List D → List D} (C : CalK Γ n R lc np ks ord) (A : At X Γ N sc lv) (S : Sc N sc vl ll gl) (j : Nat) (hg : gl[j]? = some n) (hl : lc ≤ lv) (ha : EA X env (e :: es) ds ka) (hk : ka = .cln ∨ ka = .brw ∨ ka = .drt) (hz : EK X env kws zs kb) (hk2 : kb = .cln ∨ kb = .brw ∨ kb = .drt) (hkr : kk = .own ∨ kk = .cln ∨ kk = .brw)
    (l1 : ds.length = np) (l2 : zs.length = ks.length) (hall : (backToKw pos (keywordEach kws X.env)).all (·.1.isSome) = true) (hks : (backToKw pos (keywordEach kws X.env)).filterMap (·.1) = ks) (he : starEach (e :: es) X.env = (false, eval e X.env) :: starEach es X.env)
    (hpl : ((backTo pos (starEach (e :: es) X.env)).any (·.1) || (backToKw pos (keywordEach kws X.env)).any (·.1.isNone)) = false) (hR : R (ord ds zs) d kk) : Ev X env (.Call (.Name n p) (e :: es) kws pos) d (retK (ka.join kb) kk) := by
  obtain ⟨f, fd, ps, g, gV, h1, h2, h3, h4, h5⟩ := C.ex
  have eP := A.eP; have eW := A.eW; have eK := A.eK; have eM := A.eM; have eB := A.eB
  rw [← eP, ← eW, ← eK, ← eM, ← eB] at h1
  rw [← eM] at h2
  rw [← eK] at h3 h4 h5
  refine ⟨(pe_callN h1 (A.room.mono hl) (glo A S j hg) h2 h3 h4 pass0 ha.pa hz.pk hall hks (plainB_ok (S.glo hg).2).1 he hpl).mono fun σ H Q ⟨F, B, E, q⟩ => ⟨F, B, E, fun vs H1 F1 B1 g1 r1 => ⟨F1, B1, E.grow g1, fun us H2 F2 B2 g2 r2 => ?_⟩⟩⟩
  have r1' := repsK.grow g2 r1
  refine ⟨by rw [r1'.len, l1], by rw [r2.len, l2], call_rel g2.hs (join_cases _ _) hkr (reps_ord g2.hs (fun B q1 q2 => h5 B _ _ _ _ l1 l2 q1 q2) (repsK.up g2.hs hk hk2 r1') (by rw [join_comm]; exact repsK.up g2.hs hk2 hk r2)) hR fun w H3 F3 B3 g3 r3 => ?_⟩
  exact q w H3 F3 B3 ((g1.trans g2).trans g3) (RepK.back (g1.trans g2).h r3)
theorem CalK.ev0 {ks : List Str} {ord : List D → List D → List D} (C : CalK Γ n R lc 0 ks ord) (A : At X Γ N sc lv) (S : Sc N sc vl ll gl) (j : Nat) (hg : gl[j]? = some n) (hl : lc ≤ lv) (hz : EK X env kws zs kb) (hk2 : kb = .cln ∨ kb = .brw ∨ kb = .drt) (hkr : kk = .own ∨ kk = .cln ∨ kk = .brw)
    (l2 : zs.length = ks.length) (hall : (backToKw pos (keywordEach kws X.env)).all (·.1.isSome) = true) (hks : (backToKw pos (keywordEach kws X.env)).filterMap (·.1) = ks)
    (hpl : ((backTo pos (starEach [] X.env)).any (·.1) || (backToKw pos (keywordEach kws X.env)).any (·.1.isNone)) = false) (hR : R (ord [] zs) d kk) : Ev X env (.Call (.Name n p) [] kws pos) d (retK kb kk) := by
  obtain ⟨f, fd, ps, g, gV, h1, h2, h3, h4, h5⟩ := C.ex
  have eP := A.eP; have eW := A.eW; have eK := A.eK; have eM := A.eM; have eB := A.eB
  rw [← eP, ← eW, ← eK, ← eM, ← eB] at h1
  rw [← eM] at h2
  rw [← eK] at h3 h4 h5
  have hdb := (plainB_ok (S.glo hg).2).1
  have hgl := glo A S j hg
  have hr := A.room.mono hl
  refine ⟨PE.mono (t := fun σ H Q => tEA X.K env zs kb σ H fun us H2 => us.length = ks.length ∧ FnSp X.K R (gV [] us) H2 Q E0) ⟨fun pins s σ H Q I h => ?_⟩ fun σ H Q ⟨F, B, E, q⟩ => ⟨F, B, E, fun us H2 F2 B2 g2 r2 => ?_⟩⟩
  · refine wpAny_Call_Name_kw (ld_glob I hgl h2 ?_ hdb)
    refine PySem.W.callWith_KW0 (h₀ := X.base) I.ok.mod.kin h3 hall (thn (hz.pk.run pos pins s σ H _ I h) fun ws s2 ⟨zs, H2, I2, rz, l2, q2⟩ => ⟨I2.kIn, ?_⟩) hpl
    rw [hks]
    exact run_fnN (us := []) (vs := []) h1 hr h4 pass0 I2 .nil rz rfl l2 q2
  · have nk : ∀ {k : Kd}, repsK X.K F2 B2 H2 k [] [] := fun {k} => by cases k <;> exact .nil
    refine ⟨by rw [r2.len, l2], call_rel g2.hs hk2 hkr (reps_ord (ds := []) (vs := []) g2.hs (fun B q1 q2 => h5 B _ _ _ _ rfl l2 q1 q2) nk r2) hR fun w H3 F3 B3 g3 r3 => ?_⟩
    exact q w H3 F3 B3 (g2.trans g3) (RepK.back g2.h r3)
end
end DL
namespace PySem
open Sem (wp)
open AutoSeq1 (wpAny_loadPart')
theorem dl_meets_enumT (l : Addr) (items : Array Value) (n : Nat) (dct : Option Addr) (sl : Array (Option Value)) :
    Meets (Builtin.«enumerate.__new__» ⟨[.type "enumerate", .ref l], []⟩) (fun _ R s => s.heap.get? l = some { cls := .type "tuple", dict := dct, data := .seq items n, slots := sl } ∧
      R (.ok (.ret (.ref (s.heap.push { cls := .type "tuple_iterator", data := .fields #[.ref l, .int 0 0] }).objs.size)))
        { s with heap := (s.heap.push { cls := .type "tuple_iterator", data := .fields #[.ref l, .int 0 0] }).push { cls := .type "enumerate", data := .fields #[.none, .bool false, .ref s.heap.objs.size, rawInt 0, .none, .none] } }) :=
  .of_wp fun prog w A R s h => by
    obtain ⟨hp, g, d, tk, os⟩ := s; obtain ⟨hl, h⟩ := h
    have hsub := sub_enumerate
    have hL : Heap.IsTuple (Shared.heap ⟨hp, g, d, tk, os⟩) l items := ⟨_, hl, rfl, n, rfl⟩
    wp_walk using wpAny_loadPart' hl
    refine wpAny_stack_any fun st => wpAny_pure ?_
    split
    · rename_i c _ _ _ _ _
      cases (c == Value.type "enumerate")
      · wp_walk using wpAny_loadPart' hl, wpAny_pyIter_tuple hL
        exact ⟨_, rfl, h⟩
      · wp_walk using wpAny_loadPart' hl, wpAny_pyIter_tuple hL
        exact ⟨_, rfl, h⟩
    · wp_walk using wpAny_loadPart' hl, wpAny_pyIter_tuple hL
      exact ⟨_, rfl, h⟩
section
variable {prog : Program} {w : World} {A : Around} {E : Value → Shared → Prop} {s : Shared}
theorem dl_call_enumT {l : Addr} {items : Array Value} {Q : Value → Shared → Prop} (hL : s.heap.IsTuple l items)
    (h : ∀ h', IsEnum h' (s.heap.objs.size + 1) s.heap.objs.size 0 .none → h'.IsTupleIter s.heap.objs.size l 0 → h'.objs.size = s.heap.objs.size + 2 →
      (∀ b o, s.heap.get? b = some o → h'.get? b = some o) → Q (.ref (s.heap.objs.size + 1)) { s with heap := h' }) :
    wpAny (model prog w) A (call (.type "enumerate") [.ref l]) Q E s := by
  obtain ⟨⟨c, dct, dt, sl⟩, hl, hc, n, hd⟩ := hL
  replace hc : c = .type "tuple" := hc
  replace hd : dt = .seq items n := hd
  subst hc hd
  refine callType_new F.called_enumerate (by decide) (F.typeCall_enumerate_1 _) (F.newCall_enumerate_1 _) (fun obj => F.args_object_init_2 obj _) F.entry_enumerate_new
    (dl_meets_enumT l items n dct sl) ⟨hl, ?_⟩
  have hz : (s.heap.push { cls := .type "tuple_iterator", data := .fields #[.ref l, .int 0 0] }).objs.size = s.heap.objs.size + 1 := Heap.size_push ..
  show _ ∧ _
  rw [hz]
  have he : IsEnum ((s.heap.push { cls := .type "tuple_iterator", data := .fields #[.ref l, .int 0 0] }).push
      { cls := .type "enumerate", data := .fields #[.none, .bool false, .ref s.heap.objs.size, rawInt 0, .none, .none] }) (s.heap.objs.size + 1) s.heap.objs.size 0 .none := by
    have := Heap.get?_push_size (s.heap.push { cls := .type "tuple_iterator", data := .fields #[.ref l, .int 0 0] })
      (o := { cls := .type "enumerate", data := .fields #[.none, .bool false, .ref s.heap.objs.size, rawInt 0, .none, .none] }) rfl
    rw [hz] at this; exact this
  refine ⟨⟨_, he, rfl⟩, h _ he ⟨_, Heap.get?_push_of_some _ (Heap.get?_push_size _ rfl), rfl, rfl⟩ (by rw [Heap.size_push, hz]) fun b o x => Heap.get?_push_of_some _ (Heap.get?_push_of_some _ x)⟩
theorem dl_enumT_end {e it l : Addr} {i : Nat} {items : Array Value} {old : Value} {Q : Option Value → Shared → Prop} (hh : A.in1.handled = none)
    (he : IsEnum s.heap e it i old) (hit : s.heap.IsTupleIter it l i) (hl : s.heap.IsTuple l items) (hx : items[i]? = none)
    (hQ : ∀ h', Heap.ExtBut it s.heap h' → Q none { s with heap := h' }) : wpAny (model prog w) A (pyNext (.ref e)) Q E s := by
  have hT : s.TypeIs (.ref e) "enumerate" := ⟨_, he, rfl⟩
  unfold pyNext
  refine wpAny_bind (wpAny_attempt (wpAny_callSpecial?_slot (name := Str.ofString "__next__") hT F.slot_enumerate_next
    (wpAny_call_entry F.slot_enumerate_next hT F.entry_enumerate_next ?_ (F.args_enumerate_next_1 _))))
  show wpAny _ _ (field (.ref e) 2 >>= _) _ _ _
  refine wpAny_bind (wpAny_field he rfl (x := .ref it) rfl ?_)
  refine wpAny_bind (wpAny_nextOf_tuple_end hh hit hl hx fun h' x he' hx' => ?_)
  obtain ⟨o, ho, hc⟩ := hx'
  refine wpAny_bind (wpAny_isInstance (T := "StopIteration") (b := true) ⟨o, ho, hc⟩ isSubtype_stop ?_)
  exact wpAny_pure (hQ _ he')
end
end PySem
namespace L2
open PySem PySem.Spec PyProof.Rows
def dlIteT (K : PySem.W.Frag) (a : Addr) : It :=
  ⟨fun i H => ∃ (xs : List V) (x : V), SqT K H a xs ∧ xs[i]? = some x, fun i H v H' => ∃ T x, v = .ref T ∧ H T = none ∧ H' = upd H T (.tup [.int (i : Nat), x]) ∧ ∀ xs, SqT K H a xs → xs[i]? = some x, fun i H => ∃ xs : List V, SqT K H a xs ∧ xs.length ≤ i⟩
theorem dl_turn_enumT {P : Program} {w : World} {K : PySem.W.Frag} {elts : List Expr} {kk : Nat} {tpos : Pos} (a e it : Addr) (ha : a ≠ it) (ha2 : e ≠ a) :
    Turn P w K (.Tuple elts kk tpos) (dlIteT K a) [e, it] e (fun i h => (∃ old, IsEnum h e it ((i : Nat) : Int) old) ∧ h.IsTupleIter it a i ∧ e ≠ it) where
  mem := by simp
  obj := fun i h st b hb => by
    obtain ⟨⟨old, he⟩, ⟨o, ho, hc, hd⟩, _⟩ := st
    have e' : b = e ∨ b = it := by simpa using hb
    rcases e' with z | z
    · rw [z]; exact ⟨_, he, fun v q => nomatch q⟩
    · rw [z]; exact ⟨o, ho, fun v q => by rw [hd] at q; cases q⟩
  keep := fun i h h' st k => let ⟨⟨old, he⟩, ⟨o, ho, r⟩, hne⟩ := st; ⟨⟨old, k e (by simp) _ he⟩, ⟨o, k it (by simp) o ho, r⟩, hne⟩
  item := by
    intro X hP hw hK hc i pins s σ H E I hf st hg
    subst hP hw hK
    obtain ⟨⟨old, he⟩, hit, hne⟩ := st
    obtain ⟨xs, x, hq, hx⟩ := hg
    obtain ⟨its, rv, p, hz⟩ := I.tuple hq
    obtain ⟨u, hu, ru⟩ := rv.get hx
    have hel : e < s.heap.objs.size := Heap.lt_size he
    have hil : it < s.heap.objs.size := by obtain ⟨_, q, _⟩ := hit; exact Heap.lt_size q
    have hi : i < its.toArray.size := by
      rw [List.size_toArray]
      exact (List.getElem?_eq_some_iff.mp hu).1
    refine wpAny_pyNext_enum_itemD (Draws.tuple (prog := X.prog) (w := X.w) (A := X.A.in1) (I.ok.hd hc) it a ha its.toArray) he ⟨hit, p⟩ hi hne (by simp [hne, ha2]) fun y h' tk hP ho hit' hT hsz hk => ?_
    have hy : y = u := by
      have : its.toArray[i]? = some y := hP
      rw [show its.toArray[i]? = its[i]? by simp, hu] at this
      exact (Option.some.inj this).symm
    subst hy
    obtain ⟨hit', _⟩ := hit'
    refine ⟨_, rfl, wpAny_letOwnedTupleGo_enum (s := { s with heap := h', toks := tk + 1 }) ho fun h'' he' sb => ?_⟩
    have hT2 : h''.get? s.heap.objs.size = some { cls := .type "tuple", data := .seq #[.int i tk, y] } := (sb.2 _ (Nat.ne_of_gt hel)).trans hT
    have new : ObjOk X.prog X.w (upd H s.heap.objs.size (.tup [.int (i : Nat), x])) h'' s.heap.objs.size (.tup [.int (i : Nat), x]) :=
      ⟨by show 2 ≤ sizeLine; decide, [.int i tk, y], .cons ⟨_, rfl⟩ (.cons ru .nil), ⟨_, hT2, rfl, _, rfl⟩⟩
    have I1 : Inv X pins σ (upd H s.heap.objs.size (.tup [.int (i : Nat), x])) { s with heap := h'', toks := tk + 1 } :=
      I.turnedNew (ch := [e, it]) (fun b ob hb q => (sb.2 b (fun z => hb (by simp [z]))).trans (hk b ob (fun z => hb (by simp [z])) (fun z => hb (by simp [z])) q)) hf (Nat.le_refl _) new
    refine ⟨.ref s.heap.objs.size, _, I1, rfl, ⟨_, x, rfl, I.hok.fresh (Nat.le_refl _), rfl, fun ys hy => by rw [I.tuple_inj hy hq]; exact hx⟩, ⟨⟨y, ?_⟩, ?_, hne⟩, fun b hb => ?_⟩
    · have e1 : ((i + 1 : Nat) : Int) = (i : Int) + 1 := by omega
      rw [e1]; exact he'
    · obtain ⟨o, ho, r⟩ := hit'
      exact ⟨o, (sb.2 it (Ne.symm hne)).trans ho, r⟩
    · have hb' : b < s.heap.objs.size := by
        have e' : b = e ∨ b = it := by simpa using hb
        rcases e' with z | z
        · rw [z]; exact hel
        · rw [z]; exact hil
      rw [upd_ne (Nat.ne_of_lt hb')]
      exact (hf b hb).1
  done := by
    intro X hP hw hK hc i pins s σ H E I hf st hg
    subst hP hw hK
    obtain ⟨⟨old, he⟩, hit, hne⟩ := st
    obtain ⟨xs, hq, hx⟩ := hg
    obtain ⟨its, rv, p, hz⟩ := I.tuple hq
    obtain ⟨f0, f1, f2, f3, f4, f5⟩ := hf it (by simp)
    have hl := rv.length
    exact dl_enumT_end (I.ok.hd hc) he hit p (by simp; omega) fun h' eb => ⟨rfl, I.turned (t' := s.toks) (fun b o hb q => eb b o hb q) f0 f1 f3 f4 f5⟩
  self := fun A i s Q E st h => let ⟨⟨_, he⟩, _⟩ := st; wpAny_pyIter_enum he h
theorem dl_pi_enumT {X : Cx} {e : Expr} {ta : TA} {p pos tpos : Pos} {elts : List Expr} {kk : Nat} (hg : Gl X "enumerate") (hm : X.mg "enumerate" = none) (ha : PA X [e] ta) (hs : starEach [e] X.env = [(false, eval e X.env)] := by rfl) :
    PI X (.Tuple elts kk tpos) (.Call (.Name "enumerate" p) [e] [] pos) (fun σ H R => ta σ H fun vs H1 => ∃ a xs, vs = [.ref a] ∧ SqT X.K H1 a xs ∧ R (dlIteT X.K a) H1) := by
  refine ⟨fun pins s σ H R I h => ?_⟩
  refine Call_ (ld_blt I hg hm boot_enumerate (PyProof.Rows.callWith_type1 (thn (ha.run pos pins s σ H _ I h) fun us s1 ⟨vs, H1, I1, r1, q1⟩ => ?_) hs rfl))
  obtain ⟨a, xs, ex, hq, q⟩ := q1
  subst ex
  cases r1 with
  | cons r rr =>
    cases rr
    cases r
    obtain ⟨its, rv, p', hz⟩ := I1.tuple hq
    have hla : a < s1.heap.objs.size := by obtain ⟨o, ho, _⟩ := id p'; exact Heap.lt_size ho
    refine dl_call_enumT p' fun h' he hit hsz hk => wpAny_pyIter_enum he ?_
    have I2 : Inv X pins σ H1 { s1 with heap := h' } := I1.kept (t' := s1.toks) hk
    refine ⟨s1.heap.objs.size + 1, [s1.heap.objs.size + 1, s1.heap.objs.size], _, _, H1, rfl, I2, dl_turn_enumT a (s1.heap.objs.size + 1) s1.heap.objs.size (Nat.ne_of_lt hla) (Nat.ne_of_gt (Nat.lt_succ_of_lt hla)), ⟨⟨.none, he⟩, hit, Nat.succ_ne_self _⟩, fun b hb => ?_, q⟩
    have e' : b = s1.heap.objs.size + 1 ∨ b = s1.heap.objs.size := by simpa using hb
    have hle : s1.heap.objs.size ≤ b := by
      rcases e' with z | z
      · rw [z]; exact Nat.le_add_right _ _
      · rw [z]; exact Nat.le_refl _
    exact I1.fpOk hle (I1.hok.fresh hle)
end L2
namespace DL
open PySem PySem.Spec L2
open PyProof.Rows hiding St
section
variable {X : Cx} {env : DEnv} {a : Expr} {pn pos : Pos}
theorem iteT_ok {α : Type} {f : α → D} {xs : List α} {K : PySem.W.Frag} {P F B : Hp} {l : Addr} {vs : List V} {k : K2} (h : SqT K P l vs) (r : repsK K F B P k.k (xs.map f) vs) : ItOk K P F B (dlIteT K l) k ((enumL xs).map fun x => .tup [.int x.1, f x.2]) := by
  have at_ : ∀ (i : Nat) d, ((enumL xs).map fun x => D.tup [.int x.1, f x.2])[i]? = some d → ∃ x, (xs.map f)[i]? = some (f x) ∧ d = .tup [.int (i : Int), f x] := fun i d e => by
    rw [List.getElem?_map, enumL_get] at e
    cases q : xs[i]? with
    | none => rw [q] at e; cases e
    | some x => rw [q] at e; cases e; exact ⟨x, by rw [List.getElem?_map, q]; rfl, rfl⟩
  refine ⟨fun i d H s e => ?_, fun i d H x H' s e y => .inr ?_, fun H s => ⟨vs, Same.seqT s h, by rw [r.len, List.length_map, List.length_map, enumL_len]; exact Nat.le_refl _⟩⟩
  · obtain ⟨x, e1, _⟩ := at_ i d e
    obtain ⟨u, e2, _⟩ := repsK.get (by cases k <;> simp) r e1
    exact ⟨vs, u, Same.seqT s h, e2⟩
  · obtain ⟨x0, e1, e3⟩ := at_ i d e
    obtain ⟨u, e2, r2⟩ := repsK.get (by cases k <;> simp) r e1
    obtain ⟨T, w, z1, z2, z3, z4⟩ := y
    have := z4 vs (Same.seqT s h)
    rw [e2] at this; cases this
    refine ⟨T, [.int (i : Nat), u], [.int (i : Int), f x0], z2, z3, z1, e3, ?_⟩
    cases k with
    | c => exact .cons (.int _) (.cons r2 .nil)
    | b => exact .cons (.int _) (.cons r2 .nil)
theorem enumTC_ {α : Type} {f : α → D} {xs : List α} {elts : List Expr} {kk : Nat} {tpos : Pos} (hg : Gl X "enumerate") (hm : X.mg "enumerate" = none) (ha : Ev X env a (.tup (xs.map f)) .cln) (hs : starEach [a] X.env = [(false, eval a X.env)]) :
    EI X env (.Tuple elts kk tpos) (.Call (.Name "enumerate" pn) [a] [] pos) ((enumL xs).map fun x => .tup [.int x.1, f x.2]) .c true :=
  ⟨(dl_pi_enumT hg hm (pa_cons ha.pe pa_nil hs) hs).mono fun σ H R ⟨F, B, E, q⟩ => ⟨F, B, E, fun v H1 F1 B1 g r => by
    cases (show Rep X.K F1 (.tup (xs.map f)) v from r) with
    | tup s t => exact ⟨_, _, rfl, Same.seqT g.hs.fh s, q _ H1 F1 B1 g (iteT_ok (Same.seqT g.hs.fb s) t)⟩⟩⟩
theorem enumTB_ {α : Type} {f : α → D} {xs : List α} {elts : List Expr} {kk : Nat} {tpos : Pos} (hg : Gl X "enumerate") (hm : X.mg "enumerate" = none) (ha : Ev X env a (.tup (xs.map f)) .brw) (hs : starEach [a] X.env = [(false, eval a X.env)]) :
    EI X env (.Tuple elts kk tpos) (.Call (.Name "enumerate" pn) [a] [] pos) ((enumL xs).map fun x => .tup [.int x.1, f x.2]) .b true :=
  ⟨(dl_pi_enumT hg hm (pa_cons ha.pe pa_nil hs) hs).mono fun σ H R ⟨F, B, E, q⟩ => ⟨F, B, E, fun v H1 F1 B1 g r => by
    cases (show Rep X.K B1 (.tup (xs.map f)) v from r) with
    | tup s t => exact ⟨_, _, rfl, Same.seqT g.hs.bh s, q _ H1 F1 B1 g (iteT_ok s t)⟩⟩⟩
end
end DL
namespace DL
open PySem PySem.Spec L2
open PyProof.Rows hiding St
inductive Src where
  | p (i : Nat) | k (i : Nat) | m (i : Nat) | d (i : Nat)
def pick {α : Type} (us ds mv ws : List α) : List Src → List α
  | [] => []
  | .p i :: r => us[i]?.toList ++ pick us ds mv ws r
  | .k i :: r => ws[i]?.toList ++ pick us ds mv ws r
  | .m i :: r => mv[i]?.toList ++ pick us ds mv ws r
  | .d i :: r => ds[i]?.toList ++ pick us ds mv ws r
theorem vals_at : ∀ {xs : List V} {us : List Value} (i : Nat), Vals xs us → Vals xs[i]?.toList us[i]?.toList
  | _, _, _, .nil => .nil
  | _, _, 0, .cons r _ => .cons r .nil
  | _, _, i + 1, .cons _ t => by rw [List.getElem?_cons_succ, List.getElem?_cons_succ]; exact vals_at i t
theorem reps_at {K : PySem.W.Frag} {B : Hp} : ∀ {xs : List D} {us : List V} (i : Nat), Reps K B xs us → Reps K B xs[i]?.toList us[i]?.toList
  | _, _, _, .nil => .nil
  | _, _, 0, .cons r _ => .cons r .nil
  | _, _, i + 1, .cons _ t => by rw [List.getElem?_cons_succ, List.getElem?_cons_succ]; exact reps_at i t
theorem vals_pick {us ds mv ws : List V} {us' ds' mv' ws' : List Value} (h1 : Vals us us') (h2 : Vals ds ds') (h3 : Vals mv mv') (h4 : Vals ws ws') : ∀ srcs : List Src, Vals (pick us ds mv ws srcs) (pick us' ds' mv' ws' srcs)
  | [] => .nil
  | .p i :: r => Vals.append (vals_at i h1) (vals_pick h1 h2 h3 h4 r)
  | .k i :: r => Vals.append (vals_at i h4) (vals_pick h1 h2 h3 h4 r)
  | .m i :: r => Vals.append (vals_at i h3) (vals_pick h1 h2 h3 h4 r)
  | .d i :: r => Vals.append (vals_at i h2) (vals_pick h1 h2 h3 h4 r)
theorem reps_pick {K : PySem.W.Frag} {B : Hp} {us ds mv ws : List D} {us' ds' mv' ws' : List V} (h1 : Reps K B us us') (h2 : Reps K B ds ds') (h3 : Reps K B mv mv') (h4 : Reps K B ws ws') : ∀ srcs : List Src, Reps K B (pick us ds mv ws srcs) (pick us' ds' mv' ws' srcs)
  | [] => .nil
  | .p i :: r => Reps.append (reps_at i h1) (reps_pick h1 h2 h3 h4 r)
  | .k i :: r => Reps.append (reps_at i h4) (reps_pick h1 h2 h3 h4 r)
  | .m i :: r => Reps.append (reps_at i h3) (reps_pick h1 h2 h3 h4 r)
  | .d i :: r => Reps.append (reps_at i h2) (reps_pick h1 h2 h3 h4 r)
section
variable {P : Program} {w : World} {K : PySem.W.Frag} {mg : Str → Option Value} {base : Heap} {x qual n : Str} {params : Arguments} {body : List Stmt} {scope : Scope} {dvs : List V} {kws : List (Str × V)} {f : Addr} {fd : FuncData} {N ps : List Str} {lv : Nat} {R : Rel} {dds mds : List D}
theorem CalK.of (G : FnOk P w K mg base CX0 (lv + 1) f fd ps (FnSp K R)) (kp : PySem.W.keepIn K (.ref f) = true) (hm : mg n = some (.ref f)) {np : Nat} {ks : List Str} {srcs : List Src} {its mv : List Value} {mz : List V} (hb : KBn K fd ps np ks (fun us ws => pick us its mv ws srcs) (fun vs zs => pick vs dvs mz zs srcs)) (hd : ∀ B : Hp, Reps K B dds dvs) (hz : ∀ B : Hp, Reps K B mds mz) :
    CalK ⟨P, w, K, mg, base⟩ n R (lv + 1) np ks (fun a b => pick a dds mds b srcs) :=
  ⟨f, fd, ps, _, _, G, hm, kp, hb, fun B ds zs vs us _ _ r1 r2 => reps_pick r1 (hd B) (hz B) r2 srcs⟩
theorem kb_n (F : FunD K x qual params body scope [] kws f fd) (np : Nat) (ks : List Str) (srcs : List Src)
    (h : ∀ (kV doc pm : Value) (an : Option Addr) (cdv ct : Value) (us ws : List Value), us.length = np → ws.length = ks.length → bindArgs (PySem.W.fnOf x qual params body scope .none kV doc pm an cdv ct) ⟨us, ks.zip ws⟩ = pure (ps.zip (pick us [] [] ws srcs))) :
    KBn K fd ps np ks (fun us ws => pick us [] [] ws srcs) (fun vs zs => pick vs [] [] zs srcs) := by
  obtain ⟨oc, od, dV, kV, doc, pm, an, cdv, ct, osl, rfl, lk, hcd, hD, hK⟩ := F.ex
  rcases hD with ⟨_, rfl⟩ | ⟨e, _⟩
  · exact ⟨fun s us ws X l1 l2 => BindsTo.of_eq (h kV doc pm an cdv ct us ws l1 l2), fun r1 r2 => vals_pick r1 .nil .nil r2 srcs⟩
  · exact absurd rfl e
theorem kb_0 (F : FunD K x qual params body scope [] kws f fd) (np : Nat) (ks : List Str) (ms : List (Str × V)) (srcs : List Src) (hk : kws ≠ []) (hms : ∀ q ∈ ms, q ∈ kws)
    (h : ∀ (D : Addr) (doc pm : Value) (an : Option Addr) (cdv ct : Value) (us mv ws : List Value), us.length = np → mv.length = ms.length → ws.length = ks.length →
      KwChain D ((ms.map (·.1)).zip mv) (bindArgs (PySem.W.fnOf x qual params body scope .none (.ref D) doc pm an cdv ct) ⟨us, ks.zip ws⟩) (ps.zip (pick us [] mv ws srcs))) :
    ∃ mv : List Value, KBn K fd ps np ks (fun us ws => pick us [] mv ws srcs) (fun vs zs => pick vs [] (ms.map (·.2)) zs srcs) := by
  obtain ⟨oc, od, dV, kV, doc, pm, an, cdv, ct, osl, rfl, lk, hcd, hD, hK⟩ := F.ex
  rcases hD with ⟨_, rfl⟩ | ⟨e, _⟩
  · rcases hK with e | ⟨D, rfl, hq⟩
    · exact absurd e hk
    · obtain ⟨mv, hl, rk, hks⟩ := kwd_vals (ms := ms) fun q hm => hq q (hms q hm)
      exact ⟨mv, ⟨fun s us ws X l1 l2 => BindsTo.of_looks fun M => KwChain.looks X hks (h D doc pm an cdv ct us mv ws l1 hl l2), fun r1 r2 => vals_pick r1 .nil rk r2 srcs⟩⟩
  · exact absurd rfl e
theorem kb_d (F : FunD K x qual params body scope dvs kws f fd) (np : Nat) (ks : List Str) (srcs : List Src) (hd : dvs ≠ [])
    (h : ∀ (T : Addr) (kV doc pm : Value) (an : Option Addr) (cdv ct : Value) (us its ws : List Value), us.length = np → its.length = dvs.length → ws.length = ks.length →
      ∃ k, bindArgs (PySem.W.fnOf x qual params body scope (.ref T) kV doc pm an cdv ct) ⟨us, ks.zip ws⟩ = seqItems? (.ref T) >>= k ∧ k (some its.toArray) = pure (ps.zip (pick us its [] ws srcs))) :
    ∃ its : List Value, KBn K fd ps np ks (fun us ws => pick us its [] ws srcs) (fun vs zs => pick vs dvs [] zs srcs) := by
  obtain ⟨oc, od, dV, kV, doc, pm, an, cdv, ct, osl, rfl, lk, hcd, hD, hK⟩ := F.ex
  rcases hD with ⟨e, _⟩ | ⟨_, T, o, its, m, rfl, lT, oT, rT⟩
  · exact absurd e hd
  · refine ⟨its, ⟨fun s us ws X l1 l2 => ?_, fun r1 r2 => vals_pick r1 rT .nil r2 srcs⟩⟩
    obtain ⟨k, e1, e2⟩ := h T kV doc pm an cdv ct us its ws l1 rT.length.symm l2
    refine BindsTo.of_looks fun M => ?_
    rw [e1]
    exact looks_items X lT oT (.of_pure e2)
theorem Cal.absurd (Fd : FunD K x qual params body scope dvs kws f fd) (hm : mg n = some (.ref f)) {dus : List Value} (bd : Binds K fd ps dus) {dv2 : List V} (hv : Vals dv2 dus) (hd : ∀ B : Hp, Reps K B dds dv2) (S : FnScope N ps scope) (hn : ps.length ≤ N.length) (h : ∀ ds d k, ¬ R ds d k) : Cal ⟨P, w, K, mg, base⟩ n R (lv + 1) dds :=
  Cal.mk' Fd hm bd hv hd S (fun ds d k r => (h ds d k r).elim) hn fun X A ds d k r => (h ds d k r).elim
end
theorem sp_law {K : PySem.W.Frag} {R : Rel} {H : Hp} {a : Addr} {ns : List Int} (hS : SqL K H a (ns.map V.int)) (hR : R [.scr ns] (.bl true) .cln) : FnSp K R [.ref a] H (fun v _ => v = .bl true) fun _ _ _ => False :=
  ⟨H, H, [.scr ns], .bl true, .cln, ⟨.refl _, .refl _, fun _ _ h => h⟩, .cons (.scr hS) .nil, hR, fun v H' F' B' g r => by
    cases (show Rep K F' (.bl true) v from r); rfl⟩
end DL
namespace DL
open PySem PySem.Spec L2
open PyProof.Rows hiding St
section
variable {X : Cx} {env : DEnv} {e : Expr} {ds : List D} {d : D} {k : Kd}
theorem imms_map {α : Type} {f : α → D} (h : ∀ x, (f x).imm = true) : ∀ xs : List α, D.imms (xs.map f) = true
  | [] => rfl
  | x :: xs => by rw [List.map_cons, D.imms, h x, imms_map h xs]; rfl
theorem imm_vt {α : Type} {f : α → D} (h : ∀ x, (f x).imm = true) (xs : List α) : (D.tup (xs.map f)).imm = true := imms_map h xs
theorem imm_cons (h : d.imm = true) (t : D.imms ds = true) : D.imms (d :: ds) = true := by rw [D.imms, h, t]; rfl
theorem imm_tup (t : D.imms ds = true) : (D.tup ds).imm = true := t
theorem imm_enO {α : Type} {f : α → D} (h : ∀ x, (f x).imm = true) (o : Option α) : (enO f o).imm = true := by
  cases o with
  | none => rfl
  | some x => exact h x
theorem Ev.shlI (h : Ev X env e (.lst ds) k) (i : D.imms ds = true) : Ev X env e (.lst ds) .shl := ⟨h.drt.pe.mono fun σ H Q ⟨F, B, E, q⟩ => ⟨F, B, E, fun v H' F' B' g r => by
  cases (show Rep X.K H' (.lst ds) v from r) with
  | lst s t => exact q _ H' F' B' g ⟨_, _, rfl, s, Reps.immF g.hs.tup i t⟩⟩⟩
end
end DL
namespace DL
open PySem PySem.Spec L2
open PyProof.Rows hiding St
section
variable {X : Cx} {Γ : Gd} {N : List Str} {sc : Scope} {lv : Nat} {vl ll : List Nat} {gl : List Str} {env : DEnv} {Φ : Outs} {rest : List Stmt} {a b c : Expr} {d d1 d2 : D} {k1 k2 : Kd} {kz : K2} {pos pt px py pn kp : Pos} {x y : Str} {p : Bool}
theorem swst2 {sc' : Scope} {env : Env} {kt kk : Nat} {pq : Pos} (hs : ScLe sc sc') (he : env.scope = sc') (hk : (sc.kind == .function) = true) (hx : (sc.names.lookup x == some .local) = true) (hy : (sc.names.lookup y == some .local) = true) (hl : (py.line == px.line) = true) (hne : (x == y) = false)
    (hst : ([a, b].any fun | .Starred .. => true | _ => false) = false) (hf : [a, b].all (foldedForSure 8) = false) (hc : [a, b].all (constantsAlone 8) = false) :
    swappedStores [.Tuple [.Name x px, .Name y py] kt pt] (.Tuple [a, b] kk pq) env = pure (some [x, y]) := by
  have hk' : env.scope.kind = .function := by rw [he, hs.kind]; exact eq_of_beq hk
  have hb : env.blockKind = .function := by unfold Env.blockKind; rw [hk']; rfl
  have h1 : env.kindOf x = some .local := by unfold Env.kindOf; rw [he]; exact hs.local (eq_of_beq hx)
  have h2 : env.kindOf y = some .local := by unfold Env.kindOf; rw [he]; exact hs.local (eq_of_beq hy)
  have hn : ([x, y] : List Str).eraseDups = [x, y] := by
    have : (y == x) = false := by
      cases q : y == x with
      | false => rfl
      | true => rw [eq_of_beq q] at hne; simp at hne
    simp [List.eraseDups_cons, this]
  have hl' : py.line = px.line := by simpa using hl
  have hp : (Expr.Name x px).pos = px := rfl
  unfold swappedStores
  simp only [List.any_cons, List.any_nil, List.all_cons, List.all_nil] at hst hf hc
  obtain ⟨s1, s2⟩ := Bool.or_eq_false_iff.mp hst
  obtain ⟨s2, _⟩ := Bool.or_eq_false_iff.mp s2
  simp [hb, h1, h2, hl', hn, hp, List.filterMap_cons]
  rw [if_neg (by rintro (z | z)
                 · exact Bool.false_ne_true (s1.symm.trans z)
                 · exact Bool.false_ne_true (s2.symm.trans z)), if_neg (fun z => by rw [z.1, z.2] at hf; cases hf), if_neg (fun z => by rw [z.1, z.2] at hc; cases hc)]
theorem par2_ {kt kk : Nat} {pq : Pos} (A : At X Γ N sc lv) (S : Sc N sc vl ll gl) (i j : Nat) (hN : N[i]? = some x) (hM : N[j]? = some y) (hk : (sc.kind == .function) = true) (hx : (sc.names.lookup x == some .local) = true) (hy : (sc.names.lookup y == some .local) = true) (hl : (py.line == px.line) = true) (hne : (x == y) = false)
    (hst : ([a, b].any fun | .Starred .. => true | _ => false) = false) (hf : [a, b].all (foldedForSure 8) = false) (hc : [a, b].all (constantsAlone 8) = false) (hs : swapsWithSole [.Tuple [.Name x px, .Name y py] kt pt] (.Tuple [a, b] kk pq) pos.line X.env = pure false)
    (ha : EA X env [a, b] [d1, d2] kz.k) (h : SS X ((env.set i (some (slot2 kz d1))).set j (some (slot2 kz d2))) rest Φ) : SS X env (.Assign [.Tuple [.Name x px, .Name y py] kt pt] (.Tuple [a, b] kk pq) pos :: rest) Φ := by
  have hij : i ≠ j := fun z => by subst z; rw [hN] at hM; cases hM; simp at hne
  refine ss_cons ⟨(ps_par (i := i) (j := j) A.calm (by rw [A.eN]; exact S.nd) (by rw [A.eN]; exact hN) (by rw [A.eN]; exact hM) hij (A.eS.local (eq_of_beq hx)) (A.eS.local (eq_of_beq hy)) ha.pa (swst2 A.eS rfl hk hx hy hl hne hst hf hc) hs).mono fun Dd σ H ⟨F, B, G, E, P⟩ => ⟨F, B, E.e, fun vs H' F' B' g r => ?_⟩⟩
  have r' : ∃ u v, vs = [u, v] ∧ RepK X.K F' B' H' H' kz.k d1 u ∧ RepK X.K F' B' H' H' kz.k d2 v := by
    cases kz with
    | c => cases (show Reps X.K F' [d1, d2] vs from r) with
      | cons r1 t => cases t with
        | cons r2 t => cases t; exact ⟨_, _, rfl, r1, r2⟩
    | b => cases (show Reps X.K B' [d1, d2] vs from r) with
      | cons r1 t => cases t with
        | cons r2 t => cases t; exact ⟨_, _, rfl, r1, r2⟩
  obtain ⟨u, v, e, r1, r2⟩ := r'
  refine ⟨u, v, e, P.nx _ _ _ F' B' (g.gs E.gh) ?_ h⟩
  exact EnvS.setOk (K := X.K) (F := F') (B := B') (G := G) (H := H') _ _ _ _ _ trivial (EnvS.setOk (K := X.K) (F := F') (B := B') (G := G) (H := H') _ _ _ _ _ trivial (E.grow g) (slot2_rep r1)) (slot2_rep r2)
def srtD (xs : List Int) : List Int := xs.mergeSort fun a b => decide (b ≤ a)
theorem srtD_ {ns : List Int} {kk : Nat} {p2 : Pos} (bn : Bn X "sorted" (.builtin "sorted")) (ha : Ev X env a (.lst (ns.map D.int)) k1)
    (he : backTo pos (starEach [a] X.env) = [(false, eval a X.env)]) (hs : starEach [a] X.env = [(false, eval a X.env)]) : Ev X env (.Call (.Name "sorted" pn) [a] [⟨some "reverse", .Constant (.bool true) kk p2, kp⟩] pos) (.lst ((srtD ns).map D.int)) .own := by
  refine ⟨(pe_callBK (cr_sortedRev (b := true)) bn.gl bn.mg bn.bt (pa_cons ha.st.pe pa_nil hs) (pk_cons pe_bl pk_nil) bn.nn bn.db he (by rw [he]; rfl) rfl rfl rfl).mono fun σ H Q ⟨F, B, E, q⟩ => ⟨F, B, E, fun v H1 F1 B1 g r1 => ?_⟩⟩
  obtain ⟨a, vs, rfl, e2, r⟩ := RepS.lst g.hs (RepK.any0 r1)
  have ev := reps_ints (r.reps g.hs)
  subst ev
  refine ⟨a, ns, rfl, rfl, SqL.of e2, fun ns' p hp ho hn => ?_⟩
  have ho : ns'.Pairwise (· ≥ ·) := ho
  have e : ns' = srtD ns := by
    refine List.Perm.eq_of_pairwise (le := (· ≥ ·)) (fun a b _ _ c1 c2 => Int.le_antisymm c2 c1) ho ?_ (hp.trans (List.mergeSort_perm ..).symm)
    have := List.pairwise_mergeSort (le := fun a b : Int => decide (b ≤ a)) (fun a b c h1 h2 => decide_eq_true (Int.le_trans (of_decide_eq_true h2) (of_decide_eq_true h1))) (fun a b => by
      by_cases h : b ≤ a
      · simp [h]
      · simp [h]; omega) ns
    exact this.imp fun h => of_decide_eq_true h
  subst e
  have rr : ∀ ms : List Int, Reps X.K F1 (ms.map D.int) (ms.map V.int) := fun ms => by
    induction ms with
    | nil => exact .nil
    | cons m ms ih => exact .cons (.int m) ih
  exact new_lst (kk := .cln) (.inl rfl) g.hs (rr _) (fun w H2 F2 B2 g2 r2 => q w H2 F2 B2 (g.trans g2) (RepK.back g.h r2)) p hn
end
end DL
namespace DL
open PySem PySem.Spec L2
open PyProof.Rows hiding St
def cA (Γ : Gd) (n : Str) : Addr := match Γ.mg n with
  | some (.ref a) => a
  | _ => 0
theorem ifNone {α : Type} {p : Bool} {m : Option α} {r : α} (h : (if p = true then none else m) = some r) : p = false ∧ m = some r := by
  cases p with
  | true => cases h
  | false => exact ⟨rfl, h⟩
section
variable {K : PySem.W.Frag} {B B' F H : Hp}
theorem RepP.at_ {f : Str} {d : D} : ∀ {fs : List (Str × D)} {us : List (Str × V)}, RepP K B Str fs us → fs.lookup f = some d → ∃ u, us.lookup f = some u ∧ Rep K B d u
  | [], _, _, h => by simp at h
  | (g, e) :: fs, _, .cons r t, h => by
    rw [List.lookup_cons] at h ⊢
    cases q : f == g with
    | true => rw [q] at h; cases h; exact ⟨_, rfl, r⟩
    | false => rw [q] at h; exact RepP.at_ t h
theorem RepP.no {f : Str} : ∀ {fs : List (Str × D)} {us : List (Str × V)}, RepP K B Str fs us → fs.lookup f = none → us.lookup f = none
  | [], _, .nil, _ => rfl
  | (g, e) :: fs, _, .cons r t, h => by
    rw [List.lookup_cons] at h ⊢
    cases q : f == g with
    | true => rw [q] at h; cases h
    | false => rw [q] at h; exact RepP.no t h
theorem RepP.len : ∀ {fs : List (Str × D)} {us : List (Str × V)}, RepP K B Str fs us → us.length = fs.length
  | [], _, .nil => rfl
  | _ :: _, _, .cons _ t => congrArg Nat.succ (RepP.len t)
def putD (f : Str) (d : D) : List (Str × D) → List (Str × D)
  | [] => [(f, d)]
  | (g, x) :: r => if g = f then (g, d) :: r else (g, x) :: putD f d r
theorem RepP.put {f : Str} {d : D} {v : V} (r : Rep K B d v) : ∀ {fs : List (Str × D)} {us : List (Str × V)}, RepP K B Str fs us → RepP K B Str (putD f d fs) (putF f v us)
  | [], _, .nil => .cons r .nil
  | (g, e) :: fs, _, .cons q t => by
    unfold putD putF
    by_cases z : g = f
    · rw [if_pos z, if_pos z]; exact .cons r t
    · rw [if_neg z, if_neg z]; exact .cons q (RepP.put r t)
end
def repPK (K : PySem.W.Frag) (F B H : Hp) : Kd → List (Str × D) → List (Str × V) → Prop
  | .brw, ds, vs => RepP K B Str ds vs
  | .drt, ds, vs => RepP K H Str ds vs
  | _, ds, vs => RepP K F Str ds vs
section
variable {K : PySem.W.Frag} {F B H : Hp} {k : Kd} {C : Addr} {fs : List (Str × D)} {v : V}
theorem RepS.obj (hs : Hs F B H) (r : RepS K F B H k (.obj C fs) v) : ∃ a dx us, v = .ref a ∧ H a = some (.ins C dx us) ∧ repPK K F B H k.kid fs us := by
  cases k with
  | drt => cases (show Rep K H (.obj C fs) v from r) with
    | obj s t => exact ⟨_, _, _, rfl, s, t⟩
  | brw => cases (show Rep K B (.obj C fs) v from r) with
    | obj s t => exact ⟨_, _, _, rfl, hs.bh _ _ s, t⟩
  | own => exact r
  | cln => exact r
  | shl => exact r
theorem repPK.at_ {f : Str} {d : D} {us : List (Str × V)} (h : k = .cln ∨ k = .brw ∨ k = .drt) (r : repPK K F B H k fs us) (e : fs.lookup f = some d) : ∃ u, us.lookup f = some u ∧ ∀ H0 : Hp, RepK K F B H0 H k d u := by
  rcases h with h | h | h <;> subst h
  · obtain ⟨u, h1, h2⟩ := RepP.at_ (show RepP K F Str fs us from r) e
    exact ⟨u, h1, fun _ => h2⟩
  · obtain ⟨u, h1, h2⟩ := RepP.at_ (show RepP K B Str fs us from r) e
    exact ⟨u, h1, fun _ => h2⟩
  · obtain ⟨u, h1, h2⟩ := RepP.at_ (show RepP K H Str fs us from r) e
    exact ⟨u, h1, fun _ => h2⟩
theorem repPK.no {f : Str} {us : List (Str × V)} (r : repPK K F B H k fs us) (e : fs.lookup f = none) : us.lookup f = none := by
  cases k with
  | drt => exact RepP.no (show RepP K H Str fs us from r) e
  | brw => exact RepP.no (show RepP K B Str fs us from r) e
  | own => exact RepP.no (show RepP K F Str fs us from r) e
  | cln => exact RepP.no (show RepP K F Str fs us from r) e
  | shl => exact RepP.no (show RepP K F Str fs us from r) e
end
section
variable {X : Cx} {env : DEnv} {o e : Expr} {es : List Expr} {ds dds : List D} {C : Addr} {fs : List (Str × D)} {d : D} {f m : Str} {k k1 k2 ka kk : Kd} {pos apos : Pos} {R : Rel}
theorem ev_fld (c : Cls X.K C) (n : NoAttr X.K C f) (ha : Ev X env o (.obj C fs) k1) (hl : fs.lookup f = some d) (hb : attributeBase o f X.env (eval o X.env) = eval o X.env) : Ev X env (.Attribute o f pos) d k1.kid :=
  ⟨(pe_fld ha.st.pe hb).mono fun σ H Q ⟨F, B, E, q⟩ => ⟨F, B, E, fun v H1 F1 B1 g r1 => by
    obtain ⟨a, dx, us, rfl, e2, r⟩ := RepS.obj g.hs (RepK.any0 r1)
    obtain ⟨u, h1, h2⟩ := repPK.at_ (kid_cases k1) r hl
    exact ⟨a, C, dx, us, u, rfl, e2, c, n, h1, q u H1 F1 B1 g (h2 _)⟩⟩⟩
end
structure CalM (Γ : Gd) (C : Addr) (m : Str) (R : Rel) (lc : Nat) (dds : List D) : Prop where
  ex : ∃ f fd ps dvs dus, FnOk Γ.P Γ.w Γ.K Γ.mg Γ.base CX0 lc f fd ps (FnSp Γ.K R) ∧ Cls Γ.K C ∧ Meth Γ.K C m f ∧ Binds Γ.K fd ps dus ∧ Vals dvs dus ∧ ∀ B : Hp, Reps Γ.K B dds dvs
section
variable {X : Cx} {Γ : Gd} {N : List Str} {sc : Scope} {lv lc : Nat} {env : DEnv} {o e : Expr} {es : List Expr} {ds dds : List D} {C : Addr} {fs : List (Str × D)} {d : D} {f m : Str} {k k1 k2 ka kk : Kd} {pos apos : Pos} {R : Rel} {pl : Sem Bool}
theorem CalM.ev (M : CalM Γ C m R lc dds) (A : At X Γ N sc lv) (hl : lc ≤ lv) (ho : Ev X env o (.obj C fs) k1) (hn : fs.lookup m = none) (ha : EA X env (e :: es) ds ka) (hk : ka = .cln ∨ ka = .brw ∨ ka = .drt) (hkr : kk = .own ∨ kk = .cln ∨ kk = .brw)
    (hst : starEach (e :: es) X.env = (false, eval e X.env) :: starEach es X.env) (hpl : (backTo pos (starEach es X.env)).any (·.1) = false)
    (ht : eval (.Call (.Attribute o m apos) (e :: es) [] pos) X.env = (do
      let ov ← eval o X.env
      standAt apos.atName
      let (f, first) ← holding [ov] (getMethod ov m pl)
      callWith pos f first (backTo pos (starEach (e :: es) X.env)) (backToKw pos (keywordEach [] X.env)))) (hR : R (.obj C fs :: (ds ++ dds)) d kk) : Ev X env (.Call (.Attribute o m apos) (e :: es) [] pos) d (retK (k1.held.join ka) kk) := by
  obtain ⟨g, fd, ps, dvs, dus, h1, c, mt, h4, h5, h6⟩ := M.ex
  have eP := A.eP; have eW := A.eW; have eK := A.eK; have eM := A.eM; have eB := A.eB
  rw [← eP, ← eW, ← eK, ← eM, ← eB] at h1
  rw [← eK] at c mt h4 h6
  refine ⟨(pe_meth (pl := pl) ho.held.pe c mt h1 (A.room.mono hl) h4 h5 pass0 ha.pa hst hpl ht).mono fun σ H Q ⟨F, B, E, q⟩ => ⟨F, B, E, fun v H1 F1 B1 g1 r1 => ?_⟩⟩
  have hh : k1.held = .cln ∨ k1.held = .brw ∨ k1.held = .drt := by cases k1 <;> simp [Kd.held]
  have r0 : RepS X.K F1 B1 H1 k1.held (.obj C fs) v := by
    rcases hh with z | z | z <;> rw [z] at r1 ⊢
    · exact Rep.shl g1.hs.fh r1
    · exact r1
    · exact r1
  obtain ⟨a, dx, us, e1, e2, e3⟩ := RepS.obj g1.hs r0
  refine ⟨a, dx, us, e1, e2, repPK.no e3 hn, F1, B1, E.grow g1, fun vs H2 F2 B2 g2 r2 => ?_⟩
  have a1 : repsK X.K F2 B2 H2 (k1.held.join ka) [.obj C fs] [v] := repsK.up g2.hs hh hk (repsK.grow g2 (repK_one hh r1))
  have a2 : repsK X.K F2 B2 H2 (k1.held.join ka) (ds ++ dds) (vs ++ dvs) := by
    rw [join_comm]
    exact repsK.up g2.hs hk hh (reps_drop hk r2 h6)
  exact call_rel g2.hs (join_cases _ _) hkr (repsK_cons (join_cases _ _) a1 a2) hR fun w H3 F3 B3 g3 r3 => q w H3 F3 B3 ((g1.trans g2).trans g3) (RepK.back (g1.trans g2).h r3)
theorem CalM.ev0 (M : CalM Γ C m R lc dds) (A : At X Γ N sc lv) (hl : lc ≤ lv) (ho : Ev X env o (.obj C fs) k1) (hn : fs.lookup m = none) (hkr : kk = .own ∨ kk = .cln ∨ kk = .brw)
    (ht : eval (.Call (.Attribute o m apos) [] [] pos) X.env = (do
      let ov ← eval o X.env
      standAt apos.atName
      let (f, first) ← holding [ov] (getMethod ov m pl)
      callWith pos f first (backTo pos (starEach [] X.env)) (backToKw pos (keywordEach [] X.env)))) (hR : R (.obj C fs :: dds) d kk) : Ev X env (.Call (.Attribute o m apos) [] [] pos) d (retK k1.held kk) := by
  obtain ⟨g, fd, ps, dvs, dus, h1, c, mt, h4, h5, h6⟩ := M.ex
  have eP := A.eP; have eW := A.eW; have eK := A.eK; have eM := A.eM; have eB := A.eB
  rw [← eP, ← eW, ← eK, ← eM, ← eB] at h1
  rw [← eK] at c mt h4 h6
  refine ⟨(pe_meth0 (pl := pl) ho.held.pe c mt h1 (A.room.mono hl) h4 h5 pass0 ht).mono fun σ H Q ⟨F, B, E, q⟩ => ⟨F, B, E, fun v H1 F1 B1 g1 r1 => ?_⟩⟩
  have hh : k1.held = .cln ∨ k1.held = .brw ∨ k1.held = .drt := by cases k1 <;> simp [Kd.held]
  have r0 : RepS X.K F1 B1 H1 k1.held (.obj C fs) v := by
    rcases hh with z | z | z <;> rw [z] at r1 ⊢
    · exact Rep.shl g1.hs.fh r1
    · exact r1
    · exact r1
  obtain ⟨a, dx, us, e1, e2, e3⟩ := RepS.obj g1.hs r0
  refine ⟨a, dx, us, e1, e2, repPK.no e3 hn, ?_⟩
  have a2 : repsK X.K F1 B1 H1 k1.held (.obj C fs :: dds) (v :: dvs) := reps_drop (ds := [.obj C fs]) (vs := [v]) hh (repK_one hh r1) h6
  show FnSp X.K R (v :: dvs) H1 Q E0
  exact call_rel g1.hs hh hkr a2 hR fun w H3 F3 B3 g3 r3 => q w H3 F3 B3 (g1.trans g3) (RepK.back g1.h r3)
end
theorem execs_one {st : Stmt} {env : Env} : execs [st] env = exec st env := by
  rw [PySem.execs_cons]
  refine Eq.trans ?_ (bind_pure (exec st env))
  exact congrArg (fun g => exec st env >>= g) (funext fun f => by cases f <;> rfl)
theorem _root_.L2.PSs.ps {X : Cx} {st : Stmt} {t : TS} (h : PSs X [st] t) : PS X st t := ⟨fun pins s σ H D I q => by
  have := h.run pins s σ H D I q
  rw [execs_one] at this
  exact this⟩
def PostI (K : PySem.W.Frag) (F B G : Hp) (x C dx : Addr) (ws : List (Str × D)) (Dd : Ends) : Prop := ∀ σ' H' F' B' us', GS F B G F' B' → Hs F' B' H' → Same (upd G x (.ins C dx us')) H' → RepP K F' Str ws us' → F' x = none → B' x = none → Dd.nx σ' H'
def tSI (K : PySem.W.Frag) (x C dx : Addr) (env : DEnv) (fs ws : List (Str × D)) : TS := fun Dd σ H => ∃ F B G us, EnvS K F B (upd G x (.ins C dx us)) H env σ ∧ RepP K F Str fs us ∧ F x = none ∧ B x = none ∧ G x = none ∧ PostI K F B G x C dx ws Dd
structure SI (X : Cx) (x C dx : Addr) (env : DEnv) (fs : List (Str × D)) (sts : List Stmt) (ws : List (Str × D)) : Prop where
  ps : PSs X sts (tSI X.K x C dx env fs ws)
section
variable {X : Cx} {Γ : Gd} {N : List Str} {sc : Scope} {lv lc : Nat} {vl ll : List Nat} {gl : List Str} {env env' : DEnv} {e : Expr} {es : List Expr} {st : Stmt} {rest : List Stmt} {ds dds : List D} {x C dx : Addr} {fs ws : List (Str × D)} {d : D} {f n : Str} {k ka kk : Kd} {pos p apos np : Pos}
theorem si_nil : SI X x C dx env ws [] ws := ⟨pss_nil.mono fun Dd σ H ⟨F, B, G, us, E, r, n1, n2, n3, P⟩ => P σ H F B us .refl E.hs E.gh r n1 n2⟩
theorem gs_down {F B G F' B' : Hp} {o : HO} (n : G x = none) (g : GS F B (upd G x o) F' B') : GS F B G F' B' :=
  ⟨g.f, g.b, fun p h1 h2 => g.newF p (by rw [upd_ne (fun z => h1 (by rw [z]; exact n))]; exact h1) h2, fun p h1 h2 => g.newB p (by rw [upd_ne (fun z => h1 (by rw [z]; exact n))]; exact h1) h2⟩
theorem gs_none {F B G F' B' : Hp} {o : HO} (g : GS F B (upd G x o) F' B') (n1 : F x = none) (n2 : B x = none) : F' x = none ∧ B' x = none := by
  constructor
  · cases q : F' x with
    | none => rfl
    | some u => exact absurd n1 (g.newF x (by rw [upd_same]; exact fun z => nomatch z) (by rw [q]; exact fun z => nomatch z))
  · cases q : B' x with
    | none => rfl
    | some u => exact absurd n2 (g.newB x (by rw [upd_same]; exact fun z => nomatch z) (by rw [q]; exact fun z => nomatch z))
theorem PostI.gs {K : PySem.W.Frag} {F B G F1 B1 : Hp} {Dd : Ends} (P : PostI K F B G x C dx ws Dd) (g : GS F B G F1 B1) : PostI K F1 B1 G x C dx ws Dd := fun σ' H' F' B' us' q => P σ' H' F' B' us' (g.trans q)
theorem si_cons (h : SS X env [st] { nx := fun e => e = env' }) (r : SI X x C dx env' fs rest ws) : SI X x C dx env fs (st :: rest) ws :=
  ⟨(pss_cons h.ps.ps r.ps).mono fun Dd σ H ⟨F, B, G, us, E, q, n1, n2, n3, P⟩ => ⟨F, B, _, E, fun e σ' H' F' B' g E' he => by
    subst he
    obtain ⟨m1, m2⟩ := gs_none g n1 n2
    exact ⟨F', B', G, us, E', RepP.mono g.f q, m1, m2, n3, P.gs (gs_down n3 g)⟩, fun _ _ _ _ _ _ _ _ _ _ h => h.elim, fun _ _ _ _ _ _ _ h => h.elim, fun _ _ _ _ _ _ _ h => h.elim⟩⟩
theorem EnvS.setX {K : PySem.W.Frag} {F B G H : Hp} {σ : St} {us us2 : List (Str × V)} (E : EnvS K F B (upd G x (.ins C dx us)) H env σ) (n1 : F x = none) (n2 : B x = none) : EnvS K F B (upd G x (.ins C dx us2)) (upd H x (.ins C dx us2)) env σ := by
  have hx : H x = some (.ins C dx us) := E.gh _ _ upd_same
  refine ⟨⟨E.hs.fb, fun a u e => by rw [upd_ne (ne_of_none e n2)]; exact E.hs.bh _ _ e, fun a xs h => ?_⟩, fun a u e => ?_, E.len, fun j s e => ?_, E.dis⟩
  · by_cases z : a = x
    · subst z
      rcases h with h | ⟨u, h⟩ <;> (rw [upd_same] at h; cases h)
    · refine E.hs.tup a xs ?_
      rcases h with h | ⟨u, h⟩
      · rw [upd_ne z] at h; exact .inl h
      · rw [upd_ne z] at h; exact .inr ⟨u, h⟩
  · by_cases z : a = x
    · subst z; rw [upd_same] at e ⊢; exact e
    · rw [upd_ne z] at e ⊢
      exact E.gh _ _ (by rw [upd_ne z]; exact e)
  · obtain ⟨v, h1, h2⟩ := E.at_ j s e
    refine ⟨v, h1, ?_⟩
    cases s with
    | frz t => exact h2
    | bor t => exact h2
    | own t =>
      obtain ⟨q, e1, m1, m2, r⟩ := h2
      have ne : q ≠ x := fun z => by subst z; rw [upd_same] at m2; cases m2
      refine ⟨q, e1, m1, by rw [upd_ne ne] at m2 ⊢; exact m2, ?_⟩
      cases t with
      | lst _ => obtain ⟨vs, a1, a2⟩ := r; exact ⟨vs, by rw [upd_ne ne]; exact a1, a2⟩
      | dK _ => obtain ⟨vs, a1, a2⟩ := r; exact ⟨vs, by rw [upd_ne ne]; exact a1, a2⟩
      | dT _ => obtain ⟨vs, a1, a2⟩ := r; exact ⟨vs, by rw [upd_ne ne]; exact a1, a2⟩
      | obj _ _ => obtain ⟨dy, vs, a1, a2⟩ := r; exact ⟨dy, vs, by rw [upd_ne ne]; exact a1, a2⟩
      | _ => exact r.elim
theorem si_set (A : At X Γ N sc lv) (S : Sc N sc vl ll gl) (i : Nat) (hN : N[i]? = some n) (hv : vl.contains i = true) (hself : env[i]? = some (some (.bor (.adr x)))) (c : Cls X.K C) (na : NoAttr X.K C f) (he : Ev X env e d k) (hk : heldOf k d = .cln) (hz : fs.length < 1000)
    (hs : swapsWith e (some (.Attribute (.Name n np) f p)) pos.line X.env = pure false) (r : SI X x C dx env (putD f d fs) rest ws) : SI X x C dx env fs (.Assign [.Attribute (.Name n np) f p] e pos :: rest) ws := by
  obtain ⟨v1, v2⟩ := S.vis hv hN
  obtain ⟨p1, p2, _⟩ := plainB_ok v2
  refine ⟨(pss_cons (ps_fld (f := f) (pe_var (by rw [A.eN]; exact hN) (A.eS.vis v1) p1 p2) he.heldOf.pe hs) r.ps).mono fun Dd σ H ⟨F, B, G, us, E, q, n1, n2, n3, P⟩ => ⟨F, B, E.e, fun v H1 F1 B1 g r1 => ?_⟩⟩
  rw [hk] at r1
  have E1 := E.grow g
  obtain ⟨m1, m2⟩ := gs_none (g.gs E.gh) n1 n2
  obtain ⟨w, h1, h2⟩ := E1.at_ i _ hself
  cases (show Rep X.K B1 (.adr x) w from h2)
  have q1 := RepP.mono g.f q
  refine ⟨_, h1, x, C, dx, us, rfl, E1.gh _ _ upd_same, c, na, by rw [q1.len]; exact hz, ?_⟩
  exact ⟨F1, B1, G, _, E1.setX m1 m2, RepP.put r1 q1, m1, m2, n3, P.gs (gs_down n3 (g.gs E.gh))⟩
abbrev RelI := List D → List (Str × D) → Prop
def FnSpI (K : PySem.W.Frag) (C : Addr) (R : RelI) : Sp := fun vs H Q _ => ∃ x dx rest F B G ds ws, vs = .ref x :: rest ∧ H x = some (.ins C dx []) ∧ G x = none ∧ Same (upd G x (.ins C dx [])) H ∧ Hs F B H ∧ F x = none ∧ B x = none ∧ Reps K B ds rest ∧ R ds ws ∧
  ∀ H' F' B' us, GS F B G F' B' → Hs F' B' H' → Same (upd G x (.ins C dx us)) H' → RepP K F' Str ws us → F' x = none → B' x = none → Q .non H'
theorem def_okI {P : Program} {w : World} {K : PySem.W.Frag} {mg : Str → Option Value} {base : Heap} {nm qual : Str} {params : Arguments} {body : List Stmt} {scope : Scope} {dvs : List V} {kws : List (Str × V)} {g : Addr} {fd : FuncData} {N ps : List Str} {lv : Nat} {R : RelI}
    (Fd : FunD K nm qual params body scope dvs kws g fd) (S : FnScope N ps scope) (hl : ∀ ds ws, R ds ws → ds.length + 1 = ps.length) (hn : ps.length ≤ N.length)
    (hb : ∀ X : Cx, Cf X P w K mg base N scope lv → ∀ x dx ds ws, R ds ws → SI X x C dx (env0 N.length (.adr x :: ds)) [] body ws) :
    FnOk P w K mg base CX0 (lv + 1) g fd ps (FnSpI K C R) := by
  refine Fd.ok S (fun vs H Q E ⟨x, dx, rest, F, B, G, ds, ws, e, _, _, _, _, _, _, r, hR, _⟩ => by subst e; rw [List.length_cons, r.length]; exact hl _ _ hR) fun cdv A outer s H vs Q E hr ⟨x, dx, rest, F, B, G, ds, ws, e, hx, gx, gh, hs, fx, bx, r, hR, q⟩ => ?_
  subst e
  have h := hb (cxOf CX0 P w K mg base N qual scope g cdv A outer s H E).nox ⟨rfl, rfl, rfl, rfl, rfl, rfl, rfl, fun _ => rfl, rfl, hr, rfl⟩ x dx ds ws hR
  refine ⟨_, PSs.nox h.ps, F, B, G, [], ?_, .nil, fx, bx, gx, fun σ' H' F' B' us' g1 h1 s1 r1 m1 m2 => q H' F' B' us' g1 h1 s1 r1 m1 m2⟩
  have E0 := env0_ok (N := N) hs (.cons (.adr (a := x)) r) (by rw [List.length_cons, hl _ _ hR]; exact hn)
  refine ⟨hs, gh, E0.len, fun i t et => ?_, E0.dis⟩
  obtain ⟨v, v1, v2⟩ := E0.at_ i t et
  refine ⟨v, v1, ?_⟩
  cases t with
  | frz d => exact v2
  | bor d => exact v2
  | own d =>
    exfalso
    unfold env0 at et
    by_cases hi : i < (D.adr x :: ds).length
    · rw [List.getElem?_append_left (by simpa using hi), List.getElem?_map] at et
      cases q2 : (D.adr x :: ds)[i]? with
      | none => rw [q2] at et; cases et
      | some d0 => rw [q2] at et; cases d0 <;> cases et
    · rw [List.getElem?_append_right (by simpa using hi), List.getElem?_replicate] at et
      split at et <;> cases et
structure CalN (Γ : Gd) (n : Str) (C : Addr) (R : RelI) (lc : Nat) (dds : List D) : Prop where
  ex : ∃ g fd ps dvs dus, FnOk Γ.P Γ.w Γ.K Γ.mg Γ.base CX0 lc g fd ps (FnSpI Γ.K C R) ∧ Mk Γ.K C g ∧ Γ.mg n = some (.ref C) ∧ Binds Γ.K fd ps dus ∧ Vals dvs dus ∧ ∀ B : Hp, Reps Γ.K B dds dvs
def RelN (C : Addr) (R : RelI) : Rel := fun ds d k => ∃ ws, R ds ws ∧ d = .obj C ws ∧ k = .own
theorem make_sp {K : PySem.W.Frag} {R : RelI} {H : Hp} {vs : List V} {Q : VK} {E : XK} {a dx : Addr} (h : FnSp K (RelN C R) vs H Q E) (ha : H a = none) (hd : H dx = none) (ne : dx ≠ a) :
    FnSpI K C R (.ref a :: vs) (upd (upd H dx (.own a)) a (.ins C dx [])) (fun v H2 => v = .non ∧ Q (.ref a) H2) E := by
  obtain ⟨F, B, ds, d, k, hs, r, ⟨ws, hR, e1, e2⟩, q⟩ := h
  subst e1 e2
  have s1 : Same H (upd H dx (.own a)) := same_upd hd
  have ga : upd H dx (.own a) a = none := by rw [upd_ne (Ne.symm ne)]; exact ha
  have s2 : Same H (upd (upd H dx (.own a)) a (.ins C dx [])) := s1.trans (same_upd ga)
  refine ⟨a, dx, vs, F, B, upd H dx (.own a), ds, ws, rfl, upd_same, ga, fun _ _ z => z, ⟨hs.fb, hs.bh.trans s2, fun b xs h => hs.tup b xs ?_⟩, hs.fh.free ha, hs.bh.free ha, r, hR, fun H' F' B' us g h1 s3 r1 m1 m2 => ⟨rfl, ?_⟩⟩
  · have nb : b ≠ a := fun z => by subst z; rcases h with h | ⟨u, h⟩ <;> (rw [upd_same] at h; cases h)
    have nd : b ≠ dx := fun z => by subst z; rcases h with h | ⟨u, h⟩ <;> (rw [upd_ne ne, upd_same] at h; cases h)
    rcases h with h | ⟨u, h⟩
    · rw [upd_ne nb, upd_ne nd] at h; exact .inl h
    · rw [upd_ne nb, upd_ne nd] at h; exact .inr ⟨u, h⟩
  · have sH : Same H H' := fun p o e => s3 _ _ (by
      have np : p ≠ a := fun z => by subst z; rw [ha] at e; cases e
      have nq : p ≠ dx := fun z => by subst z; rw [hd] at e; cases e
      rw [upd_ne np, upd_ne nq]; exact e)
    have up : ∀ p, H p ≠ none → upd H dx (.own a) p ≠ none := fun p hp => by
      rw [upd_ne (fun z => hp (by rw [z]; exact hd))]; exact hp
    exact q (.ref a) H' F' B' ⟨g.f, g.b, sH, h1, fun p h2 h3 => g.newF p (up p h2) h3, fun p h2 h3 => g.newB p (up p h2) h3⟩ ⟨a, rfl, ha, m2, dx, us, s3 _ _ upd_same, r1⟩
theorem CalN.ev {R : RelI} (M : CalN Γ n C R lc dds) (A : At X Γ N sc lv) (S : Sc N sc vl ll gl) (j : Nat) (hg : gl[j]? = some n) (hl : lc + 1 ≤ lv) (ha : EA X env (e :: es) ds ka) (hk : ka = .cln ∨ ka = .brw ∨ ka = .drt)
    (he : starEach (e :: es) X.env = (false, eval e X.env) :: starEach es X.env) (hpl : (backTo pos (starEach es X.env)).any (·.1) = false) (hR : R (ds ++ dds) ws) : Ev X env (.Call (.Name n p) (e :: es) [] pos) (.obj C ws) .own := by
  obtain ⟨g, fd, ps, dvs, dus, h1, h2, h3, h4, h5, h6⟩ := M.ex
  have eP := A.eP; have eW := A.eW; have eK := A.eK; have eM := A.eM; have eB := A.eB
  rw [← eP, ← eW, ← eK, ← eM, ← eB] at h1
  rw [← eM] at h3
  rw [← eK] at h2 h4 h6
  refine ⟨(pe_make h2 h1 (A.room.mono hl) (glo A S j hg) h3 h4 h5 pass0 ha.pa (plainB_ok (S.glo hg).2).1 he hpl).mono fun σ H Q ⟨F, B, E, q⟩ => ⟨F, B, E, fun vs H1 F1 B1 g1 r1 => fun a dx m1 m2 m3 => ?_⟩⟩
  exact make_sp (call_rel (d := .obj C ws) (k := .own) g1.hs hk (.inl rfl) (reps_drop hk r1 h6) ⟨ws, hR, rfl, rfl⟩ fun w H2 F2 B2 g2 r2 => q w H2 F2 B2 (g1.trans g2) (RepK.back g1.h (by
    have : retK ka .own = .own := by rcases hk with h | h | h <;> subst h <;> rfl
    rw [this] at r2; exact r2))) m1 m2 m3
theorem si_ifR {c : Expr} {A : List Stmt} (hc : Et X env c false) (r : SI X x C dx env fs rest ws) : SI X x C dx env fs (.If c A [] pos :: rest) ws :=
  si_cons (env' := env) (ss_if hc (fun z => nomatch z) fun _ => ss_nil (ss_nil rfl)) r
theorem swstC {a b : Expr} {y z : Str} {px py pt pq : Pos} {kt kk : Nat} {env : Env} (hf : [a, b].all (foldedForSure 8) = true) : swappedStores [.Tuple [.Name y px, .Name z py] kt pt] (.Tuple [a, b] kk pq) env = pure none := by
  simp only [List.all_cons, List.all_nil, Bool.and_true, Bool.and_eq_true] at hf
  unfold swappedStores
  simp [hf.1, hf.2]
end
end DL
namespace DL
open PySem PySem.Spec L2
open PyProof.Rows hiding St
structure CalNK (Γ : Gd) (n : Str) (C : Addr) (R : RelI) (lc np : Nat) (ks : List Str) (ord : List D → List D → List D) : Prop where
  ex : ∃ g fd ps gb gV, FnOk Γ.P Γ.w Γ.K Γ.mg Γ.base CX0 lc g fd ps (FnSpI Γ.K C R) ∧ Mk Γ.K C g ∧ Γ.mg n = some (.ref C) ∧ KBn Γ.K fd ps (np + 1) ks gb gV ∧
    ∀ (vs us : List V), vs.length = np → us.length = ks.length → ∃ ws : List V, (∀ r : V, gV (r :: vs) us = r :: ws) ∧ ∀ (B : Hp) ds zs, Reps Γ.K B ds vs → Reps Γ.K B zs us → Reps Γ.K B (ord ds zs) ws
theorem repsK_all {K : PySem.W.Frag} {F B H : Hp} {k : Kd} {ds zs es : List D} {vs us ws : List V} (h : ∀ (B : Hp), Reps K B ds vs → Reps K B zs us → Reps K B es ws) (r1 : repsK K F B H k ds vs) (r2 : repsK K F B H k zs us) : repsK K F B H k es ws := by
  cases k with
  | drt => exact h H r1 r2
  | brw => exact h B r1 r2
  | own => exact h F r1 r2
  | cln => exact h F r1 r2
  | shl => exact h F r1 r2
section
variable {X : Cx} {Γ : Gd} {N : List Str} {sc : Scope} {lv lc : Nat} {vl ll : List Nat} {gl : List Str} {env : DEnv} {e : Expr} {es : List Expr} {ds zs : List D} {C : Addr} {ws : List (Str × D)} {n : Str} {ka kb : Kd} {pos p : Pos} {R : RelI} {kws : List Keyword} {np : Nat} {ks : List Str} {ord : List D → List D → List D}
theorem CalNK.ev (M : CalNK Γ n C R lc np ks ord) (A : At X Γ N sc lv) (S : Sc N sc vl ll gl) (j : Nat) (hg : gl[j]? = some n) (hl : lc + 1 ≤ lv) (ha : EA X env (e :: es) ds ka) (hk : ka = .cln ∨ ka = .brw ∨ ka = .drt) (hz : EK X env kws zs kb) (hk2 : kb = .cln ∨ kb = .brw ∨ kb = .drt)
    (l1 : ds.length = np) (l2 : zs.length = ks.length) (hall : (backToKw pos (keywordEach kws X.env)).all (·.1.isSome) = true) (hks : (backToKw pos (keywordEach kws X.env)).filterMap (·.1) = ks) (he : starEach (e :: es) X.env = (false, eval e X.env) :: starEach es X.env)
    (hpl : ((backTo pos (starEach (e :: es) X.env)).any (·.1) || (backToKw pos (keywordEach kws X.env)).any (·.1.isNone)) = false) (hR : R (ord ds zs) ws) : Ev X env (.Call (.Name n p) (e :: es) kws pos) (.obj C ws) .own := by
  obtain ⟨g, fd, ps, gb, gV, h1, h2, h3, h4, h5⟩ := M.ex
  have eP := A.eP; have eW := A.eW; have eK := A.eK; have eM := A.eM; have eB := A.eB
  rw [← eP, ← eW, ← eK, ← eM, ← eB] at h1
  rw [← eM] at h3
  rw [← eK] at h2 h4 h5
  refine ⟨(pe_makeN h2 h1 (A.room.mono hl) (glo A S j hg) h3 h4 pass0 ha.pa hz.pk hall hks (plainB_ok (S.glo hg).2).1 he hpl).mono fun σ H Q ⟨F, B, E, q⟩ => ⟨F, B, E, fun vs H1 F1 B1 g1 r1 => ⟨F1, B1, E.grow g1, fun us H2 F2 B2 g2 r2 => ?_⟩⟩⟩
  have r1' := repsK.grow g2 r1
  have e1 : vs.length = np := by rw [r1'.len, l1]
  have e2 : us.length = ks.length := by rw [r2.len, l2]
  obtain ⟨wv, w1, w2⟩ := h5 vs us e1 e2
  refine ⟨e1, e2, fun a dx m1 m2 m3 => ?_⟩
  rw [w1]
  have rr : repsK X.K F2 B2 H2 (ka.join kb) (ord ds zs) wv := repsK_all (fun B q1 q2 => w2 B _ _ q1 q2) (repsK.up g2.hs hk hk2 r1') (by rw [join_comm]; exact repsK.up g2.hs hk2 hk r2)
  exact make_sp (call_rel (d := .obj C ws) (k := .own) g2.hs (join_cases _ _) (.inl rfl) rr ⟨ws, hR, rfl, rfl⟩ fun w H3 F3 B3 g3 r3 => q w H3 F3 B3 ((g1.trans g2).trans g3) (RepK.back (g1.trans g2).h (by
    have : retK (ka.join kb) .own = .own := by rcases join_cases ka kb with h | h | h <;> rw [h] <;> rfl
    rw [this] at r3; exact r3))) m1 m2 m3
theorem CalNK.ev0 (M : CalNK Γ n C R lc 0 ks ord) (A : At X Γ N sc lv) (S : Sc N sc vl ll gl) (j : Nat) (hg : gl[j]? = some n) (hl : lc + 1 ≤ lv) (hz : EK X env kws zs kb) (hk2 : kb = .cln ∨ kb = .brw ∨ kb = .drt)
    (l2 : zs.length = ks.length) (hall : (backToKw pos (keywordEach kws X.env)).all (·.1.isSome) = true) (hks : (backToKw pos (keywordEach kws X.env)).filterMap (·.1) = ks)
    (hpl : ((backTo pos (starEach [] X.env)).any (·.1) || (backToKw pos (keywordEach kws X.env)).any (·.1.isNone)) = false) (hR : R (ord [] zs) ws) : Ev X env (.Call (.Name n p) [] kws pos) (.obj C ws) .own := by
  obtain ⟨g, fd, ps, gb, gV, h1, h2, h3, h4, h5⟩ := M.ex
  have eP := A.eP; have eW := A.eW; have eK := A.eK; have eM := A.eM; have eB := A.eB
  rw [← eP, ← eW, ← eK, ← eM, ← eB] at h1
  rw [← eM] at h3
  rw [← eK] at h2 h4 h5
  refine ⟨(pe_makeK0 h2 h1 (A.room.mono hl) (glo A S j hg) h3 h4 pass0 hz.pk hall hks (plainB_ok (S.glo hg).2).1 hpl).mono fun σ H Q ⟨F, B, E, q⟩ => ⟨F, B, E, fun us H2 F2 B2 g2 r2 => ?_⟩⟩
  have e2 : us.length = ks.length := by rw [r2.len, l2]
  obtain ⟨wv, w1, w2⟩ := h5 [] us rfl e2
  refine ⟨rfl, e2, fun a dx m1 m2 m3 => ?_⟩
  rw [w1]
  have nk : repsK X.K F2 B2 H2 kb [] [] := by cases kb <;> exact .nil
  have rr : repsK X.K F2 B2 H2 kb (ord [] zs) wv := repsK_all (fun B q1 q2 => w2 B _ _ q1 q2) nk r2
  exact make_sp (call_rel (d := .obj C ws) (k := .own) g2.hs hk2 (.inl rfl) rr ⟨ws, hR, rfl, rfl⟩ fun w H3 F3 B3 g3 r3 => q w H3 F3 B3 (g2.trans g3) (RepK.back g2.h (by
    have : retK kb .own = .own := by rcases hk2 with h | h | h <;> subst h <;> rfl
    rw [this] at r3; exact r3))) m1 m2 m3
end
def asS : D → Option Str
  | .str s => some s
  | _ => none
theorem asS_ {X : Cx} {env : DEnv} {e : Expr} {d : D} {s : Str} {k : Kd} (h : asS d = some s) (a : Ev X env e d k) : Ev X env e (.str s) k := by
  cases d <;> simp [asS] at h
  subst h
  exact a
end DL
namespace DL
open PySem PySem.Spec L2
open PyProof.Rows hiding St
section
variable {prog : Program} {w : World} {A : Around} {E : Value → Shared → Prop} {s : Shared} {z U O j1 j2 : Addr} {f1 f2 : List Addr} {n1 n2 i : Nat} {P1 P2 : Nat → Value → Prop} {S1 S2 : Nat → Heap → Prop} {b : Bool} {T : Addr} {oT : Obj}
theorem zipH_item {Q : Value → Shared → Prop} (Z : ZipSep2 z U O j1 j2 f1 f2) (Da : Draws prog w A j1 f1 n1 P1 S1) (Db : Draws prog w A j2 f2 n2 P2 S2)
    (kz : IsZipHeld s.heap z U O T b) (kT : s.heap.get? T = some oT) (kU : IsTupOf2 s.heap U (.ref j1) (.ref j2)) (t1 : S1 i s.heap) (t2 : S2 i s.heap) (l1 : i < n1) (l2 : i < n2)
    (q : ∀ x y h' tk, P1 i x → P2 i y → IsZipHeld h' z U O T true → S1 (i + 1) h' → S2 (i + 1) h' → IsTupOf2 h' s.heap.objs.size x y → h'.objs.size = s.heap.objs.size + 1 →
      (∀ c o, c ≠ z → c ≠ j1 → c ≠ j2 → s.heap.get? c = some o → h'.get? c = some o) → Q (.ref s.heap.objs.size) { s with heap := h', toks := tk }) :
    wpAny (model prog w) A (Builtin.«zip.__next__» ⟨[.ref z], []⟩) (fun r s' => ∃ v, r = .done (.ret v) ∧ Q v s') E s := by
  obtain ⟨hp, g, d, tk0, os⟩ := s
  show wpAny _ _ (field (.ref z) 2 >>= _) _ _ _
  apply wpAny_bind; apply wpAny_field kz rfl (x := .bool false) rfl
  show wpAny _ _ (field (.ref z) 3 >>= _) _ _ _
  apply wpAny_bind; apply wpAny_field kz rfl (x := .ref U) rfl
  apply wpAny_bind; apply wpAny_seqItems kU rfl
  show wpAny _ _ (Builtin.SmallTypes.ownedTupleIsFree (.ref z) >>= _) _ _ _
  apply wpAny_bind; refine wpAny_tupleHeld_zip kz kT fun g1 kz1 e1 => ?_
  simp only [Bool.false_eq_true, if_false]
  apply wpAny_bind; rw [← Array.forIn_toList]; simp only [List.forIn_cons, List.forIn_nil]
  apply wpAny_bind; apply wpAny_bind; apply wpAny_holding
  replace e1 : Heap.SameBut z hp g1 := e1
  show wpAny _ _ (Builtin.SmallTypes.nextOf (.ref j1) >>= _) _ _ ⟨g1, g, d, tk0, os⟩
  refine wpAny_bind (Da.item i _ _ _ l1 (Da.over t1 e1 Z.zf1) fun x g2 tk2 px u1 e2 => wpAny_pure (wpAny_pure ?_))
  replace e2 : Heap.SameBut j1 g1 g2 := e2
  apply wpAny_bind; apply wpAny_bind; apply wpAny_holding
  show wpAny _ _ (Builtin.SmallTypes.nextOf (.ref j2) >>= _) _ _ ⟨g2, g, d, tk2, os⟩
  refine wpAny_bind (Db.item i _ _ _ l2 (Db.over (Db.over t2 e1 Z.zf2) e2 Z.sep1_2) fun y g3 tk3 py u2 e3 => wpAny_pure (wpAny_pure (wpAny_pure ?_)))
  replace e3 : Heap.SameBut j2 g2 g3 := e3
  show wpAny _ _ (newTuple [x, y] >>= _) _ _ ⟨g3, g, d, tk3, os⟩
  refine wpAny_bind (wpAny_newTuple (s := ⟨g3, g, d, tk3, os⟩) ?_)
  have sz : g3.objs.size = hp.objs.size := by rw [e3.1, e2.1, e1.1]
  have kz3 : IsZipHeld g3 z U O T true := e3.extBut _ _ Z.zi2 (e2.extBut _ _ Z.zi1 kz1)
  have u1' : S1 (i + 1) g3 := Da.over u1 e3 Z.sep2_1
  refine wpAny_pure ⟨_, rfl, ?_⟩
  have np : IsTupOf2 (g3.push { cls := .type "tuple", data := .seq #[x, y] }) g3.objs.size x y := Heap.get?_push_size _ rfl
  have ns : (g3.push { cls := .type "tuple", data := .seq #[x, y] }).objs.size = g3.objs.size + 1 := Heap.size_push ..
  show Q (.ref g3.objs.size) _
  rw [sz] at np ns ⊢
  exact q x y _ tk3 px py (Heap.get?_push_of_some _ kz3) (Da.frame _ _ _ u1' fun _ _ o m => Heap.get?_push_of_some _ m) (Db.frame _ _ _ u2 fun _ _ o m => Heap.get?_push_of_some _ m) np ns
    fun c o m1 m2 m3 m => Heap.get?_push_of_some _ (e3.extBut _ _ m3 (e2.extBut _ _ m2 (e1.extBut _ _ m1 m)))
theorem zipH_end {Q : PySem.Fin → Shared → Prop} (Z : ZipSep2 z U O j1 j2 f1 f2) (Da : Draws prog w A j1 f1 n1 P1 S1) (Db : Draws prog w A j2 f2 n2 P2 S2)
    (kz : IsZipHeld s.heap z U O T b) (kT : s.heap.get? T = some oT) (kU : IsTupOf2 s.heap U (.ref j1) (.ref j2)) (t1 : S1 i s.heap) (t2 : S2 i s.heap) (l1 : i ≤ n1) (l2 : i ≤ n2) (le : i = n1 ∨ i = n2)
    (q : ∀ h' tk e, (∀ c o, c ≠ z → c ≠ j1 → c ≠ j2 → s.heap.get? c = some o → h'.get? c = some o) → (∃ o, h'.get? e = some o ∧ o.cls = .type "StopIteration") → E (.ref e) { s with heap := h', toks := tk }) :
    wpAny (model prog w) A (Builtin.«zip.__next__» ⟨[.ref z], []⟩) Q E s := by
  obtain ⟨hp, g, d, tk0, os⟩ := s
  show wpAny _ _ (field (.ref z) 2 >>= _) _ _ _
  apply wpAny_bind; apply wpAny_field kz rfl (x := .bool false) rfl
  show wpAny _ _ (field (.ref z) 3 >>= _) _ _ _
  apply wpAny_bind; apply wpAny_field kz rfl (x := .ref U) rfl
  apply wpAny_bind; apply wpAny_seqItems kU rfl
  show wpAny _ _ (Builtin.SmallTypes.ownedTupleIsFree (.ref z) >>= _) _ _ _
  apply wpAny_bind; refine wpAny_tupleHeld_zip kz kT fun g1 kz1 e1 => ?_
  simp only [Bool.false_eq_true, if_false]
  apply wpAny_bind; rw [← Array.forIn_toList]; simp only [List.forIn_cons, List.forIn_nil]
  apply wpAny_bind; apply wpAny_bind; apply wpAny_holding
  replace e1 : Heap.SameBut z hp g1 := e1
  show wpAny _ _ (Builtin.SmallTypes.nextOf (.ref j1) >>= _) _ _ ⟨g1, g, d, tk0, os⟩
  by_cases h1 : i < n1
  · have i2 : i = n2 := by omega
    refine wpAny_bind (Da.item i _ _ _ h1 (Da.over t1 e1 Z.zf1) fun x g2 tk2 px u1 e2 => wpAny_pure (wpAny_pure ?_))
    replace e2 : Heap.SameBut j1 g1 g2 := e2
    apply wpAny_bind; apply wpAny_bind; apply wpAny_holding
    show wpAny _ _ (Builtin.SmallTypes.nextOf (.ref j2) >>= _) _ _ ⟨g2, g, d, tk2, os⟩
    exact wpAny_bind (Db.done ⟨g2, g, d, tk2, os⟩ _ _ (by rw [← i2]; exact Db.over (Db.over t2 e1 Z.zf2) e2 Z.sep1_2) fun g3 e m3 he => q g3 tk2 e (fun c o n1 n2 n3 x => m3 _ _ n3 (e2.extBut _ _ n2 (e1.extBut _ _ n1 x))) he)
  · have i1 : i = n1 := by omega
    exact wpAny_bind (Da.done ⟨g1, g, d, tk0, os⟩ _ _ (by rw [← i1]; exact Da.over t1 e1 Z.zf1) fun g3 e m3 he => q g3 tk0 e (fun c o n1 n2 n3 x => m3 _ _ n2 (e1.extBut _ _ n1 x)) he)
def Lives (f : List Addr) (S : Nat → Heap → Prop) : Prop := ∀ i h, S i h → ∀ c ∈ f, ∃ o, h.get? c = some o
def ZipAt (z U O j1 j2 d : Addr) (f1 f2 : List Addr) (S1 S2 : Nat → Heap → Prop) (i : Nat) (h : Heap) : Prop :=
  IsTupOf2 h U (.ref j1) (.ref j2) ∧ S1 i h ∧ S2 i h ∧ ((IsZip h z U O .none ∧ ∃ x y, IsTupOf2 h O x y) ∨ ∃ T b oT, IsZipHeld h z U O T b ∧ h.get? T = some oT ∧ T ≠ z ∧ T ≠ j1 ∧ T ≠ j2 ∧ T ≠ d)
theorem zipAt_src {d : Addr} (Z : ZipSep2 z U O j1 j2 f1 f2) (Da : Draws prog w A.in1 j1 f1 n1 P1 S1) (Db : Draws prog w A.in1 j2 f2 n2 P2 S2) (dz : d ≠ z) (dU : d ≠ U) (dO : d ≠ O) (d1 : d ∉ f1) (d2 : d ∉ f2) :
    PairSrc prog w A z d [z, O, j1, j2] (min n1 n2) (fun i x y => P1 i x ∧ P2 i y) (ZipAt z U O j1 j2 d f1 f2 S1 S2) where
  off := fun m => by
    have h1 : d ≠ j1 := fun e => d1 (e ▸ Z.mem1)
    have h2 : d ≠ j2 := fun e => d2 (e ▸ Z.mem2)
    rcases List.mem_cons.mp m with e | m
    · exact dz e
    rcases List.mem_cons.mp m with e | m
    · exact dO e
    rcases List.mem_cons.mp m with e | m
    · exact h1 e
    exact h2 (List.mem_singleton.mp m)
  frame := fun i h h' ⟨kU, t1, t2, kz⟩ k => by
    refine ⟨k _ _ (Ne.symm dU) kU, Da.frame _ _ _ t1 fun c hc o => k c o fun e => d1 (e ▸ hc), Db.frame _ _ _ t2 fun c hc o => k c o fun e => d2 (e ▸ hc), ?_⟩
    rcases kz with ⟨kz, x, y, kO⟩ | ⟨T, b, oT, kz, kT, r1, r2, r3, r4⟩
    · exact .inl ⟨k _ _ (Ne.symm dz) kz, x, y, k _ _ (Ne.symm dO) kO⟩
    · exact .inr ⟨T, b, oT, k _ _ (Ne.symm dz) kz, k _ _ r4 kT, r1, r2, r3, r4⟩
  item := fun i s Q E hi ⟨kU, t1, t2, kz⟩ hd q => by
    have l1 : i < n1 := by omega
    have l2 : i < n2 := by omega
    have lt : ∀ {c o}, s.heap.get? c = some o → s.heap.objs.size ≠ c := fun e => Nat.ne_of_gt (Heap.lt_size e)
    have m1 : s.heap.objs.size ≠ j1 := let ⟨_, e⟩ := Da.live _ _ t1; lt e
    have m2 : s.heap.objs.size ≠ j2 := let ⟨_, e⟩ := Db.live _ _ t2; lt e
    have off : ∀ {c}, c ∉ [z, O, j1, j2] → c ≠ z ∧ c ≠ O ∧ c ≠ j1 ∧ c ≠ j2 := fun m => by simpa using m
    rcases kz with ⟨kz, x0, y0, kO⟩ | ⟨T, b, oT, kz, kT, r1, r2, r3, r4⟩
    · refine wpAny_pyNext_zipD2_item Z Da Db kz kU kO t1 t2 l1 l2 fun x y h' tk px py a1 a2 a3 a4 a5 a6 k => ?_
      exact q s.heap.objs.size x y h' tk ⟨px, py⟩ (.inl ⟨_, a5, rfl, _, rfl⟩) ⟨k _ _ Z.TIz Z.TITO Z.TIi1 Z.TIi2 kU, a3, a4, .inr ⟨_, false, _, a1, a5, lt kz, m1, m2, Nat.ne_of_gt hd⟩⟩
        fun c o m e => k c o (off m).1 (off m).2.1 (off m).2.2.1 (off m).2.2.2 e
    · have hT : s.TypeIs (.ref z) "zip" := ⟨_, kz, rfl⟩
      unfold pyNext
      apply wpAny_bind; apply wpAny_attempt; apply wpAny_callSpecial?_slot (name := Str.ofString "__next__") hT F.slot_zip_next
      refine wpAny_call_entry F.slot_zip_next hT F.entry_zip_next ?_ (F.args_zip_next_1 _)
      refine zipH_item Z Da Db kz kT kU t1 t2 l1 l2 fun x y h' tk px py a1 a3 a4 a5 a6 k => wpAny_pure ?_
      exact q s.heap.objs.size x y h' tk ⟨px, py⟩ (.inl ⟨_, a5, rfl, _, rfl⟩) ⟨k _ _ Z.TIz Z.TIi1 Z.TIi2 kU, a3, a4, .inr ⟨T, true, oT, a1, k _ _ r1 r2 r3 kT, r1, r2, r3, r4⟩⟩
        fun c o m e => k c o (off m).1 (off m).2.2.1 (off m).2.2.2 e
  done := fun s Q E ⟨kU, t1, t2, kz⟩ q => by
    have le : min n1 n2 = n1 ∨ min n1 n2 = n2 := by omega
    have off : ∀ {c}, c ∉ [z, O, j1, j2] → c ≠ z ∧ c ≠ O ∧ c ≠ j1 ∧ c ≠ j2 := fun m => by simpa using m
    rcases kz with ⟨kz, x0, y0, kO⟩ | ⟨T, b, oT, kz, kT, r1, r2, r3, r4⟩
    · exact wpAny_pyNext_zipD2_end Z Da Db kz kU kO t1 t2 (Nat.min_le_left ..) (Nat.min_le_right ..) le fun h' tk k => q h' tk fun c o m e => k c o (off m).1 (off m).2.1 (off m).2.2.1 (off m).2.2.2 e
    · have hT : s.TypeIs (.ref z) "zip" := ⟨_, kz, rfl⟩
      unfold pyNext
      apply wpAny_bind; apply wpAny_attempt; apply wpAny_callSpecial?_slot (name := Str.ofString "__next__") hT F.slot_zip_next
      refine wpAny_call_entry F.slot_zip_next hT F.entry_zip_next ?_ (F.args_zip_next_1 _)
      refine zipH_end Z Da Db kz kT kU t1 t2 (Nat.min_le_left ..) (Nat.min_le_right ..) le fun h' tk e k ⟨o, ho, hc⟩ => ?_
      exact wpAny_bind (wpAny_isInstance (T := "StopIteration") (b := true) ⟨o, ho, hc⟩ isSubtype_stop (wpAny_pure (q h' tk fun c o m e => k c o (off m).1 (off m).2.2.1 (off m).2.2.2 e)))
end
structure Drw (prog : Program) (w : World) (it : Addr) (f : List Addr) (n : Nat) (P : Nat → Value → Prop) (S : Nat → Heap → Prop) : Prop where
  dr : ∀ A : Around, A.handled = none → Draws prog w A it f n P S
  fr : ∀ i h h', S i h → (∀ c ∈ f, ∀ o, h.get? c = some o → h'.get? c = some o) → S i h'
  li : Lives f S
theorem drw_list {prog : Program} {w : World} (it l : Addr) (ne : l ≠ it) (xs : Array Value) : Drw prog w it [it, l] xs.size (fun i v => xs[i]? = some v) (fun i h => h.IsListIter it l i ∧ h.IsList l xs) :=
  ⟨fun A hh => Draws.list hh it l ne xs, fun _ _ _ t k => ⟨t.1.at fun o m => k it (by simp) o m, t.2.at fun o m => k l (by simp) o m⟩, fun i h t c hc => by
    obtain ⟨⟨o1, e1, _⟩, o2, e2, _⟩ := t
    have hc : c = it ∨ c = l := by simpa using hc
    rcases hc with e | e
    · exact ⟨o1, e ▸ e1⟩
    · exact ⟨o2, e ▸ e2⟩⟩
theorem drw_tuple {prog : Program} {w : World} (it l : Addr) (ne : l ≠ it) (xs : Array Value) : Drw prog w it [it, l] xs.size (fun i v => xs[i]? = some v) (fun i h => h.IsTupleIter it l i ∧ h.IsTuple l xs) :=
  ⟨fun A hh => Draws.tuple hh it l ne xs, fun _ _ _ t k => ⟨t.1.at fun o m => k it (by simp) o m, t.2.at fun o m => k l (by simp) o m⟩, fun i h t c hc => by
    obtain ⟨⟨o1, e1, _⟩, o2, e2, _⟩ := t
    have hc : c = it ∨ c = l := by simpa using hc
    rcases hc with e | e
    · exact ⟨o1, e ▸ e1⟩
    · exact ⟨o2, e ▸ e2⟩⟩
theorem zipArg {prog : Program} {w : World} {z U O j1 j2 : Addr} {f1 f2 : List Addr} {n1 n2 : Nat} {P1 P2 : Nat → Value → Prop} {S1 S2 : Nat → Heap → Prop} (Z : ZipSep2 z U O j1 j2 f1 f2) (Da : Drw prog w j1 f1 n1 P1 S1) (Db : Drw prog w j2 f2 n2 P2 S2) :
    PairArg prog w "zip" z (z :: U :: O :: (f1 ++ f2)) [z, O, j1, j2] (min n1 n2) (fun i x y => P1 i x ∧ P2 i y) (fun h => IsZip h z U O .none ∧ IsTupOf2 h U (.ref j1) (.ref j2) ∧ (∃ x y, IsTupOf2 h O x y) ∧ S1 0 h ∧ S2 0 h) where
  type := fun s ok => ⟨_, ok.1, rfl⟩
  notDict := by decide
  keep := fun h h' ⟨kz, kU, ⟨x, y, kO⟩, t1, t2⟩ k => ⟨k _ _ kz, k _ _ kU, ⟨x, y, k _ _ kO⟩, Da.fr _ _ _ t1 fun c _ o => k c o, Db.fr _ _ _ t2 fun c _ o => k c o⟩
  there := fun h ⟨kz, kU, ⟨x, y, kO⟩, t1, t2⟩ c hc => by
    rcases List.mem_cons.mp hc with e | hc
    · exact ⟨_, e ▸ kz⟩
    rcases List.mem_cons.mp hc with e | hc
    · exact ⟨_, e ▸ kU⟩
    rcases List.mem_cons.mp hc with e | hc
    · exact ⟨_, e ▸ kO⟩
    rcases List.mem_append.mp hc with m | m
    · exact Da.li _ _ t1 c m
    · exact Db.li _ _ t2 c m
  sub := fun c hc => by
    have hc : c = z ∨ c = O ∨ c = j1 ∨ c = j2 := by simpa using hc
    rcases hc with e | e | e | e <;> subst e
    · simp
    · simp
    · simp [Z.mem1]
    · simp [Z.mem2]
  noKeys := fun A s Q E hA ok h => getAttrOr_miss_zip ok.1 rfl rfl rfl zip_no_keys (by decide +kernel) hA h
  iter := fun A s d Q E hA ⟨kz, kU, ⟨x, y, kO⟩, t1, t2⟩ hd hn q => by
    have hn : d ≠ z ∧ d ≠ U ∧ d ≠ O ∧ d ∉ f1 ∧ d ∉ f2 := by simpa using hn
    exact wpAny_pyIter_zip kz (q z [z, O, j1, j2] _ s.heap s.toks (zipAt_src Z (Da.dr _ hA) (Db.dr _ hA) hn.1 hn.2.1 hn.2.2.1 hn.2.2.2.1 hn.2.2.2.2) ⟨kU, t1, t2, .inl ⟨kz, x, y, kO⟩⟩ (fun _ _ m => m) fun c hc => .inl hc)
end DL
namespace DL
open PySem PySem.Spec L2
open PyProof.Rows hiding St
section
variable {κ α : Type} [DecidableEq κ]
def dGet (kvs : List (κ × α)) (k : κ) : Option α := (kvs.find? fun p => decide (p.1 = k)).map (·.2)
def dHas (kvs : List (κ × α)) (k : κ) : Bool := (dGet kvs k).isSome
def dPut (kvs : List (κ × α)) (k : κ) (x : α) : List (κ × α) :=
  if (kvs.any fun p => decide (p.1 = k)) = true then kvs.map (fun p => if p.1 = k then (p.1, x) else p) else kvs ++ [(k, x)]
def dPutG (kvs : List (κ × α)) (k : κ) (x : α) : Option (List (κ × α)) := if kvs.length < line then some (dPut kvs k x) else none
def dMerge (kvs more : List (κ × α)) : List (κ × α) := more.foldl (fun a p => dPut a p.1 p.2) kvs
def dZip (ks : List κ) (xs : List α) : List (κ × α) := dMerge [] (ks.zip xs)
end
structure KeyT (κ : Type) where
  d : κ → D
  k : κ → Key
  inj : ∀ a b, k a = k b → a = b
  sc : ∀ a, (d a).sc = true
  rep : ∀ (K : PySem.W.Frag) (B : Hp) a v, Rep K B (d a) v → v = kV (k a)
def kI : KeyT Int := ⟨D.int, Sum.inl, fun _ _ h => Sum.inl.inj h, fun _ => rfl, fun _ _ _ _ r => by cases r; rfl⟩
def kS : KeyT Str := ⟨D.str, Sum.inr, fun _ _ h => Sum.inr.inj h, fun _ => rfl, fun _ _ _ _ r => by cases r; rfl⟩
section
variable {κ α : Type} [DecidableEq κ] {c : KeyT κ} {f : α → D} {K : PySem.W.Frag} {F B H : Hp}
abbrev enP (c : KeyT κ) (f : α → D) (kvs : List (κ × α)) : List (Key × D) := kvs.map fun p => (c.k p.1, f p.2)
abbrev enK (c : KeyT κ) (f : α → D) (kvs : List (κ × α)) : D := .dK (enP c f kvs)
theorem keyT_dec {a b : κ} : decide (c.k a = c.k b) = decide (a = b) := by
  by_cases h : a = b
  · subst h; simp
  · rw [decide_eq_false h, decide_eq_false fun e => h (c.inj _ _ e)]
theorem repP_get {k : κ} : ∀ {kvs : List (κ × α)} {us : List (Key × V)}, RepP K B Key (enP c f kvs) us →
    (∀ x, dGet kvs k = some x → ∃ v, valV us (c.k k) = some v ∧ Rep K B (f x) v) ∧ (dGet kvs k = none → valV us (c.k k) = none)
  | [], _, .nil => ⟨fun x h => (nomatch h), fun _ => rfl⟩
  | p :: kvs, _, .cons (v := v) r t => by
    obtain ⟨h1, h2⟩ := repP_get (k := k) t
    by_cases e : p.1 = k
    · have eg : dGet (p :: kvs) k = some p.2 := by simp [dGet, List.find?_cons, e]
      rw [eg]
      exact ⟨fun x h => by cases h; exact ⟨v, valV_pos (by rw [e]), r⟩, fun h => (nomatch h)⟩
    · have eg : dGet (p :: kvs) k = dGet kvs k := by simp [dGet, List.find?_cons, e]
      rw [eg, valV_neg fun z => e (c.inj _ _ z)]
      exact ⟨h1, h2⟩
theorem repP_any {k : κ} : ∀ {kvs : List (κ × α)} {us : List (Key × V)}, RepP K B Key (enP c f kvs) us → (us.any fun p => decide (p.1 = c.k k)) = kvs.any fun p => decide (p.1 = k)
  | [], _, .nil => rfl
  | p :: kvs, _, .cons r t => by rw [List.any_cons, List.any_cons, repP_any t]; congr 1; exact keyT_dec
theorem repP_map {k : κ} {x : α} {v : V} (rx : Rep K B (f x) v) : ∀ {kvs : List (κ × α)} {us : List (Key × V)}, RepP K B Key (enP c f kvs) us →
    RepP K B Key (enP c f (kvs.map fun p => if p.1 = k then (p.1, x) else p)) (us.map fun p => if p.1 = c.k k then (p.1, v) else p)
  | [], _, .nil => .nil
  | p :: kvs, _, .cons r t => by
    have ih := repP_map (k := k) rx t
    unfold enP at ih ⊢
    rw [List.map_cons, List.map_cons, List.map_cons]
    by_cases e : p.1 = k
    · rw [if_pos e, if_pos (show c.k p.1 = c.k k by rw [e])]; exact .cons rx ih
    · rw [if_neg e, if_neg (show ¬ c.k p.1 = c.k k from fun z => e (c.inj _ _ z))]; exact .cons r ih
theorem repP_snoc {κ : Type} {k : κ} {d : D} {v : V} (r : Rep K B d v) : ∀ {ds : List (κ × D)} {us : List (κ × V)}, RepP K B κ ds us → RepP K B κ (ds ++ [(k, d)]) (us ++ [(k, v)])
  | [], _, .nil => .cons r .nil
  | _ :: _, _, .cons q t => .cons q (repP_snoc r t)
theorem repP_put {k : κ} {x : α} {v : V} (rx : Rep K B (f x) v) {kvs : List (κ × α)} {us : List (Key × V)} (t : RepP K B Key (enP c f kvs) us) : RepP K B Key (enP c f (dPut kvs k x)) (putK us (c.k k) v) := by
  unfold dPut putK
  rw [repP_any t]
  by_cases a : (kvs.any fun p => decide (p.1 = k)) = true
  · rw [if_pos a, if_pos a]; exact repP_map rx t
  · rw [if_neg a, if_neg a]
    have := repP_snoc (k := c.k k) rx t
    unfold enP at this ⊢
    rw [List.map_append]
    exact this
theorem repP_merge : ∀ {more kvs : List (κ × α)} {rs us : List (Key × V)}, RepP K B Key (enP c f more) rs → RepP K B Key (enP c f kvs) us → RepP K B Key (enP c f (dMerge kvs more)) (mergeK us rs)
  | [], _, _, _, .nil, t => t
  | p :: more, kvs, _, us, .cons (v := v) (vs := rs) r q, t => repP_merge (more := more) (rs := rs) (us := putK us (c.k p.1) v) q (repP_put r t)
theorem repP_zip : ∀ {ks : List κ} {xs : List α} {vs : List V}, Reps K B (xs.map f) vs → RepP K B Key (enP c f (ks.zip xs)) ((ks.map c.k).zip vs)
  | [], _, _, _ => .nil
  | _ :: _, [], _, .nil => .nil
  | k :: ks, x :: xs, _, .cons r t => .cons r (repP_zip t)
end
def repPD (K : PySem.W.Frag) (F B H : Hp) : Kd → List (Key × D) → List (Key × V) → Prop
  | .brw, ds, vs => RepP K B Key ds vs
  | .drt, ds, vs => RepP K H Key ds vs
  | _, ds, vs => RepP K F Key ds vs
section
variable {K : PySem.W.Frag} {F B H : Hp} {k : Kd} {kvs : List (Key × D)} {v : V}
theorem RepS.dK (hs : Hs F B H) (r : RepS K F B H k (.dK kvs) v) : ∃ a us, v = .ref a ∧ H a = some (.dK us) ∧ repPD K F B H k.kid kvs us := by
  cases k with
  | drt => cases (show Rep K H (.dK kvs) v from r) with
    | dK s t => exact ⟨_, _, rfl, s, t⟩
  | brw => cases (show Rep K B (.dK kvs) v from r) with
    | dK s t => exact ⟨_, _, rfl, hs.bh _ _ s, t⟩
  | own => exact r
  | cln => exact r
  | shl => exact r
end
section
variable {κ α : Type} [DecidableEq κ] {c : KeyT κ} {f : α → D} {K : PySem.W.Frag} {F B H : Hp} {kd : Kd}
theorem repPD_get {k : κ} {kvs : List (κ × α)} {us : List (Key × V)} (h : kd = .cln ∨ kd = .brw ∨ kd = .drt) (r : repPD K F B H kd (enP c f kvs) us) :
    (∀ x, dGet kvs k = some x → ∃ v, valV us (c.k k) = some v ∧ ∀ H0 : Hp, RepK K F B H0 H kd (f x) v) ∧ (dGet kvs k = none → valV us (c.k k) = none) := by
  have go : ∀ {Z : Hp}, RepP K Z Key (enP c f kvs) us → (∀ v x, Rep K Z (f x) v → ∀ H0 : Hp, RepK K F B H0 H kd (f x) v) →
      (∀ x, dGet kvs k = some x → ∃ v, valV us (c.k k) = some v ∧ ∀ H0 : Hp, RepK K F B H0 H kd (f x) v) ∧ (dGet kvs k = none → valV us (c.k k) = none) := fun r m => by
    obtain ⟨h1, h2⟩ := repP_get (k := k) r
    exact ⟨fun x e => by obtain ⟨v, e1, e2⟩ := h1 x e; exact ⟨v, e1, m v x e2⟩, h2⟩
  rcases h with h | h | h <;> subst h
  · exact go (show RepP K F Key _ us from r) fun _ _ z _ => z
  · exact go (show RepP K B Key _ us from r) fun _ _ z _ => z
  · exact go (show RepP K H Key _ us from r) fun _ _ z _ => z
theorem repPD_len {kvs : List (Key × D)} {us : List (Key × V)} (r : repPD K F B H kd kvs us) : us.length = kvs.length := by
  cases kd <;> exact RepP.length r
end
section
variable {X : Cx} {env : DEnv} {a b e : Expr} {k1 k2 k3 : Kd} {pos apos : Pos} {κ α : Type} [DecidableEq κ] {c : KeyT κ} {f : α → D} {kvs : List (κ × α)} {k : κ} {x : α}
theorem dget_ (hu : X.A.units + 64 < cLine) (ha : Ev X env a (enK c f kvs) k1) (hb : Ev X env b (c.d k) k2) (h : dGet kvs k = some x) (hs : NoSl b) : Ev X env (.Subscript a b pos) (f x) k1.kid :=
  ⟨(pe_dget (by omega) ha.st.pe (hb.scal (c.sc k)).pe hs).mono fun σ H Q ⟨F, B, E, q⟩ => ⟨F, B, E, fun v H1 F1 B1 g1 r1 => ⟨F1, B1, E.grow g1, fun u H2 F2 B2 g2 r2 => by
    obtain ⟨p, us, rfl, e1, r⟩ := RepS.dK g2.hs (RepK.any0 (RepK.growS g2 r1) : RepS X.K F2 B2 H2 k1 _ _)
    obtain ⟨w, h1, h2⟩ := (repPD_get (k := k) (kid_cases k1) r).1 x h
    obtain rfl := c.rep _ _ _ _ (show Rep X.K F2 (c.d k) u from r2)
    exact ⟨p, w, rfl, by rw [← h1]; exact DGet.k e1, q w H2 F2 B2 (g1.trans g2) (h2 _)⟩⟩⟩⟩
theorem ev_din (hu : X.A.units + 64 < cLine) (ha : Ev X env b (c.d k) k2) (hb : Ev X env a (enK c f kvs) k1) (hm : behindInMarks .In a = false := by rfl) : Ev X env (.Compare b [.In] [a] pos) (.bl (dHas kvs k)) .cln :=
  ⟨(pe_cmp (pc_din (by omega) (ha.scal (c.sc k)).pe hb.st.pe) hm).mono fun σ H Q ⟨F, B, E, q⟩ => ⟨F, B, E, fun u H1 F1 B1 g1 r1 => ⟨F1, B1, E.grow g1, fun v H2 F2 B2 g2 r2 => by
    obtain ⟨p, us, rfl, e1, r⟩ := RepS.dK g2.hs (RepK.any0 r2 : RepS X.K F2 B2 H2 k1 _ _)
    obtain ⟨h1, h2⟩ := repPD_get (k := k) (kid_cases k1) r
    obtain rfl := c.rep _ _ _ _ (show Rep X.K F1 (c.d k) u from r1)
    refine ⟨p, _, rfl, DGet.k e1, ?_⟩
    have : (valV us (c.k k)).isSome = dHas kvs k := by
      unfold dHas
      cases z : dGet kvs k with
      | none => rw [h2 z]; rfl
      | some x => obtain ⟨w, e, _⟩ := h1 x z; rw [e]; rfl
    rw [this]
    exact q _ H2 F2 B2 (g1.trans g2) (.bl _)⟩⟩⟩
theorem ev_dnin (hu : X.A.units + 64 < cLine) (ha : Ev X env b (c.d k) k2) (hb : Ev X env a (enK c f kvs) k1) (hm : behindInMarks .NotIn a = false := by rfl) : Ev X env (.Compare b [.NotIn] [a] pos) (.bl (!dHas kvs k)) .cln :=
  ⟨(pe_cmp (pc_dnotin (by omega) (ha.scal (c.sc k)).pe hb.st.pe) hm).mono fun σ H Q ⟨F, B, E, q⟩ => ⟨F, B, E, fun u H1 F1 B1 g1 r1 => ⟨F1, B1, E.grow g1, fun v H2 F2 B2 g2 r2 => by
    obtain ⟨p, us, rfl, e1, r⟩ := RepS.dK g2.hs (RepK.any0 r2 : RepS X.K F2 B2 H2 k1 _ _)
    obtain ⟨h1, h2⟩ := repPD_get (k := k) (kid_cases k1) r
    obtain rfl := c.rep _ _ _ _ (show Rep X.K F1 (c.d k) u from r1)
    refine ⟨p, _, rfl, DGet.k e1, ?_⟩
    have : (valV us (c.k k)).isSome = dHas kvs k := by
      unfold dHas
      cases z : dGet kvs k with
      | none => rw [h2 z]; rfl
      | some x => obtain ⟨w, e, _⟩ := h1 x z; rw [e]; rfl
    rw [this]
    exact q _ H2 F2 B2 (g1.trans g2) (.bl _)⟩⟩⟩
theorem et_din (hu : X.A.units + 64 < cLine) (ha : Ev X env b (c.d k) k2) (hb : Ev X env a (enK c f kvs) k1) (hm : behindInMarks .In a = false := by rfl) : Et X env (.Compare b [.In] [a] pos) (dHas kvs k) :=
  ⟨(pt_cmp (pc_din (by omega) (ha.scal (c.sc k)).pe hb.st.pe) hm).mono fun σ H Q ⟨F, B, E, q⟩ => ⟨F, B, E, fun u H1 F1 B1 g1 r1 => ⟨F1, B1, E.grow g1, fun v H2 F2 B2 g2 r2 => by
    obtain ⟨p, us, rfl, e1, r⟩ := RepS.dK g2.hs (RepK.any0 r2 : RepS X.K F2 B2 H2 k1 _ _)
    obtain ⟨h1, h2⟩ := repPD_get (k := k) (kid_cases k1) r
    obtain rfl := c.rep _ _ _ _ (show Rep X.K F1 (c.d k) u from r1)
    refine ⟨p, _, rfl, DGet.k e1, ?_⟩
    have : (valV us (c.k k)).isSome = dHas kvs k := by
      unfold dHas
      cases z : dGet kvs k with
      | none => rw [h2 z]; rfl
      | some x => obtain ⟨w, e, _⟩ := h1 x z; rw [e]; rfl
    rw [this]
    exact ⟨_, rfl, q H2 F2 B2 (g1.trans g2)⟩⟩⟩⟩
end
section
variable {K : PySem.W.Frag} {F B H : Hp}
theorem repPD_mono {kk : Kd} {ds : List (Key × D)} {us : List (Key × V)} {F' B' H' : Hp} (f : Same F F') (b : Same B B') (h : Same H H') (r : repPD K F B H kk ds us) : repPD K F' B' H' kk ds us := by
  cases kk with
  | brw => exact RepP.mono b (show RepP K B Key ds us from r)
  | drt => exact RepP.mono h (show RepP K H Key ds us from r)
  | own => exact RepP.mono f (show RepP K F Key ds us from r)
  | cln => exact RepP.mono f (show RepP K F Key ds us from r)
  | shl => exact RepP.mono f (show RepP K F Key ds us from r)
theorem new_dK {kk : Kd} {ds : List (Key × D)} {us : List (Key × V)} {Q : VK} (hk : kk = .cln ∨ kk = .brw ∨ kk = .drt) (s : Hs F B H) (r : repPD K F B H kk ds us) (q : Fin K F B H kk.mk (.dK ds) Q) :
    ∀ p, H p = none → Q (.ref p) (upd H p (.dK us)) := fun p n => by
  rcases hk with h | h | h <;> subst h
  · exact q (.ref p) _ _ _ (grow_own s n rfl) ⟨p, rfl, n, s.bh.free n, us, upd_same, r⟩
  · exact q (.ref p) _ _ _ (grow_brw s n rfl) (Rep.dK upd_same (RepP.mono (same_upd (s.bh.free n)) (show RepP K B Key ds us from r)))
  · exact q (.ref p) _ _ _ (grow_own s n rfl) (Rep.dK upd_same (RepP.mono (same_upd n) (show RepP K H Key ds us from r)))
end
def tDZ (K : PySem.W.Frag) (ta : TA) : TE := fun σ H Q => ta σ H fun vs H1 => ∃ (a b : Addr) (ks : List Key) (ys : List V), vs = [.ref a, .ref b] ∧ ((SqL K H1 a (ks.map kV) ∧ SqL K H1 b ys) ∨ (SqT K H1 a (ks.map kV) ∧ SqT K H1 b ys)) ∧
  ∀ p, H1 p = none → Q (.ref p) (upd H1 p (.dK (mergeK [] (ks.zip ys))))
theorem kv_zip : ∀ {ks : List Key} {ys : List V} {us : List Value}, Vals ys us → KV (ks.zip ys) (ks.zip us)
  | [], _, _, _ => .nil
  | _ :: _, _, _, .nil => .nil
  | _ :: _, _, _, .cons h t => .cons ⟨rfl, h⟩ (kv_zip t)
theorem key_at {P : Program} {w : World} : ∀ {ks : List Key} {us : List Value} {i : Nat} {u : Value}, Vals (ks.map kV) us → us[i]? = some u → ∃ k, ks[i]? = some k ∧ (mixKind P w).is k u = true
  | [], _, i, u, .nil, e => by simp at e
  | k :: ks, _, 0, u, .cons h t, e => ⟨k, rfl, by cases e; exact kV_is h⟩
  | k :: ks, _, i + 1, u, .cons h t, e => by
    obtain ⟨k', e1, e2⟩ := key_at (i := i) t (by simpa using e)
    exact ⟨k', by simpa using e1, e2⟩
section
variable {X : Cx}
theorem sep_of (n a b : Nat) (ha : a < n) (hb : b < n) : ZipSep2 (n+4) (n+2) (n+3) n (n+1) [n, a] [n+1, b] where
  TIz := by show (_ : Nat) ≠ _; omega
  TOz := by show (_ : Nat) ≠ _; omega
  TITO := by show (_ : Nat) ≠ _; omega
  TIi1 := by show (_ : Nat) ≠ _; omega
  mem1 := by simp
  zf1 := fun m => by have m : (n + 4 : Nat) = n ∨ (n + 4 : Nat) = a := by simpa using m
                     omega
  Tf1 := fun m => by have m : (n + 3 : Nat) = n ∨ (n + 3 : Nat) = a := by simpa using m
                     omega
  TIi2 := by show (_ : Nat) ≠ _; omega
  mem2 := by simp
  zf2 := fun m => by have m : (n + 4 : Nat) = n + 1 ∨ (n + 4 : Nat) = b := by simpa using m
                     omega
  Tf2 := fun m => by have m : (n + 3 : Nat) = n + 1 ∨ (n + 3 : Nat) = b := by simpa using m
                     omega
  sep1_2 := fun m => by have m : (n : Nat) = n + 1 ∨ (n : Nat) = b := by simpa using m
                        omega
  sep2_1 := fun m => by have m : (n + 1 : Nat) = n ∨ (n + 1 : Nat) = a := by simpa using m
                        omega
theorem off_of (n c : Nat) (h : c < n) : c ∉ ([n + 4, n + 3, n, n + 1] : List Addr) := fun m => by
  have m : c = n + 4 ∨ c = n + 3 ∨ c = n ∨ c = n + 1 := by simpa using m
  omega
theorem dz_end {pins : List (Addr × Obj)} {σ : L2.St} {H : Hp} {s1 : Shared} {a b : Addr} {ks : List Key} {ys : List V} {us ws : List Value} {Q : VK} {E : Value → Shared → Prop} {S1 S2 : Nat → Heap → Prop} {h' : Heap} {oa ob : Obj}
    (hc : X.calm = true) (I : Inv X pins σ H s1) (r1 : Vals (ks.map kV) us) (r2 : Vals ys ws) (hz : ws.length ≤ sizeLine) (la : s1.heap.get? a = some oa) (lb : s1.heap.get? b = some ob)
    (Da : Drw X.prog X.w s1.heap.objs.size [s1.heap.objs.size, a] us.length (fun i v => us.toArray[i]? = some v) S1) (Db : Drw X.prog X.w (s1.heap.objs.size + 1) [s1.heap.objs.size + 1, b] ws.length (fun i v => ws.toArray[i]? = some v) S2)
    (kz : IsZip h' (s1.heap.objs.size + 4) (s1.heap.objs.size + 2) (s1.heap.objs.size + 3) .none) (kU : IsTupOf2 h' (s1.heap.objs.size + 2) (.ref s1.heap.objs.size) (.ref (s1.heap.objs.size + 1))) (kO : IsTupOf2 h' (s1.heap.objs.size + 3) .none .none)
    (t1 : S1 0 h') (t2 : S2 0 h') (sz : h'.objs.size = s1.heap.objs.size + 5) (k : ∀ c o, s1.heap.get? c = some o → h'.get? c = some o)
    (q : ∀ p, H p = none → Q (.ref p) (upd H p (.dK (mergeK [] (ks.zip ys))))) :
    wpAny (model X.prog X.w) X.A (call (.type "dict") [.ref (s1.heap.objs.size + 4)]) (EP X pins σ Q) E { s1 with heap := h' } := by
  have ha := Heap.lt_size la
  have hb := Heap.lt_size lb
  have Z := sep_of _ a b ha hb
  have lus : us.length = ks.length := by rw [← r1.length, List.length_map]
  refine call_dict_pairs (knd := mixKind X.prog X.w) (kvs := ks.zip ws) (zipArg Z Da Db) (I.ok.hd hc) (show IsZip h' _ _ _ _ ∧ _ from ⟨kz, kU, ⟨_, _, kO⟩, t1, t2⟩) ⟨by rw [List.length_zip, lus], fun i x y ⟨e1, e2⟩ => ?_⟩ (Nat.le_trans (Nat.min_le_right ..) hz) fun h2 tk hd keep => ?_
  · obtain ⟨k', e3, e4⟩ := key_at (P := X.prog) (w := X.w) (i := i) r1 (by simpa using e1)
    exact ⟨k', by rw [List.getElem?_zip_eq_some]; exact ⟨e3, by simpa using e2⟩, e4⟩
  · have hlen : (mergeK [] (ks.zip ys)).length ≤ sizeLine := by
      refine Nat.le_trans (length_mergeK _ _) ?_
      rw [List.length_zip, List.length_nil, Nat.zero_add, r2.length]
      exact Nat.le_trans (Nat.min_le_right ..) hz
    have hs : s1.heap.objs.size ≤ h'.objs.size := by omega
    have hm : (h'.objs.size == sysModules) = false := beq_eq_false_iff_ne.mpr (Nat.ne_of_gt (Nat.lt_of_lt_of_le I.big hs))
    have up : ∀ c o, s1.heap.get? c = some o → h2.get? c = some o := fun c o e => by
      have hc := Heap.lt_size e
      exact keep c o (off_of _ _ hc) (k c o e)
    exact ⟨.ref h'.objs.size, upd H h'.objs.size (.dK (mergeK [] (ks.zip ys))), I.laid (t' := tk) up hs (show ObjOk X.prog X.w _ _ _ (.dK (mergeK [] (ks.zip ys))) from ⟨hlen, hm, merged [] (ks.zip ws), KV.merge (kv_zip r2) .nil, hd⟩), rfl, q _ (I.hok.fresh hs)⟩
theorem pe_dictZip {e e2 : Expr} {ta : TA} {p p2 pos pos2 : Pos} (hc : X.calm = true) (bd : Bn X "dict" (.type "dict")) (hg2 : Gl X "zip") (hm2 : X.mg "zip" = none) (ha : PA X [e, e2] ta)
    (hs : starEach [e, e2] X.env = (false, eval e X.env) :: starEach [e2] X.env) (hpl : (backTo pos2 (starEach [e2] X.env)).any (·.1) = false)
    (he : starEach [.Call (.Name "zip" p2) [e, e2] [] pos2] X.env = [(false, eval (.Call (.Name "zip" p2) [e, e2] [] pos2) X.env)]) :
    PE X (.Call (.Name "dict" p) [.Call (.Name "zip" p2) [e, e2] [] pos2] [] pos) (tDZ X.K ta) := by
  refine ⟨fun pins s σ H Q I h => ?_⟩
  refine wpAny_Call_Name_kw (ld_blt I bd.gl bd.mg bd.bt ?_ bd.nn bd.db)
  refine PyProof.Rows.callWith_type1 ?_ he rfl
  rw [he]
  refine Calls.spliced_cons (PyProof.Rows.Call_ (ld_blt I hg2 hm2 PyProof.Rows.boot_zip (PyProof.Rows.callWith_type1 (thn (ha.run pos2 pins s σ H _ I h) fun us s1 ⟨vs, H1, I1, r1, q1⟩ => ?_) hs hpl)))
  obtain ⟨a, b, ks, ys, ex, w, q⟩ := q1
  subst ex
  cases r1 with
  | cons r rr => cases rr with
    | cons r' rr =>
      cases rr; cases r; cases r'
      rcases w with ⟨w1, w2⟩ | ⟨w1, w2⟩
      · obtain ⟨i1, v1, p1, z1⟩ := I1.list w1
        obtain ⟨i2, v2, p2, z2⟩ := I1.list w2
        obtain ⟨o1, g1, _⟩ := id p1.isList
        obtain ⟨o2, g2, _⟩ := id p2.isList
        have n1 : a ≠ s1.heap.objs.size := Nat.ne_of_lt (Heap.lt_size g1)
        have n2 : b ≠ s1.heap.objs.size + 1 := Nat.ne_of_lt (Nat.lt_succ_of_lt (Heap.lt_size g2))
        refine zip_begins2 (begins_list a i1.toArray) (begins_list b i2.toArray) p1.isList p2.isList fun h' kz kU kO t1 t2 sz k => PyProof.Rows.spliced_none (env := X.env) ?_
        have Da := drw_list (prog := X.prog) (w := X.w) s1.heap.objs.size a n1 i1.toArray
        have Db := drw_list (prog := X.prog) (w := X.w) (s1.heap.objs.size + 1) b n2 i2.toArray
        rw [List.size_toArray] at Da Db
        exact dz_end hc I1 v1 v2 (by rw [← v2.length]; exact z2) g1 g2 Da Db kz kU kO ⟨⟨_, t1, rfl, rfl⟩, p1.isList.at fun o m => k _ _ m⟩ ⟨⟨_, t2, rfl, rfl⟩, p2.isList.at fun o m => k _ _ m⟩ sz k q
      · obtain ⟨i1, v1, p1, z1⟩ := I1.tuple w1
        obtain ⟨i2, v2, p2, z2⟩ := I1.tuple w2
        obtain ⟨o1, g1, _⟩ := id p1
        obtain ⟨o2, g2, _⟩ := id p2
        have n1 : a ≠ s1.heap.objs.size := Nat.ne_of_lt (Heap.lt_size g1)
        have n2 : b ≠ s1.heap.objs.size + 1 := Nat.ne_of_lt (Nat.lt_succ_of_lt (Heap.lt_size g2))
        refine zip_begins2 (begins_tuple a i1.toArray) (begins_tuple b i2.toArray) p1 p2 fun h' kz kU kO t1 t2 sz k => PyProof.Rows.spliced_none (env := X.env) ?_
        have Da := drw_tuple (prog := X.prog) (w := X.w) s1.heap.objs.size a n1 i1.toArray
        have Db := drw_tuple (prog := X.prog) (w := X.w) (s1.heap.objs.size + 1) b n2 i2.toArray
        rw [List.size_toArray] at Da Db
        exact dz_end hc I1 v1 v2 (by rw [← v2.length]; exact z2) g1 g2 Da Db kz kU kO ⟨⟨_, t1, rfl, rfl⟩, Heap.IsTuple.at p1 fun o m => k _ _ m⟩ ⟨⟨_, t2, rfl, rfl⟩, Heap.IsTuple.at p2 fun o m => k _ _ m⟩ sz k q
end
section
variable {X : Cx} {env : DEnv} {a b e : Expr} {k1 k2 k3 : Kd} {pos apos cpos : Pos} {κ α : Type} [DecidableEq κ] {c : KeyT κ} {f : α → D} {kvs : List (κ × α)} {k : κ} {x : α}
theorem reps_keys {K : PySem.W.Frag} {B : Hp} {c : KeyT κ} : ∀ {ks : List κ} {vs : List V}, Reps K B (ks.map c.d) vs → vs = (ks.map c.k).map kV
  | [], _, .nil => rfl
  | k :: ks, _, .cons r t => by rw [reps_keys t, c.rep _ _ _ _ r]; rfl
theorem dzip_fin {F B H : Hp} {kk : Kd} {ks : List κ} {xs : List α} {ys : List V} {Q : VK} (hk : kk = .cln ∨ kk = .brw ∨ kk = .drt) (s : Hs F B H) (r : repsK X.K F B H kk (xs.map f) ys) (q : Fin X.K F B H kk.mk (enK c f (dZip ks xs)) Q) :
    ∀ p, H p = none → Q (.ref p) (upd H p (.dK (mergeK [] ((ks.map c.k).zip ys)))) := by
  refine new_dK hk s ?_ q
  rcases hk with h | h | h <;> subst h
  · exact repP_merge (kvs := []) (repP_zip (show Reps X.K F _ _ from r)) .nil
  · exact repP_merge (kvs := []) (repP_zip (show Reps X.K B _ _ from r)) .nil
  · exact repP_merge (kvs := []) (repP_zip (show Reps X.K H _ _ from r)) .nil
theorem dzipL_ {ks : List κ} {xs : List α} {p p2 pos2 : Pos} (hc : X.calm = true) (bd : Bn X "dict" (.type "dict")) (hg2 : Gl X "zip") (hm2 : X.mg "zip" = none)
    (ha : Ev X env a (.lst (ks.map c.d)) k1) (hb : Ev X env b (.lst (xs.map f)) k2)
    (hs : starEach [a, b] X.env = (false, eval a X.env) :: starEach [b] X.env) (hs1 : starEach [b] X.env = [(false, eval b X.env)])
    (he : starEach [.Call (.Name "zip" p2) [a, b] [] pos2] X.env = [(false, eval (.Call (.Name "zip" p2) [a, b] [] pos2) X.env)]) :
    Ev X env (.Call (.Name "dict" p) [.Call (.Name "zip" p2) [a, b] [] pos2] [] pos) (enK c f (dZip ks xs)) k2.kid.mk :=
  ⟨(pe_dictZip hc bd hg2 hm2 (pa_cons ha.st.pe (pa_cons hb.st.pe pa_nil hs1) hs) hs (by rw [hs1]; rfl) he).mono fun σ H Q ⟨F, B, E, q⟩ => ⟨F, B, E, fun v H1 F1 B1 g1 r1 => ⟨F1, B1, E.grow g1, fun u H2 F2 B2 g2 r2 => by
    obtain ⟨p, us, rfl, e1, r⟩ := RepS.lst g2.hs (RepK.any0 (RepK.growS g2 r1) : RepS X.K F2 B2 H2 k1 _ _)
    obtain ⟨p', ys, rfl, e2, r'⟩ := RepS.lst g2.hs (RepK.any0 r2 : RepS X.K F2 B2 H2 k2 _ _)
    obtain rfl := reps_keys (repsK.reps g2.hs r)
    exact ⟨p, p', _, ys, rfl, .inl ⟨SqL.of e1, SqL.of e2⟩, dzip_fin (kid_cases k2) g2.hs r' fun w H3 F3 B3 g3 r3 => q w H3 F3 B3 ((g1.trans g2).trans g3) (RepK.back (g1.h.trans g2.h) r3)⟩⟩⟩⟩
theorem dzipT_ {ks : List κ} {xs : List α} {p p2 pos2 : Pos} (hc : X.calm = true) (bd : Bn X "dict" (.type "dict")) (hg2 : Gl X "zip") (hm2 : X.mg "zip" = none)
    (ha : Ev X env a (.tup (ks.map c.d)) k1) (hb : Ev X env b (.tup (xs.map f)) k2)
    (hs : starEach [a, b] X.env = (false, eval a X.env) :: starEach [b] X.env) (hs1 : starEach [b] X.env = [(false, eval b X.env)])
    (he : starEach [.Call (.Name "zip" p2) [a, b] [] pos2] X.env = [(false, eval (.Call (.Name "zip" p2) [a, b] [] pos2) X.env)]) :
    Ev X env (.Call (.Name "dict" p) [.Call (.Name "zip" p2) [a, b] [] pos2] [] pos) (enK c f (dZip ks xs)) k2.kid.mk :=
  ⟨(pe_dictZip hc bd hg2 hm2 (pa_cons ha.st.pe (pa_cons hb.st.pe pa_nil hs1) hs) hs (by rw [hs1]; rfl) he).mono fun σ H Q ⟨F, B, E, q⟩ => ⟨F, B, E, fun v H1 F1 B1 g1 r1 => ⟨F1, B1, E.grow g1, fun u H2 F2 B2 g2 r2 => by
    obtain ⟨p, us, rfl, e1, r⟩ := RepS.tup g2.hs (RepK.any0 (RepK.growS g2 r1) : RepS X.K F2 B2 H2 k1 _ _)
    obtain ⟨p', ys, rfl, e2, r'⟩ := RepS.tup g2.hs (RepK.any0 r2 : RepS X.K F2 B2 H2 k2 _ _)
    obtain rfl := reps_keys (repsK.reps g2.hs r)
    exact ⟨p, p', _, ys, rfl, .inr ⟨e1, e2⟩, dzip_fin (kid_cases k2) g2.hs r' fun w H3 F3 B3 g3 r3 => q w H3 F3 B3 ((g1.trans g2).trans g3) (RepK.back (g1.h.trans g2.h) r3)⟩⟩⟩⟩
theorem ev_dnew : Ev X env (.Dict [] [] pos) (.dK []) .own :=
  ⟨pe_dnewK.mono fun σ H Q ⟨F, B, E, q⟩ => new_dK (kk := .cln) (.inl rfl) E.hs (show RepP X.K F Key [] [] from .nil) q⟩
end
section
variable {X : Cx} {Γ : Gd} {N : List Str} {sc : Scope} {lv : Nat} {vl ll : List Nat} {gl : List Str} {env : DEnv} {Φ : Outs} {rest : List Stmt} {e a b : Expr} {k1 k2 : Kd} {pos np : Pos} {n : Str} {κ α : Type} [DecidableEq κ] {c : KeyT κ} {f : α → D} {kvs kvs' : List (κ × α)} {k : κ} {x : α}
theorem dput_ {ap : Pos} (A : At X Γ N sc lv) (S : Sc N sc vl ll gl) (i : Nat) (hN : N[i]? = some n) (hv : vl.contains i = true) (he : env[i]? = some (some (.own (enK c f kvs)))) (ha : Ev X env e (f x) k1) (hk : heldOf k1 (f x) = .cln) (hb : Ev X env b (c.d k) k2) (hG : dPutG kvs k x = some kvs')
    (hs : swapsWith e (some (.Subscript (.Name n np) b ap)) pos.line X.env = pure false)
    (h : SS X (env.set i (some (.own (enK c f kvs')))) rest Φ) : SS X env (.Assign [.Subscript (.Name n np) b ap] e pos :: rest) Φ := by
  obtain ⟨h1, e⟩ := iteO hG; subst e
  obtain ⟨v1, v2⟩ := S.vis hv hN
  obtain ⟨p1, p2, _⟩ := plainB_ok v2
  have hu := A.room.units
  refine ss_cons ⟨(ps_dput (by omega) (pe_var (by rw [A.eN]; exact hN) (A.eS.vis v1) p1 p2) (hb.scal (c.sc k)).pe ha.heldOf.pe hs).mono fun Dd σ H ⟨F, B, G, E, P⟩ => ⟨F, B, E.e, fun v H1 F1 B1 g r => ?_⟩⟩
  rw [hk] at r
  obtain ⟨v0, w1, q, e1, n1, n2, us, w2, w3⟩ := E.at_ i _ he
  subst e1
  refine ⟨_, w1, F1, B1, E.e.grow g, fun u H2 F2 B2 g2 r2 => ?_⟩
  obtain rfl := c.rep _ _ _ _ (show Rep X.K F2 (c.d k) u from r2)
  have e3 : H2 q = some (.dK us) := g2.h _ _ (g.h _ _ w2)
  have E' := (E.grow g).grow g2
  have lz : us.length < sizeLine := by rw [RepP.length w3, List.length_map, line_eq]; exact h1
  refine ⟨q, _, rfl, DPut.k e3 lz, ?_⟩
  have r' : RepP X.K F2 Key (enP c f kvs) us := RepP.mono (g.f.trans g2.f) w3
  have rx : Rep X.K F2 (f x) v := Rep.mono g2.f (show Rep X.K F1 (f x) v from r)
  exact P.nx _ _ _ F2 B2 ((g.trans g2).gs E.gh) (E'.mut (d' := enK c f (dPut kvs k x)) he w1 rfl ⟨_, upd_same, repP_put rx r'⟩) h
end
end DL
namespace DL
open PySem PySem.Spec L2
open PyProof.Rows hiding St
section
variable {κ α : Type} [DecidableEq κ]
theorem dPut_len (kvs : List (κ × α)) (k : κ) (x : α) : (dPut kvs k x).length ≤ kvs.length + 1 := by
  unfold dPut
  split
  · rw [List.length_map]; omega
  · rw [List.length_append, List.length_singleton]; omega
theorem dMerge_len : ∀ (more kvs : List (κ × α)), (dMerge kvs more).length ≤ kvs.length + more.length
  | [], kvs => by simp [dMerge]
  | p :: more, kvs => by
    have h1 := dMerge_len more (dPut kvs p.1 p.2)
    have h2 := dPut_len kvs p.1 p.2
    rw [List.length_cons]
    show (dMerge (dPut kvs p.1 p.2) more).length ≤ _
    omega
theorem dMerge_snoc (kvs more : List (κ × α)) (p : κ × α) : dMerge kvs (more ++ [p]) = dPut (dMerge kvs more) p.1 p.2 := by
  unfold dMerge; rw [List.foldl_append]; rfl
end
def Key.toD : Key → D
  | .inl i => .int i
  | .inr s => .str s
def kK : KeyT Key := ⟨Key.toD, id, fun _ _ h => h, fun a => by cases a <;> rfl, fun _ _ a _ r => by cases a <;> cases r <;> rfl⟩
theorem enK_id (kvs : List (Key × D)) : enK kK (fun d => d) kvs = .dK kvs := by
  unfold enK enP
  congr 1
  exact List.map_id' _
section
variable {κ α : Type} [DecidableEq κ] {c : KeyT κ} {f : α → D}
theorem enP_put (kvs : List (κ × α)) (k : κ) (x : α) : enP c f (dPut kvs k x) = dPut (enP c f kvs) (c.k k) (f x) := by
  have ha : ((enP c f kvs).any fun p => decide (p.1 = c.k k)) = kvs.any fun p => decide (p.1 = k) := by
    unfold enP; rw [List.any_map]
    congr 1; funext p; exact keyT_dec
  unfold dPut
  rw [ha]
  split
  · unfold enP
    rw [List.map_map, List.map_map]
    refine List.map_congr_left fun p _ => ?_
    show (c.k (if p.1 = k then (p.1, x) else p).1, f (if p.1 = k then (p.1, x) else p).2) = if c.k p.1 = c.k k then (c.k p.1, f x) else (c.k p.1, f p.2)
    by_cases h : p.1 = k
    · rw [if_pos h, if_pos (by rw [h])]
    · rw [if_neg h, if_neg fun e => h (c.inj _ _ e)]
  · unfold enP; rw [List.map_append]; rfl
theorem enP_merge : ∀ (more kvs : List (κ × α)), enP c f (dMerge kvs more) = dMerge (enP c f kvs) (enP c f more)
  | [], kvs => rfl
  | p :: more, kvs => by
    show enP c f (dMerge (dPut kvs p.1 p.2) more) = _
    rw [enP_merge more, enP_put]; rfl
end
theorem repPD_put {K : PySem.W.Frag} {F B H : Hp} {kz : K2} {kvs : List (Key × D)} {us : List (Key × V)} {k : Key} {d : D} {v : V} (r : repPD K F B H kz.k kvs us) (rv : RepK K F B H H kz.k d v) : repPD K F B H kz.k (dPut kvs k d) (putK us k v) := by
  cases kz with
  | c =>
    have := repP_put (c := kK) (f := fun d => d) (k := k) (x := d) (show Rep K F d v from rv) (kvs := kvs) (us := us) (by unfold enP; rw [show (kvs.map fun p => (kK.k p.1, p.2)) = kvs from List.map_id' _]; exact r)
    unfold enP at this
    rw [show ((dPut kvs k d).map fun p => (kK.k p.1, p.2)) = dPut kvs k d from List.map_id' _] at this
    exact this
  | b =>
    have := repP_put (c := kK) (f := fun d => d) (k := k) (x := d) (show Rep K B d v from rv) (kvs := kvs) (us := us) (by unfold enP; rw [show (kvs.map fun p => (kK.k p.1, p.2)) = kvs from List.map_id' _]; exact r)
    unfold enP at this
    rw [show ((dPut kvs k d).map fun p => (kK.k p.1, p.2)) = dPut kvs k d from List.map_id' _] at this
    exact this
section
variable {X : Cx} {env : DEnv} {k : K2} {fx : Bool} {t : Tg} {kx vx tg iter : Expr} {ifs : List Expr} {scope : Scope} {own : List (Str × Nat)} {pos : Pos}
theorem dc_te {tt : TT} {tk tv : TE} {α : Type} (xs : List α) (en : α → D) (vs : List Nat) (pd : α → Bool) (kf : α → Key) (f : α → D) (kz : K2) (hc : Clear env vs) (hix : ∀ j ∈ t.ix, j ∈ vs) (hz : xs.length ≤ sizeLine)
    (htt : ∀ env b σ H Q, (∀ Y, Blk X scope Y → Ets Y env ifs b) → tEt X.K env b σ H Q → tt σ H Q) (htk : ∀ env d k σ H Q, (∀ Y, Blk X scope Y → Ev Y env kx d k) → tEv X.K env d k σ H Q → tk σ H Q) (htv : ∀ env d k σ H Q, (∀ Y, Blk X scope Y → Ev Y env vx d k) → tEv X.K env d k σ H Q → tv σ H Q)
    (item : ∀ x, x ∈ xs → ∃ env2, bnd k t (en x) env = some env2 ∧ (∀ Y, Blk X scope Y → Ets Y env2 ifs (pd x)) ∧ (pd x = true → (∃ kk, ∀ Y, Blk X scope Y → Ev Y env2 kx (Key.toD (kf x)) kk) ∧ ∃ ke, heldOf ke (f x) = kz.k ∧ ∀ Y, Blk X scope Y → Ev Y env2 vx (f x) ke)) :
    ∀ σ H Q, tEv X.K env (.dK (dMerge [] ((xs.filter pd).map fun x => (kf x, f x)))) kz.k.mk σ H Q → tDc (tEI X.K env (xs.map en) k fx) (gOf X.K t) tt tk tv vs σ H Q := fun σ H Q ⟨Fs, Bs, Es, q⟩ => by
  refine ⟨Fs, Bs, Es, fun J H0 F0 B0 g0 it D hD => ?_⟩
  have E0 := Es.grow g0
  have nB0 : B0 D = none := g0.hs.bh.free hD
  have atD : ∀ {F B H : Hp} {us : List (Key × V)}, Grow F0 B0 H0 F B H → B D = none → Grow F0 B0 H0 F B (upd H D (.dK us)) := fun {F B H us} g nB => by
    have n : H0 D = none := hD
    have nF : F D = none := g.hs.fb.free nB
    have keep : ∀ {Z : Hp}, Z D = none → Same Z H → Same Z (upd H D (.dK us)) := fun {Z} nz s a u e => by
      rw [upd_ne (ne_of_none e nz)]; exact s _ _ e
    refine ⟨g.f, g.b, keep n g.h, ⟨g.hs.fb, keep nB g.hs.bh, fun a xs h => ?_⟩, g.newF, g.newB⟩
    have h' : Rd H a (.tup xs) := by
      by_cases z : a = D
      · subst z
        rcases h with h | ⟨u, h⟩ <;> (rw [upd_same] at h; cases h)
      · rcases h with h | ⟨u, h⟩
        · rw [upd_ne z] at h; exact .inl h
        · rw [upd_ne z] at h; exact .inr ⟨u, h⟩
    exact g.hs.tup a xs h'
  let mg := fun i => dMerge [] (((xs.take i).filter pd).map fun x => (kf x, f x))
  refine ⟨fun i m H => m = xs.length - i ∧ i ≤ xs.length ∧ ∃ F B us, Grow F0 B0 H0 F B H ∧ H D = some (.dK us) ∧ B D = none ∧ repPD X.K F B H kz.k (mg i) us, ⟨_, rfl, Nat.zero_le _, F0, B0, [], atD (Grow.refl g0.hs) nB0, upd_same, nB0, by cases kz <;> exact RepP.nil⟩, ?_⟩
  rintro i m H1 ⟨rfl, hle, F, B, us, g, hA, nB, r⟩
  have sP : Same (if fx = true then B0 else H0) H1 := by
    cases fx with
    | true => exact g.b.trans g.hs.bh
    | false => exact g.h
  by_cases hlt : i < xs.length
  · have hx0 : xs[i]? = some xs[i] := List.getElem?_eq_getElem hlt
    have hd : (xs.map en)[i]? = some (en xs[i]) := by rw [List.getElem?_map, hx0]; rfl
    obtain ⟨env2, eb, hT, hE⟩ := item xs[i] (List.getElem_mem hlt)
    have etake : xs.take (i + 1) = xs.take i ++ [xs[i]] := by rw [List.take_succ, hx0]; rfl
    refine .inr ⟨it.go i _ H1 sP hd, fun H' => ∃ F B us, Grow F0 B0 H0 F B H' ∧ H' D = some (.dK us) ∧ B D = none ∧ repPD X.K F B H' kz.k (mg (i + 1)) us, fun H' w => ⟨xs.length - (i + 1), by omega, rfl, hlt, w⟩, fun x H' y => ?_⟩
    have y1 := it.yl i _ H1 x H' sP hd y
    have y2 : (H' = H1 ∧ RepK X.K F B H1 H1 k.k (en xs[i]) x) ∨ ∃ T vs es, H1 T = none ∧ H' = upd H1 T (.tup vs) ∧ x = .ref T ∧ en xs[i] = .tup es ∧ repsK X.K F B H1 k.k es vs := by
      rcases y1 with ⟨e, r⟩ | ⟨T, vs, es, n, e, ex, ed, r⟩
      · exact .inl ⟨e, RepK.mono2 g.f g.b r⟩
      · exact .inr ⟨T, vs, es, n, e, ex, ed, repsK.mono2 g.f g.b r⟩
    obtain ⟨F3, B3, g3, r3⟩ := yl_grow g.hs y2
    have g4 := g.trans g3
    have nB3 : B3 D = none := g3.keepB (by rw [hA]; exact fun z => nomatch z) nB
    have E3 : EnvE X.K F3 B3 H' env (L2.wipe σ vs) := (E0.grow g4).wipe hc
    refine bnd_ok (Pv := fun e τ => EnvE X.K F3 B3 H' e τ ∧ L2.wipe τ vs = L2.wipe σ vs) g3.hs EnvE.setOk hix eb r3 ⟨E3, wipe_wipe⟩ fun σ4 ⟨E4, w4⟩ => ⟨w4, ?_⟩
    refine htt env2 (pd xs[i]) _ _ _ hT ⟨F3, B3, E4, fun H5 F5 B5 g5 => ?_⟩
    have hA5 : H5 D = some (.dK us) := g5.h _ _ (g3.h _ _ hA)
    have nB5 : B5 D = none := g5.keepB (by rw [g3.h _ _ hA]; exact fun z => nomatch z) nB3
    have gr5 : Grow F B H1 F5 B5 H5 := g3.trans g5
    cases hp : pd xs[i] with
    | false =>
      show if false = true then _ else _
      rw [if_neg Bool.false_ne_true]
      refine ⟨F5, B5, us, g4.trans g5, hA5, nB5, ?_⟩
      have : mg (i + 1) = mg i := by
        show dMerge [] (((xs.take (i + 1)).filter pd).map _) = _
        rw [etake, List.filter_append, show [xs[i]].filter pd = [] by simp [hp], List.append_nil]
      rw [this]
      exact repPD_mono gr5.f gr5.b gr5.h r
    | true =>
      show if true = true then _ else _
      rw [if_pos rfl]
      obtain ⟨⟨kk, hK⟩, ke, hk, hE⟩ := hE hp
      refine htk env2 _ _ _ _ _ (fun Y hY => (hK Y hY).scal (kK.sc (kf xs[i]))) ⟨F5, B5, E4.grow g5, fun y6 H6 F6 B6 g6 r6 => ?_⟩
      obtain rfl := kK.rep _ _ (kf xs[i]) _ (show Rep X.K F6 (kK.d (kf xs[i])) y6 from r6)
      refine htv env2 (f xs[i]) _ _ _ _ (fun Y hY => (hE Y hY).heldOf) ⟨F6, B6, (E4.grow g5).grow g6, fun y7 H7 F7 B7 g7 r7 => ?_⟩
      rw [hk] at r7
      have hA6 : H6 D = some (.dK us) := g6.h _ _ hA5
      have nB6 : B6 D = none := g6.keepB (by rw [hA5]; exact fun z => nomatch z) nB5
      have hA7 : H7 D = some (.dK us) := g7.h _ _ hA6
      have nB7 : B7 D = none := g7.keepB (by rw [hA6]; exact fun z => nomatch z) nB6
      have rr := repPD_mono ((gr5.trans g6).trans g7).f ((gr5.trans g6).trans g7).b ((gr5.trans g6).trans g7).h r
      have hlen : us.length ≤ i := by
        rw [repPD_len r]
        refine Nat.le_trans (dMerge_len _ _) ?_
        rw [List.length_map, List.length_nil, Nat.zero_add]
        exact Nat.le_trans (List.length_filter_le _ _) (by rw [List.length_take]; omega)
      refine ⟨us, kf xs[i], rfl, hA7, by omega, F7, B7, putK us (kf xs[i]) y7, atD ((g4.trans g5).trans (g6.trans g7)) nB7, upd_same, nB7, ?_⟩
      have : mg (i + 1) = dPut (mg i) (kf xs[i]) (f xs[i]) := by
        show dMerge [] (((xs.take (i + 1)).filter pd).map _) = _
        rw [etake, List.filter_append, show [xs[i]].filter pd = [xs[i]] by simp [hp], List.map_append]
        exact dMerge_snoc _ _ _
      rw [this]
      have r8 := repPD_put (k := kf xs[i]) rr (show RepK X.K F7 B7 H7 H7 kz.k (f xs[i]) y7 by cases kz <;> exact r7)
      cases kz <;> exact r8
  · have e : i = xs.length := by omega
    subst e
    refine .inl ⟨by have := it.st H1 sP; rwa [List.length_map] at this, ?_⟩
    have em : mg xs.length = dMerge [] ((xs.filter pd).map fun x => (kf x, f x)) := by
      show dMerge [] (((xs.take xs.length).filter pd).map _) = _
      rw [List.take_length]
    rw [em] at r
    cases kz with
    | c => exact q _ H1 F B (g0.trans g) ⟨D, rfl, g0.h.free hD, nB, us, hA, r⟩
    | b =>
      refine q _ H1 F (frzAt B H1 D) (g0.trans ⟨g.f, g.b.trans (frz_same g.hs.bh D), g.h, ⟨g.hs.fb.trans (frz_same g.hs.bh D), frz_sub g.hs.bh D, g.hs.tup⟩, g.newF, fun p h1 h2 => ?_⟩) (Rep.dK (frz_at hA) (RepP.mono (frz_same g.hs.bh D) r))
      rcases frz_ne h2 with z | z
      · subst z; exact absurd hD h1
      · exact g.newB p h1 z
theorem ps_setDc {i : Nat} {y : Str} {py spos : Pos} {wi : TI} {g : TG} {tt : TT} {tk tv : TE} (hc : X.calm = true) (hN : X.N.Nodup) (hy : X.N[i]? = some y) (hyl : X.env.scope.names.lookup y = some .local)
    (hsw : swapsWith (.DictComp kx vx [⟨tg, iter, ifs, 0⟩] scope pos) (some (.Name y py)) spos.line X.env = pure true) (hi : PI X tg iter wi) (ok : BlkOk X.N X.env.scope scope own)
    (hg : ∀ (s : Shared) (H : Hp) (C : Addr) (cl : List (Str × Addr)) (fp : List Addr), PG (X.blk s H scope (compEnvC scope cl C X.env) fp) tg g) (ht : ∀ (s : Shared) (H : Hp) (C : Addr) (cl : List (Str × Addr)) (fp : List Addr), PTs (X.blk s H scope (compEnvC scope cl C X.env) fp) ifs tt)
    (hk : ∀ (s : Shared) (H : Hp) (C : Addr) (cl : List (Str × Addr)) (fp : List Addr), PE (X.blk s H scope (compEnvC scope cl C X.env) fp) kx tk) (hv : ∀ (s : Shared) (H : Hp) (C : Addr) (cl : List (Str × Addr)) (fp : List Addr), PE (X.blk s H scope (compEnvC scope cl C X.env) fp) vx tv)
    (hs : ∀ x, foldedSetIterable iter X.env x = pure x) : PS X (.Assign [.Name y py] (.DictComp kx vx [⟨tg, iter, ifs, 0⟩] scope pos) spos) (tAsg (tDc wi g tt tk tv (own.map (·.2))) (gName i)) := by
  refine ⟨fun pins s σ H Dd I h => ?_⟩
  rw [exec_Assign_Name_used _ _ _ _ hsw]
  apply wpAny_bind; apply wpAny_standAt; apply wpAny_bind
  show wpAny _ X.A (do let _ ← comprehension (.DictComp kx vx [⟨tg, iter, ifs, 0⟩] scope pos) scope X.env (firstIterPos [⟨tg, iter, ifs, 0⟩] pos) newDict false (eval iter X.env) (some (assign (.Name y py) X.env))) _ _ s
  have h : tDc wi g tt tk tv (own.map (·.2)) σ H (fun x H1 => gName i x σ H1 Dd.nx) := h
  refine wpAny_bind (thn (dc_core (Qf := fun _ s' => SP X pins Dd .next s') hc hN I hi ok hg ht hk hv hs h fun L C s' m H' I' q hn f => ?_) fun _ s' hq => wpAny_pure (wpAny_pure hq))
  show wpAny _ _ (assign (.Name y py) X.env (.ref L)) _ _ _
  refine wpAny_assign_Name (store_ok2 (v := V.ref L) I' hN hy (.inl hyl) rfl (fun s2 I2 ⟨a, sb, ha⟩ => ?_) (.inr hyl))
  obtain ⟨g0, g1, g2, g3, g4, g5⟩ := f
  have haC : C ≠ a := by
    rcases ha with z | z
    · rw [z]; exact g1
    · exact fun e => g4 y a z e.symm
  refine ⟨m, hn.sameBut sb haC, fun h3 sb3 => ⟨_, H', I2.turned (t' := s2.toks) (fun b o hb e => (sb3.2 b hb).trans e) g0 g1 g3 g4 g5, q⟩⟩
theorem ev_dc {α : Type} (xs : List α) (en : α → D) (pd : α → Bool) (kf : α → Key) (f : α → D) (kz : K2) (hcalm : X.calm = true) (hN : X.N.Nodup) (hi : EI X env tg iter (xs.map en) k fx) (ok : BlkOk X.N X.env.scope scope own) (hc : Clear env (own.map (·.2))) (ht : ∀ Y, Blk X scope Y → TgOk Y tg t) (hix : ∀ j ∈ t.ix, j ∈ own.map (·.2)) (hz : xs.length ≤ sizeLine)
    (hs : ∀ x, foldedSetIterable iter X.env x = pure x)
    (item : ∀ x, x ∈ xs → ∃ env2, bnd k t (en x) env = some env2 ∧ (∀ Y, Blk X scope Y → Ets Y env2 ifs (pd x)) ∧ (pd x = true → (∃ kk, ∀ Y, Blk X scope Y → Ev Y env2 kx (Key.toD (kf x)) kk) ∧ ∃ ke, heldOf ke (f x) = kz.k ∧ ∀ Y, Blk X scope Y → Ev Y env2 vx (f x) ke)) :
    Ev X env (.DictComp kx vx [⟨tg, iter, ifs, 0⟩] scope pos) (.dK (dMerge [] ((xs.filter pd).map fun x => (kf x, f x)))) kz.k.mk :=
  ⟨(pe_dc (g := gOf X.K t) (tt := ttA X scope ifs) (tk := teA X scope kx) (tv := teA X scope vx) hcalm hN hi.pi ok (fun s H C cl fp => (ht _ ⟨s, H, C, cl, fp, rfl⟩).pg)
    (fun s H C cl fp => ⟨fun pins s' σ H' Q I ⟨env, b, h1, h2⟩ => (h1 _ ⟨s, H, C, cl, fp, rfl⟩).pts.run pins s' σ H' Q I h2⟩) (fun s H C cl fp => ⟨fun pins s' σ H' Q I ⟨env, d, k, h1, h2⟩ => (h1 _ ⟨s, H, C, cl, fp, rfl⟩).pe.run pins s' σ H' Q I h2⟩)
    (fun s H C cl fp => ⟨fun pins s' σ H' Q I ⟨env, d, k, h1, h2⟩ => (h1 _ ⟨s, H, C, cl, fp, rfl⟩).pe.run pins s' σ H' Q I h2⟩) hs).mono
    (dc_te (tt := ttA X scope ifs) (tk := teA X scope kx) (tv := teA X scope vx) xs en _ pd kf f kz hc hix hz (fun env b σ H Q h1 h2 => ⟨env, b, h1, h2⟩) (fun env d k σ H Q h1 h2 => ⟨env, d, k, h1, h2⟩) (fun env d k σ H Q h1 h2 => ⟨env, d, k, h1, h2⟩) item)⟩
theorem s1_setDc {Φ : Outs} {y : Str} {py spos : Pos} {s : Slot} {α : Type} (xs : List α) (en : α → D) (i : Nat) (pd : α → Bool) (kf : α → Key) (f : α → D) (kz : K2) (hcalm : X.calm = true) (hN : X.N.Nodup) (hy : X.N[i]? = some y) (hyl : X.env.scope.names.lookup y = some .local)
    (hsw : swapsWith (.DictComp kx vx [⟨tg, iter, ifs, 0⟩] scope pos) (some (.Name y py)) spos.line X.env = pure true) (hi : EI X env tg iter (xs.map en) k fx) (ok : BlkOk X.N X.env.scope scope own) (hc : Clear env (own.map (·.2))) (ht : ∀ Y, Blk X scope Y → TgOk Y tg t) (hix : ∀ j ∈ t.ix, j ∈ own.map (·.2)) (hz : xs.length ≤ sizeLine)
    (hs : ∀ x, foldedSetIterable iter X.env x = pure x)
    (item : ∀ x, x ∈ xs → ∃ env2, bnd k t (en x) env = some env2 ∧ (∀ Y, Blk X scope Y → Ets Y env2 ifs (pd x)) ∧ (pd x = true → (∃ kk, ∀ Y, Blk X scope Y → Ev Y env2 kx (Key.toD (kf x)) kk) ∧ ∃ ke, heldOf ke (f x) = kz.k ∧ ∀ Y, Blk X scope Y → Ev Y env2 vx (f x) ke))
    (so : SlotOf kz.k.mk (.dK (dMerge [] ((xs.filter pd).map fun x => (kf x, f x)))) s) (h : Φ.nx (env.set i (some s))) : S1 X env (.Assign [.Name y py] (.DictComp kx vx [⟨tg, iter, ifs, 0⟩] scope pos) spos) Φ :=
  ⟨(ps_setDc (i := i) (g := gOf X.K t) (tt := ttA X scope ifs) (tk := teA X scope kx) (tv := teA X scope vx) hcalm hN hy hyl hsw hi.pi ok (fun s H C cl fp => (ht _ ⟨s, H, C, cl, fp, rfl⟩).pg)
    (fun s H C cl fp => ⟨fun pins s' σ H' Q I ⟨env, b, h1, h2⟩ => (h1 _ ⟨s, H, C, cl, fp, rfl⟩).pts.run pins s' σ H' Q I h2⟩) (fun s H C cl fp => ⟨fun pins s' σ H' Q I ⟨env, d, k, h1, h2⟩ => (h1 _ ⟨s, H, C, cl, fp, rfl⟩).pe.run pins s' σ H' Q I h2⟩)
    (fun s H C cl fp => ⟨fun pins s' σ H' Q I ⟨env, d, k, h1, h2⟩ => (h1 _ ⟨s, H, C, cl, fp, rfl⟩).pe.run pins s' σ H' Q I h2⟩) hs).mono
    fun Dd σ H ⟨F, B, G, E, P⟩ => by
      have key : ∀ v H' F' B', Grow F B H F' B' H' → RepK X.K F' B' H H' kz.k.mk (.dK (dMerge [] ((xs.filter pd).map fun x => (kf x, f x)))) v → gName i v σ H' Dd.nx := fun v H' F' B' g r => by
        refine P.nx _ _ _ F' B' (g.gs E.gh) ((E.grow g).set (RepK.slot g.hs E.gh so r) fun d' p es ev => ?_) h
        subst es
        cases kz with
        | c =>
          obtain ⟨q, e1, n, _, _⟩ := r
          rw [e1] at ev; cases ev
          exact own_new E n
        | b => cases so
      exact dc_te (tt := ttA X scope ifs) (tk := teA X scope kx) (tv := teA X scope vx) xs en (own.map (·.2)) pd kf f kz hc hix hz (fun env b σ H Q h1 h2 => ⟨env, b, h1, h2⟩) (fun env d k σ H Q h1 h2 => ⟨env, d, k, h1, h2⟩) (fun env d k σ H Q h1 h2 => ⟨env, d, k, h1, h2⟩) item σ H (fun v H' => gName i v σ H' Dd.nx) ⟨F, B, E.e, key⟩⟩
end
theorem lcM_okG {α β γ : Type} (dflt : γ) {p : α → Option Bool} {f : α → Option β} (g : β → γ) : ∀ {xs : List α} {ys : List β}, lcM p f xs = some ys →
    ((xs.filter fun x => (p x).getD false).map fun x => match f x with | some y => g y | none => dflt) = ys.map g ∧ ∀ x ∈ xs, p x = some ((p x).getD false) ∧ ((p x).getD false = true → ∃ y, f x = some y)
  | [], ys, h => by cases h; exact ⟨rfl, fun x hx => nomatch hx⟩
  | x :: xs, ys, h => by
    unfold lcM at h
    obtain ⟨b, hb, h⟩ := bindO h
    cases b with
    | true =>
      rw [if_pos rfl] at h
      obtain ⟨y, hy, h⟩ := bindO h
      obtain ⟨zs, hz, h⟩ := bindO h
      cases h
      obtain ⟨e, hi⟩ := lcM_okG dflt g hz
      have px : (p x).getD false = true := by rw [hb]; rfl
      refine ⟨?_, fun z hm => ?_⟩
      · rw [List.filter_cons, if_pos px, List.map_cons, List.map_cons, e, hy]
      · rcases List.mem_cons.mp hm with w | w
        · subst w; exact ⟨by rw [px]; exact hb, fun _ => ⟨y, hy⟩⟩
        · exact hi z w
    | false =>
      rw [if_neg Bool.false_ne_true] at h
      obtain ⟨e, hi⟩ := lcM_okG dflt g h
      have px : (p x).getD false = false := by rw [hb]; rfl
      refine ⟨?_, fun z hm => ?_⟩
      · rw [List.filter_cons, px, if_neg Bool.false_ne_true, e]
      · rcases List.mem_cons.mp hm with w | w
        · subst w; exact ⟨by rw [px]; exact hb, fun z => by rw [px] at z; cases z⟩
        · exact hi z w
section
variable {X : Cx} {Γ : Gd} {N : List Str} {sc scope : Scope} {lv : Nat} {vl ll : List Nat} {gl : List Str} {env : DEnv} {Φ : Outs} {rest : List Stmt} {kx vx tg iter : Expr} {ifs : List Expr} {own : List (Str × Nat)} {k : K2} {fx : Bool} {t : Tg} {pos : Pos}
theorem ec_dc {α : Type} (xs : List α) (en : α → D) (pd : α → Bool) (kf : α → Key) (f : α → D) (kz : K2) (A : At X Γ N sc lv) (S : Sc N sc vl ll gl) (ok : blkC N sc scope own = true) (hi : EI X env tg iter (xs.map en) k fx) (hz : xs.length ≤ sizeLine) (hc : Clear env (own.map (·.2)))
    (ht : ∀ Y, At Y Γ N scope lv → TgOk Y tg t) (hix : ∀ j ∈ t.ix, j ∈ own.map (·.2)) (hs : ∀ x, foldedSetIterable iter X.env x = pure x)
    (item : ∀ x, x ∈ xs → ∃ env2, bnd k t (en x) env = some env2 ∧ (∀ Y, Blk X scope Y → Ets Y env2 ifs (pd x)) ∧ (pd x = true → (∃ kk, ∀ Y, Blk X scope Y → Ev Y env2 kx (Key.toD (kf x)) kk) ∧ ∃ ke, heldOf ke (f x) = kz.k ∧ ∀ Y, Blk X scope Y → Ev Y env2 vx (f x) ke)) :
    Ec X env (.DictComp kx vx [⟨tg, iter, ifs, 0⟩] scope pos) (.dK (dMerge [] ((xs.filter pd).map fun x => (kf x, f x)))) kz.k.mk := by
  have ok' : BlkOk X.N X.env.scope scope own := by rw [A.eN]; exact A.eS.blk (blkOk_by ok)
  have nd : X.N.Nodup := by rw [A.eN]; exact S.nd
  refine ⟨ev_dc xs en pd kf f kz A.calm nd hi ok' hc (fun Y hY => ht Y (hY.at_ A)) hix hz hs item, fun hy hl hw so h => ss_cons ?_⟩
  exact s1_setDc xs en _ pd kf f kz A.calm nd hy hl hw hi ok' hc (fun Y hY => ht Y (hY.at_ A)) hix hz hs item so h
theorem dcM_ {κ α β : Type} [DecidableEq κ] {c : KeyT κ} (hcd : ∀ a, c.d a = Key.toD (c.k a)) {xs ys : List α} {zs : List (κ × β)} {en : α → D} (en2 : β → D) (own : List (Str × Nat)) {p : α → Option Bool} {g : α → Option (κ × β)} (kz : K2) (A : At X Γ N sc lv) (S : Sc N sc vl ll gl) (ok : blkC N sc scope own = true)
    (hi : EI X env tg iter (xs.map en) k fx) (h : lcG xs = some ys) (hM : lcM p g ys = some zs) (hc : Clear env (own.map (·.2))) (ht : ∀ Y, At Y Γ N scope lv → TgOk Y tg t) (hix : ∀ j ∈ t.ix, j ∈ own.map (·.2)) (hs : ∀ x, foldedSetIterable iter X.env x = pure x)
    (item : ∀ x, x ∈ xs → ∃ env2, bnd k t (en x) env = some env2 ∧ (∀ b, p x = some b → ∀ Y, At Y Γ N scope lv → Ets Y env2 ifs b) ∧ ∀ y, p x = some true → g x = some y → (∃ kk, ∀ Y, At Y Γ N scope lv → Ev Y env2 kx (c.d y.1) kk) ∧ ∃ ke, heldOf ke (en2 y.2) = kz.k ∧ ∀ Y, At Y Γ N scope lv → Ev Y env2 vx (en2 y.2) ke) :
    Ec X env (.DictComp kx vx [⟨tg, iter, ifs, 0⟩] scope pos) (enK c en2 (dMerge [] zs)) kz.k.mk := by
  obtain ⟨h1, e⟩ := iteO h; subst e
  obtain ⟨e, hi2⟩ := lcM_okG (Sum.inl 0, D.non) (fun y : κ × β => (c.k y.1, en2 y.2)) hM
  have key := ec_dc (pos := pos) xs en (fun x => (p x).getD false) (fun x => (match g x with | some y => (c.k y.1, en2 y.2) | none => (Sum.inl 0, D.non)).1) (fun x => (match g x with | some y => (c.k y.1, en2 y.2) | none => (Sum.inl 0, D.non)).2) kz A S ok hi (by rw [line_eq]; exact h1) hc ht hix hs fun x hx => by
    obtain ⟨env2, e1, e2, e3⟩ := item x hx
    obtain ⟨p1, p2⟩ := hi2 x hx
    refine ⟨env2, e1, fun Y hY => e2 _ p1 Y (hY.at_ A), fun z => ?_⟩
    obtain ⟨y, y1⟩ := p2 z
    obtain ⟨⟨kk, w0⟩, ke, w1, w2⟩ := e3 y (by rw [p1]; exact congrArg some z) y1
    rw [y1]
    exact ⟨⟨kk, fun Y hY => by have := w0 Y (hY.at_ A); rw [hcd] at this; exact this⟩, ke, w1, fun Y hY => w2 Y (hY.at_ A)⟩
  have ed : enK c en2 (dMerge [] zs) = .dK (dMerge [] ((xs.filter fun x => (p x).getD false).map fun x => ((match g x with | some y => (c.k y.1, en2 y.2) | none => (Sum.inl 0, D.non)).1, (match g x with | some y => (c.k y.1, en2 y.2) | none => (Sum.inl 0, D.non)).2))) := by
    show D.dK (enP c en2 (dMerge [] zs)) = _
    rw [enP_merge]
    show D.dK (dMerge [] (zs.map fun p => (c.k p.1, en2 p.2))) = _
    rw [← e]
    refine congrArg (fun l => D.dK (dMerge [] l)) (List.map_congr_left fun x _ => ?_)
    cases g x <;> rfl
  rw [ed]; exact key
theorem swapsD_at {sc' : Scope} {env : Env} {gens : List Comprehension} {pos py : Pos} {n : Str} {line : Nat} (hs : ScLe sc sc') (he : env.scope = sc') (hk : (sc.kind == .function) = true) (hl : (py.line == pos.line) = true) (hn : (scope.names.any fun (m, k) => m == n && (k == .local || k == .cell)) = false) (hc : (sc.names.lookup n == some .local) = true) :
    swapsWith (.DictComp kx vx gens scope pos) (some (.Name n py)) line env = pure true := by
  have hk' : env.scope.kind = .function := by rw [he, hs.kind]; exact eq_of_beq hk
  have hb : env.blockKind = .function := by unfold Env.blockKind; rw [hk']; rfl
  have hy : env.kindOf n = some .local := by unfold Env.kindOf; rw [he]; exact hs.local (eq_of_beq hc)
  have h1 : (env.blockKind == ScopeKind.function) = true := by rw [hb]; rfl
  have h2 : (env.kindOf n == some NameKind.local) = true := by rw [hy]; rfl
  show (pure (env.blockKind == ScopeKind.function && env.kindOf n == some NameKind.local && py.line == pos.line && !(scope.names.any fun (m, k) => m == n && (k == .local || k == .cell))) : Sem Bool) = pure true
  rw [h1, h2, hl, hn]; rfl
theorem swapsD_not {sc' : Scope} {env : Env} {gens : List Comprehension} {pos py : Pos} {n : Str} {line : Nat} (hs : ScLe sc sc') (he : env.scope = sc') (hc : (sc.names.lookup n == some .cell) = true) :
    swapsWith (.DictComp kx vx gens scope pos) (some (.Name n py)) line env = pure false := by
  have hy : env.kindOf n = some .cell := by
    unfold Env.kindOf; rw [he]
    obtain ⟨k', e, r | ⟨r1, r2⟩⟩ := hs.lk n _ (eq_of_beq hc)
    · rw [e, r]
    · cases r1
  unfold swapsWith
  show (pure _ : Sem Bool) = pure false
  rw [hy]
  show (pure ((_ && false && _) && _) : Sem Bool) = pure false
  simp
theorem setDc_ {d : D} {kd : Kd} {s : Slot} {n : Str} {py spos : Pos} {gens : List Comprehension} (A : At X Γ N sc lv) (S : Sc N sc vl ll gl) (i : Nat) (hN : N[i]? = some n) (hl : (sc.names.lookup n == some .local) = true) (hk : (sc.kind == .function) = true) (hw : (py.line == pos.line) = true) (hn : (scope.names.any fun (m, k) => m == n && (k == .local || k == .cell)) = false) (he : Ec X env (.DictComp kx vx gens scope pos) d kd) (so : SlotOf kd d s)
    (h : SS X (env.set i (some s)) rest Φ) : SS X env (.Assign [.Name n py] (.DictComp kx vx gens scope pos) spos :: rest) Φ :=
  he.sto (by rw [A.eN]; exact hN) (A.eS.local (eq_of_beq hl)) (swapsD_at A.eS rfl hk hw hn hl) so h
theorem setDcC_ {d : D} {kd : Kd} {s : Slot} {n : Str} {py spos : Pos} {gens : List Comprehension} (A : At X Γ N sc lv) (S : Sc N sc vl ll gl) (i : Nat) (hN : N[i]? = some n) (hl : (sc.names.lookup n == some .cell) = true) (hs : ll.contains i = true) (he : Ec X env (.DictComp kx vx gens scope pos) d kd) (so : SlotOf kd d s)
    (h : SS X (env.set i (some s)) rest Φ) : SS X env (.Assign [.Name n py] (.DictComp kx vx gens scope pos) spos :: rest) Φ :=
  set_ A S i hN hs he.ev so (swapsD_not A.eS rfl hl) h
end
end DL
namespace DL
open PySem PySem.Spec L2
open PyProof.Rows hiding St
open C8 (InsC call_isC)
section
variable {X : Cx} {env : DEnv} {a b e : Expr} {k1 k2 k3 : Kd} {pos pn pT apos cpos : Pos} {κ α : Type} [DecidableEq κ] {c : KeyT κ} {f : α → D} {kvs : List (κ × α)} {k : κ} {x : α} {C : Addr} {fs : List (Str × D)} {nC : Str} {t p : Bool}
theorem isiC_ (bn : Bn X "isinstance" (.builtin "isinstance")) (c : InsC X.K C) (hg : Gl X nC) (hm : X.mg nC = some (.ref C)) (hd : (nC == ("__debug__" : Str)) = false) (ha : Ev X env a (.obj C fs) k1) (he : starEach [a, .Name nC pT] X.env = [(false, eval a X.env), (false, eval (.Name nC pT) X.env)]) :
    Ev X env (.Call (.Name "isinstance" pn) [a, .Name nC pT] [] pos) (.bl true) .cln := by
  have hT : PE X (.Name nC pT) (tC (.ref C)) := pe_glob hg hm rfl hd
  refine ⟨(pe_callB (call_isC c) bn.gl bn.mg bn.bt (pa_cons ha.st.pe (pa_cons hT pa_nil rfl) he) bn.nn bn.db he rfl).mono fun σ H Q ⟨F, B, E, q⟩ => ⟨F, B, E, fun v H1 F1 B1 g1 r1 => ?_⟩⟩
  obtain ⟨p, dx, us, rfl, e2, r⟩ := RepS.obj g1.hs (RepK.any0 r1)
  exact ⟨p, dx, us, rfl, e2, q _ _ _ _ g1 (.bl true)⟩
theorem isiCT_ {T : String} {d : D} (bn : Bn X "isinstance" (.builtin "isinstance")) (hk : PySem.W.kitOne X.K (.type T) (.ref C) = some p) (hg : Gl X nC) (hm : X.mg nC = some (.ref C)) (hd : (nC == ("__debug__" : Str)) = false) (ha : Ev X env a d k1) (ht : d.ty = some T) (he : starEach [a, .Name nC pT] X.env = [(false, eval a X.env), (false, eval (.Name nC pT) X.env)]) :
    Ev X env (.Call (.Name "isinstance" pn) [a, .Name nC pT] [] pos) (.bl p) .cln := by
  have hT : PE X (.Name nC pT) (tC (.ref C)) := pe_glob hg hm rfl hd
  refine ⟨(pe_callB call_isi bn.gl bn.mg bn.bt (pa_cons ha.st.pe (pa_cons hT pa_nil rfl) he) bn.nn bn.db he rfl).mono fun σ H Q ⟨F, B, E, q⟩ => ⟨F, B, E, fun v H1 F1 B1 g1 r1 => ?_⟩⟩
  exact ⟨v, .ref C, .type T, .ref C, p, rfl, .own C, rep_ty (r1.rep g1.hs) ht, hk, q _ _ _ _ g1 (.bl p)⟩
theorem isiCC_ {Dc : Addr} (bn : Bn X "isinstance" (.builtin "isinstance")) (c : InsC X.K C) (hk : PySem.W.kitOne X.K (.ref C) (.ref Dc) = some p) (hg : Gl X nC) (hm : X.mg nC = some (.ref Dc)) (hd : (nC == ("__debug__" : Str)) = false) (ha : Ev X env a (.obj C fs) k1) (he : starEach [a, .Name nC pT] X.env = [(false, eval a X.env), (false, eval (.Name nC pT) X.env)]) :
    Ev X env (.Call (.Name "isinstance" pn) [a, .Name nC pT] [] pos) (.bl p) .cln := by
  have hT : PE X (.Name nC pT) (tC (.ref Dc)) := pe_glob hg hm rfl hd
  refine ⟨(pe_callB call_isi bn.gl bn.mg bn.bt (pa_cons ha.st.pe (pa_cons hT pa_nil rfl) he) bn.nn bn.db he rfl).mono fun σ H Q ⟨F, B, E, q⟩ => ⟨F, B, E, fun v H1 F1 B1 g1 r1 => ?_⟩⟩
  obtain ⟨o, dx, us, rfl, e2, r⟩ := RepS.obj g1.hs (RepK.any0 r1)
  exact ⟨_, .ref Dc, .ref C, .ref Dc, p, rfl, .own Dc, .base (TyOf.ins e2 c.cl c.ha c.hn c.htk c.hm), hk, q _ _ _ _ g1 (.bl p)⟩
theorem dgetD_ {z : α} (hu : X.A.units + 64 < cLine) (ha : Ev X env a (enK c f kvs) k1) (hb : Ev X env b (c.d k) k2) (hz : Ev X env e (f z) k3) (mx : M2 X a "get" apos b e cpos) :
    Ev X env (.Call (.Attribute a "get" apos) [b, e] [] cpos) (f ((dGet kvs k).getD z)) (k1.kid.join k3.held) :=
  ⟨(pe_dget2 (by omega) ha.st.pe (hb.scal (c.sc k)).pe hz.held.pe mx).mono fun σ H Q ⟨F, B, E, q⟩ => ⟨F, B, E, fun v H1 F1 B1 g1 r1 => by
    obtain ⟨p, us, rfl, e1, _⟩ := RepS.dK g1.hs (RepK.any0 r1 : RepS X.K F1 B1 H1 k1 _ _)
    refine ⟨p, rfl, .inl ⟨us, .inl e1⟩, F1, B1, E.grow g1, fun u H2 F2 B2 g2 r2 => ⟨F2, B2, (E.grow g1).grow g2, fun w H3 F3 B3 g3 r3 => ?_⟩⟩
    obtain rfl := c.rep _ _ _ _ (show Rep X.K F2 (c.d k) u from r2)
    obtain ⟨p', us', ep, e2, r⟩ := RepS.dK g3.hs (RepK.any0 (RepK.growS (g2.trans g3) r1) : RepS X.K F3 B3 H3 k1 _ _)
    cases ep
    have hk3 : k3.held = .cln ∨ k3.held = .brw ∨ k3.held = .drt := by cases k3 <;> simp [Kd.held]
    obtain ⟨h1, h2⟩ := repPD_get (k := k) (kid_cases k1) r
    refine ⟨_, DGet.k e2, ?_⟩
    have G := (g1.trans g2).trans g3
    cases ed : dGet kvs k with
    | some x =>
      obtain ⟨y, e3, r4⟩ := h1 x ed
      rw [e3, Option.getD_some]
      refine q y H3 F3 B3 G ?_
      rw [ed, Option.getD_some]
      exact RepK.back G.h (repK_up g3.hs (kid_cases k1) hk3 (r4 H3))
    | none =>
      rw [h2 ed, Option.getD_none]
      refine q w H3 F3 B3 G ?_
      rw [ed, Option.getD_none, join_comm]
      refine RepK.back G.h (repK_up g3.hs hk3 (kid_cases k1) ?_)
      rcases hk3 with z | z | z <;> rw [z] at r3 ⊢ <;> exact r3⟩⟩
end
section
variable {X : Cx} {Γ : Gd} {N : List Str} {sc : Scope} {lv : Nat} {vl ll : List Nat} {gl : List Str} {env env' : DEnv} {Φ : Outs} {rest : List Stmt} {e a b : Expr} {d : D} {k1 k2 : Kd} {pos np apos cpos : Pos} {n : Str}
theorem exE_ (he : Em X env env' e d) (hs : swapsWith e none pos.line X.env = pure false) (h : SS X env' rest Φ) : SS X env (.Expr e pos :: rest) Φ :=
  ss_cons ⟨(ps_expr he.pe hs).mono fun Dd σ H ⟨F, B, G, E, P⟩ => ⟨F, B, G, E, fun v H' F' B' g E' r => P.nx _ _ _ F' B' g E' h⟩⟩
def insG {α : Type} (xs : List α) (i : Int) (x : α) : Option (List α) := if xs.length < line && (decide (0 ≤ i) && decide (i < 9223372036854775808)) then some (xs.take i.toNat ++ [x] ++ xs.drop i.toNat) else none
theorem ins_ {α : Type} {en : α → D} {xs ys : List α} {x : α} {i : Int} (A : At X Γ N sc lv) (S : Sc N sc vl ll gl) (j : Nat) (hN : N[j]? = some n) (hv : vl.contains j = true) (he : env[j]? = some (some (.own (.lst (xs.map en))))) (ha : Ev X env a (.int i) k1) (hb : Ev X env b (en x) k2) (hk : heldOf k2 (en x) = .cln) (hG : insG xs i x = some ys)
    (mx : Mx X (.Name n np) "insert" [a, b] apos cpos) (hs : starEach [a, b] X.env = [(false, eval a X.env), (false, eval b X.env)]) (hs1 : starEach [b] X.env = [(false, eval b X.env)]) (hsw : swapsWith (.Call (.Attribute (.Name n np) "insert" apos) [a, b] [] cpos) none pos.line X.env = pure false)
    (h : SS X (env.set j (some (.own (.lst (ys.map en))))) rest Φ) : SS X env (.Expr (.Call (.Attribute (.Name n np) "insert" apos) [a, b] [] cpos) pos :: rest) Φ := by
  obtain ⟨h1, e⟩ := iteO hG; subst e
  simp only [Bool.and_eq_true, decide_eq_true_eq] at h1
  obtain ⟨v1, v2⟩ := S.vis hv hN
  obtain ⟨p1, p2, _⟩ := plainB_ok v2
  refine ss_cons ⟨(ps_expr (pe_bm PySem.F.plainAttrs_list PySem.F.slot_list_insert PySem.F.type_list_insert (fun pins s σ H x xs v us Q I r r2 h => mt_insert pins s σ H x xs v us Q I r r2 h) (pe_var (by rw [A.eN]; exact hN) (A.eS.vis v1) p1 p2) (pa_cons ha.scal.pe (pa_cons hb.heldOf.pe pa_nil hs1) (hs.trans (by rw [hs1]))) mx.base mx.few mx.line (hs.trans (by rw [hs1])) (by rw [hs1]; rfl)) hsw).mono fun Dd σ H ⟨F, B, G, E, P⟩ => ?_⟩
  obtain ⟨q, vs, w1, w2, w3⟩ := E.own he
  refine ⟨_, w1, .inl ⟨rfl, vs, SqL.of w2⟩, F, B, E.e, fun u H1 F1 B1 g1 r1 => ⟨F1, B1, E.e.grow g1, fun v H2 F2 B2 g2 r2 => ?_⟩⟩
  rw [hk] at r2
  cases (show Rep X.K F1 (.int i) u from r1)
  have g := g1.trans g2
  have E' := E.grow g
  have r3 : Reps X.K F2 (xs.map en) vs := w3.mono g.f
  refine ⟨q, vs, i, v, rfl, rfl, g.h _ _ w2, by rw [w3.length, List.length_map, line_eq]; exact h1.1, h1.2.1, h1.2.2, ?_⟩
  refine P.nx _ _ _ F2 B2 (g.gs E.gh) (E'.mut (d' := .lst ((xs.take i.toNat ++ [x] ++ xs.drop i.toNat).map en)) he w1 rfl ⟨_, upd_same, ?_⟩) h
  rw [List.map_append, List.map_append, List.map_take, List.map_drop]
  exact Reps.append (Reps.append (r3.take _) (.one r2)) (r3.drop _)
end
theorem ca_eq {P : Program} {w : World} {K : PySem.W.Frag} {mg : Str → Option Value} {base : Heap} {n : Str} {a : Addr} (h : mg n = some (.ref a)) : cA ⟨P, w, K, mg, base⟩ n = a := by
  show (match mg n with | some (.ref a) => a | _ => 0) = a
  rw [h]
theorem CalM.mk' {P : Program} {w : World} {K : PySem.W.Frag} {mg : Str → Option Value} {base : Heap} {x qual : Str} {params : Arguments} {body : List Stmt} {scope : Scope} {dvs : List V} {dus : List Value} {kdv : List V} {kws : List (Str × V)} {f C : Addr} {m : Str} {fd : FuncData} {N ps : List Str} {lv : Nat} {R : Rel} {dds : List D}
    (Fd : FunD K x qual params body scope kdv kws f fd) (c : Cls K C) (mt : Meth K C m f) (bd : Binds K fd ps dus) (hv : Vals dvs dus) (hd : ∀ B : Hp, Reps K B dds dvs) (S : FnScope N ps scope) (hl : ∀ ds d k, R ds d k → ds.length = ps.length) (hn : ps.length ≤ N.length)
    (hb : ∀ X : Cx, At X ⟨P, w, K, mg, base⟩ N scope lv → ∀ ds d k, R ds d k → SS X (env0 N.length ds) body { rt := fun d' k' => d' = d ∧ Fits k' k d, nx := fun _ => d = .non ∧ k = .cln }) : CalM ⟨P, w, K, mg, base⟩ C m R (lv + 1) dds :=
  ⟨f, fd, ps, dvs, dus, def_ok Fd S hl hn fun X c => hb X c.at_, c, mt, bd, hv, hd⟩
theorem CalN.mk' {P : Program} {w : World} {K : PySem.W.Frag} {mg : Str → Option Value} {base : Heap} {x qual n : Str} {params : Arguments} {body : List Stmt} {scope : Scope} {dvs : List V} {dus : List Value} {kdv : List V} {kws : List (Str × V)} {f C : Addr} {fd : FuncData} {N ps : List Str} {lv : Nat} {R : RelI} {dds : List D}
    (Fd : FunD K x qual params body scope kdv kws f fd) (mk : Mk K C f) (hm : mg n = some (.ref C)) (bd : Binds K fd ps dus) (hv : Vals dvs dus) (hd : ∀ B : Hp, Reps K B dds dvs) (S : FnScope N ps scope) (hl : ∀ ds ws, R ds ws → ds.length + 1 = ps.length) (hn : ps.length ≤ N.length)
    (hb : ∀ X : Cx, At X ⟨P, w, K, mg, base⟩ N scope lv → ∀ x dx ds ws, R ds ws → SI X x C dx (env0 N.length (.adr x :: ds)) [] body ws) : CalN ⟨P, w, K, mg, base⟩ n C R (lv + 1) dds :=
  ⟨f, fd, ps, dvs, dus, def_okI Fd S hl hn fun X c => hb X c.at_, mk, hm, bd, hv, hd⟩
end DL
namespace DL
open PySem PySem.Spec L2
open PyProof.Rows hiding St
def SqX (K : PySem.W.Frag) (H : Hp) : Bool → Addr → List V → Prop
  | true, a, xs => SqT K H a xs
  | false, a, xs => SqL K H a xs
def IterX (h : Heap) : Bool → Addr → Addr → Nat → Prop
  | true, it, a, i => h.IsTupleIter it a i
  | false, it, a, i => h.IsListIter it a i
def IsX (h : Heap) : Bool → Addr → Array Value → Prop
  | true, a, xs => h.IsTuple a xs
  | false, a, xs => h.IsList a xs
theorem drwX {prog : Program} {w : World} (t : Bool) (it l : Addr) (ne : l ≠ it) (xs : Array Value) : Drw prog w it [it, l] xs.size (fun i v => xs[i]? = some v) (fun i h => IterX h t it l i ∧ IsX h t l xs) := by
  cases t with
  | true => exact drw_tuple it l ne xs
  | false => exact drw_list it l ne xs
theorem IterX.at_ {h h' : Heap} {t : Bool} {it a : Addr} {i : Nat} (x : IterX h t it a i) (k : ∀ o, h.get? it = some o → h'.get? it = some o) : IterX h' t it a i := by
  cases t with
  | true => exact Heap.IsTupleIter.at x k
  | false => exact Heap.IsListIter.at x k
theorem IterX.ex {h : Heap} {t : Bool} {it a : Addr} {i : Nat} (x : IterX h t it a i) : ∃ o, h.get? it = some o ∧ ∀ v, o.data ≠ .cell v := by
  cases t with
  | true => obtain ⟨o, e, _, d⟩ := x; exact ⟨o, e, fun v q => by rw [d] at q; cases q⟩
  | false => obtain ⟨o, e, _, d⟩ := x; exact ⟨o, e, fun v q => by rw [d] at q; cases q⟩
theorem seqX {X : Cx} {pins : List (Addr × Obj)} {σ : L2.St} {H : Hp} {s : Shared} (I : Inv X pins σ H s) {t : Bool} {a : Addr} {xs : List V} (h : SqX X.K H t a xs) : ∃ its : List Value, Vals xs its ∧ IsX s.heap t a its.toArray ∧ (∃ o, s.heap.get? a = some o) := by
  cases t with
  | true => obtain ⟨its, v, p, _⟩ := I.tuple h; obtain ⟨o, e, _⟩ := id p; exact ⟨its, v, p, o, e⟩
  | false => obtain ⟨its, v, p, _⟩ := I.list h; obtain ⟨o, e, _⟩ := id p.isList; exact ⟨its, v, p.isList, o, e⟩
theorem seqX_inj {X : Cx} {pins : List (Addr × Obj)} {σ : L2.St} {H : Hp} {s : Shared} (I : Inv X pins σ H s) {t : Bool} {a : Addr} {xs ys : List V} (h1 : SqX X.K H t a xs) (h2 : SqX X.K H t a ys) : xs = ys := by
  cases t with
  | true => exact I.tuple_inj h1 h2
  | false => exact I.list_inj h1 h2
def ItzX (K : PySem.W.Frag) (ta tb : Bool) (a b : Addr) : It :=
  ⟨fun i H => ∃ (xs ys : List V) (x y : V), SqX K H ta a xs ∧ SqX K H tb b ys ∧ xs[i]? = some x ∧ ys[i]? = some y,
    fun i H v H' => ∃ T x y, v = .ref T ∧ H T = none ∧ H' = upd H T (.tup [x, y]) ∧ (∀ xs, SqX K H ta a xs → xs[i]? = some x) ∧ ∀ ys, SqX K H tb b ys → ys[i]? = some y,
    fun i H => ∃ xs ys : List V, SqX K H ta a xs ∧ SqX K H tb b ys ∧ i ≤ xs.length ∧ i ≤ ys.length ∧ (i = xs.length ∨ i = ys.length)⟩
theorem turn_zipX {P : Program} {w : World} {K : PySem.W.Frag} {elts : List Expr} {kk : Nat} {tpos : Pos} {ta tb : Bool} {a b z U O j1 j2 : Addr} (Z : ZipSep2 z U O j1 j2 [j1, a] [j2, b]) (n1 : a ≠ j1) (n2 : b ≠ j2) :
    Turn P w K (.Tuple elts kk tpos) (ItzX K ta tb a b) [z, U, O, j1, j2] z (fun i h => IsZip h z U O .none ∧ IsTupOf2 h U (.ref j1) (.ref j2) ∧ (∃ x y, IsTupOf2 h O x y) ∧ IterX h ta j1 a i ∧ IterX h tb j2 b i) where
  mem := by simp
  obj := fun i h ⟨kz, kU, ⟨x, y, kO⟩, t1, t2⟩ c hc => by
    have hc : c = z ∨ c = U ∨ c = O ∨ c = j1 ∨ c = j2 := by simpa using hc
    rcases hc with q | q | q | q | q
    · rw [q]; exact ⟨_, kz, fun v q => nomatch q⟩
    · rw [q]; exact ⟨_, kU, fun v q => nomatch q⟩
    · rw [q]; exact ⟨_, kO, fun v q => nomatch q⟩
    · rw [q]; exact t1.ex
    · rw [q]; exact t2.ex
  keep := fun i h h' ⟨kz, kU, ⟨x, y, kO⟩, t1, t2⟩ k => ⟨k z (by simp) _ kz, k U (by simp) _ kU, ⟨x, y, k O (by simp) _ kO⟩, t1.at_ fun o q => k j1 (by simp) o q, t2.at_ fun o q => k j2 (by simp) o q⟩
  item := by
    intro X hP hw hK hc i pins s σ H E I hf ⟨kz, kU, ⟨x0, y0, kO⟩, t1, t2⟩ ⟨xs, ys, x, y, qa, qb, hx, hy⟩
    subst hP hw hK
    obtain ⟨ia, va, pa, oa, ea⟩ := seqX I qa
    obtain ⟨ib, vb, pb, ob, eb⟩ := seqX I qb
    obtain ⟨u, hu, ru⟩ := va.get hx
    obtain ⟨u2, hu2, ru2⟩ := vb.get hy
    have la : i < ia.toArray.size := by rw [List.size_toArray]; exact (List.getElem?_eq_some_iff.mp hu).1
    have lb : i < ib.toArray.size := by rw [List.size_toArray]; exact (List.getElem?_eq_some_iff.mp hu2).1
    have hh : X.A.in1.handled = none := I.ok.hd hc
    have hzl : z < s.heap.objs.size := Heap.lt_size kz
    refine wpAny_pyNext_zipD2_item Z ((drwX ta j1 a n1 ia.toArray).dr _ hh) ((drwX tb j2 b n2 ib.toArray).dr _ hh) kz kU kO ⟨t1, pa⟩ ⟨t2, pb⟩ la lb fun p q h' tk ep eq kz' kO' s1 s2 kT hsz k => ?_
    have ep : p = u := by
      have ep : ia.toArray[i]? = some p := ep
      rw [List.getElem?_toArray, hu] at ep; exact (Option.some.inj ep).symm
    have eq : q = u2 := by
      have eq : ib.toArray[i]? = some q := eq
      rw [List.getElem?_toArray, hu2] at eq; exact (Option.some.inj eq).symm
    subst ep eq
    refine ⟨_, rfl, wpAny_letOwnedTupleGo_zip (s := { s with heap := h', toks := tk }) kz' fun h'' z'' sb => ?_⟩
    have kT2 : h''.get? s.heap.objs.size = some { cls := .type "tuple", data := .seq #[p, q] } := (sb.2 _ (Nat.ne_of_gt hzl)).trans kT
    have new : ObjOk X.prog X.w (upd H s.heap.objs.size (.tup [x, y])) h'' s.heap.objs.size (.tup [x, y]) :=
      ⟨by show 2 ≤ sizeLine; decide, [p, q], .cons ru (.cons ru2 .nil), ⟨_, kT2, rfl, _, rfl⟩⟩
    have ne5 : ∀ {c : Addr}, c ∉ [z, U, O, j1, j2] → c ≠ z ∧ c ≠ U ∧ c ≠ O ∧ c ≠ j1 ∧ c ≠ j2 := fun m => by simpa using m
    have I1 : Inv X pins σ (upd H s.heap.objs.size (.tup [x, y])) { s with heap := h'', toks := tk } :=
      I.turnedNew (t' := tk) (ch := [z, U, O, j1, j2]) (fun c o hb e => (sb.2 c (ne5 hb).1).trans (k c o (ne5 hb).1 (ne5 hb).2.2.1 (ne5 hb).2.2.2.1 (ne5 hb).2.2.2.2 e)) hf (Nat.le_refl _) new
    refine ⟨.ref s.heap.objs.size, _, I1, rfl, ⟨_, x, y, rfl, I.hok.fresh (Nat.le_refl _), rfl, fun l hl => by rw [seqX_inj I hl qa]; exact hx, fun l hl => by rw [seqX_inj I hl qb]; exact hy⟩, ⟨z'', ?_, ⟨p, q, ?_⟩, ?_, ?_⟩, fun c hcm => ?_⟩
    · exact (sb.2 _ Z.TIz).trans (k _ _ Z.TIz Z.TITO Z.TIi1 Z.TIi2 kU)
    · exact (sb.2 _ Z.TOz).trans kO'
    · exact s1.1.at_ fun o e => (sb.2 _ (Ne.symm Z.zi1)).trans e
    · exact s2.1.at_ fun o e => (sb.2 _ (Ne.symm Z.zi2)).trans e
    · have hlt : c < s.heap.objs.size := by
        have hcm : c = z ∨ c = U ∨ c = O ∨ c = j1 ∨ c = j2 := by simpa using hcm
        rcases hcm with q | q | q | q | q
        · rw [q]; exact hzl
        · rw [q]; exact Heap.lt_size kU
        · rw [q]; exact Heap.lt_size kO
        · rw [q]; obtain ⟨_, e, _⟩ := t1.ex; exact Heap.lt_size e
        · rw [q]; obtain ⟨_, e, _⟩ := t2.ex; exact Heap.lt_size e
      rw [upd_ne (Nat.ne_of_lt hlt)]
      exact (hf c hcm).1
  done := by
    intro X hP hw hK hc i pins s σ H E I hf ⟨kz, kU, ⟨x0, y0, kO⟩, t1, t2⟩ ⟨xs, ys, qa, qb, i1, i2, hend⟩
    subst hP hw hK
    obtain ⟨ia, va, pa, oa, ea⟩ := seqX I qa
    obtain ⟨ib, vb, pb, ob, eb⟩ := seqX I qb
    have hh : X.A.handled = none := I.ok.hd hc
    have l1 := va.length
    have l2 := vb.length
    have ne5 : ∀ {c : Addr}, c ∉ [z, U, O, j1, j2] → c ≠ z ∧ c ≠ U ∧ c ≠ O ∧ c ≠ j1 ∧ c ≠ j2 := fun m => by simpa using m
    refine wpAny_pyNext_zipD2_end Z ((drwX ta j1 a n1 ia.toArray).dr X.A.in1 hh) ((drwX tb j2 b n2 ib.toArray).dr X.A.in1 hh) kz kU kO ⟨t1, pa⟩ ⟨t2, pb⟩ (by rw [List.size_toArray]; omega) (by rw [List.size_toArray]; omega) (by rw [List.size_toArray, List.size_toArray]; omega) fun h' tk k => ⟨rfl, ?_⟩
    exact I.turnedL (t' := tk) (ch := [z, U, O, j1, j2]) (fun c o hb e => k c o (ne5 hb).1 (ne5 hb).2.2.1 (ne5 hb).2.2.2.1 (ne5 hb).2.2.2.2 e) hf
  self := fun A i s Q E st h => wpAny_pyIter_zip st.1 h
def iZipX (K : PySem.W.Frag) (ta tb : Bool) (t : TA) : TI := fun σ H R => t σ H fun vs H1 => ∃ a b xs ys, vs = [.ref a, .ref b] ∧ SqX K H1 ta a xs ∧ SqX K H1 tb b ys ∧ R (ItzX K ta tb a b) H1
theorem begX (t : Bool) (l : Addr) (xs : Array Value) : ∃ o, Begins (.ref l) o (fun h => IsX h t l xs) ∧ ∀ h it, h.get? it = some o → IterX h t it l 0 := by
  cases t with
  | true => exact ⟨_, begins_tuple l xs, fun h it e => ⟨_, e, rfl, rfl⟩⟩
  | false => exact ⟨_, begins_list l xs, fun h it e => ⟨_, e, rfl, rfl⟩⟩
theorem pi_zipX {X : Cx} {e e2 : Expr} {t : TA} {p pos tpos : Pos} {elts : List Expr} {kk : Nat} {ta tb : Bool} (hg : Gl X "zip") (hm : X.mg "zip" = none) (ha : PA X [e, e2] t)
    (hs : starEach [e, e2] X.env = (false, eval e X.env) :: starEach [e2] X.env) (hpl : (backTo pos (starEach [e2] X.env)).any (·.1) = false) :
    PI X (.Tuple elts kk tpos) (.Call (.Name "zip" p) [e, e2] [] pos) (iZipX X.K ta tb t) := by
  refine ⟨fun pins s σ H R I h => ?_⟩
  refine PyProof.Rows.Call_ (ld_blt I hg hm PyProof.Rows.boot_zip (PyProof.Rows.callWith_type1 (thn (ha.run pos pins s σ H _ I h) fun us s1 ⟨vs, H1, I1, r1, q1⟩ => ?_) hs hpl))
  obtain ⟨a, b, xs, ys, ex, qa, qb, q⟩ := q1
  subst ex
  cases r1 with
  | cons r rr => cases rr with
    | cons r' rr =>
      cases rr; cases r; cases r'
      obtain ⟨ia, va, pa, oa, ea⟩ := seqX I1 qa
      obtain ⟨ib, vb, pb, ob, eb⟩ := seqX I1 qb
      obtain ⟨o1, B1, w1⟩ := begX ta a ia.toArray
      obtain ⟨o2, B2, w2⟩ := begX tb b ib.toArray
      have la := Heap.lt_size ea
      have lb := Heap.lt_size eb
      refine zip_begins2 B1 B2 pa pb fun h' kz kU kO t1 t2 sz k => wpAny_pyIter_zip kz ?_
      have I2 : Inv X pins σ H1 { s1 with heap := h' } := I1.kept (t' := s1.toks) k
      refine ⟨s1.heap.objs.size + 4, [s1.heap.objs.size + 4, s1.heap.objs.size + 2, s1.heap.objs.size + 3, s1.heap.objs.size, s1.heap.objs.size + 1], _, _, H1, rfl, I2, turn_zipX (ta := ta) (tb := tb) (sep_of _ a b la lb) (Nat.ne_of_lt la) (Nat.ne_of_lt (Nat.lt_succ_of_lt lb)), ⟨kz, kU, ⟨_, _, kO⟩, w1 _ _ t1, w2 _ _ t2⟩, fun c hcm => ?_, q⟩
      have hle : s1.heap.objs.size ≤ c := by
        have hcm : c = s1.heap.objs.size + 4 ∨ c = s1.heap.objs.size + 2 ∨ c = s1.heap.objs.size + 3 ∨ c = s1.heap.objs.size ∨ c = s1.heap.objs.size + 1 := by simpa using hcm
        rcases hcm with z | z | z | z | z <;> rw [z]
        · exact Nat.le_add_right _ _
        · exact Nat.le_add_right _ _
        · exact Nat.le_add_right _ _
        · exact Nat.le_refl _
        · exact Nat.le_add_right _ _
      exact I1.fpOk hle (I1.hok.fresh hle)
theorem SqX.same {K : PySem.W.Frag} {H H' : Hp} {t : Bool} {a : Addr} {xs : List V} (e : Same H H') (h : SqX K H t a xs) : SqX K H' t a xs := by
  cases t with
  | true => exact Same.seqT e h
  | false => exact e.seq h
theorem itzX_ok {α β : Type} {f : α → D} {g : β → D} {xs : List α} {ys : List β} {K : PySem.W.Frag} {P F B : Hp} {l1 l2 : Addr} {vs us : List V} {k : K2} {ta tb : Bool} (h1 : SqX K P ta l1 vs) (h2 : SqX K P tb l2 us) (r1 : repsK K F B P k.k (xs.map f) vs) (r2 : repsK K F B P k.k (ys.map g) us) :
    ItOk K P F B (ItzX K ta tb l1 l2) k ((List.zip xs ys).map fun x => .tup [f x.1, g x.2]) := by
  have at_ : ∀ (i : Nat) d, ((List.zip xs ys).map fun x => D.tup [f x.1, g x.2])[i]? = some d → ∃ x y, (xs.map f)[i]? = some (f x) ∧ (ys.map g)[i]? = some (g y) ∧ d = .tup [f x, g y] := fun i d e => by
    rw [List.getElem?_map] at e
    cases q : (List.zip xs ys)[i]? with
    | none => rw [q] at e; cases e
    | some x =>
      rw [q] at e; cases e
      rw [List.getElem?_zip_eq_some] at q
      exact ⟨x.1, x.2, by rw [List.getElem?_map, q.1]; rfl, by rw [List.getElem?_map, q.2]; rfl, rfl⟩
  refine ⟨fun i d H s e => ?_, fun i d H x H' s e y => .inr ?_, fun H s => ⟨vs, us, h1.same s, h2.same s, ?_⟩⟩
  · obtain ⟨x, y, e1, e2, _⟩ := at_ i d e
    obtain ⟨u, c1, _⟩ := repsK.get (by cases k <;> simp) r1 e1
    obtain ⟨w, c2, _⟩ := repsK.get (by cases k <;> simp) r2 e2
    exact ⟨vs, us, u, w, h1.same s, h2.same s, c1, c2⟩
  · obtain ⟨x0, y0, e1, e2, e3⟩ := at_ i d e
    obtain ⟨u, c1, q1⟩ := repsK.get (by cases k <;> simp) r1 e1
    obtain ⟨w, c2, q2⟩ := repsK.get (by cases k <;> simp) r2 e2
    obtain ⟨T, a1, a2, z1, z2, z3, z4, z5⟩ := y
    have m1 := z4 vs (h1.same s)
    have m2 := z5 us (h2.same s)
    rw [c1] at m1; cases m1
    rw [c2] at m2; cases m2
    refine ⟨T, [u, w], [f x0, g y0], z2, z3, z1, e3, ?_⟩
    cases k with
    | c => exact .cons q1 (.cons q2 .nil)
    | b => exact .cons q1 (.cons q2 .nil)
  · rw [r1.len, r2.len, List.length_map, List.length_map, List.length_map, List.length_zip]; omega
def seqD : Bool → List D → D
  | true, ds => .tup ds
  | false, ds => .lst ds
theorem rep_seqX {K : PySem.W.Frag} {B : Hp} {t : Bool} {ds : List D} {v : V} (r : Rep K B (seqD t ds) v) : ∃ a vs, v = .ref a ∧ SqX K B t a vs ∧ Reps K B ds vs := by
  cases t with
  | true => cases (show Rep K B (.tup ds) v from r) with
    | tup s r2 => exact ⟨_, _, rfl, s, r2⟩
  | false => cases (show Rep K B (.lst ds) v from r) with
    | lst s r2 => exact ⟨_, _, rfl, SqL.of s, r2⟩
section
variable {X : Cx} {env : DEnv} {a b : Expr} {pos pn tpos : Pos} {elts : List Expr} {kk : Nat}
theorem zipX_ {α β : Type} {f : α → D} {g : β → D} {xs : List α} {ys : List β} (ta tb : Bool) (k : K2) (hg : Gl X "zip") (hm : X.mg "zip" = none) (ha : Ev X env a (seqD ta (xs.map f)) k.k) (hb : Ev X env b (seqD tb (ys.map g)) k.k) (hs : starEach [a, b] X.env = (false, eval a X.env) :: starEach [b] X.env) (hs2 : starEach [b] X.env = (false, eval b X.env) :: starEach [] X.env) :
    EI X env (.Tuple elts kk tpos) (.Call (.Name "zip" pn) [a, b] [] pos) ((List.zip xs ys).map fun x => .tup [f x.1, g x.2]) k true :=
  ⟨(pi_zipX (ta := ta) (tb := tb) hg hm (pa_cons ha.pe (pa_cons hb.pe pa_nil hs2) hs) hs (by rw [hs2]; rfl)).mono fun σ H R ⟨F, B, E, q⟩ => ⟨F, B, E, fun v H1 F1 B1 g r => ⟨F1, B1, E.grow g, fun u H2 F2 B2 g2 r2 => by
    cases k with
    | c =>
      obtain ⟨l1, vs, rfl, s1, t1⟩ := rep_seqX (show Rep X.K F1 _ v from r)
      obtain ⟨l2, us, rfl, s2, t2⟩ := rep_seqX (show Rep X.K F2 _ u from r2)
      have s1' := s1.same g2.f
      have t1' := Reps.mono g2.f t1
      exact ⟨_, _, _, _, rfl, s1'.same g2.hs.fh, s2.same g2.hs.fh, q _ H2 F2 B2 (g.trans g2) (itzX_ok (k := .c) (s1'.same g2.hs.fb) (s2.same g2.hs.fb) t1' t2)⟩
    | b =>
      obtain ⟨l1, vs, rfl, s1, t1⟩ := rep_seqX (show Rep X.K B1 _ v from r)
      obtain ⟨l2, us, rfl, s2, t2⟩ := rep_seqX (show Rep X.K B2 _ u from r2)
      have s1' := s1.same g2.b
      have t1' := Reps.mono g2.b t1
      exact ⟨_, _, _, _, rfl, s1'.same g2.hs.bh, s2.same g2.hs.bh, q _ H2 F2 B2 (g.trans g2) (itzX_ok (k := .b) s1' s2 t1' t2)⟩⟩⟩⟩
end
end DL
namespace DL
open PySem PySem.Spec L2
open PyProof.Rows hiding St
section
variable {K : PySem.W.Frag} {F B H H0 : Hp} {ds : List D} {v : V} {k : Kd}
theorem Rep.xdown (r : Rep K B (.tpx ds) v) : Rep K B (.tup ds) v := by
  cases r with
  | tpx h _ q => exact .tup (.inl (.inr ⟨_, h⟩)) q
theorem Rep.kdown (r : Rep K B (.tpk ds) v) : Rep K B (.tup ds) v := by
  cases r with
  | tpk h q => exact .tup (.inl (.inl h)) q
theorem RepK.xdown (r : RepK K F B H0 H k (.tpx ds) v) : RepK K F B H0 H k (.tup ds) v := by
  cases k with
  | own => obtain ⟨_, _, _, _, z⟩ := r; exact z.elim
  | cln => exact Rep.xdown (B := F) r
  | brw => exact Rep.xdown (B := B) r
  | shl => exact Rep.xdown (B := F) (show Rep K F (.tpx ds) v from r)
  | drt => exact Rep.xdown (B := H) r
theorem RepK.kdown (r : RepK K F B H0 H k (.tpk ds) v) : RepK K F B H0 H k (.tup ds) v := by
  cases k with
  | own => obtain ⟨_, _, _, _, z⟩ := r; exact z.elim
  | cln => exact Rep.kdown (B := F) r
  | brw => exact Rep.kdown (B := B) r
  | shl => exact Rep.kdown (B := F) (show Rep K F (.tpk ds) v from r)
  | drt => exact Rep.kdown (B := H) r
end
section
variable {X : Cx} {env : DEnv} {e a b : Expr} {es : List Expr} {ds : List D} {k k1 k2 : Kd} {pos pn apos cpos : Pos}
theorem Ev.xd (h : Ev X env e (.tpx ds) k) : Ev X env e (.tup ds) k := ⟨h.pe.mono fun σ H Q ⟨F, B, E, q⟩ => ⟨F, B, E, fun v H' F' B' g r => q v H' F' B' g r.xdown⟩⟩
theorem Ev.kd (h : Ev X env e (.tpk ds) k) : Ev X env e (.tup ds) k := ⟨h.pe.mono fun σ H Q ⟨F, B, E, q⟩ => ⟨F, B, E, fun v H' F' B' g r => q v H' F' B' g r.kdown⟩⟩
theorem new_tpk {K : PySem.W.Frag} {F B H : Hp} {kk : Kd} {ds : List D} {vs : List V} {Q : VK} (hk : kk = .cln ∨ kk = .brw ∨ kk = .drt) (s : Hs F B H) (r : repsK K F B H kk ds vs) (q : Fin K F B H kk (.tpk ds) Q) :
    ∀ p, H p = none → Q (.ref p) (upd H p (.tup vs)) := fun p n => by
  have g := grow_cln (o := .tup vs) s n
  rcases hk with h | h | h <;> subst h
  · exact q (.ref p) _ _ _ g (Rep.tpk upd_same (Reps.mono g.f r))
  · exact q (.ref p) _ _ _ g (Rep.tpk upd_same (Reps.mono g.b r))
  · exact q (.ref p) _ _ _ g (Rep.tpk upd_same (Reps.mono g.h r))
theorem new_tpx {K : PySem.W.Frag} {F B H : Hp} {kk : Kd} {ds : List D} {vs : List V} {Q : VK} {o : Obj} (hk : kk = .cln ∨ kk = .brw ∨ kk = .drt) (s : Hs F B H) (r : repsK K F B H kk ds vs) (ho : o.dict = none) (q : Fin K F B H kk (.tpx ds) Q) :
    ∀ p, H p = none → Q (.ref p) (upd H p (.frz o (.tup vs))) := fun p n => by
  have g := grow_cln (o := .frz o (.tup vs)) s n
  rcases hk with h | h | h <;> subst h
  · exact q (.ref p) _ _ _ g (Rep.tpx upd_same ho (Reps.mono g.f r))
  · exact q (.ref p) _ _ _ g (Rep.tpx upd_same ho (Reps.mono g.b r))
  · exact q (.ref p) _ _ _ g (Rep.tpx upd_same ho (Reps.mono g.h r))
theorem ev_tupK {x1} (h : EA X env es ds k) (hk : k = .cln ∨ k = .brw ∨ k = .drt) (hz : ds.length ≤ sizeLine) : Ev X env (.Tuple es x1 pos) (.tpk ds) k :=
  ⟨(pe_tup h.pa).mono fun σ H Q ⟨F, B, E, q⟩ => ⟨F, B, E, fun vs H1 F1 B1 g r => ⟨by rw [r.len]; exact hz, new_tpk hk g.hs r fun w H2 F2 B2 g2 r2 => q w H2 F2 B2 (g.trans g2) (RepK.back g.h r2)⟩⟩⟩
theorem tupleK_ (bn : Bn X "tuple" (.type "tuple")) (ha : Ev X env a (.lst ds) k1) (he : starEach [a] X.env = [(false, eval a X.env)]) : Ev X env (.Call (.Name "tuple" pn) [a] [] pos) (.tpk ds) k1.kid :=
  ev_callT1 call_tuple_of bn ha (fun F B H v Q s r1 q => by
    obtain ⟨a, vs, e1, e2, r⟩ := r1.lst s
    exact ⟨a, vs, by rw [e1], .inl ⟨SqL.of e2, new_tpk (kid_cases _) s r q⟩⟩) he
theorem call_tupleX : CallR X (.type "tuple") (fun xs H Q => ∃ p ys, xs = [.ref p] ∧ SqL X.K H p ys ∧ ∀ l o, H l = none → o.dict = none → Q (.ref l) (upd H l (.frz o (.tup ys)))) := by
  intro pins s σ H xs us Q I r h
  obtain ⟨p, ys, rfl, hq, q⟩ := h
  obtain ⟨u, rfl, rx⟩ := vals1 r
  cases rx
  obtain ⟨its, r', pl, hz⟩ := I.list hq
  have hlen := r'.length
  refine call_tuple_list pl.isList (fun h' kp => ?_) (by simp only [List.size_toArray] <;> omega)
  have I1 : Inv X pins σ H { s with heap := h' } := I.kept (t' := s.toks) kp
  have I2 : Inv X pins σ (upd H h'.objs.size (.frz { cls := .type "tuple", data := .seq its.toArray } (.tup ys))) { s with heap := h'.push { cls := .type "tuple", data := .seq its.toArray } } :=
    I1.laid (t' := s.toks) (fun b o e => Heap.get?_push_of_some _ e) (Nat.le_refl _) ⟨Heap.get?_push_size _ rfl, (show ObjOk X.prog X.w _ _ _ (.tup ys) from ⟨hz, its, r', IsTup.new _ _⟩)⟩
  exact ⟨.ref h'.objs.size, _, I2, rfl, q _ _ (I1.hok.fresh (Nat.le_refl _)) rfl⟩
theorem tupleX_ (bn : Bn X "tuple" (.type "tuple")) (ha : Ev X env a (.lst ds) k1) (he : starEach [a] X.env = [(false, eval a X.env)]) : Ev X env (.Call (.Name "tuple" pn) [a] [] pos) (.tpx ds) k1.kid :=
  ev_callT1 call_tupleX bn ha (fun F B H v Q s r1 q => by
    obtain ⟨a, vs, e1, e2, r⟩ := r1.lst s
    exact ⟨a, vs, by rw [e1], SqL.of e2, fun l o hl ho => new_tpx (kid_cases _) s r ho q l hl⟩) he
theorem RepS.tpx {K : PySem.W.Frag} {F B H : Hp} {v : V} (hs : Hs F B H) (r : RepS K F B H k (.tpx ds) v) : ∃ a o vs, v = .ref a ∧ H a = some (.frz o (.tup vs)) ∧ o.dict = none ∧ Reps K H ds vs := by
  cases RepK.rep hs r with
  | tpx h d q => exact ⟨_, _, _, rfl, h, d, q⟩
def tTX (ta : TE) (t : TA) : TE := fun σ H Q => ta σ H fun x H1 => ∃ (a : Addr) (o : Obj) (ys : List Str), x = .ref a ∧ H1 a = some (.frz o (.tup (ys.map V.str))) ∧ o.dict = none ∧ t σ H1 fun vs H2 => ∃ z, vs = [.str z] ∧ H2 a = some (.frz o (.tup (ys.map V.str))) ∧ z ∈ ys ∧ Q (.int (ys.idxOf z : Nat)) H2
theorem strsAre_of : ∀ {ys : List Str} {us : List Value}, Vals (ys.map V.str) us → StrsAre us ys
  | [], us, r => by cases r; exact .nil
  | y :: ys, us, r => by
    cases r with
    | cons h t =>
      obtain ⟨k, rfl⟩ := (show ∃ t, _ = Value.str y t from h)
      exact .cons y k (strsAre_of t)
theorem pe_tpIndex {ta : TE} {t : TA} (ho : PE X a ta) (hb : PA X [b] t) (mx : Mx X a "index" [b] apos cpos) (hs : starEach [b] X.env = [(false, eval b X.env)]) : PE X (.Call (.Attribute a "index" apos) [b] [] cpos) (tTX ta t) := by
  refine ⟨fun pins s σ H Q I h => ?_⟩
  refine wpAny_Call_method_late mx.base mx.few mx.line rfl (thn (ho.run pins s σ H _ I h) fun v s1 ⟨x, H1, I1, r1, p, o, ys, ex, hp, hd, q1⟩ => ?_)
  subst ex
  obtain rfl : v = Value.ref p := r1
  obtain ⟨e1, _, its, rv, c1, c2, c3, _⟩ := I1.hok p _ hp
  refine ⟨"tuple", "tuple.index", PySem.F.plainAttrs_tuple, PySem.F.slot_tuple_index, PySem.F.type_tuple_index, ⟨c1, c2, c3⟩, fun q e => by cases e; exact ⟨o, e1, hd⟩, ?_⟩
  have hA := hb.run cpos pins s1 σ H1 _ I1 q1
  rw [hs] at hA ⊢
  refine Calls.callWith_builtin rfl (Calls.evalArgs_plain ?_)
  refine thn hA fun us s2 ⟨vs, H2, I2, r2, z, ev, hp2, hz, q2⟩ => ?_
  subst ev
  obtain ⟨u, rfl, ru⟩ := vals1 r2
  obtain ⟨t, rfl⟩ := (show ∃ t, u = Value.str z t from ru)
  obtain ⟨_, _, its2, rv2, pl⟩ := I2.hok p _ hp2
  exact SeqAt.tuple_index_strs (vs := its2) pl (strsAre_of rv2) hz ⟨.int (ys.idxOf z : Nat), H2, I2.tok _, ⟨_, rfl⟩, q2⟩
theorem indexX_ {ns : List Str} {i : Str} {v : Int} (ha : Ev X env a (.tpx (ns.map D.str)) k1) (hb : Ev X env b (.str i) k2) (h : fndG ns i = some v) (mx : Mx X a "index" [b] apos cpos) (hs : starEach [b] X.env = [(false, eval b X.env)] := by rfl) :
    Ev X env (.Call (.Attribute a "index" apos) [b] [] cpos) (.int v) .cln :=
  ⟨(pe_tpIndex ha.st.pe (pa_cons hb.st.pe pa_nil hs) mx hs).mono fun σ H Q ⟨F, B, E, q⟩ => ⟨F, B, E, fun w H1 F1 B1 g1 r1 => by
    obtain ⟨p, o, vs, rfl, e1, hd, r⟩ := RepS.tpx g1.hs (RepK.any0 r1 : RepS X.K F1 B1 H1 k1 _ _)
    have ev := reps_strs r
    subst ev
    refine ⟨p, o, ns, rfl, e1, hd, F1, B1, E.grow g1, fun u H2 F2 B2 g2 r2 => ?_⟩
    have ei := RepS.str g2.hs (RepK.any0 r2)
    subst ei
    unfold fndG at h
    obtain ⟨n, h1, h2⟩ := Option.map_eq_some_iff.mp h
    have hm : i ∈ ns := by
      rw [List.findIdx?_eq_some_iff_getElem] at h1
      obtain ⟨hl, hp, _⟩ := h1
      rw [← of_decide_eq_true hp]; exact List.getElem_mem hl
    have hn : ns.idxOf i = n := by
      rw [List.findIdx?_eq_some_iff_findIdx_eq] at h1
      have : ns.idxOf i = ns.findIdx (fun y => decide (y = i)) := by
        unfold List.idxOf
        congr 1
      rw [this]; exact h1.2
    refine ⟨i, rfl, g2.h _ _ e1, hm, ?_⟩
    rw [hn, h2]
    exact q _ _ _ _ (g1.trans g2) (.int _)⟩⟩
end
end DL
namespace DL
open PySem PySem.Spec PyProof.Rows L2
open C8 (InsC call_isC)
inductive Fx where
    | ins (x : Str)
    | kit (x : Str) (T : String) (b : Bool)
    | kitc (x y : Str) (b : Bool)
    | fnd (x f : Str) (v : Option Value)
def Fx.ok (K : PySem.W.Frag) : Fx → Bool
  | .ins x => decide (PySem.W.findIn K (.ref (He.ga K x)) "__class__" = some (some (.builtin "object.__class__"))) && (decide (PySem.W.specialIn K (.builtin "object.__class__") "__get__" = some (some (.builtin "getset_descriptor.__get__"))) &&
      (decide (PySem.W.takesIn K (.builtin "object.__class__") = some true) && decide (PySem.W.mroIn K (He.ga K x) (.type "object") = some true)))
  | .kit x T b => decide (PySem.W.kitOne K (.type T) (.ref (He.ga K x)) = some b)
  | .kitc x y b => decide (PySem.W.kitOne K (.ref (He.ga K x)) (.ref (He.ga K y)) = some b)
  | .fnd x f v => decide (PySem.W.findIn K (.ref (He.ga K x)) f = some v)
abbrev AlE : Type := He.AlD × Bool
def SaysE (fa : List He.Fa) (fn : List He.DefD) (fx : List Fx) (K : PySem.W.Frag) : Prop := He.SaysD fa fn K ∧ (fx.all fun f => f.ok K) = true
def obsE (n : Nat) (fa : List He.Fa) (fn : List He.DefD) (fx : List Fx) (g : Addr → Option Obj) : AlE := (He.obsD fa fn (He.frG g (He.asD g n)), fx.all fun f => f.ok (He.frG g (He.asD g n)))
def hookE (n : Nat) (fa : List He.Fa) (fn : List He.DefD) (fx : List Fx) : PySem.W.Hook where
  α := AlE
  obs := fun s => obsE n fa fn fx s.heap.get?
  val := fun _ => (He.valD fn, true)
  says := fun _ h => ∃ K : PySem.W.Frag, K.In h ∧ SaysE fa fn fx K
  of := fun _ _ e => ⟨_, He.frG_in, congrArg (fun z : AlE => z.1) e, congrArg (fun z : AlE => z.2) e⟩
  keeps := fun _ _ _ ⟨K, hK, c⟩ k => ⟨K, PySem.W.Frag.In.keeps hK k, c⟩
theorem obsE_eq {n : Nat} {fa : List He.Fa} {fn : List He.DefD} {fx : List Fx} {g : Addr → Option Obj} {s : Shared} (h : ∀ a, g a = s.heap.get? a) : obsE n fa fn fx g = (hookE n fa fn fx).obs s := by
  have e : g = s.heap.get? := funext h
  rw [e] <;> rfl
section
variable {fa : List He.Fa} {fn : List He.DefD} {fx : List Fx} {K : PySem.W.Frag}
theorem SaysE.fact (c : SaysE fa fn fx K) (i : Nat) {f : Fx} (h : fx[i]? = some f := by rfl) : f.ok K = true := List.all_eq_true.mp c.2 f (List.mem_of_getElem? h)
theorem ins_ok {x : Str} (h : (Fx.ins x).ok K = true) (c : Cls K (He.ga K x)) : InsC K (He.ga K x) := by
  unfold Fx.ok at h
  simp only [Bool.and_eq_true, decide_eq_true_eq] at h
  exact ⟨c, h.1, h.2.1, h.2.2.1, h.2.2.2, by unfold PySem.W.kitOne; rw [if_pos (beq_self_eq_true _)]⟩
theorem kit_ok {x : Str} {T : String} {b : Bool} (h : (Fx.kit x T b).ok K = true) : PySem.W.kitOne K (.type T) (.ref (He.ga K x)) = some b := of_decide_eq_true h
theorem kitc_ok {x y : Str} {b : Bool} (h : (Fx.kitc x y b).ok K = true) : PySem.W.kitOne K (.ref (He.ga K x)) (.ref (He.ga K y)) = some b := of_decide_eq_true h
end
end DL
namespace Hd
open PySem PySem.Spec PyProof.Rows L2
def top (i : Nat) : Stmt := PySem.Challenge.pw_turnkeepers_k17_whole_dearest_rents.main.body.getD i (.Pass ⟨0, 0, 0, 0⟩)
abbrev s_is_name : Stmt := top 9
def d_is_name : He.DefD := ⟨("is_name", none), "is_name", "is_name", defArgs s_is_name, defBody s_is_name, defScope s_is_name, [], []⟩
abbrev s_check_bidders : Stmt := top 16
def d_check_bidders : He.DefD := ⟨("check_bidders", none), "check_bidders", "check_bidders", defArgs s_check_bidders, defBody s_check_bidders, defScope s_check_bidders, [], []⟩
abbrev s_check_hours : Stmt := top 17
def d_check_hours : He.DefD := ⟨("check_hours", none), "check_hours", "check_hours", defArgs s_check_hours, defBody s_check_hours, defScope s_check_hours, [], []⟩
abbrev s_check_floor : Stmt := top 18
def d_check_floor : He.DefD := ⟨("check_floor", none), "check_floor", "check_floor", defArgs s_check_floor, defBody s_check_floor, defScope s_check_floor, [], []⟩
abbrev s_names_of : Stmt := top 19
def d_names_of : He.DefD := ⟨("names_of", none), "names_of", "names_of", defArgs s_names_of, defBody s_names_of, defScope s_names_of, [], []⟩
abbrev s_strengths_of : Stmt := top 20
def d_strengths_of : He.DefD := ⟨("strengths_of", none), "strengths_of", "strengths_of", defArgs s_strengths_of, defBody s_strengths_of, defScope s_strengths_of, [], []⟩
abbrev s_ranking : Stmt := top 21
def d_ranking : He.DefD := ⟨("ranking", none), "ranking", "ranking", defArgs s_ranking, defBody s_ranking, defScope s_ranking, [], []⟩
abbrev s_ladder : Stmt := top 22
def d_ladder : He.DefD := ⟨("ladder", none), "ladder", "ladder", defArgs s_ladder, defBody s_ladder, defScope s_ladder, [], [("hours", .int (1)), ("floor", .int (0))]⟩
abbrev s_Allotment_Xinit : Stmt := inClass (top 26) 0
def d_Allotment_Xinit : He.DefD := ⟨("Allotment", some "__init__"), "__init__", "Allotment.__init__", defArgs s_Allotment_Xinit, defBody s_Allotment_Xinit, defScope s_Allotment_Xinit, [], []⟩
abbrev s_check_rates : Stmt := top 27
def d_check_rates : He.DefD := ⟨("check_rates", none), "check_rates", "check_rates", defArgs s_check_rates, defBody s_check_rates, defScope s_check_rates, [], []⟩
abbrev s_strengths_behind : Stmt := top 28
def d_strengths_behind : He.DefD := ⟨("strengths_behind", none), "strengths_behind", "strengths_behind", defArgs s_strengths_behind, defBody s_strengths_behind, defScope s_strengths_behind, [], []⟩
abbrev s_least_rents : Stmt := top 29
def d_least_rents : He.DefD := ⟨("least_rents", none), "least_rents", "least_rents", defArgs s_least_rents, defBody s_least_rents, defScope s_least_rents, [], []⟩
abbrev s_dearest : Stmt := top 30
def d_dearest : He.DefD := ⟨("dearest", none), "dearest", "dearest", defArgs s_dearest, defBody s_dearest, defScope s_dearest, [], [("floor", .int (0))]⟩
abbrev s_law_cell : Stmt := top 32
def d_law_cell : He.DefD := ⟨("_law_cell", none), "_law_cell", "_law_cell", defArgs s_law_cell, defBody s_law_cell, defScope s_law_cell, [], []⟩
abbrev s_law_mixed : Stmt := top 33
def d_law_mixed : He.DefD := ⟨("_law_mixed", none), "_law_mixed", "_law_mixed", defArgs s_law_mixed, defBody s_law_mixed, defScope s_law_mixed, [], []⟩
abbrev s_law_pool : Stmt := top 34
def d_law_pool : He.DefD := ⟨("_law_pool", none), "_law_pool", "_law_pool", defArgs s_law_pool, defBody s_law_pool, defScope s_law_pool, [], []⟩
abbrev s_law_part : Stmt := top 35
def d_law_part : He.DefD := ⟨("_law_part", none), "_law_part", "_law_part", defArgs s_law_part, defBody s_law_part, defScope s_law_part, [], []⟩
abbrev s_law_names : Stmt := top 36
def d_law_names : He.DefD := ⟨("_law_names", none), "_law_names", "_law_names", defArgs s_law_names, defBody s_law_names, defScope s_law_names, [], []⟩
abbrev s_law_far : Stmt := top 37
def d_law_far : He.DefD := ⟨("_law_far", none), "_law_far", "_law_far", defArgs s_law_far, defBody s_law_far, defScope s_law_far, [], []⟩
abbrev s_law_chosen : Stmt := top 38
def d_law_chosen : He.DefD := ⟨("_law_chosen", none), "_law_chosen", "_law_chosen", defArgs s_law_chosen, defBody s_law_chosen, defScope s_law_chosen, [], []⟩
abbrev s_law_bidders : Stmt := top 39
def d_law_bidders : He.DefD := ⟨("_law_bidders", none), "_law_bidders", "_law_bidders", defArgs s_law_bidders, defBody s_law_bidders, defScope s_law_bidders, [], []⟩
abbrev s_law_sill : Stmt := top 40
def d_law_sill : He.DefD := ⟨("_law_sill", none), "_law_sill", "_law_sill", defArgs s_law_sill, defBody s_law_sill, defScope s_law_sill, [], []⟩
abbrev s_law_scale : Stmt := top 41
def d_law_scale : He.DefD := ⟨("_law_scale", none), "_law_scale", "_law_scale", defArgs s_law_scale, defBody s_law_scale, defScope s_law_scale, [], []⟩
abbrev s_law_ladder : Stmt := top 42
def d_law_ladder : He.DefD := ⟨("_law_ladder", none), "_law_ladder", "_law_ladder", defArgs s_law_ladder, defBody s_law_ladder, defScope s_law_ladder, [], []⟩
abbrev s_law_ways : Stmt := top 43
def d_law_ways : He.DefD := ⟨("_law_ways", none), "_law_ways", "_law_ways", defArgs s_law_ways, defBody s_law_ways, defScope s_law_ways, [], []⟩
abbrev s_law_integer : Stmt := top 44
def d_law_integer : He.DefD := ⟨("_law_integer", none), "_law_integer", "_law_integer", defArgs s_law_integer, defBody s_law_integer, defScope s_law_integer, [], []⟩
abbrev s_law_same : Stmt := top 45
def d_law_same : He.DefD := ⟨("_law_same", none), "_law_same", "_law_same", defArgs s_law_same, defBody s_law_same, defScope s_law_same, [], []⟩
abbrev s_law_is_dearest : Stmt := top 46
def d_law_is_dearest : He.DefD := ⟨("_law_is_dearest", none), "_law_is_dearest", "_law_is_dearest", defArgs s_law_is_dearest, defBody s_law_is_dearest, defScope s_law_is_dearest, [], []⟩
abbrev s_law_holds : Stmt := top 47
def d_law_holds : He.DefD := ⟨("_law_holds", none), "_law_holds", "_law_holds", defArgs s_law_holds, defBody s_law_holds, defScope s_law_holds, [], []⟩
abbrev s_law_rents_kept : Stmt := top 48
def d_law_rents_kept : He.DefD := ⟨("_law_rents_kept", none), "_law_rents_kept", "_law_rents_kept", defArgs s_law_rents_kept, defBody s_law_rents_kept, defScope s_law_rents_kept, [], []⟩
abbrev s_law_one_half : Stmt := top 49
def d_law_one_half : He.DefD := ⟨("_law_one_half", none), "_law_one_half", "_law_one_half", defArgs s_law_one_half, defBody s_law_one_half, defScope s_law_one_half, [], []⟩
abbrev s_law_other_half : Stmt := top 50
def d_law_other_half : He.DefD := ⟨("_law_other_half", none), "_law_other_half", "_law_other_half", defArgs s_law_other_half, defBody s_law_other_half, defScope s_law_other_half, [], []⟩
abbrev s_law : Stmt := top 51
def d_law : He.DefD := ⟨("law", none), "law", "law", defArgs s_law, defBody s_law, defScope s_law, [], []⟩
def fn : List He.DefD := [d_is_name, d_check_bidders, d_check_hours, d_check_floor, d_names_of, d_strengths_of, d_ranking, d_ladder, d_Allotment_Xinit, d_check_rates, d_strengths_behind, d_least_rents, d_dearest, d_law_cell, d_law_mixed, d_law_pool, d_law_part, d_law_names, d_law_far, d_law_chosen, d_law_bidders, d_law_sill, d_law_scale, d_law_ladder, d_law_ways, d_law_integer, d_law_same, d_law_is_dearest, d_law_holds, d_law_rents_kept, d_law_one_half, d_law_other_half, d_law]
def fa : List He.Fa := [.glo "HouseError", .glo "BadName", .glo "DoubledName", .glo "BadNumber", .glo "BadCount", .str "LETTERS" "abcdefghijklmnopqrstuvwxyz", .int "MOST_LETTERS" (8), .glo "is_name", .int "MOST_BIDDERS" (6), .int "LARGEST_WEIGHT" (1000), .int "LARGEST_BID" (1000000000), .int "MOST_HOURS" (3), .int "LARGEST_FLOOR" (1000000000000), .glo "check_bidders", .glo "check_hours", .glo "check_floor", .glo "names_of", .glo "strengths_of", .glo "ranking", .glo "ladder", .int "MOST_RATES" (3), .int "LARGEST_RATE" (1000), .glo "Allotment", .cls "Allotment", .mkr "Allotment", .noat "Allotment" "takers", .noat "Allotment" "total", .noat "Allotment" "rents", .glo "check_rates", .glo "strengths_behind", .glo "least_rents", .glo "dearest", .glo "_law_cell", .glo "_law_mixed", .glo "_law_pool", .glo "_law_part", .glo "_law_names", .glo "_law_far", .glo "_law_chosen", .glo "_law_bidders", .glo "_law_sill", .glo "_law_scale", .glo "_law_ladder", .glo "_law_ways", .glo "_law_integer", .glo "_law_same", .glo "_law_is_dearest", .glo "_law_holds", .glo "_law_rents_kept", .glo "_law_one_half", .glo "_law_other_half", .glo "law", .free "ValueError", .free "abs", .free "all", .free "bool", .free "enumerate", .free "int", .free "isinstance", .free "len", .free "list", .free "max", .free "min", .free "range", .free "sorted", .free "str", .free "sum", .free "super", .free "tuple", .free "zip"]
def fx : List DL.Fx := [.ins "Allotment", .kit "Allotment" "NoneType" false, .kit "Allotment" "bool" false, .kit "Allotment" "int" false, .kit "Allotment" "str" false, .kit "Allotment" "list" false, .kit "Allotment" "tuple" false, .kit "Allotment" "dict" false]
def nm0 : List Str := [("HouseError" : Str), ("BadName" : Str), ("DoubledName" : Str), ("BadNumber" : Str), ("BadCount" : Str), ("LETTERS" : Str), ("MOST_LETTERS" : Str), ("is_name" : Str), ("MOST_BIDDERS" : Str), ("LARGEST_WEIGHT" : Str), ("LARGEST_BID" : Str), ("MOST_HOURS" : Str), ("LARGEST_FLOOR" : Str), ("check_bidders" : Str), ("check_hours" : Str), ("check_floor" : Str), ("names_of" : Str), ("strengths_of" : Str), ("ranking" : Str), ("ladder" : Str), ("MOST_RATES" : Str), ("LARGEST_RATE" : Str), ("Allotment" : Str), ("check_rates" : Str), ("strengths_behind" : Str), ("least_rents" : Str), ("dearest" : Str), ("_law_cell" : Str), ("_law_mixed" : Str), ("_law_pool" : Str), ("_law_part" : Str), ("_law_names" : Str), ("_law_far" : Str), ("_law_chosen" : Str), ("_law_bidders" : Str), ("_law_sill" : Str), ("_law_scale" : Str), ("_law_ladder" : Str), ("_law_ways" : Str), ("_law_integer" : Str)]
def nm1 : List Str := [("_law_same" : Str), ("_law_is_dearest" : Str), ("_law_holds" : Str), ("_law_rents_kept" : Str), ("_law_one_half" : Str), ("_law_other_half" : Str)]
def names : List Str := nm0 ++ nm1
abbrev R : PySem.W.OpenRow := PySem.W.OpenLaw.row PySem.Challenge.rw_turnkeepers_k17_whole_dearest_rents
abbrev hk : PySem.W.Hook := DL.hookE 5 fa fn fx
def ob (s : PySem.W.SharedT) : DL.AlE := DL.obsE 5 fa fn fx (HandSHeadRun.getT s)
theorem ob_eq (s : PySem.W.SharedT) : ob s = hk.obs s.abs := DL.obsE_eq (HandSHeadRun.getT_eq s)
theorem run (w : World) : HandSHeadRun.RunEq R (PySem.W.view R.prog [51]) hk ob 40000 names w := by
  intro os
  kernel_rfl
end Hd
namespace K17
open PySem PySem.Spec L2 DL Hd
open PyProof.Rows hiding St
def m_law_cell (a_script : (List Int)) (a_k : Int) : Option Int :=
  (if (decide (a_k < (a_script.length : Int))) = true then ((idxG a_script a_k).bind fun x_1 => some x_1) else ((some ((7919 : Int) * (a_k + (1 : Int)))).bind fun far_2 => ((rng1G (a_script.length : Int)).bind fun r_3 => ((List.foldlM (fun (s_4 : (Int)) (z_5 : Int) => ((idxG a_script z_5).bind fun x_7 => ((mulG (z_5 + (3 : Int)) ((if x_7 < 0 then -x_7 else x_7 : Int) % (1000003 : Int))).bind fun n_8 => ((some ((s_4 + (n_8 * (31 : Int))) % (1000003 : Int))).bind fun far_9 => some far_9)))) far_2 r_3).bind fun s_6 => some s_6))))
def R_law_cell : Rel := fun ds d k => ∃ (a_script : (List Int)) (a_k : Int) (r : Int), ds = [(D.scr a_script), (D.int a_k)] ∧ m_law_cell a_script a_k = some r ∧ d = D.int r ∧ k = .cln
abbrev N_law_cell : List Str := ["script", "k", "far", "j"]
theorem fs_law_cell : FnScope N_law_cell ["script", "k"] (defScope s_law_cell) := ⟨rfl, rfl, rfl, by decide +kernel, rfl, by decide +kernel, by decide +kernel⟩
theorem sc_law_cell : Sc N_law_cell (defScope s_law_cell) [0, 1, 2, 3] [2, 3] ["len", "range", "abs"] := ⟨fs_law_cell.nd, by decide +kernel⟩
theorem b_law_cell {X : Cx} {Γ : Gd} (A : At X Γ N_law_cell (defScope s_law_cell) 0) (g_abs : Γ.mg "abs" = none) (g_len : Γ.mg "len" = none) (g_range : Γ.mg "range" = none) {ds : List D} {d : D} {k : Kd} (hR : R_law_cell ds d k) :
    SS X (env0 4 ds) (defBody s_law_cell) { rt := fun d' k' => d' = d ∧ Fits k' k d, nx := fun _ => d = .non ∧ k = .cln } := by
  obtain ⟨a_script, a_k, r, rfl, H, rfl, rfl⟩ := hR
  unfold m_law_cell at H
  refine ss_if (et_cI (nmF A sc_law_cell 1 rfl rfl rfl) (lenC_ (bn A sc_law_cell 0 rfl g_len bt_len) (nmB A sc_law_cell 0 rfl rfl rfl) rfl) .lt) (fun hc => ?_) (fun hc => ?_)
  · replace H := ifT H hc
    obtain ⟨x_1, hx_1, H⟩ := bindO H
    exact ss_ret (ixC_ (nmB A sc_law_cell 0 rfl rfl rfl) (nmF A sc_law_cell 1 rfl rfl rfl) hx_1 (fun _ _ => rfl)) (⟨(congrArg D.int (Option.some.inj H)), .int⟩)
  · replace H := ifF H hc
    refine ss_nil ?_
    show SS X _ _ _
    obtain ⟨far_2, hfar_2, H⟩ := bindO H
    refine set_ A sc_law_cell 2 rfl rfl (Ev.cv (ev_mul ev_int (ev_add (nmF A sc_law_cell 1 rfl rfl rfl) ev_int) (.inl ⟨by decide, by decide⟩)) (congrArg D.int (Option.some.inj hfar_2))) .int rfl ?_
    show SS X [some (.bor (D.scr a_script)), some (.frz (D.int a_k)), some (.frz (D.int far_2)), none] _ _
    obtain ⟨r_3, hr_3, H⟩ := bindO H
    obtain ⟨s_6, hs_6, H⟩ := bindO H
    refine forM_ (en := D.int) (fun s_4 : (Int) => [some (.bor (D.scr a_script)), some (.frz (D.int a_k)), some (.frz (D.int s_4)), none]) A (rng1_ (glo A sc_law_cell 1 rfl) (by rw [A.eM]; exact g_range) (lenC_ (bn A sc_law_cell 0 rfl g_len bt_len) (nmB A sc_law_cell 0 rfl rfl rfl) rfl) hr_3 rfl) (tg A sc_law_cell 3 rfl rfl) (fun _ => rfl) hs_6 ?_ ?_ ?_
    · exact (wkr (wkr (wkr (wkn wk0))))
    · intro s_4 z_5 s' hx H
      refine ⟨_, rfl, ?_⟩
      obtain ⟨x_7, hx_7, H⟩ := bindO H
      obtain ⟨n_8, hn_8, H⟩ := bindO H
      obtain ⟨far_9, hfar_9, H⟩ := bindO H
      refine set_ A sc_law_cell 2 rfl rfl (Ev.cv (ev_mod (ev_add (nmF A sc_law_cell 2 rfl rfl rfl) (ev_mul (mul_ (ev_add (nmF A sc_law_cell 3 rfl rfl rfl) ev_int) (ev_mod (ev_abs (bn A sc_law_cell 2 rfl g_abs bt_abs) (ixC_ (nmB A sc_law_cell 0 rfl rfl rfl) (nmF A sc_law_cell 3 rfl rfl rfl) hx_7 (fun _ _ => rfl)) rfl) ev_int (by decide)) hn_8) ev_int (.inr ⟨by decide, by decide⟩))) ev_int (by decide)) (congrArg D.int (Option.some.inj hfar_9))) .int rfl ?_
      show SS X [some (.bor (D.scr a_script)), some (.frz (D.int a_k)), some (.frz (D.int far_9)), some (.frz (D.int z_5))] _ _
      obtain rfl := Option.some.inj H
      refine ss_nil ?_
      exact (wkr (wkr (wkr (wkn wk0))))
    exact ss_ret (nmF A sc_law_cell 2 rfl rfl rfl) (⟨(congrArg D.int (Option.some.inj H)), .int⟩)
def m_law_mixed (a_cell : Int) (a_k : Int) : Option Int :=
  ((some (((((if a_cell < 0 then -a_cell else a_cell : Int) % (2147483647 : Int)) * (48271 : Int)) + ((a_k + (1 : Int)) * (69621 : Int))) % (2147483647 : Int))).bind fun x_1 => ((mulG x_1 ((x_1 % (46337 : Int)) + (16807 : Int))).bind fun n_2 => ((some ((n_2 + ((a_k + (7 : Int)) * (7919 : Int))) % (2147483629 : Int))).bind fun x_3 => ((mulG x_3 ((x_3 % (32749 : Int)) + (48271 : Int))).bind fun n_4 => ((some (n_4 % (2147483647 : Int))).bind fun x_5 => some (x_5 / (11 : Int)))))))
def R_law_mixed : Rel := fun ds d k => ∃ (a_cell : Int) (a_k : Int) (r : Int), ds = [(D.int a_cell), (D.int a_k)] ∧ m_law_mixed a_cell a_k = some r ∧ d = D.int r ∧ k = .cln
abbrev N_law_mixed : List Str := ["cell", "k", "x"]
theorem fs_law_mixed : FnScope N_law_mixed ["cell", "k"] (defScope s_law_mixed) := ⟨rfl, rfl, rfl, by decide +kernel, rfl, by decide +kernel, by decide +kernel⟩
theorem sc_law_mixed : Sc N_law_mixed (defScope s_law_mixed) [0, 1, 2] [2] ["abs"] := ⟨fs_law_mixed.nd, by decide +kernel⟩
theorem b_law_mixed {X : Cx} {Γ : Gd} (A : At X Γ N_law_mixed (defScope s_law_mixed) 0) (g_abs : Γ.mg "abs" = none) {ds : List D} {d : D} {k : Kd} (hR : R_law_mixed ds d k) :
    SS X (env0 3 ds) (defBody s_law_mixed) { rt := fun d' k' => d' = d ∧ Fits k' k d, nx := fun _ => d = .non ∧ k = .cln } := by
  obtain ⟨a_cell, a_k, r, rfl, H, rfl, rfl⟩ := hR
  unfold m_law_mixed at H
  obtain ⟨x_1, hx_1, H⟩ := bindO H
  refine set_ A sc_law_mixed 2 rfl rfl (Ev.cv (ev_mod (ev_add (ev_mul (ev_mod (ev_abs (bn A sc_law_mixed 0 rfl g_abs bt_abs) (nmF A sc_law_mixed 0 rfl rfl rfl) rfl) ev_int (by decide)) ev_int (.inr ⟨by decide, by decide⟩)) (ev_mul (ev_add (nmF A sc_law_mixed 1 rfl rfl rfl) ev_int) ev_int (.inr ⟨by decide, by decide⟩))) ev_int (by decide)) (congrArg D.int (Option.some.inj hx_1))) .int rfl ?_
  show SS X [some (.frz (D.int a_cell)), some (.frz (D.int a_k)), some (.frz (D.int x_1))] _ _
  obtain ⟨n_2, hn_2, H⟩ := bindO H
  obtain ⟨x_3, hx_3, H⟩ := bindO H
  refine set_ A sc_law_mixed 2 rfl rfl (Ev.cv (ev_mod (ev_add (mul_ (nmF A sc_law_mixed 2 rfl rfl rfl) (ev_add (ev_mod (nmF A sc_law_mixed 2 rfl rfl rfl) ev_int (by decide)) ev_int) hn_2) (ev_mul (ev_add (nmF A sc_law_mixed 1 rfl rfl rfl) ev_int) ev_int (.inr ⟨by decide, by decide⟩))) ev_int (by decide)) (congrArg D.int (Option.some.inj hx_3))) .int rfl ?_
  show SS X [some (.frz (D.int a_cell)), some (.frz (D.int a_k)), some (.frz (D.int x_3))] _ _
  obtain ⟨n_4, hn_4, H⟩ := bindO H
  obtain ⟨x_5, hx_5, H⟩ := bindO H
  refine set_ A sc_law_mixed 2 rfl rfl (Ev.cv (ev_mod (mul_ (nmF A sc_law_mixed 2 rfl rfl rfl) (ev_add (ev_mod (nmF A sc_law_mixed 2 rfl rfl rfl) ev_int (by decide)) ev_int) hn_4) ev_int (by decide)) (congrArg D.int (Option.some.inj hx_5))) .int rfl ?_
  show SS X [some (.frz (D.int a_cell)), some (.frz (D.int a_k)), some (.frz (D.int x_5))] _ _
  exact ss_ret (ev_fdiv (nmF A sc_law_mixed 2 rfl rfl rfl) ev_int ⟨by decide, by decide⟩) (⟨(congrArg D.int (Option.some.inj H)), .int⟩)
def m_law_pool (a_cell : Int) (a_number : Int) : Option (List Int) :=
  ((some (if a_cell < 0 then -a_cell else a_cell : Int)).bind fun rest_1 => ((some (decide ((1000000000000000000 : Int) ≤ rest_1))).bind fun deep_2 => ((some ([] : (List Int))).bind fun pool_3 => ((rng1G a_number).bind fun r_4 => ((List.foldlM (fun (s_5 : (Int × (List Int))) (z_6 : Int) => ((if (deep_2 && (decide ((0 : Int) < s_5.1))) = true then ((appG s_5.2 (s_5.1 % (5040 : Int))).bind fun pool_9 => ((some (s_5.1 / (5040 : Int))).bind fun rest_10 => some (rest_10, pool_9))) else ((m_law_mixed a_cell z_6).bind fun r_11 => ((appG s_5.2 r_11).bind fun pool_12 => some (s_5.1, pool_12))) : Option (Int × (List Int))).bind fun s_8 => some (s_8.1, s_8.2))) (rest_1, pool_3) r_4).bind fun s_7 => some s_7.2)))))
def R_law_pool : Rel := fun ds d k => ∃ (a_cell : Int) (a_number : Int) (r : (List Int)), ds = [(D.int a_cell), (D.int a_number)] ∧ m_law_pool a_cell a_number = some r ∧ d = (fun x : (List Int) => (D.lst (List.map D.int x))) r ∧ k = .own
abbrev N_law_pool : List Str := ["cell", "number", "rest", "deep", "pool", "k"]
theorem fs_law_pool : FnScope N_law_pool ["cell", "number"] (defScope s_law_pool) := ⟨rfl, rfl, rfl, by decide +kernel, rfl, by decide +kernel, by decide +kernel⟩
theorem sc_law_pool : Sc N_law_pool (defScope s_law_pool) [0, 1, 2, 3, 4, 5] [2, 3, 4, 5] ["abs", "range", "_law_mixed"] := ⟨fs_law_pool.nd, by decide +kernel⟩
theorem b_law_pool {X : Cx} {Γ : Gd} (A : At X Γ N_law_pool (defScope s_law_pool) 1) (g_abs : Γ.mg "abs" = none) (g_range : Γ.mg "range" = none) (C_law_mixed : Cal Γ "_law_mixed" R_law_mixed 1 []) {ds : List D} {d : D} {k : Kd} (hR : R_law_pool ds d k) :
    SS X (env0 6 ds) (defBody s_law_pool) { rt := fun d' k' => d' = d ∧ Fits k' k d, nx := fun _ => d = .non ∧ k = .cln } := by
  obtain ⟨a_cell, a_number, r, rfl, H, rfl, rfl⟩ := hR
  unfold m_law_pool at H
  obtain ⟨rest_1, hrest_1, H⟩ := bindO H
  refine set_ A sc_law_pool 2 rfl rfl (Ev.cv (ev_abs (bn A sc_law_pool 0 rfl g_abs bt_abs) (nmF A sc_law_pool 0 rfl rfl rfl) rfl) (congrArg D.int (Option.some.inj hrest_1))) .int rfl ?_
  show SS X [some (.frz (D.int a_cell)), some (.frz (D.int a_number)), some (.frz (D.int rest_1)), none, none, none] _ _
  obtain ⟨deep_2, hdeep_2, H⟩ := bindO H
  refine set_ A sc_law_pool 3 rfl rfl (Ev.cv (ev_cI (nmF A sc_law_pool 2 rfl rfl rfl) (Ev.cv (ev_pow ev_int ev_int ⟨by decide, by decide, by decide⟩) (congrArg D.int (by decide))) .ge) (congrArg D.bl (Option.some.inj hdeep_2))) .bl rfl ?_
  show SS X [some (.frz (D.int a_cell)), some (.frz (D.int a_number)), some (.frz (D.int rest_1)), some (.frz (D.bl deep_2)), none, none] _ _
  obtain ⟨pool_3, hpool_3, H⟩ := bindO H
  refine set_ A sc_law_pool 4 rfl rfl (Ev.cv (ev_list ea_nil (.inl rfl) (le_line rfl)) (congrArg (fun x : (List Int) => (D.lst (List.map D.int x))) (Option.some.inj hpool_3))) .own rfl ?_
  show SS X [some (.frz (D.int a_cell)), some (.frz (D.int a_number)), some (.frz (D.int rest_1)), some (.frz (D.bl deep_2)), some (.own (D.lst (List.map D.int pool_3))), none] _ _
  obtain ⟨r_4, hr_4, H⟩ := bindO H
  obtain ⟨s_7, hs_7, H⟩ := bindO H
  refine forM_ (en := D.int) (fun s_5 : (Int × (List Int)) => [some (.frz (D.int a_cell)), some (.frz (D.int a_number)), some (.frz (D.int s_5.1)), some (.frz (D.bl deep_2)), some (.own (D.lst (List.map D.int s_5.2))), none]) A (rng1_ (glo A sc_law_pool 1 rfl) (by rw [A.eM]; exact g_range) (nmF A sc_law_pool 1 rfl rfl rfl) hr_4 rfl) (tg A sc_law_pool 5 rfl rfl) (fun _ => rfl) hs_7 ?_ ?_ ?_
  · exact (wkr (wkr (wkr (wkr (wkr (wkn wk0))))))
  · intro s_5 z_6 s' hx H
    refine ⟨_, rfl, ?_⟩
    obtain ⟨s_8, hs_8, H⟩ := bindO H
    refine ss_ifM [some (.frz (D.int a_cell)), some (.frz (D.int a_number)), some (.frz (D.int s_8.1)), some (.frz (D.bl deep_2)), some (.own (D.lst (List.map D.int s_8.2))), some (.frz (D.int z_6))] (Ew.et (ew_and (Ev.et (nmF A sc_law_pool 3 rfl rfl rfl) fun _ => rfl) fun _ => (ew_and1 (et_cI (nmF A sc_law_pool 2 rfl rfl rfl) ev_int .gt)))) ?_ (fun hc => ?_) (fun hc => ?_)
    · skip
      obtain rfl := Option.some.inj H
      refine ss_nil ?_
      exact (wkr (wkr (wkr (wkr (wkr (wkn wk0))))))
    · replace H := ifT hs_8 hc
      obtain ⟨pool_9, hpool_9, H⟩ := bindO H
      refine app_ (en := D.int) (x := (s_5.1 % (5040 : Int))) A sc_law_pool 4 rfl rfl rfl (ev_mod (nmF A sc_law_pool 2 rfl rfl rfl) ev_int (by decide)) (by first | rfl | exact heldOf_c) hpool_9 ⟨rfl, rfl, rfl⟩ rfl rfl ?_
      show SS X [some (.frz (D.int a_cell)), some (.frz (D.int a_number)), some (.frz (D.int s_5.1)), some (.frz (D.bl deep_2)), some (.own (D.lst (List.map D.int pool_9))), some (.frz (D.int z_6))] _ _
      obtain ⟨rest_10, hrest_10, H⟩ := bindO H
      refine set_ A sc_law_pool 2 rfl rfl (Ev.cv (ev_fdiv (nmF A sc_law_pool 2 rfl rfl rfl) ev_int ⟨by decide, by decide⟩) (congrArg D.int (Option.some.inj hrest_10))) .int rfl ?_
      show SS X [some (.frz (D.int a_cell)), some (.frz (D.int a_number)), some (.frz (D.int rest_10)), some (.frz (D.bl deep_2)), some (.own (D.lst (List.map D.int pool_9))), some (.frz (D.int z_6))] _ _
      obtain rfl := Option.some.inj H
      refine ss_nil ?_
      exact (wkr (wkr (wkr (wkr (wkr (wkr wk0))))))
    · replace H := ifF hs_8 hc
      obtain ⟨r_11, hr_11, H⟩ := bindO H
      obtain ⟨pool_12, hpool_12, H⟩ := bindO H
      refine app_ (en := D.int) (x := r_11) A sc_law_pool 4 rfl rfl rfl (Cal.ev C_law_mixed A sc_law_pool 2 rfl (by decide) (ea_cons (nmF A sc_law_pool 0 rfl rfl rfl) (ea_cons (nmF A sc_law_pool 5 rfl rfl rfl) ea_nil (.inl rfl) rfl) (.inl rfl) rfl) (.inl rfl) (.inr (.inl rfl)) rfl rfl ⟨a_cell, z_6, r_11, rfl, hr_11, rfl, rfl⟩) (by first | rfl | exact heldOf_c) hpool_12 ⟨rfl, rfl, rfl⟩ rfl rfl ?_
      show SS X [some (.frz (D.int a_cell)), some (.frz (D.int a_number)), some (.frz (D.int s_5.1)), some (.frz (D.bl deep_2)), some (.own (D.lst (List.map D.int pool_12))), some (.frz (D.int z_6))] _ _
      obtain rfl := Option.some.inj H
      refine ss_nil ?_
      exact (wkr (wkr (wkr (wkr (wkr (wkr wk0))))))
  exact retO A sc_law_pool 4 rfl rfl rfl (⟨(congrArg (fun x : (List Int) => (D.lst (List.map D.int x))) (Option.some.inj H)), .refl⟩)
def m_law_part (a_pool : (List Int)) (a_spot : Int) (a_under : Int) (a_size : Int) : Option Int :=
  ((idxG a_pool a_spot).bind fun x_1 => ((divG x_1 a_under).bind fun n_2 => ((modG n_2 a_size).bind fun n_3 => some n_3)))
def R_law_part : Rel := fun ds d k => ∃ (a_pool : (List Int)) (a_spot : Int) (a_under : Int) (a_size : Int) (r : Int), ds = [(D.lst (List.map D.int a_pool)), (D.int a_spot), (D.int a_under), (D.int a_size)] ∧ m_law_part a_pool a_spot a_under a_size = some r ∧ d = D.int r ∧ k = .cln
abbrev N_law_part : List Str := ["pool", "spot", "under", "size"]
theorem fs_law_part : FnScope N_law_part ["pool", "spot", "under", "size"] (defScope s_law_part) := ⟨rfl, rfl, rfl, by decide +kernel, rfl, by decide +kernel, by decide +kernel⟩
theorem sc_law_part : Sc N_law_part (defScope s_law_part) [0, 1, 2, 3] [] ["int"] := ⟨fs_law_part.nd, by decide +kernel⟩
theorem b_law_part {X : Cx} {Γ : Gd} (A : At X Γ N_law_part (defScope s_law_part) 0) (g_int : Γ.mg "int" = none) {ds : List D} {d : D} {k : Kd} (hR : R_law_part ds d k) :
    SS X (env0 4 ds) (defBody s_law_part) { rt := fun d' k' => d' = d ∧ Fits k' k d, nx := fun _ => d = .non ∧ k = .cln } := by
  obtain ⟨a_pool, a_spot, a_under, a_size, r, rfl, H, rfl, rfl⟩ := hR
  unfold m_law_part at H
  obtain ⟨x_1, hx_1, H⟩ := bindO H
  obtain ⟨n_2, hn_2, H⟩ := bindO H
  obtain ⟨n_3, hn_3, H⟩ := bindO H
  exact ss_ret (mod_ (div_ (int_ (bn A sc_law_part 0 rfl g_int bt_int) (ixL_ (f := D.int) (Ev.shlI (nmB A sc_law_part 0 rfl rfl rfl) (imms_map (fun _ => rfl) _)) (nmF A sc_law_part 1 rfl rfl rfl) hx_1 (fun _ _ => rfl)) .int rfl) (nmF A sc_law_part 2 rfl rfl rfl) hn_2) (nmF A sc_law_part 3 rfl rfl rfl) hn_3) (⟨(congrArg D.int (Option.some.inj H)), .int⟩)
def m_law_names (a_pool : (List Int)) (a_spot : Int) (a_number : Int) : Option (List Str) :=
  ((some ("abcdefghijklmnopqrstuvwxyz" : Str)).bind fun letters_1 => ((some ("" : Str)).bind fun stem_2 => ((rng1G (3 : Int)).bind fun r_3 => ((List.foldlM (fun (s_4 : (Str)) (z_5 : Int) => ((m_law_part a_pool (a_spot + z_5) (1 : Int) (26 : Int)).bind fun r_7 => ((idxSG letters_1 r_7).bind fun t_8 => ((addSG s_4 t_8).bind fun t_9 => ((m_law_part a_pool (a_spot + z_5) (26 : Int) (26 : Int)).bind fun r_10 => ((idxSG letters_1 r_10).bind fun t_11 => ((addSG t_9 t_11).bind fun t_12 => ((some t_12).bind fun stem_13 => some stem_13)))))))) stem_2 r_3).bind fun s_6 => ((m_law_part a_pool (a_spot + (3 : Int)) (1 : Int) (6 : Int)).bind fun r_14 => ((some r_14).bind fun turn_15 => ((m_law_part a_pool (a_spot + (3 : Int)) (6 : Int) (7 : Int)).bind fun r_16 => ((some r_16).bind fun cut_17 => ((m_law_part a_pool (a_spot + (3 : Int)) (42 : Int) (26 : Int)).bind fun r_18 => ((some r_18).bind fun first_19 => ((m_law_part a_pool (a_spot + (4 : Int)) (4 : Int) (7 : Int)).bind fun r_20 => ((slSG s_6 none (some r_20)).bind fun t_21 => ((some t_21).bind fun short_22 => ((m_law_part a_pool (a_spot + (4 : Int)) (2 : Int) (2 : Int)).bind fun r_23 => ((slSG s_6 none (some r_23)).bind fun t_24 => ((some t_24).bind fun tail_25 => ((some ([] : (List Str))).bind fun names_26 => ((rng1G a_number).bind fun r_27 => ((List.foldlM (fun (s_28 : ((List Str))) (z_29 : Int) => ((some ((z_29 + turn_15) % (6 : Int))).bind fun mark_31 => ((m_law_part a_pool (a_spot + (4 : Int)) (1 : Int) (2 : Int)).bind fun r_32 => ((if (decide (r_32 = (0 : Int))) = true then ((slSG short_22 none (some cut_17)).bind fun t_34 => ((idxSG letters_1 ((first_19 + ((7 : Int) * mark_31)) % (26 : Int))).bind fun t_35 => ((addSG t_34 t_35).bind fun t_36 => ((slSG short_22 (some cut_17) none).bind fun t_37 => ((addSG t_36 t_37).bind fun t_38 => ((addSG t_38 tail_25).bind fun t_39 => ((appG s_28 t_39).bind fun names_40 => some names_40))))))) else ((slSG s_6 none (some (mark_31 + (1 : Int)))).bind fun t_41 => ((appG s_28 t_41).bind fun names_42 => some names_42)) : Option ((List Str))).bind fun s_33 => some s_33)))) names_26 r_27).bind fun s_30 => some s_30)))))))))))))))))))
def R_law_names : Rel := fun ds d k => ∃ (a_pool : (List Int)) (a_spot : Int) (a_number : Int) (r : (List Str)), ds = [(D.lst (List.map D.int a_pool)), (D.int a_spot), (D.int a_number)] ∧ m_law_names a_pool a_spot a_number = some r ∧ d = (fun x : (List Str) => (D.lst (List.map D.str x))) r ∧ k = .own
abbrev N_law_names : List Str := ["pool", "spot", "number", "letters", "stem", "k", "turn", "cut", "first", "short", "tail", "names", "mark"]
theorem fs_law_names : FnScope N_law_names ["pool", "spot", "number"] (defScope s_law_names) := ⟨rfl, rfl, rfl, by decide +kernel, rfl, by decide +kernel, by decide +kernel⟩
theorem sc_law_names : Sc N_law_names (defScope s_law_names) [0, 1, 2, 3, 4, 5, 6, 7, 8, 9, 10, 11, 12] [3, 4, 5, 6, 7, 8, 9, 10, 11, 12] ["range", "_law_part", "int"] := ⟨fs_law_names.nd, by decide +kernel⟩
theorem b_law_names {X : Cx} {Γ : Gd} (A : At X Γ N_law_names (defScope s_law_names) 1) (g_int : Γ.mg "int" = none) (g_range : Γ.mg "range" = none) (C_law_part : Cal Γ "_law_part" R_law_part 1 []) {ds : List D} {d : D} {k : Kd} (hR : R_law_names ds d k) :
    SS X (env0 13 ds) (defBody s_law_names) { rt := fun d' k' => d' = d ∧ Fits k' k d, nx := fun _ => d = .non ∧ k = .cln } := by
  obtain ⟨a_pool, a_spot, a_number, r, rfl, H, rfl, rfl⟩ := hR
  unfold m_law_names at H
  obtain ⟨letters_1, hletters_1, H⟩ := bindO H
  refine set_ A sc_law_names 3 rfl rfl (Ev.cv ev_str (congrArg D.str (Option.some.inj hletters_1))) .str rfl ?_
  show SS X [some (.bor (D.lst (List.map D.int a_pool))), some (.frz (D.int a_spot)), some (.frz (D.int a_number)), some (.frz (D.str letters_1)), none, none, none, none, none, none, none, none, none] _ _
  obtain ⟨stem_2, hstem_2, H⟩ := bindO H
  refine set_ A sc_law_names 4 rfl rfl (Ev.cv ev_str (congrArg D.str (Option.some.inj hstem_2))) .str rfl ?_
  show SS X [some (.bor (D.lst (List.map D.int a_pool))), some (.frz (D.int a_spot)), some (.frz (D.int a_number)), some (.frz (D.str letters_1)), some (.frz (D.str stem_2)), none, none, none, none, none, none, none, none] _ _
  obtain ⟨r_3, hr_3, H⟩ := bindO H
  obtain ⟨s_6, hs_6, H⟩ := bindO H
  refine forM_ (en := D.int) (fun s_4 : (Str) => [some (.bor (D.lst (List.map D.int a_pool))), some (.frz (D.int a_spot)), some (.frz (D.int a_number)), some (.frz (D.str letters_1)), some (.frz (D.str s_4)), none, none, none, none, none, none, none, none]) A (rng1_ (glo A sc_law_names 0 rfl) (by rw [A.eM]; exact g_range) ev_int hr_3 rfl) (tg A sc_law_names 5 rfl rfl) (fun _ => rfl) hs_6 ?_ ?_ ?_
  · exact (wkr (wkr (wkr (wkr (wkr (wkn (wkn (wkn (wkn (wkn (wkn (wkn (wkn wk0)))))))))))))
  · intro s_4 z_5 s' hx H
    refine ⟨_, rfl, ?_⟩
    obtain ⟨r_7, hr_7, H⟩ := bindO H
    obtain ⟨t_8, ht_8, H⟩ := bindO H
    obtain ⟨t_9, ht_9, H⟩ := bindO H
    obtain ⟨r_10, hr_10, H⟩ := bindO H
    obtain ⟨t_11, ht_11, H⟩ := bindO H
    obtain ⟨t_12, ht_12, H⟩ := bindO H
    obtain ⟨stem_13, hstem_13, H⟩ := bindO H
    refine set_ A sc_law_names 4 rfl rfl (Ev.cv (addS_ (addS_ (nmF A sc_law_names 4 rfl rfl rfl) (ixS_ (nmF A sc_law_names 3 rfl rfl rfl) (Cal.ev C_law_part A sc_law_names 1 rfl (by decide) (ea_cons (nmB A sc_law_names 0 rfl rfl rfl) (ea_cons (ev_add (nmF A sc_law_names 1 rfl rfl rfl) (nmF A sc_law_names 5 rfl rfl rfl)) (ea_cons ev_int (ea_cons ev_int ea_nil (.inl rfl) rfl) (.inl rfl) rfl) (.inl rfl) rfl) (.inl rfl) rfl) (.inr (.inl rfl)) (.inr (.inl rfl)) rfl rfl ⟨a_pool, (a_spot + z_5), (1 : Int), (26 : Int), r_7, rfl, hr_7, rfl, rfl⟩) ht_8 (fun _ _ => rfl)) ht_9) (ixS_ (nmF A sc_law_names 3 rfl rfl rfl) (Cal.ev C_law_part A sc_law_names 1 rfl (by decide) (ea_cons (nmB A sc_law_names 0 rfl rfl rfl) (ea_cons (ev_add (nmF A sc_law_names 1 rfl rfl rfl) (nmF A sc_law_names 5 rfl rfl rfl)) (ea_cons ev_int (ea_cons ev_int ea_nil (.inl rfl) rfl) (.inl rfl) rfl) (.inl rfl) rfl) (.inl rfl) rfl) (.inr (.inl rfl)) (.inr (.inl rfl)) rfl rfl ⟨a_pool, (a_spot + z_5), (26 : Int), (26 : Int), r_10, rfl, hr_10, rfl, rfl⟩) ht_11 (fun _ _ => rfl)) ht_12) (congrArg D.str (Option.some.inj hstem_13))) .str rfl ?_
    show SS X [some (.bor (D.lst (List.map D.int a_pool))), some (.frz (D.int a_spot)), some (.frz (D.int a_number)), some (.frz (D.str letters_1)), some (.frz (D.str stem_13)), some (.frz (D.int z_5)), none, none, none, none, none, none, none] _ _
    obtain rfl := Option.some.inj H
    refine ss_nil ?_
    exact (wkr (wkr (wkr (wkr (wkr (wkn (wkn (wkn (wkn (wkn (wkn (wkn (wkn wk0)))))))))))))
  obtain ⟨r_14, hr_14, H⟩ := bindO H
  obtain ⟨turn_15, hturn_15, H⟩ := bindO H
  refine set_ A sc_law_names 6 rfl rfl (Ev.cv (Cal.ev C_law_part A sc_law_names 1 rfl (by decide) (ea_cons (nmB A sc_law_names 0 rfl rfl rfl) (ea_cons (ev_add (nmF A sc_law_names 1 rfl rfl rfl) ev_int) (ea_cons ev_int (ea_cons ev_int ea_nil (.inl rfl) rfl) (.inl rfl) rfl) (.inl rfl) rfl) (.inl rfl) rfl) (.inr (.inl rfl)) (.inr (.inl rfl)) rfl rfl ⟨a_pool, (a_spot + (3 : Int)), (1 : Int), (6 : Int), r_14, rfl, hr_14, rfl, rfl⟩) (congrArg D.int (Option.some.inj hturn_15))) .int rfl ?_
  show SS X [some (.bor (D.lst (List.map D.int a_pool))), some (.frz (D.int a_spot)), some (.frz (D.int a_number)), some (.frz (D.str letters_1)), some (.frz (D.str s_6)), none, some (.frz (D.int turn_15)), none, none, none, none, none, none] _ _
  obtain ⟨r_16, hr_16, H⟩ := bindO H
  obtain ⟨cut_17, hcut_17, H⟩ := bindO H
  refine set_ A sc_law_names 7 rfl rfl (Ev.cv (Cal.ev C_law_part A sc_law_names 1 rfl (by decide) (ea_cons (nmB A sc_law_names 0 rfl rfl rfl) (ea_cons (ev_add (nmF A sc_law_names 1 rfl rfl rfl) ev_int) (ea_cons ev_int (ea_cons ev_int ea_nil (.inl rfl) rfl) (.inl rfl) rfl) (.inl rfl) rfl) (.inl rfl) rfl) (.inr (.inl rfl)) (.inr (.inl rfl)) rfl rfl ⟨a_pool, (a_spot + (3 : Int)), (6 : Int), (7 : Int), r_16, rfl, hr_16, rfl, rfl⟩) (congrArg D.int (Option.some.inj hcut_17))) .int rfl ?_
  show SS X [some (.bor (D.lst (List.map D.int a_pool))), some (.frz (D.int a_spot)), some (.frz (D.int a_number)), some (.frz (D.str letters_1)), some (.frz (D.str s_6)), none, some (.frz (D.int turn_15)), some (.frz (D.int cut_17)), none, none, none, none, none] _ _
  obtain ⟨r_18, hr_18, H⟩ := bindO H
  obtain ⟨first_19, hfirst_19, H⟩ := bindO H
  refine set_ A sc_law_names 8 rfl rfl (Ev.cv (Cal.ev C_law_part A sc_law_names 1 rfl (by decide) (ea_cons (nmB A sc_law_names 0 rfl rfl rfl) (ea_cons (ev_add (nmF A sc_law_names 1 rfl rfl rfl) ev_int) (ea_cons ev_int (ea_cons ev_int ea_nil (.inl rfl) rfl) (.inl rfl) rfl) (.inl rfl) rfl) (.inl rfl) rfl) (.inr (.inl rfl)) (.inr (.inl rfl)) rfl rfl ⟨a_pool, (a_spot + (3 : Int)), (42 : Int), (26 : Int), r_18, rfl, hr_18, rfl, rfl⟩) (congrArg D.int (Option.some.inj hfirst_19))) .int rfl ?_
  show SS X [some (.bor (D.lst (List.map D.int a_pool))), some (.frz (D.int a_spot)), some (.frz (D.int a_number)), some (.frz (D.str letters_1)), some (.frz (D.str s_6)), none, some (.frz (D.int turn_15)), some (.frz (D.int cut_17)), some (.frz (D.int first_19)), none, none, none, none] _ _
  obtain ⟨r_20, hr_20, H⟩ := bindO H
  obtain ⟨t_21, ht_21, H⟩ := bindO H
  obtain ⟨short_22, hshort_22, H⟩ := bindO H
  refine set_ A sc_law_names 9 rfl rfl (Ev.cv (slS_ (nmF A sc_law_names 4 rfl rfl rfl) eo_none (eo_some (Cal.ev C_law_part A sc_law_names 1 rfl (by decide) (ea_cons (nmB A sc_law_names 0 rfl rfl rfl) (ea_cons (ev_add (nmF A sc_law_names 1 rfl rfl rfl) ev_int) (ea_cons ev_int (ea_cons ev_int ea_nil (.inl rfl) rfl) (.inl rfl) rfl) (.inl rfl) rfl) (.inl rfl) rfl) (.inr (.inl rfl)) (.inr (.inl rfl)) rfl rfl ⟨a_pool, (a_spot + (4 : Int)), (4 : Int), (7 : Int), r_20, rfl, hr_20, rfl, rfl⟩)) ht_21) (congrArg D.str (Option.some.inj hshort_22))) .str rfl ?_
  show SS X [some (.bor (D.lst (List.map D.int a_pool))), some (.frz (D.int a_spot)), some (.frz (D.int a_number)), some (.frz (D.str letters_1)), some (.frz (D.str s_6)), none, some (.frz (D.int turn_15)), some (.frz (D.int cut_17)), some (.frz (D.int first_19)), some (.frz (D.str short_22)), none, none, none] _ _
  obtain ⟨r_23, hr_23, H⟩ := bindO H
  obtain ⟨t_24, ht_24, H⟩ := bindO H
  obtain ⟨tail_25, htail_25, H⟩ := bindO H
  refine set_ A sc_law_names 10 rfl rfl (Ev.cv (slS_ (nmF A sc_law_names 4 rfl rfl rfl) eo_none (eo_some (Cal.ev C_law_part A sc_law_names 1 rfl (by decide) (ea_cons (nmB A sc_law_names 0 rfl rfl rfl) (ea_cons (ev_add (nmF A sc_law_names 1 rfl rfl rfl) ev_int) (ea_cons ev_int (ea_cons ev_int ea_nil (.inl rfl) rfl) (.inl rfl) rfl) (.inl rfl) rfl) (.inl rfl) rfl) (.inr (.inl rfl)) (.inr (.inl rfl)) rfl rfl ⟨a_pool, (a_spot + (4 : Int)), (2 : Int), (2 : Int), r_23, rfl, hr_23, rfl, rfl⟩)) ht_24) (congrArg D.str (Option.some.inj htail_25))) .str rfl ?_
  show SS X [some (.bor (D.lst (List.map D.int a_pool))), some (.frz (D.int a_spot)), some (.frz (D.int a_number)), some (.frz (D.str letters_1)), some (.frz (D.str s_6)), none, some (.frz (D.int turn_15)), some (.frz (D.int cut_17)), some (.frz (D.int first_19)), some (.frz (D.str short_22)), some (.frz (D.str tail_25)), none, none] _ _
  obtain ⟨names_26, hnames_26, H⟩ := bindO H
  refine set_ A sc_law_names 11 rfl rfl (Ev.cv (ev_list ea_nil (.inl rfl) (le_line rfl)) (congrArg (fun x : (List Str) => (D.lst (List.map D.str x))) (Option.some.inj hnames_26))) .own rfl ?_
  show SS X [some (.bor (D.lst (List.map D.int a_pool))), some (.frz (D.int a_spot)), some (.frz (D.int a_number)), some (.frz (D.str letters_1)), some (.frz (D.str s_6)), none, some (.frz (D.int turn_15)), some (.frz (D.int cut_17)), some (.frz (D.int first_19)), some (.frz (D.str short_22)), some (.frz (D.str tail_25)), some (.own (D.lst (List.map D.str names_26))), none] _ _
  obtain ⟨r_27, hr_27, H⟩ := bindO H
  obtain ⟨s_30, hs_30, H⟩ := bindO H
  refine forM_ (en := D.int) (fun s_28 : ((List Str)) => [some (.bor (D.lst (List.map D.int a_pool))), some (.frz (D.int a_spot)), some (.frz (D.int a_number)), some (.frz (D.str letters_1)), some (.frz (D.str s_6)), none, some (.frz (D.int turn_15)), some (.frz (D.int cut_17)), some (.frz (D.int first_19)), some (.frz (D.str short_22)), some (.frz (D.str tail_25)), some (.own (D.lst (List.map D.str s_28))), none]) A (rng1_ (glo A sc_law_names 0 rfl) (by rw [A.eM]; exact g_range) (nmF A sc_law_names 2 rfl rfl rfl) hr_27 rfl) (tg A sc_law_names 5 rfl rfl) (fun _ => rfl) hs_30 ?_ ?_ ?_
  · exact (wkr (wkr (wkr (wkr (wkr (wkn (wkr (wkr (wkr (wkr (wkr (wkr (wkn wk0)))))))))))))
  · intro s_28 z_29 s' hx H
    refine ⟨_, rfl, ?_⟩
    obtain ⟨mark_31, hmark_31, H⟩ := bindO H
    refine set_ A sc_law_names 12 rfl rfl (Ev.cv (ev_mod (int_ (bn A sc_law_names 2 rfl g_int bt_int) (ev_add (nmF A sc_law_names 5 rfl rfl rfl) (nmF A sc_law_names 6 rfl rfl rfl)) .int rfl) ev_int (by decide)) (congrArg D.int (Option.some.inj hmark_31))) .int rfl ?_
    show SS X [some (.bor (D.lst (List.map D.int a_pool))), some (.frz (D.int a_spot)), some (.frz (D.int a_number)), some (.frz (D.str letters_1)), some (.frz (D.str s_6)), some (.frz (D.int z_29)), some (.frz (D.int turn_15)), some (.frz (D.int cut_17)), some (.frz (D.int first_19)), some (.frz (D.str short_22)), some (.frz (D.str tail_25)), some (.own (D.lst (List.map D.str s_28))), some (.frz (D.int mark_31))] _ _
    obtain ⟨r_32, hr_32, H⟩ := bindO H
    obtain ⟨s_33, hs_33, H⟩ := bindO H
    refine ss_ifM [some (.bor (D.lst (List.map D.int a_pool))), some (.frz (D.int a_spot)), some (.frz (D.int a_number)), some (.frz (D.str letters_1)), some (.frz (D.str s_6)), some (.frz (D.int z_29)), some (.frz (D.int turn_15)), some (.frz (D.int cut_17)), some (.frz (D.int first_19)), some (.frz (D.str short_22)), some (.frz (D.str tail_25)), some (.own (D.lst (List.map D.str s_33))), some (.frz (D.int mark_31))] (et_cI (Cal.ev C_law_part A sc_law_names 1 rfl (by decide) (ea_cons (nmB A sc_law_names 0 rfl rfl rfl) (ea_cons (ev_add (nmF A sc_law_names 1 rfl rfl rfl) ev_int) (ea_cons ev_int (ea_cons ev_int ea_nil (.inl rfl) rfl) (.inl rfl) rfl) (.inl rfl) rfl) (.inl rfl) rfl) (.inr (.inl rfl)) (.inr (.inl rfl)) rfl rfl ⟨a_pool, (a_spot + (4 : Int)), (1 : Int), (2 : Int), r_32, rfl, hr_32, rfl, rfl⟩) ev_int .eq) ?_ (fun hc => ?_) (fun hc => ?_)
    · skip
      obtain rfl := Option.some.inj H
      refine ss_nil ?_
      exact (wkr (wkr (wkr (wkr (wkr (wkn (wkr (wkr (wkr (wkr (wkr (wkr (wkn wk0)))))))))))))
    · replace H := ifT hs_33 hc
      obtain ⟨t_34, ht_34, H⟩ := bindO H
      obtain ⟨t_35, ht_35, H⟩ := bindO H
      obtain ⟨t_36, ht_36, H⟩ := bindO H
      obtain ⟨t_37, ht_37, H⟩ := bindO H
      obtain ⟨t_38, ht_38, H⟩ := bindO H
      obtain ⟨t_39, ht_39, H⟩ := bindO H
      obtain ⟨names_40, hnames_40, H⟩ := bindO H
      refine app_ (en := D.str) (x := t_39) A sc_law_names 11 rfl rfl rfl (addS_ (addS_ (addS_ (slS_ (nmF A sc_law_names 9 rfl rfl rfl) eo_none (eo_some (nmF A sc_law_names 7 rfl rfl rfl)) ht_34) (ixS_ (nmF A sc_law_names 3 rfl rfl rfl) (ev_mod (int_ (bn A sc_law_names 2 rfl g_int bt_int) (ev_add (nmF A sc_law_names 8 rfl rfl rfl) (ev_mul ev_int (nmF A sc_law_names 12 rfl rfl rfl) (.inl ⟨by decide, by decide⟩))) .int rfl) ev_int (by decide)) ht_35 (fun _ _ => rfl)) ht_36) (slS_ (nmF A sc_law_names 9 rfl rfl rfl) (eo_some (nmF A sc_law_names 7 rfl rfl rfl)) eo_none ht_37) ht_38) (nmF A sc_law_names 10 rfl rfl rfl) ht_39) (by first | rfl | exact heldOf_c) hnames_40 ⟨rfl, rfl, rfl⟩ rfl rfl ?_
      show SS X [some (.bor (D.lst (List.map D.int a_pool))), some (.frz (D.int a_spot)), some (.frz (D.int a_number)), some (.frz (D.str letters_1)), some (.frz (D.str s_6)), some (.frz (D.int z_29)), some (.frz (D.int turn_15)), some (.frz (D.int cut_17)), some (.frz (D.int first_19)), some (.frz (D.str short_22)), some (.frz (D.str tail_25)), some (.own (D.lst (List.map D.str names_40))), some (.frz (D.int mark_31))] _ _
      obtain rfl := Option.some.inj H
      refine ss_nil ?_
      exact (wkr (wkr (wkr (wkr (wkr (wkr (wkr (wkr (wkr (wkr (wkr (wkr (wkr wk0)))))))))))))
    · replace H := ifF hs_33 hc
      obtain ⟨t_41, ht_41, H⟩ := bindO H
      obtain ⟨names_42, hnames_42, H⟩ := bindO H
      refine app_ (en := D.str) (x := t_41) A sc_law_names 11 rfl rfl rfl (slS_ (nmF A sc_law_names 4 rfl rfl rfl) eo_none (eo_some (ev_add (nmF A sc_law_names 12 rfl rfl rfl) ev_int)) ht_41) (by first | rfl | exact heldOf_c) hnames_42 ⟨rfl, rfl, rfl⟩ rfl rfl ?_
      show SS X [some (.bor (D.lst (List.map D.int a_pool))), some (.frz (D.int a_spot)), some (.frz (D.int a_number)), some (.frz (D.str letters_1)), some (.frz (D.str s_6)), some (.frz (D.int z_29)), some (.frz (D.int turn_15)), some (.frz (D.int cut_17)), some (.frz (D.int first_19)), some (.frz (D.str short_22)), some (.frz (D.str tail_25)), some (.own (D.lst (List.map D.str names_42))), some (.frz (D.int mark_31))] _ _
      obtain rfl := Option.some.inj H
      refine ss_nil ?_
      exact (wkr (wkr (wkr (wkr (wkr (wkr (wkr (wkr (wkr (wkr (wkr (wkr (wkr wk0)))))))))))))
  exact retO A sc_law_names 11 rfl rfl rfl (⟨(congrArg (fun x : (List Str) => (D.lst (List.map D.str x))) (Option.some.inj H)), .refl⟩)
def m_law_far (a_pool : (List Int)) (a_spot : Int) (a_number : Int) : Option Int :=
  ((some (0 : Int)).bind fun far_1 => ((rng1G a_number).bind fun r_2 => ((List.foldlM (fun (s_3 : (Int)) (z_4 : Int) => ((idxG a_pool (a_spot + z_4)).bind fun x_6 => ((some ((s_3 * (5040 : Int)) + (x_6 % (5040 : Int)))).bind fun far_7 => some far_7))) far_1 r_2).bind fun s_5 => some s_5)))
def R_law_far : Rel := fun ds d k => ∃ (a_pool : (List Int)) (a_spot : Int) (a_number : Int) (r : Int), ds = [(D.lst (List.map D.int a_pool)), (D.int a_spot), (D.int a_number)] ∧ m_law_far a_pool a_spot a_number = some r ∧ d = D.int r ∧ k = .cln
abbrev N_law_far : List Str := ["pool", "spot", "number", "far", "k"]
theorem fs_law_far : FnScope N_law_far ["pool", "spot", "number"] (defScope s_law_far) := ⟨rfl, rfl, rfl, by decide +kernel, rfl, by decide +kernel, by decide +kernel⟩
theorem sc_law_far : Sc N_law_far (defScope s_law_far) [0, 1, 2, 3, 4] [3, 4] ["range", "int"] := ⟨fs_law_far.nd, by decide +kernel⟩
theorem b_law_far {X : Cx} {Γ : Gd} (A : At X Γ N_law_far (defScope s_law_far) 0) (g_int : Γ.mg "int" = none) (g_range : Γ.mg "range" = none) {ds : List D} {d : D} {k : Kd} (hR : R_law_far ds d k) :
    SS X (env0 5 ds) (defBody s_law_far) { rt := fun d' k' => d' = d ∧ Fits k' k d, nx := fun _ => d = .non ∧ k = .cln } := by
  obtain ⟨a_pool, a_spot, a_number, r, rfl, H, rfl, rfl⟩ := hR
  unfold m_law_far at H
  obtain ⟨far_1, hfar_1, H⟩ := bindO H
  refine set_ A sc_law_far 3 rfl rfl (Ev.cv ev_int (congrArg D.int (Option.some.inj hfar_1))) .int rfl ?_
  show SS X [some (.bor (D.lst (List.map D.int a_pool))), some (.frz (D.int a_spot)), some (.frz (D.int a_number)), some (.frz (D.int far_1)), none] _ _
  obtain ⟨r_2, hr_2, H⟩ := bindO H
  obtain ⟨s_5, hs_5, H⟩ := bindO H
  refine forM_ (en := D.int) (fun s_3 : (Int) => [some (.bor (D.lst (List.map D.int a_pool))), some (.frz (D.int a_spot)), some (.frz (D.int a_number)), some (.frz (D.int s_3)), none]) A (rng1_ (glo A sc_law_far 0 rfl) (by rw [A.eM]; exact g_range) (nmF A sc_law_far 2 rfl rfl rfl) hr_2 rfl) (tg A sc_law_far 4 rfl rfl) (fun _ => rfl) hs_5 ?_ ?_ ?_
  · exact (wkr (wkr (wkr (wkr (wkn wk0)))))
  · intro s_3 z_4 s' hx H
    refine ⟨_, rfl, ?_⟩
    obtain ⟨x_6, hx_6, H⟩ := bindO H
    obtain ⟨far_7, hfar_7, H⟩ := bindO H
    refine set_ A sc_law_far 3 rfl rfl (Ev.cv (ev_add (ev_mul (nmF A sc_law_far 3 rfl rfl rfl) ev_int (.inr ⟨by decide, by decide⟩)) (ev_mod (int_ (bn A sc_law_far 1 rfl g_int bt_int) (ixL_ (f := D.int) (Ev.shlI (nmB A sc_law_far 0 rfl rfl rfl) (imms_map (fun _ => rfl) _)) (ev_add (nmF A sc_law_far 1 rfl rfl rfl) (nmF A sc_law_far 4 rfl rfl rfl)) hx_6 (fun _ _ => rfl)) .int rfl) ev_int (by decide))) (congrArg D.int (Option.some.inj hfar_7))) .int rfl ?_
    show SS X [some (.bor (D.lst (List.map D.int a_pool))), some (.frz (D.int a_spot)), some (.frz (D.int a_number)), some (.frz (D.int far_7)), some (.frz (D.int z_4))] _ _
    obtain rfl := Option.some.inj H
    refine ss_nil ?_
    exact (wkr (wkr (wkr (wkr (wkn wk0)))))
  exact ss_ret (nmF A sc_law_far 3 rfl rfl rfl) (⟨(congrArg D.int (Option.some.inj H)), .int⟩)
def m_law_chosen (a_pool : (List Int)) (a_spot : Int) (a_under : Int) (a_small : Int) (a_crest : Int) (a_whole : Int) : Option Int :=
  ((m_law_part a_pool a_spot a_under (10 : Int)).bind fun r_1 => ((some r_1).bind fun way_2 => ((m_law_part a_pool a_spot ((10 : Int) * a_under) a_small).bind fun r_3 => ((some r_3).bind fun near_4 => (if (decide (way_2 = (8 : Int))) = true then some (a_crest - near_4) else (if (decide (way_2 = (9 : Int))) = true then ((modG a_whole (a_crest + (1 : Int))).bind fun n_5 => some n_5) else some near_4))))))
def R_law_chosen : Rel := fun ds d k => ∃ (a_pool : (List Int)) (a_spot : Int) (a_under : Int) (a_small : Int) (a_crest : Int) (a_whole : Int) (r : Int), ds = [(D.lst (List.map D.int a_pool)), (D.int a_spot), (D.int a_under), (D.int a_small), (D.int a_crest), (D.int a_whole)] ∧ m_law_chosen a_pool a_spot a_under a_small a_crest a_whole = some r ∧ d = D.int r ∧ k = .cln
abbrev N_law_chosen : List Str := ["pool", "spot", "under", "small", "crest", "whole", "way", "near"]
theorem fs_law_chosen : FnScope N_law_chosen ["pool", "spot", "under", "small", "crest", "whole"] (defScope s_law_chosen) := ⟨rfl, rfl, rfl, by decide +kernel, rfl, by decide +kernel, by decide +kernel⟩
theorem sc_law_chosen : Sc N_law_chosen (defScope s_law_chosen) [0, 1, 2, 3, 4, 5, 6, 7] [6, 7] ["_law_part", "int"] := ⟨fs_law_chosen.nd, by decide +kernel⟩
theorem b_law_chosen {X : Cx} {Γ : Gd} (A : At X Γ N_law_chosen (defScope s_law_chosen) 1) (g_int : Γ.mg "int" = none) (C_law_part : Cal Γ "_law_part" R_law_part 1 []) {ds : List D} {d : D} {k : Kd} (hR : R_law_chosen ds d k) :
    SS X (env0 8 ds) (defBody s_law_chosen) { rt := fun d' k' => d' = d ∧ Fits k' k d, nx := fun _ => d = .non ∧ k = .cln } := by
  obtain ⟨a_pool, a_spot, a_under, a_small, a_crest, a_whole, r, rfl, H, rfl, rfl⟩ := hR
  unfold m_law_chosen at H
  obtain ⟨r_1, hr_1, H⟩ := bindO H
  obtain ⟨way_2, hway_2, H⟩ := bindO H
  refine set_ A sc_law_chosen 6 rfl rfl (Ev.cv (Cal.ev C_law_part A sc_law_chosen 0 rfl (by decide) (ea_cons (nmB A sc_law_chosen 0 rfl rfl rfl) (ea_cons (nmF A sc_law_chosen 1 rfl rfl rfl) (ea_cons (nmF A sc_law_chosen 2 rfl rfl rfl) (ea_cons ev_int ea_nil (.inl rfl) rfl) (.inl rfl) rfl) (.inl rfl) rfl) (.inl rfl) rfl) (.inr (.inl rfl)) (.inr (.inl rfl)) rfl rfl ⟨a_pool, a_spot, a_under, (10 : Int), r_1, rfl, hr_1, rfl, rfl⟩) (congrArg D.int (Option.some.inj hway_2))) .int rfl ?_
  show SS X [some (.bor (D.lst (List.map D.int a_pool))), some (.frz (D.int a_spot)), some (.frz (D.int a_under)), some (.frz (D.int a_small)), some (.frz (D.int a_crest)), some (.frz (D.int a_whole)), some (.frz (D.int way_2)), none] _ _
  obtain ⟨r_3, hr_3, H⟩ := bindO H
  obtain ⟨near_4, hnear_4, H⟩ := bindO H
  refine set_ A sc_law_chosen 7 rfl rfl (Ev.cv (Cal.ev C_law_part A sc_law_chosen 0 rfl (by decide) (ea_cons (nmB A sc_law_chosen 0 rfl rfl rfl) (ea_cons (nmF A sc_law_chosen 1 rfl rfl rfl) (ea_cons (ev_mul ev_int (nmF A sc_law_chosen 2 rfl rfl rfl) (.inl ⟨by decide, by decide⟩)) (ea_cons (nmF A sc_law_chosen 3 rfl rfl rfl) ea_nil (.inl rfl) rfl) (.inl rfl) rfl) (.inl rfl) rfl) (.inl rfl) rfl) (.inr (.inl rfl)) (.inr (.inl rfl)) rfl rfl ⟨a_pool, a_spot, ((10 : Int) * a_under), a_small, r_3, rfl, hr_3, rfl, rfl⟩) (congrArg D.int (Option.some.inj hnear_4))) .int rfl ?_
  show SS X [some (.bor (D.lst (List.map D.int a_pool))), some (.frz (D.int a_spot)), some (.frz (D.int a_under)), some (.frz (D.int a_small)), some (.frz (D.int a_crest)), some (.frz (D.int a_whole)), some (.frz (D.int way_2)), some (.frz (D.int near_4))] _ _
  refine ss_if (et_cI (nmF A sc_law_chosen 6 rfl rfl rfl) ev_int .eq) (fun hc => ?_) (fun hc => ?_)
  · replace H := ifT H hc
    exact ss_ret (ev_sub (nmF A sc_law_chosen 4 rfl rfl rfl) (nmF A sc_law_chosen 7 rfl rfl rfl)) (⟨(congrArg D.int (Option.some.inj H)), .int⟩)
  · replace H := ifF H hc
    refine ss_nil ?_
    show SS X _ _ _
    refine ss_if (et_cI (nmF A sc_law_chosen 6 rfl rfl rfl) ev_int .eq) (fun hc => ?_) (fun hc => ?_)
    · replace H := ifT H hc
      obtain ⟨n_5, hn_5, H⟩ := bindO H
      exact ss_ret (mod_ (int_ (bn A sc_law_chosen 1 rfl g_int bt_int) (nmF A sc_law_chosen 5 rfl rfl rfl) .int rfl) (ev_add (nmF A sc_law_chosen 4 rfl rfl rfl) ev_int) hn_5) (⟨(congrArg D.int (Option.some.inj H)), .int⟩)
    · replace H := ifF H hc
      refine ss_nil ?_
      show SS X _ _ _
      exact ss_ret (nmF A sc_law_chosen 7 rfl rfl rfl) (⟨(congrArg D.int (Option.some.inj H)), .int⟩)
def m_law_bidders (a_pool : (List Int)) (a_spot : Int) (a_number : Int) : Option (List (Str × Int × Int)) :=
  ((m_law_names a_pool a_spot a_number).bind fun r_1 => ((some r_1).bind fun names_2 => ((some ([] : (List (Str × Int × Int)))).bind fun crew_3 => ((rng1G a_number).bind fun r_4 => ((List.foldlM (fun (s_5 : ((List (Str × Int × Int)))) (z_6 : Int) => ((some ((a_spot + (5 : Int)) + ((5 : Int) * z_6))).bind fun place_8 => ((m_law_far a_pool (place_8 + (1 : Int)) (1 : Int)).bind fun r_9 => ((m_law_chosen a_pool place_8 (1 : Int) (4 : Int) (999 : Int) r_9).bind fun r_10 => ((some ((1 : Int) + r_10)).bind fun weight_11 => ((m_law_far a_pool (place_8 + (2 : Int)) (3 : Int)).bind fun r_12 => ((m_law_chosen a_pool place_8 (40 : Int) (9 : Int) (1000000000 : Int) r_12).bind fun r_13 => ((some r_13).bind fun bid_14 => ((m_law_part a_pool (a_spot + (4 : Int)) (28 : Int) (2 : Int)).bind fun r_15 => ((if (decide (r_15 = (0 : Int))) = true then ((some ((1 : Int) + ((weight_11 - (1 : Int)) % (4 : Int)))).bind fun weight_17 => ((some (bid_14 % (9 : Int))).bind fun bid_18 => some (weight_17, bid_18))) else some (weight_11, bid_14) : Option (Int × Int)).bind fun s_16 => ((if (decide (s_16.1 ≤ (4 : Int))) = true then ((m_law_part a_pool (place_8 + (1 : Int)) (1000 : Int) (5 : Int)).bind fun r_19 => some (decide (r_19 < (2 : Int)))) else some false).bind fun q_20 => ((if q_20 = true then ((divG (12 : Int) s_16.1).bind fun n_22 => ((some n_22).bind fun bid_23 => some bid_23)) else some s_16.2 : Option (Int)).bind fun s_21 => ((idxG names_2 z_6).bind fun x_24 => ((appG s_5 (x_24, s_16.1, s_21)).bind fun crew_25 => some crew_25)))))))))))))) crew_3 r_4).bind fun s_7 => some s_7)))))
def R_law_bidders : Rel := fun ds d k => ∃ (a_pool : (List Int)) (a_spot : Int) (a_number : Int) (r : (List (Str × Int × Int))), ds = [(D.lst (List.map D.int a_pool)), (D.int a_spot), (D.int a_number)] ∧ m_law_bidders a_pool a_spot a_number = some r ∧ d = (fun x : (List (Str × Int × Int)) => (D.lst (List.map (fun x : (Str × Int × Int) => (D.tup [(D.str x.1), (D.int x.2.1), (D.int x.2.2)])) x))) r ∧ k = .own
abbrev N_law_bidders : List Str := ["pool", "spot", "number", "names", "crew", "k", "place", "weight", "bid"]
theorem fs_law_bidders : FnScope N_law_bidders ["pool", "spot", "number"] (defScope s_law_bidders) := ⟨rfl, rfl, rfl, by decide +kernel, rfl, by decide +kernel, by decide +kernel⟩
theorem sc_law_bidders : Sc N_law_bidders (defScope s_law_bidders) [0, 1, 2, 3, 4, 5, 6, 7, 8] [3, 4, 5, 6, 7, 8] ["_law_names", "range", "_law_far", "_law_chosen", "_law_part", "int"] := ⟨fs_law_bidders.nd, by decide +kernel⟩
theorem b_law_bidders {X : Cx} {Γ : Gd} (A : At X Γ N_law_bidders (defScope s_law_bidders) 2) (g_int : Γ.mg "int" = none) (g_range : Γ.mg "range" = none) (C_law_chosen : Cal Γ "_law_chosen" R_law_chosen 2 []) (C_law_far : Cal Γ "_law_far" R_law_far 1 []) (C_law_names : Cal Γ "_law_names" R_law_names 2 []) (C_law_part : Cal Γ "_law_part" R_law_part 1 []) {ds : List D} {d : D} {k : Kd} (hR : R_law_bidders ds d k) :
    SS X (env0 9 ds) (defBody s_law_bidders) { rt := fun d' k' => d' = d ∧ Fits k' k d, nx := fun _ => d = .non ∧ k = .cln } := by
  obtain ⟨a_pool, a_spot, a_number, r, rfl, H, rfl, rfl⟩ := hR
  unfold m_law_bidders at H
  obtain ⟨r_1, hr_1, H⟩ := bindO H
  obtain ⟨names_2, hnames_2, H⟩ := bindO H
  refine set_ A sc_law_bidders 3 rfl rfl (Ev.cv (Cal.ev C_law_names A sc_law_bidders 0 rfl (by decide) (ea_cons (nmB A sc_law_bidders 0 rfl rfl rfl) (ea_cons (nmF A sc_law_bidders 1 rfl rfl rfl) (ea_cons (nmF A sc_law_bidders 2 rfl rfl rfl) ea_nil (.inl rfl) rfl) (.inl rfl) rfl) (.inl rfl) rfl) (.inr (.inl rfl)) (.inl rfl) rfl rfl ⟨a_pool, a_spot, a_number, r_1, rfl, hr_1, rfl, rfl⟩) (congrArg (fun x : (List Str) => (D.lst (List.map D.str x))) (Option.some.inj hnames_2))) .own rfl ?_
  show SS X [some (.bor (D.lst (List.map D.int a_pool))), some (.frz (D.int a_spot)), some (.frz (D.int a_number)), some (.own (D.lst (List.map D.str names_2))), none, none, none, none, none] _ _
  obtain ⟨crew_3, hcrew_3, H⟩ := bindO H
  refine set_ A sc_law_bidders 4 rfl rfl (Ev.cv (ev_list ea_nil (.inl rfl) (le_line rfl)) (congrArg (fun x : (List (Str × Int × Int)) => (D.lst (List.map (fun x : (Str × Int × Int) => (D.tup [(D.str x.1), (D.int x.2.1), (D.int x.2.2)])) x))) (Option.some.inj hcrew_3))) .own rfl ?_
  show SS X [some (.bor (D.lst (List.map D.int a_pool))), some (.frz (D.int a_spot)), some (.frz (D.int a_number)), some (.own (D.lst (List.map D.str names_2))), some (.own (D.lst (List.map (fun x : (Str × Int × Int) => (D.tup [(D.str x.1), (D.int x.2.1), (D.int x.2.2)])) crew_3))), none, none, none, none] _ _
  obtain ⟨r_4, hr_4, H⟩ := bindO H
  obtain ⟨s_7, hs_7, H⟩ := bindO H
  refine forM_ (en := D.int) (fun s_5 : ((List (Str × Int × Int))) => [some (.bor (D.lst (List.map D.int a_pool))), some (.frz (D.int a_spot)), some (.frz (D.int a_number)), some (.own (D.lst (List.map D.str names_2))), some (.own (D.lst (List.map (fun x : (Str × Int × Int) => (D.tup [(D.str x.1), (D.int x.2.1), (D.int x.2.2)])) s_5))), none, none, none, none]) A (rng1_ (glo A sc_law_bidders 1 rfl) (by rw [A.eM]; exact g_range) (nmF A sc_law_bidders 2 rfl rfl rfl) hr_4 rfl) (tg A sc_law_bidders 5 rfl rfl) (fun _ => rfl) hs_7 ?_ ?_ ?_
  · exact (wkr (wkr (wkr (wkr (wkr (wkn (wkn (wkn (wkn wk0)))))))))
  · intro s_5 z_6 s' hx H
    refine ⟨_, rfl, ?_⟩
    obtain ⟨place_8, hplace_8, H⟩ := bindO H
    refine set_ A sc_law_bidders 6 rfl rfl (Ev.cv (ev_add (ev_add (nmF A sc_law_bidders 1 rfl rfl rfl) ev_int) (ev_mul ev_int (nmF A sc_law_bidders 5 rfl rfl rfl) (.inl ⟨by decide, by decide⟩))) (congrArg D.int (Option.some.inj hplace_8))) .int rfl ?_
    show SS X [some (.bor (D.lst (List.map D.int a_pool))), some (.frz (D.int a_spot)), some (.frz (D.int a_number)), some (.own (D.lst (List.map D.str names_2))), some (.own (D.lst (List.map (fun x : (Str × Int × Int) => (D.tup [(D.str x.1), (D.int x.2.1), (D.int x.2.2)])) s_5))), some (.frz (D.int z_6)), some (.frz (D.int place_8)), none, none] _ _
    obtain ⟨r_9, hr_9, H⟩ := bindO H
    obtain ⟨r_10, hr_10, H⟩ := bindO H
    obtain ⟨weight_11, hweight_11, H⟩ := bindO H
    refine set_ A sc_law_bidders 7 rfl rfl (Ev.cv (ev_add ev_int (Cal.ev C_law_chosen A sc_law_bidders 3 rfl (by decide) (ea_cons (nmB A sc_law_bidders 0 rfl rfl rfl) (ea_cons (nmF A sc_law_bidders 6 rfl rfl rfl) (ea_cons ev_int (ea_cons ev_int (ea_cons ev_int (ea_cons (Cal.ev C_law_far A sc_law_bidders 2 rfl (by decide) (ea_cons (nmB A sc_law_bidders 0 rfl rfl rfl) (ea_cons (ev_add (nmF A sc_law_bidders 6 rfl rfl rfl) ev_int) (ea_cons ev_int ea_nil (.inl rfl) rfl) (.inl rfl) rfl) (.inl rfl) rfl) (.inr (.inl rfl)) (.inr (.inl rfl)) rfl rfl ⟨a_pool, (place_8 + (1 : Int)), (1 : Int), r_9, rfl, hr_9, rfl, rfl⟩) ea_nil (.inl rfl) rfl) (.inl rfl) rfl) (.inl rfl) rfl) (.inl rfl) rfl) (.inl rfl) rfl) (.inl rfl) rfl) (.inr (.inl rfl)) (.inr (.inl rfl)) rfl rfl ⟨a_pool, place_8, (1 : Int), (4 : Int), (999 : Int), r_9, r_10, rfl, hr_10, rfl, rfl⟩)) (congrArg D.int (Option.some.inj hweight_11))) .int rfl ?_
    show SS X [some (.bor (D.lst (List.map D.int a_pool))), some (.frz (D.int a_spot)), some (.frz (D.int a_number)), some (.own (D.lst (List.map D.str names_2))), some (.own (D.lst (List.map (fun x : (Str × Int × Int) => (D.tup [(D.str x.1), (D.int x.2.1), (D.int x.2.2)])) s_5))), some (.frz (D.int z_6)), some (.frz (D.int place_8)), some (.frz (D.int weight_11)), none] _ _
    obtain ⟨r_12, hr_12, H⟩ := bindO H
    obtain ⟨r_13, hr_13, H⟩ := bindO H
    obtain ⟨bid_14, hbid_14, H⟩ := bindO H
    refine set_ A sc_law_bidders 8 rfl rfl (Ev.cv (Cal.ev C_law_chosen A sc_law_bidders 3 rfl (by decide) (ea_cons (nmB A sc_law_bidders 0 rfl rfl rfl) (ea_cons (nmF A sc_law_bidders 6 rfl rfl rfl) (ea_cons ev_int (ea_cons ev_int (ea_cons (Ev.cv (ev_pow ev_int ev_int ⟨by decide, by decide, by decide⟩) (congrArg D.int (by decide))) (ea_cons (Cal.ev C_law_far A sc_law_bidders 2 rfl (by decide) (ea_cons (nmB A sc_law_bidders 0 rfl rfl rfl) (ea_cons (ev_add (nmF A sc_law_bidders 6 rfl rfl rfl) ev_int) (ea_cons ev_int ea_nil (.inl rfl) rfl) (.inl rfl) rfl) (.inl rfl) rfl) (.inr (.inl rfl)) (.inr (.inl rfl)) rfl rfl ⟨a_pool, (place_8 + (2 : Int)), (3 : Int), r_12, rfl, hr_12, rfl, rfl⟩) ea_nil (.inl rfl) rfl) (.inl rfl) rfl) (.inl rfl) rfl) (.inl rfl) rfl) (.inl rfl) rfl) (.inl rfl) rfl) (.inr (.inl rfl)) (.inr (.inl rfl)) rfl rfl ⟨a_pool, place_8, (40 : Int), (9 : Int), (1000000000 : Int), r_12, r_13, rfl, hr_13, rfl, rfl⟩) (congrArg D.int (Option.some.inj hbid_14))) .int rfl ?_
    show SS X [some (.bor (D.lst (List.map D.int a_pool))), some (.frz (D.int a_spot)), some (.frz (D.int a_number)), some (.own (D.lst (List.map D.str names_2))), some (.own (D.lst (List.map (fun x : (Str × Int × Int) => (D.tup [(D.str x.1), (D.int x.2.1), (D.int x.2.2)])) s_5))), some (.frz (D.int z_6)), some (.frz (D.int place_8)), some (.frz (D.int weight_11)), some (.frz (D.int bid_14))] _ _
    obtain ⟨r_15, hr_15, H⟩ := bindO H
    obtain ⟨s_16, hs_16, H⟩ := bindO H
    refine ss_ifM [some (.bor (D.lst (List.map D.int a_pool))), some (.frz (D.int a_spot)), some (.frz (D.int a_number)), some (.own (D.lst (List.map D.str names_2))), some (.own (D.lst (List.map (fun x : (Str × Int × Int) => (D.tup [(D.str x.1), (D.int x.2.1), (D.int x.2.2)])) s_5))), some (.frz (D.int z_6)), some (.frz (D.int place_8)), some (.frz (D.int s_16.1)), some (.frz (D.int s_16.2))] (et_cI (Cal.ev C_law_part A sc_law_bidders 4 rfl (by decide) (ea_cons (nmB A sc_law_bidders 0 rfl rfl rfl) (ea_cons (ev_add (nmF A sc_law_bidders 1 rfl rfl rfl) ev_int) (ea_cons ev_int (ea_cons ev_int ea_nil (.inl rfl) rfl) (.inl rfl) rfl) (.inl rfl) rfl) (.inl rfl) rfl) (.inr (.inl rfl)) (.inr (.inl rfl)) rfl rfl ⟨a_pool, (a_spot + (4 : Int)), (28 : Int), (2 : Int), r_15, rfl, hr_15, rfl, rfl⟩) ev_int .eq) ?_ (fun hc => ?_) (fun hc => ?_)
    · skip
      obtain ⟨q_20, hq_20, H⟩ := bindO H
      obtain ⟨s_21, hs_21, H⟩ := bindO H
      refine ss_ifM [some (.bor (D.lst (List.map D.int a_pool))), some (.frz (D.int a_spot)), some (.frz (D.int a_number)), some (.own (D.lst (List.map D.str names_2))), some (.own (D.lst (List.map (fun x : (Str × Int × Int) => (D.tup [(D.str x.1), (D.int x.2.1), (D.int x.2.2)])) s_5))), some (.frz (D.int z_6)), some (.frz (D.int place_8)), some (.frz (D.int s_16.1)), some (.frz (D.int s_21))] (Ew.et (ew_andM (et_cI (nmF A sc_law_bidders 7 rfl rfl rfl) ev_int .le) hq_20 fun H => by obtain ⟨r_19, hr_19, H⟩ := bindO H; obtain rfl := Option.some.inj H; exact (ew_and1 (et_cI (Cal.ev C_law_part A sc_law_bidders 4 rfl (by decide) (ea_cons (nmB A sc_law_bidders 0 rfl rfl rfl) (ea_cons (ev_add (nmF A sc_law_bidders 6 rfl rfl rfl) ev_int) (ea_cons ev_int (ea_cons ev_int ea_nil (.inl rfl) rfl) (.inl rfl) rfl) (.inl rfl) rfl) (.inl rfl) rfl) (.inr (.inl rfl)) (.inr (.inl rfl)) rfl rfl ⟨a_pool, (place_8 + (1 : Int)), (1000 : Int), (5 : Int), r_19, rfl, hr_19, rfl, rfl⟩) ev_int .lt)))) ?_ (fun hc => ?_) (fun hc => ?_)
      · skip
        obtain ⟨x_24, hx_24, H⟩ := bindO H
        obtain ⟨crew_25, hcrew_25, H⟩ := bindO H
        refine app_ (en := (fun x : (Str × Int × Int) => (D.tup [(D.str x.1), (D.int x.2.1), (D.int x.2.2)]))) (x := (x_24, s_16.1, s_21)) A sc_law_bidders 4 rfl rfl rfl (ev_tup (ea_cons (ixL_ (f := D.str) (nmO A sc_law_bidders 3 rfl rfl rfl) (nmF A sc_law_bidders 5 rfl rfl rfl) hx_24 (fun _ _ => rfl)) (ea_cons (nmF A sc_law_bidders 7 rfl rfl rfl) (ea_cons (nmF A sc_law_bidders 8 rfl rfl rfl) ea_nil (.inl rfl) rfl) (.inl rfl) rfl) (.inl rfl) rfl) (.inl rfl) (le_line rfl)) (by first | rfl | exact heldOf_c) hcrew_25 ⟨rfl, rfl, rfl⟩ rfl rfl ?_
        show SS X [some (.bor (D.lst (List.map D.int a_pool))), some (.frz (D.int a_spot)), some (.frz (D.int a_number)), some (.own (D.lst (List.map D.str names_2))), some (.own (D.lst (List.map (fun x : (Str × Int × Int) => (D.tup [(D.str x.1), (D.int x.2.1), (D.int x.2.2)])) crew_25))), some (.frz (D.int z_6)), some (.frz (D.int place_8)), some (.frz (D.int s_16.1)), some (.frz (D.int s_21))] _ _
        obtain rfl := Option.some.inj H
        refine ss_nil ?_
        exact (wkr (wkr (wkr (wkr (wkr (wkn (wkn (wkn (wkn wk0)))))))))
      · replace H := ifT hs_21 hc
        obtain ⟨n_22, hn_22, H⟩ := bindO H
        obtain ⟨bid_23, hbid_23, H⟩ := bindO H
        refine set_ A sc_law_bidders 8 rfl rfl (Ev.cv (div_ ev_int (nmF A sc_law_bidders 7 rfl rfl rfl) hn_22) (congrArg D.int (Option.some.inj hbid_23))) .int rfl ?_
        show SS X [some (.bor (D.lst (List.map D.int a_pool))), some (.frz (D.int a_spot)), some (.frz (D.int a_number)), some (.own (D.lst (List.map D.str names_2))), some (.own (D.lst (List.map (fun x : (Str × Int × Int) => (D.tup [(D.str x.1), (D.int x.2.1), (D.int x.2.2)])) s_5))), some (.frz (D.int z_6)), some (.frz (D.int place_8)), some (.frz (D.int s_16.1)), some (.frz (D.int bid_23))] _ _
        obtain rfl := Option.some.inj H
        refine ss_nil ?_
        exact (wkr (wkr (wkr (wkr (wkr (wkr (wkr (wkr (wkr wk0)))))))))
      · replace H := ifF hs_21 hc
        obtain rfl := Option.some.inj H
        refine ss_nil ?_
        exact (wkr (wkr (wkr (wkr (wkr (wkr (wkr (wkr (wkr wk0)))))))))
    · replace H := ifT hs_16 hc
      obtain ⟨weight_17, hweight_17, H⟩ := bindO H
      refine set_ A sc_law_bidders 7 rfl rfl (Ev.cv (ev_add ev_int (ev_mod (int_ (bn A sc_law_bidders 5 rfl g_int bt_int) (ev_sub (nmF A sc_law_bidders 7 rfl rfl rfl) ev_int) .int rfl) ev_int (by decide))) (congrArg D.int (Option.some.inj hweight_17))) .int rfl ?_
      show SS X [some (.bor (D.lst (List.map D.int a_pool))), some (.frz (D.int a_spot)), some (.frz (D.int a_number)), some (.own (D.lst (List.map D.str names_2))), some (.own (D.lst (List.map (fun x : (Str × Int × Int) => (D.tup [(D.str x.1), (D.int x.2.1), (D.int x.2.2)])) s_5))), some (.frz (D.int z_6)), some (.frz (D.int place_8)), some (.frz (D.int weight_17)), some (.frz (D.int bid_14))] _ _
      obtain ⟨bid_18, hbid_18, H⟩ := bindO H
      refine set_ A sc_law_bidders 8 rfl rfl (Ev.cv (ev_mod (int_ (bn A sc_law_bidders 5 rfl g_int bt_int) (nmF A sc_law_bidders 8 rfl rfl rfl) .int rfl) ev_int (by decide)) (congrArg D.int (Option.some.inj hbid_18))) .int rfl ?_
      show SS X [some (.bor (D.lst (List.map D.int a_pool))), some (.frz (D.int a_spot)), some (.frz (D.int a_number)), some (.own (D.lst (List.map D.str names_2))), some (.own (D.lst (List.map (fun x : (Str × Int × Int) => (D.tup [(D.str x.1), (D.int x.2.1), (D.int x.2.2)])) s_5))), some (.frz (D.int z_6)), some (.frz (D.int place_8)), some (.frz (D.int weight_17)), some (.frz (D.int bid_18))] _ _
      obtain rfl := Option.some.inj H
      refine ss_nil ?_
      exact (wkr (wkr (wkr (wkr (wkr (wkr (wkr (wkr (wkr wk0)))))))))
    · replace H := ifF hs_16 hc
      obtain rfl := Option.some.inj H
      refine ss_nil ?_
      exact (wkr (wkr (wkr (wkr (wkr (wkr (wkr (wkr (wkr wk0)))))))))
  exact retO A sc_law_bidders 4 rfl rfl rfl (⟨(congrArg (fun x : (List (Str × Int × Int)) => (D.lst (List.map (fun x : (Str × Int × Int) => (D.tup [(D.str x.1), (D.int x.2.1), (D.int x.2.2)])) x))) (Option.some.inj H)), .refl⟩)
def m_law_scale (a_pool : (List Int)) (a_spot : Int) (a_number : Int) : Option (List Int) :=
  ((some ([] : (List Int))).bind fun row_1 => ((rng1G a_number).bind fun r_2 => ((List.foldlM (fun (s_3 : ((List Int))) (z_4 : Int) => ((some (a_spot + ((2 : Int) * z_4))).bind fun place_6 => ((m_law_far a_pool (place_6 + (1 : Int)) (1 : Int)).bind fun r_7 => ((m_law_chosen a_pool place_6 (1 : Int) (6 : Int) (999 : Int) r_7).bind fun r_8 => ((appG s_3 ((1 : Int) + r_8)).bind fun row_9 => some row_9))))) row_1 r_2).bind fun s_5 => some (srtD s_5))))
def R_law_scale : Rel := fun ds d k => ∃ (a_pool : (List Int)) (a_spot : Int) (a_number : Int) (r : (List Int)), ds = [(D.lst (List.map D.int a_pool)), (D.int a_spot), (D.int a_number)] ∧ m_law_scale a_pool a_spot a_number = some r ∧ d = (fun x : (List Int) => (D.lst (List.map D.int x))) r ∧ k = .own
abbrev N_law_scale : List Str := ["pool", "spot", "number", "row", "k", "place"]
theorem fs_law_scale : FnScope N_law_scale ["pool", "spot", "number"] (defScope s_law_scale) := ⟨rfl, rfl, rfl, by decide +kernel, rfl, by decide +kernel, by decide +kernel⟩
theorem sc_law_scale : Sc N_law_scale (defScope s_law_scale) [0, 1, 2, 3, 4, 5] [3, 4, 5] ["range", "_law_far", "_law_chosen", "sorted"] := ⟨fs_law_scale.nd, by decide +kernel⟩
theorem b_law_scale {X : Cx} {Γ : Gd} (A : At X Γ N_law_scale (defScope s_law_scale) 2) (g_range : Γ.mg "range" = none) (g_sorted : Γ.mg "sorted" = none) (C_law_chosen : Cal Γ "_law_chosen" R_law_chosen 2 []) (C_law_far : Cal Γ "_law_far" R_law_far 1 []) {ds : List D} {d : D} {k : Kd} (hR : R_law_scale ds d k) :
    SS X (env0 6 ds) (defBody s_law_scale) { rt := fun d' k' => d' = d ∧ Fits k' k d, nx := fun _ => d = .non ∧ k = .cln } := by
  obtain ⟨a_pool, a_spot, a_number, r, rfl, H, rfl, rfl⟩ := hR
  unfold m_law_scale at H
  obtain ⟨row_1, hrow_1, H⟩ := bindO H
  refine set_ A sc_law_scale 3 rfl rfl (Ev.cv (ev_list ea_nil (.inl rfl) (le_line rfl)) (congrArg (fun x : (List Int) => (D.lst (List.map D.int x))) (Option.some.inj hrow_1))) .own rfl ?_
  show SS X [some (.bor (D.lst (List.map D.int a_pool))), some (.frz (D.int a_spot)), some (.frz (D.int a_number)), some (.own (D.lst (List.map D.int row_1))), none, none] _ _
  obtain ⟨r_2, hr_2, H⟩ := bindO H
  obtain ⟨s_5, hs_5, H⟩ := bindO H
  refine forM_ (en := D.int) (fun s_3 : ((List Int)) => [some (.bor (D.lst (List.map D.int a_pool))), some (.frz (D.int a_spot)), some (.frz (D.int a_number)), some (.own (D.lst (List.map D.int s_3))), none, none]) A (rng1_ (glo A sc_law_scale 0 rfl) (by rw [A.eM]; exact g_range) (nmF A sc_law_scale 2 rfl rfl rfl) hr_2 rfl) (tg A sc_law_scale 4 rfl rfl) (fun _ => rfl) hs_5 ?_ ?_ ?_
  · exact (wkr (wkr (wkr (wkr (wkn (wkn wk0))))))
  · intro s_3 z_4 s' hx H
    refine ⟨_, rfl, ?_⟩
    obtain ⟨place_6, hplace_6, H⟩ := bindO H
    refine set_ A sc_law_scale 5 rfl rfl (Ev.cv (ev_add (nmF A sc_law_scale 1 rfl rfl rfl) (ev_mul ev_int (nmF A sc_law_scale 4 rfl rfl rfl) (.inl ⟨by decide, by decide⟩))) (congrArg D.int (Option.some.inj hplace_6))) .int rfl ?_
    show SS X [some (.bor (D.lst (List.map D.int a_pool))), some (.frz (D.int a_spot)), some (.frz (D.int a_number)), some (.own (D.lst (List.map D.int s_3))), some (.frz (D.int z_4)), some (.frz (D.int place_6))] _ _
    obtain ⟨r_7, hr_7, H⟩ := bindO H
    obtain ⟨r_8, hr_8, H⟩ := bindO H
    obtain ⟨row_9, hrow_9, H⟩ := bindO H
    refine app_ (en := D.int) (x := ((1 : Int) + r_8)) A sc_law_scale 3 rfl rfl rfl (ev_add ev_int (Cal.ev C_law_chosen A sc_law_scale 2 rfl (by decide) (ea_cons (nmB A sc_law_scale 0 rfl rfl rfl) (ea_cons (nmF A sc_law_scale 5 rfl rfl rfl) (ea_cons ev_int (ea_cons ev_int (ea_cons ev_int (ea_cons (Cal.ev C_law_far A sc_law_scale 1 rfl (by decide) (ea_cons (nmB A sc_law_scale 0 rfl rfl rfl) (ea_cons (ev_add (nmF A sc_law_scale 5 rfl rfl rfl) ev_int) (ea_cons ev_int ea_nil (.inl rfl) rfl) (.inl rfl) rfl) (.inl rfl) rfl) (.inr (.inl rfl)) (.inr (.inl rfl)) rfl rfl ⟨a_pool, (place_6 + (1 : Int)), (1 : Int), r_7, rfl, hr_7, rfl, rfl⟩) ea_nil (.inl rfl) rfl) (.inl rfl) rfl) (.inl rfl) rfl) (.inl rfl) rfl) (.inl rfl) rfl) (.inl rfl) rfl) (.inr (.inl rfl)) (.inr (.inl rfl)) rfl rfl ⟨a_pool, place_6, (1 : Int), (6 : Int), (999 : Int), r_7, r_8, rfl, hr_8, rfl, rfl⟩)) (by first | rfl | exact heldOf_c) hrow_9 ⟨rfl, rfl, rfl⟩ rfl rfl ?_
    show SS X [some (.bor (D.lst (List.map D.int a_pool))), some (.frz (D.int a_spot)), some (.frz (D.int a_number)), some (.own (D.lst (List.map D.int row_9))), some (.frz (D.int z_4)), some (.frz (D.int place_6))] _ _
    obtain rfl := Option.some.inj H
    refine ss_nil ?_
    exact (wkr (wkr (wkr (wkr (wkn (wkn wk0))))))
  exact ss_ret (srtD_ (bn A sc_law_scale 3 rfl g_sorted bt_sorted) (nmO A sc_law_scale 3 rfl rfl rfl) rfl rfl) (⟨(congrArg (fun x : (List Int) => (D.lst (List.map D.int x))) (Option.some.inj H)), .refl⟩)
def m_law_sill (a_pool : (List Int)) (a_spot : Int) (a_crew : (List (Str × Int × Int))) : Option Int :=
  ((m_law_part a_pool a_spot (1 : Int) (8 : Int)).bind fun r_1 => ((some r_1).bind fun way_2 => ((m_law_part a_pool a_spot (8 : Int) (60 : Int)).bind fun r_3 => ((some r_3).bind fun near_4 => (if (decide (way_2 < (2 : Int))) = true then some (0 : Int) else ((if (decide (way_2 < (6 : Int))) = true then ((eqG (D.lst (List.map (fun x : (Str × Int × Int) => (D.tup [(D.str x.1), (D.int x.2.1), (D.int x.2.2)])) a_crew)) (D.lst (List.map D.int []))).bind fun q_5 => some (!q_5)) else some false).bind fun q_6 => (if q_6 = true then ((modG near_4 (a_crew.length : Int)).bind fun n_7 => ((idxG a_crew n_7).bind fun x_8 => ((some x_8).bind fun p_9 => ((mulG p_9.2.1 p_9.2.2).bind fun n_10 => ((idxG [(0 : Int), (0 : Int), (1 : Int), (-(1 : Int))] (way_2 - (2 : Int))).bind fun x_11 => some (if (1000000000000 : Int) < (if (n_10 + x_11) > (0 : Int) then (n_10 + x_11) else (0 : Int) : Int) then (1000000000000 : Int) else (if (n_10 + x_11) > (0 : Int) then (n_10 + x_11) else (0 : Int) : Int) : Int)))))) else (if (decide (way_2 = (6 : Int))) = true then some near_4 else ((m_law_far a_pool (a_spot + (1 : Int)) (4 : Int)).bind fun r_12 => ((modG r_12 ((1000000000000 : Int) + (1 : Int))).bind fun n_13 => some n_13))))))))))
def R_law_sill : Rel := fun ds d k => ∃ (a_pool : (List Int)) (a_spot : Int) (a_crew : (List (Str × Int × Int))) (r : Int), ds = [(D.lst (List.map D.int a_pool)), (D.int a_spot), (D.lst (List.map (fun x : (Str × Int × Int) => (D.tup [(D.str x.1), (D.int x.2.1), (D.int x.2.2)])) a_crew))] ∧ m_law_sill a_pool a_spot a_crew = some r ∧ d = D.int r ∧ k = .cln
abbrev N_law_sill : List Str := ["pool", "spot", "crew", "way", "near", "name", "weight", "bid"]
theorem fs_law_sill : FnScope N_law_sill ["pool", "spot", "crew"] (defScope s_law_sill) := ⟨rfl, rfl, rfl, by decide +kernel, rfl, by decide +kernel, by decide +kernel⟩
theorem sc_law_sill : Sc N_law_sill (defScope s_law_sill) [0, 1, 2, 3, 4, 6, 7] [3, 4, 5, 6, 7] ["_law_part", "int", "len", "max", "min", "_law_far"] := ⟨fs_law_sill.nd, by decide +kernel⟩
theorem b_law_sill {X : Cx} {Γ : Gd} (A : At X Γ N_law_sill (defScope s_law_sill) 1) (g_int : Γ.mg "int" = none) (g_len : Γ.mg "len" = none) (g_max : Γ.mg "max" = none) (g_min : Γ.mg "min" = none) (C_law_far : Cal Γ "_law_far" R_law_far 1 []) (C_law_part : Cal Γ "_law_part" R_law_part 1 []) {ds : List D} {d : D} {k : Kd} (hR : R_law_sill ds d k) :
    SS X (env0 8 ds) (defBody s_law_sill) { rt := fun d' k' => d' = d ∧ Fits k' k d, nx := fun _ => d = .non ∧ k = .cln } := by
  obtain ⟨a_pool, a_spot, a_crew, r, rfl, H, rfl, rfl⟩ := hR
  unfold m_law_sill at H
  obtain ⟨r_1, hr_1, H⟩ := bindO H
  obtain ⟨way_2, hway_2, H⟩ := bindO H
  refine set_ A sc_law_sill 3 rfl rfl (Ev.cv (Cal.ev C_law_part A sc_law_sill 0 rfl (by decide) (ea_cons (nmB A sc_law_sill 0 rfl rfl rfl) (ea_cons (nmF A sc_law_sill 1 rfl rfl rfl) (ea_cons ev_int (ea_cons ev_int ea_nil (.inl rfl) rfl) (.inl rfl) rfl) (.inl rfl) rfl) (.inl rfl) rfl) (.inr (.inl rfl)) (.inr (.inl rfl)) rfl rfl ⟨a_pool, a_spot, (1 : Int), (8 : Int), r_1, rfl, hr_1, rfl, rfl⟩) (congrArg D.int (Option.some.inj hway_2))) .int rfl ?_
  show SS X [some (.bor (D.lst (List.map D.int a_pool))), some (.frz (D.int a_spot)), some (.bor (D.lst (List.map (fun x : (Str × Int × Int) => (D.tup [(D.str x.1), (D.int x.2.1), (D.int x.2.2)])) a_crew))), some (.frz (D.int way_2)), none, none, none, none] _ _
  obtain ⟨r_3, hr_3, H⟩ := bindO H
  obtain ⟨near_4, hnear_4, H⟩ := bindO H
  refine set_ A sc_law_sill 4 rfl rfl (Ev.cv (Cal.ev C_law_part A sc_law_sill 0 rfl (by decide) (ea_cons (nmB A sc_law_sill 0 rfl rfl rfl) (ea_cons (nmF A sc_law_sill 1 rfl rfl rfl) (ea_cons ev_int (ea_cons ev_int ea_nil (.inl rfl) rfl) (.inl rfl) rfl) (.inl rfl) rfl) (.inl rfl) rfl) (.inr (.inl rfl)) (.inr (.inl rfl)) rfl rfl ⟨a_pool, a_spot, (8 : Int), (60 : Int), r_3, rfl, hr_3, rfl, rfl⟩) (congrArg D.int (Option.some.inj hnear_4))) .int rfl ?_
  show SS X [some (.bor (D.lst (List.map D.int a_pool))), some (.frz (D.int a_spot)), some (.bor (D.lst (List.map (fun x : (Str × Int × Int) => (D.tup [(D.str x.1), (D.int x.2.1), (D.int x.2.2)])) a_crew))), some (.frz (D.int way_2)), some (.frz (D.int near_4)), none, none, none] _ _
  refine ss_if (et_cI (nmF A sc_law_sill 3 rfl rfl rfl) ev_int .lt) (fun hc => ?_) (fun hc => ?_)
  · replace H := ifT H hc
    exact ss_ret ev_int (⟨(congrArg D.int (Option.some.inj H)), .int⟩)
  · replace H := ifF H hc
    refine ss_nil ?_
    show SS X _ _ _
    obtain ⟨q_6, hq_6, H⟩ := bindO H
    refine ss_if (Ew.et (ew_andM (et_cI (nmF A sc_law_sill 3 rfl rfl rfl) ev_int .lt) hq_6 fun H => by obtain ⟨q_5, hq_5, H⟩ := bindO H; obtain rfl := Option.some.inj H; exact (ew_and1 (et_neG A.room.units (nmB A sc_law_sill 2 rfl rfl rfl) (ev_list ea_nil (.inl rfl) (le_line rfl)) hq_5)))) (fun hc => ?_) (fun hc => ?_)
    · replace H := ifT H hc
      obtain ⟨n_7, hn_7, H⟩ := bindO H
      obtain ⟨x_8, hx_8, H⟩ := bindO H
      obtain ⟨p_9, hp_9, H⟩ := bindO H
      refine asg_ (kz := .c) (Ev.cv (ixL_ (f := (fun x : (Str × Int × Int) => (D.tup [(D.str x.1), (D.int x.2.1), (D.int x.2.2)]))) (Ev.shlI (nmB A sc_law_sill 2 rfl rfl rfl) (imms_map (fun _ => (imm_tup (imm_cons rfl (imm_cons rfl (imm_cons rfl rfl))))) _)) (mod_ (int_ (bn A sc_law_sill 1 rfl g_int bt_int) (nmF A sc_law_sill 4 rfl rfl rfl) .int rfl) (lenL_ (bn A sc_law_sill 2 rfl g_len bt_len) (nmB A sc_law_sill 2 rfl rfl rfl) rfl) hn_7) hx_8 (fun _ _ => rfl)) (congrArg (fun x : (Str × Int × Int) => (D.tup [(D.str x.1), (D.int x.2.1), (D.int x.2.2)])) (Option.some.inj hp_9))) (tg_tp A.calm (tgs_cons (tg A sc_law_sill 5 rfl rfl) (tgs_cons (tg A sc_law_sill 6 rfl rfl) (tgs_cons (tg A sc_law_sill 7 rfl rfl) tgs_nil rfl) rfl) rfl) rfl rfl) rfl rfl rfl rfl ?_
      show SS X [some (.bor (D.lst (List.map D.int a_pool))), some (.frz (D.int a_spot)), some (.bor (D.lst (List.map (fun x : (Str × Int × Int) => (D.tup [(D.str x.1), (D.int x.2.1), (D.int x.2.2)])) a_crew))), some (.frz (D.int way_2)), some (.frz (D.int near_4)), some (.frz (D.str p_9.1)), some (.frz (D.int p_9.2.1)), some (.frz (D.int p_9.2.2))] _ _
      obtain ⟨n_10, hn_10, H⟩ := bindO H
      obtain ⟨x_11, hx_11, H⟩ := bindO H
      exact ss_ret (ev_min2 A.calm (bn A sc_law_sill 4 rfl g_min bt_min) (ev_max2 A.calm (bn A sc_law_sill 3 rfl g_max bt_max) ev_int (ev_add (mul_ (nmF A sc_law_sill 6 rfl rfl rfl) (nmF A sc_law_sill 7 rfl rfl rfl) hn_10) (ixL_ (f := D.int) (Ev.cv (ev_list (ea_cons ev_int (ea_cons ev_int (ea_cons ev_int (ea_cons (ev_neg ev_int) ea_nil (.inl rfl) rfl) (.inl rfl) rfl) (.inl rfl) rfl) (.inl rfl) rfl) (.inl rfl) (le_line rfl)) rfl) (ev_sub (nmF A sc_law_sill 3 rfl rfl rfl) ev_int) hx_11 (fun _ _ => rfl))) rfl rfl) (Ev.cv (ev_pow ev_int ev_int ⟨by decide, by decide, by decide⟩) (congrArg D.int (by decide))) rfl rfl) (⟨(congrArg D.int (Option.some.inj H)), .int⟩)
    · replace H := ifF H hc
      refine ss_nil ?_
      show SS X _ _ _
      refine ss_if (et_cI (nmF A sc_law_sill 3 rfl rfl rfl) ev_int .eq) (fun hc => ?_) (fun hc => ?_)
      · replace H := ifT H hc
        exact ss_ret (nmF A sc_law_sill 4 rfl rfl rfl) (⟨(congrArg D.int (Option.some.inj H)), .int⟩)
      · replace H := ifF H hc
        refine ss_nil ?_
        show SS X _ _ _
        obtain ⟨r_12, hr_12, H⟩ := bindO H
        obtain ⟨n_13, hn_13, H⟩ := bindO H
        exact ss_ret (mod_ (int_ (bn A sc_law_sill 1 rfl g_int bt_int) (Cal.ev C_law_far A sc_law_sill 5 rfl (by decide) (ea_cons (nmB A sc_law_sill 0 rfl rfl rfl) (ea_cons (ev_add (nmF A sc_law_sill 1 rfl rfl rfl) ev_int) (ea_cons ev_int ea_nil (.inl rfl) rfl) (.inl rfl) rfl) (.inl rfl) rfl) (.inr (.inl rfl)) (.inr (.inl rfl)) rfl rfl ⟨a_pool, (a_spot + (1 : Int)), (4 : Int), r_12, rfl, hr_12, rfl, rfl⟩) .int rfl) (ev_add (Ev.cv (ev_pow ev_int ev_int ⟨by decide, by decide, by decide⟩) (congrArg D.int (by decide))) ev_int) hn_13) (⟨(congrArg D.int (Option.some.inj H)), .int⟩)
def m_is_name (a_word : Str) : Option Bool :=
  ((lenSG a_word).bind fun n_1 => (if (!((decide ((1 : Int) ≤ n_1)) && (decide (n_1 ≤ (8 : Int))))) = true then some false else ((lcG (strL a_word)).bind fun ys_2 => some ((ys_2.map (fun z_3 : Str => (inStr z_3 ("abcdefghijklmnopqrstuvwxyz" : Str)))).all id))))
def R_is_name : Rel := fun ds d k => ∃ (a_word : Str) (r : Bool), ds = [(D.str a_word)] ∧ m_is_name a_word = some r ∧ d = D.bl r ∧ k = .cln
abbrev N_is_name : List Str := ["word", "letter"]
theorem fs_is_name : FnScope N_is_name ["word"] (defScope s_is_name) := ⟨rfl, rfl, rfl, by decide +kernel, rfl, by decide +kernel, by decide +kernel⟩
theorem sc_is_name : Sc N_is_name (defScope s_is_name) [0] [] ["len", "MOST_LETTERS", "all"] := ⟨fs_is_name.nd, by decide +kernel⟩
abbrev cs_is_name_c1 : Scope := compScope (s_is_name) [1, 0, 1]
theorem sc_is_name_c1 : Sc N_is_name cs_is_name_c1 [1] [1] ["LETTERS"] := ⟨fs_is_name.nd, by decide +kernel⟩
theorem b_is_name {X : Cx} {Γ : Gd} (A : At X Γ N_is_name (defScope s_is_name) 0) (g_LETTERS : ∃ t, Γ.mg "LETTERS" = some (.str "abcdefghijklmnopqrstuvwxyz" t)) (g_MOST_LETTERS : ∃ t, Γ.mg "MOST_LETTERS" = some (.int 8 t)) (g_all : Γ.mg "all" = none) (g_len : Γ.mg "len" = none) {ds : List D} {d : D} {k : Kd} (hR : R_is_name ds d k) :
    SS X (env0 2 ds) (defBody s_is_name) { rt := fun d' k' => d' = d ∧ Fits k' k d, nx := fun _ => d = .non ∧ k = .cln } := by
  obtain ⟨a_word, r, rfl, H, rfl, rfl⟩ := hR
  unfold m_is_name at H
  obtain ⟨n_1, hn_1, H⟩ := bindO H
  refine ss_if (et_not (et_chain ev_int (lenS_ (bn A sc_is_name 0 rfl g_len bt_len) (nmF A sc_is_name 0 rfl rfl rfl) hn_1 rfl) (gI A sc_is_name 1 rfl g_MOST_LETTERS) .le .le (by with_unfolding_all rfl))) (fun hc => ?_) (fun hc => ?_)
  · replace H := ifT H hc
    exact ss_ret ev_bl (⟨(congrArg D.bl (Option.some.inj H)), .bl⟩)
  · replace H := ifF H hc
    refine ss_nil ?_
    show SS X _ _ _
    obtain ⟨ys_2, hys_2, H⟩ := bindO H
    exact ss_ret (ev_allL A.calm (bn A sc_is_name 2 rfl g_all bt_all) (Ec.ev (Ec.cv (lcP_ (en := D.str) D.bl [("letter", 1)] (fun z_3 : Str => true) (fun z_3 : Str => (inStr z_3 ("abcdefghijklmnopqrstuvwxyz" : Str))) .c A sc_is_name (by decide +kernel) (iterS_ (nmF A sc_is_name 0 rfl rfl rfl)) hys_2 (Clear_of rfl) (fun Y AY => (tg AY sc_is_name_c1 1 rfl rfl)) (by decide) (fun _ => rfl) (fun z_3 _ => ⟨_, rfl, fun Y AY => ets_nil, fun _ => ⟨_, rfl, fun Y AY => (ev_inStr (nmF AY sc_is_name_c1 1 rfl rfl rfl) (gS AY sc_is_name_c1 0 rfl g_LETTERS))⟩⟩)) (by rw [List.filter_eq_self.mpr (fun _ _ => rfl)]))) rfl) (⟨(congrArg D.bl (Option.some.inj H)), .bl⟩)
def m_names_of (a_bidders : (List (Str × Int × Int))) : Option (List Str) :=
  ((lcG a_bidders).bind fun ys_1 => some (ys_1.map (fun z_2 : (Str × Int × Int) => z_2.1)))
def R_names_of : Rel := fun ds d k => ∃ (a_bidders : (List (Str × Int × Int))) (r : (List Str)), ds = [(D.lst (List.map (fun x : (Str × Int × Int) => (D.tup [(D.str x.1), (D.int x.2.1), (D.int x.2.2)])) a_bidders))] ∧ m_names_of a_bidders = some r ∧ d = (fun x : (List Str) => (D.lst (List.map D.str x))) r ∧ k = .own
abbrev N_names_of : List Str := ["bidders", "name", "weight", "bid"]
theorem fs_names_of : FnScope N_names_of ["bidders"] (defScope s_names_of) := ⟨rfl, rfl, rfl, by decide +kernel, rfl, by decide +kernel, by decide +kernel⟩
theorem sc_names_of : Sc N_names_of (defScope s_names_of) [0] [] [] := ⟨fs_names_of.nd, by decide +kernel⟩
abbrev cs_names_of_c1 : Scope := compScope (s_names_of) [0, 0]
theorem sc_names_of_c1 : Sc N_names_of cs_names_of_c1 [1] [1, 2, 3] [] := ⟨fs_names_of.nd, by decide +kernel⟩
theorem b_names_of {X : Cx} {Γ : Gd} (A : At X Γ N_names_of (defScope s_names_of) 0)  {ds : List D} {d : D} {k : Kd} (hR : R_names_of ds d k) :
    SS X (env0 4 ds) (defBody s_names_of) { rt := fun d' k' => d' = d ∧ Fits k' k d, nx := fun _ => d = .non ∧ k = .cln } := by
  obtain ⟨a_bidders, r, rfl, H, rfl, rfl⟩ := hR
  unfold m_names_of at H
  obtain ⟨ys_1, hys_1, H⟩ := bindO H
  exact ss_ret (Ec.ev (Ec.cv (lcP_ (en := (fun x : (Str × Int × Int) => (D.tup [(D.str x.1), (D.int x.2.1), (D.int x.2.2)]))) D.str [("name", 1), ("weight", 2), ("bid", 3)] (fun z_2 : (Str × Int × Int) => true) (fun z_2 : (Str × Int × Int) => z_2.1) .c A sc_names_of (by decide +kernel) (iter_ (nmB A sc_names_of 0 rfl rfl rfl) .lstB) hys_1 (Clear_of rfl) (fun Y AY => (tg_tp AY.calm (tgs_cons (tg AY sc_names_of_c1 1 rfl rfl) (tgs_cons (tg AY sc_names_of_c1 2 rfl rfl) (tgs_cons (tg AY sc_names_of_c1 3 rfl rfl) tgs_nil rfl) rfl) rfl) rfl rfl)) (by decide) (fun _ => rfl) (fun z_2 _ => ⟨_, rfl, fun Y AY => ets_nil, fun _ => ⟨_, rfl, fun Y AY => (nmF AY sc_names_of_c1 1 rfl rfl rfl)⟩⟩)) (by rw [List.filter_eq_self.mpr (fun _ _ => rfl)]))) (⟨(congrArg (fun x : (List Str) => (D.lst (List.map D.str x))) (Option.some.inj H)), .refl⟩)
def m_check_bidders (a_bidders : (List (Str × Int × Int))) : Option Unit :=
  (if (decide ((6 : Int) < (a_bidders.length : Int))) = true then none else ((List.foldlM (fun (s_1 : Unit) (z_2 : (Int × (Str × Int × Int))) => ((m_is_name z_2.2.1).bind fun r_4 => (if (!r_4) = true then none else ((m_names_of (cutX a_bidders none (some z_2.1))).bind fun r_5 => (if (decide (z_2.2.1 ∈ r_5)) = true then none else (if (!((decide ((1 : Int) ≤ z_2.2.2.1)) && (decide (z_2.2.2.1 ≤ (1000 : Int))))) = true then none else (if (!((decide ((0 : Int) ≤ z_2.2.2.2)) && (decide (z_2.2.2.2 ≤ (1000000000 : Int))))) = true then none else some ()))))))) () (enumL a_bidders)).bind fun s_3 => some ()))
def R_check_bidders : Rel := fun ds d k => ∃ (a_bidders : (List (Str × Int × Int))) (r : Unit), ds = [(D.lst (List.map (fun x : (Str × Int × Int) => (D.tup [(D.str x.1), (D.int x.2.1), (D.int x.2.2)])) a_bidders))] ∧ m_check_bidders a_bidders = some r ∧ d = (fun _ => D.non) r ∧ k = .cln
abbrev N_check_bidders : List Str := ["bidders", "at", "name", "weight", "bid"]
theorem fs_check_bidders : FnScope N_check_bidders ["bidders"] (defScope s_check_bidders) := ⟨rfl, rfl, rfl, by decide +kernel, rfl, by decide +kernel, by decide +kernel⟩
theorem sc_check_bidders : Sc N_check_bidders (defScope s_check_bidders) [0, 1, 2, 3, 4] [1, 2, 3, 4] ["len", "MOST_BIDDERS", "enumerate", "is_name", "names_of", "LARGEST_WEIGHT", "LARGEST_BID"] := ⟨fs_check_bidders.nd, by decide +kernel⟩
theorem b_check_bidders {X : Cx} {Γ : Gd} (A : At X Γ N_check_bidders (defScope s_check_bidders) 1) (g_LARGEST_BID : ∃ t, Γ.mg "LARGEST_BID" = some (.int 1000000000 t)) (g_LARGEST_WEIGHT : ∃ t, Γ.mg "LARGEST_WEIGHT" = some (.int 1000 t)) (g_MOST_BIDDERS : ∃ t, Γ.mg "MOST_BIDDERS" = some (.int 6 t)) (g_enumerate : Γ.mg "enumerate" = none) (g_len : Γ.mg "len" = none) (C_is_name : Cal Γ "is_name" R_is_name 1 []) (C_names_of : Cal Γ "names_of" R_names_of 1 []) {ds : List D} {d : D} {k : Kd} (hR : R_check_bidders ds d k) :
    SS X (env0 5 ds) (defBody s_check_bidders) { rt := fun d' k' => d' = d ∧ Fits k' k d, nx := fun _ => d = .non ∧ k = .cln } := by
  obtain ⟨a_bidders, r, rfl, H, rfl, rfl⟩ := hR
  unfold m_check_bidders at H
  refine ss_if (et_cI (lenL_ (bn A sc_check_bidders 0 rfl g_len bt_len) (nmB A sc_check_bidders 0 rfl rfl rfl) rfl) (gI A sc_check_bidders 1 rfl g_MOST_BIDDERS) .gt) (fun hc => ?_) (fun hc => ?_)
  · replace H := ifT H hc
    cases H
  · replace H := ifF H hc
    refine ss_nil ?_
    show SS X _ _ _
    obtain ⟨s_3, hs_3, H⟩ := bindO H
    refine forM_ (en := (fun x : (Int × (Str × Int × Int)) => (D.tup [(D.int x.1), (D.tup [(D.str x.2.1), (D.int x.2.2.1), (D.int x.2.2.2)])]))) (fun s_1 : Unit => [some (.bor (D.lst (List.map (fun x : (Str × Int × Int) => (D.tup [(D.str x.1), (D.int x.2.1), (D.int x.2.2)])) a_bidders))), none, none, none, none]) A (enumLB_ (f := (fun x : (Str × Int × Int) => (D.tup [(D.str x.1), (D.int x.2.1), (D.int x.2.2)]))) (glo A sc_check_bidders 2 rfl) (by rw [A.eM]; exact g_enumerate) (nmB A sc_check_bidders 0 rfl rfl rfl) rfl) (tg_tp A.calm (tgs_cons (tg A sc_check_bidders 1 rfl rfl) (tgs_cons (tg_tp A.calm (tgs_cons (tg A sc_check_bidders 2 rfl rfl) (tgs_cons (tg A sc_check_bidders 3 rfl rfl) (tgs_cons (tg A sc_check_bidders 4 rfl rfl) tgs_nil rfl) rfl) rfl) rfl rfl) tgs_nil rfl) rfl) rfl rfl) (fun _ => rfl) hs_3 ?_ ?_ ?_
    · exact (wkr (wkn (wkn (wkn (wkn wk0)))))
    · intro s_1 z_2 s' hx H
      refine ⟨_, rfl, ?_⟩
      obtain ⟨r_4, hr_4, H⟩ := bindO H
      refine ss_if (et_not (Ev.et (Cal.ev C_is_name A sc_check_bidders 3 rfl (by decide) (ea_cons (nmF A sc_check_bidders 2 rfl rfl rfl) ea_nil (.inl rfl) rfl) (.inl rfl) (.inr (.inl rfl)) rfl rfl ⟨z_2.2.1, r_4, rfl, hr_4, rfl, rfl⟩) fun _ => rfl)) (fun hc => ?_) (fun hc => ?_)
      · replace H := ifT H hc
        cases H
      · replace H := ifF H hc
        refine ss_nil ?_
        show SS X _ _ _
        obtain ⟨r_5, hr_5, H⟩ := bindO H
        refine ss_if (et_inLS (nmF A sc_check_bidders 2 rfl rfl rfl) (Cal.ev C_names_of A sc_check_bidders 4 rfl (by decide) (ea_cons (slL_ (Ev.shlI (nmB A sc_check_bidders 0 rfl rfl rfl) (imms_map (fun _ => (imm_tup (imm_cons rfl (imm_cons rfl (imm_cons rfl rfl))))) _)) eo_none (eo_some (nmF A sc_check_bidders 1 rfl rfl rfl))) ea_nil (.inl rfl) rfl) (.inl rfl) (.inl rfl) rfl rfl ⟨(cutX a_bidders none (some z_2.1)), r_5, rfl, hr_5, rfl, rfl⟩)) (fun hc => ?_) (fun hc => ?_)
        · replace H := ifT H hc
          cases H
        · replace H := ifF H hc
          refine ss_nil ?_
          show SS X _ _ _
          refine ss_if (et_not (et_chain ev_int (nmF A sc_check_bidders 3 rfl rfl rfl) (gI A sc_check_bidders 5 rfl g_LARGEST_WEIGHT) .le .le (by with_unfolding_all rfl))) (fun hc => ?_) (fun hc => ?_)
          · replace H := ifT H hc
            cases H
          · replace H := ifF H hc
            refine ss_nil ?_
            show SS X _ _ _
            refine ss_if (et_not (et_chain ev_int (nmF A sc_check_bidders 4 rfl rfl rfl) (gI A sc_check_bidders 6 rfl g_LARGEST_BID) .le .le (by with_unfolding_all rfl))) (fun hc => ?_) (fun hc => ?_)
            · replace H := ifT H hc
              cases H
            · replace H := ifF H hc
              refine ss_nil ?_
              show SS X _ _ _
              obtain rfl := Option.some.inj H
              refine ss_nil ?_
              exact (wkr (wkn (wkn (wkn (wkn wk0)))))
    exact ss_nil ⟨rfl, rfl⟩
def m_check_rates (a_rates : (List Int)) : Option Unit :=
  (if (!((decide ((1 : Int) ≤ (a_rates.length : Int))) && (decide ((a_rates.length : Int) ≤ (3 : Int))))) = true then none else ((some (1000 : Int)).bind fun greatest_1 => ((List.foldlM (fun (s_2 : (Int)) (z_3 : Int) => (if (!((decide ((1 : Int) ≤ z_3)) && (decide (z_3 ≤ s_2)))) = true then none else ((some z_3).bind fun greatest_5 => some greatest_5))) greatest_1 a_rates).bind fun s_4 => some ())))
def R_check_rates : Rel := fun ds d k => ∃ (a_rates : (List Int)) (r : Unit), ds = [(D.lst (List.map D.int a_rates))] ∧ m_check_rates a_rates = some r ∧ d = (fun _ => D.non) r ∧ k = .cln
abbrev N_check_rates : List Str := ["rates", "greatest", "rate"]
theorem fs_check_rates : FnScope N_check_rates ["rates"] (defScope s_check_rates) := ⟨rfl, rfl, rfl, by decide +kernel, rfl, by decide +kernel, by decide +kernel⟩
theorem sc_check_rates : Sc N_check_rates (defScope s_check_rates) [0, 1, 2] [1, 2] ["len", "MOST_RATES", "LARGEST_RATE"] := ⟨fs_check_rates.nd, by decide +kernel⟩
theorem b_check_rates {X : Cx} {Γ : Gd} (A : At X Γ N_check_rates (defScope s_check_rates) 0) (g_LARGEST_RATE : ∃ t, Γ.mg "LARGEST_RATE" = some (.int 1000 t)) (g_MOST_RATES : ∃ t, Γ.mg "MOST_RATES" = some (.int 3 t)) (g_len : Γ.mg "len" = none) {ds : List D} {d : D} {k : Kd} (hR : R_check_rates ds d k) :
    SS X (env0 3 ds) (defBody s_check_rates) { rt := fun d' k' => d' = d ∧ Fits k' k d, nx := fun _ => d = .non ∧ k = .cln } := by
  obtain ⟨a_rates, r, rfl, H, rfl, rfl⟩ := hR
  unfold m_check_rates at H
  refine ss_if (et_not (et_chain ev_int (lenL_ (bn A sc_check_rates 0 rfl g_len bt_len) (nmB A sc_check_rates 0 rfl rfl rfl) rfl) (gI A sc_check_rates 1 rfl g_MOST_RATES) .le .le (by with_unfolding_all rfl))) (fun hc => ?_) (fun hc => ?_)
  · replace H := ifT H hc
    cases H
  · replace H := ifF H hc
    refine ss_nil ?_
    show SS X _ _ _
    obtain ⟨greatest_1, hgreatest_1, H⟩ := bindO H
    refine set_ A sc_check_rates 1 rfl rfl (Ev.cv (gI A sc_check_rates 2 rfl g_LARGEST_RATE) (congrArg D.int (Option.some.inj hgreatest_1))) .int rfl ?_
    show SS X [some (.bor (D.lst (List.map D.int a_rates))), some (.frz (D.int greatest_1)), none] _ _
    obtain ⟨s_4, hs_4, H⟩ := bindO H
    refine forM_ (en := D.int) (fun s_2 : (Int) => [some (.bor (D.lst (List.map D.int a_rates))), some (.frz (D.int s_2)), none]) A (iter_ (nmB A sc_check_rates 0 rfl rfl rfl) .lstB) (tg A sc_check_rates 2 rfl rfl) (fun _ => rfl) hs_4 ?_ ?_ ?_
    · exact (wkr (wkr (wkn wk0)))
    · intro s_2 z_3 s' hx H
      refine ⟨_, rfl, ?_⟩
      refine ss_if (et_not (et_chain ev_int (nmF A sc_check_rates 2 rfl rfl rfl) (nmF A sc_check_rates 1 rfl rfl rfl) .le .le (by with_unfolding_all rfl))) (fun hc => ?_) (fun hc => ?_)
      · replace H := ifT H hc
        cases H
      · replace H := ifF H hc
        refine ss_nil ?_
        show SS X _ _ _
        obtain ⟨greatest_5, hgreatest_5, H⟩ := bindO H
        refine set_ A sc_check_rates 1 rfl rfl (Ev.cv (nmF A sc_check_rates 2 rfl rfl rfl) (congrArg D.int (Option.some.inj hgreatest_5))) .int rfl ?_
        show SS X [some (.bor (D.lst (List.map D.int a_rates))), some (.frz (D.int greatest_5)), some (.frz (D.int z_3))] _ _
        obtain rfl := Option.some.inj H
        refine ss_nil ?_
        exact (wkr (wkr (wkn wk0)))
    exact ss_nil ⟨rfl, rfl⟩
def m_check_floor (a_floor : Int) : Option Unit :=
  (if (!((decide ((0 : Int) ≤ a_floor)) && (decide (a_floor ≤ (1000000000000 : Int))))) = true then none else some ())
def R_check_floor : Rel := fun ds d k => ∃ (a_floor : Int) (r : Unit), ds = [(D.int a_floor)] ∧ m_check_floor a_floor = some r ∧ d = (fun _ => D.non) r ∧ k = .cln
abbrev N_check_floor : List Str := ["floor"]
theorem fs_check_floor : FnScope N_check_floor ["floor"] (defScope s_check_floor) := ⟨rfl, rfl, rfl, by decide +kernel, rfl, by decide +kernel, by decide +kernel⟩
theorem sc_check_floor : Sc N_check_floor (defScope s_check_floor) [0] [] ["LARGEST_FLOOR"] := ⟨fs_check_floor.nd, by decide +kernel⟩
theorem b_check_floor {X : Cx} {Γ : Gd} (A : At X Γ N_check_floor (defScope s_check_floor) 0) (g_LARGEST_FLOOR : ∃ t, Γ.mg "LARGEST_FLOOR" = some (.int 1000000000000 t)) {ds : List D} {d : D} {k : Kd} (hR : R_check_floor ds d k) :
    SS X (env0 1 ds) (defBody s_check_floor) { rt := fun d' k' => d' = d ∧ Fits k' k d, nx := fun _ => d = .non ∧ k = .cln } := by
  obtain ⟨a_floor, r, rfl, H, rfl, rfl⟩ := hR
  unfold m_check_floor at H
  refine ss_if (et_not (et_chain ev_int (nmF A sc_check_floor 0 rfl rfl rfl) (gI A sc_check_floor 0 rfl g_LARGEST_FLOOR) .le .le (by with_unfolding_all rfl))) (fun hc => ?_) (fun hc => ?_)
  · replace H := ifT H hc
    cases H
  · replace H := ifF H hc
    refine ss_nil ?_
    show SS X _ _ _
    exact ss_nil ⟨rfl, rfl⟩
def m_check_hours (a_hours : Int) : Option Unit :=
  (if (!((decide ((1 : Int) ≤ a_hours)) && (decide (a_hours ≤ (3 : Int))))) = true then none else some ())
def R_check_hours : Rel := fun ds d k => ∃ (a_hours : Int) (r : Unit), ds = [(D.int a_hours)] ∧ m_check_hours a_hours = some r ∧ d = (fun _ => D.non) r ∧ k = .cln
abbrev N_check_hours : List Str := ["hours"]
theorem fs_check_hours : FnScope N_check_hours ["hours"] (defScope s_check_hours) := ⟨rfl, rfl, rfl, by decide +kernel, rfl, by decide +kernel, by decide +kernel⟩
theorem sc_check_hours : Sc N_check_hours (defScope s_check_hours) [0] [] ["MOST_HOURS"] := ⟨fs_check_hours.nd, by decide +kernel⟩
theorem b_check_hours {X : Cx} {Γ : Gd} (A : At X Γ N_check_hours (defScope s_check_hours) 0) (g_MOST_HOURS : ∃ t, Γ.mg "MOST_HOURS" = some (.int 3 t)) {ds : List D} {d : D} {k : Kd} (hR : R_check_hours ds d k) :
    SS X (env0 1 ds) (defBody s_check_hours) { rt := fun d' k' => d' = d ∧ Fits k' k d, nx := fun _ => d = .non ∧ k = .cln } := by
  obtain ⟨a_hours, r, rfl, H, rfl, rfl⟩ := hR
  unfold m_check_hours at H
  refine ss_if (et_not (et_chain ev_int (nmF A sc_check_hours 0 rfl rfl rfl) (gI A sc_check_hours 0 rfl g_MOST_HOURS) .le .le (by with_unfolding_all rfl))) (fun hc => ?_) (fun hc => ?_)
  · replace H := ifT H hc
    cases H
  · replace H := ifF H hc
    refine ss_nil ?_
    show SS X _ _ _
    exact ss_nil ⟨rfl, rfl⟩
def m_strengths_of (a_bidders : (List (Str × Int × Int))) : Option (List Int) :=
  ((lcG a_bidders).bind fun ys_1 => ((lcM (fun z_2 : (Str × Int × Int) => some true) (fun z_2 : (Str × Int × Int) => ((mulG z_2.2.1 z_2.2.2).bind fun n_3 => some n_3)) ys_1).bind fun zs_4 => some zs_4))
def R_strengths_of : Rel := fun ds d k => ∃ (a_bidders : (List (Str × Int × Int))) (r : (List Int)), ds = [(D.lst (List.map (fun x : (Str × Int × Int) => (D.tup [(D.str x.1), (D.int x.2.1), (D.int x.2.2)])) a_bidders))] ∧ m_strengths_of a_bidders = some r ∧ d = (fun x : (List Int) => (D.lst (List.map D.int x))) r ∧ k = .own
abbrev N_strengths_of : List Str := ["bidders", "name", "weight", "bid"]
theorem fs_strengths_of : FnScope N_strengths_of ["bidders"] (defScope s_strengths_of) := ⟨rfl, rfl, rfl, by decide +kernel, rfl, by decide +kernel, by decide +kernel⟩
theorem sc_strengths_of : Sc N_strengths_of (defScope s_strengths_of) [0] [] [] := ⟨fs_strengths_of.nd, by decide +kernel⟩
abbrev cs_strengths_of_c1 : Scope := compScope (s_strengths_of) [0, 0]
theorem sc_strengths_of_c1 : Sc N_strengths_of cs_strengths_of_c1 [2, 3] [1, 2, 3] [] := ⟨fs_strengths_of.nd, by decide +kernel⟩
theorem b_strengths_of {X : Cx} {Γ : Gd} (A : At X Γ N_strengths_of (defScope s_strengths_of) 0)  {ds : List D} {d : D} {k : Kd} (hR : R_strengths_of ds d k) :
    SS X (env0 4 ds) (defBody s_strengths_of) { rt := fun d' k' => d' = d ∧ Fits k' k d, nx := fun _ => d = .non ∧ k = .cln } := by
  obtain ⟨a_bidders, r, rfl, H, rfl, rfl⟩ := hR
  unfold m_strengths_of at H
  obtain ⟨ys_1, hys_1, H⟩ := bindO H
  obtain ⟨zs_4, hzs_4, H⟩ := bindO H
  exact ss_ret (Ec.ev (lcM_ (en := (fun x : (Str × Int × Int) => (D.tup [(D.str x.1), (D.int x.2.1), (D.int x.2.2)]))) D.int [("name", 1), ("weight", 2), ("bid", 3)] .c A sc_strengths_of (by decide +kernel) (iter_ (nmB A sc_strengths_of 0 rfl rfl rfl) .lstB) hys_1 hzs_4 (Clear_of rfl) (fun Y AY => (tg_tp AY.calm (tgs_cons (tg AY sc_strengths_of_c1 1 rfl rfl) (tgs_cons (tg AY sc_strengths_of_c1 2 rfl rfl) (tgs_cons (tg AY sc_strengths_of_c1 3 rfl rfl) tgs_nil rfl) rfl) rfl) rfl rfl)) (by decide) (fun _ => rfl) (fun z_2 _ => ⟨_, rfl, fun b H Y AY => by obtain rfl := Option.some.inj H; exact ets_nil, fun y _ H => by obtain ⟨n_3, hn_3, H⟩ := bindO H; obtain rfl := Option.some.inj H; exact ⟨_, rfl, fun Y AY => (mul_ (nmF AY sc_strengths_of_c1 2 rfl rfl rfl) (nmF AY sc_strengths_of_c1 3 rfl rfl rfl) hn_3)⟩⟩))) (⟨(congrArg (fun x : (List Int) => (D.lst (List.map D.int x))) (Option.some.inj H)), .refl⟩)
def m_ranking (a_bidders : (List (Str × Int × Int))) : Option (List Int) :=
  ((m_strengths_of a_bidders).bind fun r_1 => ((lcG (enumL r_1)).bind fun ys_2 => ((srtG (ys_2.map (fun z_3 : (Int × Int) => ((-z_3.2), z_3.1)))).bind fun so_4 => ((lcG so_4).bind fun ys_5 => some (ys_5.map (fun z_6 : (Int × Int) => z_6.2))))))
def R_ranking : Rel := fun ds d k => ∃ (a_bidders : (List (Str × Int × Int))) (r : (List Int)), ds = [(D.lst (List.map (fun x : (Str × Int × Int) => (D.tup [(D.str x.1), (D.int x.2.1), (D.int x.2.2)])) a_bidders))] ∧ m_ranking a_bidders = some r ∧ d = (fun x : (List Int) => (D.lst (List.map D.int x))) r ∧ k = .own
abbrev N_ranking : List Str := ["bidders", "_", "place", "own"]
theorem fs_ranking : FnScope N_ranking ["bidders"] (defScope s_ranking) := ⟨rfl, rfl, rfl, by decide +kernel, rfl, by decide +kernel, by decide +kernel⟩
theorem sc_ranking : Sc N_ranking (defScope s_ranking) [0] [] ["enumerate", "strengths_of", "sorted"] := ⟨fs_ranking.nd, by decide +kernel⟩
abbrev cs_ranking_c1 : Scope := compScope (s_ranking) [0, 0, 2, 1]
theorem sc_ranking_c1 : Sc N_ranking cs_ranking_c1 [2, 3] [2, 3] [] := ⟨fs_ranking.nd, by decide +kernel⟩
abbrev cs_ranking_c2 : Scope := compScope (s_ranking) [0, 0]
theorem sc_ranking_c2 : Sc N_ranking cs_ranking_c2 [2] [1, 2] [] := ⟨fs_ranking.nd, by decide +kernel⟩
theorem b_ranking {X : Cx} {Γ : Gd} (A : At X Γ N_ranking (defScope s_ranking) 1) (g_enumerate : Γ.mg "enumerate" = none) (g_sorted : Γ.mg "sorted" = none) (C_strengths_of : Cal Γ "strengths_of" R_strengths_of 1 []) {ds : List D} {d : D} {k : Kd} (hR : R_ranking ds d k) :
    SS X (env0 4 ds) (defBody s_ranking) { rt := fun d' k' => d' = d ∧ Fits k' k d, nx := fun _ => d = .non ∧ k = .cln } := by
  obtain ⟨a_bidders, r, rfl, H, rfl, rfl⟩ := hR
  unfold m_ranking at H
  obtain ⟨r_1, hr_1, H⟩ := bindO H
  obtain ⟨ys_2, hys_2, H⟩ := bindO H
  obtain ⟨so_4, hso_4, H⟩ := bindO H
  obtain ⟨ys_5, hys_5, H⟩ := bindO H
  exact ss_ret (Ec.ev (Ec.cv (lcP_ (en := (fun x : (Int × Int) => (D.tup [(D.int x.1), (D.int x.2)]))) D.int [("_", 1), ("place", 2)] (fun z_6 : (Int × Int) => true) (fun z_6 : (Int × Int) => z_6.2) .c A sc_ranking (by decide +kernel) (iter_ (srtPL_ (bn A sc_ranking 2 rfl g_sorted bt_sorted) (Ec.ev (Ec.cv (lcP_ (en := (fun x : (Int × Int) => (D.tup [(D.int x.1), (D.int x.2)]))) (fun x : (Int × Int) => (D.tup [(D.int x.1), (D.int x.2)])) [("place", 2), ("own", 3)] (fun z_3 : (Int × Int) => true) (fun z_3 : (Int × Int) => ((-z_3.2), z_3.1)) .c A sc_ranking (by decide +kernel) (enumLC_ (f := D.int) (glo A sc_ranking 0 rfl) (by rw [A.eM]; exact g_enumerate) (Ev.own_cln (Cal.ev C_strengths_of A sc_ranking 1 rfl (by decide) (ea_cons (nmB A sc_ranking 0 rfl rfl rfl) ea_nil (.inl rfl) rfl) (.inr (.inl rfl)) (.inl rfl) rfl rfl ⟨a_bidders, r_1, rfl, hr_1, rfl, rfl⟩)) rfl) hys_2 (Clear_of rfl) (fun Y AY => (tg_tp AY.calm (tgs_cons (tg AY sc_ranking_c1 2 rfl rfl) (tgs_cons (tg AY sc_ranking_c1 3 rfl rfl) tgs_nil rfl) rfl) rfl rfl)) (by decide) (fun _ => rfl) (fun z_3 _ => ⟨_, rfl, fun Y AY => ets_nil, fun _ => ⟨_, rfl, fun Y AY => (ev_tup (ea_cons (ev_neg (nmF AY sc_ranking_c1 3 rfl rfl rfl)) (ea_cons (nmF AY sc_ranking_c1 2 rfl rfl rfl) ea_nil (.inl rfl) rfl) (.inl rfl) rfl) (.inl rfl) (le_line rfl))⟩⟩)) (by rw [List.filter_eq_self.mpr (fun _ _ => rfl)]))) hso_4 rfl) .lstO) hys_5 (Clear_of rfl) (fun Y AY => (tg_tp AY.calm (tgs_cons (tg AY sc_ranking_c2 1 rfl rfl) (tgs_cons (tg AY sc_ranking_c2 2 rfl rfl) tgs_nil rfl) rfl) rfl rfl)) (by decide) (fun _ => rfl) (fun z_6 _ => ⟨_, rfl, fun Y AY => ets_nil, fun _ => ⟨_, rfl, fun Y AY => (nmF AY sc_ranking_c2 2 rfl rfl rfl)⟩⟩)) (by rw [List.filter_eq_self.mpr (fun _ _ => rfl)]))) (⟨(congrArg (fun x : (List Int) => (D.lst (List.map D.int x))) (Option.some.inj H)), .refl⟩)
def m_ladder (a_bidders : (List (Str × Int × Int))) (a_hours : Int) (a_floor : Int) : Option (List Str) :=
  ((m_check_bidders a_bidders).bind fun r_1 => ((m_check_hours a_hours).bind fun r_2 => ((m_check_floor a_floor).bind fun r_3 => ((m_strengths_of a_bidders).bind fun r_4 => ((some r_4).bind fun strengths_5 => ((m_ranking a_bidders).bind fun r_6 => ((lcG r_6).bind fun ys_7 => ((lcM (fun z_8 : Int => ((idxG strengths_5 z_8).bind fun x_9 => some (decide (a_floor ≤ x_9)))) (fun z_8 : Int => some z_8) ys_7).bind fun zs_10 => ((some zs_10).bind fun places_11 => ((lcG (cutX places_11 none (some a_hours))).bind fun ys_12 => ((lcM (fun z_13 : Int => some true) (fun z_13 : Int => ((idxG a_bidders z_13).bind fun x_14 => some x_14.1)) ys_12).bind fun zs_15 => some zs_15)))))))))))
def R_ladder : Rel := fun ds d k => ∃ (a_bidders : (List (Str × Int × Int))) (a_hours : Int) (a_floor : Int) (r : (List Str)), ds = [(D.lst (List.map (fun x : (Str × Int × Int) => (D.tup [(D.str x.1), (D.int x.2.1), (D.int x.2.2)])) a_bidders)), (D.int a_hours), (D.int a_floor)] ∧ m_ladder a_bidders a_hours a_floor = some r ∧ d = (fun x : (List Str) => (D.tup (List.map D.str x))) r ∧ k = .cln
abbrev N_ladder : List Str := ["bidders", "hours", "floor", "strengths", "places", "place"]
theorem fs_ladder : FnScope N_ladder ["bidders", "hours", "floor"] (defScope s_ladder) := ⟨rfl, rfl, rfl, by decide +kernel, rfl, by decide +kernel, by decide +kernel⟩
theorem sc_ladder : Sc N_ladder (defScope s_ladder) [0, 1, 2, 4] [3, 4] ["check_bidders", "check_hours", "check_floor", "strengths_of", "ranking", "tuple"] := ⟨fs_ladder.nd, by decide +kernel⟩
abbrev cs_ladder_c1 : Scope := compScope (s_ladder) [4, 1]
theorem sc_ladder_c1 : Sc N_ladder cs_ladder_c1 [2, 3, 5] [5] [] := ⟨fs_ladder.nd, by decide +kernel⟩
abbrev cs_ladder_c2 : Scope := compScope (s_ladder) [5, 0, 1]
theorem sc_ladder_c2 : Sc N_ladder cs_ladder_c2 [0, 5] [5] [] := ⟨fs_ladder.nd, by decide +kernel⟩
theorem b_ladder {X : Cx} {Γ : Gd} (A : At X Γ N_ladder (defScope s_ladder) 2) (g_tuple : Γ.mg "tuple" = none) (C_check_bidders : Cal Γ "check_bidders" R_check_bidders 2 []) (C_check_floor : Cal Γ "check_floor" R_check_floor 1 []) (C_check_hours : Cal Γ "check_hours" R_check_hours 1 []) (C_ranking : Cal Γ "ranking" R_ranking 2 []) (C_strengths_of : Cal Γ "strengths_of" R_strengths_of 1 []) {ds : List D} {d : D} {k : Kd} (hR : R_ladder ds d k) :
    SS X (env0 6 ds) (defBody s_ladder) { rt := fun d' k' => d' = d ∧ Fits k' k d, nx := fun _ => d = .non ∧ k = .cln } := by
  obtain ⟨a_bidders, a_hours, a_floor, r, rfl, H, rfl, rfl⟩ := hR
  unfold m_ladder at H
  obtain ⟨r_1, hr_1, H⟩ := bindO H
  refine ss_ex (Cal.ev C_check_bidders A sc_ladder 0 rfl (by decide) (ea_cons (nmB A sc_ladder 0 rfl rfl rfl) ea_nil (.inl rfl) rfl) (.inr (.inl rfl)) (.inr (.inl rfl)) rfl rfl ⟨a_bidders, r_1, rfl, hr_1, rfl, rfl⟩) rfl ?_
  obtain ⟨r_2, hr_2, H⟩ := bindO H
  refine ss_ex (Cal.ev C_check_hours A sc_ladder 1 rfl (by decide) (ea_cons (nmF A sc_ladder 1 rfl rfl rfl) ea_nil (.inl rfl) rfl) (.inl rfl) (.inr (.inl rfl)) rfl rfl ⟨a_hours, r_2, rfl, hr_2, rfl, rfl⟩) rfl ?_
  obtain ⟨r_3, hr_3, H⟩ := bindO H
  refine ss_ex (Cal.ev C_check_floor A sc_ladder 2 rfl (by decide) (ea_cons (nmF A sc_ladder 2 rfl rfl rfl) ea_nil (.inl rfl) rfl) (.inl rfl) (.inr (.inl rfl)) rfl rfl ⟨a_floor, r_3, rfl, hr_3, rfl, rfl⟩) rfl ?_
  obtain ⟨r_4, hr_4, H⟩ := bindO H
  obtain ⟨strengths_5, hstrengths_5, H⟩ := bindO H
  refine set_ A sc_ladder 3 rfl rfl (Ev.cv (Cal.ev C_strengths_of A sc_ladder 3 rfl (by decide) (ea_cons (nmB A sc_ladder 0 rfl rfl rfl) ea_nil (.inl rfl) rfl) (.inr (.inl rfl)) (.inl rfl) rfl rfl ⟨a_bidders, r_4, rfl, hr_4, rfl, rfl⟩) (congrArg (fun x : (List Int) => (D.lst (List.map D.int x))) (Option.some.inj hstrengths_5))) .own rfl ?_
  show SS X [some (.bor (D.lst (List.map (fun x : (Str × Int × Int) => (D.tup [(D.str x.1), (D.int x.2.1), (D.int x.2.2)])) a_bidders))), some (.frz (D.int a_hours)), some (.frz (D.int a_floor)), some (.own (D.lst (List.map D.int strengths_5))), none, none] _ _
  obtain ⟨r_6, hr_6, H⟩ := bindO H
  obtain ⟨ys_7, hys_7, H⟩ := bindO H
  obtain ⟨zs_10, hzs_10, H⟩ := bindO H
  obtain ⟨places_11, hplaces_11, H⟩ := bindO H
  refine setLc_ A sc_ladder 4 rfl (by decide +kernel) (by decide +kernel) rfl (by decide +kernel) (Ec.cv (lcM_ (en := D.int) D.int [("place", 5)] .c A sc_ladder (by decide +kernel) (iter_ (Cal.ev C_ranking A sc_ladder 4 rfl (by decide) (ea_cons (nmB A sc_ladder 0 rfl rfl rfl) ea_nil (.inl rfl) rfl) (.inr (.inl rfl)) (.inl rfl) rfl rfl ⟨a_bidders, r_6, rfl, hr_6, rfl, rfl⟩) .lstO) hys_7 hzs_10 (Clear_of rfl) (fun Y AY => (tg AY sc_ladder_c1 5 rfl rfl)) (by decide) (fun _ => rfl) (fun z_8 _ => ⟨_, rfl, fun b H Y AY => by obtain ⟨x_9, hx_9, H⟩ := bindO H; obtain rfl := Option.some.inj H; exact (ets_one (et_cI (ixL_ (f := D.int) (nmO AY sc_ladder_c1 3 rfl rfl rfl) (nmF AY sc_ladder_c1 5 rfl rfl rfl) hx_9 (fun _ _ => rfl)) (nmF AY sc_ladder_c1 2 rfl rfl rfl) .ge)), fun y _ H => by obtain rfl := Option.some.inj H; exact ⟨_, rfl, fun Y AY => (nmF AY sc_ladder_c1 5 rfl rfl rfl)⟩⟩)) (congrArg (fun x : (List Int) => (D.lst (List.map D.int x))) (Option.some.inj hplaces_11))) .own ?_
  show SS X [some (.bor (D.lst (List.map (fun x : (Str × Int × Int) => (D.tup [(D.str x.1), (D.int x.2.1), (D.int x.2.2)])) a_bidders))), some (.frz (D.int a_hours)), some (.frz (D.int a_floor)), some (.own (D.lst (List.map D.int strengths_5))), some (.own (D.lst (List.map D.int places_11))), none] _ _
  obtain ⟨ys_12, hys_12, H⟩ := bindO H
  obtain ⟨zs_15, hzs_15, H⟩ := bindO H
  exact ss_ret (tuple_ (bn A sc_ladder 5 rfl g_tuple bt_tuple) (Ec.ev (lcM_ (en := D.int) D.str [("place", 5)] .c A sc_ladder (by decide +kernel) (iter_ (slL_ (nmO A sc_ladder 4 rfl rfl rfl) eo_none (eo_some (nmF A sc_ladder 1 rfl rfl rfl))) .lstO) hys_12 hzs_15 (Clear_of rfl) (fun Y AY => (tg AY sc_ladder_c2 5 rfl rfl)) (by decide) (fun _ => rfl) (fun z_13 _ => ⟨_, rfl, fun b H Y AY => by obtain rfl := Option.some.inj H; exact ets_nil, fun y _ H => by obtain ⟨x_14, hx_14, H⟩ := bindO H; obtain rfl := Option.some.inj H; exact ⟨_, rfl, fun Y AY => (ix_ (ixL_ (f := (fun x : (Str × Int × Int) => (D.tup [(D.str x.1), (D.int x.2.1), (D.int x.2.2)]))) (Ev.shlI (nmB AY sc_ladder_c2 0 rfl rfl rfl) (imms_map (fun _ => (imm_tup (imm_cons rfl (imm_cons rfl (imm_cons rfl rfl))))) _)) (nmF AY sc_ladder_c2 5 rfl rfl rfl) hx_14 (fun _ _ => rfl)) ev_int (.tup rfl) (fun _ _ => rfl))⟩⟩))) .lst rfl) (⟨(congrArg (fun x : (List Str) => (D.tup (List.map D.str x))) (Option.some.inj H)), .refl⟩)
def m_strengths_behind (a_bidders : (List (Str × Int × Int))) (a_many : Int) (a_floor : Int) : Option (List Int) :=
  ((m_strengths_of a_bidders).bind fun r_1 => ((some r_1).bind fun strengths_2 => ((m_ranking a_bidders).bind fun r_3 => ((lcG r_3).bind fun ys_4 => ((lcM (fun z_5 : Int => some true) (fun z_5 : Int => ((idxG strengths_2 z_5).bind fun x_6 => some (if x_6 > a_floor then x_6 else a_floor : Int))) ys_4).bind fun zs_7 => ((some zs_7).bind fun ranked_8 => ((rng1G a_many).bind fun r_9 => ((lcG r_9).bind fun ys_10 => ((lcM (fun z_11 : Int => some true) (fun z_11 : Int => ((if (decide ((z_11 + (1 : Int)) < (ranked_8.length : Int))) = true then ((idxG ranked_8 (z_11 + (1 : Int))).bind fun x_12 => some x_12) else some a_floor).bind fun v_13 => some v_13)) ys_10).bind fun zs_14 => some zs_14)))))))))
def R_strengths_behind : Rel := fun ds d k => ∃ (a_bidders : (List (Str × Int × Int))) (a_many : Int) (a_floor : Int) (r : (List Int)), ds = [(D.lst (List.map (fun x : (Str × Int × Int) => (D.tup [(D.str x.1), (D.int x.2.1), (D.int x.2.2)])) a_bidders)), (D.int a_many), (D.int a_floor)] ∧ m_strengths_behind a_bidders a_many a_floor = some r ∧ d = (fun x : (List Int) => (D.lst (List.map D.int x))) r ∧ k = .own
abbrev N_strengths_behind : List Str := ["bidders", "many", "floor", "strengths", "ranked", "place", "at"]
theorem fs_strengths_behind : FnScope N_strengths_behind ["bidders", "many", "floor"] (defScope s_strengths_behind) := ⟨rfl, rfl, rfl, by decide +kernel, rfl, by decide +kernel, by decide +kernel⟩
theorem sc_strengths_behind : Sc N_strengths_behind (defScope s_strengths_behind) [0, 1] [3, 4] ["strengths_of", "ranking", "range"] := ⟨fs_strengths_behind.nd, by decide +kernel⟩
abbrev cs_strengths_behind_c1 : Scope := compScope (s_strengths_behind) [1, 1]
theorem sc_strengths_behind_c1 : Sc N_strengths_behind cs_strengths_behind_c1 [2, 3, 5] [5] ["max"] := ⟨fs_strengths_behind.nd, by decide +kernel⟩
abbrev cs_strengths_behind_c2 : Scope := compScope (s_strengths_behind) [2, 0]
theorem sc_strengths_behind_c2 : Sc N_strengths_behind cs_strengths_behind_c2 [2, 4, 6] [6] ["len"] := ⟨fs_strengths_behind.nd, by decide +kernel⟩
theorem b_strengths_behind {X : Cx} {Γ : Gd} (A : At X Γ N_strengths_behind (defScope s_strengths_behind) 2) (g_len : Γ.mg "len" = none) (g_max : Γ.mg "max" = none) (g_range : Γ.mg "range" = none) (C_ranking : Cal Γ "ranking" R_ranking 2 []) (C_strengths_of : Cal Γ "strengths_of" R_strengths_of 1 []) {ds : List D} {d : D} {k : Kd} (hR : R_strengths_behind ds d k) :
    SS X (env0 7 ds) (defBody s_strengths_behind) { rt := fun d' k' => d' = d ∧ Fits k' k d, nx := fun _ => d = .non ∧ k = .cln } := by
  obtain ⟨a_bidders, a_many, a_floor, r, rfl, H, rfl, rfl⟩ := hR
  unfold m_strengths_behind at H
  obtain ⟨r_1, hr_1, H⟩ := bindO H
  obtain ⟨strengths_2, hstrengths_2, H⟩ := bindO H
  refine set_ A sc_strengths_behind 3 rfl rfl (Ev.cv (Cal.ev C_strengths_of A sc_strengths_behind 0 rfl (by decide) (ea_cons (nmB A sc_strengths_behind 0 rfl rfl rfl) ea_nil (.inl rfl) rfl) (.inr (.inl rfl)) (.inl rfl) rfl rfl ⟨a_bidders, r_1, rfl, hr_1, rfl, rfl⟩) (congrArg (fun x : (List Int) => (D.lst (List.map D.int x))) (Option.some.inj hstrengths_2))) .own rfl ?_
  show SS X [some (.bor (D.lst (List.map (fun x : (Str × Int × Int) => (D.tup [(D.str x.1), (D.int x.2.1), (D.int x.2.2)])) a_bidders))), some (.frz (D.int a_many)), some (.frz (D.int a_floor)), some (.own (D.lst (List.map D.int strengths_2))), none, none, none] _ _
  obtain ⟨r_3, hr_3, H⟩ := bindO H
  obtain ⟨ys_4, hys_4, H⟩ := bindO H
  obtain ⟨zs_7, hzs_7, H⟩ := bindO H
  obtain ⟨ranked_8, hranked_8, H⟩ := bindO H
  refine setLcC_ A sc_strengths_behind 4 rfl (by decide +kernel) rfl (Ec.cv (lcM_ (en := D.int) D.int [("place", 5)] .c A sc_strengths_behind (by decide +kernel) (iter_ (Cal.ev C_ranking A sc_strengths_behind 1 rfl (by decide) (ea_cons (nmB A sc_strengths_behind 0 rfl rfl rfl) ea_nil (.inl rfl) rfl) (.inr (.inl rfl)) (.inl rfl) rfl rfl ⟨a_bidders, r_3, rfl, hr_3, rfl, rfl⟩) .lstO) hys_4 hzs_7 (Clear_of rfl) (fun Y AY => (tg AY sc_strengths_behind_c1 5 rfl rfl)) (by decide) (fun _ => rfl) (fun z_5 _ => ⟨_, rfl, fun b H Y AY => by obtain rfl := Option.some.inj H; exact ets_nil, fun y _ H => by obtain ⟨x_6, hx_6, H⟩ := bindO H; obtain rfl := Option.some.inj H; exact ⟨_, rfl, fun Y AY => (ev_max2 AY.calm (bn AY sc_strengths_behind_c1 0 rfl g_max bt_max) (nmF AY sc_strengths_behind_c1 2 rfl rfl rfl) (ixL_ (f := D.int) (nmO AY sc_strengths_behind_c1 3 rfl rfl rfl) (nmF AY sc_strengths_behind_c1 5 rfl rfl rfl) hx_6 (fun _ _ => rfl)) rfl rfl)⟩⟩)) (congrArg (fun x : (List Int) => (D.lst (List.map D.int x))) (Option.some.inj hranked_8))) .own ?_
  show SS X [some (.bor (D.lst (List.map (fun x : (Str × Int × Int) => (D.tup [(D.str x.1), (D.int x.2.1), (D.int x.2.2)])) a_bidders))), some (.frz (D.int a_many)), some (.frz (D.int a_floor)), some (.own (D.lst (List.map D.int strengths_2))), some (.own (D.lst (List.map D.int ranked_8))), none, none] _ _
  obtain ⟨r_9, hr_9, H⟩ := bindO H
  obtain ⟨ys_10, hys_10, H⟩ := bindO H
  obtain ⟨zs_14, hzs_14, H⟩ := bindO H
  exact ss_ret (Ec.ev (lcM_ (en := D.int) D.int [("at", 6)] .c A sc_strengths_behind (by decide +kernel) (rng1_ (glo A sc_strengths_behind 2 rfl) (by rw [A.eM]; exact g_range) (nmF A sc_strengths_behind 1 rfl rfl rfl) hr_9 rfl) hys_10 hzs_14 (Clear_of rfl) (fun Y AY => (tg AY sc_strengths_behind_c2 6 rfl rfl)) (by decide) (fun _ => rfl) (fun z_11 _ => ⟨_, rfl, fun b H Y AY => by obtain rfl := Option.some.inj H; exact ets_nil, fun y _ H => by obtain ⟨v_13, hv_13, H⟩ := bindO H; obtain rfl := Option.some.inj H; exact ⟨_, rfl, fun Y AY => (ev_ifM (en := D.int) (et_cI (ev_add (nmF AY sc_strengths_behind_c2 6 rfl rfl rfl) ev_int) (lenL_ (bn AY sc_strengths_behind_c2 0 rfl g_len bt_len) (nmO AY sc_strengths_behind_c2 4 rfl rfl rfl) rfl) .lt) hv_13 (fun H => by obtain ⟨x_12, hx_12, H⟩ := bindO H; obtain rfl := Option.some.inj H; exact (ixL_ (f := D.int) (nmO AY sc_strengths_behind_c2 4 rfl rfl rfl) (ev_add (nmF AY sc_strengths_behind_c2 6 rfl rfl rfl) ev_int) hx_12 (fun _ _ => rfl))) (fun H => by obtain rfl := Option.some.inj H; exact (nmF AY sc_strengths_behind_c2 2 rfl rfl rfl)))⟩⟩))) (⟨(congrArg (fun x : (List Int) => (D.lst (List.map D.int x))) (Option.some.inj H)), .refl⟩)
def m_least_rents (a_rates : (List Int)) (a_behind : (List Int)) : Option (List Int) :=
  ((some ([] : (List Int))).bind fun rents_1 => ((some (0 : Int)).bind fun rent_2 => ((some (0 : Int)).bind fun later_3 => ((List.foldlM (fun (s_4 : ((List Int) × Int × Int)) (z_5 : (Int × Int)) => ((mulG z_5.2 (z_5.1 - s_4.2.2)).bind fun n_7 => ((some (s_4.2.1 + n_7)).bind fun rent_8 => ((some z_5.1).bind fun later_9 => ((appG s_4.1 rent_8).bind fun rents_10 => some (rents_10, rent_8, later_9)))))) (rents_1, rent_2, later_3) (List.zip (a_rates.reverse) (a_behind.reverse))).bind fun s_6 => some (s_6.1.reverse)))))
def R_least_rents : Rel := fun ds d k => ∃ (a_rates : (List Int)) (a_behind : (List Int)) (r : (List Int)), ds = [(D.lst (List.map D.int a_rates)), (D.lst (List.map D.int a_behind))] ∧ m_least_rents a_rates a_behind = some r ∧ d = (fun x : (List Int) => (D.tup (List.map D.int x))) r ∧ k = .cln
abbrev N_least_rents : List Str := ["rates", "behind", "rents", "rent", "later", "rate", "strength"]
theorem fs_least_rents : FnScope N_least_rents ["rates", "behind"] (defScope s_least_rents) := ⟨rfl, rfl, rfl, by decide +kernel, rfl, by decide +kernel, by decide +kernel⟩
theorem sc_least_rents : Sc N_least_rents (defScope s_least_rents) [0, 1, 2, 3, 4, 5, 6] [2, 3, 4, 5, 6] ["zip", "tuple"] := ⟨fs_least_rents.nd, by decide +kernel⟩
theorem b_least_rents {X : Cx} {Γ : Gd} (A : At X Γ N_least_rents (defScope s_least_rents) 0) (g_tuple : Γ.mg "tuple" = none) (g_zip : Γ.mg "zip" = none) {ds : List D} {d : D} {k : Kd} (hR : R_least_rents ds d k) :
    SS X (env0 7 ds) (defBody s_least_rents) { rt := fun d' k' => d' = d ∧ Fits k' k d, nx := fun _ => d = .non ∧ k = .cln } := by
  obtain ⟨a_rates, a_behind, r, rfl, H, rfl, rfl⟩ := hR
  unfold m_least_rents at H
  obtain ⟨rents_1, hrents_1, H⟩ := bindO H
  refine set_ A sc_least_rents 2 rfl rfl (Ev.cv (ev_list ea_nil (.inl rfl) (le_line rfl)) (congrArg (fun x : (List Int) => (D.lst (List.map D.int x))) (Option.some.inj hrents_1))) .own rfl ?_
  show SS X [some (.bor (D.lst (List.map D.int a_rates))), some (.bor (D.lst (List.map D.int a_behind))), some (.own (D.lst (List.map D.int rents_1))), none, none, none, none] _ _
  obtain ⟨rent_2, hrent_2, H⟩ := bindO H
  refine set_ A sc_least_rents 3 rfl rfl (Ev.cv ev_int (congrArg D.int (Option.some.inj hrent_2))) .int rfl ?_
  show SS X [some (.bor (D.lst (List.map D.int a_rates))), some (.bor (D.lst (List.map D.int a_behind))), some (.own (D.lst (List.map D.int rents_1))), some (.frz (D.int rent_2)), none, none, none] _ _
  obtain ⟨later_3, hlater_3, H⟩ := bindO H
  refine set_ A sc_least_rents 4 rfl rfl (Ev.cv ev_int (congrArg D.int (Option.some.inj hlater_3))) .int rfl ?_
  show SS X [some (.bor (D.lst (List.map D.int a_rates))), some (.bor (D.lst (List.map D.int a_behind))), some (.own (D.lst (List.map D.int rents_1))), some (.frz (D.int rent_2)), some (.frz (D.int later_3)), none, none] _ _
  obtain ⟨s_6, hs_6, H⟩ := bindO H
  refine forM_ (en := (fun x : (Int × Int) => (D.tup [(D.int x.1), (D.int x.2)]))) (fun s_4 : ((List Int) × Int × Int) => [some (.bor (D.lst (List.map D.int a_rates))), some (.bor (D.lst (List.map D.int a_behind))), some (.own (D.lst (List.map D.int s_4.1))), some (.frz (D.int s_4.2.1)), some (.frz (D.int s_4.2.2)), none, none]) A (zipLC_ (f := D.int) (g := D.int) (glo A sc_least_rents 0 rfl) (by rw [A.eM]; exact g_zip) (Ev.own_cln (revL_ (Ev.shlI (nmB A sc_least_rents 0 rfl rfl rfl) (imms_map (fun _ => rfl) _)))) (Ev.own_cln (revL_ (Ev.shlI (nmB A sc_least_rents 1 rfl rfl rfl) (imms_map (fun _ => rfl) _)))) rfl rfl) (tg_tp A.calm (tgs_cons (tg A sc_least_rents 5 rfl rfl) (tgs_cons (tg A sc_least_rents 6 rfl rfl) tgs_nil rfl) rfl) rfl rfl) (fun _ => rfl) hs_6 ?_ ?_ ?_
  · exact (wkr (wkr (wkr (wkr (wkr (wkn (wkn wk0)))))))
  · intro s_4 z_5 s' hx H
    refine ⟨_, rfl, ?_⟩
    obtain ⟨n_7, hn_7, H⟩ := bindO H
    obtain ⟨rent_8, hrent_8, H⟩ := bindO H
    refine set_ A sc_least_rents 3 rfl rfl (Ev.cv (ev_add (nmF A sc_least_rents 3 rfl rfl rfl) (mul_ (nmF A sc_least_rents 6 rfl rfl rfl) (ev_sub (nmF A sc_least_rents 5 rfl rfl rfl) (nmF A sc_least_rents 4 rfl rfl rfl)) hn_7)) (congrArg D.int (Option.some.inj hrent_8))) .int rfl ?_
    show SS X [some (.bor (D.lst (List.map D.int a_rates))), some (.bor (D.lst (List.map D.int a_behind))), some (.own (D.lst (List.map D.int s_4.1))), some (.frz (D.int rent_8)), some (.frz (D.int s_4.2.2)), some (.frz (D.int z_5.1)), some (.frz (D.int z_5.2))] _ _
    obtain ⟨later_9, hlater_9, H⟩ := bindO H
    refine set_ A sc_least_rents 4 rfl rfl (Ev.cv (nmF A sc_least_rents 5 rfl rfl rfl) (congrArg D.int (Option.some.inj hlater_9))) .int rfl ?_
    show SS X [some (.bor (D.lst (List.map D.int a_rates))), some (.bor (D.lst (List.map D.int a_behind))), some (.own (D.lst (List.map D.int s_4.1))), some (.frz (D.int rent_8)), some (.frz (D.int later_9)), some (.frz (D.int z_5.1)), some (.frz (D.int z_5.2))] _ _
    obtain ⟨rents_10, hrents_10, H⟩ := bindO H
    refine app_ (en := D.int) (x := rent_8) A sc_least_rents 2 rfl rfl rfl (nmF A sc_least_rents 3 rfl rfl rfl) (by first | rfl | exact heldOf_c) hrents_10 ⟨rfl, rfl, rfl⟩ rfl rfl ?_
    show SS X [some (.bor (D.lst (List.map D.int a_rates))), some (.bor (D.lst (List.map D.int a_behind))), some (.own (D.lst (List.map D.int rents_10))), some (.frz (D.int rent_8)), some (.frz (D.int later_9)), some (.frz (D.int z_5.1)), some (.frz (D.int z_5.2))] _ _
    obtain rfl := Option.some.inj H
    refine ss_nil ?_
    exact (wkr (wkr (wkr (wkr (wkr (wkn (wkn wk0)))))))
  exact ss_ret (tuple_ (bn A sc_least_rents 1 rfl g_tuple bt_tuple) (revL_ (nmO A sc_least_rents 2 rfl rfl rfl)) .lst rfl) (⟨(congrArg (fun x : (List Int) => (D.tup (List.map D.int x))) (Option.some.inj H)), .refl⟩)
def m_Allotment_Xinit (a_takers : (List Str)) (a_total : Int) (a_rents : (List Int)) : Option ((List Str) × Int × (List Int)) :=
  ((some a_takers).bind fun takers_1 => ((some a_total).bind fun total_2 => ((some a_rents).bind fun rents_3 => some (takers_1, total_2, rents_3))))
def R_Allotment_Xinit (Γ : Gd) : RelI := fun ds ws => ∃ (a_takers : (List Str)) (a_total : Int) (a_rents : (List Int)) (r : ((List Str) × Int × (List Int))), ds = [(D.tup (List.map D.str a_takers)), (D.int a_total), (D.tup (List.map D.int a_rents))] ∧ m_Allotment_Xinit a_takers a_total a_rents = some r ∧ ws = [(("takers" : Str), (D.tup (List.map D.str r.1))), (("total" : Str), (D.int r.2.1)), (("rents" : Str), (D.tup (List.map D.int r.2.2)))]
abbrev N_Allotment_Xinit : List Str := ["self", "takers", "total", "rents"]
theorem fs_Allotment_Xinit : FnScope N_Allotment_Xinit ["self", "takers", "total", "rents"] (defScope s_Allotment_Xinit) := ⟨rfl, rfl, rfl, by decide +kernel, rfl, by decide +kernel, by decide +kernel⟩
theorem sc_Allotment_Xinit : Sc N_Allotment_Xinit (defScope s_Allotment_Xinit) [0, 1, 2, 3] [] [] := ⟨fs_Allotment_Xinit.nd, by decide +kernel⟩
theorem b_Allotment_Xinit {X : Cx} {Γ : Gd} (A : At X Γ N_Allotment_Xinit (defScope s_Allotment_Xinit) 0) (cl_Allotment : Cls Γ.K (cA Γ "Allotment")) (na_Allotment_rents : NoAttr Γ.K (cA Γ "Allotment") "rents") (na_Allotment_takers : NoAttr Γ.K (cA Γ "Allotment") "takers") (na_Allotment_total : NoAttr Γ.K (cA Γ "Allotment") "total") {x dx : Addr} {ds : List D} {ws : List (Str × D)} (hR : R_Allotment_Xinit Γ ds ws) :
    SI X x (cA Γ "Allotment") dx (env0 4 (.adr x :: ds)) [] (defBody s_Allotment_Xinit) ws := by
  obtain ⟨a_takers, a_total, a_rents, r, rfl, H, rfl⟩ := hR
  unfold m_Allotment_Xinit at H
  obtain ⟨takers_1, htakers_1, H⟩ := bindO H
  refine si_set A sc_Allotment_Xinit 0 rfl rfl rfl (by rw [A.eK]; exact cl_Allotment) (by rw [A.eK]; exact na_Allotment_takers) (Ev.cv (Ev.imm (nmB A sc_Allotment_Xinit 1 rfl rfl rfl) (imm_vt (fun _ => rfl) _)) (congrArg (fun x : (List Str) => (D.tup (List.map D.str x))) (Option.some.inj htakers_1))) rfl (Nat.le_of_ble_eq_true rfl) rfl ?_
  show SI _ _ _ _ _ [("takers", (D.tup (List.map D.str takers_1)))] _ _
  obtain ⟨total_2, htotal_2, H⟩ := bindO H
  refine si_set A sc_Allotment_Xinit 0 rfl rfl rfl (by rw [A.eK]; exact cl_Allotment) (by rw [A.eK]; exact na_Allotment_total) (Ev.cv (nmF A sc_Allotment_Xinit 2 rfl rfl rfl) (congrArg D.int (Option.some.inj htotal_2))) rfl (Nat.le_of_ble_eq_true rfl) rfl ?_
  show SI _ _ _ _ _ [("takers", (D.tup (List.map D.str takers_1))), ("total", (D.int total_2))] _ _
  obtain ⟨rents_3, hrents_3, H⟩ := bindO H
  refine si_set A sc_Allotment_Xinit 0 rfl rfl rfl (by rw [A.eK]; exact cl_Allotment) (by rw [A.eK]; exact na_Allotment_rents) (Ev.cv (Ev.imm (nmB A sc_Allotment_Xinit 3 rfl rfl rfl) (imm_vt (fun _ => rfl) _)) (congrArg (fun x : (List Int) => (D.tup (List.map D.int x))) (Option.some.inj hrents_3))) rfl (Nat.le_of_ble_eq_true rfl) rfl ?_
  show SI _ _ _ _ _ [("takers", (D.tup (List.map D.str takers_1))), ("total", (D.int total_2)), ("rents", (D.tup (List.map D.int rents_3)))] _ _
  obtain rfl := Option.some.inj H
  exact si_nil
def m_dearest (a_bidders : (List (Str × Int × Int))) (a_rates : (List Int)) (a_floor : Int) : Option ((List Str) × Int × (List Int)) :=
  ((m_check_bidders a_bidders).bind fun r_1 => ((m_check_rates a_rates).bind fun r_2 => ((m_check_floor a_floor).bind fun r_3 => ((m_ladder a_bidders (a_rates.length : Int) a_floor).bind fun r_4 => ((some r_4).bind fun names_5 => ((lcG (cutX a_rates (some (names_5.length : Int)) none)).bind fun ys_6 => ((catG names_5 (ys_6.map (fun z_7 : Int => ("" : Str)))).bind fun xs_8 => ((some xs_8).bind fun takers_9 => ((lcG a_bidders).bind fun ys_10 => ((lcM (fun z_11 : (Str × Int × Int) => some true) (fun z_11 : (Str × Int × Int) => ((mulG z_11.2.1 z_11.2.2).bind fun n_12 => some (z_11.1, n_12))) ys_10).bind fun zs_13 => ((some (dMerge [] zs_13)).bind fun strengths_14 => ((lcG (List.zip a_rates takers_9)).bind fun ys_15 => ((lcM (fun z_16 : (Int × Str) => some true) (fun z_16 : (Int × Str) => ((mulG z_16.1 ((dGet strengths_14 z_16.2).getD a_floor)).bind fun n_17 => some n_17)) ys_15).bind fun zs_18 => ((some (zs_18.sum)).bind fun total_19 => ((m_strengths_behind a_bidders (a_rates.length : Int) a_floor).bind fun r_20 => ((m_least_rents a_rates r_20).bind fun r_21 => ((m_Allotment_Xinit takers_9 total_19 r_21).bind fun ob_22 => some ob_22)))))))))))))))))
def R_dearest (Γ : Gd) : Rel := fun ds d k => ∃ (a_bidders : (List (Str × Int × Int))) (a_rates : (List Int)) (a_floor : Int) (r : ((List Str) × Int × (List Int))), ds = [(D.lst (List.map (fun x : (Str × Int × Int) => (D.tup [(D.str x.1), (D.int x.2.1), (D.int x.2.2)])) a_bidders)), (D.lst (List.map D.int a_rates)), (D.int a_floor)] ∧ m_dearest a_bidders a_rates a_floor = some r ∧ d = (fun x : ((List Str) × Int × (List Int)) => (D.obj (cA Γ "Allotment") [("takers", (D.tup (List.map D.str x.1))), ("total", (D.int x.2.1)), ("rents", (D.tup (List.map D.int x.2.2)))])) r ∧ k = .own
abbrev N_dearest : List Str := ["bidders", "rates", "floor", "names", "takers", "_", "strengths", "name", "weight", "bid", "total", "rate", "taker"]
theorem fs_dearest : FnScope N_dearest ["bidders", "rates", "floor"] (defScope s_dearest) := ⟨rfl, rfl, rfl, by decide +kernel, rfl, by decide +kernel, by decide +kernel⟩
theorem sc_dearest : Sc N_dearest (defScope s_dearest) [0, 1, 2, 3, 4, 10] [3, 4, 6, 10] ["check_bidders", "check_rates", "check_floor", "len", "ladder", "tuple", "zip", "sum", "strengths_behind", "least_rents", "Allotment"] := ⟨fs_dearest.nd, by decide +kernel⟩
abbrev cs_dearest_c1 : Scope := compScope (s_dearest) [4, 1, 1, 1]
theorem sc_dearest_c1 : Sc N_dearest cs_dearest_c1 [] [5] [] := ⟨fs_dearest.nd, by decide +kernel⟩
abbrev cs_dearest_c2 : Scope := compScope (s_dearest) [5, 1]
theorem sc_dearest_c2 : Sc N_dearest cs_dearest_c2 [7, 8, 9] [7, 8, 9] [] := ⟨fs_dearest.nd, by decide +kernel⟩
abbrev cs_dearest_c3 : Scope := compScope (s_dearest) [6, 1, 1]
theorem sc_dearest_c3 : Sc N_dearest cs_dearest_c3 [2, 6, 11, 12] [11, 12] [] := ⟨fs_dearest.nd, by decide +kernel⟩
theorem b_dearest {X : Cx} {Γ : Gd} (A : At X Γ N_dearest (defScope s_dearest) 3) (g_len : Γ.mg "len" = none) (g_sum : Γ.mg "sum" = none) (g_tuple : Γ.mg "tuple" = none) (g_zip : Γ.mg "zip" = none) (C_Allotment_Xinit : CalN Γ "Allotment" (cA Γ "Allotment") (R_Allotment_Xinit Γ) 1 []) (C_check_bidders : Cal Γ "check_bidders" R_check_bidders 2 []) (C_check_floor : Cal Γ "check_floor" R_check_floor 1 []) (C_check_rates : Cal Γ "check_rates" R_check_rates 1 []) (C_ladder_k1_hours_floor : CalK Γ "ladder" R_ladder 3 1 ["hours", "floor"] (fun a b => pick a [] [] b [.p 0, .k 0, .k 1])) (C_least_rents : Cal Γ "least_rents" R_least_rents 1 []) (C_strengths_behind : Cal Γ "strengths_behind" R_strengths_behind 3 []) {ds : List D} {d : D} {k : Kd} (hR : R_dearest Γ ds d k) :
    SS X (env0 13 ds) (defBody s_dearest) { rt := fun d' k' => d' = d ∧ Fits k' k d, nx := fun _ => d = .non ∧ k = .cln } := by
  obtain ⟨a_bidders, a_rates, a_floor, r, rfl, H, rfl, rfl⟩ := hR
  unfold m_dearest at H
  obtain ⟨r_1, hr_1, H⟩ := bindO H
  refine ss_ex (Cal.ev C_check_bidders A sc_dearest 0 rfl (by decide) (ea_cons (nmB A sc_dearest 0 rfl rfl rfl) ea_nil (.inl rfl) rfl) (.inr (.inl rfl)) (.inr (.inl rfl)) rfl rfl ⟨a_bidders, r_1, rfl, hr_1, rfl, rfl⟩) rfl ?_
  obtain ⟨r_2, hr_2, H⟩ := bindO H
  refine ss_ex (Cal.ev C_check_rates A sc_dearest 1 rfl (by decide) (ea_cons (nmB A sc_dearest 1 rfl rfl rfl) ea_nil (.inl rfl) rfl) (.inr (.inl rfl)) (.inr (.inl rfl)) rfl rfl ⟨a_rates, r_2, rfl, hr_2, rfl, rfl⟩) rfl ?_
  obtain ⟨r_3, hr_3, H⟩ := bindO H
  refine ss_ex (Cal.ev C_check_floor A sc_dearest 2 rfl (by decide) (ea_cons (nmF A sc_dearest 2 rfl rfl rfl) ea_nil (.inl rfl) rfl) (.inl rfl) (.inr (.inl rfl)) rfl rfl ⟨a_floor, r_3, rfl, hr_3, rfl, rfl⟩) rfl ?_
  obtain ⟨r_4, hr_4, H⟩ := bindO H
  obtain ⟨names_5, hnames_5, H⟩ := bindO H
  refine set_ A sc_dearest 3 rfl rfl (Ev.cv (CalK.ev C_ladder_k1_hours_floor A sc_dearest 4 rfl (by decide) (ea_cons (nmB A sc_dearest 0 rfl rfl rfl) ea_nil (.inl rfl) rfl) (.inr (.inl rfl)) (ek_cons (lenL_ (bn A sc_dearest 3 rfl g_len bt_len) (nmB A sc_dearest 1 rfl rfl rfl) rfl) (ek_cons (nmF A sc_dearest 2 rfl rfl rfl) ek_nil (.inl rfl)) (.inl rfl)) (.inl rfl) (.inr (.inl rfl)) rfl rfl rfl rfl rfl rfl ⟨a_bidders, (a_rates.length : Int), a_floor, r_4, rfl, hr_4, rfl, rfl⟩) (congrArg (fun x : (List Str) => (D.tup (List.map D.str x))) (Option.some.inj hnames_5))) .cln rfl ?_
  show SS X [some (.bor (D.lst (List.map (fun x : (Str × Int × Int) => (D.tup [(D.str x.1), (D.int x.2.1), (D.int x.2.2)])) a_bidders))), some (.bor (D.lst (List.map D.int a_rates))), some (.frz (D.int a_floor)), some (.frz (D.tup (List.map D.str names_5))), none, none, none, none, none, none, none, none, none] _ _
  obtain ⟨ys_6, hys_6, H⟩ := bindO H
  obtain ⟨xs_8, hxs_8, H⟩ := bindO H
  obtain ⟨takers_9, htakers_9, H⟩ := bindO H
  refine set_ A sc_dearest 4 rfl rfl (Ev.cv (catT_ (f := D.str) (nmF A sc_dearest 3 rfl rfl rfl) (tuple_ (bn A sc_dearest 5 rfl g_tuple bt_tuple) (Ec.ev (Ec.cv (lcP_ (en := D.int) D.str [("_", 5)] (fun z_7 : Int => true) (fun z_7 : Int => ("" : Str)) .c A sc_dearest (by decide +kernel) (iter_ (slL_ (Ev.shlI (nmB A sc_dearest 1 rfl rfl rfl) (imms_map (fun _ => rfl) _)) (eo_some (lenT_ (bn A sc_dearest 3 rfl g_len bt_len) (nmF A sc_dearest 3 rfl rfl rfl) rfl)) eo_none) .lstO) hys_6 (Clear_of rfl) (fun Y AY => (tg AY sc_dearest_c1 5 rfl rfl)) (by decide) (fun _ => rfl) (fun z_7 _ => ⟨_, rfl, fun Y AY => ets_nil, fun _ => ⟨_, rfl, fun Y AY => ev_str⟩⟩)) (by rw [List.filter_eq_self.mpr (fun _ _ => rfl)]))) .lst rfl) hxs_8) (congrArg (fun x : (List Str) => (D.tup (List.map D.str x))) (Option.some.inj htakers_9))) .cln rfl ?_
  show SS X [some (.bor (D.lst (List.map (fun x : (Str × Int × Int) => (D.tup [(D.str x.1), (D.int x.2.1), (D.int x.2.2)])) a_bidders))), some (.bor (D.lst (List.map D.int a_rates))), some (.frz (D.int a_floor)), some (.frz (D.tup (List.map D.str names_5))), some (.frz (D.tup (List.map D.str takers_9))), none, none, none, none, none, none, none, none] _ _
  obtain ⟨ys_10, hys_10, H⟩ := bindO H
  obtain ⟨zs_13, hzs_13, H⟩ := bindO H
  obtain ⟨strengths_14, hstrengths_14, H⟩ := bindO H
  refine setDcC_ A sc_dearest 6 rfl (by decide +kernel) rfl (Ec.cv (dcM_ (c := kS) (fun _ => rfl) (en := (fun x : (Str × Int × Int) => (D.tup [(D.str x.1), (D.int x.2.1), (D.int x.2.2)]))) D.int [("name", 7), ("weight", 8), ("bid", 9)] .c A sc_dearest (by decide +kernel) (iter_ (nmB A sc_dearest 0 rfl rfl rfl) .lstB) hys_10 hzs_13 (Clear_of rfl) (fun Y AY => (tg_tp AY.calm (tgs_cons (tg AY sc_dearest_c2 7 rfl rfl) (tgs_cons (tg AY sc_dearest_c2 8 rfl rfl) (tgs_cons (tg AY sc_dearest_c2 9 rfl rfl) tgs_nil rfl) rfl) rfl) rfl rfl)) (by decide) (fun _ => rfl) (fun z_11 _ => ⟨_, rfl, fun b H Y AY => by obtain rfl := Option.some.inj H; exact ets_nil, fun y _ H => by obtain ⟨n_12, hn_12, H⟩ := bindO H; obtain rfl := Option.some.inj H; exact ⟨⟨_, fun Y AY => (nmF AY sc_dearest_c2 7 rfl rfl rfl)⟩, _, (by first | rfl | exact heldOf_c), fun Y AY => (mul_ (nmF AY sc_dearest_c2 8 rfl rfl rfl) (nmF AY sc_dearest_c2 9 rfl rfl rfl) hn_12)⟩⟩)) (congrArg (fun x : (List (Str × Int)) => (enK kS D.int x)) (Option.some.inj hstrengths_14))) .own ?_
  show SS X [some (.bor (D.lst (List.map (fun x : (Str × Int × Int) => (D.tup [(D.str x.1), (D.int x.2.1), (D.int x.2.2)])) a_bidders))), some (.bor (D.lst (List.map D.int a_rates))), some (.frz (D.int a_floor)), some (.frz (D.tup (List.map D.str names_5))), some (.frz (D.tup (List.map D.str takers_9))), none, some (.own (enK kS D.int strengths_14)), none, none, none, none, none, none] _ _
  obtain ⟨ys_15, hys_15, H⟩ := bindO H
  obtain ⟨zs_18, hzs_18, H⟩ := bindO H
  obtain ⟨total_19, htotal_19, H⟩ := bindO H
  refine set_ A sc_dearest 10 rfl rfl (Ev.cv (ev_sumL A.calm (bn A sc_dearest 7 rfl g_sum bt_sum) (Ec.ev (lcM_ (en := (fun x : (Int × Str) => (D.tup [(D.int x.1), (D.str x.2)]))) D.int [("rate", 11), ("taker", 12)] .c A sc_dearest (by decide +kernel) (zipX_ (f := D.int) (g := D.str) false true .b (glo A sc_dearest 6 rfl) (by rw [A.eM]; exact g_zip) (nmB A sc_dearest 1 rfl rfl rfl) (Ev.toB (nmF A sc_dearest 4 rfl rfl rfl)) rfl rfl) hys_15 hzs_18 (Clear_of rfl) (fun Y AY => (tg_tp AY.calm (tgs_cons (tg AY sc_dearest_c3 11 rfl rfl) (tgs_cons (tg AY sc_dearest_c3 12 rfl rfl) tgs_nil rfl) rfl) rfl rfl)) (by decide) (fun _ => rfl) (fun z_16 _ => ⟨_, rfl, fun b H Y AY => by obtain rfl := Option.some.inj H; exact ets_nil, fun y _ H => by obtain ⟨n_17, hn_17, H⟩ := bindO H; obtain rfl := Option.some.inj H; exact ⟨_, rfl, fun Y AY => (mul_ (nmF AY sc_dearest_c3 11 rfl rfl rfl) (dgetD_ (c := kS) (f := D.int) AY.room.units (nmO AY sc_dearest_c3 6 rfl rfl rfl) (nmF AY sc_dearest_c3 12 rfl rfl rfl) (nmF AY sc_dearest_c3 2 rfl rfl rfl) ⟨rfl, rfl, rfl, rfl⟩) hn_17)⟩⟩))) rfl) (congrArg D.int (Option.some.inj htotal_19))) .int rfl ?_
  show SS X [some (.bor (D.lst (List.map (fun x : (Str × Int × Int) => (D.tup [(D.str x.1), (D.int x.2.1), (D.int x.2.2)])) a_bidders))), some (.bor (D.lst (List.map D.int a_rates))), some (.frz (D.int a_floor)), some (.frz (D.tup (List.map D.str names_5))), some (.frz (D.tup (List.map D.str takers_9))), none, some (.own (enK kS D.int strengths_14)), none, none, none, some (.frz (D.int total_19)), none, none] _ _
  obtain ⟨r_20, hr_20, H⟩ := bindO H
  obtain ⟨r_21, hr_21, H⟩ := bindO H
  obtain ⟨ob_22, hob_22, H⟩ := bindO H
  exact ss_ret (CalN.ev C_Allotment_Xinit A sc_dearest 10 rfl (by decide) (ea_cons (nmF A sc_dearest 4 rfl rfl rfl) (ea_cons (nmF A sc_dearest 10 rfl rfl rfl) (ea_cons (Cal.ev C_least_rents A sc_dearest 9 rfl (by decide) (ea_cons (nmB A sc_dearest 1 rfl rfl rfl) (ea_cons (Cal.ev C_strengths_behind A sc_dearest 8 rfl (by decide) (ea_cons (nmB A sc_dearest 0 rfl rfl rfl) (ea_cons (lenL_ (bn A sc_dearest 3 rfl g_len bt_len) (nmB A sc_dearest 1 rfl rfl rfl) rfl) (ea_cons (nmF A sc_dearest 2 rfl rfl rfl) ea_nil (.inl rfl) rfl) (.inl rfl) rfl) (.inl rfl) rfl) (.inr (.inl rfl)) (.inl rfl) rfl rfl ⟨a_bidders, (a_rates.length : Int), a_floor, r_20, rfl, hr_20, rfl, rfl⟩) ea_nil (.inl rfl) rfl) (.inl rfl) rfl) (.inr (.inl rfl)) (.inr (.inl rfl)) rfl rfl ⟨a_rates, r_20, r_21, rfl, hr_21, rfl, rfl⟩) ea_nil (.inl rfl) rfl) (.inl rfl) rfl) (.inl rfl) rfl) (.inl rfl) rfl rfl ⟨takers_9, total_19, r_21, ob_22, rfl, hob_22, rfl⟩) (⟨(congrArg (fun x : ((List Str) × Int × (List Int)) => (D.obj (cA Γ "Allotment") [("takers", (D.tup (List.map D.str x.1))), ("total", (D.int x.2.1)), ("rents", (D.tup (List.map D.int x.2.2)))])) (Option.some.inj H)), .refl⟩)
def m_law_ladder (a_crew : (List (Str × Int × Int))) (a_slots : Int) (a_sill : Int) : Option (List Str) :=
  ((lcG a_crew).bind fun ys_1 => ((lcM (fun z_2 : (Str × Int × Int) => some true) (fun z_2 : (Str × Int × Int) => ((mulG z_2.2.1 z_2.2.2).bind fun n_3 => some n_3)) ys_1).bind fun zs_4 => ((some zs_4).bind fun loads_5 => ((some ([] : (List Str))).bind fun names_6 => ((rng1G a_slots).bind fun r_7 => ((List.foldlM (fun (s_8 : ((List Str))) (z_9 : Int) => ((rng1G (a_crew.length : Int)).bind fun r_11 => ((List.foldlM (fun (s_12 : ((List Str))) (z_13 : Int) => ((rng1G (a_crew.length : Int)).bind fun r_15 => ((lcG r_15).bind fun ys_16 => ((lcM (fun z_17 : Int => ((idxG loads_5 z_17).bind fun x_18 => ((idxG loads_5 z_13).bind fun x_19 => ((if (decide (x_19 < x_18)) = true then some true else ((idxG loads_5 z_17).bind fun x_20 => ((idxG loads_5 z_13).bind fun x_21 => some ((decide (x_20 = x_21)) && (decide (z_17 < z_13)))))).bind fun q_22 => some q_22)))) (fun z_17 : Int => some z_17) ys_16).bind fun zs_23 => ((some zs_23).bind fun ahead_24 => ((if (decide ((ahead_24.length : Int) = z_9)) = true then ((idxG loads_5 z_13).bind fun x_25 => some (decide (a_sill ≤ x_25))) else some false).bind fun q_26 => ((if q_26 = true then ((idxG a_crew z_13).bind fun x_28 => ((appG s_12 x_28.1).bind fun names_29 => some names_29)) else some s_12 : Option ((List Str))).bind fun s_27 => some s_27))))))) s_8 r_11).bind fun s_14 => some s_14))) names_6 r_7).bind fun s_10 => some s_10))))))
def R_law_ladder : Rel := fun ds d k => ∃ (a_crew : (List (Str × Int × Int))) (a_slots : Int) (a_sill : Int) (r : (List Str)), ds = [(D.lst (List.map (fun x : (Str × Int × Int) => (D.tup [(D.str x.1), (D.int x.2.1), (D.int x.2.2)])) a_crew)), (D.int a_slots), (D.int a_sill)] ∧ m_law_ladder a_crew a_slots a_sill = some r ∧ d = (fun x : (List Str) => (D.tpx (List.map D.str x))) r ∧ k = .cln
abbrev N_law_ladder : List Str := ["crew", "slots", "sill", "loads", "name", "weight", "bid", "names", "rank", "k", "ahead", "j"]
theorem fs_law_ladder : FnScope N_law_ladder ["crew", "slots", "sill"] (defScope s_law_ladder) := ⟨rfl, rfl, rfl, by decide +kernel, rfl, by decide +kernel, by decide +kernel⟩
theorem sc_law_ladder : Sc N_law_ladder (defScope s_law_ladder) [0, 1, 2, 3, 7, 8, 9, 10] [3, 7, 8, 9, 10] ["range", "len", "tuple"] := ⟨fs_law_ladder.nd, by decide +kernel⟩
abbrev cs_law_ladder_c1 : Scope := compScope (s_law_ladder) [0, 1]
theorem sc_law_ladder_c1 : Sc N_law_ladder cs_law_ladder_c1 [5, 6] [4, 5, 6] [] := ⟨fs_law_ladder.nd, by decide +kernel⟩
abbrev cs_law_ladder_c2 : Scope := compScope (s_law_ladder) [2, 2, 2, 1]
theorem sc_law_ladder_c2 : Sc N_law_ladder cs_law_ladder_c2 [3, 9, 11] [11] [] := ⟨fs_law_ladder.nd, by decide +kernel⟩
theorem b_law_ladder {X : Cx} {Γ : Gd} (A : At X Γ N_law_ladder (defScope s_law_ladder) 0) (g_len : Γ.mg "len" = none) (g_range : Γ.mg "range" = none) (g_tuple : Γ.mg "tuple" = none) {ds : List D} {d : D} {k : Kd} (hR : R_law_ladder ds d k) :
    SS X (env0 12 ds) (defBody s_law_ladder) { rt := fun d' k' => d' = d ∧ Fits k' k d, nx := fun _ => d = .non ∧ k = .cln } := by
  obtain ⟨a_crew, a_slots, a_sill, r, rfl, H, rfl, rfl⟩ := hR
  unfold m_law_ladder at H
  obtain ⟨ys_1, hys_1, H⟩ := bindO H
  obtain ⟨zs_4, hzs_4, H⟩ := bindO H
  obtain ⟨loads_5, hloads_5, H⟩ := bindO H
  refine setLcC_ A sc_law_ladder 3 rfl (by decide +kernel) rfl (Ec.cv (lcM_ (en := (fun x : (Str × Int × Int) => (D.tup [(D.str x.1), (D.int x.2.1), (D.int x.2.2)]))) D.int [("name", 4), ("weight", 5), ("bid", 6)] .c A sc_law_ladder (by decide +kernel) (iter_ (nmB A sc_law_ladder 0 rfl rfl rfl) .lstB) hys_1 hzs_4 (Clear_of rfl) (fun Y AY => (tg_tp AY.calm (tgs_cons (tg AY sc_law_ladder_c1 4 rfl rfl) (tgs_cons (tg AY sc_law_ladder_c1 5 rfl rfl) (tgs_cons (tg AY sc_law_ladder_c1 6 rfl rfl) tgs_nil rfl) rfl) rfl) rfl rfl)) (by decide) (fun _ => rfl) (fun z_2 _ => ⟨_, rfl, fun b H Y AY => by obtain rfl := Option.some.inj H; exact ets_nil, fun y _ H => by obtain ⟨n_3, hn_3, H⟩ := bindO H; obtain rfl := Option.some.inj H; exact ⟨_, rfl, fun Y AY => (mul_ (nmF AY sc_law_ladder_c1 5 rfl rfl rfl) (nmF AY sc_law_ladder_c1 6 rfl rfl rfl) hn_3)⟩⟩)) (congrArg (fun x : (List Int) => (D.lst (List.map D.int x))) (Option.some.inj hloads_5))) .own ?_
  show SS X [some (.bor (D.lst (List.map (fun x : (Str × Int × Int) => (D.tup [(D.str x.1), (D.int x.2.1), (D.int x.2.2)])) a_crew))), some (.frz (D.int a_slots)), some (.frz (D.int a_sill)), some (.own (D.lst (List.map D.int loads_5))), none, none, none, none, none, none, none, none] _ _
  obtain ⟨names_6, hnames_6, H⟩ := bindO H
  refine set_ A sc_law_ladder 7 rfl rfl (Ev.cv (ev_list ea_nil (.inl rfl) (le_line rfl)) (congrArg (fun x : (List Str) => (D.lst (List.map D.str x))) (Option.some.inj hnames_6))) .own rfl ?_
  show SS X [some (.bor (D.lst (List.map (fun x : (Str × Int × Int) => (D.tup [(D.str x.1), (D.int x.2.1), (D.int x.2.2)])) a_crew))), some (.frz (D.int a_slots)), some (.frz (D.int a_sill)), some (.own (D.lst (List.map D.int loads_5))), none, none, none, some (.own (D.lst (List.map D.str names_6))), none, none, none, none] _ _
  obtain ⟨r_7, hr_7, H⟩ := bindO H
  obtain ⟨s_10, hs_10, H⟩ := bindO H
  refine forM_ (en := D.int) (fun s_8 : ((List Str)) => [some (.bor (D.lst (List.map (fun x : (Str × Int × Int) => (D.tup [(D.str x.1), (D.int x.2.1), (D.int x.2.2)])) a_crew))), some (.frz (D.int a_slots)), some (.frz (D.int a_sill)), some (.own (D.lst (List.map D.int loads_5))), none, none, none, some (.own (D.lst (List.map D.str s_8))), none, none, none, none]) A (rng1_ (glo A sc_law_ladder 0 rfl) (by rw [A.eM]; exact g_range) (nmF A sc_law_ladder 1 rfl rfl rfl) hr_7 rfl) (tg A sc_law_ladder 8 rfl rfl) (fun _ => rfl) hs_10 ?_ ?_ ?_
  · exact (wkr (wkr (wkr (wkr (wkn (wkn (wkn (wkr (wkn (wkn (wkn (wkn wk0))))))))))))
  · intro s_8 z_9 s' hx H
    refine ⟨_, rfl, ?_⟩
    obtain ⟨r_11, hr_11, H⟩ := bindO H
    obtain ⟨s_14, hs_14, H⟩ := bindO H
    refine forM_ (en := D.int) (fun s_12 : ((List Str)) => [some (.bor (D.lst (List.map (fun x : (Str × Int × Int) => (D.tup [(D.str x.1), (D.int x.2.1), (D.int x.2.2)])) a_crew))), some (.frz (D.int a_slots)), some (.frz (D.int a_sill)), some (.own (D.lst (List.map D.int loads_5))), none, none, none, some (.own (D.lst (List.map D.str s_12))), some (.frz (D.int z_9)), none, none, none]) A (rng1_ (glo A sc_law_ladder 0 rfl) (by rw [A.eM]; exact g_range) (lenL_ (bn A sc_law_ladder 1 rfl g_len bt_len) (nmB A sc_law_ladder 0 rfl rfl rfl) rfl) hr_11 rfl) (tg A sc_law_ladder 9 rfl rfl) (fun _ => rfl) hs_14 ?_ ?_ ?_
    · exact (wkr (wkr (wkr (wkr (wkn (wkn (wkn (wkr (wkr (wkn (wkn (wkn wk0))))))))))))
    · intro s_12 z_13 s' hx H
      refine ⟨_, rfl, ?_⟩
      obtain ⟨r_15, hr_15, H⟩ := bindO H
      obtain ⟨ys_16, hys_16, H⟩ := bindO H
      obtain ⟨zs_23, hzs_23, H⟩ := bindO H
      obtain ⟨ahead_24, hahead_24, H⟩ := bindO H
      refine setLc_ A sc_law_ladder 10 rfl (by decide +kernel) (by decide +kernel) rfl (by decide +kernel) (Ec.cv (lcM_ (en := D.int) D.int [("j", 11)] .c A sc_law_ladder (by decide +kernel) (rng1_ (glo A sc_law_ladder 0 rfl) (by rw [A.eM]; exact g_range) (lenL_ (bn A sc_law_ladder 1 rfl g_len bt_len) (nmB A sc_law_ladder 0 rfl rfl rfl) rfl) hr_15 rfl) hys_16 hzs_23 (Clear_of rfl) (fun Y AY => (tg AY sc_law_ladder_c2 11 rfl rfl)) (by decide) (fun _ => rfl) (fun z_17 _ => ⟨_, rfl, fun b H Y AY => by obtain ⟨x_18, hx_18, H⟩ := bindO H; obtain ⟨x_19, hx_19, H⟩ := bindO H; obtain ⟨q_22, hq_22, H⟩ := bindO H; obtain rfl := Option.some.inj H; exact (ets_one (Ew.et (ew_orM (et_cI (ixL_ (f := D.int) (nmO AY sc_law_ladder_c2 3 rfl rfl rfl) (nmF AY sc_law_ladder_c2 11 rfl rfl rfl) hx_18 (fun _ _ => rfl)) (ixL_ (f := D.int) (nmO AY sc_law_ladder_c2 3 rfl rfl rfl) (nmF AY sc_law_ladder_c2 9 rfl rfl rfl) hx_19 (fun _ _ => rfl)) .gt) hq_22 fun H => by obtain ⟨x_20, hx_20, H⟩ := bindO H; obtain ⟨x_21, hx_21, H⟩ := bindO H; obtain rfl := Option.some.inj H; exact (ew_or1 (Ew.et (ew_and (et_cI (ixL_ (f := D.int) (nmO AY sc_law_ladder_c2 3 rfl rfl rfl) (nmF AY sc_law_ladder_c2 11 rfl rfl rfl) hx_20 (fun _ _ => rfl)) (ixL_ (f := D.int) (nmO AY sc_law_ladder_c2 3 rfl rfl rfl) (nmF AY sc_law_ladder_c2 9 rfl rfl rfl) hx_21 (fun _ _ => rfl)) .eq) fun _ => (ew_and1 (et_cI (nmF AY sc_law_ladder_c2 11 rfl rfl rfl) (nmF AY sc_law_ladder_c2 9 rfl rfl rfl) .lt)))))))), fun y _ H => by obtain rfl := Option.some.inj H; exact ⟨_, rfl, fun Y AY => (nmF AY sc_law_ladder_c2 11 rfl rfl rfl)⟩⟩)) (congrArg (fun x : (List Int) => (D.lst (List.map D.int x))) (Option.some.inj hahead_24))) .own ?_
      show SS X [some (.bor (D.lst (List.map (fun x : (Str × Int × Int) => (D.tup [(D.str x.1), (D.int x.2.1), (D.int x.2.2)])) a_crew))), some (.frz (D.int a_slots)), some (.frz (D.int a_sill)), some (.own (D.lst (List.map D.int loads_5))), none, none, none, some (.own (D.lst (List.map D.str s_12))), some (.frz (D.int z_9)), some (.frz (D.int z_13)), some (.own (D.lst (List.map D.int ahead_24))), none] _ _
      obtain ⟨q_26, hq_26, H⟩ := bindO H
      obtain ⟨s_27, hs_27, H⟩ := bindO H
      refine ss_ifM [some (.bor (D.lst (List.map (fun x : (Str × Int × Int) => (D.tup [(D.str x.1), (D.int x.2.1), (D.int x.2.2)])) a_crew))), some (.frz (D.int a_slots)), some (.frz (D.int a_sill)), some (.own (D.lst (List.map D.int loads_5))), none, none, none, some (.own (D.lst (List.map D.str s_27))), some (.frz (D.int z_9)), some (.frz (D.int z_13)), some (.own (D.lst (List.map D.int ahead_24))), none] (Ew.et (ew_andM (et_cI (lenL_ (bn A sc_law_ladder 1 rfl g_len bt_len) (nmO A sc_law_ladder 10 rfl rfl rfl) rfl) (nmF A sc_law_ladder 8 rfl rfl rfl) .eq) hq_26 fun H => by obtain ⟨x_25, hx_25, H⟩ := bindO H; obtain rfl := Option.some.inj H; exact (ew_and1 (et_cI (ixL_ (f := D.int) (nmO A sc_law_ladder 3 rfl rfl rfl) (nmF A sc_law_ladder 9 rfl rfl rfl) hx_25 (fun _ _ => rfl)) (nmF A sc_law_ladder 2 rfl rfl rfl) .ge)))) ?_ (fun hc => ?_) (fun hc => ?_)
      · skip
        obtain rfl := Option.some.inj H
        refine ss_nil ?_
        exact (wkr (wkr (wkr (wkr (wkn (wkn (wkn (wkr (wkr (wkn (wkn (wkn wk0))))))))))))
      · replace H := ifT hs_27 hc
        obtain ⟨x_28, hx_28, H⟩ := bindO H
        obtain ⟨names_29, hnames_29, H⟩ := bindO H
        refine app_ (en := D.str) (x := x_28.1) A sc_law_ladder 7 rfl rfl rfl (ix_ (ixL_ (f := (fun x : (Str × Int × Int) => (D.tup [(D.str x.1), (D.int x.2.1), (D.int x.2.2)]))) (Ev.shlI (nmB A sc_law_ladder 0 rfl rfl rfl) (imms_map (fun _ => (imm_tup (imm_cons rfl (imm_cons rfl (imm_cons rfl rfl))))) _)) (nmF A sc_law_ladder 9 rfl rfl rfl) hx_28 (fun _ _ => rfl)) ev_int (.tup rfl) (fun _ _ => rfl)) (by first | rfl | exact heldOf_c) hnames_29 ⟨rfl, rfl, rfl⟩ rfl rfl ?_
        show SS X [some (.bor (D.lst (List.map (fun x : (Str × Int × Int) => (D.tup [(D.str x.1), (D.int x.2.1), (D.int x.2.2)])) a_crew))), some (.frz (D.int a_slots)), some (.frz (D.int a_sill)), some (.own (D.lst (List.map D.int loads_5))), none, none, none, some (.own (D.lst (List.map D.str names_29))), some (.frz (D.int z_9)), some (.frz (D.int z_13)), some (.own (D.lst (List.map D.int ahead_24))), none] _ _
        obtain rfl := Option.some.inj H
        refine ss_nil ?_
        exact (wkr (wkr (wkr (wkr (wkn (wkn (wkn (wkr (wkr (wkr (wkr (wkn wk0))))))))))))
      · replace H := ifF hs_27 hc
        obtain rfl := Option.some.inj H
        refine ss_nil ?_
        exact (wkr (wkr (wkr (wkr (wkn (wkn (wkn (wkr (wkr (wkr (wkr (wkn wk0))))))))))))
    obtain rfl := Option.some.inj H
    refine ss_nil ?_
    exact (wkr (wkr (wkr (wkr (wkn (wkn (wkn (wkr (wkn (wkn (wkn (wkn wk0))))))))))))
  exact ss_ret (tupleX_ (bn A sc_law_ladder 2 rfl g_tuple bt_tuple) (nmO A sc_law_ladder 7 rfl rfl rfl) rfl) (⟨(congrArg (fun x : (List Str) => (D.tpx (List.map D.str x))) (Option.some.inj H)), .refl⟩)
def m_law_integer (a_got : D) : Option Bool :=
  ((isiG "int" a_got).bind fun q_1 => ((if q_1 = true then ((isiG "bool" a_got).bind fun q_2 => some (!q_2)) else some false).bind fun q_3 => some q_3))
def R_law_integer : Rel := fun ds d k => ∃ (a_got : D) (r : Bool), ds = [a_got] ∧ m_law_integer a_got = some r ∧ d = D.bl r ∧ k = .cln
abbrev N_law_integer : List Str := ["got"]
theorem fs_law_integer : FnScope N_law_integer ["got"] (defScope s_law_integer) := ⟨rfl, rfl, rfl, by decide +kernel, rfl, by decide +kernel, by decide +kernel⟩
theorem sc_law_integer : Sc N_law_integer (defScope s_law_integer) [0] [] ["isinstance", "int", "bool"] := ⟨fs_law_integer.nd, by decide +kernel⟩
theorem b_law_integer {X : Cx} {Γ : Gd} (A : At X Γ N_law_integer (defScope s_law_integer) 0) (g_bool : Γ.mg "bool" = none) (g_int : Γ.mg "int" = none) (g_isinstance : Γ.mg "isinstance" = none) {ds : List D} {d : D} {k : Kd} (hR : R_law_integer ds d k) :
    SS X (env0 1 ds) (defBody s_law_integer) { rt := fun d' k' => d' = d ∧ Fits k' k d, nx := fun _ => d = .non ∧ k = .cln } := by
  obtain ⟨a_got, r, rfl, H, rfl, rfl⟩ := hR
  unfold m_law_integer at H
  obtain ⟨q_1, hq_1, H⟩ := bindO H
  obtain ⟨q_3, hq_3, H⟩ := bindO H
  exact ss_ret (ev_andM (isiG_ (bn A sc_law_integer 0 rfl g_isinstance bt_isinstance) (nm2 A sc_law_integer 0 rfl rfl rfl) (bn A sc_law_integer 1 rfl g_int bt_int) rfl rfl hq_1) hq_3 fun H => by obtain ⟨q_2, hq_2, H⟩ := bindO H; obtain rfl := Option.some.inj H; exact (ev_one (ev_not (isiG_ (bn A sc_law_integer 0 rfl g_isinstance bt_isinstance) (nm2 A sc_law_integer 0 rfl rfl rfl) (bn A sc_law_integer 2 rfl g_bool bt_bool) rfl rfl hq_2)))) (⟨(congrArg D.bl (Option.some.inj H)), .bl⟩)
def m_law_same : Nat → D → D → Option Bool
  | 0, _, _ => none
  | n + 1, a_got, a_wanted =>
  (if (D.isN a_wanted) = true then some (D.isN a_got) else (if (D.isT true a_wanted) = true then some (D.isT true a_got) else (if (D.isT false a_wanted) = true then some (D.isT false a_got) else ((isiG "int" a_wanted).bind fun q_1 => (if q_1 = true then ((m_law_integer a_got).bind fun r_2 => ((if r_2 = true then ((eqG a_got a_wanted).bind fun q_3 => some q_3) else some false).bind fun q_4 => some q_4)) else ((isiG "str" a_wanted).bind fun q_5 => (if q_5 = true then ((isiG "str" a_got).bind fun q_6 => ((if q_6 = true then ((eqG a_got a_wanted).bind fun q_7 => some q_7) else some false).bind fun q_8 => some q_8)) else ((isiG "tuple" a_wanted).bind fun q_9 => ((if q_9 = true then ((isiG "tuple" a_got).bind fun q_10 => some (!q_10)) else some false).bind fun q_11 => (if q_11 = true then some false else ((isiG "list" a_wanted).bind fun q_12 => ((if q_12 = true then ((isiG "list" a_got).bind fun q_13 => some (!q_13)) else some false).bind fun q_14 => (if q_14 = true then some false else ((lenDG a_got).bind fun n_15 => ((lenDG a_wanted).bind fun n_16 => (if (!decide (n_15 = n_16)) = true then some false else ((lenDG a_wanted).bind fun n_17 => ((rng1G n_17).bind fun r_18 => ((loopM (fun (s_19 : Unit) (z_20 : Int) => (((idxDG a_got z_20).bind fun x_22 => ((idxDG a_wanted z_20).bind fun x_23 => ((m_law_same n x_22 x_23).bind fun r_24 => (if (!r_24) = true then some (Ctl.ret false) else some (Ctl.nx ()))))) : Option (Ctl Unit Bool))) () r_18).bind fun s_21 => match s_21 with | .nx s_211 => some true | .ret r_25 => some r_25 | .brk _ => none)))))))))))))))))))
def R_law_same (n : Nat) : Rel := fun ds d k => ∃ (a_got : D) (a_wanted : D) (r : Bool), ds = [a_got, a_wanted] ∧ m_law_same n a_got a_wanted = some r ∧ d = D.bl r ∧ k = .cln
abbrev N_law_same : List Str := ["got", "wanted", "k"]
theorem fs_law_same : FnScope N_law_same ["got", "wanted"] (defScope s_law_same) := ⟨rfl, rfl, rfl, by decide +kernel, rfl, by decide +kernel, by decide +kernel⟩
theorem sc_law_same : Sc N_law_same (defScope s_law_same) [0, 1, 2] [2] ["isinstance", "int", "_law_integer", "str", "tuple", "list", "len", "range", "_law_same"] := ⟨fs_law_same.nd, by decide +kernel⟩
theorem b_law_same {X : Cx} {Γ : Gd} {n : Nat} (A : At X Γ N_law_same (defScope s_law_same) (2 + n)) (g_int : Γ.mg "int" = none) (g_isinstance : Γ.mg "isinstance" = none) (g_len : Γ.mg "len" = none) (g_list : Γ.mg "list" = none) (g_range : Γ.mg "range" = none) (g_str : Γ.mg "str" = none) (g_tuple : Γ.mg "tuple" = none) (C_law_integer : Cal Γ "_law_integer" R_law_integer 1 []) (C_law_same : Cal Γ "_law_same" (R_law_same n) (2 + n) []) {ds : List D} {d : D} {k : Kd} (hR : R_law_same (n + 1) ds d k) :
    SS X (env0 3 ds) (defBody s_law_same) { rt := fun d' k' => d' = d ∧ Fits k' k d, nx := fun _ => d = .non ∧ k = .cln } := by
  obtain ⟨a_got, a_wanted, r, rfl, H, rfl, rfl⟩ := hR
  unfold m_law_same at H
  refine ss_if (et_isN (nm2 A sc_law_same 1 rfl rfl rfl) rfl) (fun hc => ?_) (fun hc => ?_)
  · replace H := ifT H hc
    exact ss_ret (ev_isN (nm2 A sc_law_same 0 rfl rfl rfl) rfl) (⟨(congrArg D.bl (Option.some.inj H)), .bl⟩)
  · replace H := ifF H hc
    refine ss_nil ?_
    show SS X _ _ _
    refine ss_if (et_isT (nm2 A sc_law_same 1 rfl rfl rfl) rfl) (fun hc => ?_) (fun hc => ?_)
    · replace H := ifT H hc
      exact ss_ret (ev_isT (nm2 A sc_law_same 0 rfl rfl rfl) rfl) (⟨(congrArg D.bl (Option.some.inj H)), .bl⟩)
    · replace H := ifF H hc
      refine ss_nil ?_
      show SS X _ _ _
      refine ss_if (et_isT (nm2 A sc_law_same 1 rfl rfl rfl) rfl) (fun hc => ?_) (fun hc => ?_)
      · replace H := ifT H hc
        exact ss_ret (ev_isT (nm2 A sc_law_same 0 rfl rfl rfl) rfl) (⟨(congrArg D.bl (Option.some.inj H)), .bl⟩)
      · replace H := ifF H hc
        refine ss_nil ?_
        show SS X _ _ _
        obtain ⟨q_1, hq_1, H⟩ := bindO H
        refine ss_if (Ev.et (isiG_ (bn A sc_law_same 0 rfl g_isinstance bt_isinstance) (nm2 A sc_law_same 1 rfl rfl rfl) (bn A sc_law_same 1 rfl g_int bt_int) rfl rfl hq_1) fun _ => rfl) (fun hc => ?_) (fun hc => ?_)
        · replace H := ifT H hc
          obtain ⟨r_2, hr_2, H⟩ := bindO H
          obtain ⟨q_4, hq_4, H⟩ := bindO H
          exact ss_ret (ev_andM (Cal.ev C_law_integer A sc_law_same 2 rfl (by omega) (ea_consH (nm2 A sc_law_same 0 rfl rfl rfl) ea_nil (.inl rfl) rfl) (.inr (.inl rfl)) (.inr (.inl rfl)) rfl rfl ⟨a_got, r_2, rfl, hr_2, rfl, rfl⟩) hq_4 fun H => by obtain ⟨q_3, hq_3, H⟩ := bindO H; obtain rfl := Option.some.inj H; exact (ev_one (ev_eqG A.room.units (nm2 A sc_law_same 0 rfl rfl rfl) (nm2 A sc_law_same 1 rfl rfl rfl) hq_3))) (⟨(congrArg D.bl (Option.some.inj H)), .bl⟩)
        · replace H := ifF H hc
          refine ss_nil ?_
          show SS X _ _ _
          obtain ⟨q_5, hq_5, H⟩ := bindO H
          refine ss_if (Ev.et (isiG_ (bn A sc_law_same 0 rfl g_isinstance bt_isinstance) (nm2 A sc_law_same 1 rfl rfl rfl) (bn A sc_law_same 3 rfl g_str bt_str) rfl rfl hq_5) fun _ => rfl) (fun hc => ?_) (fun hc => ?_)
          · replace H := ifT H hc
            obtain ⟨q_6, hq_6, H⟩ := bindO H
            obtain ⟨q_8, hq_8, H⟩ := bindO H
            exact ss_ret (ev_andM (isiG_ (bn A sc_law_same 0 rfl g_isinstance bt_isinstance) (nm2 A sc_law_same 0 rfl rfl rfl) (bn A sc_law_same 3 rfl g_str bt_str) rfl rfl hq_6) hq_8 fun H => by obtain ⟨q_7, hq_7, H⟩ := bindO H; obtain rfl := Option.some.inj H; exact (ev_one (ev_eqG A.room.units (nm2 A sc_law_same 0 rfl rfl rfl) (nm2 A sc_law_same 1 rfl rfl rfl) hq_7))) (⟨(congrArg D.bl (Option.some.inj H)), .bl⟩)
          · replace H := ifF H hc
            refine ss_nil ?_
            show SS X _ _ _
            obtain ⟨q_9, hq_9, H⟩ := bindO H
            obtain ⟨q_11, hq_11, H⟩ := bindO H
            refine ss_if (Ew.et (ew_andM (Ev.et (isiG_ (bn A sc_law_same 0 rfl g_isinstance bt_isinstance) (nm2 A sc_law_same 1 rfl rfl rfl) (bn A sc_law_same 4 rfl g_tuple bt_tuple) rfl rfl hq_9) fun _ => rfl) hq_11 fun H => by obtain ⟨q_10, hq_10, H⟩ := bindO H; obtain rfl := Option.some.inj H; exact (ew_and1 (et_not (Ev.et (isiG_ (bn A sc_law_same 0 rfl g_isinstance bt_isinstance) (nm2 A sc_law_same 0 rfl rfl rfl) (bn A sc_law_same 4 rfl g_tuple bt_tuple) rfl rfl hq_10) fun _ => rfl))))) (fun hc => ?_) (fun hc => ?_)
            · replace H := ifT H hc
              exact ss_ret ev_bl (⟨(congrArg D.bl (Option.some.inj H)), .bl⟩)
            · replace H := ifF H hc
              refine ss_nil ?_
              show SS X _ _ _
              obtain ⟨q_12, hq_12, H⟩ := bindO H
              obtain ⟨q_14, hq_14, H⟩ := bindO H
              refine ss_if (Ew.et (ew_andM (Ev.et (isiG_ (bn A sc_law_same 0 rfl g_isinstance bt_isinstance) (nm2 A sc_law_same 1 rfl rfl rfl) (bn A sc_law_same 5 rfl g_list bt_list) rfl rfl hq_12) fun _ => rfl) hq_14 fun H => by obtain ⟨q_13, hq_13, H⟩ := bindO H; obtain rfl := Option.some.inj H; exact (ew_and1 (et_not (Ev.et (isiG_ (bn A sc_law_same 0 rfl g_isinstance bt_isinstance) (nm2 A sc_law_same 0 rfl rfl rfl) (bn A sc_law_same 5 rfl g_list bt_list) rfl rfl hq_13) fun _ => rfl))))) (fun hc => ?_) (fun hc => ?_)
              · replace H := ifT H hc
                exact ss_ret ev_bl (⟨(congrArg D.bl (Option.some.inj H)), .bl⟩)
              · replace H := ifF H hc
                refine ss_nil ?_
                show SS X _ _ _
                obtain ⟨n_15, hn_15, H⟩ := bindO H
                obtain ⟨n_16, hn_16, H⟩ := bindO H
                refine ss_if (et_cI (lenD_ (bn A sc_law_same 6 rfl g_len bt_len) (nm2 A sc_law_same 0 rfl rfl rfl) hn_15 rfl) (lenD_ (bn A sc_law_same 6 rfl g_len bt_len) (nm2 A sc_law_same 1 rfl rfl rfl) hn_16 rfl) .ne) (fun hc => ?_) (fun hc => ?_)
                · replace H := ifT H hc
                  exact ss_ret ev_bl (⟨(congrArg D.bl (Option.some.inj H)), .bl⟩)
                · replace H := ifF H hc
                  refine ss_nil ?_
                  show SS X _ _ _
                  obtain ⟨n_17, hn_17, H⟩ := bindO H
                  obtain ⟨r_18, hr_18, H⟩ := bindO H
                  obtain ⟨s_21, hs_21, H⟩ := bindO H
                  refine forR_ (en := D.int) (fun s_19 : Unit => [some (slot2 .b a_got), some (slot2 .b a_wanted), none]) (fun r d k => d = D.bl r ∧ Fits k .cln (D.bl r)) A (rng1_ (glo A sc_law_same 7 rfl) (by rw [A.eM]; exact g_range) (lenD_ (bn A sc_law_same 6 rfl g_len bt_len) (nm2 A sc_law_same 1 rfl rfl rfl) hn_17 rfl) hr_18 rfl) (tg A sc_law_same 2 rfl rfl) (fun _ => rfl) hs_21 ?_ ?_ ?_ ?_
                  · exact (wkr (wkr (wkn wk0)))
                  · intro s_19 z_20 c' hx H
                    refine ⟨_, rfl, ?_⟩
                    obtain ⟨x_22, hx_22, H⟩ := bindO H
                    obtain ⟨x_23, hx_23, H⟩ := bindO H
                    obtain ⟨r_24, hr_24, H⟩ := bindO H
                    refine ss_if (et_not (Ev.et (Cal.ev C_law_same A sc_law_same 8 rfl (by omega) (ea_consH (ixD_ (nm2 A sc_law_same 0 rfl rfl rfl) (nmF A sc_law_same 2 rfl rfl rfl) hx_22 (fun _ _ => rfl)) (ea_consH (ixD_ (nm2 A sc_law_same 1 rfl rfl rfl) (nmF A sc_law_same 2 rfl rfl rfl) hx_23 (fun _ _ => rfl)) ea_nil (.inl rfl) rfl) (.inr (.inl rfl)) rfl) (.inr (.inl rfl)) (.inr (.inl rfl)) rfl rfl ⟨x_22, x_23, r_24, rfl, hr_24, rfl, rfl⟩) fun _ => rfl)) (fun hc => ?_) (fun hc => ?_)
                    · replace H := ifT H hc
                      exact ss_ret ev_bl (⟨_, (Option.some.inj H).symm, rfl, .bl⟩)
                    · replace H := ifF H hc
                      refine ss_nil ?_
                      show SS X _ _ _
                      obtain rfl := Option.some.inj H
                      refine ss_nil ⟨_, rfl, ?_⟩
                      exact (wkr (wkr (wkn wk0)))
                  · intro r_25 d k e ⟨hd, hf⟩
                    subst e
                    subst hd
                    exact ⟨(congrArg D.bl (Option.some.inj H)), (Option.some.inj H) ▸ hf⟩
                  · intro s_211 e
                    subst e
                    exact ss_ret ev_bl (⟨(congrArg D.bl (Option.some.inj H)), .bl⟩)
def m_law_integer_2 (a_got : Int) : Option Bool :=
  some true
def R_law_integer_2 : Rel := fun ds d k => ∃ (a_got : Int) (r : Bool), ds = [(D.int a_got)] ∧ m_law_integer_2 a_got = some r ∧ d = D.bl r ∧ k = .cln
abbrev N_law_integer_2 : List Str := ["got"]
theorem fs_law_integer_2 : FnScope N_law_integer_2 ["got"] (defScope s_law_integer) := ⟨rfl, rfl, rfl, by decide +kernel, rfl, by decide +kernel, by decide +kernel⟩
theorem sc_law_integer_2 : Sc N_law_integer_2 (defScope s_law_integer) [0] [] ["isinstance", "int", "bool"] := ⟨fs_law_integer_2.nd, by decide +kernel⟩
theorem b_law_integer_2 {X : Cx} {Γ : Gd} (A : At X Γ N_law_integer_2 (defScope s_law_integer) 0) (g_bool : Γ.mg "bool" = none) (g_int : Γ.mg "int" = none) (g_isinstance : Γ.mg "isinstance" = none) {ds : List D} {d : D} {k : Kd} (hR : R_law_integer_2 ds d k) :
    SS X (env0 1 ds) (defBody s_law_integer) { rt := fun d' k' => d' = d ∧ Fits k' k d, nx := fun _ => d = .non ∧ k = .cln } := by
  obtain ⟨a_got, r, rfl, H, rfl, rfl⟩ := hR
  unfold m_law_integer_2 at H
  exact ss_ret (ev_and (isi_ (p := true) (bn A sc_law_integer_2 0 rfl g_isinstance bt_isinstance) (nmF A sc_law_integer_2 0 rfl rfl rfl) (bn A sc_law_integer_2 1 rfl g_int bt_int) rfl rfl (by rfl)) fun _ => (ev_one (ev_not (isi_ (p := false) (bn A sc_law_integer_2 0 rfl g_isinstance bt_isinstance) (nmF A sc_law_integer_2 0 rfl rfl rfl) (bn A sc_law_integer_2 2 rfl g_bool bt_bool) rfl rfl (by rfl))))) (⟨(congrArg D.bl (Option.some.inj H)), .bl⟩)
def m_law_ways (a_loads : (List Int)) (a_scale : (List Int)) (a_sill : Int) : Option (List ((List Int) × Int)) :=
  ((some [(([] : (List Int)), (0 : Int))]).bind fun ways_1 => ((List.foldlM (fun (s_2 : ((List ((List Int) × Int)))) (z_3 : Int) => ((some ([] : (List ((List Int) × Int)))).bind fun longer_5 => ((List.foldlM (fun (s_6 : ((List ((List Int) × Int)))) (z_7 : ((List Int) × Int)) => ((mulG z_3 a_sill).bind fun n_9 => ((appG s_6 (z_7.1, (z_7.2 + n_9))).bind fun longer_10 => ((rng1G (a_loads.length : Int)).bind fun r_11 => ((List.foldlM (fun (s_12 : ((List ((List Int) × Int)))) (z_13 : Int) => ((if (!(decide (z_13 ∈ z_7.1))) = true then ((catG z_7.1 [z_13]).bind fun xs_16 => ((idxG a_loads z_13).bind fun x_17 => ((mulG z_3 x_17).bind fun n_18 => ((appG s_12 (xs_16, (z_7.2 + n_18))).bind fun longer_19 => some longer_19)))) else some s_12 : Option ((List ((List Int) × Int)))).bind fun s_15 => some s_15)) longer_10 r_11).bind fun s_14 => some s_14))))) longer_5 s_2).bind fun s_8 => ((some s_8).bind fun ways_20 => some ways_20)))) ways_1 a_scale).bind fun s_4 => some s_4))
def R_law_ways : Rel := fun ds d k => ∃ (a_loads : (List Int)) (a_scale : (List Int)) (a_sill : Int) (r : (List ((List Int) × Int))), ds = [(D.lst (List.map D.int a_loads)), (D.lst (List.map D.int a_scale)), (D.int a_sill)] ∧ m_law_ways a_loads a_scale a_sill = some r ∧ d = (fun x : (List ((List Int) × Int)) => (D.lst (List.map (fun x : ((List Int) × Int) => (D.tup [(D.lst (List.map D.int x.1)), (D.int x.2)])) x))) r ∧ k = .cln
abbrev N_law_ways : List Str := ["loads", "scale", "sill", "ways", "rate", "longer", "used", "whole", "k"]
theorem fs_law_ways : FnScope N_law_ways ["loads", "scale", "sill"] (defScope s_law_ways) := ⟨rfl, rfl, rfl, by decide +kernel, rfl, by decide +kernel, by decide +kernel⟩
theorem sc_law_ways : Sc N_law_ways (defScope s_law_ways) [0, 1, 2, 3, 4, 5, 6, 7, 8] [3, 4, 5, 6, 7, 8] ["list", "range", "len"] := ⟨fs_law_ways.nd, by decide +kernel⟩
theorem b_law_ways {X : Cx} {Γ : Gd} (A : At X Γ N_law_ways (defScope s_law_ways) 0) (g_len : Γ.mg "len" = none) (g_list : Γ.mg "list" = none) (g_range : Γ.mg "range" = none) {ds : List D} {d : D} {k : Kd} (hR : R_law_ways ds d k) :
    SS X (env0 9 ds) (defBody s_law_ways) { rt := fun d' k' => d' = d ∧ Fits k' k d, nx := fun _ => d = .non ∧ k = .cln } := by
  obtain ⟨a_loads, a_scale, a_sill, r, rfl, H, rfl, rfl⟩ := hR
  unfold m_law_ways at H
  obtain ⟨ways_1, hways_1, H⟩ := bindO H
  refine set_ A sc_law_ways 3 rfl rfl (Ev.cv (Ev.cv (ev_list (ea_cons (Ev.cv (ev_tup (ea_cons (ev_list ea_nil (.inl rfl) (le_line rfl)) (ea_cons ev_int ea_nil (.inl rfl) rfl) (.inl rfl) rfl) (.inl rfl) (le_line rfl)) rfl) ea_nil (.inl rfl) rfl) (.inl rfl) (le_line rfl)) rfl) (congrArg (fun x : (List ((List Int) × Int)) => (D.lst (List.map (fun x : ((List Int) × Int) => (D.tup [(D.lst (List.map D.int x.1)), (D.int x.2)])) x))) (Option.some.inj hways_1))) .own rfl ?_
  refine ss_frz 3 rfl ?_
  show SS X [some (.bor (D.lst (List.map D.int a_loads))), some (.bor (D.lst (List.map D.int a_scale))), some (.frz (D.int a_sill)), some (.frz (D.lst (List.map (fun x : ((List Int) × Int) => (D.tup [(D.lst (List.map D.int x.1)), (D.int x.2)])) ways_1))), none, none, none, none, none] _ _
  obtain ⟨s_4, hs_4, H⟩ := bindO H
  refine forM_ (en := D.int) (fun s_2 : ((List ((List Int) × Int))) => [some (.bor (D.lst (List.map D.int a_loads))), some (.bor (D.lst (List.map D.int a_scale))), some (.frz (D.int a_sill)), some (.frz (D.lst (List.map (fun x : ((List Int) × Int) => (D.tup [(D.lst (List.map D.int x.1)), (D.int x.2)])) s_2))), none, none, none, none, none]) A (iter_ (nmB A sc_law_ways 1 rfl rfl rfl) .lstB) (tg A sc_law_ways 4 rfl rfl) (fun _ => rfl) hs_4 ?_ ?_ ?_
  · exact (wkr (wkr (wkr (wkr (wkn (wkn (wkn (wkn (wkn wk0)))))))))
  · intro s_2 z_3 s' hx H
    refine ⟨_, rfl, ?_⟩
    obtain ⟨longer_5, hlonger_5, H⟩ := bindO H
    refine set_ A sc_law_ways 5 rfl rfl (Ev.cv (ev_list ea_nil (.inl rfl) (le_line rfl)) (congrArg (fun x : (List ((List Int) × Int)) => (D.lst (List.map (fun x : ((List Int) × Int) => (D.tup [(D.lst (List.map D.int x.1)), (D.int x.2)])) x))) (Option.some.inj hlonger_5))) .own rfl ?_
    show SS X [some (.bor (D.lst (List.map D.int a_loads))), some (.bor (D.lst (List.map D.int a_scale))), some (.frz (D.int a_sill)), some (.frz (D.lst (List.map (fun x : ((List Int) × Int) => (D.tup [(D.lst (List.map D.int x.1)), (D.int x.2)])) s_2))), some (.frz (D.int z_3)), some (.own (D.lst (List.map (fun x : ((List Int) × Int) => (D.tup [(D.lst (List.map D.int x.1)), (D.int x.2)])) longer_5))), none, none, none] _ _
    obtain ⟨s_8, hs_8, H⟩ := bindO H
    refine forM_ (en := (fun x : ((List Int) × Int) => (D.tup [(D.lst (List.map D.int x.1)), (D.int x.2)]))) (fun s_6 : ((List ((List Int) × Int))) => [some (.bor (D.lst (List.map D.int a_loads))), some (.bor (D.lst (List.map D.int a_scale))), some (.frz (D.int a_sill)), some (.frz (D.lst (List.map (fun x : ((List Int) × Int) => (D.tup [(D.lst (List.map D.int x.1)), (D.int x.2)])) s_2))), some (.frz (D.int z_3)), some (.own (D.lst (List.map (fun x : ((List Int) × Int) => (D.tup [(D.lst (List.map D.int x.1)), (D.int x.2)])) s_6))), none, none, none]) A (iter_ (list_ (bn A sc_law_ways 0 rfl g_list bt_list) (nmF A sc_law_ways 3 rfl rfl rfl) .lst rfl) .lstO) (tg_tp A.calm (tgs_cons (tg A sc_law_ways 6 rfl rfl) (tgs_cons (tg A sc_law_ways 7 rfl rfl) tgs_nil rfl) rfl) rfl rfl) (fun _ => rfl) hs_8 ?_ ?_ ?_
    · exact (wkr (wkr (wkr (wkr (wkr (wkr (wkn (wkn (wkn wk0)))))))))
    · intro s_6 z_7 s' hx H
      refine ⟨_, rfl, ?_⟩
      obtain ⟨n_9, hn_9, H⟩ := bindO H
      obtain ⟨longer_10, hlonger_10, H⟩ := bindO H
      refine app_ (en := (fun x : ((List Int) × Int) => (D.tup [(D.lst (List.map D.int x.1)), (D.int x.2)]))) (x := (z_7.1, (z_7.2 + n_9))) A sc_law_ways 5 rfl rfl rfl (ev_tup (ea_cons (nmF A sc_law_ways 6 rfl rfl rfl) (ea_cons (ev_add (nmF A sc_law_ways 7 rfl rfl rfl) (mul_ (nmF A sc_law_ways 4 rfl rfl rfl) (nmF A sc_law_ways 2 rfl rfl rfl) hn_9)) ea_nil (.inl rfl) rfl) (.inl rfl) rfl) (.inl rfl) (le_line rfl)) (by first | rfl | exact heldOf_c) hlonger_10 ⟨rfl, rfl, rfl⟩ rfl rfl ?_
      show SS X [some (.bor (D.lst (List.map D.int a_loads))), some (.bor (D.lst (List.map D.int a_scale))), some (.frz (D.int a_sill)), some (.frz (D.lst (List.map (fun x : ((List Int) × Int) => (D.tup [(D.lst (List.map D.int x.1)), (D.int x.2)])) s_2))), some (.frz (D.int z_3)), some (.own (D.lst (List.map (fun x : ((List Int) × Int) => (D.tup [(D.lst (List.map D.int x.1)), (D.int x.2)])) longer_10))), some (.frz (D.lst (List.map D.int z_7.1))), some (.frz (D.int z_7.2)), none] _ _
      obtain ⟨r_11, hr_11, H⟩ := bindO H
      obtain ⟨s_14, hs_14, H⟩ := bindO H
      refine forM_ (en := D.int) (fun s_12 : ((List ((List Int) × Int))) => [some (.bor (D.lst (List.map D.int a_loads))), some (.bor (D.lst (List.map D.int a_scale))), some (.frz (D.int a_sill)), some (.frz (D.lst (List.map (fun x : ((List Int) × Int) => (D.tup [(D.lst (List.map D.int x.1)), (D.int x.2)])) s_2))), some (.frz (D.int z_3)), some (.own (D.lst (List.map (fun x : ((List Int) × Int) => (D.tup [(D.lst (List.map D.int x.1)), (D.int x.2)])) s_12))), some (.frz (D.lst (List.map D.int z_7.1))), some (.frz (D.int z_7.2)), none]) A (rng1_ (glo A sc_law_ways 1 rfl) (by rw [A.eM]; exact g_range) (lenL_ (bn A sc_law_ways 2 rfl g_len bt_len) (nmB A sc_law_ways 0 rfl rfl rfl) rfl) hr_11 rfl) (tg A sc_law_ways 8 rfl rfl) (fun _ => rfl) hs_14 ?_ ?_ ?_
      · exact (wkr (wkr (wkr (wkr (wkr (wkr (wkr (wkr (wkn wk0)))))))))
      · intro s_12 z_13 s' hx H
        refine ⟨_, rfl, ?_⟩
        obtain ⟨s_15, hs_15, H⟩ := bindO H
        refine ss_ifM [some (.bor (D.lst (List.map D.int a_loads))), some (.bor (D.lst (List.map D.int a_scale))), some (.frz (D.int a_sill)), some (.frz (D.lst (List.map (fun x : ((List Int) × Int) => (D.tup [(D.lst (List.map D.int x.1)), (D.int x.2)])) s_2))), some (.frz (D.int z_3)), some (.own (D.lst (List.map (fun x : ((List Int) × Int) => (D.tup [(D.lst (List.map D.int x.1)), (D.int x.2)])) s_15))), some (.frz (D.lst (List.map D.int z_7.1))), some (.frz (D.int z_7.2)), some (.frz (D.int z_13))] (et_ninLI (nmF A sc_law_ways 8 rfl rfl rfl) (nmF A sc_law_ways 6 rfl rfl rfl)) ?_ (fun hc => ?_) (fun hc => ?_)
        · skip
          obtain rfl := Option.some.inj H
          refine ss_nil ?_
          exact (wkr (wkr (wkr (wkr (wkr (wkr (wkr (wkr (wkn wk0)))))))))
        · replace H := ifT hs_15 hc
          obtain ⟨xs_16, hxs_16, H⟩ := bindO H
          obtain ⟨x_17, hx_17, H⟩ := bindO H
          obtain ⟨n_18, hn_18, H⟩ := bindO H
          obtain ⟨longer_19, hlonger_19, H⟩ := bindO H
          refine app_ (en := (fun x : ((List Int) × Int) => (D.tup [(D.lst (List.map D.int x.1)), (D.int x.2)]))) (x := (xs_16, (z_7.2 + n_18))) A sc_law_ways 5 rfl rfl rfl (ev_tup (ea_cons (catL_ (f := D.int) (nmF A sc_law_ways 6 rfl rfl rfl) (Ev.cv (ev_list (ea_cons (nmF A sc_law_ways 8 rfl rfl rfl) ea_nil (.inl rfl) rfl) (.inl rfl) (le_line rfl)) rfl) hxs_16) (ea_cons (ev_add (nmF A sc_law_ways 7 rfl rfl rfl) (mul_ (nmF A sc_law_ways 4 rfl rfl rfl) (ixL_ (f := D.int) (Ev.shlI (nmB A sc_law_ways 0 rfl rfl rfl) (imms_map (fun _ => rfl) _)) (nmF A sc_law_ways 8 rfl rfl rfl) hx_17 (fun _ _ => rfl)) hn_18)) ea_nil (.inl rfl) rfl) (.inl rfl) rfl) (.inl rfl) (le_line rfl)) (by first | rfl | exact heldOf_c) hlonger_19 ⟨rfl, rfl, rfl⟩ rfl rfl ?_
          show SS X [some (.bor (D.lst (List.map D.int a_loads))), some (.bor (D.lst (List.map D.int a_scale))), some (.frz (D.int a_sill)), some (.frz (D.lst (List.map (fun x : ((List Int) × Int) => (D.tup [(D.lst (List.map D.int x.1)), (D.int x.2)])) s_2))), some (.frz (D.int z_3)), some (.own (D.lst (List.map (fun x : ((List Int) × Int) => (D.tup [(D.lst (List.map D.int x.1)), (D.int x.2)])) longer_19))), some (.frz (D.lst (List.map D.int z_7.1))), some (.frz (D.int z_7.2)), some (.frz (D.int z_13))] _ _
          obtain rfl := Option.some.inj H
          refine ss_nil ?_
          exact (wkr (wkr (wkr (wkr (wkr (wkr (wkr (wkr (wkr wk0)))))))))
        · replace H := ifF hs_15 hc
          obtain rfl := Option.some.inj H
          refine ss_nil ?_
          exact (wkr (wkr (wkr (wkr (wkr (wkr (wkr (wkr (wkr wk0)))))))))
      obtain rfl := Option.some.inj H
      refine ss_nil ?_
      exact (wkr (wkr (wkr (wkr (wkr (wkr (wkn (wkn (wkn wk0)))))))))
    refine ss_frz 5 rfl ?_
    obtain ⟨ways_20, hways_20, H⟩ := bindO H
    refine set_ A sc_law_ways 3 rfl rfl (Ev.cv (nmF A sc_law_ways 5 rfl rfl rfl) (congrArg (fun x : (List ((List Int) × Int)) => (D.lst (List.map (fun x : ((List Int) × Int) => (D.tup [(D.lst (List.map D.int x.1)), (D.int x.2)])) x))) (Option.some.inj hways_20))) .cln rfl ?_
    show SS X [some (.bor (D.lst (List.map D.int a_loads))), some (.bor (D.lst (List.map D.int a_scale))), some (.frz (D.int a_sill)), some (.frz (D.lst (List.map (fun x : ((List Int) × Int) => (D.tup [(D.lst (List.map D.int x.1)), (D.int x.2)])) ways_20))), some (.frz (D.int z_3)), some (.frz (D.lst (List.map (fun x : ((List Int) × Int) => (D.tup [(D.lst (List.map D.int x.1)), (D.int x.2)])) s_8))), none, none, none] _ _
    obtain rfl := Option.some.inj H
    refine ss_nil ?_
    exact (wkr (wkr (wkr (wkr (wkn (wkn (wkn (wkn (wkn wk0)))))))))
  exact ss_ret (nmF A sc_law_ways 3 rfl rfl rfl) (⟨(congrArg (fun x : (List ((List Int) × Int)) => (D.lst (List.map (fun x : ((List Int) × Int) => (D.tup [(D.lst (List.map D.int x.1)), (D.int x.2)])) x))) (Option.some.inj H)), .refl⟩)
def m_law_is_dearest (a_got : ((List Str) × Int × (List Int))) (a_crew : (List (Str × Int × Int))) (a_scale : (List Int)) (a_sill : Int) : Option Bool :=
  ((m_law_ladder a_crew (a_scale.length : Int) a_sill).bind fun r_1 => ((some r_1).bind fun names_2 => ((some (0 : Int)).bind fun whole_3 => ((rng1G (a_scale.length : Int)).bind fun r_4 => ((List.foldlM (fun (s_5 : (Int)) (z_6 : Int) => ((some a_sill).bind fun load_8 => ((List.foldlM (fun (s_9 : (Int)) (z_10 : (Str × Int × Int)) => ((if (decide (z_6 < (names_2.length : Int))) = true then ((idxG names_2 z_6).bind fun x_12 => some (decide (x_12 = z_10.1))) else some false).bind fun q_13 => ((if q_13 = true then ((mulG z_10.2.1 z_10.2.2).bind fun n_15 => ((some n_15).bind fun load_16 => some load_16)) else some s_9 : Option (Int)).bind fun s_14 => some s_14))) load_8 a_crew).bind fun s_11 => ((idxG a_scale z_6).bind fun x_17 => ((mulG x_17 s_11).bind fun n_18 => ((some (s_5 + n_18)).bind fun whole_19 => some whole_19)))))) whole_3 r_4).bind fun s_7 => ((if false = true then some true else ((lcG (cutX a_scale (some (names_2.length : Int)) none)).bind fun ys_20 => ((catG names_2 (ys_20.map (fun z_21 : Int => ("" : Str)))).bind fun xs_22 => ((m_law_same 8 (D.tup (List.map D.str a_got.1)) (D.tup (List.map D.str xs_22))).bind fun r_23 => some (!r_23))))).bind fun q_24 => (if q_24 = true then some false else ((m_law_integer_2 a_got.2.1).bind fun r_25 => (if ((!r_25) || (!decide (a_got.2.1 = s_7))) = true then some false else ((lcG a_crew).bind fun ys_26 => ((lcM (fun z_27 : (Str × Int × Int) => some true) (fun z_27 : (Str × Int × Int) => ((mulG z_27.2.1 z_27.2.2).bind fun n_28 => some n_28)) ys_26).bind fun zs_29 => ((some zs_29).bind fun loads_30 => ((m_law_ways loads_30 a_scale a_sill).bind fun r_31 => ((lcG r_31).bind fun ys_32 => ((eqG (D.lst (List.map D.int ((List.filter (fun z_33 : ((List Int) × Int) => (decide (a_got.2.1 < z_33.2))) ys_32).map (fun z_33 : ((List Int) × Int) => z_33.2)))) (D.lst (List.map D.int []))).bind fun q_34 => some q_34)))))))))))))))
def R_law_is_dearest (Γ : Gd) : Rel := fun ds d k => ∃ (a_got : ((List Str) × Int × (List Int))) (a_crew : (List (Str × Int × Int))) (a_scale : (List Int)) (a_sill : Int) (r : Bool), ds = [(D.obj (cA Γ "Allotment") [("takers", (D.tup (List.map D.str a_got.1))), ("total", (D.int a_got.2.1)), ("rents", (D.tup (List.map D.int a_got.2.2)))]), (D.lst (List.map (fun x : (Str × Int × Int) => (D.tup [(D.str x.1), (D.int x.2.1), (D.int x.2.2)])) a_crew)), (D.lst (List.map D.int a_scale)), (D.int a_sill)] ∧ m_law_is_dearest a_got a_crew a_scale a_sill = some r ∧ d = D.bl r ∧ k = .cln
abbrev N_law_is_dearest : List Str := ["got", "crew", "scale", "sill", "names", "whole", "k", "load", "name", "weight", "bid", "rate", "loads", "used", "worth"]
theorem fs_law_is_dearest : FnScope N_law_is_dearest ["got", "crew", "scale", "sill"] (defScope s_law_is_dearest) := ⟨rfl, rfl, rfl, by decide +kernel, rfl, by decide +kernel, by decide +kernel⟩
theorem sc_law_is_dearest : Sc N_law_is_dearest (defScope s_law_is_dearest) [0, 1, 2, 3, 4, 5, 6, 7, 8, 9, 10, 12] [4, 5, 6, 7, 8, 9, 10, 12] ["len", "_law_ladder", "range", "Allotment", "isinstance", "tuple", "_law_same", "_law_integer", "_law_ways"] := ⟨fs_law_is_dearest.nd, by decide +kernel⟩
abbrev cs_law_is_dearest_c1 : Scope := compScope (s_law_is_dearest) [3, 0, 1, 0, 2, 1, 1]
theorem sc_law_is_dearest_c1 : Sc N_law_is_dearest cs_law_is_dearest_c1 [] [11] [] := ⟨fs_law_is_dearest.nd, by decide +kernel⟩
abbrev cs_law_is_dearest_c2 : Scope := compScope (s_law_is_dearest) [5, 1]
theorem sc_law_is_dearest_c2 : Sc N_law_is_dearest cs_law_is_dearest_c2 [9, 10] [8, 9, 10] [] := ⟨fs_law_is_dearest.nd, by decide +kernel⟩
abbrev cs_law_is_dearest_c3 : Scope := compScope (s_law_is_dearest) [6, 0, 0]
theorem sc_law_is_dearest_c3 : Sc N_law_is_dearest cs_law_is_dearest_c3 [0, 14] [13, 14] [] := ⟨fs_law_is_dearest.nd, by decide +kernel⟩
theorem b_law_is_dearest {X : Cx} {Γ : Gd} (A : At X Γ N_law_is_dearest (defScope s_law_is_dearest) 10) (cl_Allotment : Cls Γ.K (cA Γ "Allotment")) (gc_Allotment : Γ.mg "Allotment" = some (.ref (cA Γ "Allotment"))) (in_Allotment : C8.InsC Γ.K (cA Γ "Allotment")) (na_Allotment_takers : NoAttr Γ.K (cA Γ "Allotment") "takers") (na_Allotment_total : NoAttr Γ.K (cA Γ "Allotment") "total") (g_isinstance : Γ.mg "isinstance" = none) (g_len : Γ.mg "len" = none) (g_range : Γ.mg "range" = none) (g_tuple : Γ.mg "tuple" = none) (C_law_integer_2 : Cal Γ "_law_integer" R_law_integer_2 1 []) (C_law_ladder : Cal Γ "_law_ladder" R_law_ladder 1 []) (C_law_same : Cal Γ "_law_same" (R_law_same 8) (2 + 8) []) (C_law_ways : Cal Γ "_law_ways" R_law_ways 1 []) {ds : List D} {d : D} {k : Kd} (hR : R_law_is_dearest Γ ds d k) :
    SS X (env0 15 ds) (defBody s_law_is_dearest) { rt := fun d' k' => d' = d ∧ Fits k' k d, nx := fun _ => d = .non ∧ k = .cln } := by
  obtain ⟨a_got, a_crew, a_scale, a_sill, r, rfl, H, rfl, rfl⟩ := hR
  unfold m_law_is_dearest at H
  obtain ⟨r_1, hr_1, H⟩ := bindO H
  obtain ⟨names_2, hnames_2, H⟩ := bindO H
  refine set_ A sc_law_is_dearest 4 rfl rfl (Ev.cv (Ev.xd (Cal.ev C_law_ladder A sc_law_is_dearest 1 rfl (by decide) (ea_cons (nmB A sc_law_is_dearest 1 rfl rfl rfl) (ea_cons (lenL_ (bn A sc_law_is_dearest 0 rfl g_len bt_len) (nmB A sc_law_is_dearest 2 rfl rfl rfl) rfl) (ea_cons (nmF A sc_law_is_dearest 3 rfl rfl rfl) ea_nil (.inl rfl) rfl) (.inl rfl) rfl) (.inl rfl) rfl) (.inr (.inl rfl)) (.inr (.inl rfl)) rfl rfl ⟨a_crew, (a_scale.length : Int), a_sill, r_1, rfl, hr_1, rfl, rfl⟩)) (congrArg (fun x : (List Str) => (D.tup (List.map D.str x))) (Option.some.inj hnames_2))) .cln rfl ?_
  show SS X [some (.bor (D.obj (cA Γ "Allotment") [("takers", (D.tup (List.map D.str a_got.1))), ("total", (D.int a_got.2.1)), ("rents", (D.tup (List.map D.int a_got.2.2)))])), some (.bor (D.lst (List.map (fun x : (Str × Int × Int) => (D.tup [(D.str x.1), (D.int x.2.1), (D.int x.2.2)])) a_crew))), some (.bor (D.lst (List.map D.int a_scale))), some (.frz (D.int a_sill)), some (.frz (D.tup (List.map D.str names_2))), none, none, none, none, none, none, none, none, none, none] _ _
  obtain ⟨whole_3, hwhole_3, H⟩ := bindO H
  refine set_ A sc_law_is_dearest 5 rfl rfl (Ev.cv ev_int (congrArg D.int (Option.some.inj hwhole_3))) .int rfl ?_
  show SS X [some (.bor (D.obj (cA Γ "Allotment") [("takers", (D.tup (List.map D.str a_got.1))), ("total", (D.int a_got.2.1)), ("rents", (D.tup (List.map D.int a_got.2.2)))])), some (.bor (D.lst (List.map (fun x : (Str × Int × Int) => (D.tup [(D.str x.1), (D.int x.2.1), (D.int x.2.2)])) a_crew))), some (.bor (D.lst (List.map D.int a_scale))), some (.frz (D.int a_sill)), some (.frz (D.tup (List.map D.str names_2))), some (.frz (D.int whole_3)), none, none, none, none, none, none, none, none, none] _ _
  obtain ⟨r_4, hr_4, H⟩ := bindO H
  obtain ⟨s_7, hs_7, H⟩ := bindO H
  refine forM_ (en := D.int) (fun s_5 : (Int) => [some (.bor (D.obj (cA Γ "Allotment") [("takers", (D.tup (List.map D.str a_got.1))), ("total", (D.int a_got.2.1)), ("rents", (D.tup (List.map D.int a_got.2.2)))])), some (.bor (D.lst (List.map (fun x : (Str × Int × Int) => (D.tup [(D.str x.1), (D.int x.2.1), (D.int x.2.2)])) a_crew))), some (.bor (D.lst (List.map D.int a_scale))), some (.frz (D.int a_sill)), some (.frz (D.tup (List.map D.str names_2))), some (.frz (D.int s_5)), none, none, none, none, none, none, none, none, none]) A (rng1_ (glo A sc_law_is_dearest 2 rfl) (by rw [A.eM]; exact g_range) (lenL_ (bn A sc_law_is_dearest 0 rfl g_len bt_len) (nmB A sc_law_is_dearest 2 rfl rfl rfl) rfl) hr_4 rfl) (tg A sc_law_is_dearest 6 rfl rfl) (fun _ => rfl) hs_7 ?_ ?_ ?_
  · exact (wkr (wkr (wkr (wkr (wkr (wkr (wkn (wkn (wkn (wkn (wkn (wkn (wkn (wkn (wkn wk0)))))))))))))))
  · intro s_5 z_6 s' hx H
    refine ⟨_, rfl, ?_⟩
    obtain ⟨load_8, hload_8, H⟩ := bindO H
    refine set_ A sc_law_is_dearest 7 rfl rfl (Ev.cv (nmF A sc_law_is_dearest 3 rfl rfl rfl) (congrArg D.int (Option.some.inj hload_8))) .int rfl ?_
    show SS X [some (.bor (D.obj (cA Γ "Allotment") [("takers", (D.tup (List.map D.str a_got.1))), ("total", (D.int a_got.2.1)), ("rents", (D.tup (List.map D.int a_got.2.2)))])), some (.bor (D.lst (List.map (fun x : (Str × Int × Int) => (D.tup [(D.str x.1), (D.int x.2.1), (D.int x.2.2)])) a_crew))), some (.bor (D.lst (List.map D.int a_scale))), some (.frz (D.int a_sill)), some (.frz (D.tup (List.map D.str names_2))), some (.frz (D.int s_5)), some (.frz (D.int z_6)), some (.frz (D.int load_8)), none, none, none, none, none, none, none] _ _
    obtain ⟨s_11, hs_11, H⟩ := bindO H
    refine forM_ (en := (fun x : (Str × Int × Int) => (D.tup [(D.str x.1), (D.int x.2.1), (D.int x.2.2)]))) (fun s_9 : (Int) => [some (.bor (D.obj (cA Γ "Allotment") [("takers", (D.tup (List.map D.str a_got.1))), ("total", (D.int a_got.2.1)), ("rents", (D.tup (List.map D.int a_got.2.2)))])), some (.bor (D.lst (List.map (fun x : (Str × Int × Int) => (D.tup [(D.str x.1), (D.int x.2.1), (D.int x.2.2)])) a_crew))), some (.bor (D.lst (List.map D.int a_scale))), some (.frz (D.int a_sill)), some (.frz (D.tup (List.map D.str names_2))), some (.frz (D.int s_5)), some (.frz (D.int z_6)), some (.frz (D.int s_9)), none, none, none, none, none, none, none]) A (iter_ (nmB A sc_law_is_dearest 1 rfl rfl rfl) .lstB) (tg_tp A.calm (tgs_cons (tg A sc_law_is_dearest 8 rfl rfl) (tgs_cons (tg A sc_law_is_dearest 9 rfl rfl) (tgs_cons (tg A sc_law_is_dearest 10 rfl rfl) tgs_nil rfl) rfl) rfl) rfl rfl) (fun _ => rfl) hs_11 ?_ ?_ ?_
    · exact (wkr (wkr (wkr (wkr (wkr (wkr (wkr (wkr (wkn (wkn (wkn (wkn (wkn (wkn (wkn wk0)))))))))))))))
    · intro s_9 z_10 s' hx H
      refine ⟨_, rfl, ?_⟩
      obtain ⟨q_13, hq_13, H⟩ := bindO H
      obtain ⟨s_14, hs_14, H⟩ := bindO H
      refine ss_ifM [some (.bor (D.obj (cA Γ "Allotment") [("takers", (D.tup (List.map D.str a_got.1))), ("total", (D.int a_got.2.1)), ("rents", (D.tup (List.map D.int a_got.2.2)))])), some (.bor (D.lst (List.map (fun x : (Str × Int × Int) => (D.tup [(D.str x.1), (D.int x.2.1), (D.int x.2.2)])) a_crew))), some (.bor (D.lst (List.map D.int a_scale))), some (.frz (D.int a_sill)), some (.frz (D.tup (List.map D.str names_2))), some (.frz (D.int s_5)), some (.frz (D.int z_6)), some (.frz (D.int s_14)), some (.frz (D.str z_10.1)), some (.frz (D.int z_10.2.1)), some (.frz (D.int z_10.2.2)), none, none, none, none] (Ew.et (ew_andM (et_cI (nmF A sc_law_is_dearest 6 rfl rfl rfl) (lenT_ (bn A sc_law_is_dearest 0 rfl g_len bt_len) (nmF A sc_law_is_dearest 4 rfl rfl rfl) rfl) .lt) hq_13 fun H => by obtain ⟨x_12, hx_12, H⟩ := bindO H; obtain rfl := Option.some.inj H; exact (ew_and1 (et_eqS (ixT_ (f := D.str) (nmF A sc_law_is_dearest 4 rfl rfl rfl) (nmF A sc_law_is_dearest 6 rfl rfl rfl) hx_12 (fun _ _ => rfl)) (nmF A sc_law_is_dearest 8 rfl rfl rfl))))) ?_ (fun hc => ?_) (fun hc => ?_)
      · skip
        obtain rfl := Option.some.inj H
        refine ss_nil ?_
        exact (wkr (wkr (wkr (wkr (wkr (wkr (wkr (wkr (wkn (wkn (wkn (wkn (wkn (wkn (wkn wk0)))))))))))))))
      · replace H := ifT hs_14 hc
        obtain ⟨n_15, hn_15, H⟩ := bindO H
        obtain ⟨load_16, hload_16, H⟩ := bindO H
        refine set_ A sc_law_is_dearest 7 rfl rfl (Ev.cv (mul_ (nmF A sc_law_is_dearest 9 rfl rfl rfl) (nmF A sc_law_is_dearest 10 rfl rfl rfl) hn_15) (congrArg D.int (Option.some.inj hload_16))) .int rfl ?_
        show SS X [some (.bor (D.obj (cA Γ "Allotment") [("takers", (D.tup (List.map D.str a_got.1))), ("total", (D.int a_got.2.1)), ("rents", (D.tup (List.map D.int a_got.2.2)))])), some (.bor (D.lst (List.map (fun x : (Str × Int × Int) => (D.tup [(D.str x.1), (D.int x.2.1), (D.int x.2.2)])) a_crew))), some (.bor (D.lst (List.map D.int a_scale))), some (.frz (D.int a_sill)), some (.frz (D.tup (List.map D.str names_2))), some (.frz (D.int s_5)), some (.frz (D.int z_6)), some (.frz (D.int load_16)), some (.frz (D.str z_10.1)), some (.frz (D.int z_10.2.1)), some (.frz (D.int z_10.2.2)), none, none, none, none] _ _
        obtain rfl := Option.some.inj H
        refine ss_nil ?_
        exact (wkr (wkr (wkr (wkr (wkr (wkr (wkr (wkr (wkr (wkr (wkr (wkn (wkn (wkn (wkn wk0)))))))))))))))
      · replace H := ifF hs_14 hc
        obtain rfl := Option.some.inj H
        refine ss_nil ?_
        exact (wkr (wkr (wkr (wkr (wkr (wkr (wkr (wkr (wkr (wkr (wkr (wkn (wkn (wkn (wkn wk0)))))))))))))))
    obtain ⟨x_17, hx_17, H⟩ := bindO H
    obtain ⟨n_18, hn_18, H⟩ := bindO H
    obtain ⟨whole_19, hwhole_19, H⟩ := bindO H
    refine set_ A sc_law_is_dearest 5 rfl rfl (Ev.cv (ev_add (nmF A sc_law_is_dearest 5 rfl rfl rfl) (mul_ (ixL_ (f := D.int) (Ev.shlI (nmB A sc_law_is_dearest 2 rfl rfl rfl) (imms_map (fun _ => rfl) _)) (nmF A sc_law_is_dearest 6 rfl rfl rfl) hx_17 (fun _ _ => rfl)) (nmF A sc_law_is_dearest 7 rfl rfl rfl) hn_18)) (congrArg D.int (Option.some.inj hwhole_19))) .int rfl ?_
    show SS X [some (.bor (D.obj (cA Γ "Allotment") [("takers", (D.tup (List.map D.str a_got.1))), ("total", (D.int a_got.2.1)), ("rents", (D.tup (List.map D.int a_got.2.2)))])), some (.bor (D.lst (List.map (fun x : (Str × Int × Int) => (D.tup [(D.str x.1), (D.int x.2.1), (D.int x.2.2)])) a_crew))), some (.bor (D.lst (List.map D.int a_scale))), some (.frz (D.int a_sill)), some (.frz (D.tup (List.map D.str names_2))), some (.frz (D.int whole_19)), some (.frz (D.int z_6)), some (.frz (D.int s_11)), none, none, none, none, none, none, none] _ _
    obtain rfl := Option.some.inj H
    refine ss_nil ?_
    exact (wkr (wkr (wkr (wkr (wkr (wkr (wkn (wkn (wkn (wkn (wkn (wkn (wkn (wkn (wkn wk0)))))))))))))))
  obtain ⟨q_24, hq_24, H⟩ := bindO H
  refine ss_if (Ew.et (ew_orM (et_not (Ev.et (isiC_ (bn A sc_law_is_dearest 4 rfl g_isinstance bt_isinstance) (by rw [A.eK]; exact in_Allotment) (glo A sc_law_is_dearest 3 rfl) (by rw [A.eM]; exact gc_Allotment) (by decide) (nmB A sc_law_is_dearest 0 rfl rfl rfl) rfl) fun _ => rfl)) hq_24 fun H => by obtain ⟨ys_20, hys_20, H⟩ := bindO H; obtain ⟨xs_22, hxs_22, H⟩ := bindO H; obtain ⟨r_23, hr_23, H⟩ := bindO H; obtain rfl := Option.some.inj H; exact (ew_or1 (et_not (Ev.et (Cal.ev C_law_same A sc_law_is_dearest 6 rfl (by decide) (ea_consH (Ev.imm (ev_fld (by rw [A.eK]; exact cl_Allotment) (by rw [A.eK]; exact na_Allotment_takers) (nmB A sc_law_is_dearest 0 rfl rfl rfl) rfl rfl) (imm_vt (fun _ => rfl) _)) (ea_consH (catT_ (f := D.str) (nmF A sc_law_is_dearest 4 rfl rfl rfl) (tuple_ (bn A sc_law_is_dearest 5 rfl g_tuple bt_tuple) (Ec.ev (Ec.cv (lcP_ (en := D.int) D.str [("rate", 11)] (fun z_21 : Int => true) (fun z_21 : Int => ("" : Str)) .c A sc_law_is_dearest (by decide +kernel) (iter_ (slL_ (Ev.shlI (nmB A sc_law_is_dearest 2 rfl rfl rfl) (imms_map (fun _ => rfl) _)) (eo_some (lenT_ (bn A sc_law_is_dearest 0 rfl g_len bt_len) (nmF A sc_law_is_dearest 4 rfl rfl rfl) rfl)) eo_none) .lstO) hys_20 (Clear_of rfl) (fun Y AY => (tg AY sc_law_is_dearest_c1 11 rfl rfl)) (by decide) (fun _ => rfl) (fun z_21 _ => ⟨_, rfl, fun Y AY => ets_nil, fun _ => ⟨_, rfl, fun Y AY => ev_str⟩⟩)) (by rw [List.filter_eq_self.mpr (fun _ _ => rfl)]))) .lst rfl) hxs_22) ea_nil (.inl rfl) rfl) (.inl rfl) rfl) (.inl rfl) (.inr (.inl rfl)) rfl rfl ⟨(D.tup (List.map D.str a_got.1)), (D.tup (List.map D.str xs_22)), r_23, rfl, hr_23, rfl, rfl⟩) fun _ => rfl))))) (fun hc => ?_) (fun hc => ?_)
  · replace H := ifT H hc
    exact ss_ret ev_bl (⟨(congrArg D.bl (Option.some.inj H)), .bl⟩)
  · replace H := ifF H hc
    refine ss_nil ?_
    show SS X _ _ _
    obtain ⟨r_25, hr_25, H⟩ := bindO H
    refine ss_if (Ew.et (ew_or (et_not (Ev.et (Cal.ev C_law_integer_2 A sc_law_is_dearest 7 rfl (by decide) (ea_cons (ev_fld (by rw [A.eK]; exact cl_Allotment) (by rw [A.eK]; exact na_Allotment_total) (nmB A sc_law_is_dearest 0 rfl rfl rfl) rfl rfl) ea_nil (.inl rfl) rfl) (.inl rfl) (.inr (.inl rfl)) rfl rfl ⟨a_got.2.1, r_25, rfl, hr_25, rfl, rfl⟩) fun _ => rfl)) fun _ => (ew_or1 (et_cI (ev_fld (by rw [A.eK]; exact cl_Allotment) (by rw [A.eK]; exact na_Allotment_total) (nmB A sc_law_is_dearest 0 rfl rfl rfl) rfl rfl) (nmF A sc_law_is_dearest 5 rfl rfl rfl) .ne)))) (fun hc => ?_) (fun hc => ?_)
    · replace H := ifT H hc
      exact ss_ret ev_bl (⟨(congrArg D.bl (Option.some.inj H)), .bl⟩)
    · replace H := ifF H hc
      refine ss_nil ?_
      show SS X _ _ _
      obtain ⟨ys_26, hys_26, H⟩ := bindO H
      obtain ⟨zs_29, hzs_29, H⟩ := bindO H
      obtain ⟨loads_30, hloads_30, H⟩ := bindO H
      refine setLc_ A sc_law_is_dearest 12 rfl (by decide +kernel) (by decide +kernel) rfl (by decide +kernel) (Ec.cv (lcM_ (en := (fun x : (Str × Int × Int) => (D.tup [(D.str x.1), (D.int x.2.1), (D.int x.2.2)]))) D.int [("name", 8), ("weight", 9), ("bid", 10)] .c A sc_law_is_dearest (by decide +kernel) (iter_ (nmB A sc_law_is_dearest 1 rfl rfl rfl) .lstB) hys_26 hzs_29 (Clear_of rfl) (fun Y AY => (tg_tp AY.calm (tgs_cons (tg AY sc_law_is_dearest_c2 8 rfl rfl) (tgs_cons (tg AY sc_law_is_dearest_c2 9 rfl rfl) (tgs_cons (tg AY sc_law_is_dearest_c2 10 rfl rfl) tgs_nil rfl) rfl) rfl) rfl rfl)) (by decide) (fun _ => rfl) (fun z_27 _ => ⟨_, rfl, fun b H Y AY => by obtain rfl := Option.some.inj H; exact ets_nil, fun y _ H => by obtain ⟨n_28, hn_28, H⟩ := bindO H; obtain rfl := Option.some.inj H; exact ⟨_, rfl, fun Y AY => (mul_ (nmF AY sc_law_is_dearest_c2 9 rfl rfl rfl) (nmF AY sc_law_is_dearest_c2 10 rfl rfl rfl) hn_28)⟩⟩)) (congrArg (fun x : (List Int) => (D.lst (List.map D.int x))) (Option.some.inj hloads_30))) .own ?_
      show SS X [some (.bor (D.obj (cA Γ "Allotment") [("takers", (D.tup (List.map D.str a_got.1))), ("total", (D.int a_got.2.1)), ("rents", (D.tup (List.map D.int a_got.2.2)))])), some (.bor (D.lst (List.map (fun x : (Str × Int × Int) => (D.tup [(D.str x.1), (D.int x.2.1), (D.int x.2.2)])) a_crew))), some (.bor (D.lst (List.map D.int a_scale))), some (.frz (D.int a_sill)), some (.frz (D.tup (List.map D.str names_2))), some (.frz (D.int s_7)), none, none, none, none, none, none, some (.own (D.lst (List.map D.int loads_30))), none, none] _ _
      obtain ⟨r_31, hr_31, H⟩ := bindO H
      obtain ⟨ys_32, hys_32, H⟩ := bindO H
      obtain ⟨q_34, hq_34, H⟩ := bindO H
      exact ss_ret (ev_eqG A.room.units (Ec.ev (lcP_ (en := (fun x : ((List Int) × Int) => (D.tup [(D.lst (List.map D.int x.1)), (D.int x.2)]))) D.int [("used", 13), ("worth", 14)] (fun z_33 : ((List Int) × Int) => (decide (a_got.2.1 < z_33.2))) (fun z_33 : ((List Int) × Int) => z_33.2) .c A sc_law_is_dearest (by decide +kernel) (iter_ (Cal.ev C_law_ways A sc_law_is_dearest 8 rfl (by decide) (ea_cons (nmO A sc_law_is_dearest 12 rfl rfl rfl) (ea_cons (nmB A sc_law_is_dearest 2 rfl rfl rfl) (ea_cons (nmF A sc_law_is_dearest 3 rfl rfl rfl) ea_nil (.inl rfl) rfl) (.inl rfl) rfl) (.inr (.inl rfl)) rfl) (.inr (.inr rfl)) (.inr (.inl rfl)) rfl rfl ⟨loads_30, a_scale, a_sill, r_31, rfl, hr_31, rfl, rfl⟩) .lstC) hys_32 (Clear_of rfl) (fun Y AY => (tg_tp AY.calm (tgs_cons (tg AY sc_law_is_dearest_c3 13 rfl rfl) (tgs_cons (tg AY sc_law_is_dearest_c3 14 rfl rfl) tgs_nil rfl) rfl) rfl rfl)) (by decide) (fun _ => rfl) (fun z_33 _ => ⟨_, rfl, fun Y AY => (ets_one (et_cI (nmF AY sc_law_is_dearest_c3 14 rfl rfl rfl) (ev_fld (by rw [AY.eK]; exact cl_Allotment) (by rw [AY.eK]; exact na_Allotment_total) (nmB AY sc_law_is_dearest_c3 0 rfl rfl rfl) rfl rfl) .gt)), fun _ => ⟨_, rfl, fun Y AY => (nmF AY sc_law_is_dearest_c3 14 rfl rfl rfl)⟩⟩))) (ev_list ea_nil (.inl rfl) (le_line rfl)) hq_34) (⟨(congrArg D.bl (Option.some.inj H)), .bl⟩)
def m_names_of_2 (a_bidders : (List (Str × Int × Int))) : Option (List Str) :=
  ((lcG a_bidders).bind fun ys_1 => some (ys_1.map (fun z_2 : (Str × Int × Int) => z_2.1)))
def R_names_of_2 : Rel := fun ds d k => ∃ (a_bidders : (List (Str × Int × Int))) (r : (List Str)), ds = [(D.tup (List.map (fun x : (Str × Int × Int) => (D.tup [(D.str x.1), (D.int x.2.1), (D.int x.2.2)])) a_bidders))] ∧ m_names_of_2 a_bidders = some r ∧ d = (fun x : (List Str) => (D.lst (List.map D.str x))) r ∧ k = .own
abbrev N_names_of_2 : List Str := ["bidders", "name", "weight", "bid"]
theorem fs_names_of_2 : FnScope N_names_of_2 ["bidders"] (defScope s_names_of) := ⟨rfl, rfl, rfl, by decide +kernel, rfl, by decide +kernel, by decide +kernel⟩
theorem sc_names_of_2 : Sc N_names_of_2 (defScope s_names_of) [0] [] [] := ⟨fs_names_of_2.nd, by decide +kernel⟩
abbrev cs_names_of_2_c1 : Scope := compScope (s_names_of) [0, 0]
theorem sc_names_of_2_c1 : Sc N_names_of_2 cs_names_of_2_c1 [1] [1, 2, 3] [] := ⟨fs_names_of_2.nd, by decide +kernel⟩
theorem b_names_of_2 {X : Cx} {Γ : Gd} (A : At X Γ N_names_of_2 (defScope s_names_of) 0)  {ds : List D} {d : D} {k : Kd} (hR : R_names_of_2 ds d k) :
    SS X (env0 4 ds) (defBody s_names_of) { rt := fun d' k' => d' = d ∧ Fits k' k d, nx := fun _ => d = .non ∧ k = .cln } := by
  obtain ⟨a_bidders, r, rfl, H, rfl, rfl⟩ := hR
  unfold m_names_of_2 at H
  obtain ⟨ys_1, hys_1, H⟩ := bindO H
  exact ss_ret (Ec.ev (Ec.cv (lcP_ (en := (fun x : (Str × Int × Int) => (D.tup [(D.str x.1), (D.int x.2.1), (D.int x.2.2)]))) D.str [("name", 1), ("weight", 2), ("bid", 3)] (fun z_2 : (Str × Int × Int) => true) (fun z_2 : (Str × Int × Int) => z_2.1) .c A sc_names_of_2 (by decide +kernel) (iter_ (Ev.imm (nmB A sc_names_of_2 0 rfl rfl rfl) (imm_vt (fun _ => (imm_tup (imm_cons rfl (imm_cons rfl (imm_cons rfl rfl))))) _)) .tupC) hys_1 (Clear_of rfl) (fun Y AY => (tg_tp AY.calm (tgs_cons (tg AY sc_names_of_2_c1 1 rfl rfl) (tgs_cons (tg AY sc_names_of_2_c1 2 rfl rfl) (tgs_cons (tg AY sc_names_of_2_c1 3 rfl rfl) tgs_nil rfl) rfl) rfl) rfl rfl)) (by decide) (fun _ => rfl) (fun z_2 _ => ⟨_, rfl, fun Y AY => ets_nil, fun _ => ⟨_, rfl, fun Y AY => (nmF AY sc_names_of_2_c1 1 rfl rfl rfl)⟩⟩)) (by rw [List.filter_eq_self.mpr (fun _ _ => rfl)]))) (⟨(congrArg (fun x : (List Str) => (D.lst (List.map D.str x))) (Option.some.inj H)), .refl⟩)
def m_check_bidders_2 (a_bidders : (List (Str × Int × Int))) : Option Unit :=
  (if (decide ((6 : Int) < (a_bidders.length : Int))) = true then none else ((List.foldlM (fun (s_1 : Unit) (z_2 : (Int × (Str × Int × Int))) => ((m_is_name z_2.2.1).bind fun r_4 => (if (!r_4) = true then none else ((m_names_of_2 (cutX a_bidders none (some z_2.1))).bind fun r_5 => (if (decide (z_2.2.1 ∈ r_5)) = true then none else (if (!((decide ((1 : Int) ≤ z_2.2.2.1)) && (decide (z_2.2.2.1 ≤ (1000 : Int))))) = true then none else (if (!((decide ((0 : Int) ≤ z_2.2.2.2)) && (decide (z_2.2.2.2 ≤ (1000000000 : Int))))) = true then none else some ()))))))) () (enumL a_bidders)).bind fun s_3 => some ()))
def R_check_bidders_2 : Rel := fun ds d k => ∃ (a_bidders : (List (Str × Int × Int))) (r : Unit), ds = [(D.tup (List.map (fun x : (Str × Int × Int) => (D.tup [(D.str x.1), (D.int x.2.1), (D.int x.2.2)])) a_bidders))] ∧ m_check_bidders_2 a_bidders = some r ∧ d = (fun _ => D.non) r ∧ k = .cln
abbrev N_check_bidders_2 : List Str := ["bidders", "at", "name", "weight", "bid"]
theorem fs_check_bidders_2 : FnScope N_check_bidders_2 ["bidders"] (defScope s_check_bidders) := ⟨rfl, rfl, rfl, by decide +kernel, rfl, by decide +kernel, by decide +kernel⟩
theorem sc_check_bidders_2 : Sc N_check_bidders_2 (defScope s_check_bidders) [0, 1, 2, 3, 4] [1, 2, 3, 4] ["len", "MOST_BIDDERS", "enumerate", "is_name", "names_of", "LARGEST_WEIGHT", "LARGEST_BID"] := ⟨fs_check_bidders_2.nd, by decide +kernel⟩
theorem b_check_bidders_2 {X : Cx} {Γ : Gd} (A : At X Γ N_check_bidders_2 (defScope s_check_bidders) 1) (g_LARGEST_BID : ∃ t, Γ.mg "LARGEST_BID" = some (.int 1000000000 t)) (g_LARGEST_WEIGHT : ∃ t, Γ.mg "LARGEST_WEIGHT" = some (.int 1000 t)) (g_MOST_BIDDERS : ∃ t, Γ.mg "MOST_BIDDERS" = some (.int 6 t)) (g_enumerate : Γ.mg "enumerate" = none) (g_len : Γ.mg "len" = none) (C_is_name : Cal Γ "is_name" R_is_name 1 []) (C_names_of_2 : Cal Γ "names_of" R_names_of_2 1 []) {ds : List D} {d : D} {k : Kd} (hR : R_check_bidders_2 ds d k) :
    SS X (env0 5 ds) (defBody s_check_bidders) { rt := fun d' k' => d' = d ∧ Fits k' k d, nx := fun _ => d = .non ∧ k = .cln } := by
  obtain ⟨a_bidders, r, rfl, H, rfl, rfl⟩ := hR
  unfold m_check_bidders_2 at H
  refine ss_if (et_cI (lenT_ (bn A sc_check_bidders_2 0 rfl g_len bt_len) (Ev.imm (nmB A sc_check_bidders_2 0 rfl rfl rfl) (imm_vt (fun _ => (imm_tup (imm_cons rfl (imm_cons rfl (imm_cons rfl rfl))))) _)) rfl) (gI A sc_check_bidders_2 1 rfl g_MOST_BIDDERS) .gt) (fun hc => ?_) (fun hc => ?_)
  · replace H := ifT H hc
    cases H
  · replace H := ifF H hc
    refine ss_nil ?_
    show SS X _ _ _
    obtain ⟨s_3, hs_3, H⟩ := bindO H
    refine forM_ (en := (fun x : (Int × (Str × Int × Int)) => (D.tup [(D.int x.1), (D.tup [(D.str x.2.1), (D.int x.2.2.1), (D.int x.2.2.2)])]))) (fun s_1 : Unit => [some (.bor (D.tup (List.map (fun x : (Str × Int × Int) => (D.tup [(D.str x.1), (D.int x.2.1), (D.int x.2.2)])) a_bidders))), none, none, none, none]) A (enumTC_ (f := (fun x : (Str × Int × Int) => (D.tup [(D.str x.1), (D.int x.2.1), (D.int x.2.2)]))) (glo A sc_check_bidders_2 2 rfl) (by rw [A.eM]; exact g_enumerate) (Ev.imm (nmB A sc_check_bidders_2 0 rfl rfl rfl) (imm_vt (fun _ => (imm_tup (imm_cons rfl (imm_cons rfl (imm_cons rfl rfl))))) _)) rfl) (tg_tp A.calm (tgs_cons (tg A sc_check_bidders_2 1 rfl rfl) (tgs_cons (tg_tp A.calm (tgs_cons (tg A sc_check_bidders_2 2 rfl rfl) (tgs_cons (tg A sc_check_bidders_2 3 rfl rfl) (tgs_cons (tg A sc_check_bidders_2 4 rfl rfl) tgs_nil rfl) rfl) rfl) rfl rfl) tgs_nil rfl) rfl) rfl rfl) (fun _ => rfl) hs_3 ?_ ?_ ?_
    · exact (wkr (wkn (wkn (wkn (wkn wk0)))))
    · intro s_1 z_2 s' hx H
      refine ⟨_, rfl, ?_⟩
      obtain ⟨r_4, hr_4, H⟩ := bindO H
      refine ss_if (et_not (Ev.et (Cal.ev C_is_name A sc_check_bidders_2 3 rfl (by decide) (ea_cons (nmF A sc_check_bidders_2 2 rfl rfl rfl) ea_nil (.inl rfl) rfl) (.inl rfl) (.inr (.inl rfl)) rfl rfl ⟨z_2.2.1, r_4, rfl, hr_4, rfl, rfl⟩) fun _ => rfl)) (fun hc => ?_) (fun hc => ?_)
      · replace H := ifT H hc
        cases H
      · replace H := ifF H hc
        refine ss_nil ?_
        show SS X _ _ _
        obtain ⟨r_5, hr_5, H⟩ := bindO H
        refine ss_if (et_inLS (nmF A sc_check_bidders_2 2 rfl rfl rfl) (Cal.ev C_names_of_2 A sc_check_bidders_2 4 rfl (by decide) (ea_cons (slT_ (Ev.imm (nmB A sc_check_bidders_2 0 rfl rfl rfl) (imm_vt (fun _ => (imm_tup (imm_cons rfl (imm_cons rfl (imm_cons rfl rfl))))) _)) eo_none (eo_some (nmF A sc_check_bidders_2 1 rfl rfl rfl))) ea_nil (.inl rfl) rfl) (.inl rfl) (.inl rfl) rfl rfl ⟨(cutX a_bidders none (some z_2.1)), r_5, rfl, hr_5, rfl, rfl⟩)) (fun hc => ?_) (fun hc => ?_)
        · replace H := ifT H hc
          cases H
        · replace H := ifF H hc
          refine ss_nil ?_
          show SS X _ _ _
          refine ss_if (et_not (et_chain ev_int (nmF A sc_check_bidders_2 3 rfl rfl rfl) (gI A sc_check_bidders_2 5 rfl g_LARGEST_WEIGHT) .le .le (by with_unfolding_all rfl))) (fun hc => ?_) (fun hc => ?_)
          · replace H := ifT H hc
            cases H
          · replace H := ifF H hc
            refine ss_nil ?_
            show SS X _ _ _
            refine ss_if (et_not (et_chain ev_int (nmF A sc_check_bidders_2 4 rfl rfl rfl) (gI A sc_check_bidders_2 6 rfl g_LARGEST_BID) .le .le (by with_unfolding_all rfl))) (fun hc => ?_) (fun hc => ?_)
            · replace H := ifT H hc
              cases H
            · replace H := ifF H hc
              refine ss_nil ?_
              show SS X _ _ _
              obtain rfl := Option.some.inj H
              refine ss_nil ?_
              exact (wkr (wkn (wkn (wkn (wkn wk0)))))
    exact ss_nil ⟨rfl, rfl⟩
def m_check_rates_2 (a_rates : (List Int)) : Option Unit :=
  (if (!((decide ((1 : Int) ≤ (a_rates.length : Int))) && (decide ((a_rates.length : Int) ≤ (3 : Int))))) = true then none else ((some (1000 : Int)).bind fun greatest_1 => ((List.foldlM (fun (s_2 : (Int)) (z_3 : Int) => (if (!((decide ((1 : Int) ≤ z_3)) && (decide (z_3 ≤ s_2)))) = true then none else ((some z_3).bind fun greatest_5 => some greatest_5))) greatest_1 a_rates).bind fun s_4 => some ())))
def R_check_rates_2 : Rel := fun ds d k => ∃ (a_rates : (List Int)) (r : Unit), ds = [(D.tup (List.map D.int a_rates))] ∧ m_check_rates_2 a_rates = some r ∧ d = (fun _ => D.non) r ∧ k = .cln
abbrev N_check_rates_2 : List Str := ["rates", "greatest", "rate"]
theorem fs_check_rates_2 : FnScope N_check_rates_2 ["rates"] (defScope s_check_rates) := ⟨rfl, rfl, rfl, by decide +kernel, rfl, by decide +kernel, by decide +kernel⟩
theorem sc_check_rates_2 : Sc N_check_rates_2 (defScope s_check_rates) [0, 1, 2] [1, 2] ["len", "MOST_RATES", "LARGEST_RATE"] := ⟨fs_check_rates_2.nd, by decide +kernel⟩
theorem b_check_rates_2 {X : Cx} {Γ : Gd} (A : At X Γ N_check_rates_2 (defScope s_check_rates) 0) (g_LARGEST_RATE : ∃ t, Γ.mg "LARGEST_RATE" = some (.int 1000 t)) (g_MOST_RATES : ∃ t, Γ.mg "MOST_RATES" = some (.int 3 t)) (g_len : Γ.mg "len" = none) {ds : List D} {d : D} {k : Kd} (hR : R_check_rates_2 ds d k) :
    SS X (env0 3 ds) (defBody s_check_rates) { rt := fun d' k' => d' = d ∧ Fits k' k d, nx := fun _ => d = .non ∧ k = .cln } := by
  obtain ⟨a_rates, r, rfl, H, rfl, rfl⟩ := hR
  unfold m_check_rates_2 at H
  refine ss_if (et_not (et_chain ev_int (lenT_ (bn A sc_check_rates_2 0 rfl g_len bt_len) (Ev.imm (nmB A sc_check_rates_2 0 rfl rfl rfl) (imm_vt (fun _ => rfl) _)) rfl) (gI A sc_check_rates_2 1 rfl g_MOST_RATES) .le .le (by with_unfolding_all rfl))) (fun hc => ?_) (fun hc => ?_)
  · replace H := ifT H hc
    cases H
  · replace H := ifF H hc
    refine ss_nil ?_
    show SS X _ _ _
    obtain ⟨greatest_1, hgreatest_1, H⟩ := bindO H
    refine set_ A sc_check_rates_2 1 rfl rfl (Ev.cv (gI A sc_check_rates_2 2 rfl g_LARGEST_RATE) (congrArg D.int (Option.some.inj hgreatest_1))) .int rfl ?_
    show SS X [some (.bor (D.tup (List.map D.int a_rates))), some (.frz (D.int greatest_1)), none] _ _
    obtain ⟨s_4, hs_4, H⟩ := bindO H
    refine forM_ (en := D.int) (fun s_2 : (Int) => [some (.bor (D.tup (List.map D.int a_rates))), some (.frz (D.int s_2)), none]) A (iter_ (Ev.imm (nmB A sc_check_rates_2 0 rfl rfl rfl) (imm_vt (fun _ => rfl) _)) .tupC) (tg A sc_check_rates_2 2 rfl rfl) (fun _ => rfl) hs_4 ?_ ?_ ?_
    · exact (wkr (wkr (wkn wk0)))
    · intro s_2 z_3 s' hx H
      refine ⟨_, rfl, ?_⟩
      refine ss_if (et_not (et_chain ev_int (nmF A sc_check_rates_2 2 rfl rfl rfl) (nmF A sc_check_rates_2 1 rfl rfl rfl) .le .le (by with_unfolding_all rfl))) (fun hc => ?_) (fun hc => ?_)
      · replace H := ifT H hc
        cases H
      · replace H := ifF H hc
        refine ss_nil ?_
        show SS X _ _ _
        obtain ⟨greatest_5, hgreatest_5, H⟩ := bindO H
        refine set_ A sc_check_rates_2 1 rfl rfl (Ev.cv (nmF A sc_check_rates_2 2 rfl rfl rfl) (congrArg D.int (Option.some.inj hgreatest_5))) .int rfl ?_
        show SS X [some (.bor (D.tup (List.map D.int a_rates))), some (.frz (D.int greatest_5)), some (.frz (D.int z_3))] _ _
        obtain rfl := Option.some.inj H
        refine ss_nil ?_
        exact (wkr (wkr (wkn wk0)))
    exact ss_nil ⟨rfl, rfl⟩
def m_strengths_of_2 (a_bidders : (List (Str × Int × Int))) : Option (List Int) :=
  ((lcG a_bidders).bind fun ys_1 => ((lcM (fun z_2 : (Str × Int × Int) => some true) (fun z_2 : (Str × Int × Int) => ((mulG z_2.2.1 z_2.2.2).bind fun n_3 => some n_3)) ys_1).bind fun zs_4 => some zs_4))
def R_strengths_of_2 : Rel := fun ds d k => ∃ (a_bidders : (List (Str × Int × Int))) (r : (List Int)), ds = [(D.tup (List.map (fun x : (Str × Int × Int) => (D.tup [(D.str x.1), (D.int x.2.1), (D.int x.2.2)])) a_bidders))] ∧ m_strengths_of_2 a_bidders = some r ∧ d = (fun x : (List Int) => (D.lst (List.map D.int x))) r ∧ k = .own
abbrev N_strengths_of_2 : List Str := ["bidders", "name", "weight", "bid"]
theorem fs_strengths_of_2 : FnScope N_strengths_of_2 ["bidders"] (defScope s_strengths_of) := ⟨rfl, rfl, rfl, by decide +kernel, rfl, by decide +kernel, by decide +kernel⟩
theorem sc_strengths_of_2 : Sc N_strengths_of_2 (defScope s_strengths_of) [0] [] [] := ⟨fs_strengths_of_2.nd, by decide +kernel⟩
abbrev cs_strengths_of_2_c1 : Scope := compScope (s_strengths_of) [0, 0]
theorem sc_strengths_of_2_c1 : Sc N_strengths_of_2 cs_strengths_of_2_c1 [2, 3] [1, 2, 3] [] := ⟨fs_strengths_of_2.nd, by decide +kernel⟩
theorem b_strengths_of_2 {X : Cx} {Γ : Gd} (A : At X Γ N_strengths_of_2 (defScope s_strengths_of) 0)  {ds : List D} {d : D} {k : Kd} (hR : R_strengths_of_2 ds d k) :
    SS X (env0 4 ds) (defBody s_strengths_of) { rt := fun d' k' => d' = d ∧ Fits k' k d, nx := fun _ => d = .non ∧ k = .cln } := by
  obtain ⟨a_bidders, r, rfl, H, rfl, rfl⟩ := hR
  unfold m_strengths_of_2 at H
  obtain ⟨ys_1, hys_1, H⟩ := bindO H
  obtain ⟨zs_4, hzs_4, H⟩ := bindO H
  exact ss_ret (Ec.ev (lcM_ (en := (fun x : (Str × Int × Int) => (D.tup [(D.str x.1), (D.int x.2.1), (D.int x.2.2)]))) D.int [("name", 1), ("weight", 2), ("bid", 3)] .c A sc_strengths_of_2 (by decide +kernel) (iter_ (Ev.imm (nmB A sc_strengths_of_2 0 rfl rfl rfl) (imm_vt (fun _ => (imm_tup (imm_cons rfl (imm_cons rfl (imm_cons rfl rfl))))) _)) .tupC) hys_1 hzs_4 (Clear_of rfl) (fun Y AY => (tg_tp AY.calm (tgs_cons (tg AY sc_strengths_of_2_c1 1 rfl rfl) (tgs_cons (tg AY sc_strengths_of_2_c1 2 rfl rfl) (tgs_cons (tg AY sc_strengths_of_2_c1 3 rfl rfl) tgs_nil rfl) rfl) rfl) rfl rfl)) (by decide) (fun _ => rfl) (fun z_2 _ => ⟨_, rfl, fun b H Y AY => by obtain rfl := Option.some.inj H; exact ets_nil, fun y _ H => by obtain ⟨n_3, hn_3, H⟩ := bindO H; obtain rfl := Option.some.inj H; exact ⟨_, rfl, fun Y AY => (mul_ (nmF AY sc_strengths_of_2_c1 2 rfl rfl rfl) (nmF AY sc_strengths_of_2_c1 3 rfl rfl rfl) hn_3)⟩⟩))) (⟨(congrArg (fun x : (List Int) => (D.lst (List.map D.int x))) (Option.some.inj H)), .refl⟩)
def m_ranking_2 (a_bidders : (List (Str × Int × Int))) : Option (List Int) :=
  ((m_strengths_of_2 a_bidders).bind fun r_1 => ((lcG (enumL r_1)).bind fun ys_2 => ((srtG (ys_2.map (fun z_3 : (Int × Int) => ((-z_3.2), z_3.1)))).bind fun so_4 => ((lcG so_4).bind fun ys_5 => some (ys_5.map (fun z_6 : (Int × Int) => z_6.2))))))
def R_ranking_2 : Rel := fun ds d k => ∃ (a_bidders : (List (Str × Int × Int))) (r : (List Int)), ds = [(D.tup (List.map (fun x : (Str × Int × Int) => (D.tup [(D.str x.1), (D.int x.2.1), (D.int x.2.2)])) a_bidders))] ∧ m_ranking_2 a_bidders = some r ∧ d = (fun x : (List Int) => (D.lst (List.map D.int x))) r ∧ k = .own
abbrev N_ranking_2 : List Str := ["bidders", "_", "place", "own"]
theorem fs_ranking_2 : FnScope N_ranking_2 ["bidders"] (defScope s_ranking) := ⟨rfl, rfl, rfl, by decide +kernel, rfl, by decide +kernel, by decide +kernel⟩
theorem sc_ranking_2 : Sc N_ranking_2 (defScope s_ranking) [0] [] ["enumerate", "strengths_of", "sorted"] := ⟨fs_ranking_2.nd, by decide +kernel⟩
abbrev cs_ranking_2_c1 : Scope := compScope (s_ranking) [0, 0, 2, 1]
theorem sc_ranking_2_c1 : Sc N_ranking_2 cs_ranking_2_c1 [2, 3] [2, 3] [] := ⟨fs_ranking_2.nd, by decide +kernel⟩
abbrev cs_ranking_2_c2 : Scope := compScope (s_ranking) [0, 0]
theorem sc_ranking_2_c2 : Sc N_ranking_2 cs_ranking_2_c2 [2] [1, 2] [] := ⟨fs_ranking_2.nd, by decide +kernel⟩
theorem b_ranking_2 {X : Cx} {Γ : Gd} (A : At X Γ N_ranking_2 (defScope s_ranking) 1) (g_enumerate : Γ.mg "enumerate" = none) (g_sorted : Γ.mg "sorted" = none) (C_strengths_of_2 : Cal Γ "strengths_of" R_strengths_of_2 1 []) {ds : List D} {d : D} {k : Kd} (hR : R_ranking_2 ds d k) :
    SS X (env0 4 ds) (defBody s_ranking) { rt := fun d' k' => d' = d ∧ Fits k' k d, nx := fun _ => d = .non ∧ k = .cln } := by
  obtain ⟨a_bidders, r, rfl, H, rfl, rfl⟩ := hR
  unfold m_ranking_2 at H
  obtain ⟨r_1, hr_1, H⟩ := bindO H
  obtain ⟨ys_2, hys_2, H⟩ := bindO H
  obtain ⟨so_4, hso_4, H⟩ := bindO H
  obtain ⟨ys_5, hys_5, H⟩ := bindO H
  exact ss_ret (Ec.ev (Ec.cv (lcP_ (en := (fun x : (Int × Int) => (D.tup [(D.int x.1), (D.int x.2)]))) D.int [("_", 1), ("place", 2)] (fun z_6 : (Int × Int) => true) (fun z_6 : (Int × Int) => z_6.2) .c A sc_ranking_2 (by decide +kernel) (iter_ (srtPL_ (bn A sc_ranking_2 2 rfl g_sorted bt_sorted) (Ec.ev (Ec.cv (lcP_ (en := (fun x : (Int × Int) => (D.tup [(D.int x.1), (D.int x.2)]))) (fun x : (Int × Int) => (D.tup [(D.int x.1), (D.int x.2)])) [("place", 2), ("own", 3)] (fun z_3 : (Int × Int) => true) (fun z_3 : (Int × Int) => ((-z_3.2), z_3.1)) .c A sc_ranking_2 (by decide +kernel) (enumLC_ (f := D.int) (glo A sc_ranking_2 0 rfl) (by rw [A.eM]; exact g_enumerate) (Ev.own_cln (Cal.ev C_strengths_of_2 A sc_ranking_2 1 rfl (by decide) (ea_cons (Ev.imm (nmB A sc_ranking_2 0 rfl rfl rfl) (imm_vt (fun _ => (imm_tup (imm_cons rfl (imm_cons rfl (imm_cons rfl rfl))))) _)) ea_nil (.inl rfl) rfl) (.inl rfl) (.inl rfl) rfl rfl ⟨a_bidders, r_1, rfl, hr_1, rfl, rfl⟩)) rfl) hys_2 (Clear_of rfl) (fun Y AY => (tg_tp AY.calm (tgs_cons (tg AY sc_ranking_2_c1 2 rfl rfl) (tgs_cons (tg AY sc_ranking_2_c1 3 rfl rfl) tgs_nil rfl) rfl) rfl rfl)) (by decide) (fun _ => rfl) (fun z_3 _ => ⟨_, rfl, fun Y AY => ets_nil, fun _ => ⟨_, rfl, fun Y AY => (ev_tup (ea_cons (ev_neg (nmF AY sc_ranking_2_c1 3 rfl rfl rfl)) (ea_cons (nmF AY sc_ranking_2_c1 2 rfl rfl rfl) ea_nil (.inl rfl) rfl) (.inl rfl) rfl) (.inl rfl) (le_line rfl))⟩⟩)) (by rw [List.filter_eq_self.mpr (fun _ _ => rfl)]))) hso_4 rfl) .lstO) hys_5 (Clear_of rfl) (fun Y AY => (tg_tp AY.calm (tgs_cons (tg AY sc_ranking_2_c2 1 rfl rfl) (tgs_cons (tg AY sc_ranking_2_c2 2 rfl rfl) tgs_nil rfl) rfl) rfl rfl)) (by decide) (fun _ => rfl) (fun z_6 _ => ⟨_, rfl, fun Y AY => ets_nil, fun _ => ⟨_, rfl, fun Y AY => (nmF AY sc_ranking_2_c2 2 rfl rfl rfl)⟩⟩)) (by rw [List.filter_eq_self.mpr (fun _ _ => rfl)]))) (⟨(congrArg (fun x : (List Int) => (D.lst (List.map D.int x))) (Option.some.inj H)), .refl⟩)
def m_ladder_2 (a_bidders : (List (Str × Int × Int))) (a_hours : Int) (a_floor : Int) : Option (List Str) :=
  ((m_check_bidders_2 a_bidders).bind fun r_1 => ((m_check_hours a_hours).bind fun r_2 => ((m_check_floor a_floor).bind fun r_3 => ((m_strengths_of_2 a_bidders).bind fun r_4 => ((some r_4).bind fun strengths_5 => ((m_ranking_2 a_bidders).bind fun r_6 => ((lcG r_6).bind fun ys_7 => ((lcM (fun z_8 : Int => ((idxG strengths_5 z_8).bind fun x_9 => some (decide (a_floor ≤ x_9)))) (fun z_8 : Int => some z_8) ys_7).bind fun zs_10 => ((some zs_10).bind fun places_11 => ((lcG (cutX places_11 none (some a_hours))).bind fun ys_12 => ((lcM (fun z_13 : Int => some true) (fun z_13 : Int => ((idxG a_bidders z_13).bind fun x_14 => some x_14.1)) ys_12).bind fun zs_15 => some zs_15)))))))))))
def R_ladder_2 : Rel := fun ds d k => ∃ (a_bidders : (List (Str × Int × Int))) (a_hours : Int) (a_floor : Int) (r : (List Str)), ds = [(D.tup (List.map (fun x : (Str × Int × Int) => (D.tup [(D.str x.1), (D.int x.2.1), (D.int x.2.2)])) a_bidders)), (D.int a_hours), (D.int a_floor)] ∧ m_ladder_2 a_bidders a_hours a_floor = some r ∧ d = (fun x : (List Str) => (D.tup (List.map D.str x))) r ∧ k = .cln
abbrev N_ladder_2 : List Str := ["bidders", "hours", "floor", "strengths", "places", "place"]
theorem fs_ladder_2 : FnScope N_ladder_2 ["bidders", "hours", "floor"] (defScope s_ladder) := ⟨rfl, rfl, rfl, by decide +kernel, rfl, by decide +kernel, by decide +kernel⟩
theorem sc_ladder_2 : Sc N_ladder_2 (defScope s_ladder) [0, 1, 2, 4] [3, 4] ["check_bidders", "check_hours", "check_floor", "strengths_of", "ranking", "tuple"] := ⟨fs_ladder_2.nd, by decide +kernel⟩
abbrev cs_ladder_2_c1 : Scope := compScope (s_ladder) [4, 1]
theorem sc_ladder_2_c1 : Sc N_ladder_2 cs_ladder_2_c1 [2, 3, 5] [5] [] := ⟨fs_ladder_2.nd, by decide +kernel⟩
abbrev cs_ladder_2_c2 : Scope := compScope (s_ladder) [5, 0, 1]
theorem sc_ladder_2_c2 : Sc N_ladder_2 cs_ladder_2_c2 [0, 5] [5] [] := ⟨fs_ladder_2.nd, by decide +kernel⟩
theorem b_ladder_2 {X : Cx} {Γ : Gd} (A : At X Γ N_ladder_2 (defScope s_ladder) 2) (g_tuple : Γ.mg "tuple" = none) (C_check_bidders_2 : Cal Γ "check_bidders" R_check_bidders_2 2 []) (C_check_floor : Cal Γ "check_floor" R_check_floor 1 []) (C_check_hours : Cal Γ "check_hours" R_check_hours 1 []) (C_ranking_2 : Cal Γ "ranking" R_ranking_2 2 []) (C_strengths_of_2 : Cal Γ "strengths_of" R_strengths_of_2 1 []) {ds : List D} {d : D} {k : Kd} (hR : R_ladder_2 ds d k) :
    SS X (env0 6 ds) (defBody s_ladder) { rt := fun d' k' => d' = d ∧ Fits k' k d, nx := fun _ => d = .non ∧ k = .cln } := by
  obtain ⟨a_bidders, a_hours, a_floor, r, rfl, H, rfl, rfl⟩ := hR
  unfold m_ladder_2 at H
  obtain ⟨r_1, hr_1, H⟩ := bindO H
  refine ss_ex (Cal.ev C_check_bidders_2 A sc_ladder_2 0 rfl (by decide) (ea_cons (Ev.imm (nmB A sc_ladder_2 0 rfl rfl rfl) (imm_vt (fun _ => (imm_tup (imm_cons rfl (imm_cons rfl (imm_cons rfl rfl))))) _)) ea_nil (.inl rfl) rfl) (.inl rfl) (.inr (.inl rfl)) rfl rfl ⟨a_bidders, r_1, rfl, hr_1, rfl, rfl⟩) rfl ?_
  obtain ⟨r_2, hr_2, H⟩ := bindO H
  refine ss_ex (Cal.ev C_check_hours A sc_ladder_2 1 rfl (by decide) (ea_cons (nmF A sc_ladder_2 1 rfl rfl rfl) ea_nil (.inl rfl) rfl) (.inl rfl) (.inr (.inl rfl)) rfl rfl ⟨a_hours, r_2, rfl, hr_2, rfl, rfl⟩) rfl ?_
  obtain ⟨r_3, hr_3, H⟩ := bindO H
  refine ss_ex (Cal.ev C_check_floor A sc_ladder_2 2 rfl (by decide) (ea_cons (nmF A sc_ladder_2 2 rfl rfl rfl) ea_nil (.inl rfl) rfl) (.inl rfl) (.inr (.inl rfl)) rfl rfl ⟨a_floor, r_3, rfl, hr_3, rfl, rfl⟩) rfl ?_
  obtain ⟨r_4, hr_4, H⟩ := bindO H
  obtain ⟨strengths_5, hstrengths_5, H⟩ := bindO H
  refine set_ A sc_ladder_2 3 rfl rfl (Ev.cv (Cal.ev C_strengths_of_2 A sc_ladder_2 3 rfl (by decide) (ea_cons (Ev.imm (nmB A sc_ladder_2 0 rfl rfl rfl) (imm_vt (fun _ => (imm_tup (imm_cons rfl (imm_cons rfl (imm_cons rfl rfl))))) _)) ea_nil (.inl rfl) rfl) (.inl rfl) (.inl rfl) rfl rfl ⟨a_bidders, r_4, rfl, hr_4, rfl, rfl⟩) (congrArg (fun x : (List Int) => (D.lst (List.map D.int x))) (Option.some.inj hstrengths_5))) .own rfl ?_
  show SS X [some (.bor (D.tup (List.map (fun x : (Str × Int × Int) => (D.tup [(D.str x.1), (D.int x.2.1), (D.int x.2.2)])) a_bidders))), some (.frz (D.int a_hours)), some (.frz (D.int a_floor)), some (.own (D.lst (List.map D.int strengths_5))), none, none] _ _
  obtain ⟨r_6, hr_6, H⟩ := bindO H
  obtain ⟨ys_7, hys_7, H⟩ := bindO H
  obtain ⟨zs_10, hzs_10, H⟩ := bindO H
  obtain ⟨places_11, hplaces_11, H⟩ := bindO H
  refine setLc_ A sc_ladder_2 4 rfl (by decide +kernel) (by decide +kernel) rfl (by decide +kernel) (Ec.cv (lcM_ (en := D.int) D.int [("place", 5)] .c A sc_ladder_2 (by decide +kernel) (iter_ (Cal.ev C_ranking_2 A sc_ladder_2 4 rfl (by decide) (ea_cons (Ev.imm (nmB A sc_ladder_2 0 rfl rfl rfl) (imm_vt (fun _ => (imm_tup (imm_cons rfl (imm_cons rfl (imm_cons rfl rfl))))) _)) ea_nil (.inl rfl) rfl) (.inl rfl) (.inl rfl) rfl rfl ⟨a_bidders, r_6, rfl, hr_6, rfl, rfl⟩) .lstO) hys_7 hzs_10 (Clear_of rfl) (fun Y AY => (tg AY sc_ladder_2_c1 5 rfl rfl)) (by decide) (fun _ => rfl) (fun z_8 _ => ⟨_, rfl, fun b H Y AY => by obtain ⟨x_9, hx_9, H⟩ := bindO H; obtain rfl := Option.some.inj H; exact (ets_one (et_cI (ixL_ (f := D.int) (nmO AY sc_ladder_2_c1 3 rfl rfl rfl) (nmF AY sc_ladder_2_c1 5 rfl rfl rfl) hx_9 (fun _ _ => rfl)) (nmF AY sc_ladder_2_c1 2 rfl rfl rfl) .ge)), fun y _ H => by obtain rfl := Option.some.inj H; exact ⟨_, rfl, fun Y AY => (nmF AY sc_ladder_2_c1 5 rfl rfl rfl)⟩⟩)) (congrArg (fun x : (List Int) => (D.lst (List.map D.int x))) (Option.some.inj hplaces_11))) .own ?_
  show SS X [some (.bor (D.tup (List.map (fun x : (Str × Int × Int) => (D.tup [(D.str x.1), (D.int x.2.1), (D.int x.2.2)])) a_bidders))), some (.frz (D.int a_hours)), some (.frz (D.int a_floor)), some (.own (D.lst (List.map D.int strengths_5))), some (.own (D.lst (List.map D.int places_11))), none] _ _
  obtain ⟨ys_12, hys_12, H⟩ := bindO H
  obtain ⟨zs_15, hzs_15, H⟩ := bindO H
  exact ss_ret (tuple_ (bn A sc_ladder_2 5 rfl g_tuple bt_tuple) (Ec.ev (lcM_ (en := D.int) D.str [("place", 5)] .c A sc_ladder_2 (by decide +kernel) (iter_ (slL_ (nmO A sc_ladder_2 4 rfl rfl rfl) eo_none (eo_some (nmF A sc_ladder_2 1 rfl rfl rfl))) .lstO) hys_12 hzs_15 (Clear_of rfl) (fun Y AY => (tg AY sc_ladder_2_c2 5 rfl rfl)) (by decide) (fun _ => rfl) (fun z_13 _ => ⟨_, rfl, fun b H Y AY => by obtain rfl := Option.some.inj H; exact ets_nil, fun y _ H => by obtain ⟨x_14, hx_14, H⟩ := bindO H; obtain rfl := Option.some.inj H; exact ⟨_, rfl, fun Y AY => (ix_ (ixT_ (f := (fun x : (Str × Int × Int) => (D.tup [(D.str x.1), (D.int x.2.1), (D.int x.2.2)]))) (Ev.imm (nmB AY sc_ladder_2_c2 0 rfl rfl rfl) (imm_vt (fun _ => (imm_tup (imm_cons rfl (imm_cons rfl (imm_cons rfl rfl))))) _)) (nmF AY sc_ladder_2_c2 5 rfl rfl rfl) hx_14 (fun _ _ => rfl)) ev_int (.tup rfl) (fun _ _ => rfl))⟩⟩))) .lst rfl) (⟨(congrArg (fun x : (List Str) => (D.tup (List.map D.str x))) (Option.some.inj H)), .refl⟩)
def m_strengths_behind_2 (a_bidders : (List (Str × Int × Int))) (a_many : Int) (a_floor : Int) : Option (List Int) :=
  ((m_strengths_of_2 a_bidders).bind fun r_1 => ((some r_1).bind fun strengths_2 => ((m_ranking_2 a_bidders).bind fun r_3 => ((lcG r_3).bind fun ys_4 => ((lcM (fun z_5 : Int => some true) (fun z_5 : Int => ((idxG strengths_2 z_5).bind fun x_6 => some (if x_6 > a_floor then x_6 else a_floor : Int))) ys_4).bind fun zs_7 => ((some zs_7).bind fun ranked_8 => ((rng1G a_many).bind fun r_9 => ((lcG r_9).bind fun ys_10 => ((lcM (fun z_11 : Int => some true) (fun z_11 : Int => ((if (decide ((z_11 + (1 : Int)) < (ranked_8.length : Int))) = true then ((idxG ranked_8 (z_11 + (1 : Int))).bind fun x_12 => some x_12) else some a_floor).bind fun v_13 => some v_13)) ys_10).bind fun zs_14 => some zs_14)))))))))
def R_strengths_behind_2 : Rel := fun ds d k => ∃ (a_bidders : (List (Str × Int × Int))) (a_many : Int) (a_floor : Int) (r : (List Int)), ds = [(D.tup (List.map (fun x : (Str × Int × Int) => (D.tup [(D.str x.1), (D.int x.2.1), (D.int x.2.2)])) a_bidders)), (D.int a_many), (D.int a_floor)] ∧ m_strengths_behind_2 a_bidders a_many a_floor = some r ∧ d = (fun x : (List Int) => (D.lst (List.map D.int x))) r ∧ k = .own
abbrev N_strengths_behind_2 : List Str := ["bidders", "many", "floor", "strengths", "ranked", "place", "at"]
theorem fs_strengths_behind_2 : FnScope N_strengths_behind_2 ["bidders", "many", "floor"] (defScope s_strengths_behind) := ⟨rfl, rfl, rfl, by decide +kernel, rfl, by decide +kernel, by decide +kernel⟩
theorem sc_strengths_behind_2 : Sc N_strengths_behind_2 (defScope s_strengths_behind) [0, 1] [3, 4] ["strengths_of", "ranking", "range"] := ⟨fs_strengths_behind_2.nd, by decide +kernel⟩
abbrev cs_strengths_behind_2_c1 : Scope := compScope (s_strengths_behind) [1, 1]
theorem sc_strengths_behind_2_c1 : Sc N_strengths_behind_2 cs_strengths_behind_2_c1 [2, 3, 5] [5] ["max"] := ⟨fs_strengths_behind_2.nd, by decide +kernel⟩
abbrev cs_strengths_behind_2_c2 : Scope := compScope (s_strengths_behind) [2, 0]
theorem sc_strengths_behind_2_c2 : Sc N_strengths_behind_2 cs_strengths_behind_2_c2 [2, 4, 6] [6] ["len"] := ⟨fs_strengths_behind_2.nd, by decide +kernel⟩
theorem b_strengths_behind_2 {X : Cx} {Γ : Gd} (A : At X Γ N_strengths_behind_2 (defScope s_strengths_behind) 2) (g_len : Γ.mg "len" = none) (g_max : Γ.mg "max" = none) (g_range : Γ.mg "range" = none) (C_ranking_2 : Cal Γ "ranking" R_ranking_2 2 []) (C_strengths_of_2 : Cal Γ "strengths_of" R_strengths_of_2 1 []) {ds : List D} {d : D} {k : Kd} (hR : R_strengths_behind_2 ds d k) :
    SS X (env0 7 ds) (defBody s_strengths_behind) { rt := fun d' k' => d' = d ∧ Fits k' k d, nx := fun _ => d = .non ∧ k = .cln } := by
  obtain ⟨a_bidders, a_many, a_floor, r, rfl, H, rfl, rfl⟩ := hR
  unfold m_strengths_behind_2 at H
  obtain ⟨r_1, hr_1, H⟩ := bindO H
  obtain ⟨strengths_2, hstrengths_2, H⟩ := bindO H
  refine set_ A sc_strengths_behind_2 3 rfl rfl (Ev.cv (Cal.ev C_strengths_of_2 A sc_strengths_behind_2 0 rfl (by decide) (ea_cons (Ev.imm (nmB A sc_strengths_behind_2 0 rfl rfl rfl) (imm_vt (fun _ => (imm_tup (imm_cons rfl (imm_cons rfl (imm_cons rfl rfl))))) _)) ea_nil (.inl rfl) rfl) (.inl rfl) (.inl rfl) rfl rfl ⟨a_bidders, r_1, rfl, hr_1, rfl, rfl⟩) (congrArg (fun x : (List Int) => (D.lst (List.map D.int x))) (Option.some.inj hstrengths_2))) .own rfl ?_
  show SS X [some (.bor (D.tup (List.map (fun x : (Str × Int × Int) => (D.tup [(D.str x.1), (D.int x.2.1), (D.int x.2.2)])) a_bidders))), some (.frz (D.int a_many)), some (.frz (D.int a_floor)), some (.own (D.lst (List.map D.int strengths_2))), none, none, none] _ _
  obtain ⟨r_3, hr_3, H⟩ := bindO H
  obtain ⟨ys_4, hys_4, H⟩ := bindO H
  obtain ⟨zs_7, hzs_7, H⟩ := bindO H
  obtain ⟨ranked_8, hranked_8, H⟩ := bindO H
  refine setLcC_ A sc_strengths_behind_2 4 rfl (by decide +kernel) rfl (Ec.cv (lcM_ (en := D.int) D.int [("place", 5)] .c A sc_strengths_behind_2 (by decide +kernel) (iter_ (Cal.ev C_ranking_2 A sc_strengths_behind_2 1 rfl (by decide) (ea_cons (Ev.imm (nmB A sc_strengths_behind_2 0 rfl rfl rfl) (imm_vt (fun _ => (imm_tup (imm_cons rfl (imm_cons rfl (imm_cons rfl rfl))))) _)) ea_nil (.inl rfl) rfl) (.inl rfl) (.inl rfl) rfl rfl ⟨a_bidders, r_3, rfl, hr_3, rfl, rfl⟩) .lstO) hys_4 hzs_7 (Clear_of rfl) (fun Y AY => (tg AY sc_strengths_behind_2_c1 5 rfl rfl)) (by decide) (fun _ => rfl) (fun z_5 _ => ⟨_, rfl, fun b H Y AY => by obtain rfl := Option.some.inj H; exact ets_nil, fun y _ H => by obtain ⟨x_6, hx_6, H⟩ := bindO H; obtain rfl := Option.some.inj H; exact ⟨_, rfl, fun Y AY => (ev_max2 AY.calm (bn AY sc_strengths_behind_2_c1 0 rfl g_max bt_max) (nmF AY sc_strengths_behind_2_c1 2 rfl rfl rfl) (ixL_ (f := D.int) (nmO AY sc_strengths_behind_2_c1 3 rfl rfl rfl) (nmF AY sc_strengths_behind_2_c1 5 rfl rfl rfl) hx_6 (fun _ _ => rfl)) rfl rfl)⟩⟩)) (congrArg (fun x : (List Int) => (D.lst (List.map D.int x))) (Option.some.inj hranked_8))) .own ?_
  show SS X [some (.bor (D.tup (List.map (fun x : (Str × Int × Int) => (D.tup [(D.str x.1), (D.int x.2.1), (D.int x.2.2)])) a_bidders))), some (.frz (D.int a_many)), some (.frz (D.int a_floor)), some (.own (D.lst (List.map D.int strengths_2))), some (.own (D.lst (List.map D.int ranked_8))), none, none] _ _
  obtain ⟨r_9, hr_9, H⟩ := bindO H
  obtain ⟨ys_10, hys_10, H⟩ := bindO H
  obtain ⟨zs_14, hzs_14, H⟩ := bindO H
  exact ss_ret (Ec.ev (lcM_ (en := D.int) D.int [("at", 6)] .c A sc_strengths_behind_2 (by decide +kernel) (rng1_ (glo A sc_strengths_behind_2 2 rfl) (by rw [A.eM]; exact g_range) (nmF A sc_strengths_behind_2 1 rfl rfl rfl) hr_9 rfl) hys_10 hzs_14 (Clear_of rfl) (fun Y AY => (tg AY sc_strengths_behind_2_c2 6 rfl rfl)) (by decide) (fun _ => rfl) (fun z_11 _ => ⟨_, rfl, fun b H Y AY => by obtain rfl := Option.some.inj H; exact ets_nil, fun y _ H => by obtain ⟨v_13, hv_13, H⟩ := bindO H; obtain rfl := Option.some.inj H; exact ⟨_, rfl, fun Y AY => (ev_ifM (en := D.int) (et_cI (ev_add (nmF AY sc_strengths_behind_2_c2 6 rfl rfl rfl) ev_int) (lenL_ (bn AY sc_strengths_behind_2_c2 0 rfl g_len bt_len) (nmO AY sc_strengths_behind_2_c2 4 rfl rfl rfl) rfl) .lt) hv_13 (fun H => by obtain ⟨x_12, hx_12, H⟩ := bindO H; obtain rfl := Option.some.inj H; exact (ixL_ (f := D.int) (nmO AY sc_strengths_behind_2_c2 4 rfl rfl rfl) (ev_add (nmF AY sc_strengths_behind_2_c2 6 rfl rfl rfl) ev_int) hx_12 (fun _ _ => rfl))) (fun H => by obtain rfl := Option.some.inj H; exact (nmF AY sc_strengths_behind_2_c2 2 rfl rfl rfl)))⟩⟩))) (⟨(congrArg (fun x : (List Int) => (D.lst (List.map D.int x))) (Option.some.inj H)), .refl⟩)
def m_least_rents_2 (a_rates : (List Int)) (a_behind : (List Int)) : Option (List Int) :=
  ((some ([] : (List Int))).bind fun rents_1 => ((some (0 : Int)).bind fun rent_2 => ((some (0 : Int)).bind fun later_3 => ((List.foldlM (fun (s_4 : ((List Int) × Int × Int)) (z_5 : (Int × Int)) => ((mulG z_5.2 (z_5.1 - s_4.2.2)).bind fun n_7 => ((some (s_4.2.1 + n_7)).bind fun rent_8 => ((some z_5.1).bind fun later_9 => ((appG s_4.1 rent_8).bind fun rents_10 => some (rents_10, rent_8, later_9)))))) (rents_1, rent_2, later_3) (List.zip (a_rates.reverse) (a_behind.reverse))).bind fun s_6 => some (s_6.1.reverse)))))
def R_least_rents_2 : Rel := fun ds d k => ∃ (a_rates : (List Int)) (a_behind : (List Int)) (r : (List Int)), ds = [(D.tup (List.map D.int a_rates)), (D.lst (List.map D.int a_behind))] ∧ m_least_rents_2 a_rates a_behind = some r ∧ d = (fun x : (List Int) => (D.tup (List.map D.int x))) r ∧ k = .cln
abbrev N_least_rents_2 : List Str := ["rates", "behind", "rents", "rent", "later", "rate", "strength"]
theorem fs_least_rents_2 : FnScope N_least_rents_2 ["rates", "behind"] (defScope s_least_rents) := ⟨rfl, rfl, rfl, by decide +kernel, rfl, by decide +kernel, by decide +kernel⟩
theorem sc_least_rents_2 : Sc N_least_rents_2 (defScope s_least_rents) [0, 1, 2, 3, 4, 5, 6] [2, 3, 4, 5, 6] ["zip", "tuple"] := ⟨fs_least_rents_2.nd, by decide +kernel⟩
theorem b_least_rents_2 {X : Cx} {Γ : Gd} (A : At X Γ N_least_rents_2 (defScope s_least_rents) 0) (g_tuple : Γ.mg "tuple" = none) (g_zip : Γ.mg "zip" = none) {ds : List D} {d : D} {k : Kd} (hR : R_least_rents_2 ds d k) :
    SS X (env0 7 ds) (defBody s_least_rents) { rt := fun d' k' => d' = d ∧ Fits k' k d, nx := fun _ => d = .non ∧ k = .cln } := by
  obtain ⟨a_rates, a_behind, r, rfl, H, rfl, rfl⟩ := hR
  unfold m_least_rents_2 at H
  obtain ⟨rents_1, hrents_1, H⟩ := bindO H
  refine set_ A sc_least_rents_2 2 rfl rfl (Ev.cv (ev_list ea_nil (.inl rfl) (le_line rfl)) (congrArg (fun x : (List Int) => (D.lst (List.map D.int x))) (Option.some.inj hrents_1))) .own rfl ?_
  show SS X [some (.bor (D.tup (List.map D.int a_rates))), some (.bor (D.lst (List.map D.int a_behind))), some (.own (D.lst (List.map D.int rents_1))), none, none, none, none] _ _
  obtain ⟨rent_2, hrent_2, H⟩ := bindO H
  refine set_ A sc_least_rents_2 3 rfl rfl (Ev.cv ev_int (congrArg D.int (Option.some.inj hrent_2))) .int rfl ?_
  show SS X [some (.bor (D.tup (List.map D.int a_rates))), some (.bor (D.lst (List.map D.int a_behind))), some (.own (D.lst (List.map D.int rents_1))), some (.frz (D.int rent_2)), none, none, none] _ _
  obtain ⟨later_3, hlater_3, H⟩ := bindO H
  refine set_ A sc_least_rents_2 4 rfl rfl (Ev.cv ev_int (congrArg D.int (Option.some.inj hlater_3))) .int rfl ?_
  show SS X [some (.bor (D.tup (List.map D.int a_rates))), some (.bor (D.lst (List.map D.int a_behind))), some (.own (D.lst (List.map D.int rents_1))), some (.frz (D.int rent_2)), some (.frz (D.int later_3)), none, none] _ _
  obtain ⟨s_6, hs_6, H⟩ := bindO H
  refine forM_ (en := (fun x : (Int × Int) => (D.tup [(D.int x.1), (D.int x.2)]))) (fun s_4 : ((List Int) × Int × Int) => [some (.bor (D.tup (List.map D.int a_rates))), some (.bor (D.lst (List.map D.int a_behind))), some (.own (D.lst (List.map D.int s_4.1))), some (.frz (D.int s_4.2.1)), some (.frz (D.int s_4.2.2)), none, none]) A (zipX_ (f := D.int) (g := D.int) true false .c (glo A sc_least_rents_2 0 rfl) (by rw [A.eM]; exact g_zip) (revT_ (Ev.imm (nmB A sc_least_rents_2 0 rfl rfl rfl) (imm_vt (fun _ => rfl) _))) (Ev.own_cln (revL_ (Ev.shlI (nmB A sc_least_rents_2 1 rfl rfl rfl) (imms_map (fun _ => rfl) _)))) rfl rfl) (tg_tp A.calm (tgs_cons (tg A sc_least_rents_2 5 rfl rfl) (tgs_cons (tg A sc_least_rents_2 6 rfl rfl) tgs_nil rfl) rfl) rfl rfl) (fun _ => rfl) hs_6 ?_ ?_ ?_
  · exact (wkr (wkr (wkr (wkr (wkr (wkn (wkn wk0)))))))
  · intro s_4 z_5 s' hx H
    refine ⟨_, rfl, ?_⟩
    obtain ⟨n_7, hn_7, H⟩ := bindO H
    obtain ⟨rent_8, hrent_8, H⟩ := bindO H
    refine set_ A sc_least_rents_2 3 rfl rfl (Ev.cv (ev_add (nmF A sc_least_rents_2 3 rfl rfl rfl) (mul_ (nmF A sc_least_rents_2 6 rfl rfl rfl) (ev_sub (nmF A sc_least_rents_2 5 rfl rfl rfl) (nmF A sc_least_rents_2 4 rfl rfl rfl)) hn_7)) (congrArg D.int (Option.some.inj hrent_8))) .int rfl ?_
    show SS X [some (.bor (D.tup (List.map D.int a_rates))), some (.bor (D.lst (List.map D.int a_behind))), some (.own (D.lst (List.map D.int s_4.1))), some (.frz (D.int rent_8)), some (.frz (D.int s_4.2.2)), some (.frz (D.int z_5.1)), some (.frz (D.int z_5.2))] _ _
    obtain ⟨later_9, hlater_9, H⟩ := bindO H
    refine set_ A sc_least_rents_2 4 rfl rfl (Ev.cv (nmF A sc_least_rents_2 5 rfl rfl rfl) (congrArg D.int (Option.some.inj hlater_9))) .int rfl ?_
    show SS X [some (.bor (D.tup (List.map D.int a_rates))), some (.bor (D.lst (List.map D.int a_behind))), some (.own (D.lst (List.map D.int s_4.1))), some (.frz (D.int rent_8)), some (.frz (D.int later_9)), some (.frz (D.int z_5.1)), some (.frz (D.int z_5.2))] _ _
    obtain ⟨rents_10, hrents_10, H⟩ := bindO H
    refine app_ (en := D.int) (x := rent_8) A sc_least_rents_2 2 rfl rfl rfl (nmF A sc_least_rents_2 3 rfl rfl rfl) (by first | rfl | exact heldOf_c) hrents_10 ⟨rfl, rfl, rfl⟩ rfl rfl ?_
    show SS X [some (.bor (D.tup (List.map D.int a_rates))), some (.bor (D.lst (List.map D.int a_behind))), some (.own (D.lst (List.map D.int rents_10))), some (.frz (D.int rent_8)), some (.frz (D.int later_9)), some (.frz (D.int z_5.1)), some (.frz (D.int z_5.2))] _ _
    obtain rfl := Option.some.inj H
    refine ss_nil ?_
    exact (wkr (wkr (wkr (wkr (wkr (wkn (wkn wk0)))))))
  exact ss_ret (tuple_ (bn A sc_least_rents_2 1 rfl g_tuple bt_tuple) (revL_ (nmO A sc_least_rents_2 2 rfl rfl rfl)) .lst rfl) (⟨(congrArg (fun x : (List Int) => (D.tup (List.map D.int x))) (Option.some.inj H)), .refl⟩)
def m_dearest_2 (a_bidders : (List (Str × Int × Int))) (a_rates : (List Int)) (a_floor : Int) : Option ((List Str) × Int × (List Int)) :=
  ((m_check_bidders_2 a_bidders).bind fun r_1 => ((m_check_rates_2 a_rates).bind fun r_2 => ((m_check_floor a_floor).bind fun r_3 => ((m_ladder_2 a_bidders (a_rates.length : Int) a_floor).bind fun r_4 => ((some r_4).bind fun names_5 => ((lcG (cutX a_rates (some (names_5.length : Int)) none)).bind fun ys_6 => ((catG names_5 (ys_6.map (fun z_7 : Int => ("" : Str)))).bind fun xs_8 => ((some xs_8).bind fun takers_9 => ((lcG a_bidders).bind fun ys_10 => ((lcM (fun z_11 : (Str × Int × Int) => some true) (fun z_11 : (Str × Int × Int) => ((mulG z_11.2.1 z_11.2.2).bind fun n_12 => some (z_11.1, n_12))) ys_10).bind fun zs_13 => ((some (dMerge [] zs_13)).bind fun strengths_14 => ((lcG (List.zip a_rates takers_9)).bind fun ys_15 => ((lcM (fun z_16 : (Int × Str) => some true) (fun z_16 : (Int × Str) => ((mulG z_16.1 ((dGet strengths_14 z_16.2).getD a_floor)).bind fun n_17 => some n_17)) ys_15).bind fun zs_18 => ((some (zs_18.sum)).bind fun total_19 => ((m_strengths_behind_2 a_bidders (a_rates.length : Int) a_floor).bind fun r_20 => ((m_least_rents_2 a_rates r_20).bind fun r_21 => ((m_Allotment_Xinit takers_9 total_19 r_21).bind fun ob_22 => some ob_22)))))))))))))))))
def R_dearest_2 (Γ : Gd) : Rel := fun ds d k => ∃ (a_bidders : (List (Str × Int × Int))) (a_rates : (List Int)) (a_floor : Int) (r : ((List Str) × Int × (List Int))), ds = [(D.tup (List.map (fun x : (Str × Int × Int) => (D.tup [(D.str x.1), (D.int x.2.1), (D.int x.2.2)])) a_bidders)), (D.tup (List.map D.int a_rates)), (D.int a_floor)] ∧ m_dearest_2 a_bidders a_rates a_floor = some r ∧ d = (fun x : ((List Str) × Int × (List Int)) => (D.obj (cA Γ "Allotment") [("takers", (D.tup (List.map D.str x.1))), ("total", (D.int x.2.1)), ("rents", (D.tup (List.map D.int x.2.2)))])) r ∧ k = .own
abbrev N_dearest_2 : List Str := ["bidders", "rates", "floor", "names", "takers", "_", "strengths", "name", "weight", "bid", "total", "rate", "taker"]
theorem fs_dearest_2 : FnScope N_dearest_2 ["bidders", "rates", "floor"] (defScope s_dearest) := ⟨rfl, rfl, rfl, by decide +kernel, rfl, by decide +kernel, by decide +kernel⟩
theorem sc_dearest_2 : Sc N_dearest_2 (defScope s_dearest) [0, 1, 2, 3, 4, 10] [3, 4, 6, 10] ["check_bidders", "check_rates", "check_floor", "len", "ladder", "tuple", "zip", "sum", "strengths_behind", "least_rents", "Allotment"] := ⟨fs_dearest_2.nd, by decide +kernel⟩
abbrev cs_dearest_2_c1 : Scope := compScope (s_dearest) [4, 1, 1, 1]
theorem sc_dearest_2_c1 : Sc N_dearest_2 cs_dearest_2_c1 [] [5] [] := ⟨fs_dearest_2.nd, by decide +kernel⟩
abbrev cs_dearest_2_c2 : Scope := compScope (s_dearest) [5, 1]
theorem sc_dearest_2_c2 : Sc N_dearest_2 cs_dearest_2_c2 [7, 8, 9] [7, 8, 9] [] := ⟨fs_dearest_2.nd, by decide +kernel⟩
abbrev cs_dearest_2_c3 : Scope := compScope (s_dearest) [6, 1, 1]
theorem sc_dearest_2_c3 : Sc N_dearest_2 cs_dearest_2_c3 [2, 6, 11, 12] [11, 12] [] := ⟨fs_dearest_2.nd, by decide +kernel⟩
theorem b_dearest_2 {X : Cx} {Γ : Gd} (A : At X Γ N_dearest_2 (defScope s_dearest) 3) (g_len : Γ.mg "len" = none) (g_sum : Γ.mg "sum" = none) (g_tuple : Γ.mg "tuple" = none) (g_zip : Γ.mg "zip" = none) (C_Allotment_Xinit : CalN Γ "Allotment" (cA Γ "Allotment") (R_Allotment_Xinit Γ) 1 []) (C_check_bidders_2 : Cal Γ "check_bidders" R_check_bidders_2 2 []) (C_check_floor : Cal Γ "check_floor" R_check_floor 1 []) (C_check_rates_2 : Cal Γ "check_rates" R_check_rates_2 1 []) (C_ladder_2_k1_hours_floor : CalK Γ "ladder" R_ladder_2 3 1 ["hours", "floor"] (fun a b => pick a [] [] b [.p 0, .k 0, .k 1])) (C_least_rents_2 : Cal Γ "least_rents" R_least_rents_2 1 []) (C_strengths_behind_2 : Cal Γ "strengths_behind" R_strengths_behind_2 3 []) {ds : List D} {d : D} {k : Kd} (hR : R_dearest_2 Γ ds d k) :
    SS X (env0 13 ds) (defBody s_dearest) { rt := fun d' k' => d' = d ∧ Fits k' k d, nx := fun _ => d = .non ∧ k = .cln } := by
  obtain ⟨a_bidders, a_rates, a_floor, r, rfl, H, rfl, rfl⟩ := hR
  unfold m_dearest_2 at H
  obtain ⟨r_1, hr_1, H⟩ := bindO H
  refine ss_ex (Cal.ev C_check_bidders_2 A sc_dearest_2 0 rfl (by decide) (ea_cons (Ev.imm (nmB A sc_dearest_2 0 rfl rfl rfl) (imm_vt (fun _ => (imm_tup (imm_cons rfl (imm_cons rfl (imm_cons rfl rfl))))) _)) ea_nil (.inl rfl) rfl) (.inl rfl) (.inr (.inl rfl)) rfl rfl ⟨a_bidders, r_1, rfl, hr_1, rfl, rfl⟩) rfl ?_
  obtain ⟨r_2, hr_2, H⟩ := bindO H
  refine ss_ex (Cal.ev C_check_rates_2 A sc_dearest_2 1 rfl (by decide) (ea_cons (Ev.imm (nmB A sc_dearest_2 1 rfl rfl rfl) (imm_vt (fun _ => rfl) _)) ea_nil (.inl rfl) rfl) (.inl rfl) (.inr (.inl rfl)) rfl rfl ⟨a_rates, r_2, rfl, hr_2, rfl, rfl⟩) rfl ?_
  obtain ⟨r_3, hr_3, H⟩ := bindO H
  refine ss_ex (Cal.ev C_check_floor A sc_dearest_2 2 rfl (by decide) (ea_cons (nmF A sc_dearest_2 2 rfl rfl rfl) ea_nil (.inl rfl) rfl) (.inl rfl) (.inr (.inl rfl)) rfl rfl ⟨a_floor, r_3, rfl, hr_3, rfl, rfl⟩) rfl ?_
  obtain ⟨r_4, hr_4, H⟩ := bindO H
  obtain ⟨names_5, hnames_5, H⟩ := bindO H
  refine set_ A sc_dearest_2 3 rfl rfl (Ev.cv (CalK.ev C_ladder_2_k1_hours_floor A sc_dearest_2 4 rfl (by decide) (ea_cons (Ev.imm (nmB A sc_dearest_2 0 rfl rfl rfl) (imm_vt (fun _ => (imm_tup (imm_cons rfl (imm_cons rfl (imm_cons rfl rfl))))) _)) ea_nil (.inl rfl) rfl) (.inl rfl) (ek_cons (lenT_ (bn A sc_dearest_2 3 rfl g_len bt_len) (Ev.imm (nmB A sc_dearest_2 1 rfl rfl rfl) (imm_vt (fun _ => rfl) _)) rfl) (ek_cons (nmF A sc_dearest_2 2 rfl rfl rfl) ek_nil (.inl rfl)) (.inl rfl)) (.inl rfl) (.inr (.inl rfl)) rfl rfl rfl rfl rfl rfl ⟨a_bidders, (a_rates.length : Int), a_floor, r_4, rfl, hr_4, rfl, rfl⟩) (congrArg (fun x : (List Str) => (D.tup (List.map D.str x))) (Option.some.inj hnames_5))) .cln rfl ?_
  show SS X [some (.bor (D.tup (List.map (fun x : (Str × Int × Int) => (D.tup [(D.str x.1), (D.int x.2.1), (D.int x.2.2)])) a_bidders))), some (.bor (D.tup (List.map D.int a_rates))), some (.frz (D.int a_floor)), some (.frz (D.tup (List.map D.str names_5))), none, none, none, none, none, none, none, none, none] _ _
  obtain ⟨ys_6, hys_6, H⟩ := bindO H
  obtain ⟨xs_8, hxs_8, H⟩ := bindO H
  obtain ⟨takers_9, htakers_9, H⟩ := bindO H
  refine set_ A sc_dearest_2 4 rfl rfl (Ev.cv (catT_ (f := D.str) (nmF A sc_dearest_2 3 rfl rfl rfl) (tuple_ (bn A sc_dearest_2 5 rfl g_tuple bt_tuple) (Ec.ev (Ec.cv (lcP_ (en := D.int) D.str [("_", 5)] (fun z_7 : Int => true) (fun z_7 : Int => ("" : Str)) .c A sc_dearest_2 (by decide +kernel) (iter_ (slT_ (Ev.imm (nmB A sc_dearest_2 1 rfl rfl rfl) (imm_vt (fun _ => rfl) _)) (eo_some (lenT_ (bn A sc_dearest_2 3 rfl g_len bt_len) (nmF A sc_dearest_2 3 rfl rfl rfl) rfl)) eo_none) .tupC) hys_6 (Clear_of rfl) (fun Y AY => (tg AY sc_dearest_2_c1 5 rfl rfl)) (by decide) (fun _ => rfl) (fun z_7 _ => ⟨_, rfl, fun Y AY => ets_nil, fun _ => ⟨_, rfl, fun Y AY => ev_str⟩⟩)) (by rw [List.filter_eq_self.mpr (fun _ _ => rfl)]))) .lst rfl) hxs_8) (congrArg (fun x : (List Str) => (D.tup (List.map D.str x))) (Option.some.inj htakers_9))) .cln rfl ?_
  show SS X [some (.bor (D.tup (List.map (fun x : (Str × Int × Int) => (D.tup [(D.str x.1), (D.int x.2.1), (D.int x.2.2)])) a_bidders))), some (.bor (D.tup (List.map D.int a_rates))), some (.frz (D.int a_floor)), some (.frz (D.tup (List.map D.str names_5))), some (.frz (D.tup (List.map D.str takers_9))), none, none, none, none, none, none, none, none] _ _
  obtain ⟨ys_10, hys_10, H⟩ := bindO H
  obtain ⟨zs_13, hzs_13, H⟩ := bindO H
  obtain ⟨strengths_14, hstrengths_14, H⟩ := bindO H
  refine setDcC_ A sc_dearest_2 6 rfl (by decide +kernel) rfl (Ec.cv (dcM_ (c := kS) (fun _ => rfl) (en := (fun x : (Str × Int × Int) => (D.tup [(D.str x.1), (D.int x.2.1), (D.int x.2.2)]))) D.int [("name", 7), ("weight", 8), ("bid", 9)] .c A sc_dearest_2 (by decide +kernel) (iter_ (Ev.imm (nmB A sc_dearest_2 0 rfl rfl rfl) (imm_vt (fun _ => (imm_tup (imm_cons rfl (imm_cons rfl (imm_cons rfl rfl))))) _)) .tupC) hys_10 hzs_13 (Clear_of rfl) (fun Y AY => (tg_tp AY.calm (tgs_cons (tg AY sc_dearest_2_c2 7 rfl rfl) (tgs_cons (tg AY sc_dearest_2_c2 8 rfl rfl) (tgs_cons (tg AY sc_dearest_2_c2 9 rfl rfl) tgs_nil rfl) rfl) rfl) rfl rfl)) (by decide) (fun _ => rfl) (fun z_11 _ => ⟨_, rfl, fun b H Y AY => by obtain rfl := Option.some.inj H; exact ets_nil, fun y _ H => by obtain ⟨n_12, hn_12, H⟩ := bindO H; obtain rfl := Option.some.inj H; exact ⟨⟨_, fun Y AY => (nmF AY sc_dearest_2_c2 7 rfl rfl rfl)⟩, _, (by first | rfl | exact heldOf_c), fun Y AY => (mul_ (nmF AY sc_dearest_2_c2 8 rfl rfl rfl) (nmF AY sc_dearest_2_c2 9 rfl rfl rfl) hn_12)⟩⟩)) (congrArg (fun x : (List (Str × Int)) => (enK kS D.int x)) (Option.some.inj hstrengths_14))) .own ?_
  show SS X [some (.bor (D.tup (List.map (fun x : (Str × Int × Int) => (D.tup [(D.str x.1), (D.int x.2.1), (D.int x.2.2)])) a_bidders))), some (.bor (D.tup (List.map D.int a_rates))), some (.frz (D.int a_floor)), some (.frz (D.tup (List.map D.str names_5))), some (.frz (D.tup (List.map D.str takers_9))), none, some (.own (enK kS D.int strengths_14)), none, none, none, none, none, none] _ _
  obtain ⟨ys_15, hys_15, H⟩ := bindO H
  obtain ⟨zs_18, hzs_18, H⟩ := bindO H
  obtain ⟨total_19, htotal_19, H⟩ := bindO H
  refine set_ A sc_dearest_2 10 rfl rfl (Ev.cv (ev_sumL A.calm (bn A sc_dearest_2 7 rfl g_sum bt_sum) (Ec.ev (lcM_ (en := (fun x : (Int × Str) => (D.tup [(D.int x.1), (D.str x.2)]))) D.int [("rate", 11), ("taker", 12)] .c A sc_dearest_2 (by decide +kernel) (zipTC_ (f := D.int) (g := D.str) (glo A sc_dearest_2 6 rfl) (by rw [A.eM]; exact g_zip) (Ev.imm (nmB A sc_dearest_2 1 rfl rfl rfl) (imm_vt (fun _ => rfl) _)) (nmF A sc_dearest_2 4 rfl rfl rfl) rfl rfl) hys_15 hzs_18 (Clear_of rfl) (fun Y AY => (tg_tp AY.calm (tgs_cons (tg AY sc_dearest_2_c3 11 rfl rfl) (tgs_cons (tg AY sc_dearest_2_c3 12 rfl rfl) tgs_nil rfl) rfl) rfl rfl)) (by decide) (fun _ => rfl) (fun z_16 _ => ⟨_, rfl, fun b H Y AY => by obtain rfl := Option.some.inj H; exact ets_nil, fun y _ H => by obtain ⟨n_17, hn_17, H⟩ := bindO H; obtain rfl := Option.some.inj H; exact ⟨_, rfl, fun Y AY => (mul_ (nmF AY sc_dearest_2_c3 11 rfl rfl rfl) (dgetD_ (c := kS) (f := D.int) AY.room.units (nmO AY sc_dearest_2_c3 6 rfl rfl rfl) (nmF AY sc_dearest_2_c3 12 rfl rfl rfl) (nmF AY sc_dearest_2_c3 2 rfl rfl rfl) ⟨rfl, rfl, rfl, rfl⟩) hn_17)⟩⟩))) rfl) (congrArg D.int (Option.some.inj htotal_19))) .int rfl ?_
  show SS X [some (.bor (D.tup (List.map (fun x : (Str × Int × Int) => (D.tup [(D.str x.1), (D.int x.2.1), (D.int x.2.2)])) a_bidders))), some (.bor (D.tup (List.map D.int a_rates))), some (.frz (D.int a_floor)), some (.frz (D.tup (List.map D.str names_5))), some (.frz (D.tup (List.map D.str takers_9))), none, some (.own (enK kS D.int strengths_14)), none, none, none, some (.frz (D.int total_19)), none, none] _ _
  obtain ⟨r_20, hr_20, H⟩ := bindO H
  obtain ⟨r_21, hr_21, H⟩ := bindO H
  obtain ⟨ob_22, hob_22, H⟩ := bindO H
  exact ss_ret (CalN.ev C_Allotment_Xinit A sc_dearest_2 10 rfl (by decide) (ea_cons (nmF A sc_dearest_2 4 rfl rfl rfl) (ea_cons (nmF A sc_dearest_2 10 rfl rfl rfl) (ea_cons (Cal.ev C_least_rents_2 A sc_dearest_2 9 rfl (by decide) (ea_cons (Ev.imm (nmB A sc_dearest_2 1 rfl rfl rfl) (imm_vt (fun _ => rfl) _)) (ea_cons (Cal.ev C_strengths_behind_2 A sc_dearest_2 8 rfl (by decide) (ea_cons (Ev.imm (nmB A sc_dearest_2 0 rfl rfl rfl) (imm_vt (fun _ => (imm_tup (imm_cons rfl (imm_cons rfl (imm_cons rfl rfl))))) _)) (ea_cons (lenT_ (bn A sc_dearest_2 3 rfl g_len bt_len) (Ev.imm (nmB A sc_dearest_2 1 rfl rfl rfl) (imm_vt (fun _ => rfl) _)) rfl) (ea_cons (nmF A sc_dearest_2 2 rfl rfl rfl) ea_nil (.inl rfl) rfl) (.inl rfl) rfl) (.inl rfl) rfl) (.inl rfl) (.inl rfl) rfl rfl ⟨a_bidders, (a_rates.length : Int), a_floor, r_20, rfl, hr_20, rfl, rfl⟩) ea_nil (.inl rfl) rfl) (.inl rfl) rfl) (.inl rfl) (.inr (.inl rfl)) rfl rfl ⟨a_rates, r_20, r_21, rfl, hr_21, rfl, rfl⟩) ea_nil (.inl rfl) rfl) (.inl rfl) rfl) (.inl rfl) rfl) (.inl rfl) rfl rfl ⟨takers_9, total_19, r_21, ob_22, rfl, hob_22, rfl⟩) (⟨(congrArg (fun x : ((List Str) × Int × (List Int)) => (D.obj (cA Γ "Allotment") [("takers", (D.tup (List.map D.str x.1))), ("total", (D.int x.2.1)), ("rents", (D.tup (List.map D.int x.2.2)))])) (Option.some.inj H)), .refl⟩)
def m_law_one_half (a_script : (List Int)) : Option Bool :=
  ((m_law_cell a_script (1 : Int)).bind fun r_1 => ((m_law_pool r_1 (12 : Int)).bind fun r_2 => ((some r_2).bind fun rest_3 => ((m_law_cell a_script (0 : Int)).bind fun r_4 => ((m_law_pool r_4 (35 : Int)).bind fun r_5 => ((m_law_part rest_3 (0 : Int) (1 : Int) (7 : Int)).bind fun r_6 => ((m_law_bidders r_5 (0 : Int) r_6).bind fun r_7 => ((some r_7).bind fun crew_8 => ((m_law_part rest_3 (0 : Int) (7 : Int) (3 : Int)).bind fun r_9 => ((m_law_scale rest_3 (6 : Int) ((1 : Int) + r_9)).bind fun r_10 => ((some r_10).bind fun scale_11 => ((m_law_sill rest_3 (1 : Int) crew_8).bind fun r_12 => ((some r_12).bind fun sill_13 => ((some crew_8).bind fun given_14 => ((some scale_11).bind fun steps_15 => ((m_dearest given_14 steps_15 sill_13).bind fun r_16 => ((m_law_is_dearest r_16 crew_8 scale_11 sill_13).bind fun r_17 => (if (!r_17) = true then some false else ((m_law_same 8 (D.lst (List.map (fun x : (Str × Int × Int) => (D.tup [(D.str x.1), (D.int x.2.1), (D.int x.2.2)])) given_14)) (D.lst (List.map (fun x : (Str × Int × Int) => (D.tup [(D.str x.1), (D.int x.2.1), (D.int x.2.2)])) crew_8))).bind fun r_18 => ((if (!r_18) = true then some true else ((m_law_same 8 (D.lst (List.map D.int steps_15)) (D.lst (List.map D.int scale_11))).bind fun r_19 => some (!r_19))).bind fun q_20 => (if q_20 = true then some false else ((m_dearest_2 crew_8 scale_11 (0 : Int)).bind fun r_21 => ((m_law_is_dearest r_21 crew_8 scale_11 (0 : Int)).bind fun r_22 => (if (!r_22) = true then some false else ((popE steps_15).bind fun pp_23 => ((insG pp_23.2 (0 : Int) (1000 : Int)).bind fun steps_24 => ((m_dearest (given_14.reverse) steps_24 sill_13).bind fun r_25 => ((catG [(1000 : Int)] (cutX scale_11 none (some (-(1 : Int))))).bind fun xs_26 => ((m_law_is_dearest r_25 (crew_8.reverse) xs_26 sill_13).bind fun r_27 => (if (!r_27) = true then some false else ((m_dearest crew_8 scale_11 sill_13).bind fun r_28 => ((m_law_is_dearest r_28 crew_8 scale_11 sill_13).bind fun r_29 => some r_29))))))))))))))))))))))))))))))))
def R_law_one_half : Rel := fun ds d k => ∃ (a_script : (List Int)) (r : Bool), ds = [(D.scr a_script)] ∧ m_law_one_half a_script = some r ∧ d = D.bl r ∧ k = .cln
abbrev N_law_one_half : List Str := ["script", "rest", "crew", "scale", "sill", "given", "steps"]
theorem fs_law_one_half : FnScope N_law_one_half ["script"] (defScope s_law_one_half) := ⟨rfl, rfl, rfl, by decide +kernel, rfl, by decide +kernel, by decide +kernel⟩
theorem sc_law_one_half : Sc N_law_one_half (defScope s_law_one_half) [0, 1, 2, 3, 4, 5, 6] [1, 2, 3, 4, 5, 6] ["_law_cell", "_law_pool", "_law_part", "_law_bidders", "_law_scale", "_law_sill", "list", "dearest", "_law_is_dearest", "_law_same", "tuple"] := ⟨fs_law_one_half.nd, by decide +kernel⟩
theorem b_law_one_half {X : Cx} {Γ : Gd} (A : At X Γ N_law_one_half (defScope s_law_one_half) 11) (g_list : Γ.mg "list" = none) (g_tuple : Γ.mg "tuple" = none) (C_dearest_2_k0_bidders_rates : CalK Γ "dearest" (R_dearest_2 Γ) 4 0 ["bidders", "rates"] (fun a b => pick a [] [(D.int (0 : Int))] b [.k 0, .k 1, .m 0])) (C_dearest_k2_floor : CalK Γ "dearest" (R_dearest Γ) 4 2 ["floor"] (fun a b => pick a [] [] b [.p 0, .p 1, .k 0])) (C_law_bidders : Cal Γ "_law_bidders" R_law_bidders 3 []) (C_law_cell : Cal Γ "_law_cell" R_law_cell 1 []) (C_law_is_dearest : Cal Γ "_law_is_dearest" (R_law_is_dearest Γ) 11 []) (C_law_part : Cal Γ "_law_part" R_law_part 1 []) (C_law_pool : Cal Γ "_law_pool" R_law_pool 2 []) (C_law_same : Cal Γ "_law_same" (R_law_same 8) (2 + 8) []) (C_law_scale : Cal Γ "_law_scale" R_law_scale 3 []) (C_law_sill : Cal Γ "_law_sill" R_law_sill 2 []) {ds : List D} {d : D} {k : Kd} (hR : R_law_one_half ds d k) :
    SS X (env0 7 ds) (defBody s_law_one_half) { rt := fun d' k' => d' = d ∧ Fits k' k d, nx := fun _ => d = .non ∧ k = .cln } := by
  obtain ⟨a_script, r, rfl, H, rfl, rfl⟩ := hR
  unfold m_law_one_half at H
  obtain ⟨r_1, hr_1, H⟩ := bindO H
  obtain ⟨r_2, hr_2, H⟩ := bindO H
  obtain ⟨rest_3, hrest_3, H⟩ := bindO H
  refine set_ A sc_law_one_half 1 rfl rfl (Ev.cv (Cal.ev C_law_pool A sc_law_one_half 1 rfl (by decide) (ea_cons (Cal.ev C_law_cell A sc_law_one_half 0 rfl (by decide) (ea_cons (nmB A sc_law_one_half 0 rfl rfl rfl) (ea_cons ev_int ea_nil (.inl rfl) rfl) (.inl rfl) rfl) (.inr (.inl rfl)) (.inr (.inl rfl)) rfl rfl ⟨a_script, (1 : Int), r_1, rfl, hr_1, rfl, rfl⟩) (ea_cons ev_int ea_nil (.inl rfl) rfl) (.inl rfl) rfl) (.inl rfl) (.inl rfl) rfl rfl ⟨r_1, (12 : Int), r_2, rfl, hr_2, rfl, rfl⟩) (congrArg (fun x : (List Int) => (D.lst (List.map D.int x))) (Option.some.inj hrest_3))) .own rfl ?_
  show SS X [some (.bor (D.scr a_script)), some (.own (D.lst (List.map D.int rest_3))), none, none, none, none, none] _ _
  obtain ⟨r_4, hr_4, H⟩ := bindO H
  obtain ⟨r_5, hr_5, H⟩ := bindO H
  obtain ⟨r_6, hr_6, H⟩ := bindO H
  obtain ⟨r_7, hr_7, H⟩ := bindO H
  obtain ⟨crew_8, hcrew_8, H⟩ := bindO H
  refine set_ A sc_law_one_half 2 rfl rfl (Ev.cv (Cal.ev C_law_bidders A sc_law_one_half 3 rfl (by decide) (ea_cons (Cal.ev C_law_pool A sc_law_one_half 1 rfl (by decide) (ea_cons (Cal.ev C_law_cell A sc_law_one_half 0 rfl (by decide) (ea_cons (nmB A sc_law_one_half 0 rfl rfl rfl) (ea_cons ev_int ea_nil (.inl rfl) rfl) (.inl rfl) rfl) (.inr (.inl rfl)) (.inr (.inl rfl)) rfl rfl ⟨a_script, (0 : Int), r_4, rfl, hr_4, rfl, rfl⟩) (ea_cons ev_int ea_nil (.inl rfl) rfl) (.inl rfl) rfl) (.inl rfl) (.inl rfl) rfl rfl ⟨r_4, (35 : Int), r_5, rfl, hr_5, rfl, rfl⟩) (ea_cons ev_int (ea_cons (Cal.ev C_law_part A sc_law_one_half 2 rfl (by decide) (ea_cons (nmO A sc_law_one_half 1 rfl rfl rfl) (ea_cons ev_int (ea_cons ev_int (ea_cons ev_int ea_nil (.inl rfl) rfl) (.inl rfl) rfl) (.inl rfl) rfl) (.inl rfl) rfl) (.inr (.inr rfl)) (.inr (.inl rfl)) rfl rfl ⟨rest_3, (0 : Int), (1 : Int), (7 : Int), r_6, rfl, hr_6, rfl, rfl⟩) ea_nil (.inl rfl) rfl) (.inl rfl) rfl) (.inl rfl) rfl) (.inl rfl) (.inl rfl) rfl rfl ⟨r_5, (0 : Int), r_6, r_7, rfl, hr_7, rfl, rfl⟩) (congrArg (fun x : (List (Str × Int × Int)) => (D.lst (List.map (fun x : (Str × Int × Int) => (D.tup [(D.str x.1), (D.int x.2.1), (D.int x.2.2)])) x))) (Option.some.inj hcrew_8))) .own rfl ?_
  show SS X [some (.bor (D.scr a_script)), some (.own (D.lst (List.map D.int rest_3))), some (.own (D.lst (List.map (fun x : (Str × Int × Int) => (D.tup [(D.str x.1), (D.int x.2.1), (D.int x.2.2)])) crew_8))), none, none, none, none] _ _
  obtain ⟨r_9, hr_9, H⟩ := bindO H
  obtain ⟨r_10, hr_10, H⟩ := bindO H
  obtain ⟨scale_11, hscale_11, H⟩ := bindO H
  refine set_ A sc_law_one_half 3 rfl rfl (Ev.cv (Cal.ev C_law_scale A sc_law_one_half 4 rfl (by decide) (ea_cons (nmO A sc_law_one_half 1 rfl rfl rfl) (ea_cons ev_int (ea_cons (ev_add ev_int (Cal.ev C_law_part A sc_law_one_half 2 rfl (by decide) (ea_cons (nmO A sc_law_one_half 1 rfl rfl rfl) (ea_cons ev_int (ea_cons ev_int (ea_cons ev_int ea_nil (.inl rfl) rfl) (.inl rfl) rfl) (.inl rfl) rfl) (.inl rfl) rfl) (.inr (.inr rfl)) (.inr (.inl rfl)) rfl rfl ⟨rest_3, (0 : Int), (7 : Int), (3 : Int), r_9, rfl, hr_9, rfl, rfl⟩)) ea_nil (.inl rfl) rfl) (.inl rfl) rfl) (.inl rfl) rfl) (.inr (.inr rfl)) (.inl rfl) rfl rfl ⟨rest_3, (6 : Int), ((1 : Int) + r_9), r_10, rfl, hr_10, rfl, rfl⟩) (congrArg (fun x : (List Int) => (D.lst (List.map D.int x))) (Option.some.inj hscale_11))) .own rfl ?_
  show SS X [some (.bor (D.scr a_script)), some (.own (D.lst (List.map D.int rest_3))), some (.own (D.lst (List.map (fun x : (Str × Int × Int) => (D.tup [(D.str x.1), (D.int x.2.1), (D.int x.2.2)])) crew_8))), some (.own (D.lst (List.map D.int scale_11))), none, none, none] _ _
  obtain ⟨r_12, hr_12, H⟩ := bindO H
  obtain ⟨sill_13, hsill_13, H⟩ := bindO H
  refine set_ A sc_law_one_half 4 rfl rfl (Ev.cv (Cal.ev C_law_sill A sc_law_one_half 5 rfl (by decide) (ea_cons (nmO A sc_law_one_half 1 rfl rfl rfl) (ea_cons ev_int (ea_cons (nmO A sc_law_one_half 2 rfl rfl rfl) ea_nil (.inl rfl) rfl) (.inr (.inr rfl)) rfl) (.inr (.inr rfl)) rfl) (.inr (.inr rfl)) (.inr (.inl rfl)) rfl rfl ⟨rest_3, (1 : Int), crew_8, r_12, rfl, hr_12, rfl, rfl⟩) (congrArg D.int (Option.some.inj hsill_13))) .int rfl ?_
  show SS X [some (.bor (D.scr a_script)), some (.own (D.lst (List.map D.int rest_3))), some (.own (D.lst (List.map (fun x : (Str × Int × Int) => (D.tup [(D.str x.1), (D.int x.2.1), (D.int x.2.2)])) crew_8))), some (.own (D.lst (List.map D.int scale_11))), some (.frz (D.int sill_13)), none, none] _ _
  obtain ⟨given_14, hgiven_14, H⟩ := bindO H
  refine set_ A sc_law_one_half 5 rfl rfl (Ev.cv (list_ (bn A sc_law_one_half 6 rfl g_list bt_list) (nmO A sc_law_one_half 2 rfl rfl rfl) .lst rfl) (congrArg (fun x : (List (Str × Int × Int)) => (D.lst (List.map (fun x : (Str × Int × Int) => (D.tup [(D.str x.1), (D.int x.2.1), (D.int x.2.2)])) x))) (Option.some.inj hgiven_14))) .own rfl ?_
  show SS X [some (.bor (D.scr a_script)), some (.own (D.lst (List.map D.int rest_3))), some (.own (D.lst (List.map (fun x : (Str × Int × Int) => (D.tup [(D.str x.1), (D.int x.2.1), (D.int x.2.2)])) crew_8))), some (.own (D.lst (List.map D.int scale_11))), some (.frz (D.int sill_13)), some (.own (D.lst (List.map (fun x : (Str × Int × Int) => (D.tup [(D.str x.1), (D.int x.2.1), (D.int x.2.2)])) given_14))), none] _ _
  obtain ⟨steps_15, hsteps_15, H⟩ := bindO H
  refine set_ A sc_law_one_half 6 rfl rfl (Ev.cv (list_ (bn A sc_law_one_half 6 rfl g_list bt_list) (nmO A sc_law_one_half 3 rfl rfl rfl) .lst rfl) (congrArg (fun x : (List Int) => (D.lst (List.map D.int x))) (Option.some.inj hsteps_15))) .own rfl ?_
  show SS X [some (.bor (D.scr a_script)), some (.own (D.lst (List.map D.int rest_3))), some (.own (D.lst (List.map (fun x : (Str × Int × Int) => (D.tup [(D.str x.1), (D.int x.2.1), (D.int x.2.2)])) crew_8))), some (.own (D.lst (List.map D.int scale_11))), some (.frz (D.int sill_13)), some (.own (D.lst (List.map (fun x : (Str × Int × Int) => (D.tup [(D.str x.1), (D.int x.2.1), (D.int x.2.2)])) given_14))), some (.own (D.lst (List.map D.int steps_15)))] _ _
  obtain ⟨r_16, hr_16, H⟩ := bindO H
  obtain ⟨r_17, hr_17, H⟩ := bindO H
  refine ss_if (et_not (Ev.et (Cal.ev C_law_is_dearest A sc_law_one_half 8 rfl (by decide) (ea_cons (CalK.ev C_dearest_k2_floor A sc_law_one_half 7 rfl (by decide) (ea_cons (nmO A sc_law_one_half 5 rfl rfl rfl) (ea_cons (nmO A sc_law_one_half 6 rfl rfl rfl) ea_nil (.inl rfl) rfl) (.inr (.inr rfl)) rfl) (.inr (.inr rfl)) (ek_cons (nmF A sc_law_one_half 4 rfl rfl rfl) ek_nil (.inl rfl)) (.inl rfl) (.inl rfl) rfl rfl rfl rfl rfl rfl ⟨given_14, steps_15, sill_13, r_16, rfl, hr_16, rfl, rfl⟩) (ea_cons (nmO A sc_law_one_half 2 rfl rfl rfl) (ea_cons (nmO A sc_law_one_half 3 rfl rfl rfl) (ea_cons (nmF A sc_law_one_half 4 rfl rfl rfl) ea_nil (.inl rfl) rfl) (.inl rfl) rfl) (.inr (.inr rfl)) rfl) (.inr (.inr rfl)) rfl) (.inr (.inr rfl)) (.inr (.inl rfl)) rfl rfl ⟨r_16, crew_8, scale_11, sill_13, r_17, rfl, hr_17, rfl, rfl⟩) fun _ => rfl)) (fun hc => ?_) (fun hc => ?_)
  · replace H := ifT H hc
    exact ss_ret ev_bl (⟨(congrArg D.bl (Option.some.inj H)), .bl⟩)
  · replace H := ifF H hc
    refine ss_nil ?_
    show SS X _ _ _
    obtain ⟨r_18, hr_18, H⟩ := bindO H
    obtain ⟨q_20, hq_20, H⟩ := bindO H
    refine ss_if (Ew.et (ew_orM (et_not (Ev.et (Cal.ev C_law_same A sc_law_one_half 9 rfl (by decide) (ea_consH (nmO A sc_law_one_half 5 rfl rfl rfl) (ea_consH (nmO A sc_law_one_half 2 rfl rfl rfl) ea_nil (.inl rfl) rfl) (.inr (.inr rfl)) rfl) (.inr (.inr rfl)) (.inr (.inl rfl)) rfl rfl ⟨(D.lst (List.map (fun x : (Str × Int × Int) => (D.tup [(D.str x.1), (D.int x.2.1), (D.int x.2.2)])) given_14)), (D.lst (List.map (fun x : (Str × Int × Int) => (D.tup [(D.str x.1), (D.int x.2.1), (D.int x.2.2)])) crew_8)), r_18, rfl, hr_18, rfl, rfl⟩) fun _ => rfl)) hq_20 fun H => by obtain ⟨r_19, hr_19, H⟩ := bindO H; obtain rfl := Option.some.inj H; exact (ew_or1 (et_not (Ev.et (Cal.ev C_law_same A sc_law_one_half 9 rfl (by decide) (ea_consH (nmO A sc_law_one_half 6 rfl rfl rfl) (ea_consH (nmO A sc_law_one_half 3 rfl rfl rfl) ea_nil (.inl rfl) rfl) (.inr (.inr rfl)) rfl) (.inr (.inr rfl)) (.inr (.inl rfl)) rfl rfl ⟨(D.lst (List.map D.int steps_15)), (D.lst (List.map D.int scale_11)), r_19, rfl, hr_19, rfl, rfl⟩) fun _ => rfl))))) (fun hc => ?_) (fun hc => ?_)
    · replace H := ifT H hc
      exact ss_ret ev_bl (⟨(congrArg D.bl (Option.some.inj H)), .bl⟩)
    · replace H := ifF H hc
      refine ss_nil ?_
      show SS X _ _ _
      obtain ⟨r_21, hr_21, H⟩ := bindO H
      obtain ⟨r_22, hr_22, H⟩ := bindO H
      refine ss_if (et_not (Ev.et (Cal.ev C_law_is_dearest A sc_law_one_half 8 rfl (by decide) (ea_cons (CalK.ev0 C_dearest_2_k0_bidders_rates A sc_law_one_half 7 rfl (by decide) (ek_cons (tuple_ (bn A sc_law_one_half 10 rfl g_tuple bt_tuple) (nmO A sc_law_one_half 2 rfl rfl rfl) .lst rfl) (ek_cons (tuple_ (bn A sc_law_one_half 10 rfl g_tuple bt_tuple) (nmO A sc_law_one_half 3 rfl rfl rfl) .lst rfl) ek_nil (.inl rfl)) (.inl rfl)) (.inl rfl) (.inl rfl) rfl rfl rfl rfl ⟨crew_8, scale_11, (0 : Int), r_21, rfl, hr_21, rfl, rfl⟩) (ea_cons (nmO A sc_law_one_half 2 rfl rfl rfl) (ea_cons (nmO A sc_law_one_half 3 rfl rfl rfl) (ea_cons ev_int ea_nil (.inl rfl) rfl) (.inl rfl) rfl) (.inr (.inr rfl)) rfl) (.inr (.inr rfl)) rfl) (.inr (.inr rfl)) (.inr (.inl rfl)) rfl rfl ⟨r_21, crew_8, scale_11, (0 : Int), r_22, rfl, hr_22, rfl, rfl⟩) fun _ => rfl)) (fun hc => ?_) (fun hc => ?_)
      · replace H := ifT H hc
        exact ss_ret ev_bl (⟨(congrArg D.bl (Option.some.inj H)), .bl⟩)
      · replace H := ifF H hc
        refine ss_nil ?_
        show SS X _ _ _
        refine rev_ (en := (fun x : (Str × Int × Int) => (D.tup [(D.str x.1), (D.int x.2.1), (D.int x.2.2)]))) A sc_law_one_half 5 rfl rfl rfl rfl rfl rfl ?_
        show SS X [some (.bor (D.scr a_script)), some (.own (D.lst (List.map D.int rest_3))), some (.own (D.lst (List.map (fun x : (Str × Int × Int) => (D.tup [(D.str x.1), (D.int x.2.1), (D.int x.2.2)])) crew_8))), some (.own (D.lst (List.map D.int scale_11))), some (.frz (D.int sill_13)), some (.own (D.lst (List.map (fun x : (Str × Int × Int) => (D.tup [(D.str x.1), (D.int x.2.1), (D.int x.2.2)])) (given_14.reverse)))), some (.own (D.lst (List.map D.int steps_15)))] _ _
        obtain ⟨pp_23, hpp_23, H⟩ := bindO H
        refine exE_ (popE_ (f := D.int) A sc_law_one_half 6 rfl rfl rfl hpp_23 rfl rfl) rfl ?_
        show SS X [some (.bor (D.scr a_script)), some (.own (D.lst (List.map D.int rest_3))), some (.own (D.lst (List.map (fun x : (Str × Int × Int) => (D.tup [(D.str x.1), (D.int x.2.1), (D.int x.2.2)])) crew_8))), some (.own (D.lst (List.map D.int scale_11))), some (.frz (D.int sill_13)), some (.own (D.lst (List.map (fun x : (Str × Int × Int) => (D.tup [(D.str x.1), (D.int x.2.1), (D.int x.2.2)])) (given_14.reverse)))), some (.own (D.lst (List.map D.int pp_23.2)))] _ _
        obtain ⟨steps_24, hsteps_24, H⟩ := bindO H
        refine ins_ (en := D.int) (x := (1000 : Int)) A sc_law_one_half 6 rfl rfl rfl ev_int ev_int (by first | rfl | exact heldOf_c) hsteps_24 ⟨rfl, rfl, rfl⟩ rfl rfl rfl ?_
        show SS X [some (.bor (D.scr a_script)), some (.own (D.lst (List.map D.int rest_3))), some (.own (D.lst (List.map (fun x : (Str × Int × Int) => (D.tup [(D.str x.1), (D.int x.2.1), (D.int x.2.2)])) crew_8))), some (.own (D.lst (List.map D.int scale_11))), some (.frz (D.int sill_13)), some (.own (D.lst (List.map (fun x : (Str × Int × Int) => (D.tup [(D.str x.1), (D.int x.2.1), (D.int x.2.2)])) (given_14.reverse)))), some (.own (D.lst (List.map D.int steps_24)))] _ _
        obtain ⟨r_25, hr_25, H⟩ := bindO H
        obtain ⟨xs_26, hxs_26, H⟩ := bindO H
        obtain ⟨r_27, hr_27, H⟩ := bindO H
        refine ss_if (et_not (Ev.et (Cal.ev C_law_is_dearest A sc_law_one_half 8 rfl (by decide) (ea_cons (CalK.ev C_dearest_k2_floor A sc_law_one_half 7 rfl (by decide) (ea_cons (nmO A sc_law_one_half 5 rfl rfl rfl) (ea_cons (nmO A sc_law_one_half 6 rfl rfl rfl) ea_nil (.inl rfl) rfl) (.inr (.inr rfl)) rfl) (.inr (.inr rfl)) (ek_cons (nmF A sc_law_one_half 4 rfl rfl rfl) ek_nil (.inl rfl)) (.inl rfl) (.inl rfl) rfl rfl rfl rfl rfl rfl ⟨(given_14.reverse), steps_24, sill_13, r_25, rfl, hr_25, rfl, rfl⟩) (ea_cons (revL_ (nmO A sc_law_one_half 2 rfl rfl rfl)) (ea_cons (catL_ (f := D.int) (Ev.cv (ev_list (ea_cons ev_int ea_nil (.inl rfl) rfl) (.inl rfl) (le_line rfl)) rfl) (slL_ (nmO A sc_law_one_half 3 rfl rfl rfl) eo_none (eo_some (ev_neg ev_int))) hxs_26) (ea_cons (nmF A sc_law_one_half 4 rfl rfl rfl) ea_nil (.inl rfl) rfl) (.inl rfl) rfl) (.inl rfl) rfl) (.inl rfl) rfl) (.inl rfl) (.inr (.inl rfl)) rfl rfl ⟨r_25, (crew_8.reverse), xs_26, sill_13, r_27, rfl, hr_27, rfl, rfl⟩) fun _ => rfl)) (fun hc => ?_) (fun hc => ?_)
        · replace H := ifT H hc
          exact ss_ret ev_bl (⟨(congrArg D.bl (Option.some.inj H)), .bl⟩)
        · replace H := ifF H hc
          refine ss_nil ?_
          show SS X _ _ _
          obtain ⟨r_28, hr_28, H⟩ := bindO H
          obtain ⟨r_29, hr_29, H⟩ := bindO H
          exact ss_ret (Cal.ev C_law_is_dearest A sc_law_one_half 8 rfl (by decide) (ea_cons (CalK.ev C_dearest_k2_floor A sc_law_one_half 7 rfl (by decide) (ea_cons (list_ (bn A sc_law_one_half 6 rfl g_list bt_list) (nmO A sc_law_one_half 2 rfl rfl rfl) .lst rfl) (ea_cons (list_ (bn A sc_law_one_half 6 rfl g_list bt_list) (nmO A sc_law_one_half 3 rfl rfl rfl) .lst rfl) ea_nil (.inl rfl) rfl) (.inl rfl) rfl) (.inl rfl) (ek_cons (nmF A sc_law_one_half 4 rfl rfl rfl) ek_nil (.inl rfl)) (.inl rfl) (.inl rfl) rfl rfl rfl rfl rfl rfl ⟨crew_8, scale_11, sill_13, r_28, rfl, hr_28, rfl, rfl⟩) (ea_cons (nmO A sc_law_one_half 2 rfl rfl rfl) (ea_cons (nmO A sc_law_one_half 3 rfl rfl rfl) (ea_cons (nmF A sc_law_one_half 4 rfl rfl rfl) ea_nil (.inl rfl) rfl) (.inl rfl) rfl) (.inr (.inr rfl)) rfl) (.inr (.inr rfl)) rfl) (.inr (.inr rfl)) (.inr (.inl rfl)) rfl rfl ⟨r_28, crew_8, scale_11, sill_13, r_29, rfl, hr_29, rfl, rfl⟩) (⟨(congrArg D.bl (Option.some.inj H)), .bl⟩)
def m_law_holds (a_rents : (List Int)) (a_crew : (List (Str × Int × Int))) (a_scale : (List Int)) (a_sill : Int) : Option Bool :=
  ((m_law_ladder a_crew (a_scale.length : Int) a_sill).bind fun r_1 => ((some r_1).bind fun names_2 => ((loopM (fun (s_3 : Unit) (z_4 : (Str × Int × Int)) => (((some (0 : Int)).bind fun own_6 => ((if (decide (z_4.1 ∈ names_2)) = true then ((fndG names_2 z_4.1).bind fun i_8 => ((some i_8).bind fun spot_9 => ((idxG a_scale spot_9).bind fun x_10 => ((mulG x_10 z_4.2.1).bind fun n_11 => ((mulG n_11 z_4.2.2).bind fun n_12 => ((idxG a_rents spot_9).bind fun x_13 => ((some (n_12 - x_13)).bind fun own_14 => some own_14))))))) else some own_6 : Option (Int)).bind fun s_7 => (if (decide (s_7 < (0 : Int))) = true then some (Ctl.ret false) else ((rng1G (a_scale.length : Int)).bind fun r_15 => ((loopM (fun (s_16 : Unit) (z_17 : Int) => (((idxG a_scale z_17).bind fun x_19 => ((mulG x_19 z_4.2.1).bind fun n_20 => ((mulG n_20 z_4.2.2).bind fun n_21 => ((idxG a_rents z_17).bind fun x_22 => (if (decide (s_7 < (n_21 - x_22))) = true then some (Ctl.ret false) else some (Ctl.nx ())))))) : Option (Ctl Unit Bool))) () r_15).bind fun s_18 => match s_18 with | .nx s_181 => some (Ctl.nx ()) | .ret r_23 => some (Ctl.ret r_23) | .brk _ => none))))) : Option (Ctl Unit Bool))) () a_crew).bind fun s_5 => match s_5 with | .nx s_51 => ((rng1G (a_scale.length : Int)).bind fun r_24 => ((loopM (fun (s_25 : Unit) (z_26 : Int) => (((idxG a_rents z_26).bind fun x_28 => ((idxG a_scale z_26).bind fun x_29 => ((mulG x_29 a_sill).bind fun n_30 => ((if (decide (x_28 < n_30)) = true then some true else ((if (decide ((names_2.length : Int) ≤ z_26)) = true then ((idxG a_rents z_26).bind fun x_31 => ((idxG a_scale z_26).bind fun x_32 => ((mulG x_32 a_sill).bind fun n_33 => some (decide (n_33 < x_31))))) else some false).bind fun q_34 => some q_34)).bind fun q_35 => (if q_35 = true then some (Ctl.ret false) else some (Ctl.nx ())))))) : Option (Ctl Unit Bool))) () r_24).bind fun s_27 => match s_27 with | .nx s_271 => some true | .ret r_36 => some r_36 | .brk _ => none)) | .ret r_37 => some r_37 | .brk _ => none)))
def R_law_holds : Rel := fun ds d k => ∃ (a_rents : (List Int)) (a_crew : (List (Str × Int × Int))) (a_scale : (List Int)) (a_sill : Int) (r : Bool), ds = [(D.tup (List.map D.int a_rents)), (D.lst (List.map (fun x : (Str × Int × Int) => (D.tup [(D.str x.1), (D.int x.2.1), (D.int x.2.2)])) a_crew)), (D.lst (List.map D.int a_scale)), (D.int a_sill)] ∧ m_law_holds a_rents a_crew a_scale a_sill = some r ∧ d = D.bl r ∧ k = .cln
abbrev N_law_holds : List Str := ["rents", "crew", "scale", "sill", "names", "name", "weight", "bid", "own", "spot", "k"]
theorem fs_law_holds : FnScope N_law_holds ["rents", "crew", "scale", "sill"] (defScope s_law_holds) := ⟨rfl, rfl, rfl, by decide +kernel, rfl, by decide +kernel, by decide +kernel⟩
theorem sc_law_holds : Sc N_law_holds (defScope s_law_holds) [0, 1, 2, 3, 4, 5, 6, 7, 8, 9, 10] [4, 5, 6, 7, 8, 9, 10] ["len", "_law_ladder", "range"] := ⟨fs_law_holds.nd, by decide +kernel⟩
theorem b_law_holds {X : Cx} {Γ : Gd} (A : At X Γ N_law_holds (defScope s_law_holds) 1) (g_len : Γ.mg "len" = none) (g_range : Γ.mg "range" = none) (C_law_ladder : Cal Γ "_law_ladder" R_law_ladder 1 []) {ds : List D} {d : D} {k : Kd} (hR : R_law_holds ds d k) :
    SS X (env0 11 ds) (defBody s_law_holds) { rt := fun d' k' => d' = d ∧ Fits k' k d, nx := fun _ => d = .non ∧ k = .cln } := by
  obtain ⟨a_rents, a_crew, a_scale, a_sill, r, rfl, H, rfl, rfl⟩ := hR
  unfold m_law_holds at H
  obtain ⟨r_1, hr_1, H⟩ := bindO H
  obtain ⟨names_2, hnames_2, H⟩ := bindO H
  refine set_ A sc_law_holds 4 rfl rfl (Ev.cv (Cal.ev C_law_ladder A sc_law_holds 1 rfl (by decide) (ea_cons (nmB A sc_law_holds 1 rfl rfl rfl) (ea_cons (lenL_ (bn A sc_law_holds 0 rfl g_len bt_len) (nmB A sc_law_holds 2 rfl rfl rfl) rfl) (ea_cons (nmF A sc_law_holds 3 rfl rfl rfl) ea_nil (.inl rfl) rfl) (.inl rfl) rfl) (.inl rfl) rfl) (.inr (.inl rfl)) (.inr (.inl rfl)) rfl rfl ⟨a_crew, (a_scale.length : Int), a_sill, r_1, rfl, hr_1, rfl, rfl⟩) (congrArg (fun x : (List Str) => (D.tpx (List.map D.str x))) (Option.some.inj hnames_2))) .cln rfl ?_
  show SS X [some (.bor (D.tup (List.map D.int a_rents))), some (.bor (D.lst (List.map (fun x : (Str × Int × Int) => (D.tup [(D.str x.1), (D.int x.2.1), (D.int x.2.2)])) a_crew))), some (.bor (D.lst (List.map D.int a_scale))), some (.frz (D.int a_sill)), some (.frz (D.tpx (List.map D.str names_2))), none, none, none, none, none, none] _ _
  obtain ⟨s_5, hs_5, H⟩ := bindO H
  refine forR_ (en := (fun x : (Str × Int × Int) => (D.tup [(D.str x.1), (D.int x.2.1), (D.int x.2.2)]))) (fun s_3 : Unit => [some (.bor (D.tup (List.map D.int a_rents))), some (.bor (D.lst (List.map (fun x : (Str × Int × Int) => (D.tup [(D.str x.1), (D.int x.2.1), (D.int x.2.2)])) a_crew))), some (.bor (D.lst (List.map D.int a_scale))), some (.frz (D.int a_sill)), some (.frz (D.tpx (List.map D.str names_2))), none, none, none, none, none, none]) (fun r d k => d = D.bl r ∧ Fits k .cln (D.bl r)) A (iter_ (nmB A sc_law_holds 1 rfl rfl rfl) .lstB) (tg_tp A.calm (tgs_cons (tg A sc_law_holds 5 rfl rfl) (tgs_cons (tg A sc_law_holds 6 rfl rfl) (tgs_cons (tg A sc_law_holds 7 rfl rfl) tgs_nil rfl) rfl) rfl) rfl rfl) (fun _ => rfl) hs_5 ?_ ?_ ?_ ?_
  · exact (wkr (wkr (wkr (wkr (wkr (wkn (wkn (wkn (wkn (wkn (wkn wk0)))))))))))
  · intro s_3 z_4 c' hx H
    refine ⟨_, rfl, ?_⟩
    obtain ⟨own_6, hown_6, H⟩ := bindO H
    refine set_ A sc_law_holds 8 rfl rfl (Ev.cv ev_int (congrArg D.int (Option.some.inj hown_6))) .int rfl ?_
    show SS X [some (.bor (D.tup (List.map D.int a_rents))), some (.bor (D.lst (List.map (fun x : (Str × Int × Int) => (D.tup [(D.str x.1), (D.int x.2.1), (D.int x.2.2)])) a_crew))), some (.bor (D.lst (List.map D.int a_scale))), some (.frz (D.int a_sill)), some (.frz (D.tpx (List.map D.str names_2))), some (.frz (D.str z_4.1)), some (.frz (D.int z_4.2.1)), some (.frz (D.int z_4.2.2)), some (.frz (D.int own_6)), none, none] _ _
    obtain ⟨s_7, hs_7, H⟩ := bindO H
    refine ss_ifM [some (.bor (D.tup (List.map D.int a_rents))), some (.bor (D.lst (List.map (fun x : (Str × Int × Int) => (D.tup [(D.str x.1), (D.int x.2.1), (D.int x.2.2)])) a_crew))), some (.bor (D.lst (List.map D.int a_scale))), some (.frz (D.int a_sill)), some (.frz (D.tpx (List.map D.str names_2))), some (.frz (D.str z_4.1)), some (.frz (D.int z_4.2.1)), some (.frz (D.int z_4.2.2)), some (.frz (D.int s_7)), none, none] (et_inTS (nmF A sc_law_holds 5 rfl rfl rfl) (Ev.xd (nmF A sc_law_holds 4 rfl rfl rfl))) ?_ (fun hc => ?_) (fun hc => ?_)
    · skip
      refine ss_if (et_cI (nmF A sc_law_holds 8 rfl rfl rfl) ev_int .lt) (fun hc => ?_) (fun hc => ?_)
      · replace H := ifT H hc
        exact ss_ret ev_bl (⟨_, (Option.some.inj H).symm, rfl, .bl⟩)
      · replace H := ifF H hc
        refine ss_nil ?_
        show SS X _ _ _
        obtain ⟨r_15, hr_15, H⟩ := bindO H
        obtain ⟨s_18, hs_18, H⟩ := bindO H
        refine forR_ (en := D.int) (fun s_16 : Unit => [some (.bor (D.tup (List.map D.int a_rents))), some (.bor (D.lst (List.map (fun x : (Str × Int × Int) => (D.tup [(D.str x.1), (D.int x.2.1), (D.int x.2.2)])) a_crew))), some (.bor (D.lst (List.map D.int a_scale))), some (.frz (D.int a_sill)), some (.frz (D.tpx (List.map D.str names_2))), some (.frz (D.str z_4.1)), some (.frz (D.int z_4.2.1)), some (.frz (D.int z_4.2.2)), some (.frz (D.int s_7)), none, none]) (fun r d k => d = D.bl r ∧ Fits k .cln (D.bl r)) A (rng1_ (glo A sc_law_holds 2 rfl) (by rw [A.eM]; exact g_range) (lenL_ (bn A sc_law_holds 0 rfl g_len bt_len) (nmB A sc_law_holds 2 rfl rfl rfl) rfl) hr_15 rfl) (tg A sc_law_holds 10 rfl rfl) (fun _ => rfl) hs_18 ?_ ?_ ?_ ?_
        · exact (wkr (wkr (wkr (wkr (wkr (wkr (wkr (wkr (wkr (wkn (wkn wk0)))))))))))
        · intro s_16 z_17 c' hx H
          refine ⟨_, rfl, ?_⟩
          obtain ⟨x_19, hx_19, H⟩ := bindO H
          obtain ⟨n_20, hn_20, H⟩ := bindO H
          obtain ⟨n_21, hn_21, H⟩ := bindO H
          obtain ⟨x_22, hx_22, H⟩ := bindO H
          refine ss_if (et_cI (ev_sub (mul_ (mul_ (ixL_ (f := D.int) (Ev.shlI (nmB A sc_law_holds 2 rfl rfl rfl) (imms_map (fun _ => rfl) _)) (nmF A sc_law_holds 10 rfl rfl rfl) hx_19 (fun _ _ => rfl)) (nmF A sc_law_holds 6 rfl rfl rfl) hn_20) (nmF A sc_law_holds 7 rfl rfl rfl) hn_21) (ixT_ (f := D.int) (Ev.imm (nmB A sc_law_holds 0 rfl rfl rfl) (imm_vt (fun _ => rfl) _)) (nmF A sc_law_holds 10 rfl rfl rfl) hx_22 (fun _ _ => rfl))) (nmF A sc_law_holds 8 rfl rfl rfl) .gt) (fun hc => ?_) (fun hc => ?_)
          · replace H := ifT H hc
            exact ss_ret ev_bl (⟨_, (Option.some.inj H).symm, rfl, .bl⟩)
          · replace H := ifF H hc
            refine ss_nil ?_
            show SS X _ _ _
            obtain rfl := Option.some.inj H
            refine ss_nil ⟨_, rfl, ?_⟩
            exact (wkr (wkr (wkr (wkr (wkr (wkr (wkr (wkr (wkr (wkn (wkn wk0)))))))))))
        · intro r_23 d k e ⟨hd, hf⟩
          subst e
          subst hd
          exact ⟨_, (Option.some.inj H).symm, rfl, hf⟩
        · intro s_181 e
          subst e
          obtain rfl := Option.some.inj H
          refine ss_nil ⟨_, rfl, ?_⟩
          exact (wkr (wkr (wkr (wkr (wkr (wkn (wkn (wkn (wkn (wkn (wkn wk0)))))))))))
    · replace H := ifT hs_7 hc
      obtain ⟨i_8, hi_8, H⟩ := bindO H
      obtain ⟨spot_9, hspot_9, H⟩ := bindO H
      refine set_ A sc_law_holds 9 rfl rfl (Ev.cv (indexX_ (nmF A sc_law_holds 4 rfl rfl rfl) (nmF A sc_law_holds 5 rfl rfl rfl) hi_8 ⟨rfl, rfl, rfl⟩) (congrArg D.int (Option.some.inj hspot_9))) .int rfl ?_
      show SS X [some (.bor (D.tup (List.map D.int a_rents))), some (.bor (D.lst (List.map (fun x : (Str × Int × Int) => (D.tup [(D.str x.1), (D.int x.2.1), (D.int x.2.2)])) a_crew))), some (.bor (D.lst (List.map D.int a_scale))), some (.frz (D.int a_sill)), some (.frz (D.tpx (List.map D.str names_2))), some (.frz (D.str z_4.1)), some (.frz (D.int z_4.2.1)), some (.frz (D.int z_4.2.2)), some (.frz (D.int own_6)), some (.frz (D.int spot_9)), none] _ _
      obtain ⟨x_10, hx_10, H⟩ := bindO H
      obtain ⟨n_11, hn_11, H⟩ := bindO H
      obtain ⟨n_12, hn_12, H⟩ := bindO H
      obtain ⟨x_13, hx_13, H⟩ := bindO H
      obtain ⟨own_14, hown_14, H⟩ := bindO H
      refine set_ A sc_law_holds 8 rfl rfl (Ev.cv (ev_sub (mul_ (mul_ (ixL_ (f := D.int) (Ev.shlI (nmB A sc_law_holds 2 rfl rfl rfl) (imms_map (fun _ => rfl) _)) (nmF A sc_law_holds 9 rfl rfl rfl) hx_10 (fun _ _ => rfl)) (nmF A sc_law_holds 6 rfl rfl rfl) hn_11) (nmF A sc_law_holds 7 rfl rfl rfl) hn_12) (ixT_ (f := D.int) (Ev.imm (nmB A sc_law_holds 0 rfl rfl rfl) (imm_vt (fun _ => rfl) _)) (nmF A sc_law_holds 9 rfl rfl rfl) hx_13 (fun _ _ => rfl))) (congrArg D.int (Option.some.inj hown_14))) .int rfl ?_
      show SS X [some (.bor (D.tup (List.map D.int a_rents))), some (.bor (D.lst (List.map (fun x : (Str × Int × Int) => (D.tup [(D.str x.1), (D.int x.2.1), (D.int x.2.2)])) a_crew))), some (.bor (D.lst (List.map D.int a_scale))), some (.frz (D.int a_sill)), some (.frz (D.tpx (List.map D.str names_2))), some (.frz (D.str z_4.1)), some (.frz (D.int z_4.2.1)), some (.frz (D.int z_4.2.2)), some (.frz (D.int own_14)), some (.frz (D.int spot_9)), none] _ _
      obtain rfl := Option.some.inj H
      refine ss_nil ?_
      exact (wkr (wkr (wkr (wkr (wkr (wkr (wkr (wkr (wkr (wkn (wkn wk0)))))))))))
    · replace H := ifF hs_7 hc
      obtain rfl := Option.some.inj H
      refine ss_nil ?_
      exact (wkr (wkr (wkr (wkr (wkr (wkr (wkr (wkr (wkr (wkn (wkn wk0)))))))))))
  · intro r_37 d k e ⟨hd, hf⟩
    subst e
    subst hd
    exact ⟨(congrArg D.bl (Option.some.inj H)), (Option.some.inj H) ▸ hf⟩
  · intro s_51 e
    subst e
    obtain ⟨r_24, hr_24, H⟩ := bindO H
    obtain ⟨s_27, hs_27, H⟩ := bindO H
    refine forR_ (en := D.int) (fun s_25 : Unit => [some (.bor (D.tup (List.map D.int a_rents))), some (.bor (D.lst (List.map (fun x : (Str × Int × Int) => (D.tup [(D.str x.1), (D.int x.2.1), (D.int x.2.2)])) a_crew))), some (.bor (D.lst (List.map D.int a_scale))), some (.frz (D.int a_sill)), some (.frz (D.tpx (List.map D.str names_2))), none, none, none, none, none, none]) (fun r d k => d = D.bl r ∧ Fits k .cln (D.bl r)) A (rng1_ (glo A sc_law_holds 2 rfl) (by rw [A.eM]; exact g_range) (lenL_ (bn A sc_law_holds 0 rfl g_len bt_len) (nmB A sc_law_holds 2 rfl rfl rfl) rfl) hr_24 rfl) (tg A sc_law_holds 10 rfl rfl) (fun _ => rfl) hs_27 ?_ ?_ ?_ ?_
    · exact (wkr (wkr (wkr (wkr (wkr (wkn (wkn (wkn (wkn (wkn (wkn wk0)))))))))))
    · intro s_25 z_26 c' hx H
      refine ⟨_, rfl, ?_⟩
      obtain ⟨x_28, hx_28, H⟩ := bindO H
      obtain ⟨x_29, hx_29, H⟩ := bindO H
      obtain ⟨n_30, hn_30, H⟩ := bindO H
      obtain ⟨q_35, hq_35, H⟩ := bindO H
      refine ss_if (Ew.et (ew_orM (et_cI (ixT_ (f := D.int) (Ev.imm (nmB A sc_law_holds 0 rfl rfl rfl) (imm_vt (fun _ => rfl) _)) (nmF A sc_law_holds 10 rfl rfl rfl) hx_28 (fun _ _ => rfl)) (mul_ (ixL_ (f := D.int) (Ev.shlI (nmB A sc_law_holds 2 rfl rfl rfl) (imms_map (fun _ => rfl) _)) (nmF A sc_law_holds 10 rfl rfl rfl) hx_29 (fun _ _ => rfl)) (nmF A sc_law_holds 3 rfl rfl rfl) hn_30) .lt) hq_35 fun H => by obtain ⟨q_34, hq_34, H⟩ := bindO H; obtain rfl := Option.some.inj H; exact (ew_or1 (Ew.et (ew_andM (et_cI (nmF A sc_law_holds 10 rfl rfl rfl) (lenT_ (bn A sc_law_holds 0 rfl g_len bt_len) (Ev.xd (nmF A sc_law_holds 4 rfl rfl rfl)) rfl) .ge) hq_34 fun H => by obtain ⟨x_31, hx_31, H⟩ := bindO H; obtain ⟨x_32, hx_32, H⟩ := bindO H; obtain ⟨n_33, hn_33, H⟩ := bindO H; obtain rfl := Option.some.inj H; exact (ew_and1 (et_cI (ixT_ (f := D.int) (Ev.imm (nmB A sc_law_holds 0 rfl rfl rfl) (imm_vt (fun _ => rfl) _)) (nmF A sc_law_holds 10 rfl rfl rfl) hx_31 (fun _ _ => rfl)) (mul_ (ixL_ (f := D.int) (Ev.shlI (nmB A sc_law_holds 2 rfl rfl rfl) (imms_map (fun _ => rfl) _)) (nmF A sc_law_holds 10 rfl rfl rfl) hx_32 (fun _ _ => rfl)) (nmF A sc_law_holds 3 rfl rfl rfl) hn_33) .gt))))))) (fun hc => ?_) (fun hc => ?_)
      · replace H := ifT H hc
        exact ss_ret ev_bl (⟨_, (Option.some.inj H).symm, rfl, .bl⟩)
      · replace H := ifF H hc
        refine ss_nil ?_
        show SS X _ _ _
        obtain rfl := Option.some.inj H
        refine ss_nil ⟨_, rfl, ?_⟩
        exact (wkr (wkr (wkr (wkr (wkr (wkn (wkn (wkn (wkn (wkn (wkn wk0)))))))))))
    · intro r_36 d k e ⟨hd, hf⟩
      subst e
      subst hd
      exact ⟨(congrArg D.bl (Option.some.inj H)), (Option.some.inj H) ▸ hf⟩
    · intro s_271 e
      subst e
      exact ss_ret ev_bl (⟨(congrArg D.bl (Option.some.inj H)), .bl⟩)
def m_law_rents_kept (a_got : ((List Str) × Int × (List Int))) (a_crew : (List (Str × Int × Int))) (a_scale : (List Int)) (a_sill : Int) : Option Bool :=
  (if (!decide ((a_got.2.2.length : Int) = (a_scale.length : Int))) = true then some false else ((lcG a_got.2.2).bind fun ys_1 => ((lcM (fun z_2 : Int => ((m_law_integer_2 z_2).bind fun r_3 => some (!r_3))) (fun z_2 : Int => some z_2) ys_1).bind fun zs_4 => ((eqG (D.lst (List.map D.int zs_4)) (D.lst (List.map D.int []))).bind fun q_5 => (if (!q_5) = true then some false else ((m_law_holds a_got.2.2 a_crew a_scale a_sill).bind fun r_6 => some r_6))))))
def R_law_rents_kept (Γ : Gd) : Rel := fun ds d k => ∃ (a_got : ((List Str) × Int × (List Int))) (a_crew : (List (Str × Int × Int))) (a_scale : (List Int)) (a_sill : Int) (r : Bool), ds = [(D.obj (cA Γ "Allotment") [("takers", (D.tup (List.map D.str a_got.1))), ("total", (D.int a_got.2.1)), ("rents", (D.tup (List.map D.int a_got.2.2)))]), (D.lst (List.map (fun x : (Str × Int × Int) => (D.tup [(D.str x.1), (D.int x.2.1), (D.int x.2.2)])) a_crew)), (D.lst (List.map D.int a_scale)), (D.int a_sill)] ∧ m_law_rents_kept a_got a_crew a_scale a_sill = some r ∧ d = D.bl r ∧ k = .cln
abbrev N_law_rents_kept : List Str := ["got", "crew", "scale", "sill", "rent"]
theorem fs_law_rents_kept : FnScope N_law_rents_kept ["got", "crew", "scale", "sill"] (defScope s_law_rents_kept) := ⟨rfl, rfl, rfl, by decide +kernel, rfl, by decide +kernel, by decide +kernel⟩
theorem sc_law_rents_kept : Sc N_law_rents_kept (defScope s_law_rents_kept) [0, 1, 2, 3] [] ["isinstance", "tuple", "len", "_law_holds"] := ⟨fs_law_rents_kept.nd, by decide +kernel⟩
abbrev cs_law_rents_kept_c1 : Scope := compScope (s_law_rents_kept) [1, 0, 0]
theorem sc_law_rents_kept_c1 : Sc N_law_rents_kept cs_law_rents_kept_c1 [4] [4] ["_law_integer"] := ⟨fs_law_rents_kept.nd, by decide +kernel⟩
theorem b_law_rents_kept {X : Cx} {Γ : Gd} (A : At X Γ N_law_rents_kept (defScope s_law_rents_kept) 2) (cl_Allotment : Cls Γ.K (cA Γ "Allotment")) (na_Allotment_rents : NoAttr Γ.K (cA Γ "Allotment") "rents") (g_isinstance : Γ.mg "isinstance" = none) (g_len : Γ.mg "len" = none) (g_tuple : Γ.mg "tuple" = none) (C_law_holds : Cal Γ "_law_holds" R_law_holds 2 []) (C_law_integer_2 : Cal Γ "_law_integer" R_law_integer_2 1 []) {ds : List D} {d : D} {k : Kd} (hR : R_law_rents_kept Γ ds d k) :
    SS X (env0 5 ds) (defBody s_law_rents_kept) { rt := fun d' k' => d' = d ∧ Fits k' k d, nx := fun _ => d = .non ∧ k = .cln } := by
  obtain ⟨a_got, a_crew, a_scale, a_sill, r, rfl, H, rfl, rfl⟩ := hR
  unfold m_law_rents_kept at H
  refine ss_if (Ew.et (ew_or (et_not (Ev.et (isi_ (p := true) (bn A sc_law_rents_kept 0 rfl g_isinstance bt_isinstance) (Ev.imm (ev_fld (by rw [A.eK]; exact cl_Allotment) (by rw [A.eK]; exact na_Allotment_rents) (nmB A sc_law_rents_kept 0 rfl rfl rfl) rfl rfl) (imm_vt (fun _ => rfl) _)) (bn A sc_law_rents_kept 1 rfl g_tuple bt_tuple) rfl rfl (by rfl)) fun _ => rfl)) fun _ => (ew_or1 (et_cI (lenT_ (bn A sc_law_rents_kept 2 rfl g_len bt_len) (Ev.imm (ev_fld (by rw [A.eK]; exact cl_Allotment) (by rw [A.eK]; exact na_Allotment_rents) (nmB A sc_law_rents_kept 0 rfl rfl rfl) rfl rfl) (imm_vt (fun _ => rfl) _)) rfl) (lenL_ (bn A sc_law_rents_kept 2 rfl g_len bt_len) (nmB A sc_law_rents_kept 2 rfl rfl rfl) rfl) .ne)))) (fun hc => ?_) (fun hc => ?_)
  · replace H := ifT H hc
    exact ss_ret ev_bl (⟨(congrArg D.bl (Option.some.inj H)), .bl⟩)
  · replace H := ifF H hc
    refine ss_nil ?_
    show SS X _ _ _
    obtain ⟨ys_1, hys_1, H⟩ := bindO H
    obtain ⟨zs_4, hzs_4, H⟩ := bindO H
    obtain ⟨q_5, hq_5, H⟩ := bindO H
    refine ss_if (et_neG A.room.units (Ec.ev (lcM_ (en := D.int) D.int [("rent", 4)] .c A sc_law_rents_kept (by decide +kernel) (iter_ (Ev.imm (ev_fld (by rw [A.eK]; exact cl_Allotment) (by rw [A.eK]; exact na_Allotment_rents) (nmB A sc_law_rents_kept 0 rfl rfl rfl) rfl rfl) (imm_vt (fun _ => rfl) _)) .tupC) hys_1 hzs_4 (Clear_of rfl) (fun Y AY => (tg AY sc_law_rents_kept_c1 4 rfl rfl)) (by decide) (fun _ => rfl) (fun z_2 _ => ⟨_, rfl, fun b H Y AY => by obtain ⟨r_3, hr_3, H⟩ := bindO H; obtain rfl := Option.some.inj H; exact (ets_one (et_not (Ev.et (Cal.ev C_law_integer_2 AY sc_law_rents_kept_c1 0 rfl (by decide) (ea_cons (nmF AY sc_law_rents_kept_c1 4 rfl rfl rfl) ea_nil (.inl rfl) rfl) (.inl rfl) (.inr (.inl rfl)) rfl rfl ⟨z_2, r_3, rfl, hr_3, rfl, rfl⟩) fun _ => rfl))), fun y _ H => by obtain rfl := Option.some.inj H; exact ⟨_, rfl, fun Y AY => (nmF AY sc_law_rents_kept_c1 4 rfl rfl rfl)⟩⟩))) (ev_list ea_nil (.inl rfl) (le_line rfl)) hq_5) (fun hc => ?_) (fun hc => ?_)
    · replace H := ifT H hc
      exact ss_ret ev_bl (⟨(congrArg D.bl (Option.some.inj H)), .bl⟩)
    · replace H := ifF H hc
      refine ss_nil ?_
      show SS X _ _ _
      obtain ⟨r_6, hr_6, H⟩ := bindO H
      exact ss_ret (Cal.ev C_law_holds A sc_law_rents_kept 3 rfl (by decide) (ea_cons (Ev.imm (ev_fld (by rw [A.eK]; exact cl_Allotment) (by rw [A.eK]; exact na_Allotment_rents) (nmB A sc_law_rents_kept 0 rfl rfl rfl) rfl rfl) (imm_vt (fun _ => rfl) _)) (ea_cons (nmB A sc_law_rents_kept 1 rfl rfl rfl) (ea_cons (nmB A sc_law_rents_kept 2 rfl rfl rfl) (ea_cons (nmF A sc_law_rents_kept 3 rfl rfl rfl) ea_nil (.inl rfl) rfl) (.inl rfl) rfl) (.inr (.inl rfl)) rfl) (.inr (.inl rfl)) rfl) (.inr (.inl rfl)) (.inr (.inl rfl)) rfl rfl ⟨a_got.2.2, a_crew, a_scale, a_sill, r_6, rfl, hr_6, rfl, rfl⟩) (⟨(congrArg D.bl (Option.some.inj H)), .bl⟩)
def m_law_other_half (a_script : (List Int)) : Option Bool :=
  ((m_law_cell a_script (1 : Int)).bind fun r_1 => ((m_law_pool r_1 (12 : Int)).bind fun r_2 => ((some r_2).bind fun rest_3 => ((m_law_cell a_script (0 : Int)).bind fun r_4 => ((m_law_pool r_4 (35 : Int)).bind fun r_5 => ((m_law_part rest_3 (0 : Int) (1 : Int) (7 : Int)).bind fun r_6 => ((m_law_bidders r_5 (0 : Int) r_6).bind fun r_7 => ((some r_7).bind fun crew_8 => ((m_law_part rest_3 (0 : Int) (7 : Int) (3 : Int)).bind fun r_9 => ((m_law_scale rest_3 (6 : Int) ((1 : Int) + r_9)).bind fun r_10 => ((some r_10).bind fun scale_11 => ((m_law_sill rest_3 (1 : Int) crew_8).bind fun r_12 => ((some r_12).bind fun sill_13 => ((some crew_8).bind fun given_14 => ((some scale_11).bind fun steps_15 => ((m_dearest given_14 steps_15 sill_13).bind fun r_16 => ((m_law_rents_kept r_16 crew_8 scale_11 sill_13).bind fun r_17 => (if (!r_17) = true then some false else ((m_law_same 8 (D.lst (List.map (fun x : (Str × Int × Int) => (D.tup [(D.str x.1), (D.int x.2.1), (D.int x.2.2)])) given_14)) (D.lst (List.map (fun x : (Str × Int × Int) => (D.tup [(D.str x.1), (D.int x.2.1), (D.int x.2.2)])) crew_8))).bind fun r_18 => ((if (!r_18) = true then some true else ((m_law_same 8 (D.lst (List.map D.int steps_15)) (D.lst (List.map D.int scale_11))).bind fun r_19 => some (!r_19))).bind fun q_20 => (if q_20 = true then some false else ((m_dearest_2 crew_8 scale_11 (0 : Int)).bind fun r_21 => ((m_law_rents_kept r_21 crew_8 scale_11 (0 : Int)).bind fun r_22 => (if (!r_22) = true then some false else ((popE steps_15).bind fun pp_23 => ((insG pp_23.2 (0 : Int) (1000 : Int)).bind fun steps_24 => ((m_dearest (given_14.reverse) steps_24 sill_13).bind fun r_25 => ((catG [(1000 : Int)] (cutX scale_11 none (some (-(1 : Int))))).bind fun xs_26 => ((m_law_rents_kept r_25 (crew_8.reverse) xs_26 sill_13).bind fun r_27 => (if (!r_27) = true then some false else ((m_dearest crew_8 scale_11 sill_13).bind fun r_28 => ((m_law_rents_kept r_28 crew_8 scale_11 sill_13).bind fun r_29 => some r_29))))))))))))))))))))))))))))))))
def R_law_other_half : Rel := fun ds d k => ∃ (a_script : (List Int)) (r : Bool), ds = [(D.scr a_script)] ∧ m_law_other_half a_script = some r ∧ d = D.bl r ∧ k = .cln
abbrev N_law_other_half : List Str := ["script", "rest", "crew", "scale", "sill", "given", "steps"]
theorem fs_law_other_half : FnScope N_law_other_half ["script"] (defScope s_law_other_half) := ⟨rfl, rfl, rfl, by decide +kernel, rfl, by decide +kernel, by decide +kernel⟩
theorem sc_law_other_half : Sc N_law_other_half (defScope s_law_other_half) [0, 1, 2, 3, 4, 5, 6] [1, 2, 3, 4, 5, 6] ["_law_cell", "_law_pool", "_law_part", "_law_bidders", "_law_scale", "_law_sill", "list", "dearest", "_law_rents_kept", "_law_same", "tuple"] := ⟨fs_law_other_half.nd, by decide +kernel⟩
theorem b_law_other_half {X : Cx} {Γ : Gd} (A : At X Γ N_law_other_half (defScope s_law_other_half) 10) (g_list : Γ.mg "list" = none) (g_tuple : Γ.mg "tuple" = none) (C_dearest_2_p2 : Cal Γ "dearest" (R_dearest_2 Γ) 4 [(D.int (0 : Int))]) (C_dearest_k2_floor : CalK Γ "dearest" (R_dearest Γ) 4 2 ["floor"] (fun a b => pick a [] [] b [.p 0, .p 1, .k 0])) (C_law_bidders : Cal Γ "_law_bidders" R_law_bidders 3 []) (C_law_cell : Cal Γ "_law_cell" R_law_cell 1 []) (C_law_part : Cal Γ "_law_part" R_law_part 1 []) (C_law_pool : Cal Γ "_law_pool" R_law_pool 2 []) (C_law_rents_kept : Cal Γ "_law_rents_kept" (R_law_rents_kept Γ) 3 []) (C_law_same : Cal Γ "_law_same" (R_law_same 8) (2 + 8) []) (C_law_scale : Cal Γ "_law_scale" R_law_scale 3 []) (C_law_sill : Cal Γ "_law_sill" R_law_sill 2 []) {ds : List D} {d : D} {k : Kd} (hR : R_law_other_half ds d k) :
    SS X (env0 7 ds) (defBody s_law_other_half) { rt := fun d' k' => d' = d ∧ Fits k' k d, nx := fun _ => d = .non ∧ k = .cln } := by
  obtain ⟨a_script, r, rfl, H, rfl, rfl⟩ := hR
  unfold m_law_other_half at H
  obtain ⟨r_1, hr_1, H⟩ := bindO H
  obtain ⟨r_2, hr_2, H⟩ := bindO H
  obtain ⟨rest_3, hrest_3, H⟩ := bindO H
  refine set_ A sc_law_other_half 1 rfl rfl (Ev.cv (Cal.ev C_law_pool A sc_law_other_half 1 rfl (by decide) (ea_cons (Cal.ev C_law_cell A sc_law_other_half 0 rfl (by decide) (ea_cons (nmB A sc_law_other_half 0 rfl rfl rfl) (ea_cons ev_int ea_nil (.inl rfl) rfl) (.inl rfl) rfl) (.inr (.inl rfl)) (.inr (.inl rfl)) rfl rfl ⟨a_script, (1 : Int), r_1, rfl, hr_1, rfl, rfl⟩) (ea_cons ev_int ea_nil (.inl rfl) rfl) (.inl rfl) rfl) (.inl rfl) (.inl rfl) rfl rfl ⟨r_1, (12 : Int), r_2, rfl, hr_2, rfl, rfl⟩) (congrArg (fun x : (List Int) => (D.lst (List.map D.int x))) (Option.some.inj hrest_3))) .own rfl ?_
  show SS X [some (.bor (D.scr a_script)), some (.own (D.lst (List.map D.int rest_3))), none, none, none, none, none] _ _
  obtain ⟨r_4, hr_4, H⟩ := bindO H
  obtain ⟨r_5, hr_5, H⟩ := bindO H
  obtain ⟨r_6, hr_6, H⟩ := bindO H
  obtain ⟨r_7, hr_7, H⟩ := bindO H
  obtain ⟨crew_8, hcrew_8, H⟩ := bindO H
  refine set_ A sc_law_other_half 2 rfl rfl (Ev.cv (Cal.ev C_law_bidders A sc_law_other_half 3 rfl (by decide) (ea_cons (Cal.ev C_law_pool A sc_law_other_half 1 rfl (by decide) (ea_cons (Cal.ev C_law_cell A sc_law_other_half 0 rfl (by decide) (ea_cons (nmB A sc_law_other_half 0 rfl rfl rfl) (ea_cons ev_int ea_nil (.inl rfl) rfl) (.inl rfl) rfl) (.inr (.inl rfl)) (.inr (.inl rfl)) rfl rfl ⟨a_script, (0 : Int), r_4, rfl, hr_4, rfl, rfl⟩) (ea_cons ev_int ea_nil (.inl rfl) rfl) (.inl rfl) rfl) (.inl rfl) (.inl rfl) rfl rfl ⟨r_4, (35 : Int), r_5, rfl, hr_5, rfl, rfl⟩) (ea_cons ev_int (ea_cons (Cal.ev C_law_part A sc_law_other_half 2 rfl (by decide) (ea_cons (nmO A sc_law_other_half 1 rfl rfl rfl) (ea_cons ev_int (ea_cons ev_int (ea_cons ev_int ea_nil (.inl rfl) rfl) (.inl rfl) rfl) (.inl rfl) rfl) (.inl rfl) rfl) (.inr (.inr rfl)) (.inr (.inl rfl)) rfl rfl ⟨rest_3, (0 : Int), (1 : Int), (7 : Int), r_6, rfl, hr_6, rfl, rfl⟩) ea_nil (.inl rfl) rfl) (.inl rfl) rfl) (.inl rfl) rfl) (.inl rfl) (.inl rfl) rfl rfl ⟨r_5, (0 : Int), r_6, r_7, rfl, hr_7, rfl, rfl⟩) (congrArg (fun x : (List (Str × Int × Int)) => (D.lst (List.map (fun x : (Str × Int × Int) => (D.tup [(D.str x.1), (D.int x.2.1), (D.int x.2.2)])) x))) (Option.some.inj hcrew_8))) .own rfl ?_
  show SS X [some (.bor (D.scr a_script)), some (.own (D.lst (List.map D.int rest_3))), some (.own (D.lst (List.map (fun x : (Str × Int × Int) => (D.tup [(D.str x.1), (D.int x.2.1), (D.int x.2.2)])) crew_8))), none, none, none, none] _ _
  obtain ⟨r_9, hr_9, H⟩ := bindO H
  obtain ⟨r_10, hr_10, H⟩ := bindO H
  obtain ⟨scale_11, hscale_11, H⟩ := bindO H
  refine set_ A sc_law_other_half 3 rfl rfl (Ev.cv (Cal.ev C_law_scale A sc_law_other_half 4 rfl (by decide) (ea_cons (nmO A sc_law_other_half 1 rfl rfl rfl) (ea_cons ev_int (ea_cons (ev_add ev_int (Cal.ev C_law_part A sc_law_other_half 2 rfl (by decide) (ea_cons (nmO A sc_law_other_half 1 rfl rfl rfl) (ea_cons ev_int (ea_cons ev_int (ea_cons ev_int ea_nil (.inl rfl) rfl) (.inl rfl) rfl) (.inl rfl) rfl) (.inl rfl) rfl) (.inr (.inr rfl)) (.inr (.inl rfl)) rfl rfl ⟨rest_3, (0 : Int), (7 : Int), (3 : Int), r_9, rfl, hr_9, rfl, rfl⟩)) ea_nil (.inl rfl) rfl) (.inl rfl) rfl) (.inl rfl) rfl) (.inr (.inr rfl)) (.inl rfl) rfl rfl ⟨rest_3, (6 : Int), ((1 : Int) + r_9), r_10, rfl, hr_10, rfl, rfl⟩) (congrArg (fun x : (List Int) => (D.lst (List.map D.int x))) (Option.some.inj hscale_11))) .own rfl ?_
  show SS X [some (.bor (D.scr a_script)), some (.own (D.lst (List.map D.int rest_3))), some (.own (D.lst (List.map (fun x : (Str × Int × Int) => (D.tup [(D.str x.1), (D.int x.2.1), (D.int x.2.2)])) crew_8))), some (.own (D.lst (List.map D.int scale_11))), none, none, none] _ _
  obtain ⟨r_12, hr_12, H⟩ := bindO H
  obtain ⟨sill_13, hsill_13, H⟩ := bindO H
  refine set_ A sc_law_other_half 4 rfl rfl (Ev.cv (Cal.ev C_law_sill A sc_law_other_half 5 rfl (by decide) (ea_cons (nmO A sc_law_other_half 1 rfl rfl rfl) (ea_cons ev_int (ea_cons (nmO A sc_law_other_half 2 rfl rfl rfl) ea_nil (.inl rfl) rfl) (.inr (.inr rfl)) rfl) (.inr (.inr rfl)) rfl) (.inr (.inr rfl)) (.inr (.inl rfl)) rfl rfl ⟨rest_3, (1 : Int), crew_8, r_12, rfl, hr_12, rfl, rfl⟩) (congrArg D.int (Option.some.inj hsill_13))) .int rfl ?_
  show SS X [some (.bor (D.scr a_script)), some (.own (D.lst (List.map D.int rest_3))), some (.own (D.lst (List.map (fun x : (Str × Int × Int) => (D.tup [(D.str x.1), (D.int x.2.1), (D.int x.2.2)])) crew_8))), some (.own (D.lst (List.map D.int scale_11))), some (.frz (D.int sill_13)), none, none] _ _
  obtain ⟨given_14, hgiven_14, H⟩ := bindO H
  refine set_ A sc_law_other_half 5 rfl rfl (Ev.cv (list_ (bn A sc_law_other_half 6 rfl g_list bt_list) (nmO A sc_law_other_half 2 rfl rfl rfl) .lst rfl) (congrArg (fun x : (List (Str × Int × Int)) => (D.lst (List.map (fun x : (Str × Int × Int) => (D.tup [(D.str x.1), (D.int x.2.1), (D.int x.2.2)])) x))) (Option.some.inj hgiven_14))) .own rfl ?_
  show SS X [some (.bor (D.scr a_script)), some (.own (D.lst (List.map D.int rest_3))), some (.own (D.lst (List.map (fun x : (Str × Int × Int) => (D.tup [(D.str x.1), (D.int x.2.1), (D.int x.2.2)])) crew_8))), some (.own (D.lst (List.map D.int scale_11))), some (.frz (D.int sill_13)), some (.own (D.lst (List.map (fun x : (Str × Int × Int) => (D.tup [(D.str x.1), (D.int x.2.1), (D.int x.2.2)])) given_14))), none] _ _
  obtain ⟨steps_15, hsteps_15, H⟩ := bindO H
  refine set_ A sc_law_other_half 6 rfl rfl (Ev.cv (list_ (bn A sc_law_other_half 6 rfl g_list bt_list) (nmO A sc_law_other_half 3 rfl rfl rfl) .lst rfl) (congrArg (fun x : (List Int) => (D.lst (List.map D.int x))) (Option.some.inj hsteps_15))) .own rfl ?_
  show SS X [some (.bor (D.scr a_script)), some (.own (D.lst (List.map D.int rest_3))), some (.own (D.lst (List.map (fun x : (Str × Int × Int) => (D.tup [(D.str x.1), (D.int x.2.1), (D.int x.2.2)])) crew_8))), some (.own (D.lst (List.map D.int scale_11))), some (.frz (D.int sill_13)), some (.own (D.lst (List.map (fun x : (Str × Int × Int) => (D.tup [(D.str x.1), (D.int x.2.1), (D.int x.2.2)])) given_14))), some (.own (D.lst (List.map D.int steps_15)))] _ _
  obtain ⟨r_16, hr_16, H⟩ := bindO H
  obtain ⟨r_17, hr_17, H⟩ := bindO H
  refine ss_if (et_not (Ev.et (Cal.ev C_law_rents_kept A sc_law_other_half 8 rfl (by decide) (ea_cons (CalK.ev C_dearest_k2_floor A sc_law_other_half 7 rfl (by decide) (ea_cons (nmO A sc_law_other_half 5 rfl rfl rfl) (ea_cons (nmO A sc_law_other_half 6 rfl rfl rfl) ea_nil (.inl rfl) rfl) (.inr (.inr rfl)) rfl) (.inr (.inr rfl)) (ek_cons (nmF A sc_law_other_half 4 rfl rfl rfl) ek_nil (.inl rfl)) (.inl rfl) (.inl rfl) rfl rfl rfl rfl rfl rfl ⟨given_14, steps_15, sill_13, r_16, rfl, hr_16, rfl, rfl⟩) (ea_cons (nmO A sc_law_other_half 2 rfl rfl rfl) (ea_cons (nmO A sc_law_other_half 3 rfl rfl rfl) (ea_cons (nmF A sc_law_other_half 4 rfl rfl rfl) ea_nil (.inl rfl) rfl) (.inl rfl) rfl) (.inr (.inr rfl)) rfl) (.inr (.inr rfl)) rfl) (.inr (.inr rfl)) (.inr (.inl rfl)) rfl rfl ⟨r_16, crew_8, scale_11, sill_13, r_17, rfl, hr_17, rfl, rfl⟩) fun _ => rfl)) (fun hc => ?_) (fun hc => ?_)
  · replace H := ifT H hc
    exact ss_ret ev_bl (⟨(congrArg D.bl (Option.some.inj H)), .bl⟩)
  · replace H := ifF H hc
    refine ss_nil ?_
    show SS X _ _ _
    obtain ⟨r_18, hr_18, H⟩ := bindO H
    obtain ⟨q_20, hq_20, H⟩ := bindO H
    refine ss_if (Ew.et (ew_orM (et_not (Ev.et (Cal.ev C_law_same A sc_law_other_half 9 rfl (by decide) (ea_consH (nmO A sc_law_other_half 5 rfl rfl rfl) (ea_consH (nmO A sc_law_other_half 2 rfl rfl rfl) ea_nil (.inl rfl) rfl) (.inr (.inr rfl)) rfl) (.inr (.inr rfl)) (.inr (.inl rfl)) rfl rfl ⟨(D.lst (List.map (fun x : (Str × Int × Int) => (D.tup [(D.str x.1), (D.int x.2.1), (D.int x.2.2)])) given_14)), (D.lst (List.map (fun x : (Str × Int × Int) => (D.tup [(D.str x.1), (D.int x.2.1), (D.int x.2.2)])) crew_8)), r_18, rfl, hr_18, rfl, rfl⟩) fun _ => rfl)) hq_20 fun H => by obtain ⟨r_19, hr_19, H⟩ := bindO H; obtain rfl := Option.some.inj H; exact (ew_or1 (et_not (Ev.et (Cal.ev C_law_same A sc_law_other_half 9 rfl (by decide) (ea_consH (nmO A sc_law_other_half 6 rfl rfl rfl) (ea_consH (nmO A sc_law_other_half 3 rfl rfl rfl) ea_nil (.inl rfl) rfl) (.inr (.inr rfl)) rfl) (.inr (.inr rfl)) (.inr (.inl rfl)) rfl rfl ⟨(D.lst (List.map D.int steps_15)), (D.lst (List.map D.int scale_11)), r_19, rfl, hr_19, rfl, rfl⟩) fun _ => rfl))))) (fun hc => ?_) (fun hc => ?_)
    · replace H := ifT H hc
      exact ss_ret ev_bl (⟨(congrArg D.bl (Option.some.inj H)), .bl⟩)
    · replace H := ifF H hc
      refine ss_nil ?_
      show SS X _ _ _
      obtain ⟨r_21, hr_21, H⟩ := bindO H
      obtain ⟨r_22, hr_22, H⟩ := bindO H
      refine ss_if (et_not (Ev.et (Cal.ev C_law_rents_kept A sc_law_other_half 8 rfl (by decide) (ea_cons (Cal.ev C_dearest_2_p2 A sc_law_other_half 7 rfl (by decide) (ea_cons (tuple_ (bn A sc_law_other_half 10 rfl g_tuple bt_tuple) (nmO A sc_law_other_half 2 rfl rfl rfl) .lst rfl) (ea_cons (tuple_ (bn A sc_law_other_half 10 rfl g_tuple bt_tuple) (nmO A sc_law_other_half 3 rfl rfl rfl) .lst rfl) ea_nil (.inl rfl) rfl) (.inl rfl) rfl) (.inl rfl) (.inl rfl) rfl rfl ⟨crew_8, scale_11, (0 : Int), r_21, rfl, hr_21, rfl, rfl⟩) (ea_cons (nmO A sc_law_other_half 2 rfl rfl rfl) (ea_cons (nmO A sc_law_other_half 3 rfl rfl rfl) (ea_cons ev_int ea_nil (.inl rfl) rfl) (.inl rfl) rfl) (.inr (.inr rfl)) rfl) (.inr (.inr rfl)) rfl) (.inr (.inr rfl)) (.inr (.inl rfl)) rfl rfl ⟨r_21, crew_8, scale_11, (0 : Int), r_22, rfl, hr_22, rfl, rfl⟩) fun _ => rfl)) (fun hc => ?_) (fun hc => ?_)
      · replace H := ifT H hc
        exact ss_ret ev_bl (⟨(congrArg D.bl (Option.some.inj H)), .bl⟩)
      · replace H := ifF H hc
        refine ss_nil ?_
        show SS X _ _ _
        refine rev_ (en := (fun x : (Str × Int × Int) => (D.tup [(D.str x.1), (D.int x.2.1), (D.int x.2.2)]))) A sc_law_other_half 5 rfl rfl rfl rfl rfl rfl ?_
        show SS X [some (.bor (D.scr a_script)), some (.own (D.lst (List.map D.int rest_3))), some (.own (D.lst (List.map (fun x : (Str × Int × Int) => (D.tup [(D.str x.1), (D.int x.2.1), (D.int x.2.2)])) crew_8))), some (.own (D.lst (List.map D.int scale_11))), some (.frz (D.int sill_13)), some (.own (D.lst (List.map (fun x : (Str × Int × Int) => (D.tup [(D.str x.1), (D.int x.2.1), (D.int x.2.2)])) (given_14.reverse)))), some (.own (D.lst (List.map D.int steps_15)))] _ _
        obtain ⟨pp_23, hpp_23, H⟩ := bindO H
        refine exE_ (popE_ (f := D.int) A sc_law_other_half 6 rfl rfl rfl hpp_23 rfl rfl) rfl ?_
        show SS X [some (.bor (D.scr a_script)), some (.own (D.lst (List.map D.int rest_3))), some (.own (D.lst (List.map (fun x : (Str × Int × Int) => (D.tup [(D.str x.1), (D.int x.2.1), (D.int x.2.2)])) crew_8))), some (.own (D.lst (List.map D.int scale_11))), some (.frz (D.int sill_13)), some (.own (D.lst (List.map (fun x : (Str × Int × Int) => (D.tup [(D.str x.1), (D.int x.2.1), (D.int x.2.2)])) (given_14.reverse)))), some (.own (D.lst (List.map D.int pp_23.2)))] _ _
        obtain ⟨steps_24, hsteps_24, H⟩ := bindO H
        refine ins_ (en := D.int) (x := (1000 : Int)) A sc_law_other_half 6 rfl rfl rfl ev_int ev_int (by first | rfl | exact heldOf_c) hsteps_24 ⟨rfl, rfl, rfl⟩ rfl rfl rfl ?_
        show SS X [some (.bor (D.scr a_script)), some (.own (D.lst (List.map D.int rest_3))), some (.own (D.lst (List.map (fun x : (Str × Int × Int) => (D.tup [(D.str x.1), (D.int x.2.1), (D.int x.2.2)])) crew_8))), some (.own (D.lst (List.map D.int scale_11))), some (.frz (D.int sill_13)), some (.own (D.lst (List.map (fun x : (Str × Int × Int) => (D.tup [(D.str x.1), (D.int x.2.1), (D.int x.2.2)])) (given_14.reverse)))), some (.own (D.lst (List.map D.int steps_24)))] _ _
        obtain ⟨r_25, hr_25, H⟩ := bindO H
        obtain ⟨xs_26, hxs_26, H⟩ := bindO H
        obtain ⟨r_27, hr_27, H⟩ := bindO H
        refine ss_if (et_not (Ev.et (Cal.ev C_law_rents_kept A sc_law_other_half 8 rfl (by decide) (ea_cons (CalK.ev C_dearest_k2_floor A sc_law_other_half 7 rfl (by decide) (ea_cons (nmO A sc_law_other_half 5 rfl rfl rfl) (ea_cons (nmO A sc_law_other_half 6 rfl rfl rfl) ea_nil (.inl rfl) rfl) (.inr (.inr rfl)) rfl) (.inr (.inr rfl)) (ek_cons (nmF A sc_law_other_half 4 rfl rfl rfl) ek_nil (.inl rfl)) (.inl rfl) (.inl rfl) rfl rfl rfl rfl rfl rfl ⟨(given_14.reverse), steps_24, sill_13, r_25, rfl, hr_25, rfl, rfl⟩) (ea_cons (revL_ (nmO A sc_law_other_half 2 rfl rfl rfl)) (ea_cons (catL_ (f := D.int) (Ev.cv (ev_list (ea_cons ev_int ea_nil (.inl rfl) rfl) (.inl rfl) (le_line rfl)) rfl) (slL_ (nmO A sc_law_other_half 3 rfl rfl rfl) eo_none (eo_some (ev_neg ev_int))) hxs_26) (ea_cons (nmF A sc_law_other_half 4 rfl rfl rfl) ea_nil (.inl rfl) rfl) (.inl rfl) rfl) (.inl rfl) rfl) (.inl rfl) rfl) (.inl rfl) (.inr (.inl rfl)) rfl rfl ⟨r_25, (crew_8.reverse), xs_26, sill_13, r_27, rfl, hr_27, rfl, rfl⟩) fun _ => rfl)) (fun hc => ?_) (fun hc => ?_)
        · replace H := ifT H hc
          exact ss_ret ev_bl (⟨(congrArg D.bl (Option.some.inj H)), .bl⟩)
        · replace H := ifF H hc
          refine ss_nil ?_
          show SS X _ _ _
          obtain ⟨r_28, hr_28, H⟩ := bindO H
          obtain ⟨r_29, hr_29, H⟩ := bindO H
          exact ss_ret (Cal.ev C_law_rents_kept A sc_law_other_half 8 rfl (by decide) (ea_cons (CalK.ev C_dearest_k2_floor A sc_law_other_half 7 rfl (by decide) (ea_cons (list_ (bn A sc_law_other_half 6 rfl g_list bt_list) (nmO A sc_law_other_half 2 rfl rfl rfl) .lst rfl) (ea_cons (list_ (bn A sc_law_other_half 6 rfl g_list bt_list) (nmO A sc_law_other_half 3 rfl rfl rfl) .lst rfl) ea_nil (.inl rfl) rfl) (.inl rfl) rfl) (.inl rfl) (ek_cons (nmF A sc_law_other_half 4 rfl rfl rfl) ek_nil (.inl rfl)) (.inl rfl) (.inl rfl) rfl rfl rfl rfl rfl rfl ⟨crew_8, scale_11, sill_13, r_28, rfl, hr_28, rfl, rfl⟩) (ea_cons (nmO A sc_law_other_half 2 rfl rfl rfl) (ea_cons (nmO A sc_law_other_half 3 rfl rfl rfl) (ea_cons (nmF A sc_law_other_half 4 rfl rfl rfl) ea_nil (.inl rfl) rfl) (.inl rfl) rfl) (.inr (.inr rfl)) rfl) (.inr (.inr rfl)) rfl) (.inr (.inr rfl)) (.inr (.inl rfl)) rfl rfl ⟨r_28, crew_8, scale_11, sill_13, r_29, rfl, hr_29, rfl, rfl⟩) (⟨(congrArg D.bl (Option.some.inj H)), .bl⟩)
def m_law (a_script : (List Int)) : Option Bool :=
  ((m_law_one_half a_script).bind fun r_1 => ((if r_1 = true then ((m_law_other_half a_script).bind fun r_2 => some r_2) else some false).bind fun q_3 => some q_3))
def R_law : Rel := fun ds d k => ∃ (a_script : (List Int)) (r : Bool), ds = [(D.scr a_script)] ∧ m_law a_script = some r ∧ d = D.bl r ∧ k = .cln
abbrev N_law : List Str := ["script"]
theorem fs_law : FnScope N_law ["script"] (defScope s_law) := ⟨rfl, rfl, rfl, by decide +kernel, rfl, by decide +kernel, by decide +kernel⟩
theorem sc_law : Sc N_law (defScope s_law) [0] [] ["_law_one_half", "_law_other_half"] := ⟨fs_law.nd, by decide +kernel⟩
theorem b_law {X : Cx} {Γ : Gd} (A : At X Γ N_law (defScope s_law) 12) (C_law_one_half : Cal Γ "_law_one_half" R_law_one_half 12 []) (C_law_other_half : Cal Γ "_law_other_half" R_law_other_half 11 []) {ds : List D} {d : D} {k : Kd} (hR : R_law ds d k) :
    SS X (env0 1 ds) (defBody s_law) { rt := fun d' k' => d' = d ∧ Fits k' k d, nx := fun _ => d = .non ∧ k = .cln } := by
  obtain ⟨a_script, r, rfl, H, rfl, rfl⟩ := hR
  unfold m_law at H
  obtain ⟨r_1, hr_1, H⟩ := bindO H
  obtain ⟨q_3, hq_3, H⟩ := bindO H
  exact ss_ret (ev_andM (Cal.ev C_law_one_half A sc_law 0 rfl (by decide) (ea_cons (nmB A sc_law 0 rfl rfl rfl) ea_nil (.inl rfl) rfl) (.inr (.inl rfl)) (.inr (.inl rfl)) rfl rfl ⟨a_script, r_1, rfl, hr_1, rfl, rfl⟩) hq_3 fun H => by obtain ⟨r_2, hr_2, H⟩ := bindO H; obtain rfl := Option.some.inj H; exact (ev_one (Cal.ev C_law_other_half A sc_law 1 rfl (by decide) (ea_cons (nmB A sc_law 0 rfl rfl rfl) ea_nil (.inl rfl) rfl) (.inr (.inl rfl)) (.inr (.inl rfl)) rfl rfl ⟨a_script, r_2, rfl, hr_2, rfl, rfl⟩))) (⟨(congrArg D.bl (Option.some.inj H)), .bl⟩)
end K17
namespace DL
open PySem L2
def Sm {α : Type} (o : Option α) (P : α → Prop) : Prop := ∃ a, o = some a ∧ P a
section
variable {α β S : Type} {P Q : α → Prop} {o o' : Option α}
theorem Sm.mono (h : Sm o P) (m : ∀ a, P a → Q a) : Sm o Q := let ⟨a, e, p⟩ := h; ⟨a, e, m a p⟩
theorem Sm.some {a : α} (h : P a) : Sm (some a) P := ⟨a, rfl, h⟩
theorem Sm.eq {a : α} (e : o = Option.some a) (h : P a) : Sm o P := ⟨a, e, h⟩
theorem Sm.bind {f : α → Option β} {R : β → Prop} (h : Sm o P) (k : ∀ a, P a → Sm (f a) R) : Sm (o.bind f) R := by
  obtain ⟨a, e, p⟩ := h
  subst e; exact k a p
theorem Sm.bindE {f : α → Option β} {R : β → Prop} {a : α} (h : o = Option.some a) (k : Sm (f a) R) : Sm (o.bind f) R := by subst h; exact k
theorem Sm.ite {c : Bool} (h1 : c = true → Sm o P) (h2 : c = false → Sm o' P) : Sm (if c = true then o else o') P := by
  cases c with
  | true => exact h1 rfl
  | false => exact h2 rfl
theorem Sm.fold {f : S → α → Option S} (I : List α → S → Prop) : ∀ {xs pre : List α} {s0 : S}, I pre s0 → (∀ p x q s, pre ++ xs = p ++ x :: q → I p s → Sm (f s x) (I (p ++ [x]))) → Sm (xs.foldlM f s0) (I (pre ++ xs))
  | [], pre, s0, h0, _ => ⟨s0, rfl, by rw [List.append_nil]; exact h0⟩
  | x :: xs, pre, s0, h0, hs => by
    rw [List.foldlM_cons]
    refine Sm.bind (hs pre x xs s0 rfl h0) fun s hI => ?_
    have := Sm.fold (f := f) I (xs := xs) (pre := pre ++ [x]) hI fun p y q s e hp => hs p y q s (by rw [← e]; simp) hp
    rw [List.append_assoc] at this
    exact this
theorem rngI_length (lo : Int) (n : Nat) : (rngI lo n).length = n := by unfold rngI; rw [List.length_map, List.length_range]
theorem rngI_get {lo : Int} {n i : Nat} (h : i < n) : (rngI lo n)[i]? = Option.some (lo + (i : Int)) := by
  unfold rngI; rw [List.getElem?_map, List.getElem?_range h]; rfl
theorem Sm.foldN {f : S → Int → Option S} {lo : Int} {n : Nat} {s0 : S} (I : Nat → S → Prop) (h0 : I 0 s0) (hs : ∀ i s, i < n → I i s → Sm (f s (lo + (i : Int))) (I (i + 1))) : Sm ((rngI lo n).foldlM f s0) (I n) := by
  have := Sm.fold (f := f) (fun p s => I p.length s) (xs := rngI lo n) (pre := []) (s0 := s0) h0 fun p x q s e hp => by
    rw [List.nil_append] at e
    have hl : p.length < n := by
      have := congrArg List.length e
      rw [rngI_length, List.length_append, List.length_cons] at this; omega
    have hx : (rngI lo n)[p.length]? = Option.some x := by rw [e]; simp
    rw [rngI_get hl] at hx
    cases hx
    rw [List.length_append]
    exact hs p.length s hl hp
  rw [List.nil_append, rngI_length] at this
  exact this
theorem rng1G_eq {n : Nat} (h : n ≤ 1000000) : rng1G (n : Int) = Option.some (rngI 0 n) := by
  unfold rng1G
  rw [if_pos (by simp only [Bool.and_eq_true, decide_eq_true_eq]; omega), Int.toNat_natCast]
theorem idxG_nat {xs : List α} {i : Nat} {x : α} (h : xs[i]? = Option.some x) : idxG xs (i : Int) = Option.some x := by
  have hl := (List.getElem?_eq_some_iff.mp h).1
  unfold idxG atI ixN
  rw [if_pos (by omega), if_pos (by omega), Int.toNat_natCast]
  exact h
theorem idxG_in {xs : List α} {i : Int} (h0 : 0 ≤ i) (h1 : i < xs.length) : ∃ x, xs[i.toNat]? = Option.some x ∧ idxG xs i = Option.some x := by
  have hl : i.toNat < xs.length := by omega
  refine ⟨xs[i.toNat], List.getElem?_eq_getElem hl, ?_⟩
  have := idxG_nat (List.getElem?_eq_getElem hl)
  rw [Int.toNat_of_nonneg h0] at this
  exact this
theorem idxG_getD {xs : List α} {i : Int} (d : α) (h0 : 0 ≤ i) (h1 : i < xs.length) : idxG xs i = Option.some (xs.getD i.toNat d) := by
  obtain ⟨x, e1, e2⟩ := idxG_in h0 h1
  rw [e2, List.getD_eq_getElem?_getD, e1]; rfl
theorem appG_eq {xs : List α} {x : α} (h : xs.length < 1000000) : appG xs x = Option.some (xs ++ [x]) := by unfold appG line; rw [if_pos (by omega)]
theorem catG_eq {xs ys : List α} (h : xs.length + ys.length ≤ 1000000) : catG xs ys = Option.some (xs ++ ys) := by unfold catG line; rw [if_pos (by omega)]
theorem lcG_eq {xs : List α} (h : xs.length ≤ 1000000) : lcG xs = Option.some xs := by unfold lcG line; rw [if_pos (by omega)]
theorem mulG_l {i j : Int} (h0 : -18446744073709551616 < i) (h1 : i < 18446744073709551616) : mulG i j = Option.some (i * j) := by
  unfold mulG cmulB; rw [if_pos (by simp [h0, h1])]
theorem mulG_r {i j : Int} (h0 : -18446744073709551616 < j) (h1 : j < 18446744073709551616) : mulG i j = Option.some (i * j) := by
  unfold mulG cmulB; rw [if_pos (by simp [h0, h1])]
theorem divG_eq {i j : Int} (h0 : 0 < j) (h1 : j < 1073741824) : divG i j = Option.some (i / j) := by
  unfold divG; rw [if_pos (by simp [h0, h1])]
theorem modG_eq {i j : Int} (h0 : 0 < j) : modG i j = Option.some (i % j) := by
  unfold modG; rw [if_pos (by simp [h0])]
theorem lcM_eq {p : α → Option Bool} {f : α → Option β} (pd : α → Bool) (g : α → β) : ∀ {xs : List α}, (∀ x ∈ xs, p x = Option.some (pd x) ∧ (pd x = true → f x = Option.some (g x))) → lcM p f xs = Option.some ((xs.filter pd).map g)
  | [], _ => rfl
  | x :: xs, h => by
    obtain ⟨h1, h2⟩ := h x (List.mem_cons_self ..)
    have ih := lcM_eq (p := p) (f := f) pd g (xs := xs) fun y hy => h y (List.mem_cons_of_mem _ hy)
    unfold lcM
    rw [h1]
    show (if pd x = true then _ else _) = _
    cases e : pd x with
    | true => rw [if_pos rfl, h2 e, ih]; simp [e]
    | false => rw [if_neg Bool.false_ne_true, ih]; simp [e]
theorem setG_eq {xs : List α} {i : Int} {x : α} (h0 : 0 ≤ i) (h1 : i < xs.length) : setG xs i x = Option.some (xs.set i.toNat x) := by
  unfold setG ixN; rw [if_pos h0, if_pos h1]
theorem loopM_nx {R : Type} {f : S → α → Option (Ctl S R)} : ∀ {xs : List α} {s0 : S} (g : S → α → S), (∀ s x, x ∈ xs → f s x = Option.some (.nx (g s x))) → loopM f s0 xs = Option.some (.nx (xs.foldl g s0))
  | [], s0, g, _ => rfl
  | x :: xs, s0, g, h => by
    unfold loopM
    rw [h s0 x (List.mem_cons_self ..)]
    exact loopM_nx g fun s y hy => h s y (List.mem_cons_of_mem _ hy)
theorem foldlM_unit {f : Unit → α → Option Unit} : ∀ {xs : List α}, (∀ x ∈ xs, f () x = Option.some ()) → xs.foldlM f () = Option.some ()
  | [], _ => rfl
  | x :: xs, h => by
    rw [List.foldlM_cons, h x (List.mem_cons_self ..)]
    exact foldlM_unit fun y hy => h y (List.mem_cons_of_mem _ hy)
end
def Sl (l : List Nat) : Str := ⟨l.toArray⟩
theorem Sl_inj {a b : List Nat} (h : Sl a = Sl b) : a = b := by
  have := congrArg (fun s : Str => s.cps.toList) h
  simpa [Sl] using this
theorem Sl_len (l : List Nat) : (Sl l).length = l.length := by show l.toArray.size = _; simp
theorem addSG_eq {a b : List Nat} (h : a.length + b.length ≤ 1000000) : addSG (Sl a) (Sl b) = some (Sl (a ++ b)) := by
  unfold addSG line
  rw [Sl_len, Sl_len, if_pos (by omega)]
  congr 1
  exact Str.ext' (by show a.toArray ++ b.toArray = (a ++ b).toArray; simp)
theorem sIx_nn {n d : Nat} {v : Int} (h : 0 ≤ v) : HT.sIx n d (some v) = min v.toNat n := by
  show (if v < 0 then (v + (n : Int)).toNat else min v.toNat n) = _
  rw [if_neg (by omega)]
theorem slSG_take {a : List Nat} {r : Int} (h : a.length ≤ 1000000) (h0 : 0 ≤ r) : slSG (Sl a) none (some r) = some (Sl (a.take r.toNat)) := by
  unfold slSG line
  rw [Sl_len, if_pos (by omega)]
  congr 1
  unfold cutS
  rw [Sl_len, sIx_nn h0]
  apply Str.ext'
  show (List.take (min r.toNat a.length - HT.sIx a.length 0 none) (List.drop (HT.sIx a.length 0 none) a.toArray.toList)).toArray = (a.take r.toNat).toArray
  show (List.take (min r.toNat a.length - 0) (List.drop 0 a.toArray.toList)).toArray = _
  congr 1
  simp [List.take_eq_take_iff]
theorem slSG_drop {a : List Nat} {r : Int} (h : a.length ≤ 1000000) (h0 : 0 ≤ r) : slSG (Sl a) (some r) none = some (Sl (a.drop r.toNat)) := by
  unfold slSG line
  rw [Sl_len, if_pos (by omega)]
  congr 1
  unfold cutS
  rw [Sl_len, sIx_nn h0]
  apply Str.ext'
  show (List.take (a.length - min r.toNat a.length) (List.drop (min r.toNat a.length) a.toArray.toList)).toArray = (a.drop r.toNat).toArray
  congr 1
  by_cases e : r.toNat ≤ a.length
  · rw [Nat.min_eq_left e, List.take_of_length_le (by simp)]
  · rw [Nat.min_eq_right (by omega), List.drop_eq_nil_of_le (by omega : a.length ≤ r.toNat)]
    simp
theorem idxSG_eq {a : List Nat} {i : Int} (h : a.length ≤ 1000000) (h0 : 0 ≤ i) (h1 : i < a.length) : idxSG (Sl a) i = some (Sl [a.getD i.toNat 0]) := by
  unfold idxSG line
  rw [Sl_len, if_pos (by omega)]
  have e := idxG_getD (xs := a) (i := i) 0 h0 h1
  unfold idxG at e
  show Option.map _ (atI a.toArray.toList i) = _
  rw [show a.toArray.toList = a from rfl, e]; rfl
theorem lenSG_eq {a : List Nat} (h : a.length ≤ 1000000) : lenSG (Sl a) = some (a.length : Int) := by
  unfold lenSG line
  rw [Sl_len, if_pos (by omega)]
theorem strL_eq (a : List Nat) : strL (Sl a) = a.map fun c => Sl [c] := rfl
def abc : List Nat := [97, 98, 99, 100, 101, 102, 103, 104, 105, 106, 107, 108, 109, 110, 111, 112, 113, 114, 115, 116, 117, 118, 119, 120, 121, 122]
theorem abc_eq : (Str.ofString "abcdefghijklmnopqrstuvwxyz") = Sl abc := by decide +kernel
theorem abc_in : ∀ c ∈ abc, inStr (Sl [c]) (Sl abc) = true := by decide +kernel
theorem abc_get {i : Nat} (h : i < 26) : abc.getD i 0 ∈ abc := by
  rw [List.getD_eq_getElem?_getD, List.getElem?_eq_getElem (by exact h)]
  exact List.getElem_mem _
theorem abc_at : ∀ i < 26, abc.getD i 0 = 97 + i := by decide +kernel
def NameOk (s : Str) : Prop := ∃ l : List Nat, s = Sl l ∧ 1 ≤ l.length ∧ l.length ≤ 8 ∧ ∀ c ∈ l, c ∈ abc
mutual
theorem D.eqv_self : ∀ d : D, PyData.eqv d.py d.py = true
  | .non => by simp [D.py, PyData.eqv]
  | .bl _ => by simp [D.py, PyData.eqv]
  | .int _ => by simp [D.py, PyData.eqv]
  | .str _ => by simp [D.py, PyData.eqv]
  | .lst ds => by simp only [D.py, PyData.eqv]; exact D.eqvs_self ds
  | .tup ds => by simp only [D.py, PyData.eqv]; exact D.eqvs_self ds
  | .dK _ => by simp [D.py, PyData.eqv]
  | .dT _ => by simp [D.py, PyData.eqv]
  | .obj _ _ => by simp [D.py, PyData.eqv]
  | .scr _ => by simp [D.py, PyData.eqv]
  | .adr _ => by simp [D.py, PyData.eqv]
  | .tpx _ => by simp [D.py, PyData.eqv]
  | .tpk _ => by simp [D.py, PyData.eqv]
theorem D.eqvs_self : ∀ ds : List D, PyData.eqvAll (D.pys ds) (D.pys ds) = true
  | [] => by simp [D.pys, PyData.eqvAll]
  | d :: ds => by simp only [D.pys, PyData.eqvAll]; rw [D.eqv_self d, D.eqvs_self ds]; rfl
end
mutual
def D.gd : Nat → D → Bool
  | _, .non => true | _, .bl _ => true | _, .int _ => true | _, .str x => PyData.strOk x
  | k + 1, .lst ds => decide (ds.length ≤ 1000000) && D.gds k ds
  | k + 1, .tup ds => decide (ds.length ≤ 1000000) && D.gds k ds
  | _, _ => false
def D.gds : Nat → List D → Bool
  | _, [] => true
  | k, d :: ds => D.gd k d && D.gds k ds
end
mutual
theorem D.gd_pyo : ∀ {k : Nat} {d : D}, D.gd k d = true → d.pyo = true ∧ d.py.depth ≤ k
  | _, .non, _ => ⟨rfl, by simp [D.py, PyData.depth]⟩
  | _, .bl _, _ => ⟨rfl, by simp [D.py, PyData.depth]⟩
  | _, .int _, _ => ⟨rfl, by simp [D.py, PyData.depth]⟩
  | _, .str x, h => ⟨by simpa [D.gd, D.pyo] using h, by simp [D.py, PyData.depth]⟩
  | 0, .lst _, h => by simp [D.gd] at h
  | 0, .tup _, h => by simp [D.gd] at h
  | k + 1, .lst ds, h => by
    simp only [D.gd, Bool.and_eq_true] at h
    obtain ⟨h1, h2⟩ := D.gds_pyo h.2
    exact ⟨h1, by simp only [D.py, PyData.depth]; omega⟩
  | k + 1, .tup ds, h => by
    simp only [D.gd, Bool.and_eq_true] at h
    obtain ⟨h1, h2⟩ := D.gds_pyo h.2
    exact ⟨h1, by simp only [D.py, PyData.depth]; omega⟩
  | _, .dK _, h => by simp [D.gd] at h
  | _, .dT _, h => by simp [D.gd] at h
  | _, .obj _ _, h => by simp [D.gd] at h
  | _, .scr _, h => by simp [D.gd] at h
  | _, .adr _, h => by simp [D.gd] at h
  | _, .tpx _, h => by simp [D.gd] at h
  | _, .tpk _, h => by simp [D.gd] at h
theorem D.gds_pyo : ∀ {k : Nat} {ds : List D}, D.gds k ds = true → D.pyos ds = true ∧ PyData.depthAll (D.pys ds) ≤ k
  | _, [], _ => ⟨rfl, by simp [D.pys, PyData.depthAll]⟩
  | k, d :: ds, h => by
    simp only [D.gds, Bool.and_eq_true] at h
    obtain ⟨h1, h2⟩ := D.gd_pyo h.1
    obtain ⟨h3, h4⟩ := D.gds_pyo h.2
    exact ⟨by simp [D.pyos, h1, h3], by simp only [D.pys, PyData.depthAll]; omega⟩
end
theorem D.gds_mem {k : Nat} : ∀ {ds : List D}, (∀ d ∈ ds, D.gd k d = true) → D.gds k ds = true
  | [], _ => rfl
  | d :: ds, h => by rw [D.gds, h d (List.mem_cons_self ..), D.gds_mem fun x hx => h x (List.mem_cons_of_mem _ hx)]; rfl
theorem D.gds_at {k : Nat} : ∀ {ds : List D} {d : D}, D.gds k ds = true → d ∈ ds → D.gd k d = true
  | e :: ds, d, h, hd => by
    rw [D.gds, Bool.and_eq_true] at h
    rcases List.mem_cons.mp hd with z | z
    · subst z; exact h.1
    · exact D.gds_at h.2 z
theorem eqG_self {k : Nat} {d : D} (h : D.gd k d = true) (hk : k ≤ 64) : eqG d d = some true := by
  obtain ⟨h1, h2⟩ := D.gd_pyo h
  unfold eqG
  rw [if_pos (by simp only [h1, Bool.true_and, Bool.and_eq_true, decide_eq_true_eq]; omega), D.eqv_self]
theorem eqG_nil {k : Nat} {ds : List D} (h : D.gd k (.lst ds) = true) (hk : k ≤ 64) : eqG (.lst ds) (.lst []) = some ds.isEmpty := by
  obtain ⟨h1, h2⟩ := D.gd_pyo h
  unfold eqG
  rw [if_pos (by
    have e : (D.lst []).py.depth ≤ 64 := by simp [D.py, D.pys, PyData.depth, PyData.depthAll]
    have e2 : (D.lst []).pyo = true := rfl
    rw [h1, e2, decide_eq_true e]; simp only [Bool.true_and, Bool.and_true, decide_eq_true_eq]; omega)]
  cases ds with
  | nil => simp [D.py, D.pys, PyData.eqv, PyData.eqvAll]
  | cons d ds => simp [D.py, D.pys, PyData.eqv, PyData.eqvAll]
theorem NameOk.strOk {s : Str} (h : NameOk s) : PyData.strOk s = true := by
  obtain ⟨l, e, _, _, h⟩ := h
  subst e
  unfold PyData.strOk Sl
  simp only [List.all_toArray, List.all_eq_true, decide_eq_true_eq]
  intro c hc
  have : ∀ c ∈ abc, c < 1114112 := by decide
  exact this c (h c hc)
theorem cutX_take {α : Type} {xs : List α} {r : Int} (h0 : 0 ≤ r) : cutX xs none (some r) = xs.take r.toNat := by
  unfold cutX
  rw [sIx_nn h0]
  show List.take (min r.toNat xs.length - 0) (List.drop 0 xs) = _
  rw [Nat.sub_zero, List.drop_zero]
  simp [List.take_eq_take_iff]
theorem enumL_mem {α : Type} {xs : List α} {z : Int × α} (h : z ∈ enumL xs) : ∃ i : Nat, xs[i]? = some z.2 ∧ z.1 = (i : Int) := by
  obtain ⟨n, hn⟩ := List.mem_iff_getElem?.mp h
  rw [enumL_get] at hn
  cases q : xs[n]? with
  | none => rw [q] at hn; cases hn
  | some x => rw [q] at hn; cases hn; exact ⟨n, q, rfl⟩
theorem Sm.foldTo {α S : Type} {xs : List α} {s0 : S} {f : S → α → Option S} {P : S → Prop} (I : List α → S → Prop) (h0 : I [] s0) (hs : ∀ p x q s, xs = p ++ x :: q → I p s → Sm (f s x) (I (p ++ [x]))) (he : ∀ s, I xs s → P s) : Sm (xs.foldlM f s0) P := by
  have := Sm.fold (f := f) I (xs := xs) (pre := []) h0 fun p x q s e hp => hs p x q s (by rw [← e]; rfl) hp
  rw [List.nil_append] at this
  exact this.mono he
end DL
namespace K17
open PySem L2 DL
theorem cell_ok (s : List Int) (k : Nat) (h : s.length ≤ 1000) : ∃ r, m_law_cell s k = some r := by
  have : Sm (m_law_cell s k) fun _ => True := by
    unfold m_law_cell
    refine Sm.ite (fun c => ?_) fun c => ?_
    · have c := of_decide_eq_true c
      obtain ⟨x, _, e⟩ := idxG_in (xs := s) (i := k) (by omega) c
      exact Sm.bindE e (Sm.some trivial)
    · refine Sm.bindE rfl (Sm.bindE (rng1G_eq (by omega)) (Sm.bind (Sm.foldN (fun _ _ => True) trivial fun i t hi _ => ?_) fun _ _ => Sm.some trivial))
      obtain ⟨x, _, e⟩ := idxG_in (xs := s) (i := 0 + (i : Int)) (by omega) (by omega)
      exact Sm.bindE e (Sm.bindE (mulG_l (by omega) (by omega)) (Sm.bindE rfl (Sm.some trivial)))
  obtain ⟨r, e, _⟩ := this
  exact ⟨r, e⟩
theorem mixed_ok (c : Int) (k : Nat) (h : k < 100000) : ∃ r, m_law_mixed c k = some r ∧ 0 ≤ r := by
  have : Sm (m_law_mixed c k) fun r => 0 ≤ r := by
    unfold m_law_mixed
    refine Sm.bindE rfl (Sm.bindE (mulG_l (by omega) (by omega)) (Sm.bindE rfl (Sm.bindE (mulG_l (by omega) (by omega)) (Sm.bindE rfl (Sm.some ?_)))))
    omega
  exact this
theorem pool_ok (c : Int) (n : Nat) (h : n ≤ 1000) : ∃ r, m_law_pool c n = some r ∧ r.length = n ∧ ∀ x ∈ r, 0 ≤ x := by
  have : Sm (m_law_pool c n) fun r => r.length = n ∧ ∀ x ∈ r, 0 ≤ x := by
    unfold m_law_pool
    refine Sm.bindE rfl (Sm.bindE rfl (Sm.bindE rfl (Sm.bindE (rng1G_eq (by omega)) (Sm.bind (Sm.foldN (fun i s => s.2.length = i ∧ (∀ x ∈ s.2, 0 ≤ x)) ⟨rfl, fun x hx => nomatch hx⟩ fun i s hi ⟨h1, h2⟩ => ?_) fun s hs => Sm.some hs))))
    have app : ∀ y : Int, 0 ≤ y → (s.2 ++ [y]).length = i + 1 ∧ ∀ x ∈ s.2 ++ [y], 0 ≤ x := fun y hy => ⟨by simp [h1], fun x hx => by
      rcases List.mem_append.mp hx with z | z
      · exact h2 x z
      · rw [List.mem_singleton.mp z]; exact hy⟩
    refine Sm.bind (P := fun s' => s'.2.length = i + 1 ∧ ∀ x ∈ s'.2, 0 ≤ x) (Sm.ite (fun _ => ?_) fun _ => ?_) fun s' hs' => Sm.some hs'
    · exact Sm.bindE (appG_eq (by omega)) (Sm.bindE rfl (Sm.some (app _ (by omega))))
    · obtain ⟨r, e1, e2⟩ := mixed_ok c i (by omega)
      have e1 : m_law_mixed c (0 + (i : Int)) = some r := by rw [Int.zero_add]; exact e1
      exact Sm.bindE e1 (Sm.bindE (appG_eq (by omega)) (Sm.some (app _ e2)))
  exact this
def part (pool : List Int) (spot : Nat) (under size : Int) : Int := pool.getD spot 0 / under % size
theorem part_eq {pool : List Int} {spot under size : Int} (h0 : 0 ≤ spot) (h1 : spot < pool.length) (u0 : 0 < under) (u1 : under < 1073741824) (z : 0 < size) : m_law_part pool spot under size = some (part pool spot.toNat under size) := by
  unfold m_law_part
  rw [idxG_getD 0 h0 h1]
  show ((divG _ under).bind _) = _
  rw [divG_eq u0 u1]
  show ((modG _ size).bind _) = _
  rw [modG_eq z]; rfl
theorem part_in (pool : List Int) (spot : Nat) (under size : Int) (z : 0 < size) : 0 ≤ part pool spot under size ∧ part pool spot under size < size := ⟨Int.emod_nonneg _ (by omega), Int.emod_lt_of_pos _ z⟩
theorem part_sm {pool : List Int} {spot under size : Int} (h0 : 0 ≤ spot) (h1 : spot < pool.length) (u0 : 0 < under) (u1 : under < 1073741824) (z : 0 < size) : Sm (m_law_part pool spot under size) fun r => 0 ≤ r ∧ r < size :=
  Sm.eq (part_eq h0 h1 u0 u1 z) (part_in _ _ _ _ z)
theorem far_ok {pool : List Int} {spot : Int} {n : Nat} (h0 : 0 ≤ spot) (h1 : spot + n ≤ pool.length) (hn : n ≤ 1000) : Sm (m_law_far pool spot n) fun r => 0 ≤ r := by
  unfold m_law_far
  refine Sm.bindE rfl (Sm.bindE (rng1G_eq (by omega)) (Sm.bind (Sm.foldN (fun _ s => 0 ≤ s) (by omega) fun i s hi hs => ?_) fun s hs => Sm.some hs))
  obtain ⟨x, _, e⟩ := idxG_in (xs := pool) (i := spot + (0 + (i : Int))) (by omega) (by omega)
  refine Sm.bindE e (Sm.bindE rfl (Sm.some ?_))
  omega
theorem chosen_ok {pool : List Int} {spot under small crest whole : Int} (h0 : 0 ≤ spot) (h1 : spot < pool.length) (u0 : 0 < under) (u1 : under < 100000000) (z : 0 < small) (zc : small ≤ crest + 1) : Sm (m_law_chosen pool spot under small crest whole) fun r => 0 ≤ r ∧ r ≤ crest := by
  unfold m_law_chosen
  refine Sm.bind (part_sm h0 h1 u0 (by omega) (by omega)) fun r1 _ => Sm.bindE rfl (Sm.bind (part_sm h0 h1 (by omega) (by omega) z) fun r2 hr => Sm.bindE rfl (Sm.ite (fun _ => Sm.some (by omega)) fun _ => Sm.ite (fun _ => ?_) fun _ => Sm.some (by omega)))
  have hc : 0 < crest + 1 := by omega
  have a1 := Int.emod_nonneg whole (b := crest + 1) (by omega)
  have a2 := Int.emod_lt_of_pos whole hc
  exact Sm.bindE (modG_eq hc) (Sm.some (by omega))
end K17
namespace K17
open PySem L2 DL
theorem mark_ne {t : Int} {i j : Nat} (ht : 0 ≤ t) (h1 : i < 6) (h2 : j < 6) (h : ((i : Int) + t) % 6 = ((j : Int) + t) % 6) : i = j := by omega
theorem letter_ne {f m n : Int} (hm : 0 ≤ m) (hm6 : m < 6) (hn : 0 ≤ n) (hn6 : n < 6) (h : (f + 7 * m) % 26 = (f + 7 * n) % 26) : m = n := by omega
theorem letter_ne' {f m n : Int} (hm : 0 ≤ m) (hm6 : m < 6) (hn : 0 ≤ n) (hn6 : n < 6) (h : 97 + ((f + 7 * m) % 26).toNat = 97 + ((f + 7 * n) % 26).toNat) : m = n := by omega
theorem names_ok {pool : List Int} {n : Nat} (hp : 5 ≤ pool.length) (hn : n ≤ 6) : Sm (m_law_names pool 0 n) fun r => r.length = n ∧ r.Nodup ∧ ∀ x ∈ r, NameOk x := by
  unfold m_law_names
  rw [abc_eq]
  refine Sm.bindE rfl (Sm.bindE rfl ?_)
  rw [show (Str.ofString "") = Sl [] by decide +kernel]
  refine Sm.bindE (rng1G_eq (n := 3) (by omega)) (Sm.bind (Sm.foldN (fun i s => ∃ l : List Nat, s = Sl l ∧ l.length = 2 * i ∧ ∀ c ∈ l, c ∈ abc) ⟨[], rfl, rfl, fun c hc => nomatch hc⟩ fun i s hi ⟨l, e, hl, ha⟩ => ?_) fun s ⟨l, e, hl, ha⟩ => ?_)
  · subst e
    refine Sm.bind (part_sm (by omega) (by omega) (by omega) (by omega) (by omega)) fun r1 ⟨a1, a2⟩ => Sm.bindE (idxSG_eq (by decide) a1 a2) (Sm.bindE (addSG_eq (by simp; omega)) ?_)
    refine Sm.bind (part_sm (by omega) (by omega) (by omega) (by omega) (by omega)) fun r2 ⟨b1, b2⟩ => Sm.bindE (idxSG_eq (by decide) b1 b2) (Sm.bindE (addSG_eq (by simp; omega)) (Sm.bindE rfl (Sm.some ⟨_, rfl, by simp; omega, fun c hc => ?_⟩)))
    rcases List.mem_append.mp hc with hc | hc
    · rcases List.mem_append.mp hc with hc | hc
      · exact ha c hc
      · rw [List.mem_singleton.mp hc]; exact abc_get (by omega)
    · rw [List.mem_singleton.mp hc]; exact abc_get (by omega)
  · subst e
    refine Sm.bind (part_sm (by omega) (by omega) (by omega) (by omega) (by omega)) fun turn ⟨t1, t2⟩ => Sm.bindE rfl ?_
    refine Sm.bind (part_sm (by omega) (by omega) (by omega) (by omega) (by omega)) fun cut ⟨c1, c2⟩ => Sm.bindE rfl ?_
    refine Sm.bind (part_sm (by omega) (by omega) (by omega) (by omega) (by omega)) fun first ⟨f1, f2⟩ => Sm.bindE rfl ?_
    refine Sm.bind (part_sm (by omega) (by omega) (by omega) (by omega) (by omega)) fun sh ⟨s1, s2⟩ => Sm.bindE (slSG_take (by omega) s1) (Sm.bindE rfl ?_)
    refine Sm.bind (part_sm (by omega) (by omega) (by omega) (by omega) (by omega)) fun ta ⟨ta1, ta2⟩ => Sm.bindE (slSG_take (by omega) ta1) (Sm.bindE rfl (Sm.bindE rfl ?_))
    have hq : m_law_part pool (0 + 4) 1 2 = some (part pool 4 1 2) := part_eq (by omega) (by omega) (by omega) (by omega) (by omega)
    let sl := l.take sh.toNat
    let tl := l.take ta.toNat
    have hsl : sl.length ≤ 6 := by show (l.take _).length ≤ 6; rw [List.length_take]; omega
    have htl : tl.length ≤ 1 := by show (l.take _).length ≤ 1; rw [List.length_take]; omega
    have asl : ∀ c ∈ sl, c ∈ abc := fun c hc => ha c (List.mem_of_mem_take hc)
    have atl : ∀ c ∈ tl, c ∈ abc := fun c hc => ha c (List.mem_of_mem_take hc)
    let mk : Nat → Int := fun k => ((k : Int) + turn) % 6
    have mk0 : ∀ k, 0 ≤ mk k ∧ mk k < 6 := fun k => ⟨Int.emod_nonneg _ (by decide), Int.emod_lt_of_pos _ (by decide)⟩
    let nm : Nat → List Nat := fun k => if part pool 4 1 2 = 0 then sl.take cut.toNat ++ ([abc.getD ((first + 7 * mk k) % 26).toNat 0] ++ (sl.drop cut.toNat ++ tl)) else l.take ((mk k).toNat + 1)
    have ok : ∀ k, NameOk (Sl (nm k)) := fun k => by
      refine ⟨_, rfl, ?_⟩
      by_cases z : part pool 4 1 2 = 0
      · rw [show nm k = sl.take cut.toNat ++ ([abc.getD ((first + 7 * mk k) % 26).toNat 0] ++ (sl.drop cut.toNat ++ tl)) from if_pos z]
        refine ⟨by simp; omega, by simp; omega, fun c hc => ?_⟩
        simp only [List.mem_append, List.mem_singleton] at hc
        rcases hc with hc | hc | hc | hc
        · exact asl c (List.mem_of_mem_take hc)
        · rw [hc]; exact abc_get (by omega)
        · exact asl c (List.mem_of_mem_drop hc)
        · exact atl c hc
      · rw [show nm k = l.take ((mk k).toNat + 1) from if_neg z]
        have := mk0 k
        refine ⟨by rw [List.length_take]; omega, by rw [List.length_take]; omega, fun c hc => ha c (List.mem_of_mem_take hc)⟩
    have inj : ∀ i j, i < 6 → j < 6 → nm i = nm j → i = j := fun i j hi hj e => by
      by_cases z : part pool 4 1 2 = 0
      · rw [show nm i = _ from if_pos z, show nm j = _ from if_pos z] at e
        have e := List.append_cancel_left e
        rw [List.singleton_append, List.singleton_append] at e
        have e := (List.cons.inj e).1
        have w : ∀ k, (((first + 7 * mk k) % 26).toNat : Nat) < 26 := fun k => by omega
        rw [abc_at _ (w i), abc_at _ (w j)] at e
        exact mark_ne t1 hi hj (letter_ne' (f := first) (mk0 i).1 (mk0 i).2 (mk0 j).1 (mk0 j).2 e)
      · rw [show nm i = _ from if_neg z, show nm j = _ from if_neg z] at e
        have e := congrArg List.length e
        rw [List.length_take, List.length_take] at e
        have := mk0 i
        have := mk0 j
        refine mark_ne (t := turn) t1 hi hj ?_
        show mk i = mk j
        omega
    refine Sm.bindE (rng1G_eq (by omega)) (Sm.bind (Sm.foldN (fun i s => s = (List.range i).map fun k => Sl (nm k)) rfl fun i s hi e => ?_) fun s e => Sm.some ?_)
    · have hi : i < n := hi
      have hm : ((0 + (i : Int)) + turn) % 6 = mk i := by show _ = ((i : Int) + turn) % 6; rw [Int.zero_add]
      refine Sm.bindE rfl (Sm.bindE hq ?_)
      rw [hm]
      refine Sm.bind (P := fun s' => s' = (List.range (i + 1)).map fun k => Sl (nm k)) ?_ fun s' h' => Sm.some h'
      have hs : s.length < 1000000 := by rw [e]; simp; omega
      refine Sm.ite (fun c => ?_) fun c => ?_
      · have z : part pool 4 1 2 = 0 := of_decide_eq_true c
        refine Sm.bindE (slSG_take (a := sl) (by omega) c1) (Sm.bindE (idxSG_eq (by decide) (by omega) (show _ < ((26 : Nat) : Int) by omega)) (Sm.bindE (addSG_eq (by simp; omega)) (Sm.bindE (slSG_drop (a := sl) (by omega) c1) (Sm.bindE (addSG_eq (by simp; omega)) (Sm.bindE (addSG_eq (a := _) (b := tl) (by simp; omega)) (Sm.bindE (appG_eq hs) (Sm.some ?_)))))))
        rw [e, List.range_succ, List.map_append]
        congr 1
        show [_] = [Sl (nm i)]
        rw [show nm i = _ from if_pos z]
        simp
      · have z : ¬ part pool 4 1 2 = 0 := of_decide_eq_false c
        have := mk0 i
        refine Sm.bindE (slSG_take (by omega) (by omega)) (Sm.bindE (appG_eq hs) (Sm.some ?_))
        rw [e, List.range_succ, List.map_append]
        congr 1
        show [_] = [Sl (nm i)]
        rw [show nm i = _ from if_neg z, show (mk i + 1).toNat = (mk i).toNat + 1 by omega]
    · subst e
      refine ⟨by simp, ?_, fun x hx => ?_⟩
      · refine List.pairwise_map.mpr (List.nodup_range.imp_of_mem fun {a b} h1 h2 h3 e => ?_)
        have h1 := List.mem_range.mp h1
        have h2 := List.mem_range.mp h2
        exact h3 (inj a b (by omega) (by omega) (Sl_inj e))
      · obtain ⟨k, _, e⟩ := List.mem_map.mp hx
        rw [← e]; exact ok k
end K17
namespace K17
open PySem L2 DL
theorem same_seq {k : Nat} (ih : ∀ {d : D}, D.gd k d = true → m_law_same (k + 1) d d = some true) (ds : List D) (h1 : D.gds k ds = true) :
    loopM (fun (s_19 : Unit) (z_20 : Int) => (((atI ds z_20).bind fun x_22 => ((atI ds z_20).bind fun x_23 => ((m_law_same (k + 1) x_22 x_23).bind fun r_24 => (if (!r_24) = true then some (Ctl.ret false) else some (Ctl.nx ()))))) : Option (Ctl Unit Bool))) () (rngI 0 ds.length) = some (.nx ()) := by
  refine loopM_nx (R := Bool) (fun _ _ => ()) fun s x hx => ?_
  obtain ⟨i, hi, e⟩ := List.mem_map.mp hx
  have hi := List.mem_range.mp hi
  subst e
  have e1 : atI ds (0 + (i : Int)) = some ds[i] := by rw [Int.zero_add]; exact idxG_nat (List.getElem?_eq_getElem hi)
  have e2 := ih (D.gds_at h1 (List.getElem_mem hi))
  show ((atI ds (0 + (i : Int))).bind _) = _
  rw [e1]
  show ((m_law_same (k + 1) ds[i] ds[i]).bind _) = _
  rw [e2]; rfl
theorem same_int (n : Nat) (i : Int) : m_law_same (n + 1) (.int i) (.int i) = some true := by
  have := eqG_self (k := 0) (d := .int i) rfl (by omega)
  rw [m_law_same]
  simp [D.isN, D.isT, isiG, D.ty, D.isi, m_law_integer, this]
theorem same_str (n : Nat) (s : Str) (h : PyData.strOk s = true) : m_law_same (n + 1) (.str s) (.str s) = some true := by
  have := eqG_self (k := 0) (d := .str s) (by simpa [D.gd] using h) (by omega)
  rw [m_law_same]
  simp [D.isN, D.isT, isiG, D.ty, D.isi, m_law_integer, this]
theorem iG {T : String} {d : D} {b : Bool} (h1 : d.ty.isSome = true) (h2 : d.isi T = b) : isiG T d = some b := by unfold isiG; rw [if_pos h1, h2]
theorem same_lst {k : Nat} (ih : ∀ {d : D}, D.gd k d = true → m_law_same (k + 1) d d = some true) (ds : List D) (h1 : D.gds k ds = true) (h : ds.length ≤ 1000000) : m_law_same (k + 1 + 1) (.lst ds) (.lst ds) = some true := by
  have e := same_seq ih ds h1
  have n1 : (D.lst ds).isN = false := rfl
  have n2 : D.isT true (D.lst ds) = false := rfl
  have n3 : D.isT false (D.lst ds) = false := rfl
  rw [m_law_same, n1, n2, n3, if_neg Bool.false_ne_true, if_neg Bool.false_ne_true, if_neg Bool.false_ne_true, iG (b := false) rfl (by simp [D.isi])]
  rw [Option.bind_some, if_neg Bool.false_ne_true, iG (b := false) rfl (by simp [D.isi])]
  rw [Option.bind_some, if_neg Bool.false_ne_true, iG (T := "tuple") (b := false) rfl (by simp [D.isi])]
  rw [Option.bind_some, if_neg Bool.false_ne_true, Option.bind_some, if_neg Bool.false_ne_true, iG (T := "list") (b := true) rfl (by simp [D.isi])]
  rw [Option.bind_some, if_pos rfl, Option.bind_some, Option.bind_some, Bool.not_true, if_neg Bool.false_ne_true]
  have e0 : lenDG (.lst ds) = some (ds.length : Int) := rfl
  rw [e0, Option.bind_some, Option.bind_some, Option.bind_some, rng1G_eq h, Option.bind_some]
  have e1 : decide ((ds.length : Int) = (ds.length : Int)) = true := decide_eq_true rfl
  rw [e1, if_neg (by decide)]
  have e2 : idxDG (.lst ds) = atI ds := rfl
  rw [e2, e]; rfl
theorem same_tup {k : Nat} (ih : ∀ {d : D}, D.gd k d = true → m_law_same (k + 1) d d = some true) (ds : List D) (h1 : D.gds k ds = true) (h : ds.length ≤ 1000000) : m_law_same (k + 1 + 1) (.tup ds) (.tup ds) = some true := by
  have e := same_seq ih ds h1
  have n1 : (D.tup ds).isN = false := rfl
  have n2 : D.isT true (D.tup ds) = false := rfl
  have n3 : D.isT false (D.tup ds) = false := rfl
  rw [m_law_same, n1, n2, n3, if_neg Bool.false_ne_true, if_neg Bool.false_ne_true, if_neg Bool.false_ne_true, iG (b := false) rfl (by simp [D.isi])]
  rw [Option.bind_some, if_neg Bool.false_ne_true, iG (b := false) rfl (by simp [D.isi])]
  rw [Option.bind_some, if_neg Bool.false_ne_true, iG (T := "tuple") (b := true) rfl (by simp [D.isi])]
  rw [Option.bind_some, if_pos rfl, Option.bind_some, Option.bind_some, Bool.not_true, if_neg Bool.false_ne_true, iG (T := "list") (b := false) rfl (by simp [D.isi])]
  rw [Option.bind_some, if_neg Bool.false_ne_true, Option.bind_some, if_neg Bool.false_ne_true]
  have e0 : lenDG (.tup ds) = some (ds.length : Int) := rfl
  rw [e0, Option.bind_some, Option.bind_some, Option.bind_some, rng1G_eq h, Option.bind_some]
  have e1 : decide ((ds.length : Int) = (ds.length : Int)) = true := decide_eq_true rfl
  rw [e1, if_neg (by decide)]
  have e2 : idxDG (.tup ds) = atI ds := rfl
  rw [e2, e]; rfl
theorem same_self : ∀ {k : Nat} {d : D}, D.gd k d = true → m_law_same (k + 1) d d = some true := by
  intro k
  induction k with
  | zero =>
    intro d h
    cases d with
    | non => simp [m_law_same, D.isN]
    | bl b => cases b <;> simp [m_law_same, D.isN, D.isT]
    | int i => exact same_int 0 i
    | str s => exact same_str 0 s (by simpa [D.gd] using h)
    | _ => simp [D.gd] at h
  | succ k ih =>
    intro d h
    cases d with
    | non => simp [m_law_same, D.isN]
    | bl b => cases b <;> simp [m_law_same, D.isN, D.isT]
    | int i => exact same_int _ i
    | str s => exact same_str _ s (by simpa [D.gd] using h)
    | lst ds =>
      rw [D.gd, Bool.and_eq_true] at h
      exact same_lst ih ds h.2 (of_decide_eq_true h.1)
    | tup ds =>
      rw [D.gd, Bool.and_eq_true] at h
      exact same_tup ih ds h.2 (of_decide_eq_true h.1)
    | _ => simp [D.gd] at h
end K17
namespace K17
open PySem L2 DL
abbrev Crew := List (Str × Int × Int)
def One (x : Str × Int × Int) : Prop := NameOk x.1 ∧ (1 ≤ x.2.1 ∧ x.2.1 ≤ 1000) ∧ (0 ≤ x.2.2 ∧ x.2.2 ≤ 1000000000)
structure CrewOk (c : Crew) : Prop where
  len : c.length ≤ 6
  nd : (c.map (·.1)).Nodup
  one : ∀ x ∈ c, One x
theorem div12 {w : Int} (h1 : 1 ≤ w) (h2 : w ≤ 4) : 0 ≤ (12 : Int) / w ∧ (12 : Int) / w ≤ 12 := by
  have : w = 1 ∨ w = 2 ∨ w = 3 ∨ w = 4 := by omega
  rcases this with e | e | e | e <;> subst e <;> decide
theorem bidders_ok {pool : List Int} {n : Nat} (hp : pool.length = 35) (hn : n ≤ 6) : Sm (m_law_bidders pool 0 n) CrewOk := by
  unfold m_law_bidders
  refine Sm.bind (names_ok (by omega) hn) fun names ⟨n1, n2, n3⟩ => Sm.bindE rfl (Sm.bindE rfl (Sm.bindE (rng1G_eq (by omega)) (Sm.bind (Sm.foldN (fun i s => s.map (·.1) = names.take i ∧ ∀ x ∈ s, One x) ⟨rfl, fun x hx => nomatch hx⟩ fun i s hi ⟨h1, h2⟩ => ?_) fun s ⟨h1, h2⟩ => Sm.some ?_)))
  · have hq : m_law_part pool (0 + 4) 28 2 = some (part pool 4 28 2) := part_eq (by omega) (by omega) (by omega) (by omega) (by omega)
    have hlen : s.length = i := by
      have := congrArg List.length h1
      rw [List.length_map, List.length_take] at this; omega
    refine Sm.bindE rfl (Sm.bind (far_ok (n := 1) (by omega) (by omega) (by omega)) fun f1 _ => ?_)
    refine Sm.bind (chosen_ok (by omega) (by omega) (by omega) (by omega) (by omega) (by omega)) fun w ⟨w1, w2⟩ => Sm.bindE rfl ?_
    refine Sm.bind (far_ok (n := 3) (by omega) (by omega) (by omega)) fun f2 _ => ?_
    refine Sm.bind (chosen_ok (by omega) (by omega) (by omega) (by omega) (by omega) (by omega)) fun b ⟨b1, b2⟩ => Sm.bindE rfl (Sm.bindE hq ?_)
    refine Sm.bind (P := fun p : Int × Int => (1 ≤ p.1 ∧ p.1 ≤ 1000) ∧ 0 ≤ p.2 ∧ p.2 ≤ 1000000000) (Sm.ite (fun _ => Sm.bindE rfl (Sm.bindE rfl (Sm.some ?_))) fun _ => Sm.some ?_) fun p ⟨p1, p2⟩ => ?_
    · dsimp only; omega
    · dsimp only; omega
    · refine Sm.bind (P := fun q : Bool => q = true → p.1 ≤ 4) (Sm.ite (fun c => Sm.bind (part_sm (by omega) (by omega) (by omega) (by omega) (by omega)) fun _ _ => Sm.some fun _ => of_decide_eq_true c) fun _ => Sm.some fun z => nomatch z) fun q hq => ?_
      refine Sm.bind (P := fun v : Int => 0 ≤ v ∧ v ≤ 1000000000) (Sm.ite (fun c => ?_) fun _ => Sm.some p2) fun v hv => ?_
      · have h4 := hq c
        have := div12 p1.1 h4
        exact Sm.bindE (divG_eq (by omega) (by omega)) (Sm.bindE rfl (Sm.some (by omega)))
      · have hin : i < names.length := by omega
        have e : idxG names (0 + (i : Int)) = some names[i] := by rw [Int.zero_add]; exact idxG_nat (List.getElem?_eq_getElem hin)
        refine Sm.bindE e (Sm.bindE (appG_eq (by omega)) (Sm.some ⟨?_, fun x hx => ?_⟩))
        · rw [List.map_append, h1]
          show names.take i ++ [names[i]] = names.take (i + 1)
          rw [List.take_append_getElem]
        · rcases List.mem_append.mp hx with z | z
          · exact h2 x z
          · rw [List.mem_singleton.mp z]
            exact ⟨n3 _ (List.getElem_mem hin), p1, hv⟩
  · rw [← n1, List.take_length] at h1
    have hlen : s.length = n := by
      have := congrArg List.length h1
      rw [List.length_map] at this; omega
    exact ⟨by omega, by rw [h1]; exact n2, h2⟩
abbrev crD (x : Str × Int × Int) : D := .tup [.str x.1, .int x.2.1, .int x.2.2]
theorem crew_gd {c : Crew} (h : CrewOk c) : D.gd 7 (.lst (c.map crD)) = true := by
  have hl := h.len
  rw [D.gd, Bool.and_eq_true]
  refine ⟨decide_eq_true (by rw [List.length_map]; omega), D.gds_mem fun d hd => ?_⟩
  obtain ⟨x, hx, e⟩ := List.mem_map.mp hd
  subst e
  rw [D.gd, Bool.and_eq_true]
  refine ⟨decide_eq_true (by simp), D.gds_mem fun d hd => ?_⟩
  simp only [List.mem_cons, List.not_mem_nil, or_false] at hd
  rcases hd with e | e | e
  · subst e; rw [D.gd]; exact (h.one x hx).1.strOk
  · subst e; rw [D.gd]
  · subst e; rw [D.gd]
theorem strs_gd {ns : List Str} (hl : ns.length ≤ 1000000) (h : ∀ s ∈ ns, NameOk s) : D.gd 7 (.tup (ns.map D.str)) = true := by
  rw [D.gd, Bool.and_eq_true]
  refine ⟨decide_eq_true (by rw [List.length_map]; exact hl), D.gds_mem fun d hd => ?_⟩
  obtain ⟨x, hx, e⟩ := List.mem_map.mp hd
  subst e; rw [D.gd]; exact (h x hx).strOk
theorem strs_gdL {ns : List Str} (hl : ns.length ≤ 1000000) (h : ∀ s ∈ ns, NameOk s) : D.gd 7 (.lst (ns.map D.str)) = true := by
  rw [D.gd, Bool.and_eq_true]
  refine ⟨decide_eq_true (by rw [List.length_map]; exact hl), D.gds_mem fun d hd => ?_⟩
  obtain ⟨x, hx, e⟩ := List.mem_map.mp hd
  subst e; rw [D.gd]; exact (h x hx).strOk
theorem ints_gd {ns : List Int} (hl : ns.length ≤ 1000000) : D.gd 7 (.tup (ns.map D.int)) = true := by
  rw [D.gd, Bool.and_eq_true]
  refine ⟨decide_eq_true (by rw [List.length_map]; exact hl), D.gds_mem fun d hd => ?_⟩
  obtain ⟨x, hx, e⟩ := List.mem_map.mp hd
  subst e; rw [D.gd]
theorem ints_gdL {ns : List Int} (hl : ns.length ≤ 1000000) : D.gd 7 (.lst (ns.map D.int)) = true := by
  rw [D.gd, Bool.and_eq_true]
  refine ⟨decide_eq_true (by rw [List.length_map]; exact hl), D.gds_mem fun d hd => ?_⟩
  obtain ⟨x, hx, e⟩ := List.mem_map.mp hd
  subst e; rw [D.gd]
theorem sill_ok {pool : List Int} {c : Crew} (hp : 6 ≤ pool.length) (h : CrewOk c) : Sm (m_law_sill pool 1 c) fun r => 0 ≤ r ∧ r ≤ 1000000000000 := by
  unfold m_law_sill
  have hl := h.len
  refine Sm.bind (part_sm (by omega) (by omega) (by omega) (by omega) (by omega)) fun way ⟨w1, w2⟩ => Sm.bindE rfl (Sm.bind (part_sm (by omega) (by omega) (by omega) (by omega) (by omega)) fun near ⟨a1, a2⟩ => Sm.bindE rfl (Sm.ite (fun _ => Sm.some (by omega)) fun c1 => ?_))
  have c1 := of_decide_eq_false c1
  refine Sm.bind (P := fun q : Bool => q = true → way < 6 ∧ c ≠ []) (Sm.ite (fun c2 => Sm.bindE (eqG_nil (crew_gd h) (by omega)) (Sm.some fun z => ⟨of_decide_eq_true c2, fun e => by subst e; cases z⟩)) fun _ => Sm.some fun z => nomatch z) fun q hq => Sm.ite (fun z => ?_) fun _ => ?_
  · obtain ⟨z1, z2⟩ := hq z
    have hpos : 0 < c.length := List.length_pos_iff.mpr z2
    have m1 := Int.emod_nonneg near (b := (c.length : Int)) (by omega)
    have m2 := Int.emod_lt_of_pos near (b := (c.length : Int)) (by omega)
    obtain ⟨x, x1, x2⟩ := idxG_in (xs := c) m1 m2
    obtain ⟨_, ⟨o1, o2⟩, _⟩ := h.one x (List.mem_of_getElem? x1)
    obtain ⟨y, _, y2⟩ := idxG_in (xs := [(0 : Int), (0 : Int), (1 : Int), (-(1 : Int))]) (i := way - 2) (by omega) (show _ < ((4 : Nat) : Int) by omega)
    refine Sm.bindE (modG_eq (by omega)) (Sm.bindE x2 (Sm.bindE rfl (Sm.bindE (mulG_l (by omega) (by omega)) (Sm.bindE y2 (Sm.some ?_)))))
    generalize x.2.1 * x.2.2 + y = v
    constructor
    · split
      · omega
      · split <;> omega
    · split
      · omega
      · split <;> omega
  · refine Sm.ite (fun _ => Sm.some (by omega)) fun _ => Sm.bind (far_ok (n := 4) (by omega) (by omega) (by omega)) fun r _ => Sm.bindE (modG_eq (by omega)) (Sm.some ?_)
    have := Int.emod_nonneg r (b := (1000000000000 : Int) + 1) (by omega)
    have := Int.emod_lt_of_pos r (b := (1000000000000 : Int) + 1) (by omega)
    omega
end K17
namespace K17
open PySem L2 DL
abbrev ld (L : List Int) (i : Nat) : Int := L.getD i 0
def bt (L : List Int) (i j : Nat) : Bool := decide (ld L j < ld L i) || (decide (ld L i = ld L j) && decide (i < j))
theorem bt_iff {L : List Int} {i j : Nat} : bt L i j = true ↔ (ld L j < ld L i ∨ (ld L i = ld L j ∧ i < j)) := by simp [bt]
theorem bt_irr {L : List Int} {i : Nat} : bt L i i = false := by simp [bt]
theorem bt_asymm {L : List Int} {i j : Nat} (h : bt L i j = true) : bt L j i = false := by
  rw [bt_iff] at h
  cases q : bt L j i with
  | false => rfl
  | true => rw [bt_iff] at q; omega
theorem bt_total {L : List Int} {i j : Nat} (h : i ≠ j) : bt L i j = true ∨ bt L j i = true := by
  rw [bt_iff, bt_iff]; omega
theorem bt_trans {L : List Int} {i j k : Nat} (h1 : bt L i j = true) (h2 : bt L j k = true) : bt L i k = true := by
  rw [bt_iff] at *; omega
def prs (L : List Int) : List (Int × Int) := (enumL L).map fun z => (-z.2, z.1)
def rkI (L : List Int) : List Int := (srtP (prs L)).map (·.2)
def rk (L : List Int) : List Nat := (rkI L).map Int.toNat
theorem prs_snd (L : List Int) : (prs L).map (·.2) = (List.range L.length).map fun i : Nat => (i : Int) := by
  apply List.ext_getElem?
  intro i
  unfold prs
  rw [List.map_map, List.getElem?_map, enumL_get, List.getElem?_map]
  by_cases h : i < L.length
  · rw [List.getElem?_eq_getElem h, List.getElem?_range h]; rfl
  · rw [List.getElem?_eq_none (by omega), List.getElem?_eq_none (by rw [List.length_range]; omega)]; rfl
theorem prs_mem {L : List Int} {p : Int × Int} (h : p ∈ prs L) : ∃ i : Nat, i < L.length ∧ p = (-(ld L i), (i : Int)) := by
  obtain ⟨n, hn⟩ := List.mem_iff_getElem?.mp h
  unfold prs at hn
  rw [List.getElem?_map, enumL_get] at hn
  cases q : L[n]? with
  | none => rw [q] at hn; cases hn
  | some x =>
    rw [q] at hn; cases hn
    refine ⟨n, (List.getElem?_eq_some_iff.mp q).1, ?_⟩
    show (-x, (n : Int)) = _
    rw [show ld L n = x by unfold ld; rw [List.getD_eq_getElem?_getD, q]; rfl]
theorem rkI_perm (L : List Int) : (rkI L).Perm ((List.range L.length).map fun i : Nat => (i : Int)) := by
  have := (srtP_perm (prs L)).map (·.2)
  rw [prs_snd] at this
  exact this
theorem rk_perm (L : List Int) : (rk L).Perm (List.range L.length) := by
  have := (rkI_perm L).map Int.toNat
  rw [List.map_map] at this
  have e : (Int.toNat ∘ fun i : Nat => (i : Int)) = id := funext fun i => Int.toNat_natCast i
  rw [e, List.map_id] at this
  exact this
theorem rkI_eq (L : List Int) : rkI L = (rk L).map fun i : Nat => (i : Int) := by
  unfold rk
  rw [List.map_map]
  refine (List.map_id _).symm.trans (List.map_congr_left fun x hx => ?_)
  have := (rkI_perm L).mem_iff.mp hx
  obtain ⟨i, _, e⟩ := List.mem_map.mp this
  subst e
  show (i : Int) = ((i : Int).toNat : Int)
  rw [Int.toNat_natCast]
theorem rk_nd (L : List Int) : (rk L).Nodup := (rk_perm L).nodup_iff.mpr List.nodup_range
theorem rk_lt {L : List Int} {i : Nat} (h : i ∈ rk L) : i < L.length := List.mem_range.mp ((rk_perm L).mem_iff.mp h)
theorem rk_mem {L : List Int} {i : Nat} (h : i < L.length) : i ∈ rk L := (rk_perm L).mem_iff.mpr (List.mem_range.mpr h)
theorem rk_len (L : List Int) : (rk L).length = L.length := by rw [(rk_perm L).length_eq, List.length_range]
theorem rk_srt (L : List Int) : (rk L).Pairwise fun i j => bt L i j = true := by
  have nd : (srtP (prs L)).Pairwise fun a b => a.2 ≠ b.2 := by
    have := (rkI_perm L).nodup_iff.mpr (List.pairwise_map.mpr (List.nodup_range.imp fun h e => h (by omega)))
    exact List.pairwise_map.mp this
  have := (srtP_srt (prs L)).and nd
  unfold rk rkI
  rw [List.map_map]
  refine List.pairwise_map.mpr (this.imp_of_mem fun {a b} ha hb ⟨h1, h2⟩ => ?_)
  obtain ⟨i, _, e1⟩ := prs_mem ((srtP_perm _).mem_iff.mp ha)
  obtain ⟨j, _, e2⟩ := prs_mem ((srtP_perm _).mem_iff.mp hb)
  subst e1 e2
  have h1 := SrtO.lexB_no.mp h1
  simp only [Function.comp, Int.toNat_natCast] at *
  rw [bt_iff]
  omega
def cnt (L : List Int) (k : Nat) : Nat := ((List.range L.length).filter fun j => bt L j k).length
theorem filter_srt {l : List Nat} {L : List Int} (h : l.Pairwise fun i j => bt L i j = true) : ∀ (i : Nat) (hi : i < l.length), (l.filter fun j => bt L j l[i]).length = i := by
  induction l with
  | nil => intro i hi; exact absurd hi (by simp)
  | cons x l ih =>
    obtain ⟨h1, h2⟩ := List.pairwise_cons.mp h
    intro i hi
    cases i with
    | zero =>
      have e : ((x :: l).filter fun j => bt L j x) = [] := List.filter_eq_nil_iff.mpr fun j hj => by
        rcases List.mem_cons.mp hj with z | z
        · subst z; simp [bt_irr]
        · rw [bt_asymm (h1 j z)]; simp
      show ((x :: l).filter fun j => bt L j x).length = 0
      rw [e]; rfl
    | succ i =>
      have hi' : i < l.length := by simpa using hi
      show ((x :: l).filter fun j => bt L j l[i]).length = i + 1
      rw [List.filter_cons, if_pos (h1 _ (List.getElem_mem hi')), List.length_cons, ih h2 i hi']
theorem cnt_rk {L : List Int} {i : Nat} (hi : i < (rk L).length) : cnt L (rk L)[i] = i := by
  unfold cnt
  rw [← ((rk_perm L).filter _).length_eq]
  exact filter_srt (rk_srt L) i hi
theorem filter_cnt (L : List Int) (r : Nat) (P : Nat → Bool) : ((List.range L.length).filter fun k => decide (cnt L k = r) && P k) = ((rk L)[r]?).toList.filter P := by
  have h1 : ((rk L).filter fun k => decide (cnt L k = r)) = ((rk L)[r]?).toList := by
    have gen : ∀ (l : List Nat) (s : Nat), (∀ i (hi : i < l.length), cnt L l[i] = s + i) → (l.filter fun k => decide (cnt L k = s + r)) = (l[r]?).toList := by
      intro l
      induction l generalizing r with
      | nil => intro s _; simp
      | cons x l ih =>
        intro s h
        have h0 : cnt L x = s := h 0 (by simp)
        cases r with
        | zero =>
          rw [List.filter_cons_of_pos (by simpa using h0)]
          have : (l.filter fun k => decide (cnt L k = s + 0)) = [] := List.filter_eq_nil_iff.mpr fun k hk => by
            obtain ⟨i, hi, e⟩ := List.mem_iff_getElem.mp hk
            have := h (i + 1) (by simpa using hi)
            simp only [List.getElem_cons_succ] at this
            rw [e] at this
            simp; omega
          rw [this]; rfl
        | succ r =>
          rw [List.filter_cons_of_neg (by simp; omega)]
          have := ih r (s + 1) fun i hi => by
            have := h (i + 1) (by simpa using hi)
            simp only [List.getElem_cons_succ] at this
            omega
          rw [show s + (r + 1) = s + 1 + r by omega, this]; rfl
    have := gen (rk L) 0 fun i hi => by rw [cnt_rk hi]; omega
    simpa using this
  have h2 : ((List.range L.length).filter fun k => decide (cnt L k = r) && P k).Perm (((rk L)[r]?).toList.filter P) := by
    rw [← h1, List.filter_filter]
    refine ((rk_perm L).symm.filter _).trans ?_
    rw [show (fun a => P a && decide (cnt L a = r)) = fun k => decide (cnt L k = r) && P k from funext fun a => Bool.and_comm _ _]
  cases e : (((rk L)[r]?).toList.filter P) with
  | nil => rw [e] at h2; exact h2.eq_nil
  | cons x l =>
    have hl : ((((rk L)[r]?).toList.filter P)).length ≤ 1 := Nat.le_trans (List.length_filter_le _ _) (by cases (rk L)[r]? <;> simp)
    rw [e] at hl h2
    have : l = [] := by
      cases l with
      | nil => rfl
      | cons y l => simp at hl
    subst this
    exact h2.eq_singleton
theorem take_filter {l : List Nat} {P : Nat → Bool} (h : l.Pairwise fun i j => P j = true → P i = true) : ∀ n, (l.filter P).take n = (l.take n).filter P := by
  induction l with
  | nil => intro n; simp
  | cons x l ih =>
    obtain ⟨h1, h2⟩ := List.pairwise_cons.mp h
    intro n
    cases n with
    | zero => simp
    | succ n =>
      cases e : P x with
      | true => rw [List.filter_cons_of_pos e, List.take_succ_cons, List.take_succ_cons, List.filter_cons_of_pos e, ih h2]
      | false =>
        have no : ∀ m : List Nat, (∀ y ∈ m, y ∈ l) → m.filter P = [] := fun m hm => List.filter_eq_nil_iff.mpr fun y hy q => by rw [h1 y (hm y hy) q] at e; cases e
        rw [List.filter_cons_of_neg (by rw [e]; simp), List.take_succ_cons, List.filter_cons_of_neg (by rw [e]; simp), no l fun _ h => h, no _ fun y hy => List.mem_of_mem_take hy]; simp
def tops (L : List Int) (n : Nat) (f : Int) : List Nat := ((rk L).take n).filter fun k => decide (f ≤ ld L k)
theorem top_eq (L : List Int) (n : Nat) (f : Int) : ((rk L).filter fun k => decide (f ≤ ld L k)).take n = tops L n f :=
  take_filter ((rk_srt L).imp fun {i j} h q => by
    have h := bt_iff.mp h
    have q := of_decide_eq_true q
    exact decide_eq_true (by omega)) n
theorem top_ranks (L : List Int) (f : Int) : ∀ n, ((List.range n).flatMap fun r => (List.range L.length).filter fun k => decide (cnt L k = r) && decide (f ≤ ld L k)) = tops L n f := by
  intro n
  unfold tops
  induction n with
  | zero => simp
  | succ n ih =>
    rw [List.range_succ, List.flatMap_append, ih, List.take_succ, List.filter_append]
    congr 1
    rw [List.flatMap_cons, List.flatMap_nil, List.append_nil]
    exact filter_cnt L n fun k => decide (f ≤ ld L k)
end K17
namespace K17
open PySem L2 DL
structure Wt (c : Crew) : Prop where
  len : c.length ≤ 6
  w : ∀ x ∈ c, 1 ≤ x.2.1 ∧ x.2.1 ≤ 1000
theorem CrewOk.wt {c : Crew} (h : CrewOk c) : Wt c := ⟨h.len, fun x hx => (h.one x hx).2.1⟩
def loads (c : Crew) : List Int := c.map fun x => x.2.1 * x.2.2
theorem loads_len (c : Crew) : (loads c).length = c.length := List.length_map ..
def nmOf (c : Crew) (i : Nat) : Str := (c.getD i (Sl [], 0, 0)).1
theorem getD_of {α : Type} {l : List α} {i : Nat} {x d : α} (h : l[i]? = some x) : l.getD i d = x := by rw [List.getD_eq_getElem?_getD, h]; rfl
theorem strengths_eq {c : Crew} (h : Wt c) : m_strengths_of c = some (loads c) := by
  unfold m_strengths_of
  have := h.len
  rw [lcG_eq (by omega), Option.bind_some, lcM_eq (fun _ => true) (fun z : Str × Int × Int => z.2.1 * z.2.2) (fun x hx => ⟨rfl, fun _ => by
    have := h.w x hx
    rw [mulG_l (by omega) (by omega)]; rfl⟩), Option.bind_some, List.filter_eq_self.mpr (fun _ _ => rfl)]
  rfl
theorem ranking_eq {c : Crew} (h : Wt c) : m_ranking c = some (rkI (loads c)) := by
  unfold m_ranking
  have := h.len
  have hl : (enumL (loads c)).length ≤ 1000000 := by rw [enumL_len, loads_len]; omega
  rw [strengths_eq h, Option.bind_some, lcG_eq hl, Option.bind_some]
  show ((srtG (prs (loads c))).bind _) = _
  unfold srtG
  rw [Option.bind_some, lcG_eq (by rw [(srtP_perm _).length_eq]; unfold prs; rw [List.length_map]; exact hl), Option.bind_some]
  rfl
theorem is_name_eq {s : Str} (h : NameOk s) : m_is_name s = some true := by
  obtain ⟨l, e, h1, h2, h3⟩ := h
  subst e
  unfold m_is_name
  rw [lenSG_eq (by omega), Option.bind_some, if_neg (by simp; omega), lcG_eq (by rw [strL_eq, List.length_map]; omega), Option.bind_some, abc_eq, strL_eq, List.map_map]
  congr 1
  rw [List.all_map]
  exact List.all_eq_true.mpr fun c hc => abc_in c (h3 c hc)
theorem names_of_eq {c : Crew} (h : c.length ≤ 1000000) : m_names_of c = some (c.map (·.1)) := by
  unfold m_names_of
  rw [lcG_eq h]; rfl
theorem check_eq {c : Crew} (h : CrewOk c) : m_check_bidders c = some () := by
  unfold m_check_bidders
  have hl := h.len
  rw [if_neg (by simp; omega), foldlM_unit, Option.bind_some]
  intro z hz
  obtain ⟨i, h1, h2⟩ := enumL_mem hz
  obtain ⟨o1, ⟨o2, o3⟩, o4, o5⟩ := h.one z.2 (List.mem_of_getElem? h1)
  rw [is_name_eq o1, Option.bind_some, if_neg (by decide), names_of_eq (by unfold cutX; rw [List.length_take, List.length_drop]; omega), Option.bind_some, h2, cutX_take (by omega), Int.toNat_natCast]
  have hn : ¬ z.2.1 ∈ (c.take i).map (·.1) := fun hm => by
    have hi := (List.getElem?_eq_some_iff.mp h1).1
    have nd := h.nd
    have e1 : c.map (·.1) = (c.take i).map (·.1) ++ (c.drop i).map (·.1) := by rw [← List.map_append, List.take_append_drop]
    rw [e1] at nd
    have e2 : z.2.1 ∈ (c.drop i).map (·.1) := by
      rw [List.drop_eq_getElem_cons hi]
      have : c[i] = z.2 := (List.getElem?_eq_some_iff.mp h1).2
      rw [this]; simp
    exact (List.nodup_append.mp nd).2.2 _ hm _ e2 rfl
  rw [if_neg (by simpa using hn), if_neg (by simp; omega), if_neg (by simp; omega)]
def climb (c : Crew) (n : Nat) (f : Int) : List Str := (tops (loads c) n f).map (nmOf c)
theorem tops_lt {L : List Int} {n : Nat} {f : Int} {i : Nat} (h : i ∈ tops L n f) : i < L.length := rk_lt (List.mem_of_mem_take (List.mem_filter.mp h).1)
theorem names_eq {c : Crew} (hl : c.length ≤ 6) {ps : List Nat} (hp : ∀ i ∈ ps, i < c.length) : lcM (fun z : Int => some true) (fun z : Int => ((idxG c z).bind fun x => some x.1)) (ps.map fun i : Nat => (i : Int)) = some (ps.map (nmOf c)) := by
  rw [lcM_eq (fun _ => true) (fun z : Int => nmOf c z.toNat) (fun x hx => ⟨rfl, fun _ => by
    obtain ⟨i, hi, e⟩ := List.mem_map.mp hx
    subst e
    have hi := hp i hi
    rw [idxG_nat (List.getElem?_eq_getElem hi), Option.bind_some, Int.toNat_natCast]
    unfold nmOf
    rw [getD_of (List.getElem?_eq_getElem hi)]⟩), List.filter_eq_self.mpr (fun _ _ => rfl), List.map_map]
  congr 1
theorem ladder_eq {c : Crew} (h : CrewOk c) {n : Nat} {f : Int} (n1 : 1 ≤ n) (n2 : n ≤ 3) (f1 : 0 ≤ f) (f2 : f ≤ 1000000000000) : m_ladder c n f = some (climb c n f) := by
  have hl := h.len
  have hL := loads_len c
  unfold m_ladder m_check_hours m_check_floor
  rw [check_eq h, Option.bind_some, if_neg (by simp; omega), Option.bind_some, if_neg (by simp; omega), Option.bind_some, strengths_eq h.wt, Option.bind_some, Option.bind_some, ranking_eq h.wt, Option.bind_some,
    lcG_eq (by rw [rkI_eq, List.length_map, rk_len]; omega), Option.bind_some]
  rw [lcM_eq (fun z : Int => decide (f ≤ ld (loads c) z.toNat)) (fun z : Int => z) (fun x hx => ⟨by
    rw [rkI_eq] at hx
    obtain ⟨i, hi, e⟩ := List.mem_map.mp hx
    subst e
    have hi := rk_lt hi
    rw [idxG_nat (List.getElem?_eq_getElem hi), Option.bind_some, Int.toNat_natCast]
    unfold ld
    rw [getD_of (List.getElem?_eq_getElem hi)], fun _ => rfl⟩), Option.bind_some, Option.bind_some, List.map_id', cutX_take (by omega), Int.toNat_natCast]
  have e : ((rkI (loads c)).filter fun z : Int => decide (f ≤ ld (loads c) z.toNat)).take n = (tops (loads c) n f).map fun i : Nat => (i : Int) := by
    rw [rkI_eq, List.filter_map, ← List.map_take, ← top_eq]
    congr 1
  rw [e, lcG_eq (by
    rw [List.length_map]
    have := List.length_filter_le (fun k => decide (f ≤ ld (loads c) k)) ((rk (loads c)).take n)
    have h2 : ((rk (loads c)).take n).length ≤ n := by rw [List.length_take]; omega
    show (tops (loads c) n f).length ≤ 1000000
    unfold tops; omega), Option.bind_some, names_eq hl fun i hi => by rw [← hL]; exact tops_lt hi]
  rfl
theorem ladder2_eq : m_ladder_2 = m_ladder := rfl
theorem law_ladder_eq {c : Crew} (h : Wt c) {n : Nat} {f : Int} (n2 : n ≤ 3) : m_law_ladder c n f = some (climb c n f) := by
  have hl := h.len
  have hL := loads_len c
  have : Sm (m_law_ladder c n f) fun r => r = climb c n f := by
    unfold m_law_ladder
    have e1 := strengths_eq h
    unfold m_strengths_of at e1
    refine Sm.bindE (lcG_eq (by omega)) ?_
    rw [lcG_eq (by omega), Option.bind_some] at e1
    obtain ⟨zs, e1, e2⟩ := bindO e1
    cases e2
    refine Sm.bindE e1 (Sm.bindE rfl (Sm.bindE rfl (Sm.bindE (rng1G_eq (by omega)) (Sm.bind (Sm.foldN (fun r s => s = (((List.range r).flatMap fun r => (List.range c.length).filter fun k => decide (cnt (loads c) k = r) && decide (f ≤ ld (loads c) k)).map (nmOf c))) rfl fun r s hr hs => ?_) fun s hs => Sm.some ?_))))
    · refine Sm.bindE (rng1G_eq (by omega)) (Sm.bind (Sm.foldN (fun k t => t = s ++ (((List.range k).filter fun k => decide (cnt (loads c) k = r) && decide (f ≤ ld (loads c) k)).map (nmOf c))) (by simp) fun k t hk ht => ?_) fun t ht => Sm.some ?_)
      · have hk : k < c.length := hk
        have hkL : k < (loads c).length := by omega
        have idx : ∀ j, j < (loads c).length → idxG (loads c) (0 + (j : Int)) = some (ld (loads c) j) := fun j hj => by
          rw [Int.zero_add, idxG_nat (List.getElem?_eq_getElem hj)]
          unfold ld; rw [getD_of (List.getElem?_eq_getElem hj)]
        refine Sm.bindE (rng1G_eq (by omega)) (Sm.bindE (lcG_eq (by rw [rngI_length]; omega)) (Sm.bindE (lcM_eq (fun z : Int => bt (loads c) z.toNat k) (fun z : Int => z) fun x hx => ⟨?_, fun _ => rfl⟩) (Sm.bindE rfl ?_)))
        · obtain ⟨j, hj, e⟩ := List.mem_map.mp hx
          subst e
          have hj := List.mem_range.mp hj
          rw [idx j (by omega), Option.bind_some, idx k hkL, Option.bind_some, Option.bind_some, Option.bind_some]
          unfold bt
          rw [show (0 + (j : Int)).toNat = j by omega]
          have e3 : decide ((0 : Int) + (j : Int) < 0 + (k : Int)) = decide (j < k) := by
            by_cases q : j < k
            · rw [decide_eq_true q]; exact decide_eq_true (by omega)
            · rw [decide_eq_false q]; exact decide_eq_false (by omega)
          rw [e3]
          cases decide (ld (loads c) k < ld (loads c) j) <;> rfl
        · have ec : (((rngI 0 c.length).filter fun z : Int => bt (loads c) z.toNat k).map fun z : Int => z).length = cnt (loads c) k := by
            rw [List.length_map]
            unfold cnt rngI
            rw [List.filter_map, List.length_map, hL]
            congr 1
            refine List.filter_congr fun j _ => ?_
            show bt (loads c) (0 + (j : Int)).toNat k = _
            rw [show (0 + (j : Int)).toNat = j by omega]
          rw [ec, idx k hkL]
          refine Sm.bind (P := fun q : Bool => q = (decide (cnt (loads c) k = r) && decide (f ≤ ld (loads c) k))) ?_ fun q hq => Sm.bind (P := fun t' => t' = s ++ (((List.range (k + 1)).filter fun k => decide (cnt (loads c) k = r) && decide (f ≤ ld (loads c) k)).map (nmOf c))) ?_ fun t' h' => Sm.some h'
          · refine Sm.ite (fun z => ?_) fun z => Sm.some ?_
            · have z := of_decide_eq_true z
              exact Sm.bindE rfl (Sm.some (by rw [show cnt (loads c) k = r by omega, decide_eq_true rfl]; rfl))
            · have z := of_decide_eq_false z
              rw [show decide (cnt (loads c) k = r) = false from decide_eq_false (by omega)]; rfl
          · rw [List.range_succ, List.filter_append, List.map_append]
            have ex : idxG c (0 + (k : Int)) = some c[k] := by rw [Int.zero_add, idxG_nat (List.getElem?_eq_getElem hk)]
            have en : nmOf c k = c[k].1 := by unfold nmOf; rw [getD_of (List.getElem?_eq_getElem hk)]
            refine Sm.ite (fun z => ?_) fun z => ?_
            · rw [z] at hq
              have tl : t.length < 1000000 := by
                rw [ht, List.length_append, List.length_map]
                have a1 := List.length_filter_le (fun k => decide (cnt (loads c) k = r) && decide (f ≤ ld (loads c) k)) (List.range k)
                rw [List.length_range] at a1
                have a2 : s.length ≤ 3 * 6 := by
                  rw [hs, List.length_map]
                  have gen : ∀ m, ((List.range m).flatMap fun r => (List.range c.length).filter fun k => decide (cnt (loads c) k = r) && decide (f ≤ ld (loads c) k)).length ≤ m * 6 := fun m => by
                    induction m with
                    | zero => simp
                    | succ m ih =>
                      rw [List.range_succ, List.flatMap_append, List.length_append, List.flatMap_cons, List.flatMap_nil, List.append_nil]
                      have b1 := List.length_filter_le (fun k => decide (cnt (loads c) k = m) && decide (f ≤ ld (loads c) k)) (List.range c.length)
                      rw [List.length_range] at b1
                      omega
                  have := gen r
                  omega
                omega
              refine Sm.bindE ex (Sm.bindE (appG_eq tl) (Sm.some ?_))
              rw [ht, List.append_assoc]
              congr 2
              rw [List.filter_cons_of_pos (by rw [← hq]), List.filter_nil, List.map_cons, List.map_nil, en]
            · rw [z] at hq
              refine Sm.some ?_
              rw [ht, List.filter_cons_of_neg (by rw [← hq]; simp), List.filter_nil, List.map_nil, List.append_nil]
      · rw [ht, hs, List.range_succ, List.flatMap_append, List.map_append, List.flatMap_cons, List.flatMap_nil, List.append_nil]
    · rw [hs]
      unfold climb
      rw [← top_ranks, hL]
  obtain ⟨r, e1, e2⟩ := this
  rw [e1, e2]
end K17
namespace DL
open PySem L2
section
variable {α β S R : Type}
theorem foldlM_app {step : List β → α → Option (List β)} (f : α → β) : ∀ {xs : List α} {s0 : List β}, s0.length + xs.length ≤ 1000000 → (∀ s x, x ∈ xs → s.length < 1000000 → step s x = some (s ++ [f x])) → xs.foldlM step s0 = some (s0 ++ xs.map f)
  | [], s0, _, _ => by rw [List.map_nil, List.append_nil]; rfl
  | x :: xs, s0, hl, h => by
    rw [List.length_cons] at hl
    rw [List.foldlM_cons, h s0 x (List.mem_cons_self ..) (by omega)]
    show xs.foldlM step (s0 ++ [f x]) = _
    rw [foldlM_app f (by rw [List.length_append, List.length_singleton]; omega) fun s y hy => h s y (List.mem_cons_of_mem _ hy)]
    simp
theorem foldlM_pure {step : S → α → Option S} (g : S → α → S) : ∀ {xs : List α} {s0 : S}, (∀ s x, x ∈ xs → step s x = some (g s x)) → xs.foldlM step s0 = some (xs.foldl g s0)
  | [], s0, _ => rfl
  | x :: xs, s0, h => by
    rw [List.foldlM_cons, h s0 x (List.mem_cons_self ..)]
    exact foldlM_pure g fun s y hy => h s y (List.mem_cons_of_mem _ hy)
theorem foldlM_pureI {step : S → α → Option S} (g : S → α → S) (I : S → Prop) : ∀ {xs : List α} {s0 : S}, I s0 → (∀ s x, x ∈ xs → I s → step s x = some (g s x) ∧ I (g s x)) → xs.foldlM step s0 = some (xs.foldl g s0) ∧ I (xs.foldl g s0)
  | [], s0, i, _ => ⟨rfl, i⟩
  | x :: xs, s0, i, h => by
    obtain ⟨h1, h2⟩ := h s0 x (List.mem_cons_self ..) i
    rw [List.foldlM_cons, h1]
    exact foldlM_pureI g I h2 fun s y hy => h s y (List.mem_cons_of_mem _ hy)
theorem Sm.loopF {f : S → α → Option (Ctl S R)} (I : List α → S → Prop) : ∀ {xs pre : List α} {s0 : S}, I pre s0 → (∀ p x q s, pre ++ xs = p ++ x :: q → I p s → Sm (f s x) fun c => ∃ s', c = .nx s' ∧ I (p ++ [x]) s') → Sm (loopM f s0 xs) fun c => ∃ s', c = .nx s' ∧ I (pre ++ xs) s'
  | [], pre, s0, h0, _ => ⟨_, rfl, s0, rfl, by rw [List.append_nil]; exact h0⟩
  | x :: xs, pre, s0, h0, hs => by
    obtain ⟨c, e, s', rfl, hI⟩ := hs pre x xs s0 rfl h0
    unfold loopM
    rw [e]
    have := Sm.loopF (f := f) I (xs := xs) (pre := pre ++ [x]) hI fun p y q s e hp => hs p y q s (by rw [← e]; simp) hp
    rw [List.append_assoc] at this
    exact this
theorem Sm.loop {f : S → α → Option (Ctl S R)} (I : List α → S → Prop) {xs : List α} {s0 : S} (h0 : I [] s0) (hs : ∀ p x q s, xs = p ++ x :: q → I p s → Sm (f s x) fun c => ∃ s', c = .nx s' ∧ I (p ++ [x]) s') : Sm (loopM f s0 xs) fun c => ∃ s', c = .nx s' ∧ I xs s' := by
  have := Sm.loopF (f := f) (R := R) I (xs := xs) (pre := []) h0 fun p x q s e => hs p x q s (by rw [← e]; rfl)
  exact this
theorem loopM_unit {f : Unit → α → Option (Ctl Unit R)} {xs : List α} (h : ∀ x ∈ xs, f () x = some (.nx ())) : loopM f () xs = some (.nx ()) := by
  induction xs with
  | nil => rfl
  | cons x xs ih =>
    unfold loopM
    rw [h x (List.mem_cons_self ..)]
    exact ih fun y hy => h y (List.mem_cons_of_mem _ hy)
theorem loopM_find {f : Unit → α → Option (Ctl Unit R)} (p : α → Bool) (g : α → R) : ∀ {xs : List α}, (∀ x ∈ xs, f () x = some (if p x = true then .ret (g x) else .nx ())) → loopM f () xs = some (match xs.find? p with
    | some x => .ret (g x)
    | none => .nx ())
  | [], _ => rfl
  | x :: xs, h => by
    unfold loopM
    rw [h x (List.mem_cons_self ..), List.find?_cons]
    cases q : p x with
    | true => rfl
    | false => exact loopM_find p g fun y hy => h y (List.mem_cons_of_mem _ hy)
theorem rng2G_eq {a b : Int} (h1 : -1000000000 ≤ a) (h2 : a ≤ 1000000000) (h3 : -1000000000 ≤ b) (h4 : b ≤ 1000000000) : rng2G a b = some (rngI a (b - a).toNat) := by
  unfold rng2G
  rw [if_pos (by simp only [Bool.and_eq_true, decide_eq_true_eq]; omega)]
theorem rngI_mem {lo : Int} {n : Nat} {x : Int} (h : x ∈ rngI lo n) : lo ≤ x ∧ x < lo + n := by
  unfold rngI at h
  obtain ⟨i, h1, rfl⟩ := List.mem_map.mp h
  have := List.mem_range.mp h1
  omega
theorem popG_in {xs : List α} {i : Int} (h0 : 0 ≤ i) (h1 : i < xs.length) (hz : xs.length ≤ 1000000) : ∃ x, xs[i.toNat]? = some x ∧ popG xs i = some (x, xs.eraseIdx i.toNat) := by
  have hl : i.toNat < xs.length := by omega
  have e := List.getElem?_eq_getElem hl
  refine ⟨_, e, ?_⟩
  have es : seqIndex? i xs.length = some i.toNat := by
    unfold seqIndex?
    simp only [show ¬ i < 0 by omega, if_false, show (0 ≤ i ∧ i < xs.length) from ⟨h0, h1⟩]
    first | rfl | simp [h0, h1]
  unfold popG
  rw [if_pos (by simp only [Bool.and_eq_true, decide_eq_true_eq]; omega), es]
  simp only [e]
end
section
variable {κ α : Type} [DecidableEq κ]
theorem fndG_at {xs : List κ} {i : Nat} {x : κ} (h : xs.Nodup) (e : xs[i]? = some x) : fndG xs x = some (i : Int) := by
  obtain ⟨hl, hx⟩ := List.getElem?_eq_some_iff.mp e
  unfold fndG
  have : xs.findIdx? (fun y => decide (y = x)) = some i := by
    rw [List.findIdx?_eq_some_iff_getElem]
    refine ⟨hl, by simp [hx], fun j hj => ?_⟩
    have hne : xs[j] ≠ x := fun z => (List.pairwise_iff_getElem.mp h) j i (by omega) hl hj (by rw [z, hx])
    simp [hne]
  rw [this]; rfl
theorem dPut_new {kvs : List (κ × α)} {k : κ} {x : α} (h : k ∉ kvs.map (·.1)) : dPut kvs k x = kvs ++ [(k, x)] := by
  unfold dPut
  rw [if_neg]
  intro a
  obtain ⟨p, h1, h2⟩ := List.any_eq_true.mp a
  exact h (List.mem_map.mpr ⟨p, h1, of_decide_eq_true h2⟩)
theorem dMerge_new : ∀ {more kvs : List (κ × α)}, (more.map (·.1)).Nodup → (∀ k ∈ more.map (·.1), k ∉ kvs.map (·.1)) → dMerge kvs more = kvs ++ more
  | [], kvs, _, _ => (List.append_nil _).symm
  | p :: more, kvs, hn, hd => by
    rw [List.map_cons, List.nodup_cons] at hn
    show dMerge (dPut kvs p.1 p.2) more = _
    rw [dPut_new (hd p.1 (List.mem_cons_self ..)), dMerge_new hn.2]
    · simp
    · intro k hk hk2
      rw [List.map_append, List.mem_append] at hk2
      rcases hk2 with z | z
      · exact hd k (List.mem_cons_of_mem _ hk) z
      · rw [List.mem_singleton.mp z] at hk; exact hn.1 hk
theorem zip_keys : ∀ {ks : List κ} {xs : List α}, ((ks.zip xs).map (·.1)).Sublist ks
  | [], _ => by simp
  | _ :: _, [] => by simp
  | k :: ks, x :: xs => by simpa using zip_keys (ks := ks) (xs := xs)
theorem dZip_nodup {ks : List κ} {xs : List α} (h : ks.Nodup) : dZip ks xs = ks.zip xs := by
  unfold dZip
  rw [dMerge_new (zip_keys.nodup h) (fun _ _ => by simp)]
  rfl
theorem dGet_at {kvs : List (κ × α)} {k : κ} {x : α} : (kvs.map (·.1)).Nodup → (k, x) ∈ kvs → dGet kvs k = some x := by
  induction kvs with
  | nil => intro _ h; cases h
  | cons p kvs ih =>
    intro hn h
    rw [List.map_cons, List.nodup_cons] at hn
    unfold dGet
    rw [List.find?_cons]
    rcases List.mem_cons.mp h with z | z
    · rw [← z]; simp
    · have hne : ¬ p.1 = k := fun e => hn.1 (e ▸ List.mem_map.mpr ⟨_, z, rfl⟩)
      rw [decide_eq_false hne]
      exact ih hn.2 z
theorem dGet_zip {ks : List κ} {xs : List α} {k : κ} {x : α} {i : Nat} (h : ks.Nodup) (e1 : ks[i]? = some k) (e2 : xs[i]? = some x) : dGet (dZip ks xs) k = some x := by
  rw [dZip_nodup h]
  refine dGet_at (zip_keys.nodup h) (List.mem_of_getElem? (i := i) ?_)
  rw [List.getElem?_zip_eq_some]
  exact ⟨e1, e2⟩
end
end DL
namespace K17
open PySem L2 DL
def gm (f x : Int) : Int := if x > f then x else f
theorem gm_ge (f x : Int) : f ≤ gm f x ∧ x ≤ gm f x := by unfold gm; split <;> omega
theorem gm_mono {f x y : Int} (h : x ≤ y) : gm f x ≤ gm f y := by unfold gm; split <;> split <;> omega
def G (L : List Int) (f : Int) (j : Nat) : Int := match (rk L)[j]? with
  | some p => gm f (ld L p)
  | none => f
theorem G_ge (L : List Int) (f : Int) (j : Nat) : f ≤ G L f j := by
  unfold G
  cases (rk L)[j]? with
  | none => exact Int.le_refl _
  | some p => exact (gm_ge f _).1
theorem G_anti (L : List Int) (f : Int) {i j : Nat} (h : i ≤ j) : G L f j ≤ G L f i := by
  by_cases e : i = j
  · subst e; exact Int.le_refl _
  · cases q : (rk L)[j]? with
    | none => have : G L f j = f := by unfold G; rw [q]
              rw [this]; exact G_ge L f i
    | some p =>
      obtain ⟨hj, ej⟩ := List.getElem?_eq_some_iff.mp q
      have hi : i < (rk L).length := by omega
      have := List.pairwise_iff_getElem.mp (rk_srt L) i j hi hj (by omega)
      rw [bt_iff] at this
      have e1 : G L f j = gm f (ld L (rk L)[j]) := by unfold G; rw [q, ej]
      have e2 : G L f i = gm f (ld L (rk L)[i]) := by unfold G; rw [List.getElem?_eq_getElem hi]
      rw [e1, e2]
      exact gm_mono (by omega)
theorem filt_pre {α : Type} {P : α → Bool} : ∀ {l : List α}, l.Pairwise (fun i j => P j = true → P i = true) → l.filter P = l.take (l.filter P).length ∧ ∀ j x, l[j]? = some x → (l.filter P).length ≤ j → P x = false
  | [], _ => ⟨rfl, fun j x e => by simp at e⟩
  | x :: l, h => by
    obtain ⟨h1, h2⟩ := List.pairwise_cons.mp h
    obtain ⟨i1, i2⟩ := filt_pre h2
    cases q : P x with
    | true =>
      rw [List.filter_cons_of_pos q, List.length_cons]
      refine ⟨by rw [List.take_succ_cons, ← i1], fun j y e hj => ?_⟩
      cases j with
      | zero => omega
      | succ j => exact i2 j y (by simpa using e) (by omega)
    | false =>
      have : l.filter P = [] := List.filter_eq_nil_iff.mpr fun y hy hp => by rw [h1 y hy hp] at q; cases q
      rw [List.filter_cons_of_neg (by rw [q]; simp), this]
      refine ⟨rfl, fun j y e _ => ?_⟩
      cases j with
      | zero => simp at e; rw [← e]; exact q
      | succ j =>
        have hy : y ∈ l := List.mem_of_getElem? (by simpa using e)
        cases z : P y with
        | false => rfl
        | true => rw [h1 y hy z] at q; cases q
theorem tops_pre (L : List Int) (n : Nat) (f : Int) : ∃ m, (tops L n f).length = m ∧ m ≤ n ∧ m ≤ (rk L).length ∧ tops L n f = (rk L).take m ∧ (∀ j, j < m → ∃ p, (rk L)[j]? = some p ∧ f ≤ ld L p ∧ G L f j = ld L p) ∧ (∀ j, m ≤ j → m < n → G L f j = f) := by
  have pw : ((rk L).take n).Pairwise fun i j => decide (f ≤ ld L j) = true → decide (f ≤ ld L i) = true := (List.Pairwise.sublist (List.take_sublist ..) (rk_srt L)).imp fun {i j} h q => by
    have h := bt_iff.mp h
    have q := of_decide_eq_true q
    exact decide_eq_true (by omega)
  obtain ⟨h1, h2⟩ := filt_pre pw
  have hl : (tops L n f).length ≤ ((rk L).take n).length := List.length_filter_le ..
  rw [List.length_take] at hl
  refine ⟨_, rfl, by omega, by omega, ?_, fun j hj => ?_, fun j hj hn => ?_⟩
  · show tops L n f = _
    conv => lhs; unfold tops; rw [h1]
    rw [List.take_take]
    congr 1
    show min (tops L n f).length n = _
    omega
  · have hr : j < (rk L).length := by omega
    refine ⟨_, List.getElem?_eq_getElem hr, ?_⟩
    have hm : (rk L)[j] ∈ tops L n f := by
      have e : tops L n f = ((rk L).take n).take (tops L n f).length := h1
      rw [e, List.take_take]
      refine List.mem_of_getElem? (i := j) ?_
      rw [List.getElem?_take_of_lt (by omega), List.getElem?_eq_getElem hr]
    have hf := of_decide_eq_true (List.mem_filter.mp hm).2
    refine ⟨hf, ?_⟩
    unfold G; rw [List.getElem?_eq_getElem hr]
    unfold gm; simp only; split <;> omega
  · have base : G L f (tops L n f).length = f := by
      unfold G
      cases q : (rk L)[(tops L n f).length]? with
      | none => rfl
      | some p =>
        have := h2 (tops L n f).length p (by rw [List.getElem?_take_of_lt hn]; exact q) (Nat.le_refl _)
        have := of_decide_eq_false this
        unfold gm; simp only; rw [if_neg (by omega)]
    have a := G_anti L f hj
    have b := G_ge L f j
    omega
theorem rank_of {L : List Int} {p : Nat} (h : p < L.length) : ∃ i : Nat, (rk L)[i]? = some p := by
  obtain ⟨i, hi, e⟩ := List.getElem_of_mem (rk_mem h)
  exact ⟨i, by rw [List.getElem?_eq_getElem hi, e]⟩
theorem G_rank {L : List Int} {f : Int} {i p : Nat} (h : (rk L)[i]? = some p) : G L f i = gm f (ld L p) := by unfold G; rw [h]
def sumG (L : List Int) (f : Int) : Nat → Int
  | 0 => 0
  | i + 1 => sumG L f i + G L f i
def dotG (L : List Int) (f : Int) (R : List Int) : Int := ((List.range R.length).map fun j => R.getD j 0 * G L f j).sum
theorem dotG_snoc (L : List Int) (f : Int) (R : List Int) (r : Int) : dotG L f (R ++ [r]) = dotG L f R + r * G L f R.length := by
  unfold dotG
  rw [List.length_append, List.length_singleton, List.range_succ, List.map_append, List.sum_append_int]
  congr 1
  · congr 1
    refine List.map_congr_left fun j hj => ?_
    have := List.mem_range.mp hj
    rw [List.getD_eq_getElem?_getD, List.getD_eq_getElem?_getD, List.getElem?_append_left this]
  · simp
theorem perm_sum {xs ys : List Int} (h : xs.Perm ys) : xs.sum = ys.sum := by
  induction h with
  | nil => rfl
  | cons x _ ih => simp [ih]
  | swap x y l => simp; omega
  | trans _ _ a b => rw [a, b]
theorem top_sum {g : Nat → Int} : ∀ {l U : List Nat}, l.Pairwise (fun a b => g b ≤ g a) → U.Nodup → (∀ u ∈ U, u ∈ l) → (U.map g).sum ≤ ((l.take U.length).map g).sum
  | [], U, _, _, h => by
    have : U = [] := List.eq_nil_iff_forall_not_mem.mpr fun u hu => by have := h u hu; simp at this
    subst this; simp
  | x :: l, U, hp, hn, h => by
    obtain ⟨p1, p2⟩ := List.pairwise_cons.mp hp
    by_cases hx : x ∈ U
    · have pe := List.perm_cons_erase hx
      have e1 : (U.map g).sum = g x + ((U.erase x).map g).sum := by
        have := perm_sum (pe.map g)
        simpa using this
      have hl : U.length = (U.erase x).length + 1 := by rw [pe.length_eq]; simp
      have ih := top_sum (g := g) (l := l) (U := U.erase x) p2 (hn.erase x) fun u hu => by
        have hne : u ≠ x := fun e => by rw [e] at hu; exact (List.Nodup.not_mem_erase hn) hu
        rcases List.mem_cons.mp (h u (List.mem_of_mem_erase hu)) with z | z
        · exact absurd z hne
        · exact z
      rw [e1, hl, List.take_succ_cons, List.map_cons, List.sum_cons]
      omega
    · cases U with
      | nil => simp
      | cons y U =>
        obtain ⟨n1, n2⟩ := List.nodup_cons.mp hn
        have mem : ∀ u ∈ y :: U, u ∈ l := fun u hu => by
          rcases List.mem_cons.mp (h u hu) with z | z
          · rw [z] at hu; exact absurd hu hx
          · exact z
        have ih := top_sum (g := g) (l := l) (U := U) p2 n2 fun u hu => mem u (List.mem_cons_of_mem _ hu)
        have gy := p1 y (mem y (List.mem_cons_self ..))
        rw [List.length_cons, List.take_succ_cons, List.map_cons, List.map_cons, List.sum_cons, List.sum_cons]
        omega
theorem sumG_take (L : List Int) (f : Int) : ∀ k, k ≤ (rk L).length → (((rk L).take k).map fun p => gm f (ld L p)).sum = sumG L f k := by
  intro k
  induction k with
  | zero => intro _; rfl
  | succ k ih =>
    intro h
    have hk : k < (rk L).length := by omega
    have et : (rk L).take (k + 1) = (rk L).take k ++ [(rk L)[k]] := by rw [List.take_add_one, List.getElem?_eq_getElem hk]; rfl
    rw [et, List.map_append, List.sum_append_int, ih (by omega)]
    show _ = sumG L f k + G L f k
    rw [G_rank (List.getElem?_eq_getElem hk)]
    simp
theorem sumG_rest (L : List Int) (f : Int) {i j : Nat} (h : i ≤ j) : sumG L f i + ((j - i : Nat) : Int) * f ≤ sumG L f j := by
  induction j with
  | zero => have : i = 0 := by omega
            subst this; simp
  | succ j ih =>
    by_cases e : i = j + 1
    · subst e; simp
    · have ih := ih (by omega)
      have g := G_ge L f j
      show _ ≤ sumG L f j + G L f j
      have : ((j + 1 - i : Nat) : Int) = ((j - i : Nat) : Int) + 1 := by omega
      rw [this, Int.add_mul, Int.one_mul]
      omega
theorem part_sum {L : List Int} {f : Int} {U : List Nat} {i : Nat} (hn : U.Nodup) (hU : ∀ u ∈ U, u < L.length) (hi : U.length ≤ i) : (U.map (ld L)).sum + ((i - U.length : Nat) : Int) * f ≤ sumG L f i := by
  have h1 : (U.map (ld L)).sum ≤ (U.map fun p => gm f (ld L p)).sum := by
    clear hn hU hi
    induction U with
    | nil => simp
    | cons u U ih =>
      simp only [List.map_cons, List.sum_cons]
      have := (gm_ge f (ld L u)).2
      omega
  have hl : U.length ≤ (rk L).length := by
    have := List.Nodup.length_le_of_subset hn (l₂ := rk L) fun u hu => rk_mem (hU u hu)
    exact this
  have h2 := top_sum (g := fun p => gm f (ld L p)) (l := rk L) (U := U) ((rk_srt L).imp fun {a b} h => by
    have := bt_iff.mp h
    exact gm_mono (by omega)) hn fun u hu => rk_mem (hU u hu)
  rw [sumG_take L f _ hl] at h2
  have h3 := sumG_rest L f hi
  omega
end K17
namespace K17
open PySem L2 DL
structure RatesOk (R : List Int) : Prop where
  l1 : 1 ≤ R.length
  l3 : R.length ≤ 3
  b : ∀ x ∈ R, 1 ≤ x ∧ x ≤ 1000
  srt : R.Pairwise fun a b => b ≤ a
def WayOk (L : List Int) (f : Int) (p : List Int) (x : List Int × Int) : Prop :=
  ∃ U : List Nat, x.1 = U.map (fun i : Nat => (i : Int)) ∧ U.Nodup ∧ (∀ u ∈ U, u < L.length) ∧ U.length ≤ p.length ∧
    ∀ r : Int, 0 ≤ r → (∀ y ∈ p, r ≤ y) → x.2 + r * (sumG L f p.length - ((U.map (ld L)).sum + ((p.length - U.length : Nat) : Int) * f)) ≤ dotG L f p
theorem way_step {q r A S g v w B : Int} (h : w + q * (A - S) ≤ B) (h0 : 0 ≤ A + g - (S + v)) (hr : r ≤ q) : w + q * v + r * (A + g - (S + v)) ≤ B + q * g := by
  have h1 : r * (A + g - (S + v)) ≤ q * (A + g - (S + v)) := Int.mul_le_mul_of_nonneg_right hr h0
  have h2 : q * (A + g - (S + v)) = q * (A - S) + q * g - q * v := by grind
  omega
theorem way_guest {L : List Int} {f : Int} {p u : List Int} {w q : Int} (h : WayOk L f p (u, w)) (q0 : 0 ≤ q) (hq : ∀ y ∈ p, q ≤ y) : WayOk L f (p ++ [q]) (u, w + q * f) := by
  obtain ⟨U, e, nd, hU, hl, hw⟩ := h
  refine ⟨U, e, nd, hU, by rw [List.length_append]; omega, fun r r0 hr => ?_⟩
  have hw := hw q q0 hq
  rw [dotG_snoc, List.length_append, List.length_singleton]
  have e2 : ((p.length + 1 - U.length : Nat) : Int) * f = ((p.length - U.length : Nat) : Int) * f + f := by
    have : ((p.length + 1 - U.length : Nat) : Int) = ((p.length - U.length : Nat) : Int) + 1 := by omega
    rw [this, Int.add_mul, Int.one_mul]
  have ps := part_sum (f := f) (i := p.length + 1) nd hU (by omega)
  rw [e2] at ps ⊢
  have hs : sumG L f (p.length + 1) = sumG L f p.length + G L f p.length := rfl
  rw [hs] at ps ⊢
  have hr' : r ≤ q := hr q (by simp)
  have := way_step (v := f) (g := G L f p.length) hw (by omega) hr'
  rw [← Int.add_assoc]
  exact this
theorem way_place {L : List Int} {f : Int} {p u : List Int} {w q : Int} {k : Nat} (h : WayOk L f p (u, w)) (q0 : 0 ≤ q) (hq : ∀ y ∈ p, q ≤ y) (hk : k < L.length) (hn : (k : Int) ∉ u) : WayOk L f (p ++ [q]) (u ++ [(k : Int)], w + q * ld L k) := by
  obtain ⟨U, e, nd, hU, hl, hw⟩ := h
  have e : u = U.map (fun i : Nat => (i : Int)) := e
  have hkU : k ∉ U := fun z => hn (by rw [e]; exact List.mem_map.mpr ⟨k, z, rfl⟩)
  have nd' : (U ++ [k]).Nodup := by
    rw [List.nodup_append]
    refine ⟨nd, by simp, fun a ha b hb => ?_⟩
    rw [List.mem_singleton.mp hb]
    exact fun z => hkU (z ▸ ha)
  have hU' : ∀ u ∈ U ++ [k], u < L.length := fun u hu => by
    rcases List.mem_append.mp hu with z | z
    · exact hU u z
    · rw [List.mem_singleton.mp z]; exact hk
  refine ⟨U ++ [k], by rw [List.map_append, ← e]; rfl, nd', hU', by simp; omega, fun r r0 hr => ?_⟩
  have hw := hw q q0 hq
  rw [dotG_snoc, List.length_append, List.length_singleton, List.length_append, List.length_singleton, List.map_append, List.sum_append_int]
  have ps := part_sum (f := f) (i := p.length + 1) nd' hU' (by simp; omega)
  rw [List.length_append, List.length_singleton, List.map_append, List.sum_append_int] at ps
  have e2 : p.length + 1 - (U.length + 1) = p.length - U.length := by omega
  rw [e2] at ps ⊢
  have hs : sumG L f (p.length + 1) = sumG L f p.length + G L f p.length := rfl
  rw [hs] at ps ⊢
  have e3 : (List.map (ld L) [k]).sum = ld L k := by simp
  rw [e3] at ps ⊢
  have hr' : r ≤ q := hr q (by simp)
  have := way_step (v := ld L k) (g := G L f p.length) hw (by omega) hr'
  have e4 : (U.map (ld L)).sum + ld L k + ((p.length - U.length : Nat) : Int) * f = (U.map (ld L)).sum + ((p.length - U.length : Nat) : Int) * f + ld L k := by omega
  rw [e4]
  exact this
theorem ways_ok {L : List Int} {R : List Int} {f : Int} (hL : L.length ≤ 6) (hR : RatesOk R) : Sm (m_law_ways L R f) fun ws => ws.length ≤ 1000 ∧ ∀ x ∈ ws, WayOk L f R x := by
  have r3 := hR.l3
  unfold m_law_ways
  refine Sm.bindE rfl (Sm.bind (Sm.foldTo (P := fun ws => ws.length ≤ 343 ∧ ∀ x ∈ ws, WayOk L f R x) (fun p s => s.length ≤ 7 ^ p.length ∧ ∀ x ∈ s, WayOk L f p x) ⟨by simp, fun x hx => ?_⟩ (fun p q rest s ep ⟨h1, h2⟩ => ?_) fun s ⟨h1, h2⟩ => ⟨?_, h2⟩) fun ws ⟨h1, h2⟩ => Sm.some ⟨by omega, h2⟩)
  · rw [List.mem_singleton.mp hx]
    exact ⟨[], rfl, by simp, fun u hu => (nomatch hu), Nat.le_refl _, fun r _ _ => by simp [sumG, dotG]⟩
  · have hpl : p.length + 1 ≤ 3 := by
      have := congrArg List.length ep
      rw [List.length_append, List.length_cons] at this; omega
    have hqR : q ∈ R := by rw [ep]; simp
    obtain ⟨q1, q2⟩ := hR.b q hqR
    have hq : ∀ y ∈ p, q ≤ y := fun y hy => by
      have := hR.srt
      rw [ep] at this
      exact (List.pairwise_append.mp this).2.2 y hy q (by simp)
    have s49 : s.length ≤ 49 := by
      have : 7 ^ p.length ≤ 7 ^ 2 := Nat.pow_le_pow_right (by omega) (by omega)
      omega
    refine Sm.bindE rfl (Sm.bind (Sm.foldTo (P := fun t => t.length ≤ 7 ^ (p ++ [q]).length ∧ ∀ x ∈ t, WayOk L f (p ++ [q]) x) (fun p2 t => t.length ≤ 7 * p2.length ∧ ∀ y ∈ t, WayOk L f (p ++ [q]) y) ⟨by simp, fun y hy => nomatch hy⟩ (fun p2 z rest2 t ep2 ⟨t1, t2⟩ => ?_) fun t ⟨t1, t2⟩ => ⟨?_, t2⟩) fun t ht => Sm.bindE rfl (Sm.some ht))
    · obtain ⟨u, w⟩ := z
      have hz : WayOk L f p (u, w) := h2 _ (by rw [ep2]; simp)
      have hul : u.length ≤ 3 := by
        obtain ⟨U, e, _, _, hl, _⟩ := hz
        have e : u = U.map _ := e
        rw [e, List.length_map]; omega
      have p2l : p2.length + 1 ≤ 49 := by
        have := congrArg List.length ep2
        rw [List.length_append, List.length_cons] at this; omega
      refine Sm.bindE (mulG_l (by omega) (by omega)) (Sm.bindE (appG_eq (by omega)) (Sm.bindE (rng1G_eq (by omega)) (Sm.bind (Sm.foldN (fun k t' => t'.length ≤ 7 * p2.length + 1 + k ∧ ∀ y ∈ t', WayOk L f (p ++ [q]) y) ⟨by simp; omega, fun y hy => ?_⟩ fun k t' hk ⟨c1, c2⟩ => ?_) fun t' ⟨c1, c2⟩ => Sm.some ⟨by rw [List.length_append, List.length_singleton]; omega, c2⟩)))
      · rcases List.mem_append.mp hy with y' | y'
        · exact t2 y y'
        · rw [List.mem_singleton.mp y']
          exact way_guest hz (by omega) hq
      · rw [show (0 : Int) + (k : Int) = (k : Int) by omega]
        have ek : idxG L (k : Int) = some (ld L k) := by
          rw [idxG_nat (List.getElem?_eq_getElem hk)]
          unfold ld; rw [getD_of (List.getElem?_eq_getElem hk)]
        refine Sm.bind (P := fun t'' => t''.length ≤ 7 * p2.length + 1 + (k + 1) ∧ ∀ y ∈ t'', WayOk L f (p ++ [q]) y) (Sm.ite (fun cc => ?_) fun _ => Sm.some ⟨by omega, c2⟩) fun t'' h => Sm.some h
        have cc : (k : Int) ∉ u := by simpa using cc
        refine Sm.bindE (catG_eq (by simp; omega)) (Sm.bindE ek (Sm.bindE (mulG_l (by omega) (by omega)) (Sm.bindE (appG_eq (by omega)) (Sm.some ⟨by simp; omega, fun y hy => ?_⟩))))
        rcases List.mem_append.mp hy with y' | y'
        · exact c2 y y'
        · rw [List.mem_singleton.mp y']
          exact way_place hz (by omega) hq hk cc
    · rw [List.length_append, List.length_singleton, Nat.pow_succ]
      omega
  · have : 7 ^ R.length ≤ 7 ^ 3 := Nat.pow_le_pow_right (by omega) (by omega)
    omega
theorem way_le {L : List Int} {f : Int} {R : List Int} {x : List Int × Int} (h : WayOk L f R x) (hR : RatesOk R) : x.2 ≤ dotG L f R := by
  obtain ⟨U, e, nd, hU, hl, hw⟩ := h
  have := hw 0 (by omega) fun y hy => by have := hR.b y hy; omega
  simpa using this
def dict (c : Crew) : List (Str × Int) := c.map fun x => (x.1, x.2.1 * x.2.2)
theorem dict_keys (c : Crew) : (dict c).map (·.1) = c.map (·.1) := by unfold dict; rw [List.map_map]; rfl
theorem dict_at {c : Crew} (h : CrewOk c) {p : Nat} (hp : p < c.length) : dGet (dict c) (nmOf c p) = some (ld (loads c) p) := by
  have e : c[p]? = some c[p] := List.getElem?_eq_getElem hp
  refine dGet_at (by rw [dict_keys]; exact h.nd) (List.mem_of_getElem? (i := p) ?_)
  unfold dict nmOf ld loads
  rw [List.getElem?_map, e, getD_of e]
  rw [getD_of (x := c[p].2.1 * c[p].2.2) (by rw [List.getElem?_map, e]; rfl)]
  rfl
theorem NameOk.ne {x : Str} (h : NameOk x) : x ≠ Str.ofString "" := by
  obtain ⟨l, rfl, h1, _⟩ := h
  intro e
  have e2 : Sl l = Sl [] := e
  have := Sl_inj e2
  rw [this] at h1; simp at h1
theorem dict_no {c : Crew} (h : CrewOk c) : dGet (dict c) (Str.ofString "") = none := by
  unfold dGet
  rw [List.find?_eq_none.mpr fun p hp => ?_]; rfl
  unfold dict at hp
  obtain ⟨x, hx, rfl⟩ := List.mem_map.mp hp
  have := K17.NameOk.ne (h.one x hx).1
  simp [this]
def takers (c : Crew) (n : Nat) (f : Int) : List Str := climb c n f ++ List.replicate (n - (climb c n f).length) (Str.ofString "")
theorem takers_at {c : Crew} (h : CrewOk c) {n : Nat} {f : Int} {j : Nat} (hj : j < n) : ∃ t, (takers c n f)[j]? = some t ∧ (dGet (dict c) t).getD f = G (loads c) f j := by
  obtain ⟨m, em, m1, m2, et, lo, hi⟩ := tops_pre (loads c) n f
  have cl : (climb c n f).length = m := by unfold climb; rw [List.length_map, em]
  unfold takers
  by_cases z : j < m
  · obtain ⟨p, e1, e2, e3⟩ := lo j z
    refine ⟨nmOf c p, ?_, ?_⟩
    · rw [List.getElem?_append_left (by omega)]
      unfold climb
      rw [List.getElem?_map, et, List.getElem?_take_of_lt z, e1]; rfl
    · have := rk_lt (List.mem_of_getElem? e1)
      rw [loads_len] at this
      rw [dict_at h this, e3]; rfl
  · refine ⟨Str.ofString "", ?_, ?_⟩
    · rw [List.getElem?_append_right (by omega), cl, List.getElem?_replicate, if_pos (by omega)]
    · rw [dict_no h, hi j (by omega) (by omega)]; rfl
theorem takers_len (c : Crew) (n : Nat) (f : Int) : (takers c n f).length = n := by
  obtain ⟨m, em, m1, _⟩ := tops_pre (loads c) n f
  have cl : (climb c n f).length = m := by unfold climb; rw [List.length_map, em]
  unfold takers
  rw [List.length_append, List.length_replicate]; omega
theorem total_eq {c : Crew} (h : CrewOk c) (R : List Int) (f : Int) : ((R.zip (takers c R.length f)).map fun z => z.1 * (dGet (dict c) z.2).getD f) = (List.range R.length).map fun j => R.getD j 0 * G (loads c) f j := by
  apply List.ext_getElem?
  intro j
  rw [List.getElem?_map, List.getElem?_map]
  by_cases hj : j < R.length
  · obtain ⟨t, e1, e2⟩ := takers_at h hj (f := f)
    rw [List.getElem?_range hj, (List.getElem?_zip_eq_some (z := (R[j], t))).mpr ⟨List.getElem?_eq_getElem hj, e1⟩]
    show some (R[j] * _) = some (R.getD j 0 * _)
    rw [e2, getD_of (List.getElem?_eq_getElem hj)]
  · rw [List.getElem?_eq_none (by rw [List.length_zip]; omega), List.getElem?_eq_none (by rw [List.length_range]; omega)]; rfl
end K17
namespace K17
open PySem L2 DL
theorem cutX_drop {α : Type} {xs : List α} {r : Nat} : cutX xs (some (r : Int)) none = xs.drop r := by
  have h := sIx_nn (n := xs.length) (d := 0) (v := (r : Int)) (by omega)
  unfold cutX
  rw [h]
  have e : HT.sIx xs.length xs.length none = xs.length := rfl
  rw [e, Int.toNat_natCast]
  apply List.ext_getElem?
  intro i
  by_cases hr : r ≤ xs.length
  · rw [Nat.min_eq_left hr, List.take_of_length_le (by rw [List.length_drop]; omega)]
  · rw [Nat.min_eq_right (by omega), List.drop_of_length_le (Nat.le_refl _), List.drop_of_length_le (by omega)]; simp
theorem behind_eq {c : Crew} (h : CrewOk c) {n : Nat} {f : Int} (hn : n ≤ 3) : m_strengths_behind c n f = some ((List.range n).map fun j => G (loads c) f (j + 1)) := by
  have hl := h.len
  have hL := loads_len c
  unfold m_strengths_behind
  rw [strengths_eq h.wt, Option.bind_some, Option.bind_some, ranking_eq h.wt, Option.bind_some, lcG_eq (by rw [rkI_eq, List.length_map, rk_len]; omega), Option.bind_some]
  rw [lcM_eq (fun _ => true) (fun z : Int => gm f (ld (loads c) z.toNat)) (fun x hx => ⟨rfl, fun _ => by
    rw [rkI_eq] at hx
    obtain ⟨i, hi, e⟩ := List.mem_map.mp hx
    subst e
    have hi := rk_lt hi
    rw [idxG_nat (List.getElem?_eq_getElem hi), Option.bind_some, Int.toNat_natCast]
    unfold ld gm
    rw [getD_of (List.getElem?_eq_getElem hi)]⟩), Option.bind_some, Option.bind_some, List.filter_eq_self.mpr (fun _ _ => rfl), rng1G_eq (by omega), Option.bind_some, lcG_eq (by rw [rngI_length]; omega), Option.bind_some]
  have er : (rkI (loads c)).map (fun z : Int => gm f (ld (loads c) z.toNat)) = (rk (loads c)).map fun p => gm f (ld (loads c) p) := by
    rw [rkI_eq, List.map_map]; rfl
  rw [er, lcM_eq (fun _ => true) (fun z : Int => G (loads c) f (z.toNat + 1)) (fun x hx => ⟨rfl, fun _ => by
    obtain ⟨j, hj, e⟩ := List.mem_map.mp hx
    have e : (0 : Int) + (j : Int) = x := e
    subst e
    rw [show (0 : Int) + (j : Int) + 1 = ((j + 1 : Nat) : Int) by omega, show ((0 : Int) + (j : Int)).toNat = j by omega]
    by_cases z : j + 1 < (rk (loads c)).length
    · rw [if_pos (by simp; omega), idxG_nat (x := gm f (ld (loads c) (rk (loads c))[j + 1])) (by rw [List.getElem?_map, List.getElem?_eq_getElem z]; rfl), G_rank (List.getElem?_eq_getElem z)]; rfl
    · rw [if_neg (by simp; omega)]
      unfold G
      rw [List.getElem?_eq_none (by omega)]; rfl⟩), Option.bind_some, List.filter_eq_self.mpr (fun _ _ => rfl)]
  unfold rngI
  rw [List.map_map]
  congr 1
  refine List.map_congr_left fun j _ => ?_
  show G (loads c) f (((0 : Int) + (j : Int)).toNat + 1) = _
  rw [show ((0 : Int) + (j : Int)).toNat = j by omega]
def rn (L : List Int) (f : Int) : List Int → Nat → List Int
  | [], _ => []
  | r :: R, i => ((rn L f R (i + 1)).headD 0 + G L f (i + 1) * (r - R.headD 0)) :: rn L f R (i + 1)
theorem rents_eq {L : List Int} {f : Int} {R : List Int} (hR : RatesOk R) : m_least_rents R ((List.range R.length).map fun j => G L f (j + 1)) = some (rn L f R 0) := by
  have m : ∀ g x y : Int, 0 ≤ x → x ≤ 1000 → 0 ≤ y → y ≤ 1000 → mulG g (x - y) = some (g * (x - y)) := fun g x y h1 h2 h3 h4 => mulG_r (by omega) (by omega)
  have b := hR.b
  have l1 := hR.l1
  have l3 := hR.l3
  match R, b, l1, l3 with
  | [a], b, _, _ =>
    have ha := b a (by simp)
    unfold m_least_rents
    rw [Option.bind_some, Option.bind_some, Option.bind_some]
    show Option.bind (List.foldlM _ _ [(a, G L f 1)]) _ = _
    simp only [List.foldlM_cons, List.foldlM_nil, Option.bind_some, m (G L f 1) a 0 (by omega) (by omega) (by omega) (by omega), appG_eq (show ([] : List Int).length < 1000000 by simp), Option.bind_eq_bind, Option.pure_def]
    simp [rn]
  | [a, c], b, _, _ =>
    have ha := b a (by simp)
    have hc := b c (by simp)
    unfold m_least_rents
    rw [Option.bind_some, Option.bind_some, Option.bind_some]
    show Option.bind (List.foldlM _ _ [(c, G L f 2), (a, G L f 1)]) _ = _
    simp only [List.foldlM_cons, List.foldlM_nil, Option.bind_some, m (G L f 2) c 0 (by omega) (by omega) (by omega) (by omega), m (G L f 1) a c (by omega) (by omega) (by omega) (by omega), appG_eq (show ([] : List Int).length < 1000000 by simp), Option.bind_eq_bind, Option.pure_def]
    rw [appG_eq (by simp)]
    simp [rn]
  | [a, c, d], b, _, _ =>
    have ha := b a (by simp)
    have hc := b c (by simp)
    have hd := b d (by simp)
    unfold m_least_rents
    rw [Option.bind_some, Option.bind_some, Option.bind_some]
    show Option.bind (List.foldlM _ _ [(d, G L f 3), (c, G L f 2), (a, G L f 1)]) _ = _
    simp only [List.foldlM_cons, List.foldlM_nil, Option.bind_some, m (G L f 3) d 0 (by omega) (by omega) (by omega) (by omega), m (G L f 2) c d (by omega) (by omega) (by omega) (by omega), m (G L f 1) a c (by omega) (by omega) (by omega) (by omega), appG_eq (show ([] : List Int).length < 1000000 by simp), Option.bind_eq_bind, Option.pure_def]
    rw [appG_eq (by simp)]
    simp only [Option.bind_some, m (G L f 1) a c (by omega) (by omega) (by omega) (by omega)]
    rw [appG_eq (by simp)]
    simp [rn]
theorem rn_len (L : List Int) (f : Int) : ∀ (R : List Int) (i : Nat), (rn L f R i).length = R.length
  | [], _ => rfl
  | r :: R, i => by unfold rn; rw [List.length_cons, List.length_cons, rn_len]
theorem rates_eq {R : List Int} (hR : RatesOk R) : m_check_rates R = some () := by
  have l1 := hR.l1
  have l3 := hR.l3
  have : Sm (m_check_rates R) (· = ()) := by
    unfold m_check_rates
    rw [if_neg (by simp; omega)]
    refine Sm.bindE rfl (Sm.bind (P := fun _ => True) (Sm.foldTo (P := fun _ => True) (fun p s => s ≤ 1000 ∧ ∀ x, x ∈ R → (∃ q, R = p ++ q ∧ x ∈ q) → x ≤ s) ⟨by omega, fun x hx _ => (hR.b x hx).2⟩ (fun p x q s e ⟨h1, h2⟩ => ?_) fun _ _ => trivial) fun _ _ => Sm.some rfl)
    have hx : x ∈ R := by rw [e]; simp
    have := hR.b x hx
    have hxs := h2 x hx ⟨_, e, by simp⟩
    rw [if_neg (by simp; omega)]
    refine Sm.bindE rfl (Sm.some ⟨by omega, fun y hy ⟨q', e2, hq⟩ => ?_⟩)
    have sr := hR.srt
    rw [e2] at sr
    have := (List.pairwise_append.mp sr).2.2 x (by simp) y hq
    exact this
  obtain ⟨_, e, _⟩ := this
  exact e
def allot (c : Crew) (R : List Int) (f : Int) : List Str × Int × List Int := (takers c R.length f, dotG (loads c) f R, rn (loads c) f R 0)
theorem dearest_eq {c : Crew} {R : List Int} {f : Int} (h : CrewOk c) (hR : RatesOk R) (f1 : 0 ≤ f) (f2 : f ≤ 1000000000000) : m_dearest c R f = some (allot c R f) := by
  have hl := h.len
  have l1 := hR.l1
  have l3 := hR.l3
  have hL := loads_len c
  unfold m_dearest m_check_floor
  rw [check_eq h, Option.bind_some, rates_eq hR, Option.bind_some, if_neg (by simp; omega), Option.bind_some, ladder_eq h l1 l3 f1 f2, Option.bind_some, Option.bind_some, cutX_drop, lcG_eq (by rw [List.length_drop]; omega), Option.bind_some]
  obtain ⟨m, em, m1, m2, _⟩ := tops_pre (loads c) R.length f
  have cl : (climb c R.length f).length = m := by unfold climb; rw [List.length_map, em]
  have et : climb c R.length f ++ (List.drop (climb c R.length f).length R).map (fun _ => Str.ofString "") = takers c R.length f := by
    unfold takers
    congr 1
    rw [List.map_const', List.length_drop]
  rw [catG_eq (by simp; omega), Option.bind_some, Option.bind_some]
  show ((lcG c).bind _) = _
  rw [lcG_eq (by omega), Option.bind_some, lcM_eq (fun _ => true) (fun x : Str × Int × Int => (x.1, x.2.1 * x.2.2)) (fun x hx => ⟨rfl, fun _ => by
    have := h.wt.w x hx
    rw [mulG_l (by omega) (by omega)]; rfl⟩), Option.bind_some, Option.bind_some, List.filter_eq_self.mpr (fun _ _ => rfl)]
  have ed : dMerge [] (c.map fun x : Str × Int × Int => (x.1, x.2.1 * x.2.2)) = dict c := by
    rw [dMerge_new (by rw [List.map_map]; exact h.nd) (fun _ _ => by simp)]; rfl
  rw [ed, show (climb c R.length f ++ (List.drop (climb c R.length f).length R).map fun z_7 => Str.ofString "") = takers c R.length f from et]
  rw [lcG_eq (by rw [List.length_zip]; omega), Option.bind_some, lcM_eq (fun _ => true) (fun z : Int × Str => z.1 * (dGet (dict c) z.2).getD f) (fun x hx => ⟨rfl, fun _ => by
    have := hR.b x.1 (List.of_mem_zip hx).1
    rw [mulG_l (by omega) (by omega)]; rfl⟩), Option.bind_some, Option.bind_some, List.filter_eq_self.mpr (fun _ _ => rfl), total_eq h, behind_eq h l3, Option.bind_some, rents_eq hR, Option.bind_some]
  rfl
theorem dearest2_eq : m_dearest_2 = m_dearest := rfl
theorem gd_strT {k : Nat} {ns : List Str} (hl : ns.length ≤ 1000000) (h : ∀ s ∈ ns, PyData.strOk s = true) : D.gd (k + 1) (.tup (ns.map D.str)) = true := by
  rw [D.gd, Bool.and_eq_true]
  refine ⟨decide_eq_true (by rw [List.length_map]; exact hl), D.gds_mem fun d hd => ?_⟩
  obtain ⟨x, hx, e⟩ := List.mem_map.mp hd
  subst e; rw [D.gd]; exact h x hx
theorem strOk_nil : PyData.strOk (Str.ofString "") = true := by decide +kernel
theorem climb_names {c : Crew} (h : CrewOk c) {n : Nat} {f : Int} : ∀ s ∈ climb c n f, NameOk s := fun s hs => by
  unfold climb at hs
  obtain ⟨p, hp, rfl⟩ := List.mem_map.mp hs
  have := tops_lt hp
  rw [loads_len] at this
  unfold nmOf
  rw [getD_of (List.getElem?_eq_getElem this)]
  exact (h.one _ (List.getElem_mem this)).1
theorem takers_gd {c : Crew} (h : CrewOk c) {n : Nat} {f : Int} (hn : n ≤ 1000) : D.gd 7 (.tup ((takers c n f).map D.str)) = true := by
  refine gd_strT (by rw [takers_len]; omega) fun s hs => ?_
  unfold takers at hs
  rcases List.mem_append.mp hs with z | z
  · exact (climb_names h s z).strOk
  · rw [List.eq_of_mem_replicate z]; exact strOk_nil
theorem int2_eq (i : Int) : m_law_integer_2 i = some true := by
  unfold m_law_integer_2; simp
theorem name_uniq {c : Crew} (h : CrewOk c) {x : Str × Int × Int} {p : Nat} (hx : x ∈ c) (hp : p < c.length) (e : x.1 = nmOf c p) : x = c[p] := by
  obtain ⟨i, hi, rfl⟩ := List.getElem_of_mem hx
  unfold nmOf at e
  rw [getD_of (List.getElem?_eq_getElem hp)] at e
  have nd := h.nd
  by_cases z : i = p
  · subst z; rfl
  · exfalso
    have a1 : (c.map (·.1))[i]? = some c[i].1 := by rw [List.getElem?_map, List.getElem?_eq_getElem hi]; rfl
    have a2 : (c.map (·.1))[p]? = some c[i].1 := by rw [List.getElem?_map, List.getElem?_eq_getElem hp, e]; rfl
    obtain ⟨l1, b1⟩ := List.getElem?_eq_some_iff.mp a1
    obtain ⟨l2, b2⟩ := List.getElem?_eq_some_iff.mp a2
    rcases Nat.lt_or_gt_of_ne z with q | q
    · exact List.pairwise_iff_getElem.mp nd i p l1 l2 q (by rw [b1, b2])
    · exact List.pairwise_iff_getElem.mp nd p i l2 l1 q (by rw [b1, b2])
theorem ld_at {c : Crew} {p : Nat} (hp : p < c.length) : ld (loads c) p = c[p].2.1 * c[p].2.2 := by
  unfold ld loads
  rw [getD_of (x := c[p].2.1 * c[p].2.2) (by rw [List.getElem?_map, List.getElem?_eq_getElem hp]; rfl)]
theorem is_dearest {c : Crew} {R : List Int} {f : Int} (h : CrewOk c) (hR : RatesOk R) : m_law_is_dearest (allot c R f) c R f = some true := by
  have hl := h.len
  have l1 := hR.l1
  have l3 := hR.l3
  have hL := loads_len c
  have : Sm (m_law_is_dearest (allot c R f) c R f) (· = true) := by
    unfold m_law_is_dearest
    obtain ⟨m, em, m1, m2, et, lo, hi⟩ := tops_pre (loads c) R.length f
    have cl : (climb c R.length f).length = m := by unfold climb; rw [List.length_map, em]
    refine Sm.bindE (law_ladder_eq h.wt l3) (Sm.bindE rfl (Sm.bindE rfl (Sm.bindE (rng1G_eq (by omega)) ?_)))
    refine Sm.bind (Sm.foldN (fun k s => s = dotG (loads c) f (R.take k)) rfl fun k s hk hs => ?_) fun s hs => ?_
    · rw [show (0 : Int) + (k : Int) = (k : Int) by omega]
      refine Sm.bindE rfl (Sm.bind (P := fun v => v = G (loads c) f k) ?_ fun v hv => ?_)
      · by_cases z : k < m
        · obtain ⟨p, e1, e2, e3⟩ := lo k z
          have hp : p < c.length := by have := rk_lt (List.mem_of_getElem? e1); rw [loads_len] at this; exact this
          have en : idxG (climb c R.length f) (k : Int) = some (nmOf c p) := by
            refine idxG_nat ?_
            unfold climb
            rw [List.getElem?_map, et, List.getElem?_take_of_lt z, e1]; rfl
          refine Sm.foldTo (fun pre s => (nmOf c p ∈ pre.map (·.1) → s = ld (loads c) p) ∧ (nmOf c p ∉ pre.map (·.1) → s = f)) ⟨fun z => by simp at z, fun _ => rfl⟩ (fun pre x post s ex ⟨i1, i2⟩ => ?_) fun s ⟨i1, _⟩ => ?_
          · have hx : x ∈ c := by rw [ex]; simp
            refine Sm.bind (P := fun q : Bool => q = decide (nmOf c p = x.1)) (Sm.ite (fun _ => Sm.bindE en (Sm.some rfl)) fun cc => ?_) fun q hq => ?_
            · have cc := of_decide_eq_false cc
              rw [cl] at cc; omega
            · subst hq
              refine Sm.bind (P := fun s' => (nmOf c p ∈ (pre ++ [x]).map (·.1) → s' = ld (loads c) p) ∧ (nmOf c p ∉ (pre ++ [x]).map (·.1) → s' = f)) (Sm.ite (fun cc => ?_) fun cc => ?_) fun s' hs' => Sm.some hs'
              · have cc := of_decide_eq_true cc
                have wb := h.wt.w x hx
                have eq := name_uniq h hx hp cc.symm
                refine Sm.bindE (mulG_l (by omega) (by omega)) (Sm.bindE rfl (Sm.some ⟨fun _ => ?_, fun w => ?_⟩))
                · rw [ld_at hp, ← eq]
                · exact absurd (by rw [List.map_append, List.mem_append]; right; simp [cc]) w
              · have cc := of_decide_eq_false cc
                have em : nmOf c p ∈ (pre ++ [x]).map (·.1) ↔ nmOf c p ∈ pre.map (·.1) := by
                  rw [List.map_append, List.mem_append]
                  constructor
                  · rintro (w | w)
                    · exact w
                    · simp at w; exact absurd w cc
                  · exact .inl
                exact Sm.some ⟨fun w => i1 (em.mp w), fun w => i2 fun w' => w (em.mpr w')⟩
          · rw [e3]
            refine i1 (List.mem_map.mpr ⟨c[p], List.getElem_mem hp, ?_⟩)
            unfold nmOf; rw [getD_of (List.getElem?_eq_getElem hp)]
        · refine Sm.foldTo (fun _ s => s = f) rfl (fun pre x post s ex hs => ?_) fun s hs => ?_
          · refine Sm.bind (P := fun q : Bool => q = false) (Sm.ite (fun cc => ?_) fun _ => Sm.some rfl) fun q hq => ?_
            · have cc := of_decide_eq_true cc
              rw [cl] at cc; omega
            · subst hq
              exact Sm.bind (P := fun s => s = f) (Sm.ite (fun w => by cases w) fun _ => Sm.some hs) fun s hs => Sm.some hs
          · rw [hs, hi k (by omega) (by omega)]
      · have hkR : k < R.length := hk
        have := hR.b _ (List.getElem_mem hkR)
        refine Sm.bindE (idxG_nat (List.getElem?_eq_getElem hkR)) (Sm.bindE (mulG_l (by omega) (by omega)) (Sm.bindE rfl (Sm.some ?_)))
        have et : R.take (k + 1) = R.take k ++ [R[k]] := by rw [List.take_add_one, List.getElem?_eq_getElem hkR]; rfl
        rw [et, dotG_snoc, List.length_take, Nat.min_eq_left (by omega), hs, hv]
    · rw [List.take_length] at hs
      refine Sm.bindE (a := false) ?_ ?_
      · rw [if_neg Bool.false_ne_true, cutX_drop, lcG_eq (by rw [List.length_drop]; omega), Option.bind_some, catG_eq (by simp; omega), Option.bind_some]
        have et : climb c R.length f ++ (List.drop (climb c R.length f).length R).map (fun _ => Str.ofString "") = takers c R.length f := by
          unfold takers
          congr 1
          rw [List.map_const', List.length_drop]
        rw [show (climb c R.length f ++ (List.drop (climb c R.length f).length R).map fun z_7 => Str.ofString "") = takers c R.length f from et]
        show ((m_law_same 8 (D.tup ((takers c R.length f).map D.str)) _).bind _) = _
        rw [same_self (takers_gd h (by omega))]; rfl
      · rw [if_neg Bool.false_ne_true]
        refine Sm.bindE (int2_eq _) ?_
        have hs' : (allot c R f).2.1 = s := hs.symm
        rw [hs', if_neg (by simp)]
        refine Sm.bindE (lcG_eq (by omega)) (Sm.bindE (lcM_eq (fun _ => true) (fun z : Str × Int × Int => z.2.1 * z.2.2) (fun x hx => ⟨rfl, fun _ => by
          have := h.wt.w x hx
          rw [mulG_l (by omega) (by omega)]; rfl⟩)) (Sm.bindE rfl ?_))
        rw [List.filter_eq_self.mpr (fun _ _ => rfl)]
        show Sm ((m_law_ways (loads c) R f).bind _) _
        refine Sm.bind (ways_ok (by omega) hR) fun ws ⟨w1, w2⟩ => Sm.bindE (lcG_eq (by omega)) ?_
        have ef : ws.filter (fun z : List Int × Int => decide (s < z.2)) = [] := List.filter_eq_nil_iff.mpr fun x hx => by
          have := way_le (w2 x hx) hR
          simp only [decide_eq_true_eq]; omega
        rw [ef]
        have e0 : eqG (D.lst (List.map D.int (List.map (fun z : List Int × Int => z.2) []))) (D.lst (List.map D.int [])) = some true := eqG_nil (k := 7) (ds := []) (by decide) (by omega)
        exact Sm.bindE e0 (Sm.some rfl)
  obtain ⟨b, e, rfl⟩ := this
  exact e
end K17
namespace K17
open PySem L2 DL
def rt (R : List Int) (j : Nat) : Int := R.getD j 0
def rr (L : List Int) (f : Int) (R : List Int) (j : Nat) : Int := (rn L f R 0).getD j 0
theorem rn_rec (L : List Int) (f : Int) : ∀ (R : List Int) (i j : Nat), (rn L f R i).getD j 0 = (rn L f R i).getD (j + 1) 0 + G L f (i + j + 1) * (R.getD j 0 - R.getD (j + 1) 0)
  | [], i, j => by simp [rn]
  | r :: R, i, 0 => by
    have e1 : (rn L f (r :: R) i).getD 0 0 = (rn L f R (i + 1)).headD 0 + G L f (i + 1) * (r - R.headD 0) := rfl
    have e2 : (rn L f (r :: R) i).getD (0 + 1) 0 = (rn L f R (i + 1)).getD 0 0 := rfl
    have e3 : ∀ l : List Int, l.getD 0 0 = l.headD 0 := fun l => by cases l <;> rfl
    have e4 : (r :: R).getD (0 + 1) 0 = R.getD 0 0 := rfl
    rw [e1, e2, e4, e3, e3, e3]; rfl
  | r :: R, i, j + 1 => by
    have := rn_rec L f R (i + 1) j
    rw [show i + 1 + j + 1 = i + (j + 1) + 1 by omega] at this
    exact this
theorem rr_rec (L : List Int) (f : Int) (R : List Int) (j : Nat) : rr L f R j = rr L f R (j + 1) + G L f (j + 1) * (rt R j - rt R (j + 1)) := by
  have := rn_rec L f R 0 j
  rw [show 0 + j + 1 = j + 1 by omega] at this
  exact this
theorem rt_mono {R : List Int} (hR : RatesOk R) (j : Nat) : rt R (j + 1) ≤ rt R j := by
  unfold rt
  by_cases h1 : j + 1 < R.length
  · have h0 : j < R.length := by omega
    rw [getD_of (List.getElem?_eq_getElem h1), getD_of (List.getElem?_eq_getElem h0)]
    exact List.pairwise_iff_getElem.mp hR.srt j (j + 1) h0 h1 (by omega)
  · rw [List.getD_eq_getElem?_getD, List.getElem?_eq_none (by omega)]
    by_cases h0 : j < R.length
    · rw [getD_of (List.getElem?_eq_getElem h0)]
      have := hR.b _ (List.getElem_mem h0)
      show (0 : Int) ≤ _
      omega
    · rw [List.getD_eq_getElem?_getD, List.getElem?_eq_none (by omega)]; exact Int.le_refl _
theorem up {L : List Int} {f s : Int} {R : List Int} (hR : RatesOk R) {i j : Nat} (h : i ≤ j) : (∀ l, i ≤ l → l < j → G L f (l + 1) ≤ s) → rr L f R i - rr L f R j ≤ (rt R i - rt R j) * s := by
  induction j with
  | zero => intro _; have : i = 0 := by omega
            subst this; simp
  | succ j ih =>
    intro hl
    by_cases e : i = j + 1
    · subst e; simp
    · have ih := ih (by omega) fun l a b => hl l a (by omega)
      have e := rr_rec L f R j
      have m := Int.mul_le_mul_of_nonneg_right (hl j (by omega) (by omega)) (c := rt R j - rt R (j + 1)) (by have := rt_mono hR j; omega)
      have e2 : (rt R i - rt R (j + 1)) * s = (rt R i - rt R j) * s + s * (rt R j - rt R (j + 1)) := by grind
      omega
theorem dn {L : List Int} {f s : Int} {R : List Int} (hR : RatesOk R) {i j : Nat} (h : i ≤ j) : (∀ l, i ≤ l → l < j → s ≤ G L f (l + 1)) → (rt R i - rt R j) * s ≤ rr L f R i - rr L f R j := by
  induction j with
  | zero => intro _; have : i = 0 := by omega
            subst this; simp
  | succ j ih =>
    intro hl
    by_cases e : i = j + 1
    · subst e; simp
    · have ih := ih (by omega) fun l a b => hl l a (by omega)
      have e := rr_rec L f R j
      have m := Int.mul_le_mul_of_nonneg_right (hl j (by omega) (by omega)) (c := rt R j - rt R (j + 1)) (by have := rt_mono hR j; omega)
      have e2 : (rt R i - rt R (j + 1)) * s = (rt R i - rt R j) * s + s * (rt R j - rt R (j + 1)) := by grind
      omega
theorem rt_end {R : List Int} {n : Nat} (h : R.length ≤ n) : rt R n = 0 := by
  unfold rt; rw [List.getD_eq_getElem?_getD, List.getElem?_eq_none h]; rfl
theorem rr_end {L : List Int} {f : Int} {R : List Int} {n : Nat} (h : R.length ≤ n) : rr L f R n = 0 := by
  unfold rr; rw [List.getD_eq_getElem?_getD, List.getElem?_eq_none (by rw [rn_len]; exact h)]; rfl
theorem rt_idx {R : List Int} {j : Nat} (h : j < R.length) : idxG R (j : Int) = some (rt R j) := by
  rw [idxG_nat (List.getElem?_eq_getElem h)]; unfold rt; rw [getD_of (List.getElem?_eq_getElem h)]
theorem rr_idx {L : List Int} {f : Int} {R : List Int} {j : Nat} (h : j < R.length) : idxG (rn L f R 0) (j : Int) = some (rr L f R j) := by
  have h : j < (rn L f R 0).length := by rw [rn_len]; exact h
  rw [idxG_nat (List.getElem?_eq_getElem h)]; unfold rr; rw [getD_of (List.getElem?_eq_getElem h)]
theorem nmOf_inj {c : Crew} (h : CrewOk c) {p q : Nat} (hp : p < c.length) (hq : q < c.length) (e : nmOf c p = nmOf c q) : p = q := by
  unfold nmOf at e
  rw [getD_of (List.getElem?_eq_getElem hp), getD_of (List.getElem?_eq_getElem hq)] at e
  by_cases z : p = q
  · exact z
  · exfalso
    have nd := h.nd
    have a1 : (c.map (·.1))[p]? = some c[p].1 := by rw [List.getElem?_map, List.getElem?_eq_getElem hp]; rfl
    have a2 : (c.map (·.1))[q]? = some c[p].1 := by rw [List.getElem?_map, List.getElem?_eq_getElem hq, e]; rfl
    obtain ⟨l1, b1⟩ := List.getElem?_eq_some_iff.mp a1
    obtain ⟨l2, b2⟩ := List.getElem?_eq_some_iff.mp a2
    rcases Nat.lt_or_gt_of_ne z with w | w
    · exact List.pairwise_iff_getElem.mp nd p q l1 l2 w (by rw [b1, b2])
    · exact List.pairwise_iff_getElem.mp nd q p l2 l1 w (by rw [b1, b2])
theorem climb_nd {c : Crew} (h : CrewOk c) (n : Nat) (f : Int) : (climb c n f).Nodup := by
  unfold climb
  have nd : (tops (loads c) n f).Nodup := ((rk_nd _).sublist (List.take_sublist ..)).sublist (List.filter_sublist ..)
  rw [List.nodup_iff_pairwise_ne, List.pairwise_map]
  refine (List.nodup_iff_pairwise_ne.mp nd).imp_of_mem fun {a b} ha hb hne e => ?_
  have ha := tops_lt ha
  have hb := tops_lt hb
  rw [loads_len] at ha hb
  exact hne (nmOf_inj h ha hb e)
theorem holds_ok {c : Crew} {R : List Int} {f : Int} (h : CrewOk c) (hR : RatesOk R) : m_law_holds (rn (loads c) f R 0) c R f = some true := by
  have hl := h.len
  have l1 := hR.l1
  have l3 := hR.l3
  have hL := loads_len c
  obtain ⟨m, em, m1, m2, et, lo, hi⟩ := tops_pre (loads c) R.length f
  have cl : (climb c R.length f).length = m := by unfold climb; rw [List.length_map, em]
  have rb : ∀ j, j < R.length → 1 ≤ rt R j ∧ rt R j ≤ 1000 := fun j hj => by
    unfold rt; rw [getD_of (List.getElem?_eq_getElem hj)]; exact hR.b _ (List.getElem_mem hj)
  unfold m_law_holds
  rw [law_ladder_eq h.wt l3, Option.bind_some, Option.bind_some, loopM_unit (fun x hx => ?_), Option.bind_some]
  · show ((rng1G _).bind _) = _
    rw [rng1G_eq (by omega), Option.bind_some, loopM_unit (fun x hx => ?_)]
    · rfl
    · obtain ⟨k, hk, e⟩ := List.mem_map.mp hx
      have hk := List.mem_range.mp hk
      have e : x = (k : Int) := by rw [← e]; show (0 : Int) + (k : Int) = _; omega
      subst e
      have b := rb k hk
      have d1 := dn (L := loads c) (f := f) (s := f) hR (i := k) (j := R.length) (by omega) fun l _ _ => G_ge _ _ _
      rw [rt_end (Nat.le_refl _), rr_end (Nat.le_refl _), Int.sub_zero, Int.sub_zero] at d1
      have ef : mulG (rt R k) f = some (rt R k * f) := mulG_l (by omega) (by omega)
      rw [rr_idx hk, Option.bind_some, rt_idx hk, Option.bind_some, ef, Option.bind_some, if_neg (by simp; omega)]
      by_cases z : m ≤ k
      · have d2 := up (L := loads c) (f := f) (s := f) hR (i := k) (j := R.length) (by omega) fun l q1 q2 => by
          have a := G_anti (loads c) f (i := m) (j := l + 1) (by omega)
          have b := hi m (Nat.le_refl _) (by omega)
          omega
        rw [rt_end (Nat.le_refl _), rr_end (Nat.le_refl _), Int.sub_zero, Int.sub_zero] at d2
        rw [if_pos (by rw [cl]; simp; omega), Option.bind_some, Option.bind_some, ef, Option.bind_some, Option.bind_some, Option.bind_some, if_neg (by simp; omega)]
      · rw [if_neg (by rw [cl]; simp; omega)]; rfl
  · obtain ⟨p, hp, rfl⟩ := List.getElem_of_mem hx
    obtain ⟨i, ei⟩ := rank_of (L := loads c) (p := p) (by omega)
    have en : c[p].1 = nmOf c p := by unfold nmOf; rw [getD_of (List.getElem?_eq_getElem hp)]
    have hs : ld (loads c) p = c[p].2.1 * c[p].2.2 := ld_at hp
    have hg : G (loads c) f i = gm f (ld (loads c) p) := G_rank ei
    generalize hsd : ld (loads c) p = s at *
    have wb := h.wt.w _ (List.getElem_mem hp)
    have mm : ∀ j, j < R.length → (mulG (rt R j) c[p].2.1 = some (rt R j * c[p].2.1)) ∧ mulG (rt R j * c[p].2.1) c[p].2.2 = some (rt R j * s) := fun j hj => by
      have b := rb j hj
      refine ⟨mulG_l (by omega) (by omega), ?_⟩
      have q1 : 0 ≤ rt R j * c[p].2.1 := Int.mul_nonneg (by omega) (by omega)
      have q2 : rt R j * c[p].2.1 ≤ 1000 * 1000 := Int.mul_le_mul (by omega) (by omega) (by omega) (by omega)
      rw [mulG_l (by omega) (by omega), hs, Int.mul_assoc]
    by_cases z : i < m
    · -- one that climbs
      obtain ⟨p', e1, e2, e3⟩ := lo i z
      rw [ei] at e1
      cases e1
      rw [hsd] at e2 e3
      have hiR : i < R.length := by omega
      have eci : (climb c R.length f)[i]? = some c[p].1 := by
        unfold climb
        rw [List.getElem?_map, et, List.getElem?_take_of_lt z, ei, en]; rfl
      have u1 : ∀ j, i ≤ j → rr (loads c) f R i - rr (loads c) f R j ≤ (rt R i - rt R j) * s := fun j hj => up hR hj fun l q1 q2 => by
        have a := G_anti (loads c) f (i := i) (j := l + 1) (by omega)
        omega
      have u2 : ∀ j, j ≤ i → (rt R j - rt R i) * s ≤ rr (loads c) f R j - rr (loads c) f R i := fun j hj => dn hR hj fun l q1 q2 => by
        have a := G_anti (loads c) f (i := l + 1) (j := i) (by omega)
        omega
      have u0 := u1 R.length (by omega)
      rw [rt_end (Nat.le_refl _), rr_end (Nat.le_refl _), Int.sub_zero, Int.sub_zero] at u0
      rw [Option.bind_some, if_pos (decide_eq_true (List.mem_of_getElem? eci)), fndG_at (climb_nd h _ _) eci, Option.bind_some, Option.bind_some, rt_idx hiR, Option.bind_some, (mm i hiR).1, Option.bind_some, (mm i hiR).2, Option.bind_some, rr_idx hiR, Option.bind_some, Option.bind_some, Option.bind_some, if_neg (by simp; omega), rng1G_eq (by omega), Option.bind_some, loopM_unit (fun x hx => ?_)]
      · rfl
      · obtain ⟨k, hk, e⟩ := List.mem_map.mp hx
        have hk := List.mem_range.mp hk
        have e : x = (k : Int) := by rw [← e]; show (0 : Int) + (k : Int) = _; omega
        subst e
        have g : rt R k * s - rr (loads c) f R k ≤ rt R i * s - rr (loads c) f R i := by
          by_cases q : i ≤ k
          · have := u1 k q
            rw [Int.sub_mul] at this; omega
          · have := u2 k (by omega)
            rw [Int.sub_mul] at this; omega
        rw [rt_idx hk, Option.bind_some, (mm k hk).1, Option.bind_some, (mm k hk).2, Option.bind_some, rr_idx hk, Option.bind_some, if_neg (by simp; omega)]
    · -- one that does not
      have nin : c[p].1 ∉ climb c R.length f := fun hm => by
        unfold climb at hm
        obtain ⟨p', h1, h2⟩ := List.mem_map.mp hm
        rw [en] at h2
        have hp' := tops_lt h1
        rw [loads_len] at hp'
        have := nmOf_inj h hp' hp h2
        subst this
        rw [et] at h1
        obtain ⟨j, hj, ej⟩ := List.getElem_of_mem h1
        rw [List.length_take] at hj
        rw [List.getElem_take] at ej
        obtain ⟨hi2, ei2⟩ := List.getElem?_eq_some_iff.mp ei
        exact List.pairwise_iff_getElem.mp (List.nodup_iff_pairwise_ne.mp (rk_nd (loads c))) j i (by omega) hi2 (by omega) (by rw [ej, ei2])
      have hle : ∀ l, l < R.length → s ≤ G (loads c) f (l + 1) := fun l hlR => by
        have g1 := (gm_ge f s).2
        by_cases q : i < R.length
        · have a := hi i (by omega) (by omega)
          have b := G_ge (loads c) f (l + 1)
          omega
        · have a := G_anti (loads c) f (i := l + 1) (j := i) (by omega)
          omega
      rw [Option.bind_some, if_neg (by simpa using nin), Option.bind_some, if_neg (by decide), rng1G_eq (by omega), Option.bind_some, loopM_unit (fun x hx => ?_)]
      · rfl
      · obtain ⟨k, hk, e⟩ := List.mem_map.mp hx
        have hk := List.mem_range.mp hk
        have e : x = (k : Int) := by rw [← e]; show (0 : Int) + (k : Int) = _; omega
        subst e
        have d1 := dn (L := loads c) (f := f) (s := s) hR (i := k) (j := R.length) (by omega) fun l _ q => hle l q
        rw [rt_end (Nat.le_refl _), rr_end (Nat.le_refl _), Int.sub_zero, Int.sub_zero] at d1
        rw [rt_idx hk, Option.bind_some, (mm k hk).1, Option.bind_some, (mm k hk).2, Option.bind_some, rr_idx hk, Option.bind_some, if_neg (by simp; omega)]
theorem kept_ok {c : Crew} {R : List Int} {f : Int} (h : CrewOk c) (hR : RatesOk R) : m_law_rents_kept (allot c R f) c R f = some true := by
  have l3 := hR.l3
  have e0 : eqG (D.lst (List.map D.int [])) (D.lst (List.map D.int [])) = some true := eqG_nil (k := 7) (ds := []) (by decide) (by omega)
  unfold m_law_rents_kept
  show (if (!decide (((rn (loads c) f R 0).length : Int) = (R.length : Int))) = true then some false else ((lcG (rn (loads c) f R 0)).bind fun ys => _)) = _
  rw [rn_len, decide_eq_true rfl, if_neg (by decide), lcG_eq (by rw [rn_len]; omega), Option.bind_some, lcM_eq (fun _ => false) (fun z : Int => z) (fun x hx => ⟨by rw [int2_eq]; rfl, fun z => nomatch z⟩), Option.bind_some, List.filter_eq_nil_iff.mpr (fun _ _ => by simp)]
  rw [List.map_nil, e0, Option.bind_some, if_neg (by decide)]
  show ((m_law_holds (rn (loads c) f R 0) c R f).bind _) = _
  rw [holds_ok h hR]; rfl
end K17
namespace K17
open PySem L2 DL
theorem CrewOk.rev {c : Crew} (h : CrewOk c) : CrewOk c.reverse :=
  ⟨by rw [List.length_reverse]; exact h.len, by rw [List.map_reverse]; exact List.pairwise_reverse.mpr (h.nd.imp Ne.symm), fun x hx => h.one x (List.mem_reverse.mp hx)⟩
theorem srtD_ok {xs : List Int} : (srtD xs).Perm xs ∧ (srtD xs).Pairwise fun a b => b ≤ a := by
  refine ⟨List.mergeSort_perm .., ?_⟩
  have := List.pairwise_mergeSort (le := fun a b : Int => decide (b ≤ a)) (fun a b c h1 h2 => decide_eq_true (by have := of_decide_eq_true h1; have := of_decide_eq_true h2; omega)) (fun a b => by
    by_cases h : b ≤ a
    · rw [decide_eq_true h]; rfl
    · rw [decide_eq_true (show a ≤ b by omega)]; simp) xs
  exact this.imp fun h => of_decide_eq_true h
theorem scale_ok {pool : List Int} {n : Nat} (hp : pool.length = 12) (h1 : 1 ≤ n) (hn : n ≤ 3) : Sm (m_law_scale pool 6 n) RatesOk := by
  unfold m_law_scale
  refine Sm.bindE rfl (Sm.bindE (rng1G_eq (by omega)) (Sm.bind (Sm.foldN (fun k s => s.length = k ∧ ∀ x ∈ s, 1 ≤ x ∧ x ≤ 1000) ⟨rfl, fun x hx => nomatch hx⟩ fun k s hk ⟨a1, a2⟩ => ?_) fun s ⟨a1, a2⟩ => Sm.some ?_))
  · refine Sm.bindE rfl (Sm.bind (far_ok (n := 1) (by omega) (by omega) (by omega)) fun f1 _ => Sm.bind (chosen_ok (by omega) (by omega) (by omega) (by omega) (by omega) (by omega)) fun w ⟨w1, w2⟩ => Sm.bindE (appG_eq (by omega)) (Sm.some ⟨?_, fun x hx => ?_⟩))
    · rw [List.length_append, List.length_singleton]; omega
    · rcases List.mem_append.mp hx with z | z
      · exact a2 x z
      · rw [List.mem_singleton.mp z]; omega
  · obtain ⟨p1, p2⟩ := srtD_ok (xs := s)
    exact ⟨by rw [p1.length_eq]; omega, by rw [p1.length_eq]; omega, fun x hx => a2 x (p1.mem_iff.mp hx), p2⟩
theorem RatesOk.next {R : List Int} (h : RatesOk R) : RatesOk (1000 :: R.dropLast) := by
  have l1 := h.l1
  have l3 := h.l3
  refine ⟨by simp, by simp; omega, fun x hx => ?_, List.pairwise_cons.mpr ⟨fun x hx => (h.b x (List.dropLast_subset _ hx)).2, h.srt.sublist (List.dropLast_sublist _)⟩⟩
  rcases List.mem_cons.mp hx with z | z
  · omega
  · exact h.b x (List.dropLast_subset _ z)
theorem popE_eq {R : List Int} (h : RatesOk R) : ∃ x, popE R = some (x, R.dropLast) := by
  have l1 := h.l1
  unfold popE
  rw [List.getElem?_eq_getElem (show R.length - 1 < R.length by omega)]
  exact ⟨_, rfl⟩
theorem cutX_last {R : List Int} : cutX R none (some (-(1 : Int))) = R.dropLast := by
  unfold cutX
  have e1 : HT.sIx R.length 0 none = 0 := rfl
  have e2 : HT.sIx R.length R.length (some (-1)) = R.length - 1 := by
    show (if (-1 : Int) < 0 then ((-1 : Int) + (R.length : Int)).toNat else min (-1 : Int).toNat R.length) = _
    rw [if_pos (by omega)]; omega
  rw [e1, e2, List.drop_zero, Nat.sub_zero, List.dropLast_eq_take]
theorem start_ok {β : Type} {s : List Int} (hs : s.length ≤ 63) {f : List Int → Crew → List Int → Int → Option β} {P : β → Prop}
    (k : ∀ (rest : List Int) (c : Crew) (R : List Int) (sill : Int), CrewOk c → RatesOk R → 0 ≤ sill → sill ≤ 1000000000000 → Sm (f rest c R sill) P) :
    Sm ((m_law_cell s (1 : Int)).bind fun r_1 => ((m_law_pool r_1 (12 : Int)).bind fun r_2 => ((some r_2).bind fun rest_3 => ((m_law_cell s (0 : Int)).bind fun r_4 => ((m_law_pool r_4 (35 : Int)).bind fun r_5 => ((m_law_part rest_3 (0 : Int) (1 : Int) (7 : Int)).bind fun r_6 => ((m_law_bidders r_5 (0 : Int) r_6).bind fun r_7 => ((some r_7).bind fun crew_8 => ((m_law_part rest_3 (0 : Int) (7 : Int) (3 : Int)).bind fun r_9 => ((m_law_scale rest_3 (6 : Int) ((1 : Int) + r_9)).bind fun r_10 => ((some r_10).bind fun scale_11 => ((m_law_sill rest_3 (1 : Int) crew_8).bind fun r_12 => ((some r_12).bind fun sill_13 => f rest_3 crew_8 scale_11 sill_13))))))))))))) P := by
  obtain ⟨c1, e1⟩ := cell_ok s 1 (by omega)
  obtain ⟨p1, e2, l1, _⟩ := pool_ok c1 12 (by omega)
  obtain ⟨c0, e3⟩ := cell_ok s 0 (by omega)
  obtain ⟨p0, e4, l0, _⟩ := pool_ok c0 35 (by omega)
  refine Sm.bindE e1 (Sm.bindE e2 (Sm.bindE rfl (Sm.bindE e3 (Sm.bindE e4 (Sm.bind (part_sm (by omega) (by omega) (by omega) (by omega) (by omega)) fun r6 ⟨a1, a2⟩ => ?_)))))
  have hb := bidders_ok (pool := p0) (n := r6.toNat) l0 (by omega)
  rw [Int.toNat_of_nonneg a1] at hb
  refine Sm.bind hb fun c hc => Sm.bindE rfl (Sm.bind (part_sm (by omega) (by omega) (by omega) (by omega) (by omega)) fun r9 ⟨b1, b2⟩ => ?_)
  have hsc := scale_ok (pool := p1) (n := (1 + r9).toNat) l1 (by omega) (by omega)
  rw [Int.toNat_of_nonneg (by omega)] at hsc
  exact Sm.bind hsc fun R hR => Sm.bindE rfl (Sm.bind (sill_ok (by omega) hc) fun sill ⟨s1, s2⟩ => Sm.bindE rfl (k p1 c R sill hc hR s1 s2))
theorem one_half {s : List Int} (hs : s.length ≤ 63) : m_law_one_half s = some true := by
  have : Sm (m_law_one_half s) (· = true) := by
    unfold m_law_one_half
    refine start_ok hs fun rest c R sill hc hR s1 s2 => ?_
    have smc : m_law_same 8 (D.lst (c.map crD)) (D.lst (c.map crD)) = some true := same_self (crew_gd hc)
    have smr : m_law_same 8 (D.lst (R.map D.int)) (D.lst (R.map D.int)) = some true := same_self (ints_gdL (by have := hR.l3; omega))
    have D1 := dearest_eq hc hR s1 s2
    have W1 := is_dearest (f := sill) hc hR
    have D2 : m_dearest_2 c R 0 = some (allot c R 0) := by rw [dearest2_eq]; exact dearest_eq hc hR (by omega) (by omega)
    have W2 := is_dearest (f := 0) hc hR
    have D3 := dearest_eq hc.rev hR.next s1 s2
    have W3 := is_dearest (f := sill) hc.rev hR.next
    obtain ⟨x, ep⟩ := popE_eq hR
    have l3 := hR.l3
    refine Sm.bindE rfl (Sm.bindE rfl (Sm.bindE D1 (Sm.bindE W1 ?_)))
    rw [if_neg (by decide)]
    refine Sm.bindE smc (Sm.bindE (a := false) ?_ ?_)
    · rw [if_neg (by decide), smr]; rfl
    · rw [if_neg (by decide)]
      refine Sm.bindE D2 (Sm.bindE W2 ?_)
      rw [if_neg (by decide)]
      refine Sm.bindE ep (Sm.bindE (a := 1000 :: R.dropLast) ?_ ?_)
      · unfold insG line
        rw [if_pos (by simp; omega)]; rfl
      · refine Sm.bindE D3 (Sm.bindE (a := 1000 :: R.dropLast) ?_ (Sm.bindE W3 ?_))
        · rw [cutX_last, catG_eq (by simp; omega)]; rfl
        · rw [if_neg (by decide)]
          exact Sm.bindE D1 (Sm.bindE W1 (Sm.some rfl))
  obtain ⟨r, e1, e2⟩ := this
  rw [e1, e2]
theorem other_half {s : List Int} (hs : s.length ≤ 63) : m_law_other_half s = some true := by
  have : Sm (m_law_other_half s) (· = true) := by
    unfold m_law_other_half
    refine start_ok hs fun rest c R sill hc hR s1 s2 => ?_
    have smc : m_law_same 8 (D.lst (c.map crD)) (D.lst (c.map crD)) = some true := same_self (crew_gd hc)
    have smr : m_law_same 8 (D.lst (R.map D.int)) (D.lst (R.map D.int)) = some true := same_self (ints_gdL (by have := hR.l3; omega))
    have D1 := dearest_eq hc hR s1 s2
    have W1 := kept_ok (f := sill) hc hR
    have D2 : m_dearest_2 c R 0 = some (allot c R 0) := by rw [dearest2_eq]; exact dearest_eq hc hR (by omega) (by omega)
    have W2 := kept_ok (f := 0) hc hR
    have D3 := dearest_eq hc.rev hR.next s1 s2
    have W3 := kept_ok (f := sill) hc.rev hR.next
    obtain ⟨x, ep⟩ := popE_eq hR
    have l3 := hR.l3
    refine Sm.bindE rfl (Sm.bindE rfl (Sm.bindE D1 (Sm.bindE W1 ?_)))
    rw [if_neg (by decide)]
    refine Sm.bindE smc (Sm.bindE (a := false) ?_ ?_)
    · rw [if_neg (by decide), smr]; rfl
    · rw [if_neg (by decide)]
      refine Sm.bindE D2 (Sm.bindE W2 ?_)
      rw [if_neg (by decide)]
      refine Sm.bindE ep (Sm.bindE (a := 1000 :: R.dropLast) ?_ ?_)
      · unfold insG line
        rw [if_pos (by simp; omega)]; rfl
      · refine Sm.bindE D3 (Sm.bindE (a := 1000 :: R.dropLast) ?_ (Sm.bindE W3 ?_))
        · rw [cutX_last, catG_eq (by simp; omega)]; rfl
        · rw [if_neg (by decide)]
          exact Sm.bindE D1 (Sm.bindE W1 (Sm.some rfl))
  obtain ⟨r, e1, e2⟩ := this
  rw [e1, e2]
theorem Plain.main (ns : List Int) (h : ns.length ≤ 63) : m_law ns = some true := by
  unfold m_law
  rw [one_half h, Option.bind_some, if_pos rfl, other_half h]; rfl
end K17
namespace K17
open PySem PySem.Spec L2 DL Hd
open PyProof.Rows hiding St
section
variable {P : Program} {w : World} {K : PySem.W.Frag} {h : Heap} {mg : Str → Option Value} {f : Addr}
theorem facts (X : K.In h) (G : h.Ns mainGlobals mg) (hfa : mg ("law" : Str) = some (.ref f)) (c0 : SaysE fa fn fx K) :
    ∃ fd : FuncData, (∀ (s : Shared) (v : Value), BindsTo s fd ⟨[v], []⟩ [("script", v)]) ∧ ∀ base : Heap, K.In base → base.Ns mainGlobals mg → FnOk P w K mg base CX0 13 f fd ["script"] (FnSp K R_law) := by
  have c := c0.1
  obtain ⟨fd_law_cell, F0_law_cell⟩ := c.def_ 13 (d := d_law_cell) rfl
  have F_law_cell : FunD K "_law_cell" "_law_cell" (defArgs s_law_cell) (defBody s_law_cell) (defScope s_law_cell) [] [] _ fd_law_cell := F0_law_cell
  have m_law_cell := He.glo_ok X G (c.fact 32 (f := .glo "_law_cell") rfl)
  obtain ⟨fd_law_mixed, F0_law_mixed⟩ := c.def_ 14 (d := d_law_mixed) rfl
  have F_law_mixed : FunD K "_law_mixed" "_law_mixed" (defArgs s_law_mixed) (defBody s_law_mixed) (defScope s_law_mixed) [] [] _ fd_law_mixed := F0_law_mixed
  have m_law_mixed := He.glo_ok X G (c.fact 33 (f := .glo "_law_mixed") rfl)
  obtain ⟨fd_law_pool, F0_law_pool⟩ := c.def_ 15 (d := d_law_pool) rfl
  have F_law_pool : FunD K "_law_pool" "_law_pool" (defArgs s_law_pool) (defBody s_law_pool) (defScope s_law_pool) [] [] _ fd_law_pool := F0_law_pool
  have m_law_pool := He.glo_ok X G (c.fact 34 (f := .glo "_law_pool") rfl)
  obtain ⟨fd_law_part, F0_law_part⟩ := c.def_ 16 (d := d_law_part) rfl
  have F_law_part : FunD K "_law_part" "_law_part" (defArgs s_law_part) (defBody s_law_part) (defScope s_law_part) [] [] _ fd_law_part := F0_law_part
  have m_law_part := He.glo_ok X G (c.fact 35 (f := .glo "_law_part") rfl)
  obtain ⟨fd_law_names, F0_law_names⟩ := c.def_ 17 (d := d_law_names) rfl
  have F_law_names : FunD K "_law_names" "_law_names" (defArgs s_law_names) (defBody s_law_names) (defScope s_law_names) [] [] _ fd_law_names := F0_law_names
  have m_law_names := He.glo_ok X G (c.fact 36 (f := .glo "_law_names") rfl)
  obtain ⟨fd_law_far, F0_law_far⟩ := c.def_ 18 (d := d_law_far) rfl
  have F_law_far : FunD K "_law_far" "_law_far" (defArgs s_law_far) (defBody s_law_far) (defScope s_law_far) [] [] _ fd_law_far := F0_law_far
  have m_law_far := He.glo_ok X G (c.fact 37 (f := .glo "_law_far") rfl)
  obtain ⟨fd_law_chosen, F0_law_chosen⟩ := c.def_ 19 (d := d_law_chosen) rfl
  have F_law_chosen : FunD K "_law_chosen" "_law_chosen" (defArgs s_law_chosen) (defBody s_law_chosen) (defScope s_law_chosen) [] [] _ fd_law_chosen := F0_law_chosen
  have m_law_chosen := He.glo_ok X G (c.fact 38 (f := .glo "_law_chosen") rfl)
  obtain ⟨fd_law_bidders, F0_law_bidders⟩ := c.def_ 20 (d := d_law_bidders) rfl
  have F_law_bidders : FunD K "_law_bidders" "_law_bidders" (defArgs s_law_bidders) (defBody s_law_bidders) (defScope s_law_bidders) [] [] _ fd_law_bidders := F0_law_bidders
  have m_law_bidders := He.glo_ok X G (c.fact 39 (f := .glo "_law_bidders") rfl)
  obtain ⟨fd_law_scale, F0_law_scale⟩ := c.def_ 22 (d := d_law_scale) rfl
  have F_law_scale : FunD K "_law_scale" "_law_scale" (defArgs s_law_scale) (defBody s_law_scale) (defScope s_law_scale) [] [] _ fd_law_scale := F0_law_scale
  have m_law_scale := He.glo_ok X G (c.fact 41 (f := .glo "_law_scale") rfl)
  obtain ⟨fd_law_sill, F0_law_sill⟩ := c.def_ 21 (d := d_law_sill) rfl
  have F_law_sill : FunD K "_law_sill" "_law_sill" (defArgs s_law_sill) (defBody s_law_sill) (defScope s_law_sill) [] [] _ fd_law_sill := F0_law_sill
  have m_law_sill := He.glo_ok X G (c.fact 40 (f := .glo "_law_sill") rfl)
  obtain ⟨fd_is_name, F0_is_name⟩ := c.def_ 0 (d := d_is_name) rfl
  have F_is_name : FunD K "is_name" "is_name" (defArgs s_is_name) (defBody s_is_name) (defScope s_is_name) [] [] _ fd_is_name := F0_is_name
  have m_is_name := He.glo_ok X G (c.fact 7 (f := .glo "is_name") rfl)
  obtain ⟨fd_names_of, F0_names_of⟩ := c.def_ 4 (d := d_names_of) rfl
  have F_names_of : FunD K "names_of" "names_of" (defArgs s_names_of) (defBody s_names_of) (defScope s_names_of) [] [] _ fd_names_of := F0_names_of
  have m_names_of := He.glo_ok X G (c.fact 16 (f := .glo "names_of") rfl)
  obtain ⟨fd_check_bidders, F0_check_bidders⟩ := c.def_ 1 (d := d_check_bidders) rfl
  have F_check_bidders : FunD K "check_bidders" "check_bidders" (defArgs s_check_bidders) (defBody s_check_bidders) (defScope s_check_bidders) [] [] _ fd_check_bidders := F0_check_bidders
  have m_check_bidders := He.glo_ok X G (c.fact 13 (f := .glo "check_bidders") rfl)
  obtain ⟨fd_check_rates, F0_check_rates⟩ := c.def_ 9 (d := d_check_rates) rfl
  have F_check_rates : FunD K "check_rates" "check_rates" (defArgs s_check_rates) (defBody s_check_rates) (defScope s_check_rates) [] [] _ fd_check_rates := F0_check_rates
  have m_check_rates := He.glo_ok X G (c.fact 28 (f := .glo "check_rates") rfl)
  obtain ⟨fd_check_floor, F0_check_floor⟩ := c.def_ 3 (d := d_check_floor) rfl
  have F_check_floor : FunD K "check_floor" "check_floor" (defArgs s_check_floor) (defBody s_check_floor) (defScope s_check_floor) [] [] _ fd_check_floor := F0_check_floor
  have m_check_floor := He.glo_ok X G (c.fact 15 (f := .glo "check_floor") rfl)
  obtain ⟨fd_check_hours, F0_check_hours⟩ := c.def_ 2 (d := d_check_hours) rfl
  have F_check_hours : FunD K "check_hours" "check_hours" (defArgs s_check_hours) (defBody s_check_hours) (defScope s_check_hours) [] [] _ fd_check_hours := F0_check_hours
  have m_check_hours := He.glo_ok X G (c.fact 14 (f := .glo "check_hours") rfl)
  obtain ⟨fd_strengths_of, F0_strengths_of⟩ := c.def_ 5 (d := d_strengths_of) rfl
  have F_strengths_of : FunD K "strengths_of" "strengths_of" (defArgs s_strengths_of) (defBody s_strengths_of) (defScope s_strengths_of) [] [] _ fd_strengths_of := F0_strengths_of
  have m_strengths_of := He.glo_ok X G (c.fact 17 (f := .glo "strengths_of") rfl)
  obtain ⟨fd_ranking, F0_ranking⟩ := c.def_ 6 (d := d_ranking) rfl
  have F_ranking : FunD K "ranking" "ranking" (defArgs s_ranking) (defBody s_ranking) (defScope s_ranking) [] [] _ fd_ranking := F0_ranking
  have m_ranking := He.glo_ok X G (c.fact 18 (f := .glo "ranking") rfl)
  obtain ⟨fd_ladder, F0_ladder⟩ := c.def_ 7 (d := d_ladder) rfl
  have F_ladder : FunD K "ladder" "ladder" (defArgs s_ladder) (defBody s_ladder) (defScope s_ladder) [] [("hours", .int (1)), ("floor", .int (0))] _ fd_ladder := F0_ladder
  have m_ladder := He.glo_ok X G (c.fact 19 (f := .glo "ladder") rfl)
  obtain ⟨fd_strengths_behind, F0_strengths_behind⟩ := c.def_ 10 (d := d_strengths_behind) rfl
  have F_strengths_behind : FunD K "strengths_behind" "strengths_behind" (defArgs s_strengths_behind) (defBody s_strengths_behind) (defScope s_strengths_behind) [] [] _ fd_strengths_behind := F0_strengths_behind
  have m_strengths_behind := He.glo_ok X G (c.fact 29 (f := .glo "strengths_behind") rfl)
  obtain ⟨fd_least_rents, F0_least_rents⟩ := c.def_ 11 (d := d_least_rents) rfl
  have F_least_rents : FunD K "least_rents" "least_rents" (defArgs s_least_rents) (defBody s_least_rents) (defScope s_least_rents) [] [] _ fd_least_rents := F0_least_rents
  have m_least_rents := He.glo_ok X G (c.fact 30 (f := .glo "least_rents") rfl)
  obtain ⟨fd_Allotment_Xinit, F0_Allotment_Xinit⟩ := c.def_ 8 (d := d_Allotment_Xinit) rfl
  have F_Allotment_Xinit : FunD K "__init__" "Allotment.__init__" (defArgs s_Allotment_Xinit) (defBody s_Allotment_Xinit) (defScope s_Allotment_Xinit) [] [] _ fd_Allotment_Xinit := F0_Allotment_Xinit
  obtain ⟨fd_dearest, F0_dearest⟩ := c.def_ 12 (d := d_dearest) rfl
  have F_dearest : FunD K "dearest" "dearest" (defArgs s_dearest) (defBody s_dearest) (defScope s_dearest) [] [("floor", .int (0))] _ fd_dearest := F0_dearest
  have m_dearest := He.glo_ok X G (c.fact 31 (f := .glo "dearest") rfl)
  obtain ⟨fd_law_ladder, F0_law_ladder⟩ := c.def_ 23 (d := d_law_ladder) rfl
  have F_law_ladder : FunD K "_law_ladder" "_law_ladder" (defArgs s_law_ladder) (defBody s_law_ladder) (defScope s_law_ladder) [] [] _ fd_law_ladder := F0_law_ladder
  have m_law_ladder := He.glo_ok X G (c.fact 42 (f := .glo "_law_ladder") rfl)
  obtain ⟨fd_law_integer, F0_law_integer⟩ := c.def_ 25 (d := d_law_integer) rfl
  have F_law_integer : FunD K "_law_integer" "_law_integer" (defArgs s_law_integer) (defBody s_law_integer) (defScope s_law_integer) [] [] _ fd_law_integer := F0_law_integer
  have m_law_integer := He.glo_ok X G (c.fact 44 (f := .glo "_law_integer") rfl)
  obtain ⟨fd_law_same, F0_law_same⟩ := c.def_ 26 (d := d_law_same) rfl
  have F_law_same : FunD K "_law_same" "_law_same" (defArgs s_law_same) (defBody s_law_same) (defScope s_law_same) [] [] _ fd_law_same := F0_law_same
  have m_law_same := He.glo_ok X G (c.fact 45 (f := .glo "_law_same") rfl)
  obtain ⟨fd_law_ways, F0_law_ways⟩ := c.def_ 24 (d := d_law_ways) rfl
  have F_law_ways : FunD K "_law_ways" "_law_ways" (defArgs s_law_ways) (defBody s_law_ways) (defScope s_law_ways) [] [] _ fd_law_ways := F0_law_ways
  have m_law_ways := He.glo_ok X G (c.fact 43 (f := .glo "_law_ways") rfl)
  obtain ⟨fd_law_is_dearest, F0_law_is_dearest⟩ := c.def_ 27 (d := d_law_is_dearest) rfl
  have F_law_is_dearest : FunD K "_law_is_dearest" "_law_is_dearest" (defArgs s_law_is_dearest) (defBody s_law_is_dearest) (defScope s_law_is_dearest) [] [] _ fd_law_is_dearest := F0_law_is_dearest
  have m_law_is_dearest := He.glo_ok X G (c.fact 46 (f := .glo "_law_is_dearest") rfl)
  obtain ⟨fd_law_one_half, F0_law_one_half⟩ := c.def_ 30 (d := d_law_one_half) rfl
  have F_law_one_half : FunD K "_law_one_half" "_law_one_half" (defArgs s_law_one_half) (defBody s_law_one_half) (defScope s_law_one_half) [] [] _ fd_law_one_half := F0_law_one_half
  have m_law_one_half := He.glo_ok X G (c.fact 49 (f := .glo "_law_one_half") rfl)
  obtain ⟨fd_law_holds, F0_law_holds⟩ := c.def_ 28 (d := d_law_holds) rfl
  have F_law_holds : FunD K "_law_holds" "_law_holds" (defArgs s_law_holds) (defBody s_law_holds) (defScope s_law_holds) [] [] _ fd_law_holds := F0_law_holds
  have m_law_holds := He.glo_ok X G (c.fact 47 (f := .glo "_law_holds") rfl)
  obtain ⟨fd_law_rents_kept, F0_law_rents_kept⟩ := c.def_ 29 (d := d_law_rents_kept) rfl
  have F_law_rents_kept : FunD K "_law_rents_kept" "_law_rents_kept" (defArgs s_law_rents_kept) (defBody s_law_rents_kept) (defScope s_law_rents_kept) [] [] _ fd_law_rents_kept := F0_law_rents_kept
  have m_law_rents_kept := He.glo_ok X G (c.fact 48 (f := .glo "_law_rents_kept") rfl)
  obtain ⟨fd_law_other_half, F0_law_other_half⟩ := c.def_ 31 (d := d_law_other_half) rfl
  have F_law_other_half : FunD K "_law_other_half" "_law_other_half" (defArgs s_law_other_half) (defBody s_law_other_half) (defScope s_law_other_half) [] [] _ fd_law_other_half := F0_law_other_half
  have m_law_other_half := He.glo_ok X G (c.fact 50 (f := .glo "_law_other_half") rfl)
  obtain ⟨fd_law, F0_law⟩ := c.def_ 32 (d := d_law) rfl
  have F_law : FunD K "law" "law" (defArgs s_law) (defBody s_law) (defScope s_law) [] [] _ fd_law := F0_law
  have m_law := He.glo_ok X G (c.fact 51 (f := .glo "law") rfl)
  have g_LARGEST_BID := He.int_ok X G (c.fact 10 (f := .int "LARGEST_BID" (1000000000)) rfl)
  have g_LARGEST_FLOOR := He.int_ok X G (c.fact 12 (f := .int "LARGEST_FLOOR" (1000000000000)) rfl)
  have g_LARGEST_RATE := He.int_ok X G (c.fact 21 (f := .int "LARGEST_RATE" (1000)) rfl)
  have g_LARGEST_WEIGHT := He.int_ok X G (c.fact 9 (f := .int "LARGEST_WEIGHT" (1000)) rfl)
  have g_LETTERS := He.str_ok X G (c.fact 5 (f := .str "LETTERS" "abcdefghijklmnopqrstuvwxyz") rfl)
  have g_MOST_BIDDERS := He.int_ok X G (c.fact 8 (f := .int "MOST_BIDDERS" (6)) rfl)
  have g_MOST_HOURS := He.int_ok X G (c.fact 11 (f := .int "MOST_HOURS" (3)) rfl)
  have g_MOST_LETTERS := He.int_ok X G (c.fact 6 (f := .int "MOST_LETTERS" (8)) rfl)
  have g_MOST_RATES := He.int_ok X G (c.fact 20 (f := .int "MOST_RATES" (3)) rfl)
  have g_abs : mg "abs" = none := He.free_ok X G (c.fact 53 (f := .free "abs") rfl)
  have g_all : mg "all" = none := He.free_ok X G (c.fact 54 (f := .free "all") rfl)
  have g_bool : mg "bool" = none := He.free_ok X G (c.fact 55 (f := .free "bool") rfl)
  have g_enumerate : mg "enumerate" = none := He.free_ok X G (c.fact 56 (f := .free "enumerate") rfl)
  have g_int : mg "int" = none := He.free_ok X G (c.fact 57 (f := .free "int") rfl)
  have g_isinstance : mg "isinstance" = none := He.free_ok X G (c.fact 58 (f := .free "isinstance") rfl)
  have g_len : mg "len" = none := He.free_ok X G (c.fact 59 (f := .free "len") rfl)
  have g_list : mg "list" = none := He.free_ok X G (c.fact 60 (f := .free "list") rfl)
  have g_max : mg "max" = none := He.free_ok X G (c.fact 61 (f := .free "max") rfl)
  have g_min : mg "min" = none := He.free_ok X G (c.fact 62 (f := .free "min") rfl)
  have g_range : mg "range" = none := He.free_ok X G (c.fact 63 (f := .free "range") rfl)
  have g_sorted : mg "sorted" = none := He.free_ok X G (c.fact 64 (f := .free "sorted") rfl)
  have g_str : mg "str" = none := He.free_ok X G (c.fact 65 (f := .free "str") rfl)
  have g_sum : mg "sum" = none := He.free_ok X G (c.fact 66 (f := .free "sum") rfl)
  have g_tuple : mg "tuple" = none := He.free_ok X G (c.fact 68 (f := .free "tuple") rfl)
  have g_zip : mg "zip" = none := He.free_ok X G (c.fact 69 (f := .free "zip") rfl)
  have e := hfa.symm.trans m_law
  cases e
  have bl := FunD.bindsA (ps := ["script"]) F_law fun _ _ _ _ _ _ us hl => match us, hl with | [_], _ => rfl
  refine ⟨fd_law, fun s v => bl s [v] rfl, fun base _ _ => ?_⟩
  have e_Allotment := He.glo_ok X G (c.fact 22 (f := .glo "Allotment") rfl)
  have ca_Allotment : cA ⟨P, w, K, mg, base⟩ "Allotment" = He.ga K "Allotment" := ca_eq e_Allotment
  have cl_Allotment : Cls K (cA ⟨P, w, K, mg, base⟩ "Allotment") := by rw [ca_Allotment]; exact He.cls_ok (c.fact 23 (f := .cls "Allotment") rfl)
  have gc_Allotment : mg "Allotment" = some (.ref (cA ⟨P, w, K, mg, base⟩ "Allotment")) := by rw [ca_Allotment]; exact e_Allotment
  have in_Allotment : C8.InsC K (cA ⟨P, w, K, mg, base⟩ "Allotment") := by rw [ca_Allotment]; exact ins_ok (c0.fact 0 (f := .ins "Allotment") rfl) (He.cls_ok (c.fact 23 (f := .cls "Allotment") rfl))
  have na_Allotment_rents : NoAttr K (cA ⟨P, w, K, mg, base⟩ "Allotment") "rents" := by rw [ca_Allotment]; exact He.noat_ok (c.fact 27 (f := .noat "Allotment" "rents") rfl)
  have na_Allotment_takers : NoAttr K (cA ⟨P, w, K, mg, base⟩ "Allotment") "takers" := by rw [ca_Allotment]; exact He.noat_ok (c.fact 25 (f := .noat "Allotment" "takers") rfl)
  have na_Allotment_total : NoAttr K (cA ⟨P, w, K, mg, base⟩ "Allotment") "total" := by rw [ca_Allotment]; exact He.noat_ok (c.fact 26 (f := .noat "Allotment" "total") rfl)
  have G_law_cell : ∀ X : Cx, At X ⟨P, w, K, mg, base⟩ N_law_cell (defScope s_law_cell) 0 → ∀ ds d k, R_law_cell ds d k → SS X (env0 4 ds) (defBody s_law_cell) { rt := fun d' k' => d' = d ∧ Fits k' k d, nx := fun _ => d = .non ∧ k = .cln } := fun X A ds d k hR => b_law_cell A g_abs g_len g_range hR
  have C_law_cell : Cal ⟨P, w, K, mg, base⟩ "_law_cell" R_law_cell 1 [] := Cal.mk' F_law_cell m_law_cell (F_law_cell.bindsN fun _ _ _ _ _ _ us hl => match us, hl with | [_, _], _ => rfl) .nil (fun _ => .nil) fs_law_cell (fun _ _ _ ⟨_, _, _, h, _⟩ => (congrArg List.length h).trans rfl) (Nat.le_of_ble_eq_true rfl) G_law_cell
  have G_law_mixed : ∀ X : Cx, At X ⟨P, w, K, mg, base⟩ N_law_mixed (defScope s_law_mixed) 0 → ∀ ds d k, R_law_mixed ds d k → SS X (env0 3 ds) (defBody s_law_mixed) { rt := fun d' k' => d' = d ∧ Fits k' k d, nx := fun _ => d = .non ∧ k = .cln } := fun X A ds d k hR => b_law_mixed A g_abs hR
  have C_law_mixed : Cal ⟨P, w, K, mg, base⟩ "_law_mixed" R_law_mixed 1 [] := Cal.mk' F_law_mixed m_law_mixed (F_law_mixed.bindsN fun _ _ _ _ _ _ us hl => match us, hl with | [_, _], _ => rfl) .nil (fun _ => .nil) fs_law_mixed (fun _ _ _ ⟨_, _, _, h, _⟩ => (congrArg List.length h).trans rfl) (Nat.le_of_ble_eq_true rfl) G_law_mixed
  have G_law_pool : ∀ X : Cx, At X ⟨P, w, K, mg, base⟩ N_law_pool (defScope s_law_pool) 1 → ∀ ds d k, R_law_pool ds d k → SS X (env0 6 ds) (defBody s_law_pool) { rt := fun d' k' => d' = d ∧ Fits k' k d, nx := fun _ => d = .non ∧ k = .cln } := fun X A ds d k hR => b_law_pool A g_abs g_range C_law_mixed hR
  have C_law_pool : Cal ⟨P, w, K, mg, base⟩ "_law_pool" R_law_pool 2 [] := Cal.mk' F_law_pool m_law_pool (F_law_pool.bindsN fun _ _ _ _ _ _ us hl => match us, hl with | [_, _], _ => rfl) .nil (fun _ => .nil) fs_law_pool (fun _ _ _ ⟨_, _, _, h, _⟩ => (congrArg List.length h).trans rfl) (Nat.le_of_ble_eq_true rfl) G_law_pool
  have G_law_part : ∀ X : Cx, At X ⟨P, w, K, mg, base⟩ N_law_part (defScope s_law_part) 0 → ∀ ds d k, R_law_part ds d k → SS X (env0 4 ds) (defBody s_law_part) { rt := fun d' k' => d' = d ∧ Fits k' k d, nx := fun _ => d = .non ∧ k = .cln } := fun X A ds d k hR => b_law_part A g_int hR
  have C_law_part : Cal ⟨P, w, K, mg, base⟩ "_law_part" R_law_part 1 [] := Cal.mk' F_law_part m_law_part (F_law_part.bindsN fun _ _ _ _ _ _ us hl => match us, hl with | [_, _, _, _], _ => rfl) .nil (fun _ => .nil) fs_law_part (fun _ _ _ ⟨_, _, _, _, _, h, _⟩ => (congrArg List.length h).trans rfl) (Nat.le_of_ble_eq_true rfl) G_law_part
  have G_law_names : ∀ X : Cx, At X ⟨P, w, K, mg, base⟩ N_law_names (defScope s_law_names) 1 → ∀ ds d k, R_law_names ds d k → SS X (env0 13 ds) (defBody s_law_names) { rt := fun d' k' => d' = d ∧ Fits k' k d, nx := fun _ => d = .non ∧ k = .cln } := fun X A ds d k hR => b_law_names A g_int g_range C_law_part hR
  have C_law_names : Cal ⟨P, w, K, mg, base⟩ "_law_names" R_law_names 2 [] := Cal.mk' F_law_names m_law_names (F_law_names.bindsN fun _ _ _ _ _ _ us hl => match us, hl with | [_, _, _], _ => rfl) .nil (fun _ => .nil) fs_law_names (fun _ _ _ ⟨_, _, _, _, h, _⟩ => (congrArg List.length h).trans rfl) (Nat.le_of_ble_eq_true rfl) G_law_names
  have G_law_far : ∀ X : Cx, At X ⟨P, w, K, mg, base⟩ N_law_far (defScope s_law_far) 0 → ∀ ds d k, R_law_far ds d k → SS X (env0 5 ds) (defBody s_law_far) { rt := fun d' k' => d' = d ∧ Fits k' k d, nx := fun _ => d = .non ∧ k = .cln } := fun X A ds d k hR => b_law_far A g_int g_range hR
  have C_law_far : Cal ⟨P, w, K, mg, base⟩ "_law_far" R_law_far 1 [] := Cal.mk' F_law_far m_law_far (F_law_far.bindsN fun _ _ _ _ _ _ us hl => match us, hl with | [_, _, _], _ => rfl) .nil (fun _ => .nil) fs_law_far (fun _ _ _ ⟨_, _, _, _, h, _⟩ => (congrArg List.length h).trans rfl) (Nat.le_of_ble_eq_true rfl) G_law_far
  have G_law_chosen : ∀ X : Cx, At X ⟨P, w, K, mg, base⟩ N_law_chosen (defScope s_law_chosen) 1 → ∀ ds d k, R_law_chosen ds d k → SS X (env0 8 ds) (defBody s_law_chosen) { rt := fun d' k' => d' = d ∧ Fits k' k d, nx := fun _ => d = .non ∧ k = .cln } := fun X A ds d k hR => b_law_chosen A g_int C_law_part hR
  have C_law_chosen : Cal ⟨P, w, K, mg, base⟩ "_law_chosen" R_law_chosen 2 [] := Cal.mk' F_law_chosen m_law_chosen (F_law_chosen.bindsN fun _ _ _ _ _ _ us hl => match us, hl with | [_, _, _, _, _, _], _ => rfl) .nil (fun _ => .nil) fs_law_chosen (fun _ _ _ ⟨_, _, _, _, _, _, _, h, _⟩ => (congrArg List.length h).trans rfl) (Nat.le_of_ble_eq_true rfl) G_law_chosen
  have G_law_bidders : ∀ X : Cx, At X ⟨P, w, K, mg, base⟩ N_law_bidders (defScope s_law_bidders) 2 → ∀ ds d k, R_law_bidders ds d k → SS X (env0 9 ds) (defBody s_law_bidders) { rt := fun d' k' => d' = d ∧ Fits k' k d, nx := fun _ => d = .non ∧ k = .cln } := fun X A ds d k hR => b_law_bidders A g_int g_range C_law_chosen C_law_far C_law_names C_law_part hR
  have C_law_bidders : Cal ⟨P, w, K, mg, base⟩ "_law_bidders" R_law_bidders 3 [] := Cal.mk' F_law_bidders m_law_bidders (F_law_bidders.bindsN fun _ _ _ _ _ _ us hl => match us, hl with | [_, _, _], _ => rfl) .nil (fun _ => .nil) fs_law_bidders (fun _ _ _ ⟨_, _, _, _, h, _⟩ => (congrArg List.length h).trans rfl) (Nat.le_of_ble_eq_true rfl) G_law_bidders
  have G_law_scale : ∀ X : Cx, At X ⟨P, w, K, mg, base⟩ N_law_scale (defScope s_law_scale) 2 → ∀ ds d k, R_law_scale ds d k → SS X (env0 6 ds) (defBody s_law_scale) { rt := fun d' k' => d' = d ∧ Fits k' k d, nx := fun _ => d = .non ∧ k = .cln } := fun X A ds d k hR => b_law_scale A g_range g_sorted C_law_chosen C_law_far hR
  have C_law_scale : Cal ⟨P, w, K, mg, base⟩ "_law_scale" R_law_scale 3 [] := Cal.mk' F_law_scale m_law_scale (F_law_scale.bindsN fun _ _ _ _ _ _ us hl => match us, hl with | [_, _, _], _ => rfl) .nil (fun _ => .nil) fs_law_scale (fun _ _ _ ⟨_, _, _, _, h, _⟩ => (congrArg List.length h).trans rfl) (Nat.le_of_ble_eq_true rfl) G_law_scale
  have G_law_sill : ∀ X : Cx, At X ⟨P, w, K, mg, base⟩ N_law_sill (defScope s_law_sill) 1 → ∀ ds d k, R_law_sill ds d k → SS X (env0 8 ds) (defBody s_law_sill) { rt := fun d' k' => d' = d ∧ Fits k' k d, nx := fun _ => d = .non ∧ k = .cln } := fun X A ds d k hR => b_law_sill A g_int g_len g_max g_min C_law_far C_law_part hR
  have C_law_sill : Cal ⟨P, w, K, mg, base⟩ "_law_sill" R_law_sill 2 [] := Cal.mk' F_law_sill m_law_sill (F_law_sill.bindsN fun _ _ _ _ _ _ us hl => match us, hl with | [_, _, _], _ => rfl) .nil (fun _ => .nil) fs_law_sill (fun _ _ _ ⟨_, _, _, _, h, _⟩ => (congrArg List.length h).trans rfl) (Nat.le_of_ble_eq_true rfl) G_law_sill
  have G_is_name : ∀ X : Cx, At X ⟨P, w, K, mg, base⟩ N_is_name (defScope s_is_name) 0 → ∀ ds d k, R_is_name ds d k → SS X (env0 2 ds) (defBody s_is_name) { rt := fun d' k' => d' = d ∧ Fits k' k d, nx := fun _ => d = .non ∧ k = .cln } := fun X A ds d k hR => b_is_name A g_LETTERS g_MOST_LETTERS g_all g_len hR
  have C_is_name : Cal ⟨P, w, K, mg, base⟩ "is_name" R_is_name 1 [] := Cal.mk' F_is_name m_is_name (F_is_name.bindsN fun _ _ _ _ _ _ us hl => match us, hl with | [_], _ => rfl) .nil (fun _ => .nil) fs_is_name (fun _ _ _ ⟨_, _, h, _⟩ => (congrArg List.length h).trans rfl) (Nat.le_of_ble_eq_true rfl) G_is_name
  have G_names_of : ∀ X : Cx, At X ⟨P, w, K, mg, base⟩ N_names_of (defScope s_names_of) 0 → ∀ ds d k, R_names_of ds d k → SS X (env0 4 ds) (defBody s_names_of) { rt := fun d' k' => d' = d ∧ Fits k' k d, nx := fun _ => d = .non ∧ k = .cln } := fun X A ds d k hR => b_names_of A  hR
  have C_names_of : Cal ⟨P, w, K, mg, base⟩ "names_of" R_names_of 1 [] := Cal.mk' F_names_of m_names_of (F_names_of.bindsN fun _ _ _ _ _ _ us hl => match us, hl with | [_], _ => rfl) .nil (fun _ => .nil) fs_names_of (fun _ _ _ ⟨_, _, h, _⟩ => (congrArg List.length h).trans rfl) (Nat.le_of_ble_eq_true rfl) G_names_of
  have G_check_bidders : ∀ X : Cx, At X ⟨P, w, K, mg, base⟩ N_check_bidders (defScope s_check_bidders) 1 → ∀ ds d k, R_check_bidders ds d k → SS X (env0 5 ds) (defBody s_check_bidders) { rt := fun d' k' => d' = d ∧ Fits k' k d, nx := fun _ => d = .non ∧ k = .cln } := fun X A ds d k hR => b_check_bidders A g_LARGEST_BID g_LARGEST_WEIGHT g_MOST_BIDDERS g_enumerate g_len C_is_name C_names_of hR
  have C_check_bidders : Cal ⟨P, w, K, mg, base⟩ "check_bidders" R_check_bidders 2 [] := Cal.mk' F_check_bidders m_check_bidders (F_check_bidders.bindsN fun _ _ _ _ _ _ us hl => match us, hl with | [_], _ => rfl) .nil (fun _ => .nil) fs_check_bidders (fun _ _ _ ⟨_, _, h, _⟩ => (congrArg List.length h).trans rfl) (Nat.le_of_ble_eq_true rfl) G_check_bidders
  have G_check_rates : ∀ X : Cx, At X ⟨P, w, K, mg, base⟩ N_check_rates (defScope s_check_rates) 0 → ∀ ds d k, R_check_rates ds d k → SS X (env0 3 ds) (defBody s_check_rates) { rt := fun d' k' => d' = d ∧ Fits k' k d, nx := fun _ => d = .non ∧ k = .cln } := fun X A ds d k hR => b_check_rates A g_LARGEST_RATE g_MOST_RATES g_len hR
  have C_check_rates : Cal ⟨P, w, K, mg, base⟩ "check_rates" R_check_rates 1 [] := Cal.mk' F_check_rates m_check_rates (F_check_rates.bindsN fun _ _ _ _ _ _ us hl => match us, hl with | [_], _ => rfl) .nil (fun _ => .nil) fs_check_rates (fun _ _ _ ⟨_, _, h, _⟩ => (congrArg List.length h).trans rfl) (Nat.le_of_ble_eq_true rfl) G_check_rates
  have G_check_floor : ∀ X : Cx, At X ⟨P, w, K, mg, base⟩ N_check_floor (defScope s_check_floor) 0 → ∀ ds d k, R_check_floor ds d k → SS X (env0 1 ds) (defBody s_check_floor) { rt := fun d' k' => d' = d ∧ Fits k' k d, nx := fun _ => d = .non ∧ k = .cln } := fun X A ds d k hR => b_check_floor A g_LARGEST_FLOOR hR
  have C_check_floor : Cal ⟨P, w, K, mg, base⟩ "check_floor" R_check_floor 1 [] := Cal.mk' F_check_floor m_check_floor (F_check_floor.bindsN fun _ _ _ _ _ _ us hl => match us, hl with | [_], _ => rfl) .nil (fun _ => .nil) fs_check_floor (fun _ _ _ ⟨_, _, h, _⟩ => (congrArg List.length h).trans rfl) (Nat.le_of_ble_eq_true rfl) G_check_floor
  have G_check_hours : ∀ X : Cx, At X ⟨P, w, K, mg, base⟩ N_check_hours (defScope s_check_hours) 0 → ∀ ds d k, R_check_hours ds d k → SS X (env0 1 ds) (defBody s_check_hours) { rt := fun d' k' => d' = d ∧ Fits k' k d, nx := fun _ => d = .non ∧ k = .cln } := fun X A ds d k hR => b_check_hours A g_MOST_HOURS hR
  have C_check_hours : Cal ⟨P, w, K, mg, base⟩ "check_hours" R_check_hours 1 [] := Cal.mk' F_check_hours m_check_hours (F_check_hours.bindsN fun _ _ _ _ _ _ us hl => match us, hl with | [_], _ => rfl) .nil (fun _ => .nil) fs_check_hours (fun _ _ _ ⟨_, _, h, _⟩ => (congrArg List.length h).trans rfl) (Nat.le_of_ble_eq_true rfl) G_check_hours
  have G_strengths_of : ∀ X : Cx, At X ⟨P, w, K, mg, base⟩ N_strengths_of (defScope s_strengths_of) 0 → ∀ ds d k, R_strengths_of ds d k → SS X (env0 4 ds) (defBody s_strengths_of) { rt := fun d' k' => d' = d ∧ Fits k' k d, nx := fun _ => d = .non ∧ k = .cln } := fun X A ds d k hR => b_strengths_of A  hR
  have C_strengths_of : Cal ⟨P, w, K, mg, base⟩ "strengths_of" R_strengths_of 1 [] := Cal.mk' F_strengths_of m_strengths_of (F_strengths_of.bindsN fun _ _ _ _ _ _ us hl => match us, hl with | [_], _ => rfl) .nil (fun _ => .nil) fs_strengths_of (fun _ _ _ ⟨_, _, h, _⟩ => (congrArg List.length h).trans rfl) (Nat.le_of_ble_eq_true rfl) G_strengths_of
  have G_ranking : ∀ X : Cx, At X ⟨P, w, K, mg, base⟩ N_ranking (defScope s_ranking) 1 → ∀ ds d k, R_ranking ds d k → SS X (env0 4 ds) (defBody s_ranking) { rt := fun d' k' => d' = d ∧ Fits k' k d, nx := fun _ => d = .non ∧ k = .cln } := fun X A ds d k hR => b_ranking A g_enumerate g_sorted C_strengths_of hR
  have C_ranking : Cal ⟨P, w, K, mg, base⟩ "ranking" R_ranking 2 [] := Cal.mk' F_ranking m_ranking (F_ranking.bindsN fun _ _ _ _ _ _ us hl => match us, hl with | [_], _ => rfl) .nil (fun _ => .nil) fs_ranking (fun _ _ _ ⟨_, _, h, _⟩ => (congrArg List.length h).trans rfl) (Nat.le_of_ble_eq_true rfl) G_ranking
  have G_ladder : ∀ X : Cx, At X ⟨P, w, K, mg, base⟩ N_ladder (defScope s_ladder) 2 → ∀ ds d k, R_ladder ds d k → SS X (env0 6 ds) (defBody s_ladder) { rt := fun d' k' => d' = d ∧ Fits k' k d, nx := fun _ => d = .non ∧ k = .cln } := fun X A ds d k hR => b_ladder A g_tuple C_check_bidders C_check_floor C_check_hours C_ranking C_strengths_of hR
  have C_ladder_k1_hours_floor : CalK ⟨P, w, K, mg, base⟩ "ladder" R_ladder 3 1 ["hours", "floor"] (fun a b => pick a [] [] b [.p 0, .k 0, .k 1]) := CalK.of (def_ok F_ladder fs_ladder (fun _ _ _ ⟨_, _, _, _, h, _⟩ => (congrArg List.length h).trans rfl) (Nat.le_of_ble_eq_true rfl) fun X c => G_ladder X c.at_) F_ladder.kp m_ladder (its := []) (mv := []) (dvs := []) (mz := []) (kb_n F_ladder 1 ["hours", "floor"] [.p 0, .k 0, .k 1] fun kV doc pm an cdv ct us ws h1 h2 => match us, ws, h1, h2 with | [_], [_, _], _, _ => rfl) (fun _ => .nil) (fun _ => .nil)
  have G_strengths_behind : ∀ X : Cx, At X ⟨P, w, K, mg, base⟩ N_strengths_behind (defScope s_strengths_behind) 2 → ∀ ds d k, R_strengths_behind ds d k → SS X (env0 7 ds) (defBody s_strengths_behind) { rt := fun d' k' => d' = d ∧ Fits k' k d, nx := fun _ => d = .non ∧ k = .cln } := fun X A ds d k hR => b_strengths_behind A g_len g_max g_range C_ranking C_strengths_of hR
  have C_strengths_behind : Cal ⟨P, w, K, mg, base⟩ "strengths_behind" R_strengths_behind 3 [] := Cal.mk' F_strengths_behind m_strengths_behind (F_strengths_behind.bindsN fun _ _ _ _ _ _ us hl => match us, hl with | [_, _, _], _ => rfl) .nil (fun _ => .nil) fs_strengths_behind (fun _ _ _ ⟨_, _, _, _, h, _⟩ => (congrArg List.length h).trans rfl) (Nat.le_of_ble_eq_true rfl) G_strengths_behind
  have G_least_rents : ∀ X : Cx, At X ⟨P, w, K, mg, base⟩ N_least_rents (defScope s_least_rents) 0 → ∀ ds d k, R_least_rents ds d k → SS X (env0 7 ds) (defBody s_least_rents) { rt := fun d' k' => d' = d ∧ Fits k' k d, nx := fun _ => d = .non ∧ k = .cln } := fun X A ds d k hR => b_least_rents A g_tuple g_zip hR
  have C_least_rents : Cal ⟨P, w, K, mg, base⟩ "least_rents" R_least_rents 1 [] := Cal.mk' F_least_rents m_least_rents (F_least_rents.bindsN fun _ _ _ _ _ _ us hl => match us, hl with | [_, _], _ => rfl) .nil (fun _ => .nil) fs_least_rents (fun _ _ _ ⟨_, _, _, h, _⟩ => (congrArg List.length h).trans rfl) (Nat.le_of_ble_eq_true rfl) G_least_rents
  have G_Allotment_Xinit : ∀ X : Cx, At X ⟨P, w, K, mg, base⟩ N_Allotment_Xinit (defScope s_Allotment_Xinit) 0 → ∀ x dx ds ws, R_Allotment_Xinit ⟨P, w, K, mg, base⟩ ds ws → SI X x (cA ⟨P, w, K, mg, base⟩ "Allotment") dx (env0 4 (.adr x :: ds)) [] (defBody s_Allotment_Xinit) ws := fun X A x dx ds ws hR => b_Allotment_Xinit A cl_Allotment na_Allotment_rents na_Allotment_takers na_Allotment_total hR
  have C_Allotment_Xinit : CalN ⟨P, w, K, mg, base⟩ "Allotment" (cA ⟨P, w, K, mg, base⟩ "Allotment") (R_Allotment_Xinit ⟨P, w, K, mg, base⟩) 1 [] := CalN.mk' F_Allotment_Xinit (by rw [ca_Allotment]; exact He.mkr_ok (c.fact 24 (f := .mkr "Allotment") rfl)) (by rw [ca_Allotment]; exact e_Allotment) (F_Allotment_Xinit.bindsN fun _ _ _ _ _ _ us hl => match us, hl with | [_, _, _, _], _ => rfl) .nil (fun _ => .nil) fs_Allotment_Xinit (fun _ _ ⟨_, _, _, _, h, _⟩ => (congrArg (fun l => List.length l + 1) h).trans rfl) (Nat.le_of_ble_eq_true rfl) G_Allotment_Xinit
  have G_dearest : ∀ X : Cx, At X ⟨P, w, K, mg, base⟩ N_dearest (defScope s_dearest) 3 → ∀ ds d k, (R_dearest ⟨P, w, K, mg, base⟩) ds d k → SS X (env0 13 ds) (defBody s_dearest) { rt := fun d' k' => d' = d ∧ Fits k' k d, nx := fun _ => d = .non ∧ k = .cln } := fun X A ds d k hR => b_dearest A g_len g_sum g_tuple g_zip C_Allotment_Xinit C_check_bidders C_check_floor C_check_rates C_ladder_k1_hours_floor C_least_rents C_strengths_behind hR
  have C_dearest_k2_floor : CalK ⟨P, w, K, mg, base⟩ "dearest" (R_dearest ⟨P, w, K, mg, base⟩) 4 2 ["floor"] (fun a b => pick a [] [] b [.p 0, .p 1, .k 0]) := CalK.of (def_ok F_dearest fs_dearest (fun _ _ _ ⟨_, _, _, _, h, _⟩ => (congrArg List.length h).trans rfl) (Nat.le_of_ble_eq_true rfl) fun X c => G_dearest X c.at_) F_dearest.kp m_dearest (its := []) (mv := []) (dvs := []) (mz := []) (kb_n F_dearest 2 ["floor"] [.p 0, .p 1, .k 0] fun kV doc pm an cdv ct us ws h1 h2 => match us, ws, h1, h2 with | [_, _], [_], _, _ => rfl) (fun _ => .nil) (fun _ => .nil)
  have G_law_ladder : ∀ X : Cx, At X ⟨P, w, K, mg, base⟩ N_law_ladder (defScope s_law_ladder) 0 → ∀ ds d k, R_law_ladder ds d k → SS X (env0 12 ds) (defBody s_law_ladder) { rt := fun d' k' => d' = d ∧ Fits k' k d, nx := fun _ => d = .non ∧ k = .cln } := fun X A ds d k hR => b_law_ladder A g_len g_range g_tuple hR
  have C_law_ladder : Cal ⟨P, w, K, mg, base⟩ "_law_ladder" R_law_ladder 1 [] := Cal.mk' F_law_ladder m_law_ladder (F_law_ladder.bindsN fun _ _ _ _ _ _ us hl => match us, hl with | [_, _, _], _ => rfl) .nil (fun _ => .nil) fs_law_ladder (fun _ _ _ ⟨_, _, _, _, h, _⟩ => (congrArg List.length h).trans rfl) (Nat.le_of_ble_eq_true rfl) G_law_ladder
  have G_law_integer : ∀ X : Cx, At X ⟨P, w, K, mg, base⟩ N_law_integer (defScope s_law_integer) 0 → ∀ ds d k, R_law_integer ds d k → SS X (env0 1 ds) (defBody s_law_integer) { rt := fun d' k' => d' = d ∧ Fits k' k d, nx := fun _ => d = .non ∧ k = .cln } := fun X A ds d k hR => b_law_integer A g_bool g_int g_isinstance hR
  have C_law_integer : Cal ⟨P, w, K, mg, base⟩ "_law_integer" R_law_integer 1 [] := Cal.mk' F_law_integer m_law_integer (F_law_integer.bindsN fun _ _ _ _ _ _ us hl => match us, hl with | [_], _ => rfl) .nil (fun _ => .nil) fs_law_integer (fun _ _ _ ⟨_, _, h, _⟩ => (congrArg List.length h).trans rfl) (Nat.le_of_ble_eq_true rfl) G_law_integer
  have A_law_same : ∀ n, Cal ⟨P, w, K, mg, base⟩ "_law_same" (R_law_same n) (2 + n) [] := fun n => by
    induction n with
    | zero => exact Cal.absurd (lv := 1) F_law_same m_law_same (F_law_same.bindsN fun _ _ _ _ _ _ us hl => match us, hl with | [_, _], _ => rfl) .nil (fun _ => .nil) fs_law_same (Nat.le_of_ble_eq_true rfl) (fun _ _ _ ⟨_, _, _, _, H, _⟩ => nomatch H)
    | succ n ih => exact Cal.mk' (lv := 2 + n) F_law_same m_law_same (F_law_same.bindsN fun _ _ _ _ _ _ us hl => match us, hl with | [_, _], _ => rfl) .nil (fun _ => .nil) fs_law_same (fun _ _ _ ⟨_, _, _, h, _⟩ => (congrArg List.length h).trans rfl) (Nat.le_of_ble_eq_true rfl) (fun X A ds d k hR => b_law_same A g_int g_isinstance g_len g_list g_range g_str g_tuple C_law_integer ih hR)
  have C_law_same := A_law_same 8
  have G_law_integer_2 : ∀ X : Cx, At X ⟨P, w, K, mg, base⟩ N_law_integer_2 (defScope s_law_integer) 0 → ∀ ds d k, R_law_integer_2 ds d k → SS X (env0 1 ds) (defBody s_law_integer) { rt := fun d' k' => d' = d ∧ Fits k' k d, nx := fun _ => d = .non ∧ k = .cln } := fun X A ds d k hR => b_law_integer_2 A g_bool g_int g_isinstance hR
  have C_law_integer_2 : Cal ⟨P, w, K, mg, base⟩ "_law_integer" R_law_integer_2 1 [] := Cal.mk' F_law_integer m_law_integer (F_law_integer.bindsN fun _ _ _ _ _ _ us hl => match us, hl with | [_], _ => rfl) .nil (fun _ => .nil) fs_law_integer_2 (fun _ _ _ ⟨_, _, h, _⟩ => (congrArg List.length h).trans rfl) (Nat.le_of_ble_eq_true rfl) G_law_integer_2
  have G_law_ways : ∀ X : Cx, At X ⟨P, w, K, mg, base⟩ N_law_ways (defScope s_law_ways) 0 → ∀ ds d k, R_law_ways ds d k → SS X (env0 9 ds) (defBody s_law_ways) { rt := fun d' k' => d' = d ∧ Fits k' k d, nx := fun _ => d = .non ∧ k = .cln } := fun X A ds d k hR => b_law_ways A g_len g_list g_range hR
  have C_law_ways : Cal ⟨P, w, K, mg, base⟩ "_law_ways" R_law_ways 1 [] := Cal.mk' F_law_ways m_law_ways (F_law_ways.bindsN fun _ _ _ _ _ _ us hl => match us, hl with | [_, _, _], _ => rfl) .nil (fun _ => .nil) fs_law_ways (fun _ _ _ ⟨_, _, _, _, h, _⟩ => (congrArg List.length h).trans rfl) (Nat.le_of_ble_eq_true rfl) G_law_ways
  have G_law_is_dearest : ∀ X : Cx, At X ⟨P, w, K, mg, base⟩ N_law_is_dearest (defScope s_law_is_dearest) 10 → ∀ ds d k, (R_law_is_dearest ⟨P, w, K, mg, base⟩) ds d k → SS X (env0 15 ds) (defBody s_law_is_dearest) { rt := fun d' k' => d' = d ∧ Fits k' k d, nx := fun _ => d = .non ∧ k = .cln } := fun X A ds d k hR => b_law_is_dearest A cl_Allotment gc_Allotment in_Allotment na_Allotment_takers na_Allotment_total g_isinstance g_len g_range g_tuple C_law_integer_2 C_law_ladder C_law_same C_law_ways hR
  have C_law_is_dearest : Cal ⟨P, w, K, mg, base⟩ "_law_is_dearest" (R_law_is_dearest ⟨P, w, K, mg, base⟩) 11 [] := Cal.mk' F_law_is_dearest m_law_is_dearest (F_law_is_dearest.bindsN fun _ _ _ _ _ _ us hl => match us, hl with | [_, _, _, _], _ => rfl) .nil (fun _ => .nil) fs_law_is_dearest (fun _ _ _ ⟨_, _, _, _, _, h, _⟩ => (congrArg List.length h).trans rfl) (Nat.le_of_ble_eq_true rfl) G_law_is_dearest
  have G_names_of_2 : ∀ X : Cx, At X ⟨P, w, K, mg, base⟩ N_names_of_2 (defScope s_names_of) 0 → ∀ ds d k, R_names_of_2 ds d k → SS X (env0 4 ds) (defBody s_names_of) { rt := fun d' k' => d' = d ∧ Fits k' k d, nx := fun _ => d = .non ∧ k = .cln } := fun X A ds d k hR => b_names_of_2 A  hR
  have C_names_of_2 : Cal ⟨P, w, K, mg, base⟩ "names_of" R_names_of_2 1 [] := Cal.mk' F_names_of m_names_of (F_names_of.bindsN fun _ _ _ _ _ _ us hl => match us, hl with | [_], _ => rfl) .nil (fun _ => .nil) fs_names_of_2 (fun _ _ _ ⟨_, _, h, _⟩ => (congrArg List.length h).trans rfl) (Nat.le_of_ble_eq_true rfl) G_names_of_2
  have G_check_bidders_2 : ∀ X : Cx, At X ⟨P, w, K, mg, base⟩ N_check_bidders_2 (defScope s_check_bidders) 1 → ∀ ds d k, R_check_bidders_2 ds d k → SS X (env0 5 ds) (defBody s_check_bidders) { rt := fun d' k' => d' = d ∧ Fits k' k d, nx := fun _ => d = .non ∧ k = .cln } := fun X A ds d k hR => b_check_bidders_2 A g_LARGEST_BID g_LARGEST_WEIGHT g_MOST_BIDDERS g_enumerate g_len C_is_name C_names_of_2 hR
  have C_check_bidders_2 : Cal ⟨P, w, K, mg, base⟩ "check_bidders" R_check_bidders_2 2 [] := Cal.mk' F_check_bidders m_check_bidders (F_check_bidders.bindsN fun _ _ _ _ _ _ us hl => match us, hl with | [_], _ => rfl) .nil (fun _ => .nil) fs_check_bidders_2 (fun _ _ _ ⟨_, _, h, _⟩ => (congrArg List.length h).trans rfl) (Nat.le_of_ble_eq_true rfl) G_check_bidders_2
  have G_check_rates_2 : ∀ X : Cx, At X ⟨P, w, K, mg, base⟩ N_check_rates_2 (defScope s_check_rates) 0 → ∀ ds d k, R_check_rates_2 ds d k → SS X (env0 3 ds) (defBody s_check_rates) { rt := fun d' k' => d' = d ∧ Fits k' k d, nx := fun _ => d = .non ∧ k = .cln } := fun X A ds d k hR => b_check_rates_2 A g_LARGEST_RATE g_MOST_RATES g_len hR
  have C_check_rates_2 : Cal ⟨P, w, K, mg, base⟩ "check_rates" R_check_rates_2 1 [] := Cal.mk' F_check_rates m_check_rates (F_check_rates.bindsN fun _ _ _ _ _ _ us hl => match us, hl with | [_], _ => rfl) .nil (fun _ => .nil) fs_check_rates_2 (fun _ _ _ ⟨_, _, h, _⟩ => (congrArg List.length h).trans rfl) (Nat.le_of_ble_eq_true rfl) G_check_rates_2
  have G_strengths_of_2 : ∀ X : Cx, At X ⟨P, w, K, mg, base⟩ N_strengths_of_2 (defScope s_strengths_of) 0 → ∀ ds d k, R_strengths_of_2 ds d k → SS X (env0 4 ds) (defBody s_strengths_of) { rt := fun d' k' => d' = d ∧ Fits k' k d, nx := fun _ => d = .non ∧ k = .cln } := fun X A ds d k hR => b_strengths_of_2 A  hR
  have C_strengths_of_2 : Cal ⟨P, w, K, mg, base⟩ "strengths_of" R_strengths_of_2 1 [] := Cal.mk' F_strengths_of m_strengths_of (F_strengths_of.bindsN fun _ _ _ _ _ _ us hl => match us, hl with | [_], _ => rfl) .nil (fun _ => .nil) fs_strengths_of_2 (fun _ _ _ ⟨_, _, h, _⟩ => (congrArg List.length h).trans rfl) (Nat.le_of_ble_eq_true rfl) G_strengths_of_2
  have G_ranking_2 : ∀ X : Cx, At X ⟨P, w, K, mg, base⟩ N_ranking_2 (defScope s_ranking) 1 → ∀ ds d k, R_ranking_2 ds d k → SS X (env0 4 ds) (defBody s_ranking) { rt := fun d' k' => d' = d ∧ Fits k' k d, nx := fun _ => d = .non ∧ k = .cln } := fun X A ds d k hR => b_ranking_2 A g_enumerate g_sorted C_strengths_of_2 hR
  have C_ranking_2 : Cal ⟨P, w, K, mg, base⟩ "ranking" R_ranking_2 2 [] := Cal.mk' F_ranking m_ranking (F_ranking.bindsN fun _ _ _ _ _ _ us hl => match us, hl with | [_], _ => rfl) .nil (fun _ => .nil) fs_ranking_2 (fun _ _ _ ⟨_, _, h, _⟩ => (congrArg List.length h).trans rfl) (Nat.le_of_ble_eq_true rfl) G_ranking_2
  have G_ladder_2 : ∀ X : Cx, At X ⟨P, w, K, mg, base⟩ N_ladder_2 (defScope s_ladder) 2 → ∀ ds d k, R_ladder_2 ds d k → SS X (env0 6 ds) (defBody s_ladder) { rt := fun d' k' => d' = d ∧ Fits k' k d, nx := fun _ => d = .non ∧ k = .cln } := fun X A ds d k hR => b_ladder_2 A g_tuple C_check_bidders_2 C_check_floor C_check_hours C_ranking_2 C_strengths_of_2 hR
  have C_ladder_2_k1_hours_floor : CalK ⟨P, w, K, mg, base⟩ "ladder" R_ladder_2 3 1 ["hours", "floor"] (fun a b => pick a [] [] b [.p 0, .k 0, .k 1]) := CalK.of (def_ok F_ladder fs_ladder_2 (fun _ _ _ ⟨_, _, _, _, h, _⟩ => (congrArg List.length h).trans rfl) (Nat.le_of_ble_eq_true rfl) fun X c => G_ladder_2 X c.at_) F_ladder.kp m_ladder (its := []) (mv := []) (dvs := []) (mz := []) (kb_n F_ladder 1 ["hours", "floor"] [.p 0, .k 0, .k 1] fun kV doc pm an cdv ct us ws h1 h2 => match us, ws, h1, h2 with | [_], [_, _], _, _ => rfl) (fun _ => .nil) (fun _ => .nil)
  have G_strengths_behind_2 : ∀ X : Cx, At X ⟨P, w, K, mg, base⟩ N_strengths_behind_2 (defScope s_strengths_behind) 2 → ∀ ds d k, R_strengths_behind_2 ds d k → SS X (env0 7 ds) (defBody s_strengths_behind) { rt := fun d' k' => d' = d ∧ Fits k' k d, nx := fun _ => d = .non ∧ k = .cln } := fun X A ds d k hR => b_strengths_behind_2 A g_len g_max g_range C_ranking_2 C_strengths_of_2 hR
  have C_strengths_behind_2 : Cal ⟨P, w, K, mg, base⟩ "strengths_behind" R_strengths_behind_2 3 [] := Cal.mk' F_strengths_behind m_strengths_behind (F_strengths_behind.bindsN fun _ _ _ _ _ _ us hl => match us, hl with | [_, _, _], _ => rfl) .nil (fun _ => .nil) fs_strengths_behind_2 (fun _ _ _ ⟨_, _, _, _, h, _⟩ => (congrArg List.length h).trans rfl) (Nat.le_of_ble_eq_true rfl) G_strengths_behind_2
  have G_least_rents_2 : ∀ X : Cx, At X ⟨P, w, K, mg, base⟩ N_least_rents_2 (defScope s_least_rents) 0 → ∀ ds d k, R_least_rents_2 ds d k → SS X (env0 7 ds) (defBody s_least_rents) { rt := fun d' k' => d' = d ∧ Fits k' k d, nx := fun _ => d = .non ∧ k = .cln } := fun X A ds d k hR => b_least_rents_2 A g_tuple g_zip hR
  have C_least_rents_2 : Cal ⟨P, w, K, mg, base⟩ "least_rents" R_least_rents_2 1 [] := Cal.mk' F_least_rents m_least_rents (F_least_rents.bindsN fun _ _ _ _ _ _ us hl => match us, hl with | [_, _], _ => rfl) .nil (fun _ => .nil) fs_least_rents_2 (fun _ _ _ ⟨_, _, _, h, _⟩ => (congrArg List.length h).trans rfl) (Nat.le_of_ble_eq_true rfl) G_least_rents_2
  have G_dearest_2 : ∀ X : Cx, At X ⟨P, w, K, mg, base⟩ N_dearest_2 (defScope s_dearest) 3 → ∀ ds d k, (R_dearest_2 ⟨P, w, K, mg, base⟩) ds d k → SS X (env0 13 ds) (defBody s_dearest) { rt := fun d' k' => d' = d ∧ Fits k' k d, nx := fun _ => d = .non ∧ k = .cln } := fun X A ds d k hR => b_dearest_2 A g_len g_sum g_tuple g_zip C_Allotment_Xinit C_check_bidders_2 C_check_floor C_check_rates_2 C_ladder_2_k1_hours_floor C_least_rents_2 C_strengths_behind_2 hR
  obtain ⟨mv_C_dearest_2_k0_bidders_rates, kb_C_dearest_2_k0_bidders_rates⟩ := kb_0 (ps := ["bidders", "rates", "floor"]) F_dearest 0 ["bidders", "rates"] [("floor", .int (0))] [.k 0, .k 1, .m 0] (by simp) (by simp) fun D doc pm an cdv ct us mv ws h1 h2 h3 => match us, mv, ws, h1, h2, h3 with | [], [_], [_, _], _, _, _ => ⟨_, _, _, _, _, _, rfl, rfl, rfl⟩
  have C_dearest_2_k0_bidders_rates : CalK ⟨P, w, K, mg, base⟩ "dearest" (R_dearest_2 ⟨P, w, K, mg, base⟩) 4 0 ["bidders", "rates"] (fun a b => pick a [] [(D.int (0 : Int))] b [.k 0, .k 1, .m 0]) := CalK.of (def_ok F_dearest fs_dearest_2 (fun _ _ _ ⟨_, _, _, _, h, _⟩ => (congrArg List.length h).trans rfl) (Nat.le_of_ble_eq_true rfl) fun X c => G_dearest_2 X c.at_) F_dearest.kp m_dearest (its := []) (dvs := []) kb_C_dearest_2_k0_bidders_rates (fun _ => .nil) (fun _ => .cons (.int _) (.nil))
  obtain ⟨dus_C_dearest_2_p2, hv_C_dearest_2_p2, bd_C_dearest_2_p2⟩ := F_dearest.binds0 (ps := ["bidders", "rates", "floor"]) 2 (by simp) rfl fun D doc pm an cdv ct us ks h1 h2 => match us, ks, h1, h2 with | [_, _], [_], _, _ => ⟨_, _, _, _, _, _, rfl, rfl, rfl⟩
  have C_dearest_2_p2 : Cal ⟨P, w, K, mg, base⟩ "dearest" (R_dearest_2 ⟨P, w, K, mg, base⟩) 4 [(D.int (0 : Int))] := Cal.mk' F_dearest m_dearest bd_C_dearest_2_p2 hv_C_dearest_2_p2 (fun _ => .cons (.int _) (.nil)) fs_dearest_2 (fun _ _ _ ⟨_, _, _, _, h, _⟩ => (congrArg List.length h).trans rfl) (Nat.le_of_ble_eq_true rfl) G_dearest_2
  have G_law_one_half : ∀ X : Cx, At X ⟨P, w, K, mg, base⟩ N_law_one_half (defScope s_law_one_half) 11 → ∀ ds d k, R_law_one_half ds d k → SS X (env0 7 ds) (defBody s_law_one_half) { rt := fun d' k' => d' = d ∧ Fits k' k d, nx := fun _ => d = .non ∧ k = .cln } := fun X A ds d k hR => b_law_one_half A g_list g_tuple C_dearest_2_k0_bidders_rates C_dearest_k2_floor C_law_bidders C_law_cell C_law_is_dearest C_law_part C_law_pool C_law_same C_law_scale C_law_sill hR
  have C_law_one_half : Cal ⟨P, w, K, mg, base⟩ "_law_one_half" R_law_one_half 12 [] := Cal.mk' F_law_one_half m_law_one_half (F_law_one_half.bindsN fun _ _ _ _ _ _ us hl => match us, hl with | [_], _ => rfl) .nil (fun _ => .nil) fs_law_one_half (fun _ _ _ ⟨_, _, h, _⟩ => (congrArg List.length h).trans rfl) (Nat.le_of_ble_eq_true rfl) G_law_one_half
  have G_law_holds : ∀ X : Cx, At X ⟨P, w, K, mg, base⟩ N_law_holds (defScope s_law_holds) 1 → ∀ ds d k, R_law_holds ds d k → SS X (env0 11 ds) (defBody s_law_holds) { rt := fun d' k' => d' = d ∧ Fits k' k d, nx := fun _ => d = .non ∧ k = .cln } := fun X A ds d k hR => b_law_holds A g_len g_range C_law_ladder hR
  have C_law_holds : Cal ⟨P, w, K, mg, base⟩ "_law_holds" R_law_holds 2 [] := Cal.mk' F_law_holds m_law_holds (F_law_holds.bindsN fun _ _ _ _ _ _ us hl => match us, hl with | [_, _, _, _], _ => rfl) .nil (fun _ => .nil) fs_law_holds (fun _ _ _ ⟨_, _, _, _, _, h, _⟩ => (congrArg List.length h).trans rfl) (Nat.le_of_ble_eq_true rfl) G_law_holds
  have G_law_rents_kept : ∀ X : Cx, At X ⟨P, w, K, mg, base⟩ N_law_rents_kept (defScope s_law_rents_kept) 2 → ∀ ds d k, (R_law_rents_kept ⟨P, w, K, mg, base⟩) ds d k → SS X (env0 5 ds) (defBody s_law_rents_kept) { rt := fun d' k' => d' = d ∧ Fits k' k d, nx := fun _ => d = .non ∧ k = .cln } := fun X A ds d k hR => b_law_rents_kept A cl_Allotment na_Allotment_rents g_isinstance g_len g_tuple C_law_holds C_law_integer_2 hR
  have C_law_rents_kept : Cal ⟨P, w, K, mg, base⟩ "_law_rents_kept" (R_law_rents_kept ⟨P, w, K, mg, base⟩) 3 [] := Cal.mk' F_law_rents_kept m_law_rents_kept (F_law_rents_kept.bindsN fun _ _ _ _ _ _ us hl => match us, hl with | [_, _, _, _], _ => rfl) .nil (fun _ => .nil) fs_law_rents_kept (fun _ _ _ ⟨_, _, _, _, _, h, _⟩ => (congrArg List.length h).trans rfl) (Nat.le_of_ble_eq_true rfl) G_law_rents_kept
  have G_law_other_half : ∀ X : Cx, At X ⟨P, w, K, mg, base⟩ N_law_other_half (defScope s_law_other_half) 10 → ∀ ds d k, R_law_other_half ds d k → SS X (env0 7 ds) (defBody s_law_other_half) { rt := fun d' k' => d' = d ∧ Fits k' k d, nx := fun _ => d = .non ∧ k = .cln } := fun X A ds d k hR => b_law_other_half A g_list g_tuple C_dearest_2_p2 C_dearest_k2_floor C_law_bidders C_law_cell C_law_part C_law_pool C_law_rents_kept C_law_same C_law_scale C_law_sill hR
  have C_law_other_half : Cal ⟨P, w, K, mg, base⟩ "_law_other_half" R_law_other_half 11 [] := Cal.mk' F_law_other_half m_law_other_half (F_law_other_half.bindsN fun _ _ _ _ _ _ us hl => match us, hl with | [_], _ => rfl) .nil (fun _ => .nil) fs_law_other_half (fun _ _ _ ⟨_, _, h, _⟩ => (congrArg List.length h).trans rfl) (Nat.le_of_ble_eq_true rfl) G_law_other_half
  have G_law : ∀ X : Cx, At X ⟨P, w, K, mg, base⟩ N_law (defScope s_law) 12 → ∀ ds d k, R_law ds d k → SS X (env0 1 ds) (defBody s_law) { rt := fun d' k' => d' = d ∧ Fits k' k d, nx := fun _ => d = .non ∧ k = .cln } := fun X A ds d k hR => b_law A C_law_one_half C_law_other_half hR
  exact def_ok F_law fs_law (fun _ _ _ ⟨_, _, h, _⟩ => (congrArg List.length h).trans rfl) (Nat.le_of_ble_eq_true rfl) fun X c => G_law X c.at_
end
end K17
open PySem PySem.W PySem.Calls PyProof.Rows
theorem PySem.Challenge.cw_turnkeepers_k17_whole_dearest_rents_holds : PySem.Challenge.rw_turnkeepers_k17_whole_dearest_rents.Holds := by
  w_on; o_law
  refine HandSHeadRun.head_any (r := OpenLaw.row PySem.Challenge.rw_turnkeepers_k17_whole_dearest_rents) (q := view (OpenLaw.row PySem.Challenge.rw_turnkeepers_k17_whole_dearest_rents).prog [51]) (H := Hd.hk) (ob := Hd.ob) (M := 40000) (loose := Hd.names) (d := HandSHeadRun.topDef (OpenLaw.row PySem.Challenge.rw_turnkeepers_k17_whole_dearest_rents).prog 51) (kwd := []) Hd.ob_eq
    (by kernel_rfl) (fun s => by kernel_rfl) Hd.run (by kernel_rfl) (by kernel_rfl) (by kernel_rfl) (by rfl) (by first | assumption | decide +kernel) (by decide +kernel) ⟨rfl, rfl, rfl, rfl, rfl, by decide +kernel⟩ ?hw ?hc
  case hw => w_witness2
  case hc =>
    refine L2.walk_ofE (l := PySem.Challenge.rw_turnkeepers_k17_whole_dearest_rents) (n := 63) (k := 13) (x := "script") (CX := L2.CX0) rfl (by decide) (by kernel_rfl) ⟨rfl, by decide, by decide⟩ ?F (fun _ _ _ _ z => z)
    intro w mg fa h Y G hmg0
    obtain ⟨K, KX, c⟩ := Y
    have hmg : mg ("law" : PySem.Str) = some (.ref fa) := by
      have e : (HandSHeadRun.topDef (OpenLaw.row PySem.Challenge.rw_turnkeepers_k17_whole_dearest_rents).prog 51).name = ("law" : PySem.Str) := by kernel_rfl
      rw [← e]
      exact hmg0
    obtain ⟨fd, hb, hF⟩ := K17.facts (P := (PySem.Challenge.rw_turnkeepers_k17_whole_dearest_rents).prog) (w := w) KX G hmg c
    exact ⟨K, fd, DL.FnSp K K17.R_law, KX, hb, fun H a ns hl _ hS => DL.sp_law hS ⟨ns, true, rfl, K17.Plain.main ns hl, rfl, rfl⟩, hF⟩
