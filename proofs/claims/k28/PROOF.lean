import PyProof.Rows.All
import Wide.All
import OpenK.AllK
import Wide.FinOn
import HandS.ForMost
import HandS.Exc
import HandS.TryOnly
import HandS.ExcOwn
import HandS.WordsExc
import HandS.TupAny
import HandS.Style
import HandS.TupMul
import PyProof.Rows.IntBool
import HandS.Replace
import HandS.Walk
import HandS.CallSlots
import HandS.IsInst
import HandS.Conv
import HandS.DictTup
import KE.KDictCopyH
import HandS.Deep
import HandS.Text
import KE.KRevSl
import HandS.Codes
import HandS.Zip
import KE.GoesMore
import HandS.MakeKw
import KE.KCallOwn
import HandS.FStr
import KE.KxMul
import HandS.Flow
import HandS.Dict
import HandS.IntHex
import HandS.More
import HandS.SortOrd
import HandS.SortRule
import HandS.ExcValue
import HandS.ExcIs
import HandS.ExcField
import KE.KExcIs
import HandS.OwnEq
import HandS.ReplaceLit
import HandS.ReplaceList
import PyProof.Rows.StrSplitCount
import HandS.ExcInit
import KE.KExcInit
import KE.KDictPairs
import KE.KDictKeyed
import PyProof.EqKinds
import HandS.Small
import HandS.Records
import KE.GoesZip
import KE.KTupSum
import HandS.SortInts
import KE.SortData
import PySem.Challenge.RW_glovepairs_k28_as_many_as_can_be
set_option Elab.async false
set_option autoImplicit false
set_option linter.all false
set_option maxRecDepth 100000
set_option maxHeartbeats 0
/-! # G1: values, heaps, results of the functional layer; how they stand for the hand layer's -/
namespace G
open PySem PySem.Spec PyProof.Rows L2

/-- a value: lists that nobody changes stand by themselves (lst; the script: scr), those that are changed by their number in the heap (ref) -/
inductive Tn where
  | int | str | bool | tup | lst | dct
  deriving DecidableEq
def Tn.nm : Tn → String
  | .int => "int" | .str => "str" | .bool => "bool" | .tup => "tuple" | .lst => "list" | .dct => "dict"
inductive D where
  | non | bl (b : Bool) | int (i : Int) | str (s : Str) | tup (ds : List D) | lst (ds : List D) | scr (ds : List D) | ref (n : Nat) | ty (t : Tn) | ctp (ds : List D) | dct (ks : List Key) (ds : List D) | dtp (ks : List (List Key)) (ds : List D) | dlk (ks : List Key) (ds : List D) | dlt (ks : List (List Key)) (ds : List D) | ins (c : Str) (ks : List Str) (ds : List D) | glb (x : Str) | exn (c : Str) (ks : List Str) (ds : List D)
inductive O where
  | lst (ds : List D) | dk (kvs : List (Key × D)) | dt (kvs : List (List Key × D)) | ins (c : Str) (fs : List (Str × D)) | lkd (o : O)
abbrev Hs := List O
inductive R (α : Type) where
  | ok (a : α) (h : Hs) | exc (c : Str) (fs : List (Str × D)) (h : Hs) | bad
abbrev Ev := List (Option D)
inductive SR where
  | nx (e : Ev) (h : Hs) | ret (d : D) (h : Hs) | brk (e : Ev) (h : Hs) | cnt (e : Ev) (h : Hs) | exc (c : Str) (fs : List (Str × D)) (e : Ev) (h : Hs) | bad
abbrev FE := Ev → Hs → R D
abbrev FS := Ev → Hs → SR
/-- a test -/
abbrev FT := Ev → Hs → R Bool
abbrev FA := Ev → Hs → R (List D)

def R.bind {α β : Type} (r : R α) (k : α → Hs → R β) : R β := match r with
  | .ok a h => k a h
  | .exc c fs h => .exc c fs h
  | .bad => .bad
@[simp] theorem R.bind_ok {α β : Type} (a : α) (h : Hs) (k : α → Hs → R β) : (R.ok a h).bind k = k a h := rfl
@[simp] theorem R.bind_exc {α β : Type} (c : Str) (fs : List (Str × D)) (h : Hs) (k : α → Hs → R β) : (R.exc c fs h).bind k = .exc c fs h := rfl
@[simp] theorem R.bind_bad {α β : Type} (k : α → Hs → R β) : (R.bad).bind k = .bad := rfl

/-! ### how they stand for the hand layer's -/
/-- where our objects stand; which lists stand still from now on -/
structure Mp where
  l : List Addr
  fz : Addr → Prop
/-- a tuple, the script: tracked and not ours, or an object of the module -/
def StT (K : PySem.W.Frag) (mu : Mp) (H : Hp) (a : Addr) (vs : List V) : Prop := H a = some (.tup vs) ∧ a ∉ mu.l
def StL (K : PySem.W.Frag) (mu : Mp) (H : Hp) (a : Addr) (vs : List V) : Prop := ((∃ o, H a = some (.frz o (.lst vs))) ∧ a ∉ mu.l) ∨ SqL K (fun _ => none) a vs
theorem StT.sq {K : PySem.W.Frag} {mu : Mp} {H : Hp} {a : Addr} {vs : List V} (h : StT K mu H a vs) : SqT K H a vs := .inl (.inl h.1)
theorem sqT_c {K : PySem.W.Frag} {H : Hp} {a : Addr} {vs : List V} (h : SqT K (fun _ => none) a vs) : SqT K H a vs := by
  rcases h with (h | ⟨o, h⟩) | h
  · cases h
  · cases h
  · exact .inr h
theorem StL.sq {K : PySem.W.Frag} {mu : Mp} {H : Hp} {a : Addr} {vs : List V} (h : StL K mu H a vs) : SqL K H a vs := by
  rcases h with ⟨⟨o, h⟩, _⟩ | (h | ⟨o, h⟩) | h
  · exact .inl (.inr ⟨o, h⟩)
  · cases h
  · cases h
  · exact .inr h
/-- an exception's object of the class C at a, with that dict -/
def ExPl (C : Addr) (d : Option Addr) (a : Addr) (h : Heap) : Prop := ∃ (oe : Obj) (us : Array Value), h.get? a = some oe ∧ Zc (.ref C) d oe ∧ oe.data = .fields us
def StE (mu : Mp) (H : Hp) (C : Addr) (d : Option Addr) (a : Addr) : Prop := a ∉ mu.l ∧ ∃ φ, H a = some (.ext φ) ∧ ∀ h, φ h → ExPl C d a h
/-- locked, not ours -/
def StF (mu : Mp) (H : Hp) (a : Addr) (u : HO) : Prop := (∃ o, H a = some (.frz o u)) ∧ a ∉ mu.l
def StX (mu : Mp) (H : Hp) (b : Addr) (kvs : List (Str × V)) : Prop := H b = some (.xd kvs) ∧ b ∉ mu.l
mutual
inductive RD (K : PySem.W.Frag) (mu : Mp) (H : Hp) : D → V → Prop
  | non : RD K mu H .non .non
  | bl (b : Bool) : RD K mu H (.bl b) (.bl b)
  | int (i : Int) : RD K mu H (.int i) (.int i)
  | str (s : Str) : RD K mu H (.str s) (.str s)
  | tup {a : Addr} {vs : List V} {ds : List D} : StT K mu H a vs → RDs K mu H ds vs → RD K mu H (.tup ds) (.ref a)
  | lst {a : Addr} {vs : List V} {ds : List D} : H a = some (.lst vs) → mu.fz a → RDs K mu H ds vs → RD K mu H (.lst ds) (.ref a)
  | scr {a : Addr} {vs : List V} {ds : List D} : StL K mu H a vs → RDs K mu H ds vs → RD K mu H (.scr ds) (.ref a)
  | ref {n : Nat} {a : Addr} : mu.l[n]? = some a → RD K mu H (.ref n) (.ref a)
  | ty (t : Tn) : RD K mu H (.ty t) (.ty t.nm)
  | ctp {a : Addr} {vs : List V} {ds : List D} : SqT K (fun _ => none) a vs → RDs K mu H ds vs → RD K mu H (.ctp ds) (.ref a)
  | dct {a : Addr} {ks : List Key} {vs : List V} {ds : List D} : H a = some (.dK (ks.zip vs)) → mu.fz a → ks.length = ds.length → RDs K mu H ds vs → RD K mu H (.dct ks ds) (.ref a)
  | dtp {a : Addr} {ks : List (List Key)} {vs : List V} {ds : List D} : H a = some (.dT (ks.zip vs)) → mu.fz a → ks.length = ds.length → RDs K mu H ds vs → RD K mu H (.dtp ks ds) (.ref a)
  | dlk {a : Addr} {ks : List Key} {vs : List V} {ds : List D} : StF mu H a (.dK (ks.zip vs)) → ks.length = ds.length → RDs K mu H ds vs → RD K mu H (.dlk ks ds) (.ref a)
  | dlt {a : Addr} {ks : List (List Key)} {vs : List V} {ds : List D} : StF mu H a (.dT (ks.zip vs)) → ks.length = ds.length → RDs K mu H ds vs → RD K mu H (.dlt ks ds) (.ref a)
  | ins {a C dx : Addr} {c : Str} {ks : List Str} {vs : List V} {ds : List D} : PySem.W.nsIn K mainGlobals c = some (some (.ref C)) → H a = some (.ins C dx (ks.zip vs)) → mu.fz a → ks.length = ds.length → RDs K mu H ds vs → RD K mu H (.ins c ks ds) (.ref a)
  | glb {x : Str} {C : Addr} : PySem.W.nsIn K mainGlobals x = some (some (.ref C)) → RD K mu H (.glb x) (.ref C)
  | exn0 {a C : Addr} {c : Str} : PySem.W.nsIn K mainGlobals c = some (some (.ref C)) → StE mu H C none a → RD K mu H (.exn c [] []) (.ref a)
  | exnd {a C b : Addr} {c : Str} {ks : List Str} {vs : List V} {ds : List D} : PySem.W.nsIn K mainGlobals c = some (some (.ref C)) → StE mu H C (some b) a → StX mu H b (ks.zip vs) → ks.length = ds.length → RDs K mu H ds vs → RD K mu H (.exn c ks ds) (.ref a)
inductive RDs (K : PySem.W.Frag) (mu : Mp) (H : Hp) : List D → List V → Prop
  | nil : RDs K mu H [] []
  | cons {d : D} {v : V} {ds : List D} {vs : List V} : RD K mu H d v → RDs K mu H ds vs → RDs K mu H (d :: ds) (v :: vs)
end

/-- what never changes -/
def Imm : HO → Prop
  | .tup _ => True
  | .frz _ _ => True
  | .ext _ => True
  | .xd _ => True
  | _ => False
/-- enough is as it was for all values to stand -/
structure Agr (mu : Mp) (H : Hp) (mu' : Mp) (H' : Hp) : Prop where
  pre : mu.l <+: mu'.l
  sub : ∀ a, mu.fz a → mu'.fz a
  lst : ∀ a o, H a = some o → mu.fz a → H' a = some o
  imm : ∀ a o, H a = some o → Imm o → a ∉ mu.l → H' a = some o ∧ a ∉ mu'.l
/-- later: what was not ours stands as it was, and does not become ours, nor one of those that stand still -/
structure Lat (mu : Mp) (H : Hp) (mu' : Mp) (H' : Hp) : Prop where
  pre : mu.l <+: mu'.l
  sub : ∀ a, mu.fz a → mu'.fz a
  ext : ∀ a o, H a = some o → a ∉ mu.l → H' a = some o ∧ a ∉ mu'.l ∧ (mu'.fz a → mu.fz a)
theorem Lat.refl {mu : Mp} {H : Hp} : Lat mu H mu H := ⟨List.prefix_rfl, fun _ h => h, fun _ _ h n => ⟨h, n, fun z => z⟩⟩
theorem Lat.trans {m0 m1 m2 : Mp} {H0 H1 H2 : Hp} (a : Lat m0 H0 m1 H1) (b : Lat m1 H1 m2 H2) : Lat m0 H0 m2 H2 :=
  ⟨a.pre.trans b.pre, fun x h => b.sub x (a.sub x h), fun x o h n => let ⟨h1, n1, z1⟩ := a.ext x o h n; let ⟨h2, n2, z2⟩ := b.ext x o h1 n1; ⟨h2, n2, fun z => z1 (z2 z)⟩⟩
theorem Agr.get {mu mu' : Mp} {H H' : Hp} (l : Agr mu H mu' H') {n : Nat} {a : Addr} (e : mu.l[n]? = some a) : mu'.l[n]? = some a := by
  obtain ⟨t, e2⟩ := l.pre
  rw [← e2, List.getElem?_append_left (List.getElem?_eq_some_iff.mp e).1]
  exact e
/-- what is new later was new ahead -/
theorem Lat.back {mu mu' : Mp} {H H' : Hp} (l : Lat mu H mu' H') {a : Addr} (h : H' a = none) (n : a ∉ mu.l) : H a = none := by
  cases q : H a with
  | none => rfl
  | some o => rw [(l.ext a o q n).1] at h; cases h
theorem Agr.stT {K : PySem.W.Frag} {mu mu' : Mp} {H H' : Hp} (l : Agr mu H mu' H') {a : Addr} {vs : List V} (q : StT K mu H a vs) : StT K mu' H' a vs :=
  ⟨(l.imm _ _ q.1 trivial q.2).1, (l.imm _ _ q.1 trivial q.2).2⟩
theorem Agr.stL {K : PySem.W.Frag} {mu mu' : Mp} {H H' : Hp} (l : Agr mu H mu' H') {a : Addr} {vs : List V} (q : StL K mu H a vs) : StL K mu' H' a vs := by
  rcases q with ⟨⟨o, h⟩, n⟩ | q
  · exact .inl ⟨⟨o, (l.imm _ _ h trivial n).1⟩, (l.imm _ _ h trivial n).2⟩
  · exact .inr q
theorem Agr.stE {mu mu' : Mp} {H H' : Hp} (l : Agr mu H mu' H') {C : Addr} {d : Option Addr} {a : Addr} (q : StE mu H C d a) : StE mu' H' C d a := by
  obtain ⟨n, φ, h, i⟩ := q
  exact ⟨(l.imm _ _ h trivial n).2, φ, (l.imm _ _ h trivial n).1, i⟩
theorem Agr.stF {mu mu' : Mp} {H H' : Hp} (l : Agr mu H mu' H') {a : Addr} {u : HO} (q : StF mu H a u) : StF mu' H' a u := by
  obtain ⟨⟨o, h⟩, n⟩ := q
  exact ⟨⟨o, (l.imm _ _ h trivial n).1⟩, (l.imm _ _ h trivial n).2⟩
theorem Agr.stX {mu mu' : Mp} {H H' : Hp} (l : Agr mu H mu' H') {b : Addr} {kvs : List (Str × V)} (q : StX mu H b kvs) : StX mu' H' b kvs :=
  ⟨(l.imm _ _ q.1 trivial q.2).1, (l.imm _ _ q.1 trivial q.2).2⟩

section
variable {K : PySem.W.Frag} {mu mu' : Mp} {H H' : Hp}
mutual
theorem RD.agr (l : Agr mu H mu' H') : ∀ {d : D} {v : V}, RD K mu H d v → RD K mu' H' d v
  | _, _, .non => .non
  | _, _, .bl b => .bl b
  | _, _, .int i => .int i
  | _, _, .str s => .str s
  | _, _, .tup q r => .tup (l.stT q) (RDs.agr l r)
  | _, _, .lst q n r => .lst (l.lst _ _ q n) (l.sub _ n) (RDs.agr l r)
  | _, _, .scr q r => .scr (l.stL q) (RDs.agr l r)
  | _, _, .ref e => .ref (l.get e)
  | _, _, .ty t => .ty t
  | _, _, .ctp q r => .ctp q (RDs.agr l r)
  | _, _, .dct q n z r => .dct (l.lst _ _ q n) (l.sub _ n) z (RDs.agr l r)
  | _, _, .dtp q n z r => .dtp (l.lst _ _ q n) (l.sub _ n) z (RDs.agr l r)
  | _, _, .ins g q n z r => .ins g (l.lst _ _ q n) (l.sub _ n) z (RDs.agr l r)
  | _, _, .glb g => .glb g
  | _, _, .dlk q z r => .dlk (l.stF q) z (RDs.agr l r)
  | _, _, .dlt q z r => .dlt (l.stF q) z (RDs.agr l r)
  | _, _, .exn0 g q => .exn0 g (l.stE q)
  | _, _, .exnd g q x z r => .exnd g (l.stE q) (l.stX x) z (RDs.agr l r)
theorem RDs.agr (l : Agr mu H mu' H') : ∀ {ds : List D} {vs : List V}, RDs K mu H ds vs → RDs K mu' H' ds vs
  | _, _, .nil => .nil
  | _, _, .cons r t => .cons (RD.agr l r) (RDs.agr l t)
end
theorem RDs.length : ∀ {ds : List D} {vs : List V}, RDs K mu H ds vs → ds.length = vs.length
  | _, _, .nil => rfl
  | _, _, .cons _ t => by simp [RDs.length t]
theorem RDs.get : ∀ {ds : List D} {vs : List V} {i : Nat} {d : D}, RDs K mu H ds vs → ds[i]? = some d → ∃ v, vs[i]? = some v ∧ RD K mu H d v
  | _, _, _, _, .nil, e => by simp at e
  | _, _, 0, _, .cons r _, e => by simp at e; subst e; exact ⟨_, rfl, r⟩
  | _, _, i + 1, d, .cons _ t, e => by
    obtain ⟨v, h1, h2⟩ := RDs.get (i := i) (d := d) t (by simpa using e)
    exact ⟨v, by simpa using h1, h2⟩
theorem RDs.append : ∀ {ds es : List D} {vs us : List V}, RDs K mu H ds vs → RDs K mu H es us → RDs K mu H (ds ++ es) (vs ++ us)
  | _, _, _, _, .nil, s => s
  | _, _, _, _, .cons r t, s => .cons r (RDs.append t s)
theorem RDs.snoc {ds : List D} {vs : List V} {d : D} {v : V} (a : RDs K mu H ds vs) (b : RD K mu H d v) : RDs K mu H (ds ++ [d]) (vs ++ [v]) := a.append (.cons b .nil)
theorem RDs.take : ∀ (n : Nat) {ds : List D} {vs : List V}, RDs K mu H ds vs → RDs K mu H (ds.take n) (vs.take n)
  | 0, _, _, _ => .nil
  | _ + 1, _, _, .nil => .nil
  | n + 1, _, _, .cons r t => .cons r (RDs.take n t)
theorem RDs.drop : ∀ (n : Nat) {ds : List D} {vs : List V}, RDs K mu H ds vs → RDs K mu H (ds.drop n) (vs.drop n)
  | 0, _, _, r => r
  | _ + 1, _, _, .nil => .nil
  | n + 1, _, _, .cons _ t => RDs.drop n t
theorem RDs.set {d : D} {v : V} (r : RD K mu H d v) : ∀ (n : Nat) {ds : List D} {vs : List V}, RDs K mu H ds vs → RDs K mu H (ds.set n d) (vs.set n v)
  | _, _, _, .nil => .nil
  | 0, _, _, .cons _ t => .cons r t
  | n + 1, _, _, .cons q t => .cons q (RDs.set r n t)
theorem RDs.reverse : ∀ {ds : List D} {vs : List V}, RDs K mu H ds vs → RDs K mu H ds.reverse vs.reverse
  | _, _, .nil => .nil
  | _, _, .cons r t => by rw [List.reverse_cons, List.reverse_cons]; exact (RDs.reverse t).snoc r
theorem RDs.ints : ∀ (ns : List Int), RDs K mu H (ns.map D.int) (ns.map V.int)
  | [] => .nil
  | n :: r => .cons (.int n) (RDs.ints r)
end

/-- pairs of a key and a value -/
inductive RKs {k : Type} (K : PySem.W.Frag) (mu : Mp) (H : Hp) : List (k × D) → List (k × V) → Prop
  | nil : RKs K mu H [] []
  | cons {x : k} {d : D} {v : V} {ds : List (k × D)} {vs : List (k × V)} : RD K mu H d v → RKs K mu H ds vs → RKs K mu H ((x, d) :: ds) ((x, v) :: vs)
section
variable {K : PySem.W.Frag} {mu mu' : Mp} {H H' : Hp} {k : Type}
theorem RKs.agr (l : Agr mu H mu' H') : ∀ {ds : List (k × D)} {vs : List (k × V)}, RKs K mu H ds vs → RKs K mu' H' ds vs
  | _, _, .nil => .nil
  | _, _, .cons r t => .cons (RD.agr l r) (RKs.agr l t)
theorem RKs.length : ∀ {ds : List (k × D)} {vs : List (k × V)}, RKs K mu H ds vs → ds.length = vs.length
  | _, _, .nil => rfl
  | _, _, .cons _ t => by simp [RKs.length t]
theorem RKs.lookup [BEq k] {x : k} : ∀ {ds : List (k × D)} {vs : List (k × V)}, RKs K mu H ds vs → ∀ {d : D}, ds.lookup x = some d → ∃ v, vs.lookup x = some v ∧ RD K mu H d v
  | _, _, .nil, d, e => by simp at e
  | _, _, .cons (x := y) r t, d, e => by
    rw [List.lookup_cons] at e ⊢
    cases q : (x == y) with
    | true => rw [q] at e; simp at e; subst e; exact ⟨_, by simp, r⟩
    | false =>
      rw [q] at e
      obtain ⟨v, h1, h2⟩ := RKs.lookup (x := x) t e
      exact ⟨v, by simpa using h1, h2⟩
end

/-- an object of ours at what the hand layer tracks -/
def RO (K : PySem.W.Frag) (mg : Str → Option Value) (mu : Mp) (H : Hp) : O → HO → Prop
  | .lst ds, .lst vs => RDs K mu H ds vs
  | .dk ds, .dK vs => RKs K mu H ds vs
  | .dt ds, .dT vs => RKs K mu H ds vs
  | .ins c ds, .ins C _ vs => PySem.W.nsIn K mainGlobals c = some (some (.ref C)) ∧ RKs K mu H ds vs
  | .lkd o, .frz _ u => RO K mg mu H o u
  | _, _ => False
theorem RO.agr {K : PySem.W.Frag} {mg : Str → Option Value} {mu mu' : Mp} {H H' : Hp} (l : Agr mu H mu' H') : ∀ {o : O} {u : HO}, RO K mg mu H o u → RO K mg mu' H' o u := by
  intro o
  induction o with
  | lst ds => intro u h; cases u <;> first | exact RDs.agr l h | exact h
  | dk ds => intro u h; cases u <;> first | exact RKs.agr l h | exact h
  | dt ds => intro u h; cases u <;> first | exact RKs.agr l h | exact h
  | ins c ds => intro u h; cases u <;> first | exact ⟨h.1, RKs.agr l h.2⟩ | exact h
  | lkd o ih => intro u h; cases u <;> first | exact ih h | exact h
theorem RO.notTup {K : PySem.W.Frag} {mg : Str → Option Value} {mu : Mp} {H : Hp} {o : O} {vs : List V} : ¬ RO K mg mu H o (.tup vs) := by
  intro h; cases o <;> exact h

/-- our heap stands for the hand layer's -/
structure Sim (K : PySem.W.Frag) (mg : Str → Option Value) (mu : Mp) (hs : Hs) (H : Hp) : Prop where
  len : mu.l.length = hs.length
  nd : mu.l.Nodup
  dj : ∀ a ∈ mu.l, ¬ mu.fz a
  fzl : ∀ a, mu.fz a → ∃ u, H a = some u
  obj : ∀ (n : Nat) (o : O), hs[n]? = some o → ∃ a u, mu.l[n]? = some a ∧ H a = some u ∧ RO K mg mu H o u
section
variable {K : PySem.W.Frag} {mg : Str → Option Value} {mu mu' : Mp} {hs : Hs} {H H' : Hp}
theorem Sim.there (S : Sim K mg mu hs H) {a : Addr} (h : a ∈ mu.l) : ∃ u, H a = some u := by
  obtain ⟨n, hn, e⟩ := List.getElem_of_mem h
  have hn' : n < hs.length := by rw [← S.len]; exact hn
  obtain ⟨b, u, e1, e2, _⟩ := S.obj n hs[n] (List.getElem?_eq_getElem hn')
  rw [List.getElem?_eq_getElem hn] at e1
  cases e1
  rw [← e]
  exact ⟨u, e2⟩
theorem Sim.fresh (S : Sim K mg mu hs H) {a : Addr} (h : H a = none) : a ∉ mu.l := fun m => by
  obtain ⟨u, e⟩ := S.there m
  rw [h] at e; cases e
theorem Sim.freshz (S : Sim K mg mu hs H) {a : Addr} (h : H a = none) : ¬ mu.fz a := fun m => by
  obtain ⟨u, e⟩ := S.fzl a m
  rw [h] at e; cases e
/-- with Sim ahead, later is enough -/
theorem Lat.agr (l : Lat mu H mu' H') (S : Sim K mg mu hs H) : Agr mu H mu' H' :=
  ⟨l.pre, l.sub, fun a vs h z => (l.ext a _ h fun m => S.dj a m z).1, fun a o h _ n => ⟨(l.ext a o h n).1, (l.ext a o h n).2.1⟩⟩
theorem Sim.at (S : Sim K mg mu hs H) {n : Nat} {a : Addr} {o : O} (e : mu.l[n]? = some a) (h : hs[n]? = some o) : ∃ u, H a = some u ∧ RO K mg mu H o u := by
  obtain ⟨b, u, e1, e2, e3⟩ := S.obj n o h
  rw [e] at e1; cases e1
  exact ⟨u, e2, e3⟩
/-- a new thing that isn't ours -/
theorem Lat.new {p : Addr} {o : HO} (hp : H p = none) : Lat mu H mu (upd H p o) :=
  ⟨List.prefix_rfl, fun _ h => h, fun a u h n => ⟨by rw [upd_ne (ne_of_none h hp)]; exact h, n, fun z => z⟩⟩
theorem Sim.mono (S : Sim K mg mu hs H) (l : Lat mu H mu H') (k : ∀ a ∈ mu.l, ∀ u, H a = some u → H' a = some u) : Sim K mg mu hs H' :=
  ⟨S.len, S.nd, S.dj, fun a z => by
    obtain ⟨u, e⟩ := S.fzl a z
    exact ⟨u, (l.ext a u e fun m => S.dj a m z).1⟩, fun n o h => by
    obtain ⟨a, u, e1, e2, e3⟩ := S.obj n o h
    exact ⟨a, u, e1, k a (List.mem_of_getElem? e1) u e2, RO.agr (l.agr S) e3⟩⟩
theorem Sim.new (S : Sim K mg mu hs H) {p : Addr} {o : HO} (hp : H p = none) : Sim K mg mu hs (upd H p o) :=
  S.mono (.new hp) fun a h u e => by rw [upd_ne (ne_of_none e hp)]; exact e
/-- p stands still from now on -/
def Mp.still (mu : Mp) (p : Addr) : Mp := ⟨mu.l, fun a => a = p ∨ mu.fz a⟩
/-- p is ours from now on -/
def Mp.own (mu : Mp) (p : Addr) : Mp := ⟨mu.l ++ [p], mu.fz⟩
theorem Agr.still {p : Addr} : Agr mu H (mu.still p) H := ⟨List.prefix_rfl, fun _ h => .inr h, fun _ _ h _ => h, fun _ _ h _ n => ⟨h, n⟩⟩
theorem Sim.still (S : Sim K mg mu hs H) {p : Addr} {u : HO} (h : H p = some u) (n : p ∉ mu.l) : Sim K mg (mu.still p) hs H :=
  ⟨S.len, S.nd, fun a m z => z.elim (fun e => n (e ▸ m)) (S.dj a m), fun a z => z.elim (fun e => ⟨u, e ▸ h⟩) (S.fzl a), fun k o h => by
    obtain ⟨a, u, e1, e2, e3⟩ := S.obj k o h
    exact ⟨a, u, e1, e2, RO.agr .still e3⟩⟩
/-- a new list that stands still -/
theorem Lat.newStill {p : Addr} {o : HO} (hp : H p = none) : Lat mu H (mu.still p) (upd H p o) :=
  ⟨List.prefix_rfl, fun _ h => .inr h, fun a u h n => ⟨by rw [upd_ne (ne_of_none h hp)]; exact h, n, fun z => z.elim (fun e => absurd e (ne_of_none h hp)) fun z => z⟩⟩
theorem Sim.newStill (S : Sim K mg mu hs H) {p : Addr} {o : HO} (hp : H p = none) : Sim K mg (mu.still p) hs (upd H p o) := (S.new hp).still upd_same (S.fresh hp)
theorem Agr.own {p : Addr} {vs : List V} (h : H p = some (.lst vs)) : Agr mu H (mu.own p) H :=
  ⟨List.prefix_append _ _, fun _ h => h, fun _ _ h _ => h, fun a o e i n => ⟨e, by
    show a ∉ mu.l ++ [p]
    simp only [List.mem_append, List.mem_singleton, not_or]
    exact ⟨n, fun z => by rw [z, h] at e; cases e; exact i⟩⟩⟩
theorem getElem?_own {m : List Addr} {hs : Hs} {p : Addr} (h : m.length = hs.length) : (m ++ [p])[hs.length]? = some p := by
  rw [List.getElem?_append_right (by omega), h, Nat.sub_self]
  rfl
/-- what was just made becomes ours -/
theorem Sim.adopt {p : Addr} {o : O} {u : HO} (S : Sim K mg mu hs H) (h : H p = some u) (n : p ∉ mu.l) (nz : ¬ mu.fz p) (g : Agr mu H (mu.own p) H) (r : RO K mg mu H o u) : Sim K mg (mu.own p) (hs ++ [o]) H := by
  refine ⟨by simp [Mp.own, S.len], ?_, fun a m => ?_, S.fzl, fun k q hq => ?_⟩
  · show (mu.l ++ [p]).Nodup
    rw [List.nodup_append]
    exact ⟨S.nd, by simp, fun b hb c hc => by simp at hc; subst hc; exact fun z => n (z ▸ hb)⟩
  · rcases List.mem_append.mp (show a ∈ mu.l ++ [p] from m) with m | m
    · exact S.dj a m
    · rw [List.mem_singleton.mp m]; exact nz
  · by_cases hm : k < hs.length
    · rw [List.getElem?_append_left hm] at hq
      obtain ⟨b, w, e1, e2, e3⟩ := S.obj k q hq
      exact ⟨b, w, g.get e1, e2, RO.agr g e3⟩
    · rw [List.getElem?_append_right (by omega)] at hq
      have hm' : k = hs.length := by
        have := (List.getElem?_eq_some_iff.mp hq).1
        simp at this
        omega
      subst hm'
      rw [Nat.sub_self] at hq
      simp at hq
      subst hq
      exact ⟨p, u, getElem?_own S.len, h, RO.agr g r⟩
/-- an object of ours is changed -/
theorem Lat.write {n : Nat} {a : Addr} {u : HO} (e : mu.l[n]? = some a) : Lat mu H mu (upd H a u) :=
  ⟨List.prefix_rfl, fun _ h => h, fun b o h nm => ⟨by rw [upd_ne (fun z => nm (by rw [z]; exact List.mem_of_getElem? e))]; exact h, nm, fun z => z⟩⟩
theorem Sim.write (S : Sim K mg mu hs H) {n : Nat} {a : Addr} {o : O} {u : HO} (e : mu.l[n]? = some a) (h : RO K mg mu H o u) : Sim K mg mu (hs.set n o) (upd H a u) := by
  have L : Agr mu H mu (upd H a u) := Lat.agr (.write e) S
  have hn : n < mu.l.length := (List.getElem?_eq_some_iff.mp e).1
  refine ⟨by rw [List.length_set]; exact S.len, S.nd, S.dj, fun b z => ?_, fun m q hq => ?_⟩
  · obtain ⟨w, ew⟩ := S.fzl b z
    by_cases hb : b = a
    · exact ⟨u, by rw [hb, upd_same]⟩
    · exact ⟨w, by rw [upd_ne hb]; exact ew⟩
  by_cases hm : n = m
  · subst hm
    rw [List.getElem?_set_self (by rw [← S.len]; exact hn)] at hq
    cases hq
    exact ⟨a, u, e, upd_same, RO.agr L h⟩
  · rw [List.getElem?_set_ne hm] at hq
    obtain ⟨b, w, e1, e2, e3⟩ := S.obj m q hq
    refine ⟨b, w, e1, ?_, RO.agr L e3⟩
    rw [upd_ne]
    · exact e2
    · intro z
      rw [z] at e1
      obtain ⟨h1, g1⟩ := List.getElem?_eq_some_iff.mp e
      obtain ⟨h2, g2⟩ := List.getElem?_eq_some_iff.mp e1
      exact hm ((List.getElem_inj S.nd).mp (g1.trans g2.symm))
/-- a new thing that is ours -/
theorem Lat.newOwn (S : Sim K mg mu hs H) {p : Addr} {u : HO} (hp : H p = none) : Lat mu H (mu.own p) (upd H p u) :=
  ⟨List.prefix_append _ _, fun _ h => h, fun a o h n => by
    have ne := ne_of_none h hp
    refine ⟨by rw [upd_ne ne]; exact h, ?_, fun z => z⟩
    show a ∉ mu.l ++ [p]
    simp [n, ne]⟩
theorem Sim.newOwn (S : Sim K mg mu hs H) {p : Addr} {o : O} {u : HO} (hp : H p = none) (h : RO K mg mu H o u) : Sim K mg (mu.own p) (hs ++ [o]) (upd H p u) := by
  have L : Agr mu H (mu.own p) (upd H p u) := Lat.agr (.newOwn S hp) S
  have S2 := S.new (o := u) hp
  refine ⟨by simp [Mp.own, S.len], ?_, fun a m => ?_, S2.fzl, fun k q hq => ?_⟩
  · show (mu.l ++ [p]).Nodup
    rw [List.nodup_append]
    exact ⟨S.nd, by simp, fun b hb c hc => by simp at hc; subst hc; exact fun z => S.fresh hp (z ▸ hb)⟩
  · rcases List.mem_append.mp (show a ∈ mu.l ++ [p] from m) with m | m
    · exact S.dj a m
    · rw [List.mem_singleton.mp m]; exact S.freshz hp
  · by_cases hm : k < hs.length
    · rw [List.getElem?_append_left hm] at hq
      obtain ⟨b, w, e1, e2, e3⟩ := S.obj k q hq
      exact ⟨b, w, L.get e1, by rw [upd_ne (ne_of_none e2 hp)]; exact e2, RO.agr L e3⟩
    · rw [List.getElem?_append_right (by omega)] at hq
      have hm' : k = hs.length := by
        have := (List.getElem?_eq_some_iff.mp hq).1
        simp at this
        omega
      subst hm'
      rw [Nat.sub_self] at hq
      simp at hq
      subst hq
      exact ⟨p, u, getElem?_own S.len, upd_same, RO.agr L h⟩
/-- a thing that is neither ours nor stands still is changed: nothing of ours leans on it -/
theorem Agr.priv {p : Addr} {vs : List V} {o : HO} (h : H p = some (.lst vs)) (nz : ¬ mu.fz p) : Agr mu H mu (upd H p o) :=
  ⟨List.prefix_rfl, fun _ h => h, fun a us e z => by rw [upd_ne (show a ≠ p from fun q => nz (q ▸ z))]; exact e, fun a u e i n => ⟨by
    rw [upd_ne]
    · exact e
    · intro z; rw [z, h] at e; cases e; exact i, n⟩⟩
theorem Sim.priv {p : Addr} {vs : List V} {o : HO} (S : Sim K mg mu hs H) (h : H p = some (.lst vs)) (n : p ∉ mu.l) (nz : ¬ mu.fz p) : Sim K mg mu hs (upd H p o) :=
  ⟨S.len, S.nd, S.dj, fun a z => by
    obtain ⟨u, e⟩ := S.fzl a z
    exact ⟨u, by rw [upd_ne (show a ≠ p from fun q => nz (q ▸ z))]; exact e⟩, fun k q hq => by
    obtain ⟨a, u, e1, e2, e3⟩ := S.obj k q hq
    exact ⟨a, u, e1, by rw [upd_ne (fun z => n (by rw [← z]; exact List.mem_of_getElem? e1))]; exact e2, RO.agr (.priv h nz) e3⟩⟩
end
end G

/-! # G2: what a function of ours says of a piece of the text; sequences -/
namespace G
open PySem PySem.Spec PyProof.Rows L2

/-- an exception that leaves -/
def RX (K : PySem.W.Frag) (mg : Str → Option Value) (mu : Mp) (H : Hp) (c : Str) (fs : List (Str × D)) (cls : Value) (dx : Option Addr) : Prop :=
  ∃ C, cls = .ref C ∧ PySem.W.nsIn K mainGlobals c = some (some (.ref C)) ∧ ((fs = [] ∧ dx = none) ∨ ∃ a vs, dx = some a ∧ H a = some (.xd vs) ∧ a ∉ mu.l ∧ RKs K mu H fs vs)
theorem RX.mono {K : PySem.W.Frag} {mg : Str → Option Value} {mu mu' : Mp} {hs : Hs} {H H' : Hp} {c : Str} {fs : List (Str × D)} {cls : Value} {dx : Option Addr} (l : Lat mu H mu' H') (S : Sim K mg mu hs H) (h : RX K mg mu H c fs cls dx) : RX K mg mu' H' c fs cls dx := by
  obtain ⟨C, e1, e2, h | ⟨a, vs, h1, h2, h3, h4⟩⟩ := h
  · exact ⟨C, e1, e2, .inl h⟩
  · exact ⟨C, e1, e2, .inr ⟨a, vs, h1, (l.ext a _ h2 h3).1, (l.ext a _ h2 h3).2.1, RKs.agr (l.agr S) h4⟩⟩

/-- what stands for what, by the heap at the start -/
abbrev Rel (a b : Type) := Hp → Mp → Hs → Hp → a → b → Prop
def Rel.Ok {a b : Type} (r : Rel a b) : Prop := ∀ (m0 m1 m2 : Mp) (hs : Hs) (H0 H1 H2 : Hp) (x : a) (y : b), Lat m0 H0 m1 H1 → Lat m1 H1 m2 H2 → r H1 m2 hs H2 x y → r H0 m2 hs H2 x y
def relD (K : PySem.W.Frag) : Rel D V := fun _ mu _ H d v => RD K mu H d v
def relB : Rel Bool Bool := fun _ _ _ _ a b => a = b
def relA (K : PySem.W.Frag) : Rel (List D) (List V) := fun _ mu _ H d v => RDs K mu H d v
/-- a list just made -/
def relF (K : PySem.W.Frag) (mg : Str → Option Value) : Rel (List D) V := fun H0 mu hs H ds v => ∃ a vs, v = .ref a ∧ H a = some (.lst vs) ∧ a ∉ mu.l ∧ ¬ mu.fz a ∧ H0 a = none ∧ RDs K mu H ds vs
theorem relD_ok {K : PySem.W.Frag} : (relD K).Ok := fun _ _ _ _ _ _ _ _ _ _ _ h => h
theorem relB_ok : relB.Ok := fun _ _ _ _ _ _ _ _ _ _ _ h => h
theorem relA_ok {K : PySem.W.Frag} : (relA K).Ok := fun _ _ _ _ _ _ _ _ _ _ _ h => h
theorem relF_ok {K : PySem.W.Frag} {mg : Str → Option Value} : (relF K mg).Ok := fun m0 m1 m2 hs H0 H1 H2 ds v l l2 ⟨a, vs, e, h, n, nz, f, r⟩ =>
  ⟨a, vs, e, h, n, nz, l.back f fun z => n (l2.pre.subset (l.pre.subset z)), r⟩

/-- a result, begun at mu, H: what is wanted of it -/
def Gd {a b : Type} (r : Rel a b) (K : PySem.W.Frag) (mg : Str → Option Value) (Wd : WX) (σ : L2.St) (mu : Mp) (H : Hp) (Q : b → Hp → Prop) : R a → Prop
  | .ok x hs' => ∀ mu' H' y, Lat mu H mu' H' → Sim K mg mu' hs' H' → r H mu' hs' H' x y → Q y H'
  | .exc c fs hs' => ∀ mu' H' cls dx, Lat mu H mu' H' → Sim K mg mu' hs' H' → RX K mg mu' H' c fs cls dx → Wd cls dx σ H'
  | .bad => False
section
variable {a b a' b' : Type} {r : Rel a b} {r' : Rel a' b'} {K : PySem.W.Frag} {mg : Str → Option Value} {Wd : WX} {σ : L2.St} {mu mu1 : Mp} {H H1 : Hp}
theorem Gd.later (ok : r.Ok) (l : Lat mu H mu1 H1) {Q : b → Hp → Prop} {x : R a} (h : Gd r K mg Wd σ mu H Q x) : Gd r K mg Wd σ mu1 H1 Q x := by
  cases x with
  | ok x hs' => exact fun mu' H' y l' s' q => h mu' H' y (l.trans l') s' (ok _ _ _ _ _ _ _ _ _ l l' q)
  | exc c fs hs' => exact fun mu' H' cls dx l' s' q => h mu' H' cls dx (l.trans l') s' q
  | bad => exact h
theorem Gd.imp {Q Q' : b → Hp → Prop} {x : R a} (h : Gd r K mg Wd σ mu H Q x) (i : ∀ y H', Q y H' → Q' y H') : Gd r K mg Wd σ mu H Q' x := by
  cases x with
  | ok x hs' => exact fun mu' H' y l' s' q => i _ _ (h mu' H' y l' s' q)
  | exc c fs hs' => exact h
  | bad => exact h
/-- one behind the other -/
theorem Gd.bind (ok : r'.Ok) {Q : b' → Hp → Prop} {x : R a} {k : a → Hs → R a'} (h : Gd r' K mg Wd σ mu H Q (x.bind k)) :
    Gd r K mg Wd σ mu H (fun y H1 => ∃ mu1 hs1 x, Lat mu H mu1 H1 ∧ Sim K mg mu1 hs1 H1 ∧ r H mu1 hs1 H1 x y ∧ Gd r' K mg Wd σ mu1 H1 Q (k x hs1)) x := by
  cases x with
  | ok x hs' => exact fun mu' H' y l s q => ⟨mu', hs', x, l, s, q, Gd.later ok l h⟩
  | exc c fs hs' => exact h
  | bad => exact h
end

/-- the slots -/
structure RE (K : PySem.W.Frag) (mu : Mp) (H : Hp) (e : Ev) (σ : L2.St) : Prop where
  len : e.length = σ.length
  at_ : ∀ (i : Nat) (d : D), e[i]? = some (some d) → ∃ v, σ[i]? = some (some v) ∧ RD K mu H d v
theorem RE.agr {K : PySem.W.Frag} {mu mu' : Mp} {H H' : Hp} {e : Ev} {σ : L2.St} (l : Agr mu H mu' H') (h : RE K mu H e σ) : RE K mu' H' e σ :=
  ⟨h.len, fun i d q => let ⟨v, h1, h2⟩ := h.at_ i d q; ⟨v, h1, RD.agr l h2⟩⟩
theorem RE.set {K : PySem.W.Frag} {mu : Mp} {H : Hp} {e : Ev} {σ : L2.St} {d : D} {v : V} (h : RE K mu H e σ) (i : Nat) (r : RD K mu H d v) : RE K mu H (e.set i (some d)) (σ.set i (some v)) := by
  refine ⟨by rw [List.length_set, List.length_set]; exact h.len, fun j x q => ?_⟩
  by_cases hj : i = j
  · subst hj
    by_cases hi : i < e.length
    · rw [List.getElem?_set_self hi] at q
      cases q
      exact ⟨v, List.getElem?_set_self (by rw [← h.len]; exact hi), r⟩
    · rw [List.getElem?_eq_none (by simpa using hi)] at q; cases q
  · rw [List.getElem?_set_ne hj] at q
    rw [List.getElem?_set_ne hj]
    exact h.at_ j x q

/-- readings by our functions -/
def tG {a b : Type} (r : Rel a b) (K : PySem.W.Frag) (mg : Str → Option Value) (Wd : WX) (f : Ev → Hs → R a) : L2.St → Hp → (b → Hp → Prop) → Prop :=
  fun σ H Q => ∃ e mu hs, Sim K mg mu hs H ∧ RE K mu H e σ ∧ Gd r K mg Wd σ mu H Q (f e hs)

theorem PE.imp {X : Cx} {e : Expr} {t t' : TE} (h : PE X e t) (i : ∀ σ H Q, t' σ H Q → t σ H Q) : PE X e t' := ⟨fun pins s σ H Q I q => h.run pins s σ H Q I (i σ H Q q)⟩
theorem PT.imp {X : Cx} {e : Expr} {t t' : TT} (h : PT X e t) (i : ∀ σ H Q, t' σ H Q → t σ H Q) : PT X e t' := ⟨fun pins s σ H Q I q => h.run pins s σ H Q I (i σ H Q q)⟩
theorem PW.imp {X : Cx} {e : Expr} {t t' : TT} (h : PW X e t) (i : ∀ σ H Q, t' σ H Q → t σ H Q) : PW X e t' := ⟨fun wh pins s σ H Q I q => h.run wh pins s σ H Q I (i σ H Q q)⟩
theorem PA.imp {X : Cx} {e : List Expr} {t t' : TA} (h : PA X e t) (i : ∀ σ H Q, t' σ H Q → t σ H Q) : PA X e t' := ⟨fun pos pins s σ H Q I q => h.run pos pins s σ H Q I (i σ H Q q)⟩

/-- an expression; one whose list is new; a test; arguments -/
abbrev UE (X : Cx) (Wd : WX) (e : Expr) (f : FE) : Prop := PE X e (tG (relD X.K) X.K X.mg Wd f)
abbrev FL := Ev → Hs → R (List D)
abbrev UF (X : Cx) (Wd : WX) (e : Expr) (f : FL) : Prop := PE X e (tG (relF X.K X.mg) X.K X.mg Wd f)
abbrev UT (X : Cx) (Wd : WX) (e : Expr) (f : FT) : Prop := PT X e (tG relB X.K X.mg Wd f)
abbrev UW (X : Cx) (Wd : WX) (e : Expr) (f : FT) : Prop := PW X e (tG relB X.K X.mg Wd f)
abbrev UA (X : Cx) (Wd : WX) (es : List Expr) (f : FA) : Prop := PA X es (tG (relA X.K) X.K X.mg Wd f)

section
variable {X : Cx} {Wd : WX} {a b : Type} {r : Rel a b}
/-- from a reading of ours to the hand layer's, the first part run -/
theorem tG_seq {K : PySem.W.Frag} {mg : Str → Option Value} {a' b' : Type} {r' : Rel a' b'} (ok : r'.Ok) {f : Ev → Hs → R a} {k : Ev → a → Hs → R a'} {σ : L2.St} {H : Hp} {Q : b' → Hp → Prop}
    (h : tG r' K mg Wd (fun e hs => (f e hs).bind (k e)) σ H Q) :
    tG r K mg Wd f σ H (fun y H1 => ∃ e mu1 hs1 x, Sim K mg mu1 hs1 H1 ∧ RE K mu1 H1 e σ ∧ r H mu1 hs1 H1 x y ∧ Gd r' K mg Wd σ mu1 H1 Q (k e x hs1)) := by
  obtain ⟨e, mu, hs, S, E, g⟩ := h
  refine ⟨e, mu, hs, S, E, (Gd.bind (r := r) ok g).imp fun y H' ⟨mu1, hs1, x, l, s, q, g'⟩ => ⟨e, mu1, hs1, x, s, E.agr (l.agr S), q, g'⟩⟩

/-! ### names, constants -/
def eName (i : Nat) : FE := fun e hs => match e[i]? with
  | some (some d) => .ok d hs
  | _ => .bad
theorem ue_name (i : Nat) {x : Str} {pos : Pos} (hN : X.N[i]? = some x := by rfl) (hv : Vis X.env.scope x := by first | exact Or.inl rfl | exact Or.inr (Or.inl rfl) | exact Or.inr (Or.inr rfl)) (hd : (x == ("__debug__" : Str)) = false := by decide)
    (hcd : (x == ("__classdict__" : Str)) = false := by decide) : UE X Wd (.Name x pos) (eName i) := by
  refine PE.imp (pe_var hN hv hd hcd) fun σ H Q h => ?_
  obtain ⟨e, mu, hs, S, E, g⟩ := h
  unfold eName at g
  split at g
  · rename_i d q
    obtain ⟨v, h1, h2⟩ := E.at_ i d q
    exact ⟨v, h1, g mu H v .refl S h2⟩
  · exact g.elim
def eC (d : D) : FE := fun _ hs => .ok d hs
theorem uC {e : Expr} {v : V} {d : D} (h : PE X e (tC v)) (r : ∀ mu H, RD X.K mu H d v) : UE X Wd e (eC d) := by
  refine PE.imp h fun σ H Q h => ?_
  obtain ⟨e, mu, hs, S, E, g⟩ := h
  exact g mu H v .refl S (r mu H)
theorem ue_int {i : Int} {j : Nat} {pos : Pos} : UE X Wd (.Constant (.int i) j pos) (eC (.int i)) := uC pe_int fun _ _ => .int i
theorem ue_bl {i : Bool} {j : Nat} {pos : Pos} : UE X Wd (.Constant (.bool i) j pos) (eC (.bl i)) := uC pe_bl fun _ _ => .bl i
theorem ue_non {j : Nat} {pos : Pos} : UE X Wd (.Constant .none j pos) (eC .non) := uC pe_non fun _ _ => .non
theorem ue_str {i : Str} {j : Nat} {pos : Pos} : UE X Wd (.Constant (.str i) j pos) (eC (.str i)) := uC pe_str fun _ _ => .str i
/-! ### arguments -/
def aNil : FA := fun _ hs => .ok [] hs
def aCons (f : FE) (g : FA) : FA := fun e hs => (f e hs).bind fun d hs => (g e hs).bind fun ds hs => .ok (d :: ds) hs
theorem ua_nil : UA X Wd [] aNil := by
  refine PA.imp pa_nil fun σ H Q h => ?_
  obtain ⟨e, mu, hs, S, E, g⟩ := h
  exact g mu H [] .refl S .nil
theorem ua_cons {e : Expr} {es : List Expr} {f : FE} {g : FA} (ha : UE X Wd e f) (hr : UA X Wd es g) (hs : starEach (e :: es) X.env = (false, eval e X.env) :: starEach es X.env := by rfl) : UA X Wd (e :: es) (aCons f g) := by
  refine PA.imp (pa_cons ha hr hs) fun σ H Q h => ?_
  obtain ⟨e, mu, hs, S, E, q⟩ := tG_seq (r := relD X.K) relA_ok h
  refine ⟨e, mu, hs, S, E, q.imp fun x H1 ⟨e, mu1, hs1, d, S1, E1, r1, g1⟩ => ?_⟩
  refine ⟨e, mu1, hs1, S1, E1, (Gd.bind (r := relA X.K) relA_ok g1).imp fun xs H2 ⟨mu2, hs2, ds, l2, S2, r2, g2⟩ => ?_⟩
  exact g2 mu2 H2 _ .refl S2 (.cons (RD.agr (l2.agr S1) r1) r2)

/-! ### new lists -/
/-- as a value: it stands still from now on -/
def eV (f : FL) : FE := fun e hs => (f e hs).bind fun ds hs => .ok (.lst ds) hs
theorem ue_v {e : Expr} {f : FL} (h : UF X Wd e f) : UE X Wd e (eV f) := by
  refine PE.imp h fun σ H Q h => ?_
  obtain ⟨e, mu, hs, S, E, g⟩ := h
  refine ⟨e, mu, hs, S, E, ?_⟩
  unfold eV at g
  cases q : f e hs with
  | ok ds hs' =>
    rw [q] at g
    intro mu' H' y l s ⟨a, vs, h1, h2, h3, h4, h5, h6⟩
    subst h1
    refine g (mu'.still a) H' _ ⟨l.pre, fun b z => .inr (l.sub b z), fun b o hb nb => ?_⟩ (s.still h2 h3) (.lst h2 (.inl rfl) (RDs.agr .still h6))
    have := l.ext b o hb nb
    exact ⟨this.1, this.2.1, fun z => z.elim (fun e => absurd e (ne_of_none hb h5)) this.2.2⟩
  | exc c fs hs' => rw [q] at g; exact g
  | bad => rw [q] at g; exact g
/-- as an object that may change: it is ours from now on -/
def eM (f : FL) : FE := fun e hs => (f e hs).bind fun ds hs => .ok (.ref hs.length) (hs ++ [.lst ds])
theorem ue_m {e : Expr} {f : FL} (h : UF X Wd e f) : UE X Wd e (eM f) := by
  refine PE.imp h fun σ H Q h => ?_
  obtain ⟨e, mu, hs, S, E, g⟩ := h
  refine ⟨e, mu, hs, S, E, ?_⟩
  unfold eM at g
  cases q : f e hs with
  | ok ds hs' =>
    rw [q] at g
    intro mu' H' y l s ⟨a, vs, h1, h2, h3, h4, h5, h6⟩
    subst h1
    refine g (mu'.own a) H' _ ⟨l.pre.trans (List.prefix_append _ _), l.sub, fun b o hb nb => ?_⟩ (s.adopt h2 h3 h4 (.own h2) h6) (.ref (getElem?_own s.len))
    have := l.ext b o hb nb
    refine ⟨this.1, ?_, this.2.2⟩
    show b ∉ mu'.l ++ [a]
    simp only [List.mem_append, List.mem_singleton, not_or]
    exact ⟨this.2.1, ne_of_none hb h5⟩
  | exc c fs hs' => rw [q] at g; exact g
  | bad => rw [q] at g; exact g
/-- [a, b, ..] -/
theorem uf_lst {es : List Expr} {pos : Pos} {f : FA} (h : UA X Wd es f) (hz : es.length ≤ sizeLine) (hl : ∀ e hs ds hs', f e hs = .ok ds hs' → ds.length = es.length) : UF X Wd (.List es pos) f := by
  refine PE.imp (pe_lst h) fun σ H Q h => ?_
  obtain ⟨e, mu, hs, S, E, g⟩ := h
  refine ⟨e, mu, hs, S, E, ?_⟩
  cases q : f e hs with
  | ok ds hs' =>
    rw [q] at g
    intro mu' H' y l s r
    refine ⟨by rw [← RDs.length r, hl _ _ _ _ q]; exact hz, fun p hp => ?_⟩
    exact g mu' _ _ (l.trans (.new hp)) (s.new hp) ⟨p, y, rfl, upd_same, s.fresh hp, s.freshz hp, l.back hp fun z => s.fresh hp (l.pre.subset z), RDs.agr (Lat.agr (.new hp) s) r⟩
  | exc c fs hs' => rw [q] at g; exact g
  | bad => rw [q] at g; exact g
/-- (a, b, ..) -/
def eTup (f : FA) : FE := fun e hs => (f e hs).bind fun ds hs => .ok (.tup ds) hs
theorem ue_tup {es : List Expr} {k : Nat} {pos : Pos} {f : FA} (h : UA X Wd es f) (hz : es.length ≤ sizeLine) (hl : ∀ e hs ds hs', f e hs = .ok ds hs' → ds.length = es.length) : UE X Wd (.Tuple es k pos) (eTup f) := by
  refine PE.imp (pe_tup h) fun σ H Q h => ?_
  obtain ⟨e, mu, hs, S, E, g⟩ := h
  refine ⟨e, mu, hs, S, E, ?_⟩
  unfold eTup at g
  cases q : f e hs with
  | ok ds hs' =>
    rw [q] at g
    intro mu' H' y l s r
    refine ⟨by rw [← RDs.length r, hl _ _ _ _ q]; exact hz, fun p hp => ?_⟩
    exact g mu' _ _ (l.trans (.new hp)) (s.new hp) (.tup ⟨upd_same, s.fresh hp⟩ (RDs.agr (Lat.agr (.new hp) s) r))
  | exc c fs hs' => rw [q] at g; exact g
  | bad => rw [q] at g; exact g
/-- as many as are written -/
theorem len_nil : ∀ e hs ds hs', aNil e hs = .ok ds hs' → ds.length = 0 := fun e hs ds hs' h => by cases h; rfl
theorem len_cons {f : FE} {g : FA} {n : Nat} (h : ∀ e hs ds hs', g e hs = .ok ds hs' → ds.length = n) : ∀ e hs ds hs', aCons f g e hs = .ok ds hs' → ds.length = n + 1 := fun e hs ds hs' q => by
  unfold aCons at q
  cases q1 : f e hs with
  | ok d h1 =>
    rw [q1] at q
    rw [R.bind_ok] at q
    cases q2 : g e h1 with
    | ok es h2 =>
      rw [q2] at q
      cases q
      rw [List.length_cons, h _ _ _ _ q2]
    | exc c fs h2 => rw [q2] at q; cases q
    | bad => rw [q2] at q; cases q
  | exc c fs h2 => rw [q1] at q; cases q
  | bad => rw [q1] at q; cases q
end
end G

/-! # G3: operators, comparisons, subscripts, truth -/
namespace G
open PySem PySem.Spec PyProof.Rows L2

/-- a list's items, where it may be changed or is new; of any list that may be read; a tuple's -/
def lstOf (hs : Hs) : D → Option (List D)
  | .lst ds => some ds
  | .ref n => match hs[n]? with | some (.lst ds) => some ds | _ => none
  | _ => none
def rdOf (hs : Hs) : D → Option (List D)
  | .scr ds => some ds
  | d => lstOf hs d
def tupOf : D → Option (List D)
  | .tup ds => some ds
  | .ctp ds => some ds
  | _ => none
section
variable {K : PySem.W.Frag} {mg : Str → Option Value} {mu : Mp} {hs : Hs} {H : Hp} {d : D} {v : V} {ds : List D}
theorem lstOf_at (S : Sim K mg mu hs H) (r : RD K mu H d v) (e : lstOf hs d = some ds) : ∃ a vs, v = .ref a ∧ H a = some (.lst vs) ∧ RDs K mu H ds vs := by
  cases r with
  | lst q n r => cases e; exact ⟨_, _, rfl, q, r⟩
  | ref q =>
    unfold lstOf at e
    dsimp only at e
    split at e
    · rename_i ds' he
      cases e
      obtain ⟨u, h1, h2⟩ := S.at q he
      cases u <;> first | exact ⟨_, _, rfl, h1, h2⟩ | exact h2.elim
    · cases e
  | _ => cases e
theorem rdOf_at (S : Sim K mg mu hs H) (r : RD K mu H d v) (e : rdOf hs d = some ds) : ∃ a vs, v = .ref a ∧ SqL K H a vs ∧ RDs K mu H ds vs := by
  cases r with
  | scr q r => cases e; exact ⟨_, _, rfl, q.sq, r⟩
  | lst q n r => cases e; exact ⟨_, _, rfl, .of q, r⟩
  | ref q =>
    obtain ⟨a, vs, h1, h2, h3⟩ := lstOf_at (d := .ref _) S (.ref q) e
    exact ⟨a, vs, h1, .of h2, h3⟩
  | _ => cases e
theorem tupOf_at (r : RD K mu H d v) (e : tupOf d = some ds) : ∃ a vs, v = .ref a ∧ SqT K H a vs ∧ RDs K mu H ds vs := by
  cases r with
  | tup q r => cases e; exact ⟨_, _, rfl, q.sq, r⟩
  | ctp q r => cases e; exact ⟨_, _, rfl, sqT_c q, r⟩
  | _ => cases e
end

/-! ### by values -/
/-- an operator by values: our heap stays as it is -/
def rB (K : PySem.W.Frag) (mg : Str → Option Value) (g : Hs → D → D → Option D) : R2 := fun x y H Q => ∃ mu hs d e w, Sim K mg mu hs H ∧ RD K mu H d x ∧ RD K mu H e y ∧ g hs d e = some w ∧
  ∀ mu' H' v, Lat mu H mu' H' → Sim K mg mu' hs H' → RD K mu' H' w v → Q v H'
def R.ofO {a : Type} (o : Option a) (hs : Hs) : R a := match o with | some x => .ok x hs | none => .bad
def eBin (g : Hs → D → D → Option D) (f1 f2 : FE) : FE := fun e hs => (f1 e hs).bind fun x hs => (f2 e hs).bind fun y hs => R.ofO (g hs x y) hs
def eUn (g : Hs → D → Option D) (f1 : FE) : FE := fun e hs => (f1 e hs).bind fun x hs => R.ofO (g hs x) hs
section
variable {X : Cx} {Wd : WX} {a b : Expr} {f1 f2 : FE} {pos : Pos} {g : Hs → D → D → Option D} {g1 : Hs → D → Option D}
theorem tG_bin {K : PySem.W.Frag} {mg : Str → Option Value} {σ : L2.St} {H : Hp} {Q : VK} (h : tG (relD K) K mg Wd (eBin g f1 f2) σ H Q) :
    tOp (rB K mg g) (tG (relD K) K mg Wd f1) (tG (relD K) K mg Wd f2) σ H Q := by
  obtain ⟨e, mu, hs, S, E, q⟩ := tG_seq (r := relD K) relD_ok h
  refine ⟨e, mu, hs, S, E, q.imp fun x H1 ⟨e, mu1, hs1, d, S1, E1, r1, g1⟩ => ?_⟩
  refine ⟨e, mu1, hs1, S1, E1, (Gd.bind (r := relD K) relD_ok g1).imp fun y H2 ⟨mu2, hs2, d2, l2, S2, r2, g2⟩ => ?_⟩
  cases q : g hs2 d d2 with
  | none => rw [q] at g2; exact g2.elim
  | some w => rw [q] at g2; exact ⟨mu2, hs2, d, d2, w, S2, RD.agr (l2.agr S1) r1, r2, q, g2⟩
theorem ue_bin {op : Operator} (ho : OpR X (binaryOp op) (rB X.K X.mg g)) (ha : UE X Wd a f1) (hb : UE X Wd b f2) : UE X Wd (.BinOp a op b pos) (eBin g f1 f2) := PE.imp (pe_op ho ha hb) fun _ _ _ h => tG_bin h
theorem ue_cmp {op : CmpOp} (ho : OpR X (compareOp op) (rB X.K X.mg g)) (ha : UE X Wd a f1) (hb : UE X Wd b f2) (hm : behindInMarks op b = false := by first | exact nomark _ | rfl) : UE X Wd (.Compare a [op] [b] pos) (eBin g f1 f2) := PE.imp (pe_cmpR ho ha hb hm) fun _ _ _ h => tG_bin h
/-- a value that is a bool, as a test -/
def eB (f : FE) : FT := fun e hs => (f e hs).bind fun d hs => match d with | .bl b => .ok b hs | _ => .bad
theorem tG_bool {K : PySem.W.Frag} {mg : Str → Option Value} {σ : L2.St} {H : Hp} {f : FE} {Q : Bool → Hp → Prop} (h : tG relB K mg Wd (eB f) σ H Q) : tG (relD K) K mg Wd f σ H (fun x H1 => ∃ k, x = .bl k ∧ Q k H1) := by
  obtain ⟨e, mu, hs, S, E, q⟩ := tG_seq (r := relD K) relB_ok h
  refine ⟨e, mu, hs, S, E, q.imp fun x H1 ⟨e, mu1, hs1, d, S1, E1, r1, g2⟩ => ?_⟩
  cases r1 <;> first | exact ⟨_, rfl, g2 mu1 H1 _ .refl S1 rfl⟩ | exact g2.elim
theorem ut_cmp {op : CmpOp} (ho : OpR X (compareOp op) (rB X.K X.mg g)) (ha : UE X Wd a f1) (hb : UE X Wd b f2) (hm : behindInMarks op b = false := by first | exact nomark _ | rfl) : UT X Wd (.Compare a [op] [b] pos) (eB (eBin g f1 f2)) :=
  PT.imp (pt_cmpR ho ha hb hm) fun σ H Q h => tG_bin_t h
where tG_bin_t {σ : L2.St} {H : Hp} {Q : Bool → Hp → Prop} (h : tG relB X.K X.mg Wd (eB (eBin g f1 f2)) σ H Q) : tTest (tOp (rB X.K X.mg g) (tG (relD X.K) X.K X.mg Wd f1) (tG (relD X.K) X.K X.mg Wd f2)) σ H Q := tG_bin (tG_bool h)
/-- a < b < c -/
def eChain (g g' : Hs → D → D → Option D) (f1 f2 f3 : FE) : FE := fun e hs => (f1 e hs).bind fun x hs => (f2 e hs).bind fun y hs => (R.ofO (g hs x y) hs).bind fun k hs => match k with
  | .bl true => (f3 e hs).bind fun z hs => R.ofO (g' hs y z) hs
  | .bl false => .ok (.bl false) hs
  | _ => .bad
theorem tG_chain {K : PySem.W.Frag} {mg : Str → Option Value} {g' : Hs → D → D → Option D} {f3 : FE} {σ : L2.St} {H : Hp} {Q : VK} (h : tG (relD K) K mg Wd (eChain g g' f1 f2 f3) σ H Q) :
    tChain (rB K mg g) (rB K mg g') (tG (relD K) K mg Wd f1) (tG (relD K) K mg Wd f2) (tG (relD K) K mg Wd f3) σ H Q := by
  obtain ⟨e, mu, hs, S, E, q⟩ := tG_seq (r := relD K) relD_ok h
  refine ⟨e, mu, hs, S, E, q.imp fun x H1 ⟨e, mu1, hs1, d, S1, E1, r1, g1⟩ => ?_⟩
  refine ⟨e, mu1, hs1, S1, E1, (Gd.bind (r := relD K) relD_ok g1).imp fun y H2 ⟨mu2, hs2, d2, l2, S2, r2, g2⟩ => ?_⟩
  cases q : g hs2 d d2 with
  | none => rw [q] at g2; exact g2.elim
  | some w =>
    rw [q] at g2
    refine ⟨mu2, hs2, d, d2, w, S2, RD.agr (l2.agr S1) r1, r2, q, fun mu3 H3 v l3 S3 r3 => ?_⟩
    cases r3 <;> first
      | (rename_i k
         refine ⟨k, rfl, ?_⟩
         cases k with
         | true =>
           rw [if_pos rfl]
           have g3 : Gd (relD K) K mg Wd σ mu2 H2 Q ((f3 e hs2).bind fun z hs => R.ofO (g' hs d2 z) hs) := g2
           refine ⟨e, mu3, hs2, S3, (E1.agr (l2.agr S1)).agr (l3.agr S2), (Gd.bind (r := relD K) relD_ok (Gd.later relD_ok l3 g3)).imp fun z H4 ⟨mu4, hs4, d4, l4, S4, r4, g4⟩ => ?_⟩
           cases q' : g' hs4 d2 d4 with
           | none => rw [q'] at g4; exact g4.elim
           | some w' => rw [q'] at g4; exact ⟨mu4, hs4, d2, d4, w', S4, RD.agr (l4.agr S3) (RD.agr (l3.agr S2) r2), r4, q', g4⟩
         | false =>
           rw [if_neg Bool.false_ne_true]
           exact g2 mu3 H3 _ l3 S3 (.bl false))
      | exact g2.elim
theorem ut_chain {op op' : CmpOp} {c : Expr} {g' : Hs → D → D → Option D} {f3 : FE} (ho : OpR X (compareOp op) (rB X.K X.mg g)) (ho' : OpR X (compareOp op') (rB X.K X.mg g')) (ha : UE X Wd a f1) (hb : UE X Wd b f2) (hc : UE X Wd c f3)
    (hm : lastMarks [op, op'] [b, c] = false := by with_unfolding_all rfl) : UT X Wd (.Compare a [op, op'] [b, c] pos) (eB (eChain g g' f1 f2 f3)) := PT.imp (pt_chain ho ho' ha hb hc hm) fun _ _ _ h => tG_chain (tG_bool h)

/-! ### truth, and, or, not -/
def tru (hs : Hs) : D → Option Bool
  | .non => some false
  | .bl b => some b
  | .int i => some (i != 0)
  | .str s => if s.length ≤ sizeLine then some ((s.length : Int) != 0) else none
  | .tup ds => some (!ds.isEmpty)
  | .ctp ds => some (!ds.isEmpty)
  | .dct ks ds => some (!(ks.zip ds).isEmpty)
  | .dtp _ _ => none
  | .dlk _ _ => none
  | .dlt _ _ => none
  | .ins _ _ _ => none
  | .glb _ => none
  | .exn _ _ _ => none
  | .ref n => (match hs[n]? with | some (.lst ds) => some (!ds.isEmpty) | some (.dk kvs) => some (!kvs.isEmpty) | _ => none)
  | d => (rdOf hs d).map fun ds => !ds.isEmpty
def eT (f : FE) : FT := fun e hs => (f e hs).bind fun d hs => R.ofO (tru hs d) hs
theorem isEmpty_of {K : PySem.W.Frag} {mu : Mp} {H : Hp} {ds : List D} {vs : List V} (r : RDs K mu H ds vs) : ds.isEmpty = vs.isEmpty := by cases r <;> rfl
theorem isEmpty_zip {K : PySem.W.Frag} {mu : Mp} {H : Hp} {ds : List D} {vs : List V} (r : RDs K mu H ds vs) {ks : List Key} : (ks.zip ds).isEmpty = (ks.zip vs).isEmpty := by
  cases r <;> cases ks <;> rfl
theorem ut_truth (ha : UE X Wd a f1) (he : ∀ whole, isTrue a X.env whole = (do let v ← whole; standAt a.pos; holding [v] (truthy v)) := by intro _; rfl) : UT X Wd a (eT f1) := by
  refine PT.imp (pt_truth ha he) fun σ H Q h => ?_
  obtain ⟨e, mu, hs, S, E, q⟩ := tG_seq (r := relD X.K) relB_ok h
  refine ⟨e, mu, hs, S, E, q.imp fun x H1 ⟨e, mu1, hs1, d, S1, E1, r1, g2⟩ => ?_⟩
  cases q : tru hs1 d with
  | none => rw [q] at g2; exact g2.elim
  | some k =>
    rw [q] at g2
    refine ⟨k, ?_, g2 mu1 H1 k .refl S1 rfl⟩
    cases r1 with
    | non => cases q; rfl
    | bl b => cases q; rfl
    | int i => cases q; rfl
    | str s =>
      unfold tru at q
      dsimp only at q
      split at q
      · cases q; exact ⟨by assumption, rfl⟩
      · cases q
    | tup h r => cases q; exact .inr (.inl ⟨_, h.sq, by rw [isEmpty_of r]⟩)
    | lst h n r => cases q; exact .inl ⟨_, .of h, by show (!List.isEmpty _) = _; rw [isEmpty_of r]⟩
    | scr h r => cases q; exact .inl ⟨_, h.sq, by show (!List.isEmpty _) = _; rw [isEmpty_of r]⟩
    | ref h =>
      unfold tru at q
      dsimp only at q
      split at q
      · rename_i ds hd
        cases q
        obtain ⟨u, e2, e3⟩ := S1.at h hd
        cases u with
        | lst vs => exact .inl ⟨vs, .of e2, by rw [isEmpty_of (show RDs _ _ _ ds vs from e3)]⟩
        | _ => exact e3.elim
      · rename_i kvs hd
        cases q
        obtain ⟨u, e2, e3⟩ := S1.at h hd
        cases u with
        | dK vs =>
          refine .inr (.inr ⟨vs, e2, ?_⟩)
          cases (show RKs _ _ _ kvs vs from e3) <;> rfl
        | _ => exact e3.elim
      · cases q
    | ty t => cases q
    | dtp _ _ _ _ => cases q
    | ins _ _ _ _ _ => cases q
    | glb _ => cases q
    | dlk _ _ _ => cases q
    | dlt _ _ _ => cases q
    | exn0 _ _ => cases q
    | exnd _ _ _ _ _ => cases q
    | ctp h r => cases q; exact .inr (.inl ⟨_, sqT_c h, by rw [isEmpty_of r]⟩)
    | dct h n z r =>
      cases q
      refine .inr (.inr ⟨_, h, ?_⟩)
      show (!List.isEmpty _) = !List.isEmpty _
      congr 1
      exact isEmpty_zip r
def tAndF (f g : FT) : FT := fun e hs => (f e hs).bind fun c hs => if c = true then g e hs else .ok false hs
def tOrF (f g : FT) : FT := fun e hs => (f e hs).bind fun c hs => if c = true then .ok true hs else g e hs
def tNotF (f : FT) : FT := fun e hs => (f e hs).bind fun c hs => .ok (!c) hs
variable {t1 t2 : FT} {rest : List Expr}
theorem uw_or1 (ha : UT X Wd a t1) : UW X Wd (.BoolOp .Or [a] pos) t1 := pw_or1 ha
theorem uw_or (ha : UT X Wd a t1) (hb : UW X Wd (.BoolOp .Or (b :: rest) pos) t2) : UW X Wd (.BoolOp .Or (a :: b :: rest) pos) (tOrF t1 t2) := by
  refine PW.imp (pw_or ha hb) fun σ H Q h => ?_
  obtain ⟨e, mu, hs, S, E, q⟩ := tG_seq (r := relB) relB_ok h
  refine ⟨e, mu, hs, S, E, q.imp fun c H1 ⟨e, mu1, hs1, d, S1, E1, r1, g2⟩ => ?_⟩
  have r1 : d = c := r1
  subst r1
  cases d with
  | true => rw [if_pos rfl] at g2 ⊢; exact g2 mu1 H1 _ .refl S1 rfl
  | false => rw [if_neg Bool.false_ne_true] at g2 ⊢; exact ⟨e, mu1, hs1, S1, E1, g2⟩
theorem ut_w {e : Expr} (h : UW X Wd e t1) : UT X Wd e t1 := PW.pt h
theorem ut_not (ha : UT X Wd a t1) : UT X Wd (.UnaryOp .Not a pos) (tNotF t1) := by
  refine PT.imp (pt_not ha) fun σ H Q h => ?_
  obtain ⟨e, mu, hs, S, E, q⟩ := tG_seq (r := relB) relB_ok h
  refine ⟨e, mu, hs, S, E, q.imp fun c H1 ⟨e, mu1, hs1, d, S1, E1, r1, g2⟩ => ?_⟩
  have r1 : d = c := r1
  subst r1
  exact g2 mu1 H1 _ .refl S1 rfl
/-- .. as values (bools) -/
def eAnd (f g : FE) : FE := fun e hs => (f e hs).bind fun d hs => match d with | .bl true => g e hs | .bl false => .ok (.bl false) hs | _ => .bad
def eOr (f g : FE) : FE := fun e hs => (f e hs).bind fun d hs => match d with | .bl true => .ok (.bl true) hs | .bl false => g e hs | _ => .bad
def eNot (f : FE) : FE := fun e hs => (f e hs).bind fun d hs => match d with | .bl b => .ok (.bl (!b)) hs | _ => .bad
theorem ue_one {op : BoolOp} (ha : UE X Wd a f1) : UE X Wd (.BoolOp op [a] pos) f1 := pe_one ha
theorem ue_and (ha : UE X Wd a f1) (hb : UE X Wd (.BoolOp .And (b :: rest) pos) f2) : UE X Wd (.BoolOp .And (a :: b :: rest) pos) (eAnd f1 f2) := by
  refine PE.imp (pe_and ha hb) fun σ H Q h => ?_
  obtain ⟨e, mu, hs, S, E, q⟩ := tG_seq (r := relD X.K) relD_ok h
  refine ⟨e, mu, hs, S, E, q.imp fun c H1 ⟨e, mu1, hs1, d, S1, E1, r1, g2⟩ => ?_⟩
  cases r1 with
  | bl k =>
    refine ⟨k, rfl, ?_⟩
    cases k with
    | true => rw [if_pos rfl]; exact ⟨e, mu1, hs1, S1, E1, g2⟩
    | false => rw [if_neg Bool.false_ne_true]; exact g2 mu1 H1 _ .refl S1 (.bl false)
  | _ => exact g2.elim
def eIf (t : FT) (f g : FE) : FE := fun e hs => (t e hs).bind fun c hs => if c = true then f e hs else g e hs
end
end G

/-! # G4: the operators one by one -/
namespace G
open PySem PySem.Spec PyProof.Rows L2

section
variable {K : PySem.W.Frag} {mg : Str → Option Value} {mu : Mp} {hs : Hs} {H : Hp} {Q : VK} {w : D}
theorem fin0 {v : V} (S : Sim K mg mu hs H) (q : ∀ mu' H' v, Lat mu H mu' H' → Sim K mg mu' hs H' → RD K mu' H' w v → Q v H') (r : RD K mu H w v) : Q v H := q mu H v .refl S r
theorem finL {p : Addr} {vs : List V} {ds : List D} (S : Sim K mg mu hs H) (q : ∀ mu' H' v, Lat mu H mu' H' → Sim K mg mu' hs H' → RD K mu' H' (.lst ds) v → Q v H') (hp : H p = none) (r : RDs K mu H ds vs) : Q (.ref p) (upd H p (.lst vs)) :=
  q (mu.still p) _ _ (.newStill hp) (S.newStill hp) (.lst upd_same (.inl rfl) (RDs.agr (Lat.agr (.newStill hp) S) r))
theorem finT {p : Addr} {vs : List V} {ds : List D} (S : Sim K mg mu hs H) (q : ∀ mu' H' v, Lat mu H mu' H' → Sim K mg mu' hs H' → RD K mu' H' (.tup ds) v → Q v H') (hp : H p = none) (r : RDs K mu H ds vs) : Q (.ref p) (upd H p (.tup vs)) :=
  q mu _ _ (.new hp) (S.new hp) (.tup ⟨upd_same, S.fresh hp⟩ (RDs.agr (Lat.agr (.new hp) S) r))
end

section
variable {X : Cx}
/-! ### arithmetic -/
def gAddL (hs : Hs) (d e : D) : Option D := match lstOf hs d with
  | some xs => match lstOf hs e with
    | some ys => if xs.length + ys.length ≤ sizeLine then some (.lst (xs ++ ys)) else none
    | none => none
  | none => none
/-- a truth as a number -/
def bI (b : Bool) : Int := if b = true then 1 else 0
def gAdd (hs : Hs) (d e : D) : Option D := match d with
  | .int i => match e with | .int j => some (.int (i + j)) | .bl q => some (.int (i + bI q)) | _ => none
  | .bl p => match e with | .int j => some (.int (bI p + j)) | _ => none
  | .str x => match e with | .str y => if x.length + y.length ≤ sizeLine then some (.str (x ++ y)) else none | _ => none
  | .tup xs => match e with | .tup ys => if xs.length + ys.length ≤ sizeLine then some (.tup (xs ++ ys)) else none | _ => none
  | d => gAddL hs d e
theorem og_add_lst {op : OpR X (binaryOp .Add) rCat} {pins : List (Addr × Obj)} {s : Shared} {σ : L2.St} {H : Hp} {x y : V} {v u : Value} {Q : VK} (I : Inv X pins σ H s) (rx : RelV x v) (ry : RelV y u) {mu : Mp} {hs : Hs} {d e w : D}
    (S : Sim X.K X.mg mu hs H) (r1 : RD X.K mu H d x) (r2 : RD X.K mu H e y) (hg : gAddL hs d e = some w) (q : ∀ mu' H' v, Lat mu H mu' H' → Sim X.K X.mg mu' hs H' → RD X.K mu' H' w v → Q v H') : wpAny (model X.prog X.w) X.A (binaryOp .Add v u) (EP X pins σ Q) X.xe s := by
  unfold gAddL at hg
  split at hg
  · rename_i xs hx
    split at hg
    · rename_i ys hy
      split at hg
      · rename_i hz
        cases hg
        obtain ⟨a, vs, rfl, ha, ra⟩ := lstOf_at S r1 hx
        obtain ⟨b, us, rfl, hb, rb⟩ := lstOf_at S r2 hy
        exact op pins s σ H _ _ v u Q I rx ry ⟨a, b, vs, us, rfl, rfl, ha, hb, by rw [← ra.length, ← rb.length]; exact hz, fun p hp => finL S q hp (ra.append rb)⟩
      · cases hg
    · cases hg
  · cases hg
theorem og_add : OpR X (binaryOp .Add) (rB X.K X.mg gAdd) := by
  rintro pins s σ H x y v u Q I rx ry ⟨mu, hs, d, e, w, S, r1, r2, hg, q⟩
  cases d with
  | int i =>
    unfold gAdd at hg; dsimp only at hg
    split at hg
    · cases hg; cases r1; cases r2
      exact op_add pins s σ H _ _ v u Q I rx ry ⟨_, _, rfl, rfl, fin0 S q (.int _)⟩
    · cases hg; cases r1; cases r2
      obtain ⟨t, rfl⟩ := rx
      cases ry
      exact add_int_bool ⟨.int _, H, I.tok _, ⟨_, rfl⟩, fin0 S q (.int _)⟩
    · cases hg
  | bl p =>
    unfold gAdd at hg; dsimp only at hg
    split at hg
    · cases hg; cases r1; cases r2
      obtain ⟨t, rfl⟩ := ry
      cases rx
      exact PySem.IntBool.add_bool_int ⟨.int _, H, I.tok _, ⟨_, rfl⟩, fin0 S q (.int _)⟩
    · cases hg
  | str a =>
    unfold gAdd at hg; dsimp only at hg
    split at hg
    · split at hg
      · rename_i hz; cases hg; cases r1; cases r2
        exact op_add_str pins s σ H _ _ v u Q I rx ry ⟨_, _, rfl, rfl, hz, fin0 S q (.str _)⟩
      · cases hg
    · cases hg
  | tup xs =>
    unfold gAdd at hg; dsimp only at hg
    split at hg
    · rename_i ys
      split at hg
      · rename_i hz
        cases hg
        obtain ⟨a, vs, rfl, ha, ra⟩ := tupOf_at r1 rfl
        obtain ⟨b, us, rfl, hb, rb⟩ := tupOf_at r2 rfl
        refine op_catA pins s σ H _ _ v u Q I rx ry ⟨a, b, vs, us, rfl, rfl, ha, hb, by rw [← ra.length, ← rb.length]; exact hz, fun e => ?_, fun _ e => ?_, fun _ _ p hp => finT S q hp (ra.append rb)⟩
        · subst e; cases ra; exact fin0 S q (by simpa using r2)
        · subst e; cases rb; exact fin0 S q (by simpa using r1)
      · cases hg
    · cases hg
  | lst ds => exact og_add_lst (op := op_cat) I rx ry S r1 r2 hg q
  | ref n => exact og_add_lst (op := op_cat) I rx ry S r1 r2 hg q
  | _ => cases hg
def gSub (hs : Hs) (d e : D) : Option D := match d with
  | .int i => (match e with | .int j => some (.int (i - j)) | .bl q => some (.int (i - bI q)) | _ => none)
  | .bl p => (match e with | .int j => some (.int (bI p - j)) | _ => none)
  | _ => none
theorem og_sub : OpR X (binaryOp .Sub) (rB X.K X.mg gSub) := by
  rintro pins s σ H x y v u Q I rx ry ⟨mu, hs, d, e, w, S, r1, r2, hg, q⟩
  unfold gSub at hg
  split at hg
  · split at hg
    · cases hg; cases r1; cases r2
      exact op_sub pins s σ H _ _ v u Q I rx ry ⟨_, _, rfl, rfl, fin0 S q (.int _)⟩
    · cases hg; cases r1; cases r2
      obtain ⟨t, rfl⟩ := rx
      cases ry
      exact PySem.IntBool.sub_int_bool ⟨.int _, H, I.tok _, ⟨_, rfl⟩, fin0 S q (.int _)⟩
    · cases hg
  · split at hg
    · cases hg; cases r1; cases r2
      obtain ⟨t, rfl⟩ := ry
      cases rx
      exact PySem.IntBool.sub_bool_int ⟨.int _, H, I.tok _, ⟨_, rfl⟩, fin0 S q (.int _)⟩
    · cases hg
  · cases hg
def small64 (i : Int) : Bool := decide (-18446744073709551616 < i) && decide (i < 18446744073709551616)
theorem small64_ok {i : Int} (h : small64 i = true) : -(2 ^ 64) < i ∧ i < 2 ^ 64 := by
  unfold small64 at h
  simp only [Bool.and_eq_true, decide_eq_true_eq] at h
  exact ⟨by have := h.1; omega, by have := h.2; omega⟩
def gMulL (hs : Hs) (d e : D) : Option D := match lstOf hs d with
  | some xs => (match e with | .int k => if 0 ≤ k ∧ k ≤ 4000 ∧ xs.length ≤ 4000 then some (.lst (List.replicate k.toNat xs).flatten) else none | _ => none)
  | none => none
def gMul (hs : Hs) (d e : D) : Option D := match d with
  | .int i => (match e with | .int j => if (small64 i || small64 j) = true then some (.int (i * j)) else none | _ => none)
  | .str x => (match e with | .int n => if 0 ≤ n ∧ n ≤ 5000 ∧ x.length ≤ 3000 then some (.str (Txt.mul x n)) else none | _ => none)
  | d => gMulL hs d e
theorem rep_rds {K : PySem.W.Frag} {mu : Mp} {H : Hp} {ds : List D} {vs : List V} (r : RDs K mu H ds vs) : ∀ n : Nat, RDs K mu H (List.replicate n ds).flatten (List.replicate n vs).flatten
  | 0 => .nil
  | n + 1 => by rw [List.replicate_succ, List.replicate_succ, List.flatten_cons, List.flatten_cons]; exact r.append (rep_rds r n)
theorem mulOk_of {x : Str} {n : Int} (h1 : 0 ≤ n) (h2 : n ≤ 5000) (h3 : x.length ≤ 3000) : MulOk x n := by
  refine ⟨?_, fun hn _ => ?_, fun _ _ => ?_⟩
  · rw [decide_eq_false (by omega), decide_eq_false (by omega)]; rfl
  · have : (2 ^ 63 - 1 : Int) / n ≥ (2 ^ 63 - 1 : Int) / 5000 := by
      apply Int.le_ediv_of_mul_le (by omega)
      have : (2 ^ 63 - 1 : Int) / 5000 * n ≤ (2 ^ 63 - 1 : Int) / 5000 * 5000 := Int.mul_le_mul_of_nonneg_left h2 (by decide)
      omega
    omega
  · unfold Builtin.Str.tooLong
    have h4 : x.length * n.toNat ≤ 3000 * 5000 := Nat.mul_le_mul h3 (by omega)
    have hs : sizeLine = 16777216 := sizeLine_eq
    simp only [decide_eq_false_iff_not]
    omega
theorem og_mul_lst {pins : List (Addr × Obj)} {s : Shared} {σ : L2.St} {H : Hp} {x y : V} {v u : Value} {Q : VK} (I : Inv X pins σ H s) (rx : RelV x v) (ry : RelV y u) {mu : Mp} {hs : Hs} {d e w : D}
    (S : Sim X.K X.mg mu hs H) (r1 : RD X.K mu H d x) (r2 : RD X.K mu H e y) (hg : gMulL hs d e = some w) (q : ∀ mu' H' v, Lat mu H mu' H' → Sim X.K X.mg mu' hs H' → RD X.K mu' H' w v → Q v H') : wpAny (model X.prog X.w) X.A (binaryOp .Mult v u) (EP X pins σ Q) X.xe s := by
  unfold gMulL at hg
  split at hg
  · rename_i xs hx
    split at hg
    · rename_i k
      split at hg
      · rename_i hz
        cases hg
        obtain ⟨a, vs, rfl, ha, ra⟩ := lstOf_at S r1 hx
        cases r2
        have hlen := ra.length
        refine op_rep pins s σ H _ _ v u Q I rx ry ⟨a, k, vs, rfl, rfl, ha, by omega, by omega, ?_, fun p hp => finL S q hp (rep_rds ra _)⟩
        have h4 : vs.length * k.toNat ≤ 4000 * 4000 := Nat.mul_le_mul (by omega) (by omega)
        have hs : sizeLine = 16777216 := sizeLine_eq
        omega
      · cases hg
    · cases hg
  · cases hg
theorem og_mul : OpR X (binaryOp .Mult) (rB X.K X.mg gMul) := by
  rintro pins s σ H x y v u Q I rx ry ⟨mu, hs, d, e, w, S, r1, r2, hg, q⟩
  cases d with
  | int i =>
    unfold gMul at hg; dsimp only at hg
    split at hg
    · split at hg
      · rename_i hz
        cases hg; cases r1; cases r2
        simp only [Bool.or_eq_true] at hz
        exact op_mul pins s σ H _ _ v u Q I rx ry ⟨_, _, rfl, rfl, hz.elim (fun z => .inl (small64_ok z)) (fun z => .inr (small64_ok z)), fin0 S q (.int _)⟩
      · cases hg
    · cases hg
  | str z =>
    unfold gMul at hg; dsimp only at hg
    split at hg
    · split at hg
      · rename_i n hz
        cases hg; cases r1; cases r2
        obtain ⟨t, rfl⟩ := rx
        obtain ⟨t', rfl⟩ := ry
        exact SB.mul (mulOk_of hz.1 hz.2.1 hz.2.2) fun t2 k => ⟨.str _, H, I.tok _, ⟨_, rfl⟩, fin0 S q (.str _)⟩
      · cases hg
    · cases hg
  | lst ds => exact og_mul_lst I rx ry S r1 r2 hg q
  | ref n => exact og_mul_lst I rx ry S r1 r2 hg q
  | _ => cases hg
def gDiv (hs : Hs) (d e : D) : Option D := match d with | .int i => (match e with | .int j => if 0 < j ∧ j < 1073741824 then some (.int (i / j)) else none | _ => none) | _ => none
theorem og_div : OpR X (binaryOp .FloorDiv) (rB X.K X.mg gDiv) := by
  rintro pins s σ H x y v u Q I rx ry ⟨mu, hs, d, e, w, S, r1, r2, hg, q⟩
  unfold gDiv at hg
  split at hg
  · split at hg
    · split at hg
      · rename_i hz; cases hg; cases r1; cases r2
        exact op_fdiv pins s σ H _ _ v u Q I rx ry ⟨_, _, rfl, rfl, hz, fin0 S q (.int _)⟩
      · cases hg
    · cases hg
  · cases hg
def gMod (hs : Hs) (d e : D) : Option D := match d with | .int i => (match e with | .int j => if 0 < j then some (.int (i % j)) else none | _ => none) | _ => none
theorem og_mod : OpR X (binaryOp .Mod) (rB X.K X.mg gMod) := by
  rintro pins s σ H x y v u Q I rx ry ⟨mu, hs, d, e, w, S, r1, r2, hg, q⟩
  unfold gMod at hg
  split at hg
  · split at hg
    · split at hg
      · rename_i hz; cases hg; cases r1; cases r2
        exact op_mod pins s σ H _ _ v u Q I rx ry ⟨_, _, rfl, rfl, hz, fin0 S q (.int _)⟩
      · cases hg
    · cases hg
  · cases hg
def gPow (hs : Hs) (d e : D) : Option D := match d with | .int i => (match e with | .int j => if 0 ≤ j ∧ j ≤ 1000 ∧ i.natAbs < 2 ^ 64 then some (.int (i ^ j.toNat)) else none | _ => none) | _ => none
theorem og_pow : OpR X (binaryOp .Pow) (rB X.K X.mg gPow) := by
  rintro pins s σ H x y v u Q I rx ry ⟨mu, hs, d, e, w, S, r1, r2, hg, q⟩
  unfold gPow at hg
  split at hg
  · split at hg
    · split at hg
      · rename_i hz; cases hg; cases r1; cases r2
        exact op_pow pins s σ H _ _ v u Q I rx ry ⟨_, _, rfl, rfl, ⟨hz.1, by omega, hz.2.2⟩, fin0 S q (.int _)⟩
      · cases hg
    · cases hg
  · cases hg
/-- -a -/
def gNeg (hs : Hs) (d : D) : Option D := match d with | .int i => some (.int (-i)) | _ => none
/-! ### data -/
mutual
def pdW (r : Nat → Option PyData) : D → Option PyData
  | .non => some .none
  | .bl b => some (.bool b)
  | .int i => some (.int i)
  | .str s => some (.str s)
  | .tup ds => (pdWs r ds).map .tuple
  | .lst ds => (pdWs r ds).map .list
  | .scr ds => (pdWs r ds).map .list
  | .ref n => r n
  | .ty _ => none
  | .ctp ds => (pdWs r ds).map .tuple
  | .dct _ _ => none
  | .dtp _ _ => none
  | .dlk _ _ => none
  | .dlt _ _ => none
  | .ins _ _ _ => none
  | .glb _ => none
  | .exn _ _ _ => none
def pdWs (r : Nat → Option PyData) : List D → Option (List PyData)
  | [] => some []
  | d :: ds => match pdW r d with
    | some p => match pdWs r ds with | some ps => some (p :: ps) | none => none
    | none => none
end
/-- the lists of the heap, so deep -/
def pdH (hs : Hs) : Nat → Nat → Option PyData
  | 0, _ => none
  | k + 1, n => match hs[n]? with
    | some (.lst ds) => (pdWs (pdH hs k) ds).map .list
    | _ => none
def pd (hs : Hs) (d : D) : Option PyData := pdW (pdH hs 40) d
section
variable {K : PySem.W.Frag} {mg : Str → Option Value} {mu : Mp} {hs : Hs} {H : Hp}
mutual
theorem pdW_dp {r : Nat → Option PyData} (hr : ∀ n a p, mu.l[n]? = some a → r n = some p → Dp K H (.ref a) p) : ∀ (d : D) (v : V) (p : PyData), RD K mu H d v → pdW r d = some p → Dp K H v p
  | .non, _, _, h, e => by cases h; cases e; exact .non
  | .bl b, _, _, h, e => by cases h; cases e; exact .bl b
  | .int i, _, _, h, e => by cases h; cases e; exact .int i
  | .str s, _, _, h, e => by cases h; cases e; exact .str s
  | .tup ds, _, _, h, e => by
    cases h with
    | tup q r =>
      obtain ⟨ps, h1, h2⟩ := Option.map_eq_some_iff.mp (show (pdWs _ ds).map PyData.tuple = some _ from e)
      subst h2
      exact .tup q.sq (pdWs_dp hr ds _ ps r h1)
  | .lst ds, _, _, h, e => by
    cases h with
    | lst q n r =>
      obtain ⟨ps, h1, h2⟩ := Option.map_eq_some_iff.mp (show (pdWs _ ds).map PyData.list = some _ from e)
      subst h2
      exact .lst (.of q) (pdWs_dp hr ds _ ps r h1)
  | .ty _, _, _, _, e => nomatch e
  | .ctp ds, _, _, h, e => by
    cases h with
    | ctp q r =>
      obtain ⟨ps, h1, h2⟩ := Option.map_eq_some_iff.mp (show (pdWs _ ds).map PyData.tuple = some _ from e)
      subst h2
      exact .tup (sqT_c q) (pdWs_dp hr ds _ ps r h1)
  | .dct _ _, _, _, _, e => nomatch e
  | .dtp _ _, _, _, _, e => nomatch e
  | .dlk _ _, _, _, _, e => nomatch e
  | .dlt _ _, _, _, _, e => nomatch e
  | .ins _ _ _, _, _, _, e => nomatch e
  | .glb _, _, _, _, e => nomatch e
  | .exn _ _ _, _, _, _, e => nomatch e
  | .scr ds, _, _, h, e => by
    cases h with
    | scr q r =>
      obtain ⟨ps, h1, h2⟩ := Option.map_eq_some_iff.mp (show (pdWs _ ds).map PyData.list = some _ from e)
      subst h2
      exact .lst q.sq (pdWs_dp hr ds _ ps r h1)
  | .ref n, _, _, h, e => by cases h with | ref q => exact hr _ _ _ q e
theorem pdWs_dp {r : Nat → Option PyData} (hr : ∀ n a p, mu.l[n]? = some a → r n = some p → Dp K H (.ref a) p) : ∀ (ds : List D) (vs : List V) (ps : List PyData), RDs K mu H ds vs → pdWs r ds = some ps → DpAll K H vs ps
  | [], _, _, h, e => by cases h; cases e; exact .nil
  | d :: ds, _, _, h, e => by
    cases h with
    | cons r1 r2 =>
      unfold pdWs at e
      split at e
      · rename_i p hp
        split at e
        · rename_i ps hps
          cases e
          exact .cons (pdW_dp hr d _ p r1 hp) (pdWs_dp hr ds _ ps r2 hps)
        · cases e
      · cases e
end
theorem pdH_dp (S : Sim K mg mu hs H) : ∀ (k n : Nat) (a : Addr) (p : PyData), mu.l[n]? = some a → pdH hs k n = some p → Dp K H (.ref a) p
  | 0, _, _, _, _, e => by cases e
  | k + 1, n, a, p, hn, e => by
    unfold pdH at e
    split at e
    · rename_i ds hd
      obtain ⟨ps, h1, h2⟩ := Option.map_eq_some_iff.mp e
      subst h2
      obtain ⟨u, e1, e2⟩ := S.at hn hd
      cases u <;> first
        | exact .lst (.of e1) (pdWs_dp (fun n a p h q => pdH_dp S k n a p h q) ds _ ps e2 h1)
        | exact e2.elim
    · cases e
theorem pd_dp (S : Sim K mg mu hs H) {d : D} {v : V} {p : PyData} (r : RD K mu H d v) (e : pd hs d = some p) : Dp K H v p := pdW_dp (fun n a p h q => pdH_dp S 40 n a p h q) d v p r e
end

/-! ### comparisons -/
def gEqD (hs : Hs) (d e : D) : Option Bool := match pd hs d with
  | some p => match pd hs e with
    | some q => if (SeqAt.shaped p && SeqAt.shaped q) = true then some (PyData.eqv p q) else none
    | none => none
  | none => none
/-- texts by themselves, other data by what is read -/
def gEqB (hs : Hs) (d e : D) : Option Bool := match d with
  | .str x => (match e with | .str y => some (x == y) | e => gEqD hs (.str x) e)
  | d => gEqD hs d e
theorem gEqB_cases {hs : Hs} {d e : D} {b : Bool} (h : gEqB hs d e = some b) : (∃ x y, d = .str x ∧ e = .str y ∧ b = (x == y)) ∨ gEqD hs d e = some b := by
  unfold gEqB at h
  split at h
  · split at h
    · cases h; exact .inl ⟨_, _, rfl, rfl, rfl⟩
    · exact .inr h
  · exact .inr h
def gEq (hs : Hs) (d e : D) : Option D := (gEqB hs d e).map .bl
def gNe (hs : Hs) (d e : D) : Option D := (gEqB hs d e).map fun b => .bl (!b)
theorem gEqD_at {K : PySem.W.Frag} {mg : Str → Option Value} {mu : Mp} {hs : Hs} {H : Hp} (S : Sim K mg mu hs H) {d e : D} {x y : V} {b : Bool} (r1 : RD K mu H d x) (r2 : RD K mu H e y) (h : gEqD hs d e = some b) :
    ∃ p q, Dp K H x p ∧ Dp K H y q ∧ SeqAt.shaped p = true ∧ SeqAt.shaped q = true ∧ PyData.eqv p q = b := by
  unfold gEqD at h
  split at h
  · rename_i p hp
    split at h
    · rename_i q hq
      split at h
      · rename_i hz
        cases h
        simp only [Bool.and_eq_true] at hz
        exact ⟨p, q, pd_dp S r1 hp, pd_dp S r2 hq, hz.1, hz.2, rfl⟩
      · cases h
    · cases h
  · cases h
theorem og_eq (hu : X.A.units + 64 < cLine) : OpR X (compareOp .Eq) (rB X.K X.mg gEq) := by
  rintro pins s σ H x y v u Q I rx ry ⟨mu, hs, d, e, w, S, r1, r2, hg, q⟩
  obtain ⟨b, h1, h2⟩ := Option.map_eq_some_iff.mp (show (gEqB hs d e).map D.bl = some w from hg)
  subst h2
  rcases gEqB_cases h1 with ⟨z, z', rfl, rfl, rfl⟩ | h1
  · cases r1; cases r2
    exact op_eq pins s σ H _ _ v u Q I rx ry ⟨rfl, by rw [dec_str]; exact fin0 S q (.bl _)⟩
  obtain ⟨p, p', d1, d2, z1, z2, h3⟩ := gEqD_at S r1 r2 h1
  subst h3
  exact op_eqD hu pins s σ H x y v u Q I rx ry ⟨p, p', d1, d2, z1, z2, fin0 S q (.bl _)⟩
theorem og_ne (hu : X.A.units + 64 < cLine) : OpR X (compareOp .NotEq) (rB X.K X.mg gNe) := by
  rintro pins s σ H x y v u Q I rx ry ⟨mu, hs, d, e, w, S, r1, r2, hg, q⟩
  obtain ⟨b, h1, h2⟩ := Option.map_eq_some_iff.mp (show (gEqB hs d e).map (fun b => D.bl (!b)) = some w from hg)
  subst h2
  rcases gEqB_cases h1 with ⟨z, z', rfl, rfl, rfl⟩ | h1
  · cases r1; cases r2
    exact op_ne pins s σ H _ _ v u Q I rx ry ⟨rfl, by rw [dec_str]; exact fin0 S q (.bl _)⟩
  obtain ⟨p, p', d1, d2, z1, z2, h3⟩ := gEqD_at S r1 r2 h1
  subst h3
  exact op_neD hu pins s σ H x y v u Q I rx ry ⟨p, p', d1, d2, z1, z2, fin0 S q (.bl _)⟩
def gLt (hs : Hs) (d e : D) : Option D := match d with
  | .int i => (match e with | .int j => some (.bl (decide (i < j))) | _ => none)
  | .str x => (match e with | .str y => some (.bl (decide (x.cps.toList < y.cps.toList))) | _ => none)
  | _ => none
theorem og_lt : OpR X (compareOp .Lt) (rB X.K X.mg gLt) := by
  rintro pins s σ H x y v u Q I rx ry ⟨mu, hs, d, e, w, S, r1, r2, hg, q⟩
  unfold gLt at hg
  split at hg
  · split at hg
    · cases hg; cases r1; cases r2; exact op_lt pins s σ H _ _ v u Q I rx ry ⟨_, _, rfl, rfl, fin0 S q (.bl _)⟩
    · cases hg
  · split at hg
    · cases hg; cases r1; cases r2; exact op_lt_str pins s σ H _ _ v u Q I rx ry ⟨_, _, rfl, rfl, fin0 S q (.bl _)⟩
    · cases hg
  · cases hg
def gLe (hs : Hs) (d e : D) : Option D := match d with
  | .int i => (match e with | .int j => some (.bl (decide (i ≤ j))) | _ => none)
  | .str x => (match e with | .str y => some (.bl (!decide (y.cps.toList < x.cps.toList))) | _ => none)
  | _ => none
def gGt (hs : Hs) (d e : D) : Option D := match d with
  | .int i => (match e with | .int j => some (.bl (decide (j < i))) | _ => none)
  | .str x => (match e with | .str y => some (.bl (decide (y.cps.toList < x.cps.toList))) | _ => none)
  | _ => none
def gGe (hs : Hs) (d e : D) : Option D := match d with
  | .int i => (match e with | .int j => some (.bl (decide (j ≤ i))) | _ => none)
  | .str x => (match e with | .str y => some (.bl (!decide (x.cps.toList < y.cps.toList))) | _ => none)
  | _ => none
theorem og_le : OpR X (compareOp .LtE) (rB X.K X.mg gLe) := by
  rintro pins s σ H x y v u Q I rx ry ⟨mu, hs, d, e, w, S, r1, r2, hg, q⟩
  unfold gLe at hg
  split at hg
  · split at hg
    · cases hg; cases r1; cases r2; exact op_le pins s σ H _ _ v u Q I rx ry ⟨_, _, rfl, rfl, fin0 S q (.bl _)⟩
    · cases hg
  · split at hg
    · cases hg; cases r1; cases r2; exact op_le_str pins s σ H _ _ v u Q I rx ry ⟨_, _, rfl, rfl, fin0 S q (.bl _)⟩
    · cases hg
  · cases hg
theorem og_ge : OpR X (compareOp .GtE) (rB X.K X.mg gGe) := by
  rintro pins s σ H x y v u Q I rx ry ⟨mu, hs, d, e, w, S, r1, r2, hg, q⟩
  unfold gGe at hg
  split at hg
  · split at hg
    · cases hg; cases r1; cases r2; exact op_ge pins s σ H _ _ v u Q I rx ry ⟨_, _, rfl, rfl, fin0 S q (.bl _)⟩
    · cases hg
  · split at hg
    · cases hg; cases r1; cases r2; exact op_ge_str pins s σ H _ _ v u Q I rx ry ⟨_, _, rfl, rfl, fin0 S q (.bl _)⟩
    · cases hg
  · cases hg
/-! ### is -/
def gIs (hs : Hs) (d e : D) : Option D := match e with
  | .non => (match d with | .non => some (.bl true) | .ref _ => some (.bl false) | .bl _ => some (.bl false) | .int _ => some (.bl false) | .str _ => some (.bl false) | .tup _ => some (.bl false) | .lst _ => some (.bl false) | .scr _ => some (.bl false) | .ty _ => some (.bl false) | .ctp _ => some (.bl false) | .dct _ _ => some (.bl false) | .dtp _ _ => some (.bl false) | .dlk _ _ => some (.bl false) | .dlt _ _ => some (.bl false) | .exn _ _ _ => some (.bl false) | .ins _ _ _ => some (.bl false) | .glb _ => some (.bl false))
  | .bl b => (match d with | .bl a => some (.bl (decide (a = b))) | _ => none)
  | _ => none
def gIsN (hs : Hs) (d e : D) : Option D := match gIs hs d e with | some (.bl b) => some (.bl (!b)) | _ => none
theorem og_isN : OpR X (compareOp .IsNot) (rB X.K X.mg gIsN) := by
  rintro pins s σ H x y v u Q I rx ry ⟨mu, hs, d, e, w, S, r1, r2, hg, q⟩
  unfold gIsN at hg
  split at hg
  · rename_i b hb
    cases hg
    unfold gIs at hb
    split at hb
    · cases r2
      refine op_notN pins s σ H _ _ v u Q I rx ry ⟨rfl, ?_⟩
      cases r1 <;> (cases hb; exact fin0 S q (.bl _))
    · split at hb
      · cases hb; cases r1; cases r2; exact op_notBl pins s σ H _ _ v u Q I rx ry ⟨_, _, rfl, rfl, fin0 S q (.bl _)⟩
      · cases hb
    · cases hb
  · cases hg
/-! ### in -/
def flatD : D → Bool
  | .non => true | .bl _ => true | .int _ => true | .str _ => true | _ => false
def toV : D → V
  | .non => .non | .bl b => .bl b | .int i => .int i | .str s => .str s | _ => .non
/-- == of two flat ones -/
def eqF : D → D → Bool
  | .non, .non => true
  | .bl a, .bl b => a == b
  | .bl a, .int b => (if a then 1 else 0) == b
  | .int a, .bl b => a == (if b then 1 else 0)
  | .int a, .int b => a == b
  | .str a, .str b => a == b
  | _, _ => false
theorem flat_v {K : PySem.W.Frag} {mu : Mp} {H : Hp} {d : D} {v : V} (r : RD K mu H d v) (f : flatD d = true) : v = toV d ∧ flatV v = true := by cases r <;> first | exact ⟨rfl, rfl⟩ | cases f
theorem eqF_v : ∀ {d e : D}, flatD d = true → flatD e = true → eqV (toV d) (toV e) = eqF d e := by
  intro d e h1 h2
  cases d <;> first | (exact absurd h1 Bool.false_ne_true) | (cases e <;> first | (exact absurd h2 Bool.false_ne_true) | rfl)
theorem flats_v {K : PySem.W.Frag} {mu : Mp} {H : Hp} : ∀ {ds : List D} {vs : List V}, RDs K mu H ds vs → ds.all flatD = true → vs = ds.map toV ∧ vs.all flatV = true
  | _, _, .nil, _ => ⟨rfl, rfl⟩
  | _, _, .cons r t, f => by
    rw [List.all_cons, Bool.and_eq_true] at f
    obtain ⟨h1, h2⟩ := flat_v r f.1
    obtain ⟨h3, h4⟩ := flats_v t f.2
    exact ⟨by rw [h1, h3]; rfl, by rw [List.all_cons, h2, h4]; rfl⟩
theorem any_v {d : D} (hd : flatD d = true) : ∀ {ds : List D}, ds.all flatD = true → inV (toV d) (ds.map toV) = ds.any (fun e => eqF e d)
  | [], _ => rfl
  | e :: ds, f => by
    rw [List.all_cons, Bool.and_eq_true] at f
    have ih := any_v hd f.2
    unfold inV at ih ⊢
    rw [List.map_cons, List.any_cons, List.any_cons, ih, eqF_v f.1 hd]
/-- one sign -/
def sign1 (x : Str) : Option Nat := match x.cps.toList with | [c] => some c | _ => none
theorem sign1_eq {x : Str} {c : Nat} (h : sign1 x = some c) : x = ⟨#[c]⟩ := by
  unfold sign1 at h
  split at h
  · rename_i c' e
    cases h
    cases x
    rename_i a
    cases a
    simp at e
    subst e
    rfl
  · cases h
def seqOf (hs : Hs) (d : D) : Option (List D) := match rdOf hs d with | some ds => some ds | none => tupOf d
def gInB (hs : Hs) (d e : D) : Option Bool := match e with
  | .str z => (match d with | .str x => (match sign1 x with | some c => some (decide (c ∈ z.cps.toList)) | none => none) | _ => none)
  | e => match seqOf hs e with
    | some ds => if (flatD d && ds.all flatD) = true then some (ds.any fun e => eqF e d) else none
    | none => none
def gNotIn (hs : Hs) (d e : D) : Option D := (gInB hs d e).map fun b => .bl (!b)
theorem seqOf_at {K : PySem.W.Frag} {mg : Str → Option Value} {mu : Mp} {hs : Hs} {H : Hp} {d : D} {v : V} {ds : List D} (S : Sim K mg mu hs H) (r : RD K mu H d v) (e : seqOf hs d = some ds) : ∃ a vs, v = .ref a ∧ (SqL K H a vs ∨ SqT K H a vs) ∧ RDs K mu H ds vs := by
  unfold seqOf at e
  split at e
  · rename_i h
    cases e
    obtain ⟨a, vs, h1, h2, h3⟩ := rdOf_at S r h
    exact ⟨a, vs, h1, .inl h2, h3⟩
  · obtain ⟨a, vs, h1, h2, h3⟩ := tupOf_at r e
    exact ⟨a, vs, h1, .inr h2, h3⟩
theorem gInB_at {K : PySem.W.Frag} {mg : Str → Option Value} {mu : Mp} {hs : Hs} {H : Hp} {d e : D} {x y : V} {b : Bool} (S : Sim K mg mu hs H) (r1 : RD K mu H d x) (r2 : RD K mu H e y) (h : gInB hs d e = some b) :
    (∃ (c : Nat) (z : Str), x = .str ⟨#[c]⟩ ∧ y = .str z ∧ decide (c ∈ z.cps.toList) = b) ∨ ∃ p xs, y = .ref p ∧ (SqL K H p xs ∨ SqT K H p xs) ∧ flatV x = true ∧ xs.all flatV = true ∧ inV x xs = b := by
  have lists : (match seqOf hs e with
    | some ds => if (flatD d && ds.all flatD) = true then some (ds.any fun e => eqF e d) else none
    | none => none) = some b → ∃ p xs, y = .ref p ∧ (SqL K H p xs ∨ SqT K H p xs) ∧ flatV x = true ∧ xs.all flatV = true ∧ inV x xs = b := by
    intro h
    split at h
    · rename_i ds hds
      split at h
      · rename_i hf
        cases h
        rw [Bool.and_eq_true] at hf
        obtain ⟨a, vs, e1, e2, e3⟩ := seqOf_at S r2 hds
        obtain ⟨h1, h2⟩ := flat_v r1 hf.1
        obtain ⟨h3, h4⟩ := flats_v e3 hf.2
        exact ⟨a, vs, e1, e2, h2, h4, by rw [h1, h3, any_v hf.1 hf.2]⟩
      · cases h
    · cases h
  cases e with
  | str z =>
    unfold gInB at h; dsimp only at h
    split at h
    · split at h
      · rename_i c hc
        cases h; cases r1; cases r2
        exact .inl ⟨c, z, by rw [sign1_eq hc], rfl, rfl⟩
      · cases h
    · cases h
  | _ => exact .inr (lists h)
theorem og_notin : OpR X (compareOp .NotIn) (rB X.K X.mg gNotIn) := by
  rintro pins s σ H x y v u Q I rx ry ⟨mu, hs, d, e, w, S, r1, r2, hg, q⟩
  obtain ⟨b, h1, h2⟩ := Option.map_eq_some_iff.mp (show (gInB hs d e).map (fun b => D.bl (!b)) = some w from hg)
  subst h2
  rcases gInB_at S r1 r2 h1 with ⟨c, z, rfl, rfl, e⟩ | ⟨p, xs, rfl, h, f1, f2, e⟩
  · subst e; exact op_notIn_sign pins s σ H _ _ v u Q I rx ry ⟨c, z, rfl, rfl, fin0 S q (.bl _)⟩
  · subst e; exact op_notIn_seq pins s σ H _ _ v u Q I rx ry ⟨p, xs, rfl, h, f1, f2, fin0 S q (.bl _)⟩
end
end G

/-! # G5: subscripts, slices, calls of built-ins, methods of built-ins -/
namespace G
open PySem PySem.Spec PyProof.Rows L2

theorem RDs.at_ {K : PySem.W.Frag} {mu : Mp} {H : Hp} {ds : List D} {vs : List V} (r : RDs K mu H ds vs) {i : Int} {d : D} (h : atI ds i = some d) : ∃ v, atI vs i = some v ∧ RD K mu H d v := by
  unfold atI at h ⊢
  rw [← r.length]
  cases e : ixN ds.length i with
  | none => rw [e] at h; cases h
  | some j =>
    rw [e] at h
    obtain ⟨v, h1, h2⟩ := r.get (show ds[j]? = some d from h)
    exact ⟨v, h1, h2⟩
/-! ### a[i] -/
def gIx (hs : Hs) (d e : D) : Option D := match e with
  | .int i => (match d with
    | .str z => if z.length ≤ sizeLine then (match atI z.cps.toList i with | some c => some (.str ⟨#[c]⟩) | none => none) else none
    | d => match seqOf hs d with | some ds => atI ds i | none => none)
  | _ => none
section
variable {X : Cx} {Wd : WX} {a b : Expr} {f1 f2 : FE} {pos : Pos}
theorem ix_g : IxR X (rB X.K X.mg gIx) := by
  rintro value slice pins s σ H x y v u Q I rx ry ⟨mu, hs, d, e, w, S, r1, r2, hg, q⟩ hsl
  have seq : (∃ i, e = .int i ∧ (match seqOf hs d with | some ds => atI ds i | none => none) = some w) → wpAny (model X.prog X.w) X.A (subscriptTail value slice v u) (EP X pins σ Q) X.xe s := by
    rintro ⟨i, rfl, h⟩
    split at h
    · rename_i ds hds
      obtain ⟨p, vs, rfl, h1, h2⟩ := seqOf_at S r1 hds
      obtain ⟨z, h3, h4⟩ := h2.at_ h
      cases r2
      refine ix_seq value slice pins s σ H _ _ v u Q I rx ry ?_ hsl
      rcases h1 with h1 | h1
      · exact .inl ⟨p, vs, i, z, rfl, rfl, h1, h3, fin0 S q h4⟩
      · exact .inr (.inl ⟨p, vs, i, z, rfl, rfl, h1, h3, fin0 S q h4⟩)
    · cases h
  unfold gIx at hg
  split at hg
  · rename_i i
    cases d with
    | str z =>
      dsimp only at hg
      split at hg
      · rename_i hz
        split at hg
        · rename_i c hc
          cases hg; cases r1; cases r2
          exact ix_seq value slice pins s σ H _ _ v u Q I rx ry (.inr (.inr ⟨z, i, c, rfl, rfl, hz, hc, fin0 S q (.str _)⟩)) hsl
        · cases hg
      · cases hg
    | _ => exact seq ⟨i, rfl, hg⟩
  · cases hg
theorem ue_ix (ha : UE X Wd a f1) (hb : UE X Wd b f2) (hs : PlainIx b := by exact fun _ _ => rfl) : UE X Wd (.Subscript a b pos) (eBin gIx f1 f2) := PE.imp (pe_ix ix_g ha hb hs) fun _ _ _ h => tG_bin h

/-! ### slices -/
def cutX {t : Type} (xs : List t) (lo hi : Option Int) : List t := (xs.drop (HT.sIx xs.length 0 lo)).take (HT.sIx xs.length xs.length hi - HT.sIx xs.length 0 lo)
theorem RDs.cut {K : PySem.W.Frag} {mu : Mp} {H : Hp} {ds : List D} {vs : List V} (r : RDs K mu H ds vs) (lo hi : Option Int) : RDs K mu H (cutX ds lo hi) (cutV vs lo hi) := by
  unfold cutX cutV
  rw [r.length]
  exact (r.drop _).take _
def relO : Rel (Option Int) (Option Int) := fun _ _ _ _ a b => a = b
theorem relO_ok : relO.Ok := fun _ _ _ _ _ _ _ _ _ _ _ h => h
abbrev FO := Ev → Hs → R (Option Int)
abbrev UO (X : Cx) (Wd : WX) (o : Option Expr) (f : FO) : Prop := PO X o (tG relO X.K X.mg Wd f)
def oNone : FO := fun _ hs => .ok none hs
def oSome (f : FE) : FO := fun e hs => (f e hs).bind fun d hs => match d with | .int i => .ok (some i) hs | _ => .bad
theorem PO.imp {o : Option Expr} {t t' : TO} (h : PO X o t) (i : ∀ σ H Q, t' σ H Q → t σ H Q) : PO X o t' := ⟨fun pins s σ H Q I q => h.run pins s σ H Q I (i σ H Q q)⟩
theorem uo_none : UO X Wd none oNone := by
  refine PO.imp po_none fun σ H Q h => ?_
  obtain ⟨e, mu, hs, S, E, g⟩ := h
  exact g mu H none .refl S rfl
theorem uo_some (ha : UE X Wd a f1) : UO X Wd (some a) (oSome f1) := by
  refine PO.imp (po_some ha) fun σ H Q h => ?_
  obtain ⟨e, mu, hs, S, E, q⟩ := tG_seq (r := relD X.K) relO_ok h
  refine ⟨e, mu, hs, S, E, q.imp fun x H1 ⟨e, mu1, hs1, d, S1, E1, r1, g2⟩ => ?_⟩
  cases r1 with
  | int i => exact ⟨i, rfl, g2 mu1 H1 _ .refl S1 rfl⟩
  | _ => exact g2.elim
def gSl (hs : Hs) (d : D) (lo hi : Option Int) : Option D := match d with
  | .str z => if z.length ≤ sizeLine then some (.str (cutS z lo hi)) else none
  | .tup ds => some (.tup (cutX ds lo hi))
  | d => match rdOf hs d with | some ds => some (.lst (cutX ds lo hi)) | none => none
def rSlG (K : PySem.W.Frag) (mg : Str → Option Value) (g : Hs → D → Option Int → Option Int → Option D) : V → Option Int → Option Int → Hp → VK → Prop := fun x lo hi H Q => ∃ mu hs d w, Sim K mg mu hs H ∧ RD K mu H d x ∧ g hs d lo hi = some w ∧
  ∀ mu' H' v, Lat mu H mu' H' → Sim K mg mu' hs H' → RD K mu' H' w v → Q v H'
theorem cut_whole {t : Type} (xs : List t) {lo hi : Option Int} (h1 : HT.sIx xs.length 0 lo = 0) (h2 : HT.sIx xs.length xs.length hi = xs.length) : cutX xs lo hi = xs := by
  unfold cutX
  rw [h1, h2, List.drop_zero, Nat.sub_zero, List.take_length]
theorem sl_g : SlR X (rSlG X.K X.mg gSl) := by
  rintro pins s σ H x v vl vu lo hi sl Q I rx hs pl pu ⟨mu, hs', d, w, S, r1, hg, q⟩
  have lst : (match rdOf hs' d with | some ds => some (D.lst (cutX ds lo hi)) | none => none) = some w → ∃ T id, typeLookup (.type T) "__getitem__" = pure (some (.builtin id)) ∧ s.TypeIs v T ∧ wpAny (model X.prog X.w) X.A (getItem v (.ref sl)) (EP X pins σ Q) X.xe s := by
    intro h
    split at h
    · rename_i ds hds
      cases h
      obtain ⟨p, vs, rfl, h1, h2⟩ := rdOf_at S r1 hds
      exact sl_list pins s σ H _ v vl vu lo hi sl Q I rx hs pl pu ⟨p, vs, rfl, h1, fun p hp => finL S q hp (h2.cut lo hi)⟩
    · cases h
  unfold gSl at hg
  cases d with
  | str z =>
    dsimp only at hg
    split at hg
    · rename_i hz
      cases hg; cases r1
      exact sl_str pins s σ H _ v vl vu lo hi sl Q I rx hs pl pu ⟨z, rfl, hz, fin0 S q (.str _)⟩
    · cases hg
  | tup ds =>
    cases hg
    obtain ⟨p, vs, rfl, h1, h2⟩ := tupOf_at r1 rfl
    refine sl_tupA pins s σ H _ v vl vu lo hi sl Q I rx hs pl pu ⟨p, vs, rfl, h1, fun ⟨e1, e2⟩ => ?_, fun _ p hp => finT S q hp (h2.cut lo hi)⟩
    rw [← h2.length] at e1 e2
    exact fin0 S q (by rw [cut_whole ds e1 e2]; exact r1)
  | _ => exact lst hg
def eSl (f : FE) (lo hi : FO) : FE := fun e hs => (f e hs).bind fun d hs => (lo e hs).bind fun l hs => (hi e hs).bind fun h hs => R.ofO (gSl hs d l h) hs
theorem ue_sl {lo hi : Option Expr} {p2 : Pos} {fl fh : FO} (ha : UE X Wd a f1) (hl : UO X Wd lo fl) (hh : UO X Wd hi fh) : UE X Wd (.Subscript a (.Slice lo hi none p2) pos) (eSl f1 fl fh) := by
  refine PE.imp (pe_slice sl_g ha hl hh) fun σ H Q h => ?_
  obtain ⟨e, mu, hs, S, E, q⟩ := tG_seq (r := relD X.K) relD_ok h
  refine ⟨e, mu, hs, S, E, q.imp fun x H1 ⟨e, mu1, hs1, d, S1, E1, r1, g1⟩ => ?_⟩
  refine ⟨e, mu1, hs1, S1, E1, (Gd.bind (r := relO) relD_ok g1).imp fun lo H2 ⟨mu2, hs2, lo', l2, S2, r2, g2⟩ => ?_⟩
  have r2 : lo' = lo := r2
  subst r2
  refine ⟨e, mu2, hs2, S2, E1.agr (l2.agr S1), (Gd.bind (r := relO) relD_ok g2).imp fun hi H3 ⟨mu3, hs3, hi', l3, S3, r3, g3⟩ => ?_⟩
  have r3 : hi' = hi := r3
  subst r3
  cases q : gSl hs3 d lo' hi' with
  | none => rw [q] at g3; exact g3.elim
  | some w => rw [q] at g3; exact ⟨mu3, hs3, d, w, S3, RD.agr (l3.agr S2) (RD.agr (l2.agr S1) r1), q, g3⟩
/-- xs[::-1], a new list -/
def lRev (f : FE) : FL := fun e hs => (f e hs).bind fun d hs => R.ofO ((rdOf hs d).map List.reverse) hs
theorem relF_new {K : PySem.W.Frag} {mg : Str → Option Value} {mu : Mp} {hs : Hs} {H : Hp} {Q : VK} {ds : List D} {vs : List V} {p : Addr} (S : Sim K mg mu hs H) (q : ∀ mu' H' v, Lat mu H mu' H' → Sim K mg mu' hs H' → relF K mg H mu' hs H' ds v → Q v H') (hp : H p = none) (r : RDs K mu H ds vs) : Q (.ref p) (upd H p (.lst vs)) :=
  q mu _ _ (.new hp) (S.new hp) ⟨p, vs, rfl, upd_same, S.fresh hp, S.freshz hp, hp, RDs.agr (Lat.agr (.new hp) S) r⟩
theorem uf_rev {k : Nat} {p1 p2 p3 : Pos} (ha : UE X Wd a f1) : UF X Wd (.Subscript a (.Slice none none (some (.UnaryOp .USub (.Constant (.int 1) k p1) p2)) p3) pos) (lRev f1) := by
  refine PE.imp (pe_revL ha) fun σ H Q h => ?_
  obtain ⟨e, mu, hs, S, E, q⟩ := tG_seq (r := relD X.K) relF_ok h
  refine ⟨e, mu, hs, S, E, q.imp fun x H1 ⟨e, mu1, hs1, d, S1, E1, r1, g1⟩ => ?_⟩
  cases q : rdOf hs1 d with
  | none => rw [q] at g1; exact g1.elim
  | some ds =>
    rw [q] at g1
    obtain ⟨p, vs, rfl, h1, h2⟩ := rdOf_at S1 r1 q
    exact ⟨p, vs, rfl, h1, fun p hp => relF_new S1 g1 hp h2.reverse⟩

/-! ### calls by values -/
def rC (K : PySem.W.Frag) (mg : Str → Option Value) (g : Hs → List D → Option D) : List V → Hp → VK → Prop := fun xs H Q => ∃ mu hs ds w, Sim K mg mu hs H ∧ RDs K mu H ds xs ∧ g hs ds = some w ∧
  ∀ mu' H' v, Lat mu H mu' H' → Sim K mg mu' hs H' → RD K mu' H' w v → Q v H'
def eCall (g : Hs → List D → Option D) (f : FA) : FE := fun e hs => (f e hs).bind fun ds hs => R.ofO (g hs ds) hs
theorem tG_call {K : PySem.W.Frag} {mg : Str → Option Value} {g : Hs → List D → Option D} {f : FA} {σ : L2.St} {H : Hp} {Q : VK} (h : tG (relD K) K mg Wd (eCall g f) σ H Q) : tG (relA K) K mg Wd f σ H (fun xs H1 => rC K mg g xs H1 Q) := by
  obtain ⟨e, mu, hs, S, E, q⟩ := tG_seq (r := relA K) relD_ok h
  refine ⟨e, mu, hs, S, E, q.imp fun x H1 ⟨e, mu1, hs1, d, S1, E1, r1, g2⟩ => ?_⟩
  cases q : g hs1 d with
  | none => rw [q] at g2; exact g2.elim
  | some w => rw [q] at g2; exact ⟨mu1, hs1, d, w, S1, r1, q, g2⟩
variable {g : Hs → List D → Option D} {f : FA} {x : Str} {p : Pos} {e : Expr} {es : List Expr} {mid T : String}
theorem ue_callB (hc : CallR X (.builtin mid) (rC X.K X.mg g)) (hg : Gl X x) (hm : X.mg x = none) (hv : bootBuiltins x = some (.builtin mid)) (ha : UA X Wd (e :: es) f) (hn : x ≠ "__name__" := by decide) (hdb : (x == ("__debug__" : Str)) = false := by decide)
    (he : starEach (e :: es) X.env = (false, eval e X.env) :: starEach es X.env := by rfl) (hpl : (backTo pos (starEach es X.env)).any (·.1) = false := by rfl) : UE X Wd (.Call (.Name x p) (e :: es) [] pos) (eCall g f) :=
  PE.imp (pe_callB hc hg hm hv ha hn hdb he hpl) fun _ _ _ h => tG_call h
theorem ue_callTy (hc : CallR X (.type T) (rC X.K X.mg g)) (hg : Gl X x) (hm : X.mg x = none) (hv : bootBuiltins x = some (.type T)) (ha : UA X Wd (e :: es) f) (hn : x ≠ "__name__" := by decide) (hdb : (x == ("__debug__" : Str)) = false := by decide)
    (he : starEach (e :: es) X.env = (false, eval e X.env) :: starEach es X.env := by rfl) (hpl : (backTo pos (starEach es X.env)).any (·.1) = false := by rfl) : UE X Wd (.Call (.Name x p) (e :: es) [] pos) (eCall g f) :=
  PE.imp (pe_callTy hc hg hm hv ha hn hdb he hpl) fun _ _ _ h => tG_call h
/-- len -/
def gLen (hs : Hs) (ds : List D) : Option D := match ds with
  | [d] => (match d with
    | .str y => if y.length ≤ sizeLine then some (.int y.length) else none
    | d => match seqOf hs d with | some ds => some (.int ds.length) | none => none)
  | _ => none
theorem cg_len : CallR X (.builtin "len") (rC X.K X.mg gLen) := by
  rintro pins s σ H xs us Q I r ⟨mu, hs, ds, w, S, rs, hg, q⟩
  unfold gLen at hg
  split at hg
  · rename_i d
    cases rs with
    | cons r1 r2 =>
      cases r2
      cases d with
      | str y =>
        dsimp only at hg
        split at hg
        · rename_i hz
          cases hg; cases r1
          exact call_len pins s σ H _ us Q I r ⟨_, _, rfl, ⟨hz, rfl⟩, fin0 S q (.int _)⟩
        · cases hg
      | _ =>
        dsimp only at hg
        split at hg
        · rename_i ds hds
          cases hg
          obtain ⟨p, vs, rfl, h1, h2⟩ := seqOf_at S r1 hds
          exact call_len pins s σ H _ us Q I r ⟨_, _, rfl, h1.elim (fun z => .inl ⟨vs, z, h2.length⟩) (fun z => .inr ⟨vs, z, h2.length⟩), fin0 S q (.int _)⟩
        · cases hg
  · cases hg
/-- min, max of two ints -/
def gMin2 (hs : Hs) (ds : List D) : Option D := match ds with | [.int i, .int j] => some (.int (if j < i then j else i)) | _ => none
def gMax2 (hs : Hs) (ds : List D) : Option D := match ds with | [.int i, .int j] => some (.int (if j > i then j else i)) | _ => none
theorem cg_min2 (hc : X.calm = true) : CallR X (.builtin "min") (rC X.K X.mg gMin2) := by
  rintro pins s σ H xs us Q I r ⟨mu, hs, ds, w, S, rs, hg, q⟩
  unfold gMin2 at hg
  split at hg
  · cases hg
    cases rs with
    | cons r1 r2 => cases r1; cases r2 with
      | cons r3 r4 => cases r3; cases r4; exact call_min2 hc pins s σ H _ us Q I r ⟨_, _, rfl, fin0 S q (.int _)⟩
  · cases hg
theorem cg_max2 (hc : X.calm = true) : CallR X (.builtin "max") (rC X.K X.mg gMax2) := by
  rintro pins s σ H xs us Q I r ⟨mu, hs, ds, w, S, rs, hg, q⟩
  unfold gMax2 at hg
  split at hg
  · cases hg
    cases rs with
    | cons r1 r2 => cases r1; cases r2 with
      | cons r3 r4 => cases r3; cases r4; exact call_max2 hc pins s σ H _ us Q I r ⟨_, _, rfl, fin0 S q (.int _)⟩
  · cases hg
/-- ints of a list -/
def intsOf : List D → Option (List Int)
  | [] => some []
  | .int i :: ds => (intsOf ds).map (i :: ·)
  | _ :: _ => none
theorem intsOf_eq : ∀ {ds : List D} {ns : List Int}, intsOf ds = some ns → ds = ns.map D.int
  | [], ns, h => by cases h; rfl
  | d :: ds, ns, h => by
    cases d with
    | int i =>
      obtain ⟨m, h1, h2⟩ := Option.map_eq_some_iff.mp (show (intsOf ds).map (i :: ·) = some ns from h)
      subst h2
      rw [intsOf_eq h1]; rfl
    | _ => cases h
theorem intsOf_map : ∀ ns : List Int, intsOf (ns.map D.int) = some ns
  | [] => rfl
  | n :: ns => by show (intsOf (ns.map D.int)).map (n :: ·) = _; rw [intsOf_map ns]; rfl
theorem RDs.of_ints {K : PySem.W.Frag} {mu : Mp} {H : Hp} : ∀ {ns : List Int} {vs : List V}, RDs K mu H (ns.map D.int) vs → vs = ns.map V.int
  | [], _, h => by cases h; rfl
  | n :: ns, _, h => by cases h with | cons r t => cases r; rw [RDs.of_ints t]; rfl
def gSum (hs : Hs) (ds : List D) : Option D := match ds with
  | [d] => (match rdOf hs d with | some xs => (match intsOf xs with | some ns => some (.int ns.sum) | none => none) | none => none)
  | _ => none
theorem cg_sum (hc : X.calm = true) : CallR X (.builtin "sum") (rC X.K X.mg gSum) := by
  rintro pins s σ H xs us Q I r ⟨mu, hs, ds, w, S, rs, hg, q⟩
  unfold gSum at hg
  split at hg
  · split at hg
    · rename_i ds hds
      split at hg
      · rename_i ns hns
        cases hg
        cases rs with
        | cons r1 r2 =>
          cases r2
          obtain ⟨p, vs, rfl, h1, h2⟩ := rdOf_at S r1 hds
          rw [intsOf_eq hns] at h2
          rw [h2.of_ints] at h1
          exact cr_sum hc pins s σ H _ us Q I r ⟨p, ns, rfl, h1, fin0 S q (.int _)⟩
      · cases hg
    · cases hg
  · cases hg
/-- bools of a list -/
def blsOf : List D → Option (List Bool)
  | [] => some []
  | .bl i :: ds => (blsOf ds).map (i :: ·)
  | _ :: _ => none
theorem blsOf_map : ∀ ns : List Bool, blsOf (ns.map D.bl) = some ns
  | [] => rfl
  | n :: ns => by show (blsOf (ns.map D.bl)).map (n :: ·) = _; rw [blsOf_map ns]; rfl
def gAll (hs : Hs) (ds : List D) : Option D := match ds with
  | [d] => (match rdOf hs d with | some xs => (match blsOf xs with | some ns => some (.bl (ns.all id)) | none => none) | none => none)
  | _ => none
/-- int of an int, a bool; str of an int, a text -/
def gInt (hs : Hs) (ds : List D) : Option D := match ds with
  | [.int i] => some (.int i)
  | [.bl k] => some (.int (if k then 1 else 0))
  | _ => none
theorem cg_int : CallR X (.type "int") (rC X.K X.mg gInt) := by
  rintro pins s σ H xs us Q I r ⟨mu, hs, ds, w, S, rs, hg, q⟩
  unfold gInt at hg
  split at hg
  · cases hg
    cases rs with
    | cons r1 r2 => cases r1; cases r2; exact call_int1 pins s σ H _ us Q I r (.inl ⟨_, rfl, fin0 S q (.int _)⟩)
  · cases hg
    cases rs with
    | cons r1 r2 => cases r1; cases r2; exact call_int1 pins s σ H _ us Q I r (.inr ⟨_, rfl, fin0 S q (.int _)⟩)
  · cases hg
def gStr (hs : Hs) (ds : List D) : Option D := match ds with
  | [.int i] => if i.natAbs.log2 < 1920 then some (.str (toString i)) else none
  | [.bl b] => some (.str (if b then "True" else "False"))
  | _ => none
/-- list(x), tuple(x) -/
def lList (f : FE) : FL := fun e hs => (f e hs).bind fun d hs => R.ofO (seqOf hs d) hs
theorem uf_list (hg : Gl X "list") (hm : X.mg "list" = none) (ha : UE X Wd a f1)
    (hs1 : starEach [a] X.env = [(false, eval a X.env)] := by rfl) : UF X Wd (.Call (.Name "list" p) [a] [] pos) (lList f1) := by
  refine PE.imp (pe_callTy call_list_of hg hm boot_list (pa_cons ha pa_nil hs1) (by decide) (by decide) hs1 rfl) fun σ H Q h => ?_
  obtain ⟨e, mu, hs, S, E, q⟩ := tG_seq (r := relD X.K) relF_ok h
  refine ⟨e, mu, hs, S, E, q.imp fun x H1 ⟨e, mu1, hs1, d, S1, E1, r1, g1⟩ => ?_⟩
  cases q : seqOf hs1 d with
  | none => rw [q] at g1; exact g1.elim
  | some ds =>
    rw [q] at g1
    obtain ⟨p, vs, rfl, h1, h2⟩ := seqOf_at S1 r1 q
    exact ⟨p, vs, rfl, h1, fun p hp => relF_new S1 g1 hp h2⟩
def gTuple (hs : Hs) (ds : List D) : Option D := match ds with
  | [d] => (match d with
    | .tup xs => some (.tup xs)
    | d => match rdOf hs d with | some xs => some (.tup xs) | none => none)
  | _ => none
theorem cg_tuple : CallR X (.type "tuple") (rC X.K X.mg gTuple) := by
  rintro pins s σ H xs us Q I r ⟨mu, hs, ds, w, S, rs, hg, q⟩
  cases rs with
  | nil => cases hg
  | cons r1 r2 =>
    cases r2 with
    | cons _ _ => cases hg
    | nil =>
      rename_i d v
      have lst : (match rdOf hs d with | some xs => some (D.tup xs) | none => none) = some w → wpAny (model X.prog X.w) X.A (call (.type "tuple") us) (EP X pins σ Q) X.xe s := by
        intro h
        split at h
        · rename_i ds hds
          cases h
          obtain ⟨p, vs, rfl, h1, h2⟩ := rdOf_at S r1 hds
          exact call_tuple_of pins s σ H _ us Q I r ⟨p, vs, rfl, .inl ⟨h1, fun l hl => finT S q hl h2⟩⟩
        · cases h
      cases d with
      | tup ds =>
        cases hg
        obtain ⟨p, vs, rfl, h1, h2⟩ := tupOf_at r1 rfl
        exact call_tuple_of pins s σ H _ us Q I r ⟨p, vs, rfl, .inr ⟨h1, fin0 S q r1⟩⟩
      | _ => exact lst hg
/-- repr of data -/
def smallText (p : PyData) : Bool := p.showable && decide (p.depth ≤ 60) && decide (p.shown.length ≤ sizeLine) && !p.hasDict
def gRepr (hs : Hs) (ds : List D) : Option D := match ds with
  | [d] => (match pd hs d with | some p => if smallText p = true then some (.str p.shown) else none | none => none)
  | _ => none
/-! ### methods -/
/-- a method by values: our heap may change -/
def rMd (K : PySem.W.Frag) (mg : Str → Option Value) (g : Hs → D → List D → Option (D × Hs)) : V → List V → Hp → VK → Prop := fun x xs H Q => ∃ mu hs d ds w hs', Sim K mg mu hs H ∧ RD K mu H d x ∧ RDs K mu H ds xs ∧ g hs d ds = some (w, hs') ∧
  ∀ mu' H' v, Lat mu H mu' H' → Sim K mg mu' hs' H' → RD K mu' H' w v → Q v H'
def isL (hs : Hs) (d : D) : Bool := (lstOf hs d).isSome
def isS (d : D) : Bool := match d with | .str _ => true | _ => false
def R.ofP {t : Type} (o : Option (t × Hs)) : R t := match o with | some (x, hs) => .ok x hs | none => .bad
def eMt (c : Hs → D → Bool) (g : Hs → D → List D → Option (D × Hs)) (f1 : FE) (f : FA) : FE := fun e hs => (f1 e hs).bind fun d hs => if c hs d = true then (f e hs).bind fun ds hs => R.ofP (g hs d ds) else .bad
theorem tG_mt {K : PySem.W.Frag} {mg : Str → Option Value} {T : String} {c : Hs → D → Bool} {g : Hs → D → List D → Option (D × Hs)} (hc : ∀ mu hs H d x, Sim K mg mu hs H → RD K mu H d x → c hs d = true → tyV K T x H) {f : FA} {σ : L2.St} {H : Hp} {Q : VK} (h : tG (relD K) K mg Wd (eMt c g f1 f) σ H Q) :
    tBM K T (rMd K mg g) (tG (relD K) K mg Wd f1) (tG (relA K) K mg Wd f) σ H Q := by
  obtain ⟨e, mu, hs, S, E, q⟩ := tG_seq (r := relD K) relD_ok h
  refine ⟨e, mu, hs, S, E, q.imp fun x H1 ⟨e, mu1, hs1, d, S1, E1, r1, g1⟩ => ?_⟩
  split at g1
  · rename_i hcd
    refine ⟨hc _ _ _ _ _ S1 r1 hcd, e, mu1, hs1, S1, E1, (Gd.bind (r := relA K) relD_ok g1).imp fun xs H2 ⟨mu2, hs2, ds, l2, S2, r2, g2⟩ => ?_⟩
    cases q : g hs2 d ds with
    | none => rw [q] at g2; exact g2.elim
    | some w => rw [q] at g2; exact ⟨mu2, hs2, d, ds, w.1, w.2, S2, RD.agr (l2.agr S1) r1, r2, q, g2⟩
  · exact g1.elim
theorem tG_mt0 {K : PySem.W.Frag} {mg : Str → Option Value} {T : String} {c : Hs → D → Bool} {g : Hs → D → List D → Option (D × Hs)} (hc : ∀ mu hs H d x, Sim K mg mu hs H → RD K mu H d x → c hs d = true → tyV K T x H) {σ : L2.St} {H : Hp} {Q : VK} (h : tG (relD K) K mg Wd (eMt c g f1 aNil) σ H Q) :
    tBM0 K T (rMd K mg g) (tG (relD K) K mg Wd f1) σ H Q := by
  obtain ⟨e, mu, hs, S, E, q⟩ := tG_seq (r := relD K) relD_ok h
  refine ⟨e, mu, hs, S, E, q.imp fun x H1 ⟨e, mu1, hs1, d, S1, E1, r1, g1⟩ => ?_⟩
  split at g1
  · rename_i hcd
    refine ⟨hc _ _ _ _ _ S1 r1 hcd, ?_⟩
    have g1 : Gd (relD K) K mg Wd σ mu1 H1 Q (R.ofP (g hs1 d [])) := g1
    cases q : g hs1 d [] with
    | none => rw [q] at g1; exact g1.elim
    | some w => rw [q] at g1; exact ⟨mu1, hs1, d, [], w.1, w.2, S1, r1, .nil, q, g1⟩
  · exact g1.elim
theorem isL_ty {K : PySem.W.Frag} {mg : Str → Option Value} : ∀ mu hs H d x, Sim K mg mu hs H → RD K mu H d x → isL hs d = true → tyV K "list" x H := fun mu hs H d x S r h => by
  unfold isL at h
  cases e : lstOf hs d with
  | none => rw [e] at h; cases h
  | some ds =>
    obtain ⟨a, vs, rfl, h1, _⟩ := lstOf_at S r e
    exact .inl ⟨rfl, vs, .of h1⟩
theorem isS_ty {K : PySem.W.Frag} {mg : Str → Option Value} : ∀ (mu : Mp) (hs : Hs) (H : Hp) (d : D) (x : V), Sim K mg mu hs H → RD K mu H d x → isS d = true → tyV K "str" x H := fun mu hs H d x S r h => by
  cases r <;> first | rfl | cases h
variable {o : Expr} {name : Str} {apos cpos : Pos} {c : Hs → D → Bool} {g' : Hs → D → List D → Option (D × Hs)}
theorem ue_mt (hc : ∀ mu hs H d x, Sim X.K X.mg mu hs H → RD X.K mu H d x → c hs d = true → tyV X.K T x H) (pa : PlainAttrs T) (slot : Slot T name mid) (hty : typeOf (.builtin mid) = pure (.type "method_descriptor")) (hm : MtR X mid (rMd X.K X.mg g')) (ho : UE X Wd o f1) (ha : UA X Wd (e :: es) f)
    (hbase : attributeBase o name X.env (eval o X.env) = eval o X.env := by rfl)
    (hfew : ((backTo cpos (starEach (e :: es) X.env)).all (fun x => !x.1) && (backToKw cpos (keywordEach [] X.env)).all (fun x => x.1.isSome)
      && decide ((e :: es).length + ([] : List Keyword).length + (if ([] : List Keyword).isEmpty then 0 else 1) < 30)) = true := by rfl)
    (hline : (apos.endLine == cpos.line) = true := by rfl) (hs : starEach (e :: es) X.env = (false, eval e X.env) :: starEach es X.env := by rfl) (hplain : (backTo cpos (starEach es X.env)).any (·.1) = false := by rfl) :
    UE X Wd (.Call (.Attribute o name apos) (e :: es) [] cpos) (eMt c g' f1 f) := PE.imp (pe_bm pa slot hty hm ho ha hbase hfew hline hs hplain) fun _ _ _ h => tG_mt hc h
theorem ue_mt0 (hc : ∀ mu hs H d x, Sim X.K X.mg mu hs H → RD X.K mu H d x → c hs d = true → tyV X.K T x H) (pa : PlainAttrs T) (slot : Slot T name mid) (hty : typeOf (.builtin mid) = pure (.type "method_descriptor")) (hm : MtR X mid (rMd X.K X.mg g')) (ho : UE X Wd o f1)
    (hbase : attributeBase o name X.env (eval o X.env) = eval o X.env := by rfl) (hline : (apos.endLine == cpos.line) = true := by rfl) :
    UE X Wd (.Call (.Attribute o name apos) [] [] cpos) (eMt c g' f1 aNil) := PE.imp (pe_bm0 pa slot hty hm ho hbase hline) fun _ _ _ h => tG_mt0 hc h
/-- a list of the heap -/
def refOf (hs : Hs) : D → Option (Nat × List D)
  | .ref n => match hs[n]? with | some (.lst ds) => some (n, ds) | _ => none
  | _ => none
theorem refOf_at {K : PySem.W.Frag} {mg : Str → Option Value} {mu : Mp} {hs : Hs} {H : Hp} {d : D} {v : V} {n : Nat} {ds : List D} (S : Sim K mg mu hs H) (r : RD K mu H d v) (e : refOf hs d = some (n, ds)) : ∃ a vs, v = .ref a ∧ mu.l[n]? = some a ∧ H a = some (.lst vs) ∧ RDs K mu H ds vs := by
  cases r with
  | ref q =>
    unfold refOf at e
    dsimp only at e
    split at e
    · rename_i ds' he
      cases e
      obtain ⟨u, h1, h2⟩ := S.at q he
      cases u <;> first | exact ⟨_, _, rfl, q, h1, h2⟩ | exact h2.elim
    · cases e
  | _ => cases e
def mAppend (hs : Hs) (d : D) (ds : List D) : Option (D × Hs) := match ds with
  | [y] => (match refOf hs d with | some (n, xs) => if xs.length < sizeLine then some (.non, hs.set n (.lst (xs ++ [y]))) else none | none => none)
  | _ => none
theorem mg_append : MtR X "list.append" (rMd X.K X.mg mAppend) := by
  rintro pins s σ H x xs v us Q I rx rxs ⟨mu, hs, d, ds, w, hs', S, r1, r2, hg, q⟩
  unfold mAppend at hg
  split at hg
  · split at hg
    · rename_i n xs hx
      split at hg
      · rename_i hz
        cases hg
        cases r2 with
        | cons r3 r4 =>
          cases r4
          obtain ⟨a, vs, rfl, h1, h2, h3⟩ := refOf_at S r1 hx
          refine mt_append pins s σ H _ _ v us Q I rx rxs ⟨a, vs, _, rfl, rfl, h2, by rw [← h3.length]; exact hz, ?_⟩
          exact q mu _ _ (.write h1) (S.write h1 (RDs.snoc h3 r3)) .non
      · cases hg
    · cases hg
  · cases hg
def mPop (hs : Hs) (d : D) (ds : List D) : Option (D × Hs) := match ds with
  | [] => (match refOf hs d with | some (n, xs) => (match xs[xs.length - 1]? with | some y => some (y, hs.set n (.lst xs.dropLast)) | none => none) | none => none)
  | _ => none
theorem RDs.dropLast {K : PySem.W.Frag} {mu : Mp} {H : Hp} {ds : List D} {vs : List V} (r : RDs K mu H ds vs) : RDs K mu H ds.dropLast vs.dropLast := by
  rw [List.dropLast_eq_take, List.dropLast_eq_take, r.length]
  exact r.take _
theorem mg_pop : MtR X "list.pop" (rMd X.K X.mg mPop) := by
  rintro pins s σ H x xs v us Q I rx rxs ⟨mu, hs, d, ds, w, hs', S, r1, r2, hg, q⟩
  unfold mPop at hg
  split at hg
  · split at hg
    · rename_i n xs hx
      split at hg
      · rename_i y hy
        cases hg
        cases r2
        obtain ⟨a, vs, rfl, h1, h2, h3⟩ := refOf_at S r1 hx
        rw [h3.length] at hy
        obtain ⟨z, h4, h5⟩ := h3.get hy
        refine mt_pop pins s σ H _ _ v us Q I rx rxs ⟨a, vs, z, rfl, rfl, h2, h4, ?_⟩
        exact q mu _ _ (.write h1) (S.write h1 h3.dropLast) (RD.agr (Lat.agr (.write h1) S) h5)
      · cases hg
    · cases hg
  · cases hg
/-- text.index(sign), found -/
def mSIndex (hs : Hs) (d : D) (ds : List D) : Option (D × Hs) := match ds with
  | [.str b] => (match d with | .str a => (match Builtin.Str.occurrences a b 0 a.length 1 with | i :: _ => some (.int (i : Nat), hs) | [] => none) | _ => none)
  | _ => none
theorem mg_sindex : MtR X "str.index" (rMd X.K X.mg mSIndex) := by
  rintro pins s σ H x xs v us Q I rx rxs ⟨mu, hs, d, ds, w, hs', S, r1, r2, hg, q⟩
  unfold mSIndex at hg
  split at hg
  · split at hg
    · split at hg
      · rename_i i rest hi
        cases hg; cases r1
        cases r2 with
        | cons r3 r4 => cases r3; cases r4; exact mt_sindex pins s σ H _ _ v us Q I rx rxs ⟨_, _, i, rest, rfl, rfl, hi, q mu H _ .refl S (.int _)⟩
      · cases hg
    · cases hg
  · cases hg
/-- sep.join(texts) -/
def strsOf : List D → Option (List Str)
  | [] => some []
  | .str i :: ds => (strsOf ds).map (i :: ·)
  | _ :: _ => none
theorem strsOf_eq : ∀ {ds : List D} {ns : List Str}, strsOf ds = some ns → ds = ns.map D.str
  | [], ns, h => by cases h; rfl
  | d :: ds, ns, h => by
    cases d with
    | str i =>
      obtain ⟨m, h1, h2⟩ := Option.map_eq_some_iff.mp (show (strsOf ds).map (i :: ·) = some ns from h)
      subst h2
      rw [strsOf_eq h1]; rfl
    | _ => cases h
theorem strsOf_map : ∀ ns : List Str, strsOf (ns.map D.str) = some ns
  | [] => rfl
  | n :: ns => by show (strsOf (ns.map D.str)).map (n :: ·) = _; rw [strsOf_map ns]; rfl
theorem RDs.of_strs {K : PySem.W.Frag} {mu : Mp} {H : Hp} : ∀ {ns : List Str} {vs : List V}, RDs K mu H (ns.map D.str) vs → vs = ns.map V.str
  | [], _, h => by cases h; rfl
  | n :: ns, _, h => by cases h with | cons r t => cases r; rw [RDs.of_strs t]; rfl
def mJoin (hs : Hs) (d : D) (ds : List D) : Option (D × Hs) := match ds with
  | [y] => (match d with | .str a => (match seqOf hs y with | some zs => (match strsOf zs with | some ys => if (ys.map (·.length)).sum + ys.length * a.length ≤ 16777216 then some (.str (Txt.join a ys), hs) else none | none => none) | none => none) | _ => none)
  | _ => none
theorem mg_join : MtR X "str.join" (rMd X.K X.mg mJoin) := by
  rintro pins s σ H x xs v us Q I rx rxs ⟨mu, hs, d, ds, w, hs', S, r1, r2, hg, q⟩
  unfold mJoin at hg
  split at hg
  · split at hg
    · split at hg
      · rename_i zs hzs
        split at hg
        · rename_i ys hys
          split at hg
          · rename_i hz
            cases hg; cases r1
            cases r2 with
            | cons r3 r4 =>
              cases r4
              obtain ⟨p, vs, rfl, h1, h2⟩ := seqOf_at S r3 hzs
              rw [strsOf_eq hys] at h2
              have := h2.of_strs
              subst this
              exact mt_join pins s σ H _ _ v us Q I rx rxs ⟨_, p, ys, rfl, rfl, h1, hz, q mu H _ .refl S (.str _)⟩
          · cases hg
        · cases hg
      · cases hg
    · cases hg
  · cases hg
end
end G

/-! # G6: statements, targets, what is walked, loops, comprehensions -/
namespace G
open PySem PySem.Spec PyProof.Rows L2

/-- what is wanted of a statement's end -/
def GdS (K : PySem.W.Frag) (mg : Str → Option Value) (Wd : WX) (D : Ends) (mu : Mp) (H : Hp) : SR → Prop
  | .nx e hs' => ∀ mu' H' σ', Lat mu H mu' H' → Sim K mg mu' hs' H' → RE K mu' H' e σ' → D.nx σ' H'
  | .brk e hs' => ∀ mu' H' σ', Lat mu H mu' H' → Sim K mg mu' hs' H' → RE K mu' H' e σ' → D.bk σ' H'
  | .cnt e hs' => ∀ mu' H' σ', Lat mu H mu' H' → Sim K mg mu' hs' H' → RE K mu' H' e σ' → D.ct σ' H'
  | .ret d hs' => ∀ mu' H' v, Lat mu H mu' H' → Sim K mg mu' hs' H' → RD K mu' H' d v → D.rt v H'
  | .exc c fs e hs' => ∀ mu' H' σ' cls dx, Lat mu H mu' H' → Sim K mg mu' hs' H' → RE K mu' H' e σ' → RX K mg mu' H' c fs cls dx → Wd cls dx σ' H'
  | .bad => False
def tS (K : PySem.W.Frag) (mg : Str → Option Value) (Wd : WX) (f : FS) : TS := fun D σ H => ∃ e mu hs, Sim K mg mu hs H ∧ RE K mu H e σ ∧ GdS K mg Wd D mu H (f e hs)
section
variable {K : PySem.W.Frag} {mg : Str → Option Value} {Wd : WX} {mu mu1 : Mp} {H H1 : Hp} {D : Ends}
theorem GdS.later (l : Lat mu H mu1 H1) {x : SR} (h : GdS K mg Wd D mu H x) : GdS K mg Wd D mu1 H1 x := by
  cases x with
  | nx e hs' => exact fun mu' H' σ' l' s' q => h mu' H' σ' (l.trans l') s' q
  | brk e hs' => exact fun mu' H' σ' l' s' q => h mu' H' σ' (l.trans l') s' q
  | cnt e hs' => exact fun mu' H' σ' l' s' q => h mu' H' σ' (l.trans l') s' q
  | ret d hs' => exact fun mu' H' v l' s' q => h mu' H' v (l.trans l') s' q
  | exc c fs e hs' => exact fun mu' H' σ' cls dx l' s' q => h mu' H' σ' cls dx (l.trans l') s' q
  | bad => exact h
end
/-- an expression ahead of a statement -/
def sBind {a : Type} (f : Ev → Hs → R a) (k : a → FS) : FS := fun e hs => match f e hs with
  | .ok x hs' => k x e hs'
  | .exc c fs hs' => .exc c fs e hs'
  | .bad => .bad
theorem tS_bind {K : PySem.W.Frag} {mg : Str → Option Value} {Wd : WX} {a b : Type} {r : Rel a b} {f : Ev → Hs → R a} {k : a → FS} {D : Ends} {σ : L2.St} {H : Hp} (h : tS K mg Wd (sBind f k) D σ H) :
    tG r K mg Wd f σ H (fun y H1 => ∃ e mu1 hs1 x, Sim K mg mu1 hs1 H1 ∧ RE K mu1 H1 e σ ∧ r H mu1 hs1 H1 x y ∧ GdS K mg Wd D mu1 H1 (k x e hs1)) := by
  obtain ⟨e, mu, hs, S, E, g⟩ := h
  refine ⟨e, mu, hs, S, E, ?_⟩
  unfold sBind at g
  cases q : f e hs with
  | ok x hs' => rw [q] at g; exact fun mu' H' y l s rr => ⟨e, mu', hs', x, s, E.agr (l.agr S), rr, GdS.later l g⟩
  | exc c fs hs' => rw [q] at g; exact fun mu' H' cls dx l s rr => g mu' H' σ cls dx l s (E.agr (l.agr S)) rr
  | bad => rw [q] at g; exact g
theorem PS.imp {X : Cx} {st : Stmt} {t t' : TS} (h : PS X st t) (i : ∀ D σ H, t' D σ H → t D σ H) : PS X st t' := ⟨fun pins s σ H D I q => h.run pins s σ H D I (i D σ H q)⟩
theorem PSs.imp {X : Cx} {st : List Stmt} {t t' : TS} (h : PSs X st t) (i : ∀ D σ H, t' D σ H → t D σ H) : PSs X st t' := ⟨fun pins s σ H D I q => h.run pins s σ H D I (i D σ H q)⟩
abbrev US (X : Cx) (Wd : WX) (st : Stmt) (f : FS) : Prop := PS X st (tS X.K X.mg Wd f)
abbrev USs (X : Cx) (Wd : WX) (st : List Stmt) (f : FS) : Prop := PSs X st (tS X.K X.mg Wd f)

def sSkip : FS := fun e hs => .nx e hs
def sSeq (f g : FS) : FS := fun e hs => match f e hs with
  | .nx e' hs' => g e' hs'
  | .brk e' hs' => .brk e' hs'
  | .cnt e' hs' => .cnt e' hs'
  | .ret d hs' => .ret d hs'
  | .exc c fs e' hs' => .exc c fs e' hs'
  | .bad => .bad
section
variable {X : Cx} {Wd : WX} {st : Stmt} {rest : List Stmt} {f g : FS} {a b : Expr} {f1 f2 : FE} {t1 : FT} {pos : Pos}
theorem us_nil : USs X Wd [] sSkip := by
  refine PSs.imp pss_nil fun D σ H ⟨e, mu, hs, S, E, g⟩ => g mu H σ .refl S E
theorem us_cons (h1 : US X Wd st f) (h2 : USs X Wd rest g) : USs X Wd (st :: rest) (sSeq f g) := by
  refine PSs.imp (pss_cons h1 h2) fun D σ H ⟨e, mu, hs, S, E, q⟩ => ⟨e, mu, hs, S, E, ?_⟩
  unfold sSeq at q
  cases r : f e hs with
  | nx e' hs' => rw [r] at q; exact fun mu' H' σ' l s rr => ⟨e', mu', hs', s, rr, GdS.later l q⟩
  | brk e' hs' => rw [r] at q; exact q
  | cnt e' hs' => rw [r] at q; exact q
  | ret d hs' => rw [r] at q; exact q
  | exc c fs e' hs' => rw [r] at q; exact q
  | bad => rw [r] at q; exact q
theorem us_one (h1 : US X Wd st f) : USs X Wd [st] f := PSs.imp (pss_one h1) fun _ _ _ h => h
def sDrop (f1 : FE) : FS := sBind f1 fun _ e hs => .nx e hs
theorem us_expr (ha : UE X Wd a f1) (hs : swapsWith a none pos.line X.env = pure false := by rfl) : US X Wd (.Expr a pos) (sDrop f1) := by
  refine PS.imp (ps_expr ha hs) fun D σ H h => ?_
  obtain ⟨e, mu, hs, S, E, q⟩ := tS_bind (r := relD X.K) h
  exact ⟨e, mu, hs, S, E, q.imp fun v H1 ⟨e, mu1, hs1, d, S1, E1, r1, g1⟩ => g1 mu1 H1 σ .refl S1 E1⟩
def sRet (f1 : FE) : FS := sBind f1 fun d _ hs => .ret d hs
theorem us_ret (ha : UE X Wd a f1) : US X Wd (.Return (some a) pos) (sRet f1) := by
  refine PS.imp (ps_ret ha) fun D σ H h => ?_
  obtain ⟨e, mu, hs, S, E, q⟩ := tS_bind (r := relD X.K) h
  exact ⟨e, mu, hs, S, E, q.imp fun v H1 ⟨e, mu1, hs1, d, S1, E1, r1, g1⟩ => g1 mu1 H1 v .refl S1 r1⟩
def sRetN : FS := fun _ hs => .ret .non hs
def sIf (t : FT) (f g : FS) : FS := sBind t fun c => if c = true then f else g
theorem us_if {c : Expr} {sa sb : List Stmt} (hc : UT X Wd c t1) (ha : USs X Wd sa f) (hb : USs X Wd sb g) : US X Wd (.If c sa sb pos) (sIf t1 f g) := by
  refine PS.imp (ps_if hc ha hb) fun D σ H h => ?_
  obtain ⟨e, mu, hs, S, E, q⟩ := tS_bind (r := relB) h
  refine ⟨e, mu, hs, S, E, q.imp fun v H1 ⟨e, mu1, hs1, d, S1, E1, r1, g1⟩ => ?_⟩
  have r1 : d = v := r1
  subst r1
  cases d with
  | true => exact ⟨e, mu1, hs1, S1, E1, g1⟩
  | false => exact ⟨e, mu1, hs1, S1, E1, g1⟩
/-! ### targets -/
abbrev FG := D → Ev → Option Ev
def tGt (K : PySem.W.Frag) (mg : Str → Option Value) (vs : List Nat) (g : FG) : TG := fun v σ H Q => ∃ e mu hs d e', Sim K mg mu hs H ∧ RE K mu H e σ ∧ RD K mu H d v ∧ g d e = some e' ∧
  ∀ σ', RE K mu H e' σ' → wipe σ' vs = wipe σ vs → Q σ' H
abbrev FGs := List D → Ev → Option Ev
def tGts (K : PySem.W.Frag) (mg : Str → Option Value) (vs : List Nat) (g : FGs) : TGs := fun us σ H Q => ∃ e mu hs ds e', Sim K mg mu hs H ∧ RE K mu H e σ ∧ RDs K mu H ds us ∧ g ds e = some e' ∧
  ∀ σ', RE K mu H e' σ' → wipe σ' vs = wipe σ vs → Q σ' H
theorem PG.imp {tg : Expr} {t t' : TG} (h : PG X tg t) (i : ∀ v σ H Q, t' v σ H Q → t v σ H Q) : PG X tg t' := ⟨fun pins s σ H v u Q I r q => h.run pins s σ H v u Q I r (i v σ H Q q)⟩
theorem PGs.imp {tg : List Expr} {t t' : TGs} (h : PGs X tg t) (i : ∀ v σ H Q, t' v σ H Q → t v σ H Q) : PGs X tg t' := ⟨fun pins s σ H v u Q I r q => h.run pins s σ H v u Q I r (i v σ H Q q)⟩
theorem PG.or {tg : Expr} {t t' : TG} (h : PG X tg t) (h' : PG X tg t') : PG X tg (fun v σ H Q => t v σ H Q ∨ t' v σ H Q) := ⟨fun pins s σ H v u Q I r q => q.elim (h.run pins s σ H v u Q I r) (h'.run pins s σ H v u Q I r)⟩
abbrev UG (X : Cx) (vs : List Nat) (tg : Expr) (g : FG) : Prop := PG X tg (tGt X.K X.mg vs g)
abbrev UGs (X : Cx) (vs : List Nat) (tg : List Expr) (g : FGs) : Prop := PGs X tg (tGts X.K X.mg vs g)
theorem wipe_set {σ : L2.St} {i : Nat} {x : Option V} : ∀ {vs : List Nat}, i ∈ vs → wipe (σ.set i x) vs = wipe σ vs
  | v :: vs, h => by
    unfold wipe
    by_cases hv : i ∈ vs
    · rw [wipe_set hv]
    · have e : v = i := by
        rcases List.mem_cons.mp h with h | h
        · exact h.symm
        · exact absurd h hv
      subst e
      clear h
      have out : ∀ (vs : List Nat), v ∉ vs → wipe (σ.set v x) vs = (wipe σ vs).set v x := by
        intro vs
        induction vs with
        | nil => intro _; rfl
        | cons w vs ih =>
          intro hn
          unfold wipe
          rw [ih (fun z => hn (List.mem_cons_of_mem _ z)), List.set_comm _ _ (fun z => hn (by rw [z]; exact List.mem_cons_self))]
      rw [out vs hv, List.set_set]
def nSet (i : Nat) : FG := fun d e => some (e.set i (some d))
theorem ug_name {i : Nat} {x : Str} {vs : List Nat} (hN : X.N.Nodup) (hm : i ∈ vs) (hi : X.N[i]? = some x := by rfl) (hx : Loc X.env.scope x := by first | exact Or.inl rfl | exact Or.inr rfl) (hf : X.fn x = true ∨ X.env.scope.names.lookup x = some .local := by first | exact .inl rfl | exact .inr rfl) : UG X vs (.Name x pos) (nSet i) := by
  refine PG.imp (pg_name hN hi hx hf) fun v σ H Q ⟨e, mu, hs, d, e', S, E, r, q, k⟩ => ?_
  cases q
  exact k _ (E.set i r) (wipe_set hm)
def nNil : FGs := fun ds e => match ds with | [] => some e | _ => none
def nCons (g : FG) (gs : FGs) : FGs := fun ds e => match ds with | d :: ds => (match g d e with | some e' => gs ds e' | none => none) | [] => none
theorem ugs_nil {vs : List Nat} : UGs X vs [] nNil := by
  refine PGs.imp pgs_nil fun us σ H Q ⟨e, mu, hs, ds, e', S, E, r, q, k⟩ => ?_
  unfold nNil at q
  split at q
  · cases q; cases r; exact ⟨rfl, k σ E rfl⟩
  · cases q
theorem ugs_cons {vs : List Nat} {tg : Expr} {tgs : List Expr} {g : FG} {gs : FGs} (h1 : UG X vs tg g) (h2 : UGs X vs tgs gs)
    (hs : (assignEach (tg :: tgs) X.env).map (·.2) = assign tg X.env :: (assignEach tgs X.env).map (·.2) := by rfl) : UGs X vs (tg :: tgs) (nCons g gs) := by
  refine PGs.imp (pgs_cons h1 h2 hs) fun us σ H Q ⟨e, mu, hs, ds, e', S, E, r, q, k⟩ => ?_
  unfold nCons at q
  split at q
  · split at q
    · rename_i e1 q1
      cases r with
      | cons r1 r2 =>
        exact ⟨_, _, rfl, e, mu, hs, _, e1, S, E, r1, q1, fun σ1 E1 w1 => ⟨e1, mu, hs, _, e', S, E1, r2, q, fun σ2 E2 w2 => k σ2 E2 (w2.trans w1)⟩⟩
    · cases q
  · cases q
/-- (a, b, ..) = a tuple, a list -/
def nTup (n : Nat) (gs : FGs) : FG := fun d e => match d with
  | .tup ds => if ds.length = n then gs ds e else none
  | .lst ds => if ds.length = n then gs ds e else none
  | _ => none
theorem ug_tup {vs : List Nat} {es : List Expr} {k : Nat} {gs : FGs} {n : Nat} (hc : X.calm = true) (h : UGs X vs es gs)
    (hn : (assignEach es X.env).length = n := by rfl) (hst : (assignEach es X.env).findIdx? (·.1) = none := by rfl) : UG X vs (.Tuple es k pos) (nTup n gs) := by
  refine PG.imp (PG.or (pg_tup (k := k) hc h hn hst) (pg_lst (k := k) hc h hn hst)) fun v σ H Q ⟨e, mu, hs, d, e', S, E, r, q, kk⟩ => ?_
  cases r with
  | tup q1 r1 =>
    unfold nTup at q; dsimp only at q
    split at q
    · rename_i hl; exact .inl ⟨_, _, rfl, q1.sq, by rw [← r1.length]; exact hl, e, mu, hs, _, e', S, E, r1, q, kk⟩
    · cases q
  | lst q1 q2 r1 =>
    unfold nTup at q; dsimp only at q
    split at q
    · rename_i hl; exact .inr ⟨_, _, rfl, .of q1, by rw [← r1.length]; exact hl, e, mu, hs, _, e', S, E, r1, q, kk⟩
    · cases q
  | _ => cases q

/-! ### assignments -/
def sSet (i : Nat) (f1 : FE) : FS := sBind f1 fun d e hs => .nx (e.set i (some d)) hs
theorem us_set {i : Nat} {x : Str} {pos' : Pos} (hN : X.N.Nodup) (ha : UE X Wd a f1) (hi : X.N[i]? = some x := by rfl) (hx : Loc X.env.scope x := by first | exact Or.inl rfl | exact Or.inr rfl) (hs : swapsWith a (some (.Name x pos')) pos.line X.env = pure false := by rfl)
    (hf : X.fn x = true ∨ X.env.scope.names.lookup x = some .local := by first | exact .inl rfl | exact .inr rfl) : US X Wd (.Assign [.Name x pos'] a pos) (sSet i f1) := by
  refine PS.imp (ps_set hN hi hx ha hs hf) fun D σ H h => ?_
  obtain ⟨e, mu, hs, S, E, q⟩ := tS_bind (r := relD X.K) h
  exact ⟨e, mu, hs, S, E, q.imp fun v H1 ⟨e, mu1, hs1, d, S1, E1, r1, g1⟩ => g1 mu1 H1 _ .refl S1 (E1.set i r1)⟩
/-- target = value -/
def sAsg (g : FG) (f1 : FE) : FS := sBind f1 fun d e hs => match g d e with | some e' => .nx e' hs | none => .bad
theorem us_asg {vs : List Nat} {tg : Expr} {g : FG} (ha : UE X Wd a f1) (hg : UG X vs tg g) (hs : swapsWithSole [tg] a pos.line X.env = pure false := by rfl) (hw : swappedStores [tg] a X.env = pure none := by rfl)
    (h1 : (assignEach [tg] X.env).map (·.2) = [assign tg X.env] := by rfl) : US X Wd (.Assign [tg] a pos) (sAsg g f1) := by
  refine PS.imp (ps_asg ha hg hs hw h1) fun D σ H h => ?_
  obtain ⟨e, mu, hs, S, E, q⟩ := tS_bind (r := relD X.K) h
  refine ⟨e, mu, hs, S, E, q.imp fun v H1 ⟨e, mu1, hs1, d, S1, E1, r1, g1⟩ => ?_⟩
  cases q : g d e with
  | none => rw [q] at g1; exact g1.elim
  | some e' => rw [q] at g1; exact ⟨e, mu1, hs1, d, e', S1, E1, r1, q, fun σ' E' _ => g1 mu1 H1 σ' .refl S1 E'⟩
/-- a, b = x, y: two plain names -/
def sPar (i j : Nat) (f : FA) : FS := sBind f fun ds e hs => match ds with | [d1, d2] => .nx ((e.set i (some d1)).set j (some d2)) hs | _ => .bad
theorem us_par {i j : Nat} {x y : Str} {fa : FA} {px py pt : Pos} {kt k2 pt2} (hc : X.calm = true) (hN : X.N.Nodup) (hij : i ≠ j) (ha : UA X Wd [a, b] fa)
    (hw : swappedStores [.Tuple [.Name x px, .Name y py] kt pt] (.Tuple [a, b] k2 pt2) X.env = pure (some [x, y]))
    (hi : X.N[i]? = some x := by rfl) (hj : X.N[j]? = some y := by rfl) (hx : X.env.scope.names.lookup x = some .local := by rfl) (hy : X.env.scope.names.lookup y = some .local := by rfl)
    (hs : swapsWithSole [.Tuple [.Name x px, .Name y py] kt pt] (.Tuple [a, b] k2 pt2) pos.line X.env = pure false := by rfl) :
    US X Wd (.Assign [.Tuple [.Name x px, .Name y py] kt pt] (.Tuple [a, b] k2 pt2) pos) (sPar i j fa) := by
  refine PS.imp (ps_par hc hN hi hj hij hx hy ha hw hs) fun D σ H h => ?_
  obtain ⟨e, mu, hs, S, E, q⟩ := tS_bind (r := relA X.K) h
  refine ⟨e, mu, hs, S, E, q.imp fun v H1 ⟨e, mu1, hs1, d, S1, E1, r1, g1⟩ => ?_⟩
  split at g1
  · cases r1 with
    | cons r1 r2 => cases r2 with
      | cons r2 r3 => cases r3; exact ⟨_, _, rfl, g1 mu1 H1 _ .refl S1 ((E1.set i r1).set j r2)⟩
  · exact g1.elim
/-- o[i] = e -/
def rSet (K : PySem.W.Frag) (mg : Str → Option Value) (g : Hs → D → D → D → Option Hs) : TSet := fun o i v H Q => ∃ mu hs d1 d2 d3 hs', Sim K mg mu hs H ∧ RD K mu H d1 o ∧ RD K mu H d2 i ∧ RD K mu H d3 v ∧ g hs d1 d2 d3 = some hs' ∧ ∀ mu' H', Lat mu H mu' H' → Sim K mg mu' hs' H' → Q H'
def sSub (g : Hs → D → D → D → Option Hs) (fv fo fi : FE) : FS := sBind fv fun v => sBind fo fun o => sBind fi fun i e hs => match g hs o i v with | some hs' => .nx e hs' | none => .bad
theorem us_sub {v o i : Expr} {fv fo fi : FE} {g : Hs → D → D → D → Option Hs} {pos' : Pos} (hg : PSet X (rSet X.K X.mg g)) (hv : UE X Wd v fv) (ho : UE X Wd o fo) (hi : UE X Wd i fi)
    (ha : ∀ v, assign (.Subscript o i pos') X.env v = (do
      let ov ← holding [v] (eval o X.env)
      let iv ← holding [v, ov] (eval i X.env)
      standAt pos'
      holding [v, ov, iv] (setItem ov iv v)
      release [v, ov, iv] []) := by intro _; rfl)
    (hs : swapsWithSole [.Subscript o i pos'] v pos.line X.env = pure false := by rfl) (hw : swappedStores [.Subscript o i pos'] v X.env = pure none := by rfl)
    (h1 : (assignEach [.Subscript o i pos'] X.env).map (·.2) = [assign (.Subscript o i pos') X.env] := by rfl) : US X Wd (.Assign [.Subscript o i pos'] v pos) (sSub g fv fo fi) := by
  refine PS.imp (ps_asg hv (pg_sub ho hi hg ha) hs hw h1) fun D σ H h => ?_
  obtain ⟨e, mu, hs, S, E, q⟩ := tS_bind (r := relD X.K) h
  refine ⟨e, mu, hs, S, E, q.imp fun x H1 ⟨e, mu1, hs1, d, S1, E1, r1, g1⟩ => ?_⟩
  refine ⟨e, mu1, hs1, S1, E1, ?_⟩
  unfold sBind at g1
  cases q2 : fo e hs1 with
  | ok d2 hs2 =>
    rw [q2] at g1
    intro mu2 H2 y2 l2 S2 r2
    refine ⟨e, mu2, hs2, S2, E1.agr (l2.agr S1), ?_⟩
    dsimp only at g1
    cases q3 : fi e hs2 with
    | ok d3 hs3 =>
      rw [q3] at g1
      intro mu3 H3 y3 l3 S3 r3
      dsimp only at g1
      cases q4 : g hs3 d2 d3 d with
      | none => rw [q4] at g1; exact g1.elim
      | some hs4 =>
        rw [q4] at g1
        exact ⟨mu3, hs3, d2, d3, d, hs4, S3, RD.agr (l3.agr S2) r2, r3, RD.agr (l3.agr S2) (RD.agr (l2.agr S1) r1), q4, fun mu4 H4 l4 S4 => g1 mu4 H4 σ (l2.trans (l3.trans l4)) S4 (((E1.agr (l2.agr S1)).agr (l3.agr S2)).agr (l4.agr S3))⟩
    | exc c fs hs' => rw [q3] at g1; exact fun mu' H' cls dx l s rr => g1 mu' H' σ cls dx (l2.trans l) s ((E1.agr (l2.agr S1)).agr (l.agr S2)) rr
    | bad => rw [q3] at g1; exact g1
  | exc c fs hs' => rw [q2] at g1; exact fun mu' H' cls dx l s rr => g1 mu' H' σ cls dx l s (E1.agr (l.agr S1)) rr
  | bad => rw [q2] at g1; exact g1
def mSetL (hs : Hs) (o i v : D) : Option Hs := match i with
  | .int k => (match refOf hs o with | some (n, xs) => (match ixN xs.length k with | some j => some (hs.set n (.lst (xs.set j v))) | none => none) | none => none)
  | _ => none
theorem sg_list : PSet X (rSet X.K X.mg mSetL) := by
  rintro pins s σ H o i v ov iv u Q I r1 r2 r3 ⟨mu, hs, d1, d2, d3, hs', S, e1, e2, e3, hg, q⟩
  unfold mSetL at hg
  split at hg
  · split at hg
    · rename_i n xs hx
      split at hg
      · rename_i j hj
        cases hg; cases e2
        obtain ⟨a, vs, rfl, h1, h2, h3⟩ := refOf_at S e1 hx
        refine set_list pins s σ H _ _ v ov iv u Q I r1 r2 r3 ⟨a, vs, _, j, rfl, rfl, h2, by rw [← h3.length]; exact hj, ?_⟩
        exact q mu _ (.write h1) (S.write h1 (RDs.set e3 j h3))
      · cases hg
    · cases hg
  · cases hg
end
end G

/-! # G7: what is walked; for, while, comprehensions -/
namespace G
open PySem PySem.Spec PyProof.Rows L2

/-- at turn i in this heap: none: amiss; some none: at its end; some (some d): d comes -/
abbrev Nx := Hs → Nat → Option (Option D)
def RI (K : PySem.W.Frag) (mg : Str → Option Value) (mu : Mp) (H : Hp) (nx : Nx) (J : It) : Prop := ∀ mu' H' hs', Lat mu H mu' H' → Sim K mg mu' hs' H' → ∀ i,
  (nx hs' i = some none → J.stop i H') ∧ (∀ d, nx hs' i = some (some d) → J.go i H' ∧ ∀ x H2, J.yld i H' x H2 → Lat mu' H' mu' H2 ∧ Sim K mg mu' hs' H2 ∧ RD K mu' H2 d x)
def relI (K : PySem.W.Frag) (mg : Str → Option Value) : Rel Nx It := fun _ mu _ H nx J => RI K mg mu H nx J
theorem relI_ok {K : PySem.W.Frag} {mg : Str → Option Value} : (relI K mg).Ok := fun _ _ _ _ _ _ _ _ _ _ _ h => h
abbrev FI := Ev → Hs → R Nx
abbrev UI (X : Cx) (Wd : WX) (tg iter : Expr) (f : FI) : Prop := PI X tg iter (tG (relI X.K X.mg) X.K X.mg Wd f)
theorem PI.imp {X : Cx} {tg iter : Expr} {t t' : TI} (h : PI X tg iter t) (i : ∀ σ H Q, t' σ H Q → t σ H Q) : PI X tg iter t' := ⟨fun pins s σ H R I q => h.run pins s σ H R I (i σ H R q)⟩
/-- items that stand by themselves -/
def nxL (ds : List D) : Nx := fun _ i => some ds[i]?
/-- a list of the heap, as it is at each turn -/
def nxR (n : Nat) : Nx := fun hs i => match hs[n]? with | some (.lst ds) => some ds[i]? | _ => none
/-- range -/
def nxN (lo : Int) (n : Nat) : Nx := fun _ i => some (if i < n then some (.int (lo + i)) else none)
section
variable {X : Cx} {Wd : WX} {tg a b : Expr} {f1 f2 : FE}
def iSeq (f : FE) : FI := fun e hs => (f e hs).bind fun d hs => match d with
  | .lst ds => .ok (nxL ds) hs
  | .scr ds => .ok (nxL ds) hs
  | .ref n => (match hs[n]? with | some (.lst _) => .ok (nxR n) hs | _ => .bad)
  | _ => .bad
theorem nxL_list {K : PySem.W.Frag} {mg : Str → Option Value} {mu : Mp} {H : Hp} {ds : List D} {a : Addr} {vs : List V} (h : ∀ mu' H', Lat mu H mu' H' → ∀ hs', Sim K mg mu' hs' H' → SqL K H' a vs ∧ RDs K mu' H' ds vs) : RI K mg mu H (nxL ds) (Itl K a) := by
  intro mu' H' hs' l s i
  obtain ⟨h1, h2⟩ := h mu' H' l hs' s
  refine ⟨fun q => ⟨vs, h1, ?_⟩, fun d q => ?_⟩
  · have q : ds[i]? = none := Option.some.inj q
    rw [← h2.length]
    exact List.getElem?_eq_none_iff.mp q
  · have q : ds[i]? = some d := Option.some.inj q
    obtain ⟨v, e1, e2⟩ := h2.get q
    refine ⟨⟨vs, v, h1, e1⟩, fun x H2 y => ?_⟩
    obtain ⟨rfl, y⟩ := y
    have := y vs h1
    rw [e1] at this; cases this
    exact ⟨.refl, s, e2⟩
theorem ui_seq (ha : UE X Wd a f1) : UI X Wd tg a (iSeq f1) := by
  refine PI.imp (pi_list ha) fun σ H Q h => ?_
  obtain ⟨e, mu, hs, S, E, q⟩ := tG_seq (r := relD X.K) relI_ok h
  refine ⟨e, mu, hs, S, E, q.imp fun x H1 ⟨e, mu1, hs1, d, S1, E1, r1, g1⟩ => ?_⟩
  cases r1 with
  | lst h1 h2 h3 =>
    refine ⟨_, rfl, ⟨_, .of h1⟩, g1 mu1 H1 _ .refl S1 (nxL_list fun mu' H' l hs' s' => ⟨.of ((l.agr S1).lst _ _ h1 h2), RDs.agr (l.agr S1) h3⟩)⟩
  | scr h1 h3 =>
    refine ⟨_, rfl, ⟨_, h1.sq⟩, g1 mu1 H1 _ .refl S1 (nxL_list fun mu' H' l hs' s' => ⟨((l.agr S1).stL h1).sq, RDs.agr (l.agr S1) h3⟩)⟩
  | ref hn =>
    dsimp only at g1
    split at g1
    · rename_i ds hd
      obtain ⟨u, e1, e2⟩ := S1.at hn hd
      cases u <;> first
        | (rename_i vs
           refine ⟨_, rfl, ⟨vs, .of e1⟩, g1 mu1 H1 _ .refl S1 ?_⟩
           intro mu' H' hs' l s i
           have hn' := (l.agr S1).get hn
           refine ⟨fun q => ?_, fun d q => ?_⟩
           · unfold nxR at q
             split at q
             · rename_i ds' hd'
               obtain ⟨u', f1, f2⟩ := s.at hn' hd'
               cases u' <;> first
                 | (rename_i vs'
                    refine ⟨vs', .of f1, ?_⟩
                    have q : ds'[i]? = none := Option.some.inj q
                    have f2 : RDs _ _ _ _ _ := f2
                    rw [← f2.length]
                    exact List.getElem?_eq_none_iff.mp q)
                 | exact f2.elim
             · cases q
           · unfold nxR at q
             split at q
             · rename_i ds' hd'
               obtain ⟨u', f1, f2⟩ := s.at hn' hd'
               cases u' <;> first
                 | (rename_i vs'
                    have q : ds'[i]? = some d := Option.some.inj q
                    obtain ⟨v, g1, g2⟩ := RDs.get f2 q
                    refine ⟨⟨vs', v, .of f1, g1⟩, fun x H2 y => ?_⟩
                    obtain ⟨rfl, y⟩ := y
                    have := y vs' (.of f1)
                    rw [g1] at this; cases this
                    exact ⟨.refl, s, g2⟩)
                 | exact f2.elim
             · cases q)
        | exact e2.elim
    · exact g1.elim
  | _ => exact g1.elim
/-- a tuple -/
def iTp (f : FE) : FI := fun e hs => (f e hs).bind fun d hs => match d with | .tup ds => .ok (nxL ds) hs | .ctp ds => .ok (nxL ds) hs | _ => .bad
theorem ui_tup (ha : UE X Wd a f1) : UI X Wd tg a (iTp f1) := by
  refine PI.imp (pi_tup ha) fun σ H Q h => ?_
  obtain ⟨e, mu, hs, S, E, q⟩ := tG_seq (r := relD X.K) relI_ok h
  refine ⟨e, mu, hs, S, E, q.imp fun x H1 ⟨e, mu1, hs1, d, S1, E1, r1, g1⟩ => ?_⟩
  cases r1 with
  | tup h1 h3 =>
    refine ⟨_, rfl, ⟨_, h1.sq⟩, g1 mu1 H1 _ .refl S1 ?_⟩
    intro mu' H' hs' l s i
    have k1 := ((l.agr S1).stT h1).sq
    have k2 := RDs.agr (l.agr S1) h3
    refine ⟨fun q => ⟨_, k1, ?_⟩, fun d q => ?_⟩
    · have q : _ = none := Option.some.inj q
      rw [← k2.length]
      exact List.getElem?_eq_none_iff.mp q
    · obtain ⟨v, e1, e2⟩ := k2.get (Option.some.inj q)
      refine ⟨⟨_, v, k1, e1⟩, fun x H2 y => ?_⟩
      obtain ⟨rfl, y⟩ := y
      have := y _ k1
      rw [e1] at this; cases this
      exact ⟨.refl, s, e2⟩
  | ctp h1 h3 =>
    refine ⟨_, rfl, ⟨_, sqT_c h1⟩, g1 mu1 H1 _ .refl S1 ?_⟩
    intro mu' H' hs' l s i
    have k1 : SqT X.K H' _ _ := sqT_c h1
    have k2 := RDs.agr (l.agr S1) h3
    refine ⟨fun q => ⟨_, k1, ?_⟩, fun d q => ?_⟩
    · have q : _ = none := Option.some.inj q
      rw [← k2.length]
      exact List.getElem?_eq_none_iff.mp q
    · obtain ⟨v, e1, e2⟩ := k2.get (Option.some.inj q)
      refine ⟨⟨_, v, k1, e1⟩, fun x H2 y => ?_⟩
      obtain ⟨rfl, y⟩ := y
      have := y _ k1
      rw [e1] at this; cases this
      exact ⟨.refl, s, e2⟩
  | _ => exact g1.elim
/-- range(n), range(a, b) -/
def okR (i : Int) : Bool := decide (-4611686018427387904 ≤ i) && decide (i < 4611686018427387904)
theorem okR_of {i : Int} (h : okR i = true) : -(2 ^ 62) ≤ i ∧ i < 2 ^ 62 := by
  unfold okR at h
  simp only [Bool.and_eq_true, decide_eq_true_eq] at h
  exact ⟨by have := h.1; omega, by have := h.2; omega⟩
theorem nxN_ri {K : PySem.W.Frag} {mg : Str → Option Value} {mu : Mp} {H : Hp} {lo : Int} {n : Nat} : RI K mg mu H (nxN lo n) (Itr lo n) := by
  intro mu' H' hs' l s i
  unfold nxN
  refine ⟨fun q => ?_, fun d q => ?_⟩
  · split at q
    · cases q
    · rename_i h; exact Nat.le_of_not_lt h
  · split at q
    · rename_i h
      cases q
      refine ⟨h, fun x H2 y => ?_⟩
      obtain ⟨rfl, rfl⟩ := y
      exact ⟨.refl, s, .int _⟩
    · cases q
def iR1 (f : FA) : FI := fun e hs => (f e hs).bind fun ds hs => match ds with | [.int j] => if okR j = true then .ok (nxN 0 j.toNat) hs else .bad | _ => .bad
theorem ui_range1 {p pos : Pos} {fa : FA} (hg : Gl X "range") (hm : X.mg "range" = none) (ha : UA X Wd [a] fa) (hs : starEach [a] X.env = [(false, eval a X.env)] := by rfl) : UI X Wd tg (.Call (.Name "range" p) [a] [] pos) (iR1 fa) := by
  refine PI.imp (pi_range1 hg hm ha hs) fun σ H Q h => ?_
  obtain ⟨e, mu, hs, S, E, q⟩ := tG_seq (r := relA X.K) relI_ok h
  refine ⟨e, mu, hs, S, E, q.imp fun x H1 ⟨e, mu1, hs1, d, S1, E1, r1, g1⟩ => ?_⟩
  split at g1
  · split at g1
    · rename_i j hj
      cases r1 with
      | cons r1 r2 => cases r1; cases r2; exact ⟨j, rfl, (okR_of hj).1, (okR_of hj).2, g1 mu1 H1 _ .refl S1 nxN_ri⟩
    · exact g1.elim
  · exact g1.elim
def iR2 (f : FA) : FI := fun e hs => (f e hs).bind fun ds hs => match ds with | [.int i, .int j] => if (okR i && okR j) = true then .ok (nxN i (j - i).toNat) hs else .bad | _ => .bad
/-- a text, sign by sign -/
def signs (x : Str) : List D := x.cps.toList.map fun c => .str ⟨#[c]⟩
def iStrG (f : FE) : FI := fun e hs => (f e hs).bind fun d hs => match d with | .str x => .ok (nxL (signs x)) hs | _ => .bad
theorem ui_str (ha : UE X Wd a f1) : UI X Wd tg a (iStrG f1) := by
  refine PI.imp (pi_str ha) fun σ H Q h => ?_
  obtain ⟨e, mu, hs, S, E, q⟩ := tG_seq (r := relD X.K) relI_ok h
  refine ⟨e, mu, hs, S, E, q.imp fun x H1 ⟨e, mu1, hs1, d, S1, E1, r1, g1⟩ => ?_⟩
  cases r1 with
  | str x =>
    refine ⟨x, rfl, g1 mu1 H1 _ .refl S1 ?_⟩
    intro mu' H' hs' l s i
    refine ⟨fun q => ?_, fun d q => ?_⟩
    · have q : (signs x)[i]? = none := Option.some.inj q
      unfold signs at q
      have := List.getElem?_eq_none_iff.mp q
      show x.cps.size ≤ i
      simpa using this
    · have q : (signs x)[i]? = some d := Option.some.inj q
      unfold signs at q
      rw [List.getElem?_map] at q
      obtain ⟨c, hc, rfl⟩ := Option.map_eq_some_iff.mp q
      have hc' : x.cps[i]? = some c := by rw [← Array.getElem?_toList]; exact hc
      refine ⟨(Array.getElem?_eq_some_iff.mp hc').1, fun y H2 z => ?_⟩
      obtain ⟨rfl, c', z1, rfl⟩ := z
      rw [hc'] at z1; cases z1
      exact ⟨.refl, s, .str _⟩
  | _ => exact g1.elim
end

/-! ### for -/
def forF (nx : Nx) (g : FG) (body : FS) : Nat → Nat → Ev → Hs → SR
  | fuel, i, e, hs => match nx hs i with
    | none => .bad
    | some none => .nx e hs
    | some (some d) => match fuel with
      | 0 => .bad
      | k + 1 => match g d e with
        | none => .bad
        | some e' => match body e' hs with
          | .nx e2 hs2 => forF nx g body k (i + 1) e2 hs2
          | .cnt e2 hs2 => forF nx g body k (i + 1) e2 hs2
          | .brk e2 hs2 => .nx e2 hs2
          | .ret d hs2 => .ret d hs2
          | .exc c fs e2 hs2 => .exc c fs e2 hs2
          | .bad => .bad
def fuel : Nat := 100000
def sFor (f : FI) (g : FG) (body : FS) : FS := sBind f fun nx e hs => forF nx g body fuel 0 e hs
section
variable {X : Cx} {Wd : WX} {tg iter : Expr} {f : FI} {g : FG} {body : FS} {sb : List Stmt} {pos : Pos} {vs : List Nat}
theorem us_for (hp : PassesOwn (model X.prog X.w) X.A X.env X.xe) (hc : X.calm = true) (hi : UI X Wd tg iter f) (hg : UG X vs tg g) (hb : USs X Wd sb body)
    (hs : ∀ x, foldedSetIterable iter X.env x = pure x := by intro _; rfl) : US X Wd (.For tg iter sb [] pos) (sFor f g body) := by
  refine PS.imp (ps_for hp hc hi hg hb hs) fun D σ H h => ?_
  obtain ⟨e, mu, hs, S, E, q⟩ := tS_bind (r := relI X.K X.mg) h
  refine ⟨e, mu, hs, S, E, q.imp fun J H1 ⟨e, mu1, hs1, nx, S1, E1, r1, g1⟩ => ?_⟩
  refine ⟨fun i m σ H => ∃ mu hs e, Lat mu1 H1 mu H ∧ Sim X.K X.mg mu hs H ∧ RE X.K mu H e σ ∧ GdS X.K X.mg Wd D mu H (forF nx g body m i e hs), ⟨fuel, mu1, hs1, e, .refl, S1, E1, g1⟩, ?_⟩
  rintro i m σ2 H2 ⟨mu2, hs2, e2, l2, S2, E2, q2⟩
  have ri := r1 mu2 H2 hs2 l2 S2 i
  unfold forF at q2
  split at q2
  · exact q2.elim
  · rename_i hn
    exact .inl ⟨ri.1 hn, q2 mu2 H2 σ2 .refl S2 E2⟩
  · rename_i d hd
    obtain ⟨go, yl⟩ := ri.2 d hd
    refine .inr ⟨go, ?_⟩
    split at q2
    · exact q2.elim
    · rename_i k
      split at q2
      · exact q2.elim
      · rename_i e' he'
        refine ⟨fun σ3 H3 => ∃ mu hs e, Lat mu1 H1 mu H3 ∧ Sim X.K X.mg mu hs H3 ∧ RE X.K mu H3 e σ3 ∧ GdS X.K X.mg Wd D mu H3 (forF nx g body k (i + 1) e hs), fun σ' H' h => ⟨k, Nat.lt_succ_self k, h⟩, fun x H' y => ?_⟩
        obtain ⟨l3, S3, r3⟩ := yl x H' y
        refine ⟨e2, mu2, hs2, d, e', S3, E2.agr (l3.agr S2), r3, he', fun σ' E' _ => ⟨e', mu2, hs2, S3, E', ?_⟩⟩
        have q3 := GdS.later l3 q2
        have lx := l2.trans l3
        cases r : body e' hs2 with
        | nx e4 hs4 => rw [r] at q3; exact fun mu' H' σ' l s rr => ⟨mu', hs4, e4, lx.trans l, s, rr, GdS.later l q3⟩
        | cnt e4 hs4 => rw [r] at q3; exact fun mu' H' σ' l s rr => ⟨mu', hs4, e4, lx.trans l, s, rr, GdS.later l q3⟩
        | brk e4 hs4 => rw [r] at q3; exact q3
        | ret d hs4 => rw [r] at q3; exact q3
        | exc c fs e4 hs4 => rw [r] at q3; exact q3
        | bad => rw [r] at q3; exact q3

/-! ### while -/
def whileF (t : FT) (body : FS) : Nat → Ev → Hs → SR
  | 0, _, _ => .bad
  | k + 1, e, hs => match t e hs with
    | .bad => .bad
    | .exc c fs hs' => .exc c fs e hs'
    | .ok b hs' => if b = true then (match body e hs' with
        | .nx e2 hs2 => whileF t body k e2 hs2
        | .cnt e2 hs2 => whileF t body k e2 hs2
        | .brk e2 hs2 => .nx e2 hs2
        | .ret d hs2 => .ret d hs2
        | .exc c fs e2 hs2 => .exc c fs e2 hs2
        | .bad => .bad) else .nx e hs'
def sWhile (t : FT) (body : FS) : FS := whileF t body fuel
theorem us_while {c : Expr} {t : FT} (hp : PassesOwn (model X.prog X.w) X.A X.env X.xe) (hc : UT X Wd c t) (hb : USs X Wd sb body) : US X Wd (.While c sb [] pos) (sWhile t body) := by
  refine PS.imp (ps_while hp hc hb) fun D σ H ⟨e, mu, hs, S, E, q⟩ => ?_
  refine ⟨fun m σ H => ∃ mu hs e, Sim X.K X.mg mu hs H ∧ RE X.K mu H e σ ∧ GdS X.K X.mg Wd D mu H (whileF t body m e hs), ⟨fuel, mu, hs, e, S, E, q⟩, ?_⟩
  rintro m σ2 H2 ⟨mu2, hs2, e2, S2, E2, q2⟩
  cases m with
  | zero => exact q2.elim
  | succ k =>
    unfold whileF at q2
    refine ⟨e2, mu2, hs2, S2, E2, ?_⟩
    cases r : t e2 hs2 with
    | bad => rw [r] at q2; exact q2
    | exc c fs hs' => rw [r] at q2; exact fun mu' H' cls dx l s rr => q2 mu' H' σ2 cls dx l s (E2.agr (l.agr S2)) rr
    | ok b hs3 =>
      rw [r] at q2
      intro mu3 H3 b' l3 S3 rb
      have rb : b = b' := rb
      subst rb
      dsimp only at q2
      cases b with
      | false => rw [if_neg Bool.false_ne_true] at q2 ⊢; exact q2 mu3 H3 σ2 l3 S3 (E2.agr (l3.agr S2))
      | true =>
        rw [if_pos rfl] at q2 ⊢
        refine ⟨fun σ' H' => ∃ mu hs e, Sim X.K X.mg mu hs H' ∧ RE X.K mu H' e σ' ∧ GdS X.K X.mg Wd D mu H' (whileF t body k e hs), fun σ' H' h => ⟨k, Nat.lt_succ_self k, h⟩, ?_⟩
        refine ⟨e2, mu3, hs3, S3, E2.agr (l3.agr S2), ?_⟩
        have q3 := GdS.later l3 q2
        cases r : body e2 hs3 with
        | nx e4 hs4 => rw [r] at q3; exact fun mu' H' σ' l s rr => ⟨mu', hs4, e4, s, rr, GdS.later l q3⟩
        | cnt e4 hs4 => rw [r] at q3; exact fun mu' H' σ' l s rr => ⟨mu', hs4, e4, s, rr, GdS.later l q3⟩
        | brk e4 hs4 => rw [r] at q3; exact q3
        | ret d hs4 => rw [r] at q3; exact q3
        | exc c fs e4 hs4 => rw [r] at q3; exact q3
        | bad => rw [r] at q3; exact q3
end

/-! ### comprehensions -/
def wipeE (e : Ev) : List Nat → Ev
  | [] => e
  | v :: vs => (wipeE e vs).set v none
theorem RE.wipe {K : PySem.W.Frag} {mu : Mp} {H : Hp} {e : Ev} {σ : L2.St} (h : RE K mu H e σ) : ∀ vs, RE K mu H (wipeE e vs) (L2.wipe σ vs)
  | [] => h
  | v :: vs => by
    have ih := RE.wipe h vs
    unfold wipeE L2.wipe
    refine ⟨by rw [List.length_set, List.length_set]; exact ih.len, fun j x q => ?_⟩
    by_cases hj : v = j
    · subst hj
      by_cases hi : v < (wipeE e vs).length
      · rw [List.getElem?_set_self hi] at q; cases q
      · rw [List.getElem?_eq_none (by simpa using hi)] at q; cases q
    · rw [List.getElem?_set_ne hj] at q
      rw [List.getElem?_set_ne hj]
      exact ih.at_ j x q
def compF (nx : Nx) (g : FG) (t : FT) (el : FE) (e : Ev) : Nat → Nat → List D → Hs → R (List D)
  | fuel, i, acc, hs => match nx hs i with
    | none => .bad
    | some none => .ok acc hs
    | some (some d) => match fuel with
      | 0 => .bad
      | k + 1 => match g d e with
        | none => .bad
        | some e' => match t e' hs with
          | .ok b hs2 => if b = true then (match el e' hs2 with
              | .ok y hs3 => if acc.length < sizeLine then compF nx g t el e k (i + 1) (acc ++ [y]) hs3 else .bad
              | _ => .bad) else compF nx g t el e k (i + 1) acc hs2
          | _ => .bad
def lComp (f : FI) (g : FG) (t : FT) (el : FE) (vs : List Nat) : FL := fun e hs => (f e hs).bind fun nx hs => compF nx g t el (wipeE e vs) fuel 0 [] hs
/-- no exception leaves -/
abbrev W0 : WX := fun _ _ _ _ => False
def tYesF : FT := fun _ hs => .ok true hs
abbrev UTs (X : Cx) (Wd : WX) (ifs : List Expr) (t : FT) : Prop := PTs X ifs (tG relB X.K X.mg Wd t)
theorem PTs.imp {X : Cx} {ifs : List Expr} {t t' : TT} (h : PTs X ifs t) (i : ∀ σ H Q, t' σ H Q → t σ H Q) : PTs X ifs t' := ⟨fun pins s σ H Q I q => h.run pins s σ H Q I (i σ H Q q)⟩
theorem wipe_idem (σ : L2.St) (vs : List Nat) : wipe (wipe σ vs) vs = wipe σ vs := by
  have one : ∀ (ws vs : List Nat), (∀ w ∈ ws, w ∈ vs) → ∀ σ, wipe (wipe σ vs) ws = wipe σ vs := by
    intro ws
    induction ws with
    | nil => intro vs _ σ; rfl
    | cons w ws ih =>
      intro vs hs σ
      have : wipe (wipe σ vs) ws = wipe σ vs := ih vs (fun z hz => hs z (List.mem_cons_of_mem _ hz)) σ
      show (wipe (wipe σ vs) ws).set w none = wipe σ vs
      rw [this]
      have gone : ∀ (vs : List Nat), w ∈ vs → ∀ σ, (wipe σ vs).set w none = wipe σ vs := by
        intro vs
        induction vs with
        | nil => intro h; cases h
        | cons v vs ih2 =>
          intro h σ
          unfold wipe
          by_cases e : w = v
          · subst e; rw [List.set_set]
          · rcases List.mem_cons.mp h with h | h
            · exact absurd h e
            · rw [List.set_comm _ _ (fun z => e z.symm), ih2 h]
      exact gone vs (hs w List.mem_cons_self) σ
  exact one vs vs (fun _ h => h) σ
section
variable {X : Cx} {Wd : WX} {elt tg iter : Expr} {ifs : List Expr} {scope : Scope} {own : List (Str × Nat)} {pos : Pos} {f : FI} {g : FG} {t : FT} {el : FE}
theorem uts_nil : UTs X Wd [] tYesF := PTs.imp pts_nil fun σ H Q ⟨e, mu, hs, S, E, q⟩ => q mu H true .refl S rfl
theorem uts_one {c : Expr} (h : UT X Wd c t) : UTs X Wd [c] t := pts_one h
theorem tG_comp {K : PySem.W.Frag} {mg : Str → Option Value} {vs : List Nat} {σ : L2.St} {H : Hp} {Q : VK} (h : tG (relF K mg) K mg Wd (lComp f g t el vs) σ H Q) :
    tLc (tG (relI K mg) K mg Wd f) (tGt K mg vs g) (tG relB K mg W0 t) (tG (relD K) K mg W0 el) vs σ H Q := by
  obtain ⟨e, mu, hs, S, E, q⟩ := h
  refine ⟨e, mu, hs, S, E, ?_⟩
  unfold lComp at q
  cases r : f e hs with
  | bad => rw [r] at q; exact q
  | exc c fs hs' => rw [r] at q; exact q
  | ok nx hs1 =>
    rw [r] at q
    rw [R.bind_ok] at q
    intro mu1 H1 J l1 S1 ri Dd hD
    have E1 := (E.agr (l1.agr S)).wipe vs
    -- the list that is made stands apart
    refine ⟨fun i m H2 => ∃ mu2 hs2 acc vacc, Lat mu1 H1 mu2 H2 ∧ Lat mu H mu2 H2 ∧ Sim K mg mu2 hs2 H2 ∧ H2 Dd = some (.lst vacc) ∧ Dd ∉ mu2.l ∧ ¬ mu2.fz Dd ∧ RDs K mu2 H2 acc vacc ∧
        Gd (relF K mg) K mg Wd σ mu H Q (compF nx g t el (wipeE e vs) m i acc hs2),
      ⟨fuel, mu1, hs1, [], [], .new hD, l1.trans (.new hD), S1.new hD, upd_same, S1.fresh hD, S1.freshz hD, .nil, q⟩, ?_⟩
    rintro i m H2 ⟨mu2, hs2, acc, vacc, l2, l02, S2, hD2, nD, nz, ra, q2⟩
    have hD0 : H Dd = none := l1.back hD fun z => nD (l2.pre.subset (l1.pre.subset z))
    have r2 := ri mu2 H2 hs2 l2 S2 i
    unfold compF at q2
    split at q2
    · exact q2.elim
    · rename_i hn
      exact .inl ⟨r2.1 hn, q2 mu2 H2 _ l02 S2 ⟨Dd, vacc, rfl, hD2, nD, nz, hD0, ra⟩⟩
    · rename_i d hd
      obtain ⟨go, yl⟩ := r2.2 d hd
      refine .inr ⟨go, ?_⟩
      split at q2
      · exact q2.elim
      · rename_i k
        split at q2
        · exact q2.elim
        · rename_i e' he'
          refine ⟨fun H3 => ∃ mu2 hs2 acc vacc, Lat mu1 H1 mu2 H3 ∧ Lat mu H mu2 H3 ∧ Sim K mg mu2 hs2 H3 ∧ H3 Dd = some (.lst vacc) ∧ Dd ∉ mu2.l ∧ ¬ mu2.fz Dd ∧ RDs K mu2 H3 acc vacc ∧
              Gd (relF K mg) K mg Wd σ mu H Q (compF nx g t el (wipeE e vs) k (i + 1) acc hs2), fun H' h => ⟨k, Nat.lt_succ_self k, h⟩, fun x H3 y => ?_⟩
          obtain ⟨l3, S3, r3⟩ := yl x H3 y
          have E3 : RE K mu2 H3 (wipeE e vs) (wipe σ vs) := (E1.agr (l2.agr S1)).agr (l3.agr S2)
          refine ⟨wipeE e vs, mu2, hs2, d, e', S3, E3, r3, he', fun σ3 E4 w3 => ⟨w3.trans (wipe_idem σ vs), e', mu2, hs2, S3, E4, ?_⟩⟩
          cases rt : t e' hs2 with
          | bad => rw [rt] at q2; exact q2
          | exc c fs hs' => rw [rt] at q2; exact q2.elim
          | ok b hs4 =>
            rw [rt] at q2
            intro mu4 H4 b' l4 S4 rb
            have rb : b = b' := rb
            subst rb
            dsimp only at q2
            have lD3 := l3.ext Dd _ hD2 nD
            have lD4 := l4.ext Dd _ lD3.1 nD
            cases b with
            | false =>
              rw [if_neg Bool.false_ne_true] at q2 ⊢
              exact ⟨mu4, hs4, acc, vacc, l2.trans (l3.trans l4), l02.trans (l3.trans l4), S4, lD4.1, lD4.2.1, fun z => nz (lD4.2.2 z), RDs.agr (l4.agr S3) (RDs.agr (l3.agr S2) ra), q2⟩
            | true =>
              rw [if_pos rfl] at q2 ⊢
              refine ⟨e', mu4, hs4, S4, E4.agr (l4.agr S3), ?_⟩
              cases re : el e' hs4 with
              | bad => rw [re] at q2; exact q2
              | exc c fs hs' => rw [re] at q2; exact q2.elim
              | ok y hs5 =>
                rw [re] at q2
                intro mu5 H5 yv l5 S5 ry
                dsimp only at q2
                split at q2
                · rename_i hz
                  have nz4 : ¬ mu4.fz Dd := fun z => nz (lD4.2.2 z)
                  have lD5 := l5.ext Dd _ lD4.1 lD4.2.1
                  have nz5 : ¬ mu5.fz Dd := fun z => nz4 (lD5.2.2 z)
                  have ra5 : RDs K mu5 H5 acc vacc := RDs.agr (l5.agr S4) (RDs.agr (l4.agr S3) (RDs.agr (l3.agr S2) ra))
                  have pv : Agr mu5 H5 mu5 (upd H5 Dd (.lst (vacc ++ [yv]))) := .priv lD5.1 nz5
                  have lall : ∀ {m0 : Mp} {H0 : Hp}, H0 Dd = none → Lat m0 H0 mu5 H5 → Lat m0 H0 mu5 (upd H5 Dd (.lst (vacc ++ [yv]))) := fun {m0 H0} h0 l => ⟨l.pre, l.sub, fun b o hb nb => by
                    have := l.ext b o hb nb
                    exact ⟨by rw [upd_ne (ne_of_none hb h0)]; exact this.1, this.2⟩⟩
                  exact ⟨vacc, lD5.1, by rw [← ra.length]; exact hz, mu5, hs5, acc ++ [y], vacc ++ [yv], lall hD (l2.trans (l3.trans (l4.trans l5))), lall hD0 (l02.trans (l3.trans (l4.trans l5))), S5.priv lD5.1 lD5.2.1 nz5, upd_same, lD5.2.1, nz5, RDs.agr pv (ra5.snoc ry), q2⟩
                · exact q2.elim
theorem uf_comp (hc : X.calm = true) (hN : X.N.Nodup) (hi : UI X Wd tg iter f) (ok : BlkOk X.N X.env.scope scope own)
    (hg : ∀ (s : Shared) (H : Hp) (C : Addr) (cl : List (Str × Addr)) (fp : List Addr), UG (X.blk s H scope (compEnvC scope cl C X.env) fp) (own.map (·.2)) tg g)
    (ht : ∀ (s : Shared) (H : Hp) (C : Addr) (cl : List (Str × Addr)) (fp : List Addr), UTs (X.blk s H scope (compEnvC scope cl C X.env) fp) W0 ifs t)
    (he : ∀ (s : Shared) (H : Hp) (C : Addr) (cl : List (Str × Addr)) (fp : List Addr), UE (X.blk s H scope (compEnvC scope cl C X.env) fp) W0 elt el) (hs : ∀ x, foldedSetIterable iter X.env x = pure x := by intro _; rfl) :
    UF X Wd (.ListComp elt [⟨tg, iter, ifs, 0⟩] scope pos) (lComp f g t el (own.map (·.2))) := PE.imp (pe_lc hc hN hi ok hg ht he hs) fun σ H Q h => tG_comp h
/-- name = [..] -/
def sSetC (i : Nat) (m : Bool) (l : FL) : FS := sSet i (if m then eM l else eV l)
theorem tG_v {K : PySem.W.Frag} {mg : Str → Option Value} {l : FL} {σ : L2.St} {H : Hp} {Q : VK} (h : tG (relD K) K mg Wd (eV l) σ H Q) : tG (relF K mg) K mg Wd l σ H Q := by
  obtain ⟨e, mu, hs, S, E, g⟩ := h
  refine ⟨e, mu, hs, S, E, ?_⟩
  unfold eV at g
  cases q : l e hs with
  | ok ds hs' =>
    rw [q] at g
    intro mu' H' y l s ⟨a, vs, h1, h2, h3, h4, h5, h6⟩
    subst h1
    refine g (mu'.still a) H' _ ⟨l.pre, fun b z => .inr (l.sub b z), fun b o hb nb => ?_⟩ (s.still h2 h3) (.lst h2 (.inl rfl) (RDs.agr .still h6))
    have := l.ext b o hb nb
    exact ⟨this.1, this.2.1, fun z => z.elim (fun e => absurd e (ne_of_none hb h5)) this.2.2⟩
  | exc c fs hs' => rw [q] at g; exact g
  | bad => rw [q] at g; exact g
theorem tG_m {K : PySem.W.Frag} {mg : Str → Option Value} {l : FL} {σ : L2.St} {H : Hp} {Q : VK} (h : tG (relD K) K mg Wd (eM l) σ H Q) : tG (relF K mg) K mg Wd l σ H Q := by
  obtain ⟨e, mu, hs, S, E, g⟩ := h
  refine ⟨e, mu, hs, S, E, ?_⟩
  unfold eM at g
  cases q : l e hs with
  | ok ds hs' =>
    rw [q] at g
    intro mu' H' y l s ⟨a, vs, h1, h2, h3, h4, h5, h6⟩
    subst h1
    refine g (mu'.own a) H' _ ⟨l.pre.trans (List.prefix_append _ _), l.sub, fun b o hb nb => ?_⟩ (s.adopt h2 h3 h4 (.own h2) h6) (.ref (getElem?_own s.len))
    have := l.ext b o hb nb
    refine ⟨this.1, ?_, this.2.2⟩
    show b ∉ mu'.l ++ [a]
    simp only [List.mem_append, List.mem_singleton, not_or]
    exact ⟨this.2.1, ne_of_none hb h5⟩
  | exc c fs hs' => rw [q] at g; exact g
  | bad => rw [q] at g; exact g
theorem us_setC {i : Nat} {y : Str} {py spos : Pos} (m : Bool) (hc : X.calm = true) (hN : X.N.Nodup) (hi : UI X Wd tg iter f) (ok : BlkOk X.N X.env.scope scope own)
    (hsw : swapsWith (.ListComp elt [⟨tg, iter, ifs, 0⟩] scope pos) (some (.Name y py)) spos.line X.env = pure true)
    (hg : ∀ (s : Shared) (H : Hp) (C : Addr) (cl : List (Str × Addr)) (fp : List Addr), UG (X.blk s H scope (compEnvC scope cl C X.env) fp) (own.map (·.2)) tg g)
    (ht : ∀ (s : Shared) (H : Hp) (C : Addr) (cl : List (Str × Addr)) (fp : List Addr), UTs (X.blk s H scope (compEnvC scope cl C X.env) fp) W0 ifs t)
    (he : ∀ (s : Shared) (H : Hp) (C : Addr) (cl : List (Str × Addr)) (fp : List Addr), UE (X.blk s H scope (compEnvC scope cl C X.env) fp) W0 elt el)
    (hy : X.N[i]? = some y := by rfl) (hyl : X.env.scope.names.lookup y = some .local := by rfl) (hs : ∀ x, foldedSetIterable iter X.env x = pure x := by intro _; rfl) :
    US X Wd (.Assign [.Name y py] (.ListComp elt [⟨tg, iter, ifs, 0⟩] scope pos) spos) (sSetC i m (lComp f g t el (own.map (·.2)))) := by
  refine PS.imp (ps_setLc (te := tG (relD X.K) X.K X.mg W0 el) (g := tGt X.K X.mg (own.map (·.2)) g) (tt := tG relB X.K X.mg W0 t) hc hN hy hyl hsw hi ok hg ht he hs) fun D σ H h => ?_
  have hh : tG (relD X.K) X.K X.mg Wd (if m then eM (lComp f g t el (own.map (·.2))) else eV (lComp f g t el (own.map (·.2)))) σ H (fun v H1 => gName i v σ H1 D.nx) := by
    obtain ⟨e, mu, hs, S, E, q⟩ := tS_bind (r := relD X.K) h
    exact ⟨e, mu, hs, S, E, q.imp fun v H1 ⟨e, mu1, hs1, d, S1, E1, r1, g1⟩ => g1 mu1 H1 _ .refl S1 (E1.set i r1)⟩
  cases m with
  | true => exact tG_comp (tG_m hh)
  | false => exact tG_comp (tG_v hh)
end
end G

/-! # G8: defs of the text, their calls, the law's end -/
namespace G
open PySem PySem.Spec PyProof.Rows L2

/-- a def's promise where no repr is under way -/
structure FnG (P : Program) (w : World) (K : PySem.W.Frag) (mg : Str → Option Value) (base : Heap) (k : Nat) (f : Addr) (fd : FuncData) (ps : List Str) (sp : Sp) : Prop where
  len : ∀ vs H Q E, sp vs H Q E → vs.length = ps.length
  run : ∀ (A : Around) (outer : List Env) (s : Shared) (H : Hp) (args : Args) (us : List Value) (vs : List V) (Q : VK) (E : XK), Room k A → A.guards = some [] → Env0 P w K mg base A outer s H →
    BindsTo s fd args (ps.zip us) → Vals vs us → sp vs H Q E → codeAny (model P w) A (.call (.ref f) args) (CR (L2.CX P w) outer P w H s Q E) s
/-- the promise that a function of ours says -/
def spU (K : PySem.W.Frag) (mg : Str → Option Value) (n : Nat) (fn : List D → Hs → R D) : Sp := fun vs H Q E => ∃ mu hs ds, Sim K mg mu hs H ∧ RDs K mu H ds vs ∧ ds.length = n ∧ Gd (relD K) K mg (fun cls dx _ H' => E cls dx H') [] mu H Q (fn ds hs)
/-- a body as a function -/
def fnBody (N : Nat) (b : FS) : List D → Hs → R D := fun ds hs => match b (ds.map some ++ List.replicate (N - ds.length) none) hs with
  | .nx _ hs' => .ok .non hs'
  | .ret d hs' => .ok d hs'
  | .exc c fs _ hs' => .exc c fs hs'
  | .brk _ _ => .bad
  | .cnt _ _ => .bad
  | .bad => .bad
theorem RE.start {K : PySem.W.Frag} {mu : Mp} {H : Hp} {ds : List D} {vs : List V} (r : RDs K mu H ds vs) (N : List Str) : RE K mu H (ds.map some ++ List.replicate (N.length - ds.length) none) (start N vs) := by
  have hl := r.length
  refine ⟨by unfold L2.start; simp [hl], fun i d q => ?_⟩
  by_cases hi : i < ds.length
  · rw [List.getElem?_append_left (by simpa using hi), List.getElem?_map] at q
    cases e : ds[i]? with
    | none => rw [e] at q; cases q
    | some d' =>
      rw [e] at q; cases q
      obtain ⟨v, h1, h2⟩ := r.get e
      refine ⟨v, ?_, h2⟩
      unfold L2.start
      rw [List.getElem?_append_left (by rw [List.length_map, ← hl]; exact hi), List.getElem?_map, h1]
      rfl
  · rw [List.getElem?_append_right (by simpa using hi), List.getElem?_replicate] at q
    split at q <;> cases q
section
variable {P : Program} {w : World} {K : PySem.W.Frag} {mg : Str → Option Value} {base : Heap}
/-- what a body may lean on -/
structure Bd (X : Cx) (Wd : WX) (k : Nat) : Prop where
  calm : X.calm = true
  room : Room k X.A
  gd : X.A.guards = some []
  tk : Takes X Wd
  po : PassesOwn (model X.prog X.w) X.A X.env X.xe
  sm : ∃ o, X.base.get? sysModules = some o
theorem fnG_of {qual : Str} {f : Addr} {N ps : List Str} {k : Nat} {params : Arguments} {body : List Stmt} {scope : Scope} {x : Str} {oc dV kV doc pm cdv ct : Value} {od an : Option Addr} {osl : Array (Option Value)}
    (hsm : ∃ o, base.get? sysModules = some o) (lk : K.lookup f = some ⟨oc, od, .func (PySem.W.fnOf x qual params body scope dV kV doc pm an cdv ct), osl⟩) (hcd : PySem.W.codeIn K cdv qual = true) (S : FnScope N ps scope) (b : FS)
    (hb : ∀ (A : Around) (outer : List Env) (s : Shared) (H : Hp) (E : XK), Bd (cxOf (L2.CX P w) P w K mg base N qual scope f cdv A outer s H E) (fun cls dx _ H' => E cls dx H') k →
      USs (cxOf (L2.CX P w) P w K mg base N qual scope f cdv A outer s H E) (fun cls dx _ H' => E cls dx H') body b) :
    FnG P w K mg base (k + 1) f (PySem.W.fnOf x qual params body scope dV kV doc pm an cdv ct) ps (spU K mg ps.length (fnBody N.length b)) := by
  have len : ∀ vs H Q E, spU K mg ps.length (fnBody N.length b) vs H Q E → vs.length = ps.length := fun vs H Q E ⟨mu, hs, ds, _, r, l, _⟩ => by rw [← r.length, l]
  refine ⟨len, fun A outer s H args us vs Q E hr hgd e0 hbi r hsp => ?_⟩
  have hl := len _ _ _ _ hsp
  have KX : K.In s.heap := e0.mod.kin.keeps fun b o e => (e0.bs b o e).1
  have lim : s.heap.NoLimit := e0.mod.nolimit.keeps fun b o e => (e0.bs b o e).1
  have hkind : ∀ y ∈ ps.zip us, scope.names.lookup y.1 = some .local ∨ (scope.names.lookup y.1 = some .cell ∧ ((cellsFrom (s.heap.objs.size + 1) scope.names []).lookup y.1).isSome = true) := by
    rintro ⟨n, v⟩ hy
    exact (S.par n (List.of_mem_zip hy).1).elim .inl fun q => .inr ⟨q, PySem.W.cellsFrom_some _ _ _ (.inl q)⟩
  apply codeAny_call_function hr.depth (KX _ _ lk) rfl S.co S.gen rfl (PySem.W.codeRec_of KX hcd)
  apply hbi
  apply wpAny_newFunctionEnv_cells S.kind hkind
  rintro env rfl s1 x1
  refine ⟨lim.keeps x1.toInCall.keep, codeAny_func ?_⟩
  have I : Inv (cxOf (L2.CX P w) P w K mg base N qual scope f cdv A outer s H E) [] (start N vs) H s1 := inv_start S hr.hd e0 hl r x1
  have B : Bd (cxOf (L2.CX P w) P w K mg base N qual scope f cdv A outer s H E) (fun cls dx _ H' => E cls dx H') k := ⟨rfl, hr.deeper _, hgd, takes_of rfl rfl rfl rfl, passes_of rfl, hsm⟩
  obtain ⟨mu, hs, ds, Sm, rd, ld, g⟩ := hsp
  have hq : tS K mg (fun cls dx _ H' => E cls dx H') b { nx := fun _ H' => Q .non H', rt := Q } (start N vs) H := by
    refine ⟨_, mu, hs, Sm, RE.start rd N, ?_⟩
    unfold fnBody at g
    cases q : b (ds.map some ++ List.replicate (N.length - ds.length) none) hs with
    | nx e hs' => rw [q] at g; exact fun mu' H' σ' l s' _ => g mu' H' .non l s' .non
    | ret d hs' => rw [q] at g; exact fun mu' H' v l s' rv => g mu' H' v l s' rv
    | exc c fs e hs' => rw [q] at g; exact fun mu' H' σ' cls dx l s' _ rx => g mu' H' cls dx l s' rx
    | brk e hs' => rw [q] at g; exact g.elim
    | cnt e hs' => rw [q] at g; exact g.elim
    | bad => rw [q] at g; exact g.elim
  refine wpAny_mono ((hb A outer s H E B).run [] s1 (start N vs) H _ I hq) (fun fl s' h => ?_) fun _ _ h => h
  cases fl with
  | ret u => obtain ⟨v, σ', H', J, rv, q⟩ := h; exact ⟨v, H', J.os, J.bare, J.base, J.hok, rv, q⟩
  | next => obtain ⟨σ', H', J, q⟩ := h; exact ⟨.non, H', J.os, J.bare, J.base, J.hok, rfl, q⟩
  | brk => obtain ⟨_, _, _, z⟩ := h; exact z.elim
  | cont => obtain ⟨_, _, _, z⟩ := h; exact z.elim
theorem FnG.mono {j k : Nat} {f : Addr} {fd : FuncData} {ps : List Str} {sp : Sp} (F : FnG P w K mg base j f fd ps sp) (h : j ≤ k) : FnG P w K mg base k f fd ps sp :=
  ⟨F.len, fun A outer s H args us vs Q E hr hg => F.run A outer s H args us vs Q E (hr.mono h) hg⟩
/-- another function of the same worth -/
theorem FnG.eq {k n : Nat} {f : Addr} {fd : FuncData} {ps : List Str} {fn fn' : List D → Hs → R D} (F : FnG P w K mg base k f fd ps (spU K mg n fn)) (h : ∀ ds hs, fn' ds hs = fn ds hs) : FnG P w K mg base k f fd ps (spU K mg n fn') := by
  have e : fn' = fn := funext fun ds => funext fun hs => h ds hs
  rw [e]; exact F
end

/-! ### calls -/
/-- positional, keyword and default values in the parameters' order, by places -/
def selL {t : Type} (is : List Nat) (us ws dv : List t) : List t := is.filterMap fun i => (us ++ ws ++ dv)[i]?
theorem Vals.sel {vs zs dvs : List V} {us ws ds : List Value} (a : Vals vs us) (b : Vals zs ws) (c : Vals dvs ds) : ∀ is : List Nat, Vals (selL is vs zs dvs) (selL is us ws ds)
  | [] => .nil
  | i :: is => by
    have ih := Vals.sel a b c is
    have abc := Vals.append (Vals.append a b) c
    unfold selL at ih ⊢
    rw [List.filterMap_cons, List.filterMap_cons]
    cases e : (vs ++ zs ++ dvs)[i]? with
    | none => rw [Vals.none_of abc e]; exact ih
    | some x =>
      obtain ⟨u, h1, h2⟩ := Vals.get abc e
      rw [h1]
      exact .cons h2 ih
theorem RDs.none_of {K : PySem.W.Frag} {mu : Mp} {H : Hp} {ds : List D} {vs : List V} (r : RDs K mu H ds vs) {i : Nat} (e : ds[i]? = none) : vs[i]? = none := by
  rw [List.getElem?_eq_none_iff] at e ⊢
  rw [← r.length]; exact e
theorem RDs.sel {K : PySem.W.Frag} {mu : Mp} {H : Hp} {ds es dds : List D} {vs zs dvs : List V} (a : RDs K mu H ds vs) (b : RDs K mu H es zs) (c : RDs K mu H dds dvs) : ∀ is : List Nat, RDs K mu H (selL is ds es dds) (selL is vs zs dvs)
  | [] => .nil
  | i :: is => by
    have ih := RDs.sel a b c is
    have abc := (a.append b).append c
    unfold selL at ih ⊢
    rw [List.filterMap_cons, List.filterMap_cons]
    cases e : (ds ++ es ++ dds)[i]? with
    | none => rw [abc.none_of e]; exact ih
    | some x =>
      obtain ⟨u, h1, h2⟩ := abc.get e
      rw [h1]
      exact .cons h2 ih
/-- how a call binds: n positional values, keywords ks, the defaults ds; is: which value goes to each parameter -/
def BindK (K : PySem.W.Frag) (fd : FuncData) (ps : List Str) (n : Nat) (ks : List Str) (is : List Nat) (ds : List Value) : Prop :=
  ∀ (s : Shared) (us ws : List Value), K.In s.heap → us.length = n → ws.length = ks.length → BindsTo s fd ⟨us, ks.zip ws⟩ (ps.zip (selL is us ws ds))
/-- all positional -/
def eFn (fn : List D → Hs → R D) (is : List Nat) (dds : List D) (fa : FA) : FE := fun e hs => (fa e hs).bind fun ds hs => fn (selL is ds [] dds) hs
def eFnK (fn : List D → Hs → R D) (is : List Nat) (dds : List D) (fa fk : FA) : FE := fun e hs => (fa e hs).bind fun ds hs => (fk e hs).bind fun zs hs => fn (selL is ds zs dds) hs
section
variable {X : Cx} {Wd : WX} {k n : Nat} {f : Addr} {fd : FuncData} {ps ks : List Str} {fn : List D → Hs → R D} {dds : List D} {dvs : List V} {ds : List Value} {is : List Nat} {x : Str} {p pos kpos : Pos} {e : Expr} {es : List Expr} {fa fk : FA} {kws : List Keyword}
/-- the callee runs -/
theorem runG {pins : List (Addr × Obj)} {σ : L2.St} {H : Hp} {s : Shared} {Q : VK} {us ws : List Value} {vs zs : List V} (F : FnG X.prog X.w X.K X.mg X.base k f fd ps (spU X.K X.mg ps.length fn)) (hr : Room k X.A) (hgd : X.A.guards = some []) (tk : Takes X Wd)
    (hb : BindK X.K fd ps n ks is ds) (hd : Vals dvs ds) (hdd : ∀ mu H, RDs X.K mu H dds dvs) (I : Inv X pins σ H s) (r : Vals vs us) (rz : Vals zs ws) (hn : us.length = n) (hks : ws.length = ks.length)
    (h : ∃ mu hs es qs, Sim X.K X.mg mu hs H ∧ RDs X.K mu H es vs ∧ RDs X.K mu H qs zs ∧ (selL is es qs dds).length = ps.length ∧ Gd (relD X.K) X.K X.mg Wd σ mu H Q (fn (selL is es qs dds) hs)) :
    wpAny (model X.prog X.w) X.A (call (.ref f) us (ks.zip ws)) (EP X pins σ Q) X.xe s := by
  obtain ⟨mu, hs, es, qs, S, r1, r2, hl, g⟩ := h
  have hsp : spU X.K X.mg ps.length fn (selL is vs zs dvs) H Q (WE Wd σ) := by
    refine ⟨mu, hs, _, S, RDs.sel r1 r2 (hdd mu H) is, hl, ?_⟩
    cases q : fn (selL is es qs dds) hs with
    | ok d hs' => rw [q] at g; exact g
    | exc c fs hs' => rw [q] at g; exact g
    | bad => rw [q] at g; exact g
  have c := F.run X.A X.stack s H ⟨us, ks.zip ws⟩ (selL is us ws ds) (selL is vs zs dvs) Q (WE Wd σ) hr hgd I.env0 (hb s us ws I.kIn hn hks) (Vals.sel r rz hd is) hsp
  refine wpAny_call (codeAny_mono c fun rr s' hq => ?_)
  cases rr with
  | error x => exact passAt tk σ pins H s x s' I hq
  | ok fl =>
    cases fl with
    | ret u => exact I.after hq
    | _ => exact False.elim hq
theorem ue_call (F : FnG X.prog X.w X.K X.mg X.base k f fd ps (spU X.K X.mg ps.length fn)) (hr : Room k X.A) (hgd : X.A.guards = some []) (tk : Takes X Wd) (hg : Gl X x) (hm : X.mg x = some (.ref f)) (hk : PySem.W.keepIn X.K (.ref f) = true)
    (hb : BindK X.K fd ps (e :: es).length [] is ds) (hd : Vals dvs ds) (hdd : ∀ mu H, RDs X.K mu H dds dvs) (ha : UA X Wd (e :: es) fa) (hla : ∀ ev hs qs hs', fa ev hs = .ok qs hs' → (selL is qs [] dds).length = ps.length ∧ qs.length = (e :: es).length)
    (hdb : (x == ("__debug__" : Str)) = false := by decide) (he : starEach (e :: es) X.env = (false, eval e X.env) :: starEach es X.env := by rfl) (hpl : (backTo pos (starEach es X.env)).any (·.1) = false := by rfl) :
    UE X Wd (.Call (.Name x p) (e :: es) [] pos) (eFn fn is dds fa) := by
  refine ⟨fun pins s σ H Q I h => ?_⟩
  obtain ⟨ev, mu, hs, S, E, g⟩ := h
  unfold eFn at g
  refine wpAny_Call_Name_kw (ld_glob I hg hm ?_ hdb)
  refine PySem.W.callWith_K (h₀ := X.base) I.ok.mod.kin hk (thn (ha.run pos pins s σ H (fun vs H1 => ∃ mu hs es, Sim X.K X.mg mu hs H1 ∧ RDs X.K mu H1 es vs ∧ (∃ ev h0, fa ev h0 = .ok es hs) ∧ Gd (relD X.K) X.K X.mg Wd σ mu H1 Q (fn (selL is es [] dds) hs)) I ⟨ev, mu, hs, S, E, ?_⟩) fun us s1 ⟨vs, H1, I1, r, mu1, hs1, es1, S1, r1, ⟨ev1, h01, q1⟩, g1⟩ => ⟨I1.kIn, ?_⟩) he hpl
  · cases q : fa ev hs with
    | ok qs hs' => rw [q] at g; exact fun mu' H' y l s rr => ⟨mu', hs', qs, s, rr, ⟨ev, hs, q⟩, Gd.later relD_ok l g⟩
    | exc c fs hs' => rw [q] at g; exact g
    | bad => rw [q] at g; exact g
  · obtain ⟨l1, l2⟩ := hla _ _ _ _ q1
    exact runG (us := us) (ws := []) (vs := vs) (zs := []) (ks := []) F hr hgd tk hb hd hdd I1 r .nil (by rw [← r.length, ← r1.length, l2]) rfl ⟨mu1, hs1, es1, [], S1, r1, .nil, l1, g1⟩
/-- keywords -/
abbrev UK (X : Cx) (Wd : WX) (kws : List Keyword) (f : FA) : Prop := PK X kws (tG (relA X.K) X.K X.mg Wd f)
theorem PK.imp {kws : List Keyword} {t t' : TA} (h : PK X kws t) (i : ∀ σ H Q, t' σ H Q → t σ H Q) : PK X kws t' := ⟨fun pos pins s σ H Q I q => h.run pos pins s σ H Q I (i σ H Q q)⟩
theorem uk_nil : UK X Wd [] aNil := PK.imp pk_nil fun σ H Q ⟨e, mu, hs, S, E, g⟩ => g mu H [] .refl S .nil
end

/-! ### the law's end -/
/-- where the law is entered: the heap, with the script locked where it isn't the module's own -/
def H0of (K : PySem.W.Frag) (a : Addr) (o : Obj) (xs : List V) : Hp := fun b => if b = a ∧ K.lookup a = none then some (.frz o (.lst xs)) else none
theorem law_enter {P : Program} {w : World} {K : PySem.W.Frag} {mg mb : Str → Option Value} {k : Nat} {fa a : Addr} {fd : FuncData} {x : Str} {fn : List D → Hs → R D} {s1 : Shared} {vs : List Value} {ns : List Int}
    (KX : K.In s1.heap) (hns : s1.heap.Ns mainGlobals mg) (hsm : ∃ m, s1.heap.Ns sysModules m) (hb : s1.heap.Ns builtinsNs mb) (hbb : ∀ x : Str, x ≠ "__name__" → mb x = bootBuiltins x) (hlim : s1.heap.NoLimit) (hg : s1.gens = #[])
    (ha : s1.heap.get? a = some { cls := .type "list", data := .seq vs.toArray }) (hi : IntsAre vs ns) (hl : ns.length ≤ sizeLine) (hr : Room k callerA)
    (F : ∀ base : Heap, K.In base → base.Ns mainGlobals mg → (∃ o, base.get? sysModules = some o) → FnG P w K mg base k fa fd [x] (spU K mg 1 fn)) (hbind : ∀ (s : Shared) (u : Value), BindsTo s fd ⟨[u], []⟩ [(x, u)])
    (hok : ∃ hs', fn [.scr (ns.map D.int)] [] = .ok (.bl true) hs') :
    codeAny (model P w) callerA (.call (.ref fa) ⟨[.ref a], []⟩) (fun r s' => r = .ok (.ret (.bool true)) ∧ OldK s1.heap s'.heap ∧ s'.os = s1.os ∧ AllBare s'.gens) s1 := by
  have rv := vals_ints hi
  generalize hH : H0of K a { cls := .type "list", data := .seq vs.toArray } (ns.map V.int) = H
  have Hat : ∀ b u, H b = some u → b = a ∧ K.lookup a = none ∧ u = .frz { cls := .type "list", data := .seq vs.toArray } (.lst (ns.map V.int)) := by
    intro b u e
    rw [← hH] at e
    unfold H0of at e
    split at e
    · rename_i h; cases e; exact ⟨h.1, h.2, rfl⟩
    · cases e
  have frees : ∀ {b : Addr} {o : Obj}, s1.heap.get? b = some o → (∀ q n, o.data ≠ .seq q n) ∨ K.lookup b ≠ none → H b = none := by
    intro b o e h
    cases q : H b with
    | none => rfl
    | some u =>
      obtain ⟨rfl, hk, _⟩ := Hat b u q
      rw [ha] at e; cases e
      rcases h with h | h
      · exact absurd rfl (h _ _)
      · exact absurd hk h
  have keepNs : ∀ {b : Addr} {m : Str → Option Value}, s1.heap.Ns b m → (hidT s1.heap H).Ns b m := by
    rintro b m ⟨o, es, ep, e, d, r⟩
    exact ⟨o, es, ep, hidT_get e (frees e (.inl fun q n z => by rw [d] at z; cases z)), d, r⟩
  have kin : K.In (hidT s1.heap H) := fun b o e => hidT_get (KX b o e) (frees (KX b o e) (.inr (by rw [e]; simp)))
  have hokH : HOk P w H s1.heap := by
    intro b u e
    obtain ⟨rfl, hk, rfl⟩ := Hat b u e
    exact ⟨ha, by rw [List.length_map]; exact hl, vs, _, rv, ha⟩
  have md : Mod K mg (hidT s1.heap H) := by
    obtain ⟨mc, c1, c2⟩ := hlim
    exact ⟨kin, keepNs hns, ⟨mb, keepNs hb, hbb⟩, ⟨mc, keepNs c1, c2⟩⟩
  have e0 : Env0 P w K mg (hidT s1.heap H) callerA [] s1 H :=
    { frames := rfl, mod := md, bs := fun b o e => of_hidT e, bsz := Nat.le_of_eq (hidT_size _ _), funs := trivial, frf := fun b z => absurd (show b ∈ ([] : List Addr) from z) (by simp), hok := hokH, bare := .of_eq hg }
  have scr : RD K ⟨[], fun _ => False⟩ H (.scr (ns.map D.int)) (.ref a) := by
    refine .scr ?_ (RDs.ints ns)
    cases hk : K.lookup a with
    | none =>
      refine .inl ⟨⟨{ cls := .type "list", data := .seq vs.toArray }, ?_⟩, by simp⟩
      rw [← hH]
      exact if_pos ⟨rfl, hk⟩
    | some o =>
      have e := KX a o hk
      rw [ha] at e; cases e
      exact .inr (.inr ⟨_, vs.toArray, _, hk, rfl, rfl, rfl, by rw [List.size_toArray, hi.length]; exact hl, by simpa using rv⟩)
  obtain ⟨hs', hfn⟩ := hok
  have sp : spU K mg 1 fn [.ref a] H (fun v _ => v = .bl true) (fun _ _ _ => False) := by
    refine ⟨⟨[], fun _ => False⟩, [], [.scr (ns.map D.int)], ⟨rfl, .nil, fun b z => by simp at z, fun b z => z.elim, fun n o h => by simp at h⟩, .cons scr .nil, rfl, ?_⟩
    rw [hfn]
    intro mu' H' v l s r
    cases r; rfl
  refine codeAny_mono ((F _ kin (keepNs hns) (let ⟨_, o, _, _, e, _⟩ := hsm.elim fun m h => (⟨m, keepNs h⟩ : ∃ m, (hidT s1.heap H).Ns sysModules m); ⟨o, e⟩)).run callerA [] s1 H ⟨[.ref a], []⟩ [.ref a] [.ref a] _ _ hr rfl e0 (hbind s1 (.ref a)) (.cons rfl .nil) sp) fun r s' h => ?_
  cases r with
  | error e =>
    obtain ⟨_, _, _, _, _, _, _, _, _, _, _, _, z⟩ := h
    exact z.elim
  | ok fl =>
    cases fl with
    | ret u =>
      obtain ⟨v, H', os, bare, un, hok', rr, rfl⟩ := h
      obtain rfl : u = Value.bool true := rr
      refine ⟨rfl, OldK.of_keep fun b o e => ?_, os, bare⟩
      cases q : H b with
      | none => exact un.keep b o e q (by intro z; exact absurd (show b ∈ ([] : List Addr) from z) (by simp)) (by simp)
      | some u =>
        obtain ⟨rfl, hk, rfl⟩ := Hat b u q
        have z1 := (hokH b _ q).1
        have z2 := (hok' b _ (un.frzs b _ _ q)).1
        rw [e] at z1; cases z1
        exact z2
    | _ => exact False.elim h
/-- the goal that the head leaves -/
theorem walk_G {l : PySem.W.OpenLaw} {n k : Nat} {q : Program} {loose : List Str} {XP : (Str → Option Value) → Heap → Prop} {YP : World → Heap → Prop} {d : DefRec} {K : Params → PySem.W.Frag} {fn : List D → Hs → R D} {x : Str}
    (himp : importsNone q = true) (hn : l.most = some n) (hn2 : n ≤ sizeLine) (hdf : d.params.defaults = []) (hr : Room k callerA) (hY : ∀ (w : World) (h : Heap), YP w h → (K w.params).In h)
    (F : ∀ (w : World) (mg : Str → Option Value) (fa : Addr) (h : Heap), (K w.params).In h → h.Ns mainGlobals mg → mg d.name = some (.ref fa) →
      ∃ fd : FuncData, (∀ (s : Shared) (u : Value), BindsTo s fd ⟨[u], []⟩ [(x, u)]) ∧ ∀ base : Heap, (K w.params).In base → base.Ns mainGlobals mg → (∃ o, base.get? sysModules = some o) → FnG l.prog w (K w.params) mg base k fa fd [x] (spU (K w.params) mg 1 fn))
    (hok : ∀ ns : List Int, ns.length ≤ n → ∃ hs', fn [.scr (ns.map D.int)] [] = .ok (.bl true) hs') : PySem.W.WalkO q loose XP YP l.row.toRowW d [] (fun f vs => PySem.call f vs) := by
  refine Att.attach_call hn hdf fun w s0 s1 mg mb fa o pm cd doc a vs ns Gt Y ho hd hcd hmg hobj hints hlen hg => ?_
  obtain ⟨fd, hb, hF⟩ := F w mg fa _ (hY w _ Y) Gt.T.g hmg
  exact law_enter (hY w _ Y) Gt.T.g (let ⟨m, h, _⟩ := (Gt.T.seer himp).mods; ⟨m, h⟩) Gt.T.b Gt.T.builtins Gt.T.nolimit hg hobj hints (Nat.le_trans hlen hn2) hr hF hb (hok ns hlen)
end G

/-! # G9: short forms for the printer -/
namespace G
open PySem PySem.Spec PyProof.Rows L2

theorem few {n : Nat} (h : n ≤ 1000) : n ≤ sizeLine := Nat.le_trans h (by decide)
theorem selL_len {t : Type} (us ws dv : List t) : ∀ (is : List Nat), (∀ i ∈ is, i < us.length + ws.length + dv.length) → (selL is us ws dv).length = is.length
  | [], _ => rfl
  | i :: is, h => by
    have ih := selL_len us ws dv is fun j hj => h j (List.mem_cons_of_mem _ hj)
    have hi : i < (us ++ ws ++ dv).length := by simp only [List.length_append]; exact h i List.mem_cons_self
    unfold selL at ih ⊢
    rw [List.filterMap_cons, List.getElem?_eq_getElem hi, List.length_cons, ih, List.length_cons]
theorem all_lt {is : List Nat} {n : Nat} (h : is.all (fun i => decide (i < n)) = true) : ∀ i ∈ is, i < n := fun i hi => of_decide_eq_true (List.all_eq_true.mp h i hi)
section
variable {K : PySem.W.Frag} {x qual : Str} {st : Stmt} {f : Addr} {fd : FuncData} {ps ks : List Str} {n : Nat} {is : List Nat}
theorem bindK_of (F : Fun K x qual st f fd) (h : ∀ (kV doc pm : Value) (an : Option Addr) (cdv ct : Value) (us ws : List Value), us.length = n → ws.length = ks.length →
    bindArgs (PySem.W.fnOf x qual (defArgs st) (defBody st) (defScope st) .none kV doc pm an cdv ct) ⟨us, ks.zip ws⟩ = pure (ps.zip (selL is us ws []))) : BindK K fd ps n ks is [] := by
  obtain ⟨oc, od, kV, doc, pm, an, cdv, ct, osl, rfl, lk, hcd⟩ := F.ex
  exact fun s us ws _ h1 h2 => .of_eq (h kV doc pm an cdv ct us ws h1 h2)
theorem fun_ok {P : Program} {w : World} {mg : Str → Option Value} {base : Heap} {N : List Str} {k : Nat} (F : Fun K x qual st f fd) (hsm : ∃ o, base.get? sysModules = some o) (S : FnScope N ps (defScope st)) (b : FS)
    (hb : ∀ (cdv : Value) (A : Around) (outer : List Env) (s : Shared) (H : Hp) (E : XK), Bd (cxOf (L2.CX P w) P w K mg base N qual (defScope st) f cdv A outer s H E) (fun cls dx _ H' => E cls dx H') k →
      USs (cxOf (L2.CX P w) P w K mg base N qual (defScope st) f cdv A outer s H E) (fun cls dx _ H' => E cls dx H') (defBody st) b) : FnG P w K mg base (k + 1) f fd ps (spU K mg ps.length (fnBody N.length b)) := by
  obtain ⟨oc, od, kV, doc, pm, an, cdv, ct, osl, rfl, lk, hcd⟩ := F.ex
  exact fnG_of hsm lk hcd S b fun A outer s H E B => hb cdv A outer s H E B
end
section
variable {X : Cx} {Wd : WX} {k k' n : Nat} {f : Addr} {fd : FuncData} {ps ks : List Str} {fn : List D → Hs → R D} {is : List Nat} {x : Str} {p pos : Pos} {e : Expr} {es : List Expr} {fa fk : FA} {kws : List Keyword}
theorem Bd.blk {s : Shared} {H : Hp} {scope : Scope} {cenv : Env} {fp : List Addr} (B : Bd X Wd k) : Bd (X.blk s H scope cenv fp) W0 k := ⟨B.calm, B.room, B.gd, takes0, PassesOwn.never, B.sm⟩
/-- f(e, ..), no defaults -/
theorem ue_fn (B : Bd X Wd k') (F : FnG X.prog X.w X.K X.mg X.base k f fd ps (spU X.K X.mg ps.length fn)) (hr : k ≤ k') (hm : X.mg x = some (.ref f)) (hk : PySem.W.keepIn X.K (.ref f) = true)
    (hb : BindK X.K fd ps (e :: es).length [] is []) (ha : UA X Wd (e :: es) fa) (hla : ∀ ev hs qs hs', fa ev hs = .ok qs hs' → qs.length = (e :: es).length) (hi : is.all (fun i => decide (i < (e :: es).length)) = true := by decide) (hl : is.length = ps.length := by rfl) (hg : Gl X x := by rfl)
    (hdb : (x == ("__debug__" : Str)) = false := by decide) (he : starEach (e :: es) X.env = (false, eval e X.env) :: starEach es X.env := by rfl) (hpl : (backTo pos (starEach es X.env)).any (·.1) = false := by rfl) :
    UE X Wd (.Call (.Name x p) (e :: es) [] pos) (eFn fn is [] fa) :=
  ue_call F (B.room.mono hr) B.gd B.tk hg hm hk hb .nil (fun _ _ => .nil) ha (fun ev hs qs hs' h => by
    have h1 := hla ev hs qs hs' h
    exact ⟨by rw [selL_len _ _ _ _ (by rw [h1]; exact all_lt hi), hl], h1⟩) hdb he hpl
/-- what is walked, of any kind -/
theorem PI.or {tg iter : Expr} {t t' : TI} (h : PI X tg iter t) (h' : PI X tg iter t') : PI X tg iter (fun σ H R => t σ H R ∨ t' σ H R) := ⟨fun pins s σ H R I q => q.elim (h.run pins s σ H R I) (h'.run pins s σ H R I)⟩
def iAny (f : FE) : FI := fun e hs => match f e hs with
  | .ok d hs' => (match d with
    | .tup ds => .ok (nxL ds) hs'
    | .ctp ds => .ok (nxL ds) hs'
    | .lst ds => .ok (nxL ds) hs'
    | .scr ds => .ok (nxL ds) hs'
    | .ref n => (match hs'[n]? with | some (.lst _) => .ok (nxR n) hs' | _ => .bad)
    | .str x => .ok (nxL (signs x)) hs'
    | _ => .bad)
  | .exc c fs hs' => .exc c fs hs'
  | .bad => .bad
theorem ui_any {tg a : Expr} {f1 : FE} (ha : UE X Wd a f1) : UI X Wd tg a (iAny f1) := by
  refine PI.imp (PI.or (ui_seq ha) (PI.or (ui_tup ha) (ui_str ha))) fun σ H Q ⟨e, mu, hs, S, E, g⟩ => ?_
  unfold iAny at g
  cases q : f1 e hs with
  | ok d hs' =>
    rw [q] at g
    cases d with
    | tup ds => refine .inr (.inl ⟨e, mu, hs, S, E, ?_⟩); unfold iTp; rw [q]; exact g
    | ctp ds => refine .inr (.inl ⟨e, mu, hs, S, E, ?_⟩); unfold iTp; rw [q]; exact g
    | str x => refine .inr (.inr ⟨e, mu, hs, S, E, ?_⟩); unfold iStrG; rw [q]; exact g
    | lst ds => refine .inl ⟨e, mu, hs, S, E, ?_⟩; unfold iSeq; rw [q]; exact g
    | scr ds => refine .inl ⟨e, mu, hs, S, E, ?_⟩; unfold iSeq; rw [q]; exact g
    | ref n => refine .inl ⟨e, mu, hs, S, E, ?_⟩; unfold iSeq; rw [q]; exact g
    | _ => exact g.elim
  | exc c fs hs' => rw [q] at g; refine .inl ⟨e, mu, hs, S, E, ?_⟩; unfold iSeq; rw [q]; exact g
  | bad => rw [q] at g; exact g.elim
end

/-! ### what a part has made and nobody else knows is forgotten -/
mutual
/-- no number from n on -/
def bel (n : Nat) : D → Bool
  | .ref m => decide (m < n)
  | .tup ds => bels n ds
  | .lst ds => bels n ds
  | .scr ds => bels n ds
  | .ctp ds => bels n ds
  | .dct _ ds => bels n ds
  | .dtp _ ds => bels n ds
  | .dlk _ ds => bels n ds
  | .dlt _ ds => bels n ds
  | .ins _ _ ds => bels n ds
  | .exn _ _ ds => bels n ds
  | _ => true
def bels (n : Nat) : List D → Bool
  | [] => true
  | d :: ds => bel n d && bels n ds
end
def obel (n : Nat) : O → Bool
  | .lst ds => bels n ds
  | .dk kvs => bels n (kvs.map (·.2))
  | .dt kvs => bels n (kvs.map (·.2))
  | .ins _ kvs => bels n (kvs.map (·.2))
  | .lkd o => obel n o
mutual
/-- what numbers stand for, by value -/
def dW (r : Nat → Option D) : D → Option D
  | .ref m => r m
  | .tup ds => (dWs r ds).map .tup
  | .lst ds => (dWs r ds).map .lst
  | .scr ds => (dWs r ds).map .scr
  | .ctp ds => (dWs r ds).map .ctp
  | .dct ks ds => (dWs r ds).map (.dct ks)
  | .dtp ks ds => (dWs r ds).map (.dtp ks)
  | .dlk ks ds => (dWs r ds).map (.dlk ks)
  | .dlt ks ds => (dWs r ds).map (.dlt ks)
  | .ins c ks ds => (dWs r ds).map (.ins c ks)
  | .exn c ks ds => (dWs r ds).map (.exn c ks)
  | .non => some .non
  | .bl b => some (.bl b)
  | .int i => some (.int i)
  | .str s => some (.str s)
  | .ty t => some (.ty t)
  | .glb x => some (.glb x)
def dWs (r : Nat → Option D) : List D → Option (List D)
  | [] => some []
  | d :: ds => match dW r d with
    | some p => match dWs r ds with | some ps => some (p :: ps) | none => none
    | none => none
end
def dH (hs : Hs) (n : Nat) : Nat → Nat → Option D
  | 0, m => if m < n then some (.ref m) else none
  | k + 1, m => if m < n then some (.ref m) else match hs[m]? with
    | some (.lst ds) => (dWs (dH hs n k) ds).map .lst
    | some (.dk kvs) => (dWs (dH hs n k) (kvs.map (·.2))).map (.dct (kvs.map (·.1)))
    | some (.dt kvs) => (dWs (dH hs n k) (kvs.map (·.2))).map (.dtp (kvs.map (·.1)))
    | some (.ins c kvs) => (dWs (dH hs n k) (kvs.map (·.2))).map (.ins c (kvs.map (·.1)))
    | some (.lkd (.dk kvs)) => (dWs (dH hs n k) (kvs.map (·.2))).map (.dlk (kvs.map (·.1)))
    | _ => none
/-- what stood stands, or knows nothing of what is new -/
def Cls (hs h1 : Hs) : Prop := ∀ k, k < hs.length → h1[k]? = hs[k]? ∨ ∃ o, h1[k]? = some o ∧ obel hs.length o = true
open Classical in
noncomputable def gcR (hs : Hs) : R D → R D
  | .ok d h1 => match dW (dH h1 hs.length 50) d with
    | some d' => if Cls hs h1 then .ok d' (h1.take hs.length) else .bad
    | none => .bad
  | .exc c fs h1 => match dWs (dH h1 hs.length 50) (fs.map (·.2)) with
    | some ds => if Cls hs h1 then .exc c ((fs.map (·.1)).zip ds) (h1.take hs.length) else .bad
    | none => .bad
  | .bad => .bad
noncomputable def eGc (f : FE) : FE := fun e hs => gcR hs (f e hs)
noncomputable def gcF (fn : List D → Hs → R D) : List D → Hs → R D := fun ds hs => gcR hs (fn ds hs)
/-- the numbers from n on stand still by themselves -/
def Mp.cut (mu : Mp) (n : Nat) : Mp := ⟨mu.l.take n, fun a => mu.fz a ∨ a ∈ mu.l.drop n⟩
section
variable {K : PySem.W.Frag} {mg : Str → Option Value} {mu mu1 : Mp} {hs h1 : Hs} {H H1 : Hp} {n : Nat}
theorem cut_not {a : Addr} (h : a ∉ mu.l) : a ∉ (mu.cut n).l := fun z => h (List.mem_of_mem_take z)
theorem cut_get {m : Nat} {a : Addr} (e : mu.l[m]? = some a) (h : m < n) : (mu.cut n).l[m]? = some a := by
  show (mu.l.take n)[m]? = some a
  rw [List.getElem?_take_of_lt h]; exact e
theorem cut_fz {m : Nat} {a : Addr} (e : mu.l[m]? = some a) (h : ¬ m < n) : (mu.cut n).fz a := by
  refine .inr (List.mem_of_getElem? (i := m - n) ?_)
  rw [List.getElem?_drop, show n + (m - n) = m by omega]; exact e
theorem StT.cut {a : Addr} {vs : List V} (h : StT K mu H a vs) : StT K (mu.cut n) H a vs := ⟨h.1, cut_not h.2⟩
theorem StF.cut {a : Addr} {u : HO} (h : StF mu H a u) : StF (mu.cut n) H a u := ⟨h.1, cut_not h.2⟩
theorem StE.cut {C a : Addr} {d : Option Addr} (h : StE mu H C d a) : StE (mu.cut n) H C d a := ⟨cut_not h.1, h.2⟩
theorem StX.cut {a : Addr} {kvs : List (Str × V)} (h : StX mu H a kvs) : StX (mu.cut n) H a kvs := ⟨h.1, cut_not h.2⟩
theorem StL.cut {a : Addr} {vs : List V} (h : StL K mu H a vs) : StL K (mu.cut n) H a vs := h.elim (fun h => .inl ⟨h.1, cut_not h.2⟩) .inr
mutual
theorem RD.cut0 : ∀ {d : D} {v : V}, RD K mu H d v → bel n d = true → RD K (mu.cut n) H d v
  | _, _, .non, _ => .non
  | _, _, .bl b, _ => .bl b
  | _, _, .int i, _ => .int i
  | _, _, .str s, _ => .str s
  | _, _, .tup q r, h => .tup q.cut (RDs.cut0 r h)
  | _, _, .lst q z r, h => .lst q (.inl z) (RDs.cut0 r h)
  | _, _, .scr q r, h => .scr q.cut (RDs.cut0 r h)
  | _, _, .ref e, h => .ref (cut_get e (of_decide_eq_true h))
  | _, _, .ty t, _ => .ty t
  | _, _, .ctp q r, h => .ctp q (RDs.cut0 r h)
  | _, _, .dct q z l r, h => .dct q (.inl z) l (RDs.cut0 r h)
  | _, _, .dtp q z l r, h => .dtp q (.inl z) l (RDs.cut0 r h)
  | _, _, .ins g q z l r, h => .ins g q (.inl z) l (RDs.cut0 r h)
  | _, _, .dlk q l r, h => .dlk q.cut l (RDs.cut0 r h)
  | _, _, .dlt q l r, h => .dlt q.cut l (RDs.cut0 r h)
  | _, _, .exn0 g q, _ => .exn0 g q.cut
  | _, _, .exnd g q x z r, h => .exnd g q.cut x.cut z (RDs.cut0 r h)
  | _, _, .glb g, _ => .glb g
theorem RDs.cut0 : ∀ {ds : List D} {vs : List V}, RDs K mu H ds vs → bels n ds = true → RDs K (mu.cut n) H ds vs
  | _, _, .nil, _ => .nil
  | _, _, .cons r t, h => by
    have h := (Bool.and_eq_true _ _).mp (show (bel n _ && bels n _) = true from h)
    exact .cons (RD.cut0 r h.1) (RDs.cut0 t h.2)
end
theorem RKs.cut0 {k : Type} : ∀ {ds : List (k × D)} {vs : List (k × V)}, RKs K mu H ds vs → bels n (ds.map (·.2)) = true → RKs K (mu.cut n) H ds vs
  | _, _, .nil, _ => .nil
  | _, _, .cons r t, h => by
    have h := (Bool.and_eq_true _ _).mp (show (bel n _ && bels n _) = true from h)
    exact .cons (RD.cut0 r h.1) (RKs.cut0 t h.2)
theorem RO.cut0 : ∀ {o : O} {u : HO}, RO K mg mu H o u → obel n o = true → RO K mg (mu.cut n) H o u := by
  intro o
  induction o with
  | lst ds => intro u h b; cases u <;> first | exact RDs.cut0 h b | exact h
  | dk ds => intro u h b; cases u <;> first | exact RKs.cut0 h b | exact h
  | dt ds => intro u h b; cases u <;> first | exact RKs.cut0 h b | exact h
  | ins c ds => intro u h b; cases u <;> first | exact ⟨h.1, RKs.cut0 h.2 b⟩ | exact h
  | lkd o ih => intro u h b; cases u <;> first | exact ih h b | exact h
/-! all numbers that are told are there -/
mutual
theorem RD.bel : ∀ {d : D} {v : V}, RD K mu H d v → bel mu.l.length d = true
  | _, _, .non => rfl
  | _, _, .bl b => rfl
  | _, _, .int i => rfl
  | _, _, .str s => rfl
  | _, _, .tup q r => RDs.bel r
  | _, _, .lst q z r => RDs.bel r
  | _, _, .scr q r => RDs.bel r
  | _, _, .ref e => decide_eq_true (List.getElem?_eq_some_iff.mp e).1
  | _, _, .ty t => rfl
  | _, _, .ctp q r => RDs.bel r
  | _, _, .dct q z l r => RDs.bel r
  | _, _, .dtp q z l r => RDs.bel r
  | _, _, .ins g q z l r => RDs.bel r
  | _, _, .dlk q l r => RDs.bel r
  | _, _, .dlt q l r => RDs.bel r
  | _, _, .exn0 g q => rfl
  | _, _, .exnd g q x z r => RDs.bel r
  | _, _, .glb g => rfl
theorem RDs.bel : ∀ {ds : List D} {vs : List V}, RDs K mu H ds vs → bels mu.l.length ds = true
  | _, _, .nil => rfl
  | _, _, .cons r t => (Bool.and_eq_true _ _).mpr ⟨RD.bel r, RDs.bel t⟩
end
theorem RKs.bel {k : Type} : ∀ {ds : List (k × D)} {vs : List (k × V)}, RKs K mu H ds vs → bels mu.l.length (ds.map (·.2)) = true
  | _, _, .nil => rfl
  | _, _, .cons r t => (Bool.and_eq_true _ _).mpr ⟨RD.bel r, RKs.bel t⟩
theorem RO.bel : ∀ {o : O} {u : HO}, RO K mg mu H o u → obel mu.l.length o = true := by
  intro o
  induction o with
  | lst ds => intro u h; cases u <;> first | exact RDs.bel h | exact h.elim
  | dk ds => intro u h; cases u <;> first | exact RKs.bel h | exact h.elim
  | dt ds => intro u h; cases u <;> first | exact RKs.bel h | exact h.elim
  | ins c ds => intro u h; cases u <;> first | exact RKs.bel h.2 | exact h.elim
  | lkd o ih => intro u h; cases u <;> first | exact ih h | exact h.elim
theorem dWs_len {r : Nat → Option D} : ∀ (ds ps : List D), dWs r ds = some ps → ps.length = ds.length
  | [], ps, e => by unfold dWs at e; cases e; rfl
  | d :: ds, ps, e => by
    unfold dWs at e
    split at e
    · split at e
      · rename_i qs hq
        cases e
        rw [List.length_cons, List.length_cons, dWs_len ds _ hq]
      · cases e
    · cases e
/-! by value -/
mutual
theorem RD.cutW {r : Nat → Option D} (hr : ∀ m a d, mu.l[m]? = some a → r m = some d → RD K (mu.cut n) H d (.ref a)) : ∀ (d : D) (v : V) (d' : D), RD K mu H d v → dW r d = some d' → RD K (mu.cut n) H d' v
  | .non, _, _, h, e => by cases h; cases e; exact .non
  | .bl b, _, _, h, e => by cases h; cases e; exact .bl b
  | .int i, _, _, h, e => by cases h; cases e; exact .int i
  | .str s, _, _, h, e => by cases h; cases e; exact .str s
  | .ty t, _, _, h, e => by cases h; cases e; exact .ty t
  | .glb x, _, _, h, e => by cases h with | glb g => cases e; exact .glb g
  | .ref m, _, _, h, e => by cases h with | ref q => exact hr _ _ _ q e
  | .tup ds, _, _, h, e => by
    cases h with
    | tup q r =>
      obtain ⟨ps, e1, rfl⟩ := Option.map_eq_some_iff.mp (show (dWs _ ds).map D.tup = some _ from e)
      exact .tup q.cut (RDs.cutW hr ds _ ps r e1)
  | .lst ds, _, _, h, e => by
    cases h with
    | lst q z r =>
      obtain ⟨ps, e1, rfl⟩ := Option.map_eq_some_iff.mp (show (dWs _ ds).map D.lst = some _ from e)
      exact .lst q (.inl z) (RDs.cutW hr ds _ ps r e1)
  | .scr ds, _, _, h, e => by
    cases h with
    | scr q r =>
      obtain ⟨ps, e1, rfl⟩ := Option.map_eq_some_iff.mp (show (dWs _ ds).map D.scr = some _ from e)
      exact .scr q.cut (RDs.cutW hr ds _ ps r e1)
  | .ctp ds, _, _, h, e => by
    cases h with
    | ctp q r =>
      obtain ⟨ps, e1, rfl⟩ := Option.map_eq_some_iff.mp (show (dWs _ ds).map D.ctp = some _ from e)
      exact .ctp q (RDs.cutW hr ds _ ps r e1)
  | .dct ks ds, _, _, h, e => by
    cases h with
    | dct q z l r =>
      obtain ⟨ps, e1, rfl⟩ := Option.map_eq_some_iff.mp (show (dWs _ ds).map (D.dct ks) = some _ from e)
      exact .dct q (.inl z) (l.trans (dWs_len ds ps e1).symm) (RDs.cutW hr ds _ ps r e1)
  | .dtp ks ds, _, _, h, e => by
    cases h with
    | dtp q z l r =>
      obtain ⟨ps, e1, rfl⟩ := Option.map_eq_some_iff.mp (show (dWs _ ds).map (D.dtp ks) = some _ from e)
      exact .dtp q (.inl z) (l.trans (dWs_len ds ps e1).symm) (RDs.cutW hr ds _ ps r e1)
  | .ins c ks ds, _, _, h, e => by
    cases h with
    | ins g q z l r =>
      obtain ⟨ps, e1, rfl⟩ := Option.map_eq_some_iff.mp (show (dWs _ ds).map (D.ins c ks) = some _ from e)
      exact .ins g q (.inl z) (l.trans (dWs_len ds ps e1).symm) (RDs.cutW hr ds _ ps r e1)
  | .dlk ks ds, _, _, h, e => by
    cases h with
    | dlk q l r =>
      obtain ⟨ps, e1, rfl⟩ := Option.map_eq_some_iff.mp (show (dWs _ ds).map (D.dlk ks) = some _ from e)
      exact .dlk q.cut (l.trans (dWs_len ds ps e1).symm) (RDs.cutW hr ds _ ps r e1)
  | .dlt ks ds, _, _, h, e => by
    cases h with
    | dlt q l r =>
      obtain ⟨ps, e1, rfl⟩ := Option.map_eq_some_iff.mp (show (dWs _ ds).map (D.dlt ks) = some _ from e)
      exact .dlt q.cut (l.trans (dWs_len ds ps e1).symm) (RDs.cutW hr ds _ ps r e1)
  | .exn c ks ds, _, _, h, e => by
    obtain ⟨ps, e1, rfl⟩ := Option.map_eq_some_iff.mp (show (dWs _ ds).map (D.exn c ks) = some _ from e)
    cases h with
    | exn0 g q =>
      have e2 := dWs_len _ ps e1
      obtain rfl : ps = [] := List.eq_nil_of_length_eq_zero e2
      exact .exn0 g q.cut
    | exnd g q x z r => exact .exnd g q.cut x.cut (z.trans (dWs_len ds ps e1).symm) (RDs.cutW hr ds _ ps r e1)
theorem RDs.cutW {r : Nat → Option D} (hr : ∀ m a d, mu.l[m]? = some a → r m = some d → RD K (mu.cut n) H d (.ref a)) : ∀ (ds : List D) (vs : List V) (ds' : List D), RDs K mu H ds vs → dWs r ds = some ds' → RDs K (mu.cut n) H ds' vs
  | [], _, _, h, e => by cases h; cases e; exact .nil
  | d :: ds, _, _, h, e => by
    cases h with
    | cons r1 r2 =>
      unfold dWs at e
      split at e
      · rename_i p hp
        split at e
        · rename_i ps hps
          cases e
          exact .cons (RD.cutW hr d _ p r1 hp) (RDs.cutW hr ds _ ps r2 hps)
        · cases e
      · cases e
end
theorem RKs.keys {k : Type} : ∀ {ds : List (k × D)} {vs : List (k × V)}, RKs K mu H ds vs → vs.map (·.1) = ds.map (·.1)
  | _, _, .nil => rfl
  | _, _, .cons _ t => by rw [List.map_cons, List.map_cons, RKs.keys t]
theorem RKs.vals {k : Type} : ∀ {ds : List (k × D)} {vs : List (k × V)}, RKs K mu H ds vs → RDs K mu H (ds.map (·.2)) (vs.map (·.2))
  | _, _, .nil => .nil
  | _, _, .cons r t => .cons r (RKs.vals t)
theorem zip_back {k t : Type} (vs : List (k × t)) : (vs.map (·.1)).zip (vs.map (·.2)) = vs := by
  induction vs with
  | nil => rfl
  | cons p vs ih => simp only [List.map_cons, List.zip_cons_cons, ih]
theorem dH_at (S : Sim K mg mu hs H) : ∀ (k m : Nat) (a : Addr) (d : D), mu.l[m]? = some a → dH hs n k m = some d → RD K (mu.cut n) H d (.ref a)
  | 0, m, a, d, hm, e => by
    unfold dH at e
    split at e
    · rename_i h; cases e; exact .ref (cut_get hm h)
    · cases e
  | k + 1, m, a, d, hm, e => by
    unfold dH at e
    split at e
    · rename_i h; cases e; exact .ref (cut_get hm h)
    · rename_i h
      have fz := cut_fz (n := n) hm h
      split at e
      · rename_i ds hd
        obtain ⟨ps, e1, rfl⟩ := Option.map_eq_some_iff.mp e
        obtain ⟨u, h1, h2⟩ := S.at hm hd
        cases u <;> first
          | exact .lst h1 fz (RDs.cutW (fun m a d q1 q2 => dH_at S k m a d q1 q2) ds _ ps h2 e1)
          | exact h2.elim
      · rename_i kvs hd
        obtain ⟨ps, e1, rfl⟩ := Option.map_eq_some_iff.mp e
        obtain ⟨u, h1, h2⟩ := S.at hm hd
        cases u <;> first
          | (rename_i vs
             have h2 : RKs K mu H kvs vs := h2
             refine .dct (vs := vs.map (·.2)) ?_ fz ?_ (RDs.cutW (fun m a d q1 q2 => dH_at S k m a d q1 q2) _ _ ps h2.vals e1)
             · rw [← h2.keys, zip_back]; exact h1
             · rw [dWs_len _ _ e1, List.length_map, List.length_map])
          | exact h2.elim
      · rename_i kvs hd
        obtain ⟨ps, e1, rfl⟩ := Option.map_eq_some_iff.mp e
        obtain ⟨u, h1, h2⟩ := S.at hm hd
        cases u <;> first
          | (rename_i vs
             have h2 : RKs K mu H kvs vs := h2
             refine .dtp (vs := vs.map (·.2)) ?_ fz ?_ (RDs.cutW (fun m a d q1 q2 => dH_at S k m a d q1 q2) _ _ ps h2.vals e1)
             · rw [← h2.keys, zip_back]; exact h1
             · rw [dWs_len _ _ e1, List.length_map, List.length_map])
          | exact h2.elim
      · rename_i c kvs hd
        obtain ⟨ps, e1, rfl⟩ := Option.map_eq_some_iff.mp e
        obtain ⟨u, h1, h2⟩ := S.at hm hd
        cases u <;> first
          | (rename_i C dx vs
             obtain ⟨hg, h2⟩ : PySem.W.nsIn K mainGlobals c = some (some (.ref C)) ∧ RKs K mu H kvs vs := h2
             refine .ins (C := C) (dx := dx) (vs := vs.map (·.2)) hg ?_ fz ?_ (RDs.cutW (fun m a d q1 q2 => dH_at S k m a d q1 q2) _ _ ps h2.vals e1)
             · rw [← h2.keys, zip_back]; exact h1
             · rw [dWs_len _ _ e1, List.length_map, List.length_map])
          | exact h2.elim
      · rename_i kvs hd
        obtain ⟨ps, e1, rfl⟩ := Option.map_eq_some_iff.mp e
        obtain ⟨u, h1, h2⟩ := S.at hm hd
        cases u with
        | frz o u =>
          have h2 : RO K mg mu H (.dk kvs) u := h2
          cases u with
          | dK vs =>
            have h2 : RKs K mu H kvs vs := h2
            have hb : (n ≤ m) := Nat.le_of_not_lt h
            refine .dlk (vs := vs.map (·.2)) ⟨⟨o, ?_⟩, fun z => ?_⟩ ?_ (RDs.cutW (fun m a d q1 q2 => dH_at S k m a d q1 q2) _ _ ps h2.vals e1)
            · rw [← h2.keys, zip_back]; exact h1
            · have nd := S.nd
              rw [← List.take_append_drop n mu.l, List.nodup_append] at nd
              refine nd.2.2 a z a ?_ rfl
              refine List.mem_of_getElem? (i := m - n) ?_
              rw [List.getElem?_drop, show n + (m - n) = m by omega]; exact hm
            · rw [dWs_len _ _ e1, List.length_map, List.length_map]
          | _ => exact h2.elim
        | _ => exact h2.elim
      · cases e
theorem Sim.le (S : Sim K mg mu hs H) (S1 : Sim K mg mu1 h1 H1) (l : Lat mu H mu1 H1) : hs.length ≤ h1.length := by
  rw [← S.len, ← S1.len]; exact l.pre.length_le
theorem Sim.cut (S : Sim K mg mu hs H) (S1 : Sim K mg mu1 h1 H1) (l : Lat mu H mu1 H1) (c : Cls hs h1) : Sim K mg (mu1.cut hs.length) (h1.take hs.length) H1 := by
  have hle := S.le S1 l
  refine ⟨?_, ?_, ?_, ?_, ?_⟩
  · show (mu1.l.take hs.length).length = _
    rw [List.length_take, List.length_take, S1.len]
  · exact S1.nd.sublist (List.take_sublist ..)
  · rintro a m (z | z)
    · exact S1.dj a (List.mem_of_mem_take m) z
    · have nd := S1.nd
      rw [← List.take_append_drop hs.length mu1.l, List.nodup_append] at nd
      exact nd.2.2 a m a z rfl
  · rintro a (z | z)
    · exact S1.fzl a z
    · exact S1.there (List.mem_of_mem_drop z)
  · intro k o hk
    have hlt : k < hs.length := by
      have := (List.getElem?_eq_some_iff.mp hk).1
      rw [List.length_take] at this
      omega
    rw [List.getElem?_take_of_lt hlt] at hk
    obtain ⟨a, u, e1, e2, e3⟩ := S1.obj k o hk
    refine ⟨a, u, cut_get e1 hlt, e2, RO.cut0 e3 ?_⟩
    rcases c k hlt with q | ⟨o', q1, q2⟩
    · rw [hk] at q
      obtain ⟨b, w, _, _, f3⟩ := S.obj k o q.symm
      rw [← S.len]; exact RO.bel f3
    · rw [hk] at q1; cases q1; exact q2
theorem Lat.cut (S : Sim K mg mu hs H) (l : Lat mu H mu1 H1) : Lat mu H (mu1.cut hs.length) H1 := by
  refine ⟨?_, fun a z => .inl (l.sub a z), fun a o h m => ?_⟩
  · obtain ⟨t, e⟩ := l.pre
    show mu.l <+: mu1.l.take hs.length
    rw [← e, ← S.len, List.take_left]
    exact List.prefix_rfl
  · obtain ⟨q1, q2, q3⟩ := l.ext a o h m
    exact ⟨q1, cut_not q2, fun z => z.elim q3 fun z => absurd (List.mem_of_mem_drop z) q2⟩
theorem RKs.zipW {ks : List Str} : ∀ {fs : List (Str × D)} {vs : List (Str × V)} {ds : List D}, RKs K mu H fs vs → RDs K (mu.cut n) H ds (vs.map (·.2)) → RKs K (mu.cut n) H ((fs.map (·.1)).zip ds) vs
  | _, _, _, .nil, _ => .nil
  | _, _, _, .cons r t, h => by
    cases h with
    | cons h1 h2 => exact .cons h1 (RKs.zipW (ks := ks) t h2)
/-- a result with what is new forgotten -/
theorem Gd.gc {Wd : WX} {σ : L2.St} {Q : V → Hp → Prop} {x : R D} (S : Sim K mg mu hs H) (g : Gd (relD K) K mg Wd σ mu H Q (gcR hs x)) : Gd (relD K) K mg Wd σ mu H Q x := by
  cases x with
  | bad => exact g
  | ok d h1 =>
    unfold gcR at g
    dsimp only at g
    split at g
    · rename_i d' hd
      split at g
      · rename_i hc
        intro mu1 H1 y l S1 r
        exact g _ _ y (Lat.cut S l) (S.cut S1 l hc) (RD.cutW (fun m a d q1 q2 => dH_at S1 50 m a d q1 q2) d y d' r hd)
      · exact g.elim
    · exact g.elim
  | exc c fs h1 =>
    unfold gcR at g
    dsimp only at g
    split at g
    · rename_i ds hd
      split at g
      · rename_i hc
        intro mu1 H1 cls dx l S1 ⟨C, r1, r2, r3⟩
        refine g _ _ cls dx (Lat.cut S l) (S.cut S1 l hc) ⟨C, r1, r2, ?_⟩
        rcases r3 with ⟨rfl, r3⟩ | ⟨a, vs, r3, r4, r5, r6⟩
        · exact .inl ⟨rfl, r3⟩
        · exact .inr ⟨a, vs, r3, r4, cut_not r5, RKs.zipW (ks := []) r6 (RDs.cutW (fun m a d q1 q2 => dH_at S1 50 m a d q1 q2) _ _ ds r6.vals hd)⟩
      · exact g.elim
    · exact g.elim
end
theorem ue_gc {X : Cx} {Wd : WX} {a : Expr} {f : FE} (h : UE X Wd a f) : UE X Wd a (eGc f) :=
  PE.imp h fun σ H Q ⟨e, mu, hs, S, E, g⟩ => ⟨e, mu, hs, S, E, Gd.gc S g⟩
theorem FnG.gc {P : Program} {w : World} {K : PySem.W.Frag} {mg : Str → Option Value} {base : Heap} {k n : Nat} {f : Addr} {fd : FuncData} {ps : List Str} {fn : List D → Hs → R D} (F : FnG P w K mg base k f fd ps (spU K mg n fn)) : FnG P w K mg base k f fd ps (spU K mg n (gcF fn)) :=
  ⟨fun vs H Q E ⟨mu, hs, ds, S, r, l, g⟩ => F.len vs H Q E ⟨mu, hs, ds, S, r, l, Gd.gc S g⟩, fun A outer s H args us vs Q E hr hg he hb hv ⟨mu, hs, ds, S, r, l, g⟩ => F.run A outer s H args us vs Q E hr hg he hb hv ⟨mu, hs, ds, S, r, l, Gd.gc S g⟩⟩
/-- a function that is never come to -/
theorem fnG_bad {P : Program} {w : World} {K : PySem.W.Frag} {mg : Str → Option Value} {base : Heap} {k : Nat} {f : Addr} {fd : FuncData} {ps : List Str} : FnG P w K mg base k f fd ps (spU K mg ps.length fun _ _ => .bad) :=
  ⟨fun vs H Q E ⟨mu, hs, ds, S, r, l, g⟩ => g.elim, fun A outer s H args us vs Q E hr hg he hb hv ⟨mu, hs, ds, S, r, l, g⟩ => g.elim⟩
end G

/-! # G10: plain laws of the functions of the layer -/
namespace G
open PySem PySem.Spec PyProof.Rows L2

/-! ### heaps of ours -/
theorem get_set_eq {hs : Hs} {n : Nat} {o p : O} (h : hs[n]? = some p) : (hs.set n o)[n]? = some o := by
  rw [List.getElem?_set_self]; exact (List.getElem?_eq_some_iff.mp h).1
theorem get_set_ne {hs : Hs} {n m : Nat} {o : O} (h : n ≠ m) : (hs.set n o)[m]? = hs[m]? := List.getElem?_set_ne h
theorem get_app {hs : Hs} {n : Nat} {o p : O} (h : hs[n]? = some p) : (hs ++ [o])[n]? = some p := by
  rw [List.getElem?_append_left (List.getElem?_eq_some_iff.mp h).1]; exact h
theorem get_new {hs : Hs} {o : O} : (hs ++ [o])[hs.length]? = some o := by simp
theorem lt_of_get {hs : Hs} {n : Nat} {p : O} (h : hs[n]? = some p) : n < hs.length := (List.getElem?_eq_some_iff.mp h).1
/-- all but what is told stands -/
def Frm (S : Nat → Prop) (hs hs' : Hs) : Prop := hs.length ≤ hs'.length ∧ ∀ n, n < hs.length → ¬ S n → hs'[n]? = hs[n]?
theorem Frm.refl {S : Nat → Prop} {hs : Hs} : Frm S hs hs := ⟨Nat.le_refl _, fun _ _ _ => rfl⟩
theorem Frm.trans {S : Nat → Prop} {h0 h1 h2 : Hs} (a : Frm S h0 h1) (b : Frm S h1 h2) : Frm S h0 h2 :=
  ⟨Nat.le_trans a.1 b.1, fun n hn s => (b.2 n (Nat.lt_of_lt_of_le hn a.1) s).trans (a.2 n hn s)⟩
theorem Frm.get {S : Nat → Prop} {hs hs' : Hs} (f : Frm S hs hs') {n : Nat} {o : O} (h : hs[n]? = some o) (s : ¬ S n) : hs'[n]? = some o := (f.2 n (lt_of_get h) s).trans h
theorem Frm.app {S : Nat → Prop} {hs : Hs} {o : O} : Frm S hs (hs ++ [o]) := ⟨by simp, fun n hn _ => by rw [List.getElem?_append_left hn]⟩
theorem Frm.set {S : Nat → Prop} {hs : Hs} {n : Nat} {o : O} (s : S n) : Frm S hs (hs.set n o) := ⟨by simp, fun m _ ns => List.getElem?_set_ne (show n ≠ m from fun e => ns (e ▸ s))⟩
theorem Frm.mono {S T : Nat → Prop} {hs hs' : Hs} (f : Frm S hs hs') (h : ∀ n, n < hs.length → S n → T n) : Frm T hs hs' := ⟨f.1, fun n hn t => f.2 n hn fun s => t (h n hn s)⟩

/-! ### data -/
@[simp] theorem pd_non {hs : Hs} : pd hs .non = some .none := rfl
@[simp] theorem pd_bl {hs : Hs} {b : Bool} : pd hs (.bl b) = some (.bool b) := rfl
@[simp] theorem pd_int {hs : Hs} {i : Int} : pd hs (.int i) = some (.int i) := rfl
@[simp] theorem pd_str {hs : Hs} {s : Str} : pd hs (.str s) = some (.str s) := rfl
/-- signs that are signs -/
def okS (x : Str) : Bool := x.cps.all (· < 0x110000)
theorem gEqB_str {hs : Hs} {x y : Str} (hx : okS x = true) (hy : okS y = true) : gEqB hs (.str x) (.str y) = some (x == y) := rfl
theorem eq_str {hs : Hs} {x y : Str} : gEqB hs (.str x) (.str y) = some (x == y) := rfl

/-! ### loops -/
end G

/-! # G11: what holds behind a function's run -/
namespace G
open PySem PySem.Spec PyProof.Rows L2

abbrev XQ := Str → List (Str × D) → Hs → Prop
/-- r ends so -/
@[irreducible] def Wp {a : Type} (r : R a) (Q : a → Hs → Prop) (X : XQ) : Prop := match r with
  | .ok x h => Q x h
  | .exc c fs h => X c fs h
  | .bad => False
abbrev nX : XQ := fun _ _ _ => False
structure Po where
  nx : Ev → Hs → Prop
  rt : D → Hs → Prop := fun _ _ => False
  bk : Ev → Hs → Prop := fun _ _ => False
  ct : Ev → Hs → Prop := fun _ _ => False
  ex : Str → List (Str × D) → Ev → Hs → Prop := fun _ _ _ _ => False
/-- the same, but for what comes next; the same within a loop -/
@[reducible] def Po.wnx (P : Po) (N : Ev → Hs → Prop) : Po := { P with nx := N }
@[reducible] def Po.lp (P : Po) (I : Ev → Hs → Prop) : Po := { nx := I, ct := I, bk := P.nx, rt := P.rt, ex := P.ex }
@[irreducible] def Ws (r : SR) (P : Po) : Prop := match r with
  | .nx e h => P.nx e h
  | .ret d h => P.rt d h
  | .brk e h => P.bk e h
  | .cnt e h => P.ct e h
  | .exc c fs e h => P.ex c fs e h
  | .bad => False
section
variable {a b : Type} {Q : D → Hs → Prop} {X : XQ} {e : Ev} {hs : Hs}
theorem wp_bind {r : R a} {k : a → Hs → R b} {Q : b → Hs → Prop} (h : Wp r (fun x h => Wp (k x h) Q X) X) : Wp (r.bind k) Q X := by with_unfolding_all (cases r <;> exact h)
theorem wp_ok {x : a} {Q : a → Hs → Prop} (h : Q x hs) : Wp (.ok x hs) Q X := by with_unfolding_all exact h
theorem wp_some {x : a} {Q : a → Hs → Prop} {o : Option a} (e : o = some x) (h : Q x hs) : Wp (R.ofO o hs) Q X := by with_unfolding_all (subst e; exact h)
theorem wp_someP {x : a} {Q : a → Hs → Prop} {o : Option (a × Hs)} {hs' : Hs} (e : o = some (x, hs')) (h : Q x hs') : Wp (R.ofP o) Q X := by with_unfolding_all (subst e; exact h)
theorem wp_mono {r : R a} {Q Q' : a → Hs → Prop} {X X' : XQ} (h : Wp r Q X) (i : ∀ x h, Q x h → Q' x h) (j : ∀ c fs h, X c fs h → X' c fs h) : Wp r Q' X' := by
  with_unfolding_all
  cases r with
  | ok x h' => exact i _ _ h
  | exc c fs h' => exact j _ _ _ h
  | bad => exact h
theorem wp_of {r : R a} {Q : a → Hs → Prop} {x : a} {hs' : Hs} (e : r = .ok x hs') (h : Q x hs') : Wp r Q X := by with_unfolding_all (subst e; exact h)
theorem wp_get {r : R a} {Q : a → Hs → Prop} (h : Wp r Q nX) : ∃ x hs', r = .ok x hs' ∧ Q x hs' := by
  with_unfolding_all
  cases r with
  | ok x h' => exact ⟨x, h', rfl, h⟩
  | exc c fs h' => exact h.elim
  | bad => exact h.elim
theorem wp_name {i : Nat} {d : D} (q : e[i]? = some (some d)) (h : Q d hs) : Wp (eName i e hs) Q X := by with_unfolding_all (unfold eName; rw [q]; exact h)
theorem wp_c {d : D} (h : Q d hs) : Wp (eC d e hs) Q X := by with_unfolding_all exact h
theorem wp_anil {Q : List D → Hs → Prop} (h : Q [] hs) : Wp (aNil e hs) Q X := by with_unfolding_all exact h
theorem wp_acons {f : FE} {g : FA} {Q : List D → Hs → Prop} (h : Wp (f e hs) (fun d h => Wp (g e h) (fun ds h => Q (d :: ds) h) X) X) : Wp (aCons f g e hs) Q X := by
  with_unfolding_all
  refine wp_bind (wp_mono h (fun d h' q => wp_bind (wp_mono q (fun _ _ q => q) fun _ _ _ x => x)) fun _ _ _ x => x)
theorem wp_ev {f : FL} (h : Wp (f e hs) (fun ds h => Q (.lst ds) h) X) : Wp (eV f e hs) Q X := by with_unfolding_all exact wp_bind (wp_mono h (fun _ _ q => q) fun _ _ _ x => x)
theorem wp_em {f : FL} (h : Wp (f e hs) (fun ds h => Q (.ref h.length) (h ++ [.lst ds])) X) : Wp (eM f e hs) Q X := by with_unfolding_all exact wp_bind (wp_mono h (fun _ _ q => q) fun _ _ _ x => x)
theorem wp_tup {f : FA} (h : Wp (f e hs) (fun ds h => Q (.tup ds) h) X) : Wp (eTup f e hs) Q X := by with_unfolding_all exact wp_bind (wp_mono h (fun _ _ q => q) fun _ _ _ x => x)
theorem wp_bin {g : Hs → D → D → Option D} {f1 f2 : FE} (h : Wp (f1 e hs) (fun x h1 => Wp (f2 e h1) (fun y h2 => Wp (R.ofO (g h2 x y) h2) Q X) X) X) : Wp (eBin g f1 f2 e hs) Q X := by with_unfolding_all exact wp_bind (wp_mono h (fun _ _ q => wp_bind q) fun _ _ _ x => x)
theorem wp_un {g : Hs → D → Option D} {f1 : FE} (h : Wp (f1 e hs) (fun x h1 => Wp (R.ofO (g h1 x) h1) Q X) X) : Wp (eUn g f1 e hs) Q X := by with_unfolding_all exact wp_bind h
theorem wp_chain {g g' : Hs → D → D → Option D} {f1 f2 f3 : FE} (h : Wp (f1 e hs) (fun x h1 => Wp (f2 e h1) (fun y h2 => Wp (R.ofO (g h2 x y) h2) (fun k h3 => ∃ c, k = .bl c ∧ (c = true → Wp (f3 e h3) (fun z h4 => Wp (R.ofO (g' h4 y z) h4) Q X) X) ∧ (c = false → Q (.bl false) h3)) X) X) X) : Wp (eChain g g' f1 f2 f3 e hs) Q X := by
  with_unfolding_all
  refine wp_bind (wp_mono h (fun x h1 q => wp_bind (wp_mono q (fun y h2 q => wp_bind (wp_mono q (fun k h3 q => ?_) fun _ _ _ x => x)) fun _ _ _ x => x)) fun _ _ _ x => x)
  obtain ⟨c, rfl, q1, q2⟩ := q
  cases c with
  | true => exact wp_bind (q1 rfl)
  | false => exact q2 rfl
theorem wp_eb {f : FE} {Q : Bool → Hs → Prop} (h : Wp (f e hs) (fun d h => ∃ c, d = .bl c ∧ Q c h) X) : Wp (eB f e hs) Q X := by
  with_unfolding_all
  refine wp_bind (wp_mono h (fun d h' q => ?_) fun _ _ _ x => x)
  obtain ⟨c, rfl, q⟩ := q
  exact q
theorem wp_et {f : FE} {Q : Bool → Hs → Prop} (h : Wp (f e hs) (fun d h => Wp (R.ofO (tru h d) h) Q X) X) : Wp (eT f e hs) Q X := by with_unfolding_all exact wp_bind h
theorem wp_andF {f g : FT} {Q : Bool → Hs → Prop} (h : Wp (f e hs) (fun c h => (c = true → Wp (g e h) Q X) ∧ (c = false → Q false h)) X) : Wp (tAndF f g e hs) Q X := by
  with_unfolding_all
  refine wp_bind (wp_mono h (fun c h' q => ?_) fun _ _ _ x => x)
  cases c with
  | true => exact q.1 rfl
  | false => exact q.2 rfl
theorem wp_orF {f g : FT} {Q : Bool → Hs → Prop} (h : Wp (f e hs) (fun c h => (c = true → Q true h) ∧ (c = false → Wp (g e h) Q X)) X) : Wp (tOrF f g e hs) Q X := by
  with_unfolding_all
  refine wp_bind (wp_mono h (fun c h' q => ?_) fun _ _ _ x => x)
  cases c with
  | true => exact q.1 rfl
  | false => exact q.2 rfl
theorem wp_notF {f : FT} {Q : Bool → Hs → Prop} (h : Wp (f e hs) (fun c h => Q (!c) h) X) : Wp (tNotF f e hs) Q X := by with_unfolding_all exact wp_bind (wp_mono h (fun _ _ q => q) fun _ _ _ x => x)
theorem wp_yes {Q : Bool → Hs → Prop} (h : Q true hs) : Wp (tYesF e hs) Q X := by with_unfolding_all exact h
theorem wp_and {f g : FE} (h : Wp (f e hs) (fun d h => ∃ c, d = .bl c ∧ (c = true → Wp (g e h) Q X) ∧ (c = false → Q (.bl false) h)) X) : Wp (eAnd f g e hs) Q X := by
  with_unfolding_all
  refine wp_bind (wp_mono h (fun d h' q => ?_) fun _ _ _ x => x)
  obtain ⟨c, rfl, q1, q2⟩ := q
  cases c with
  | true => exact q1 rfl
  | false => exact q2 rfl
theorem wp_or {f g : FE} (h : Wp (f e hs) (fun d h => ∃ c, d = .bl c ∧ (c = true → Q (.bl true) h) ∧ (c = false → Wp (g e h) Q X)) X) : Wp (eOr f g e hs) Q X := by
  with_unfolding_all
  refine wp_bind (wp_mono h (fun d h' q => ?_) fun _ _ _ x => x)
  obtain ⟨c, rfl, q1, q2⟩ := q
  cases c with
  | true => exact q1 rfl
  | false => exact q2 rfl
theorem wp_not {f : FE} (h : Wp (f e hs) (fun d h => ∃ c, d = .bl c ∧ Q (.bl (!c)) h) X) : Wp (eNot f e hs) Q X := by
  with_unfolding_all
  refine wp_bind (wp_mono h (fun d h' q => ?_) fun _ _ _ x => x)
  obtain ⟨c, rfl, q⟩ := q
  exact q
theorem wp_if {t : FT} {f g : FE} (h : Wp (t e hs) (fun c h => (c = true → Wp (f e h) Q X) ∧ (c = false → Wp (g e h) Q X)) X) : Wp (eIf t f g e hs) Q X := by
  with_unfolding_all
  refine wp_bind (wp_mono h (fun c h' q => ?_) fun _ _ _ x => x)
  cases c with
  | true => exact q.1 rfl
  | false => exact q.2 rfl
theorem wp_onone {Q : Option Int → Hs → Prop} (h : Q none hs) : Wp (oNone e hs) Q X := by with_unfolding_all exact h
theorem wp_osome {f : FE} {Q : Option Int → Hs → Prop} (h : Wp (f e hs) (fun d h => ∃ i, d = .int i ∧ Q (some i) h) X) : Wp (oSome f e hs) Q X := by
  with_unfolding_all
  refine wp_bind (wp_mono h (fun d h' q => ?_) fun _ _ _ x => x)
  obtain ⟨i, rfl, q⟩ := q
  exact q
theorem wp_sl {f : FE} {lo hi : FO} (h : Wp (f e hs) (fun d h => Wp (lo e h) (fun l h => Wp (hi e h) (fun u h => Wp (R.ofO (gSl h d l u) h) Q X) X) X) X) : Wp (eSl f lo hi e hs) Q X := by with_unfolding_all exact wp_bind (wp_mono h (fun _ _ q => wp_bind (wp_mono q (fun _ _ q => wp_bind q) fun _ _ _ x => x)) fun _ _ _ x => x)
theorem wp_rev {f : FE} {Q : List D → Hs → Prop} (h : Wp (f e hs) (fun d h => Wp (R.ofO ((rdOf h d).map List.reverse) h) Q X) X) : Wp (lRev f e hs) Q X := by with_unfolding_all exact wp_bind h
theorem wp_list {f : FE} {Q : List D → Hs → Prop} (h : Wp (f e hs) (fun d h => Wp (R.ofO (seqOf h d) h) Q X) X) : Wp (lList f e hs) Q X := by with_unfolding_all exact wp_bind h
theorem wp_call {g : Hs → List D → Option D} {f : FA} (h : Wp (f e hs) (fun ds h => Wp (R.ofO (g h ds) h) Q X) X) : Wp (eCall g f e hs) Q X := by with_unfolding_all exact wp_bind h
theorem wp_mt {c : Hs → D → Bool} {g : Hs → D → List D → Option (D × Hs)} {f1 : FE} {f : FA} (h : Wp (f1 e hs) (fun d h => c h d = true ∧ Wp (f e h) (fun ds h => Wp (R.ofP (g h d ds)) Q X) X) X) : Wp (eMt c g f1 f e hs) Q X := by
  with_unfolding_all
  refine wp_bind (wp_mono h (fun d h' q => ?_) fun _ _ _ x => x)
  rw [if_pos q.1]
  exact wp_bind q.2
theorem wp_fn {fn : List D → Hs → R D} {is : List Nat} {dds : List D} {fa : FA} (h : Wp (fa e hs) (fun ds h => Wp (fn (selL is ds [] dds) h) Q X) X) : Wp (eFn fn is dds fa e hs) Q X := by with_unfolding_all exact wp_bind h
theorem wp_fnK {fn : List D → Hs → R D} {is : List Nat} {dds : List D} {fa fk : FA} (h : Wp (fa e hs) (fun ds h => Wp (fk e h) (fun zs h => Wp (fn (selL is ds zs dds) h) Q X) X) X) : Wp (eFnK fn is dds fa fk e hs) Q X := by with_unfolding_all exact wp_bind (wp_mono h (fun _ _ q => wp_bind q) fun _ _ _ x => x)
/-- a body -/
theorem wp_body {N : Nat} {b : FS} {ds : List D} (h : Ws (b (ds.map some ++ List.replicate (N - ds.length) none) hs) { nx := fun _ h => Q .non h, rt := Q, ex := fun c fs _ h => X c fs h }) : Wp (fnBody N b ds hs) Q X := by
  with_unfolding_all
  unfold fnBody
  cases q : b (ds.map some ++ List.replicate (N - ds.length) none) hs <;> rw [q] at h <;> exact h

theorem wp_bodyE {N : Nat} {b : FS} {ds : List D} (e0 : Ev) (he : ds.map some ++ List.replicate (N - ds.length) none = e0) (h : Ws (b e0 hs) { nx := fun _ h => Q .non h, rt := Q, ex := fun c fs _ h => X c fs h }) : Wp (fnBody N b ds hs) Q X := by with_unfolding_all (subst he; exact wp_body h)
/-! ### statements -/
variable {P : Po}
theorem ws_skip (h : P.nx e hs) : Ws (sSkip e hs) P := by with_unfolding_all exact h
theorem ws_mono {r : SR} {P P' : Po} (h : Ws r P) (h1 : ∀ e h, P.nx e h → P'.nx e h) (h2 : ∀ d h, P.rt d h → P'.rt d h) (h3 : ∀ e h, P.bk e h → P'.bk e h) (h4 : ∀ e h, P.ct e h → P'.ct e h) (h5 : ∀ c fs e h, P.ex c fs e h → P'.ex c fs e h) : Ws r P' := by
  with_unfolding_all
  cases r with
  | nx e h' => exact h1 _ _ h
  | ret d h' => exact h2 _ _ h
  | brk e h' => exact h3 _ _ h
  | cnt e h' => exact h4 _ _ h
  | exc c fs e h' => exact h5 _ _ _ _ h
  | bad => exact h
theorem ws_seq {f g : FS} (h : Ws (f e hs) (P.wnx fun e' h' => Ws (g e' h') P)) : Ws (sSeq f g e hs) P := by
  with_unfolding_all
  unfold sSeq
  cases q : f e hs <;> rw [q] at h <;> exact h
theorem ws_bind {f : Ev → Hs → R a} {k : a → FS} (h : Wp (f e hs) (fun x h => Ws (k x e h) P) (fun c fs h => P.ex c fs e h)) : Ws (sBind f k e hs) P := by
  with_unfolding_all
  unfold sBind
  cases q : f e hs <;> rw [q] at h <;> exact h
theorem ws_drop {f : FE} (h : Wp (f e hs) (fun _ h => P.nx e h) (fun c fs h => P.ex c fs e h)) : Ws (sDrop f e hs) P := by with_unfolding_all exact ws_bind h
theorem ws_ret {f : FE} (h : Wp (f e hs) (fun d h => P.rt d h) (fun c fs h => P.ex c fs e h)) : Ws (sRet f e hs) P := by with_unfolding_all exact ws_bind h
theorem ws_retN (h : P.rt .non hs) : Ws (sRetN e hs) P := by with_unfolding_all exact h
theorem ws_set {i : Nat} {f : FE} (h : Wp (f e hs) (fun d h => P.nx (e.set i (some d)) h) (fun c fs h => P.ex c fs e h)) : Ws (sSet i f e hs) P := by with_unfolding_all exact ws_bind h
theorem ws_setC {i : Nat} {f : FL} (h : Wp (f e hs) (fun ds h => P.nx (e.set i (some (.lst ds))) h) (fun c fs h => P.ex c fs e h)) : Ws (sSetC i false f e hs) P := by with_unfolding_all exact ws_set (wp_ev h)
theorem ws_setCM {i : Nat} {f : FL} (h : Wp (f e hs) (fun ds h => P.nx (e.set i (some (.ref h.length))) (h ++ [.lst ds])) (fun c fs h => P.ex c fs e h)) : Ws (sSetC i true f e hs) P := by with_unfolding_all exact ws_set (wp_em h)
theorem ws_if {t : FT} {f g : FS} (h : Wp (t e hs) (fun c h => (c = true → Ws (f e h) P) ∧ (c = false → Ws (g e h) P)) (fun c fs h => P.ex c fs e h)) : Ws (sIf t f g e hs) P := by
  with_unfolding_all
  refine ws_bind (wp_mono h (fun c h' q => ?_) fun _ _ _ x => x)
  cases c with
  | true => exact q.1 rfl
  | false => exact q.2 rfl
theorem ws_asg {g : FG} {f : FE} (h : Wp (f e hs) (fun d h => ∃ e', g d e = some e' ∧ P.nx e' h) (fun c fs h => P.ex c fs e h)) : Ws (sAsg g f e hs) P := by
  with_unfolding_all
  refine ws_bind (wp_mono h (fun d h' q => ?_) fun _ _ _ x => x)
  obtain ⟨e', h1, h2⟩ := q
  rw [h1]; exact h2
theorem ws_par {i j : Nat} {f : FA} (h : Wp (f e hs) (fun ds h => ∃ d1 d2, ds = [d1, d2] ∧ P.nx ((e.set i (some d1)).set j (some d2)) h) (fun c fs h => P.ex c fs e h)) : Ws (sPar i j f e hs) P := by
  with_unfolding_all
  refine ws_bind (wp_mono h (fun d h' q => ?_) fun _ _ _ x => x)
  obtain ⟨d1, d2, rfl, h2⟩ := q
  exact h2
theorem ws_sub {g : Hs → D → D → D → Option Hs} {fv fo fi : FE} (h : Wp (fv e hs) (fun v h => Wp (fo e h) (fun o h => Wp (fi e h) (fun i h => ∃ h', g h o i v = some h' ∧ P.nx e h') (fun c fs h => P.ex c fs e h)) (fun c fs h => P.ex c fs e h)) (fun c fs h => P.ex c fs e h)) : Ws (sSub g fv fo fi e hs) P := by
  with_unfolding_all
  refine ws_bind (wp_mono h (fun v h' q => ws_bind (wp_mono q (fun o h' q => ws_bind (wp_mono q (fun i h' q => ?_) fun _ _ _ x => x)) fun _ _ _ x => x)) fun _ _ _ x => x)
  obtain ⟨h2, h3, h4⟩ := q
  rw [h3]; exact h4
/-- loops -/
theorem ws_forF {nx : Nx} {g : FG} {body : FS} {n : Nat} (I : Nat → Ev → Hs → Prop)
    (step : ∀ i e hs, i < n → I i e hs → ∃ d e', nx hs i = some (some d) ∧ g d e = some e' ∧ Ws (body e' hs) (P.lp (I (i + 1))))
    (stop : ∀ e hs, I n e hs → nx hs n = some none ∧ P.nx e hs) : ∀ (k i : Nat) (e : Ev) (hs : Hs), n - i ≤ k → i ≤ n → I i e hs → Ws (forF nx g body k i e hs) P
  | k, i, e, hs, hk, hi, h => by
    with_unfolding_all
    by_cases hlt : i < n
    · obtain ⟨d, e', h1, h2, h3⟩ := step i e hs hlt h
      cases k with
      | zero => omega
      | succ k =>
        unfold forF
        rw [h1]
        dsimp only
        rw [h2]
        dsimp only
        cases q : body e' hs with
        | nx e2 hs2 => rw [q] at h3; exact ws_forF I step stop k (i + 1) e2 hs2 (by omega) (by omega) h3
        | cnt e2 hs2 => rw [q] at h3; exact ws_forF I step stop k (i + 1) e2 hs2 (by omega) (by omega) h3
        | brk e2 hs2 => rw [q] at h3; exact h3
        | ret d hs2 => rw [q] at h3; exact h3
        | exc c fs e2 hs2 => rw [q] at h3; exact h3
        | bad => rw [q] at h3; exact h3
    · have e1 : i = n := by omega
      subst e1
      obtain ⟨s1, s2⟩ := stop e hs h
      cases k <;> (unfold forF; rw [s1]; exact s2)
theorem ws_for {f : FI} {g : FG} {body : FS} (h : Wp (f e hs) (fun nx h => ∃ (n : Nat) (I : Nat → Ev → Hs → Prop), n ≤ 100000 ∧ I 0 e h ∧
    (∀ i e hs, i < n → I i e hs → ∃ d e', nx hs i = some (some d) ∧ g d e = some e' ∧ Ws (body e' hs) (P.lp (I (i + 1)))) ∧
    (∀ e hs, I n e hs → nx hs n = some none ∧ P.nx e hs)) (fun c fs h => P.ex c fs e h)) : Ws (sFor f g body e hs) P := by
  with_unfolding_all
  refine ws_bind (wp_mono h (fun nx h' q => ?_) fun _ _ _ x => x)
  obtain ⟨n, I, hn, h0, hs, hd⟩ := q
  exact ws_forF I hs hd fuel 0 e h' (by unfold fuel; omega) (Nat.zero_le _) h0
/-- a while, by what falls -/
theorem ws_whileF {t : FT} {body : FS} (I : Nat → Ev → Hs → Prop)
    (step : ∀ m e hs, I m e hs → Wp (t e hs) (fun c h => (c = true → Ws (body e h) (P.lp fun e h => ∃ m', m' < m ∧ I m' e h)) ∧ (c = false → P.nx e h)) (fun c fs h => P.ex c fs e h)) :
    ∀ (k m : Nat) (e : Ev) (hs : Hs), m < k → I m e hs → Ws (whileF t body k e hs) P
  | 0, m, e, hs, hk, _ => by omega
  | k + 1, m, e, hs, hk, h => by
    with_unfolding_all
    have s := by with_unfolding_all exact step m e hs h
    unfold whileF
    cases q : t e hs with
    | bad => rw [q] at s; exact s
    | exc c fs h' => rw [q] at s; exact s
    | ok c h1 =>
      rw [q] at s
      dsimp only
      cases c with
      | false => rw [if_neg Bool.false_ne_true]; exact s.2 rfl
      | true =>
        rw [if_pos rfl]
        have s2 := s.1 rfl
        cases q2 : body e h1 with
        | nx e2 hs2 => rw [q2] at s2; unfold Ws at s2; obtain ⟨m', h1, h2⟩ := s2; exact ws_whileF I step k m' e2 hs2 (by omega) h2
        | cnt e2 hs2 => rw [q2] at s2; unfold Ws at s2; obtain ⟨m', h1, h2⟩ := s2; exact ws_whileF I step k m' e2 hs2 (by omega) h2
        | brk e2 hs2 => rw [q2] at s2; exact s2
        | ret d hs2 => rw [q2] at s2; exact s2
        | exc c fs e2 hs2 => rw [q2] at s2; exact s2
        | bad => rw [q2] at s2; exact s2
theorem ws_while {t : FT} {body : FS} (m : Nat) (I : Nat → Ev → Hs → Prop) (hm : m < 100000) (h0 : I m e hs)
    (step : ∀ m e hs, I m e hs → Wp (t e hs) (fun c h => (c = true → Ws (body e h) (P.lp fun e h => ∃ m', m' < m ∧ I m' e h)) ∧ (c = false → P.nx e h)) (fun c fs h => P.ex c fs e h)) : Ws (sWhile t body e hs) P := by with_unfolding_all exact ws_whileF I step fuel m e hs hm h0
/-- a comprehension -/
theorem wp_compF {nx : Nx} {g : FG} {t : FT} {el : FE} {e : Ev} {n : Nat} {Q : List D → Hs → Prop} (I : Nat → List D → Hs → Prop)
    (step : ∀ i acc hs, i < n → I i acc hs → ∃ d e', nx hs i = some (some d) ∧ g d e = some e' ∧ Wp (t e' hs) (fun c h => (c = true → acc.length < sizeLine ∧ Wp (el e' h) (fun y h => I (i + 1) (acc ++ [y]) h) nX) ∧ (c = false → I (i + 1) acc h)) nX)
    (stop : ∀ acc hs, I n acc hs → nx hs n = some none ∧ Q acc hs) : ∀ (k i : Nat) (acc : List D) (hs : Hs), n - i ≤ k → i ≤ n → I i acc hs → Wp (compF nx g t el e k i acc hs) Q X
  | k, i, acc, hs, hk, hi, h => by
    with_unfolding_all
    by_cases hlt : i < n
    · obtain ⟨d, e', h1, h2, h3⟩ := step i acc hs hlt h
      cases k with
      | zero => omega
      | succ k =>
        unfold compF
        rw [h1]
        dsimp only
        rw [h2]
        dsimp only
        cases q : t e' hs with
        | bad => rw [q] at h3; exact h3
        | exc c fs h' => rw [q] at h3; exact h3.elim
        | ok c hs2 =>
          rw [q] at h3
          dsimp only
          cases c with
          | false => rw [if_neg Bool.false_ne_true]; exact wp_compF I step stop k (i + 1) acc hs2 (by omega) (by omega) (h3.2 rfl)
          | true =>
            rw [if_pos rfl]
            obtain ⟨hz, h4⟩ := h3.1 rfl
            cases q2 : el e' hs2 with
            | bad => rw [q2] at h4; exact h4
            | exc c fs h' => rw [q2] at h4; exact h4.elim
            | ok y hs3 =>
              rw [q2] at h4
              dsimp only
              rw [if_pos hz]
              exact wp_compF I step stop k (i + 1) (acc ++ [y]) hs3 (by omega) (by omega) h4
    · have e1 : i = n := by omega
      subst e1
      obtain ⟨s1, s2⟩ := stop acc hs h
      cases k <;> (unfold compF; rw [s1]; exact s2)
theorem wp_comp {f : FI} {g : FG} {t : FT} {el : FE} {vs : List Nat} {Q : List D → Hs → Prop} (h : Wp (f e hs) (fun nx h => ∃ (n : Nat) (I : Nat → List D → Hs → Prop), n ≤ 100000 ∧ I 0 [] h ∧
    (∀ i acc hs, i < n → I i acc hs → ∃ d e', nx hs i = some (some d) ∧ g d (wipeE e vs) = some e' ∧ Wp (t e' hs) (fun c h => (c = true → acc.length < sizeLine ∧ Wp (el e' h) (fun y h => I (i + 1) (acc ++ [y]) h) nX) ∧ (c = false → I (i + 1) acc h)) nX) ∧
    (∀ acc hs, I n acc hs → nx hs n = some none ∧ Q acc hs)) X) : Wp (lComp f g t el vs e hs) Q X := by
  with_unfolding_all
  refine wp_bind (wp_mono h (fun nx h' q => ?_) fun _ _ _ x => x)
  obtain ⟨n, I, hn, h0, hs, hd⟩ := q
  exact wp_compF I hs hd fuel 0 [] h' (by unfold fuel; omega) (Nat.zero_le _) h0
/-- a comprehension that maps, the heap as it is -/
theorem wp_cmap {f : FI} {g : FG} {el : FE} {vs : List Nat} {Q : List D → Hs → Prop} (F : D → D) (h : Wp (f e hs) (fun nx h => ∃ ds, nx = nxL ds ∧ ds.length ≤ 100000 ∧ (∀ d ∈ ds, ∃ e', g d (wipeE e vs) = some e' ∧ Wp (el e' h) (fun y h' => y = F d ∧ h' = h) nX) ∧ Q (ds.map F) h) X) : Wp (lComp f g tYesF el vs e hs) Q X := by
  with_unfolding_all
  refine wp_comp (wp_mono h (fun nx h' q => ?_) fun _ _ _ x => x)
  obtain ⟨ds, rfl, hl, hd, q⟩ := q
  refine ⟨ds.length, fun i acc h => h = h' ∧ acc = (ds.take i).map F, hl, ⟨rfl, rfl⟩, fun i acc h hi ⟨e1, e2⟩ => ?_, fun acc h ⟨e1, e2⟩ => ?_⟩
  · subst e1 e2
    obtain ⟨e', h1, h2⟩ := hd ds[i] (List.getElem_mem hi)
    refine ⟨ds[i], e', by unfold nxL; rw [List.getElem?_eq_getElem hi], h1, wp_yes ⟨fun _ => ⟨?_, wp_mono h2 (fun y h3 ⟨e1, e2⟩ => ⟨e2, ?_⟩) fun _ _ _ x => x⟩, fun z => by cases z⟩⟩
    · rw [List.length_map, List.length_take]
      have : sizeLine = 16777216 := sizeLine_eq
      omega
    · rw [e1, List.take_add_one, List.getElem?_eq_getElem hi, List.map_append]
      rfl
  · subst e1 e2
    exact ⟨by unfold nxL; rw [List.getElem?_eq_none (Nat.le_refl _)], by rw [List.take_length]; exact q⟩
/-- what is walked -/
theorem wp_r1 {f : FA} {Q : Nx → Hs → Prop} (h : Wp (f e hs) (fun ds h => ∃ j, ds = [.int j] ∧ okR j = true ∧ Q (nxN 0 j.toNat) h) X) : Wp (iR1 f e hs) Q X := by
  with_unfolding_all
  refine wp_bind (wp_mono h (fun d h' q => ?_) fun _ _ _ x => x)
  obtain ⟨j, rfl, h1, h2⟩ := q
  dsimp only
  rw [if_pos h1]; exact h2
theorem wp_r2 {f : FA} {Q : Nx → Hs → Prop} (h : Wp (f e hs) (fun ds h => ∃ i j, ds = [.int i, .int j] ∧ okR i = true ∧ okR j = true ∧ Q (nxN i (j - i).toNat) h) X) : Wp (iR2 f e hs) Q X := by
  with_unfolding_all
  refine wp_bind (wp_mono h (fun d h' q => ?_) fun _ _ _ x => x)
  obtain ⟨i, j, rfl, h1, h2, h3⟩ := q
  dsimp only
  rw [if_pos (by rw [h1, h2]; rfl)]; exact h3
def itOf (h : Hs) (d : D) : Option Nx := match d with
  | .tup ds => some (nxL ds)
  | .ctp ds => some (nxL ds)
  | .lst ds => some (nxL ds)
  | .scr ds => some (nxL ds)
  | .ref n => (match h[n]? with | some (.lst _) => some (nxR n) | _ => none)
  | .str x => some (nxL (signs x))
  | _ => none
theorem wp_any {f : FE} {Q : Nx → Hs → Prop} (h : Wp (f e hs) (fun d h => ∃ nx, itOf h d = some nx ∧ Q nx h) X) : Wp (iAny f e hs) Q X := by
  with_unfolding_all
  unfold iAny
  cases q : f e hs with
  | bad => rw [q] at h; exact h
  | exc c fs h' => rw [q] at h; exact h
  | ok d h' =>
    rw [q] at h; unfold Wp at h
    obtain ⟨nx, h1, h2⟩ := h
    unfold itOf at h1
    cases d with
    | ref n =>
      dsimp only at h1 ⊢
      split at h1
      · rename_i ds hd; cases h1; first | exact h2 | (rw [hd]; exact h2)
      · cases h1
    | _ => first | (cases h1; exact h2) | cases h1
end

/-! ### what is new forgotten -/
theorem wp_gcR {hs : Hs} {r : R D} {Q : D → Hs → Prop} {X : XQ} (h : Wp r (fun d h1 => ∃ d', dW (dH h1 hs.length 50) d = some d' ∧ Cls hs h1 ∧ Q d' (h1.take hs.length))
    (fun c fs h1 => ∃ ds, dWs (dH h1 hs.length 50) (fs.map (·.2)) = some ds ∧ Cls hs h1 ∧ X c ((fs.map (·.1)).zip ds) (h1.take hs.length))) : Wp (gcR hs r) Q X := by
  with_unfolding_all
  unfold Wp at h
  cases r with
  | bad => exact h.elim
  | ok d h1 =>
    obtain ⟨d', e1, e2, q⟩ := h
    unfold gcR
    dsimp only
    rw [e1]
    dsimp only
    rw [if_pos e2]
    exact q
  | exc c fs h1 =>
    obtain ⟨d', e1, e2, q⟩ := h
    unfold gcR
    dsimp only
    rw [e1]
    dsimp only
    rw [if_pos e2]
    exact q
theorem wp_gcF {fn : List D → Hs → R D} {ds : List D} {hs : Hs} {Q : D → Hs → Prop} {X : XQ} (h : Wp (fn ds hs) (fun d h1 => ∃ d', dW (dH h1 hs.length 50) d = some d' ∧ Cls hs h1 ∧ Q d' (h1.take hs.length))
    (fun c fs h1 => ∃ ds, dWs (dH h1 hs.length 50) (fs.map (·.2)) = some ds ∧ Cls hs h1 ∧ X c ((fs.map (·.1)).zip ds) (h1.take hs.length))) : Wp (gcF fn ds hs) Q X := wp_gcR h
mutual
/-- no numbers in it -/
def val : D → Bool
  | .ref _ => false
  | .tup ds => vals ds
  | .lst ds => vals ds
  | .scr ds => vals ds
  | .ctp ds => vals ds
  | .dct _ ds => vals ds
  | .dtp _ ds => vals ds
  | .dlk _ ds => vals ds
  | .dlt _ ds => vals ds
  | .ins _ _ ds => vals ds
  | .exn _ _ ds => vals ds
  | _ => true
def vals : List D → Bool
  | [] => true
  | d :: ds => val d && vals ds
end
mutual
theorem dW_val {r : Nat → Option D} : ∀ {d : D}, val d = true → dW r d = some d
  | .non, _ => rfl
  | .bl _, _ => rfl
  | .int _, _ => rfl
  | .str _, _ => rfl
  | .ty _, _ => rfl
  | .glb _, _ => rfl
  | .ref _, h => nomatch h
  | .tup ds, h => by show (dWs r ds).map D.tup = _; rw [dWs_val (ds := ds) h]; rfl
  | .lst ds, h => by show (dWs r ds).map D.lst = _; rw [dWs_val (ds := ds) h]; rfl
  | .scr ds, h => by show (dWs r ds).map D.scr = _; rw [dWs_val (ds := ds) h]; rfl
  | .ctp ds, h => by show (dWs r ds).map D.ctp = _; rw [dWs_val (ds := ds) h]; rfl
  | .dct ks ds, h => by show (dWs r ds).map (D.dct ks) = _; rw [dWs_val (ds := ds) h]; rfl
  | .dtp ks ds, h => by show (dWs r ds).map (D.dtp ks) = _; rw [dWs_val (ds := ds) h]; rfl
  | .dlk ks ds, h => by show (dWs r ds).map (D.dlk ks) = _; rw [dWs_val (ds := ds) h]; rfl
  | .dlt ks ds, h => by show (dWs r ds).map (D.dlt ks) = _; rw [dWs_val (ds := ds) h]; rfl
  | .ins c ks ds, h => by show (dWs r ds).map (D.ins c ks) = _; rw [dWs_val (ds := ds) h]; rfl
  | .exn c ks ds, h => by show (dWs r ds).map (D.exn c ks) = _; rw [dWs_val (ds := ds) h]; rfl
theorem dWs_val {r : Nat → Option D} : ∀ {ds : List D}, vals ds = true → dWs r ds = some ds
  | [], _ => rfl
  | d :: ds, h => by
    have h := (Bool.and_eq_true _ _).mp (show (val d && vals ds) = true from h)
    show (match dW r d with | some p => (match dWs r ds with | some ps => some (p :: ps) | none => none) | none => none) = _
    rw [dW_val h.1, dWs_val h.2]
end
theorem vals_all : ∀ {ds : List D}, (∀ x ∈ ds, val x = true) → vals ds = true
  | [], _ => rfl
  | d :: ds, h => (Bool.and_eq_true _ _).mpr ⟨h d List.mem_cons_self, vals_all fun x hx => h x (List.mem_cons_of_mem _ hx)⟩
theorem dH_ins {hs : Hs} {n m k : Nat} {c : Str} {kvs : List (Str × D)} (h : hs[m]? = some (.ins c kvs)) (l : n ≤ m) (v : vals (kvs.map (·.2)) = true) : dH hs n (k + 1) m = some (.ins c (kvs.map (·.1)) (kvs.map (·.2))) := by
  unfold dH
  rw [if_neg (by omega), h]
  show (dWs _ (kvs.map (·.2))).map (D.ins c _) = _
  rw [dWs_val v]; rfl
end G

/-! # G12: the deck that all laws draw from -/
namespace G
open PySem PySem.Spec PyProof.Rows L2

theorem ix_ref {h : Hs} {n : Nat} {ds : List D} {i : Int} {d : D} (e : h[n]? = some (.lst ds)) (q : atI ds i = some d) : gIx h (.ref n) (.int i) = some d := by
  unfold gIx
  show (match seqOf h (.ref n) with | some ds => atI ds i | none => none) = some d
  have : seqOf h (.ref n) = some ds := by unfold seqOf rdOf lstOf; dsimp only; rw [e]
  rw [this]; exact q
theorem ix_lst {h : Hs} {ds : List D} {i : Int} {d : D} (q : atI ds i = some d) : gIx h (.lst ds) (.int i) = some d := q
theorem ix_tup {h : Hs} {ds : List D} {i : Int} {d : D} (q : atI ds i = some d) : gIx h (.tup ds) (.int i) = some d := q
theorem set_ref {h : Hs} {n : Nat} {ds : List D} {i : Int} {j : Nat} {v : D} (e : h[n]? = some (.lst ds)) (q : ixN ds.length i = some j) : mSetL h (.ref n) (.int i) v = some (h.set n (.lst (ds.set j v))) := by
  unfold mSetL refOf
  dsimp only
  rw [e]
  dsimp only
  rw [q]
theorem pop_ref {h : Hs} {n : Nat} {ds : List D} {d : D} (e : h[n]? = some (.lst ds)) (q : ds[ds.length - 1]? = some d) : mPop h (.ref n) [] = some (d, h.set n (.lst ds.dropLast)) := by
  unfold mPop refOf
  dsimp only
  rw [e]
  dsimp only
  rw [q]
theorem app_ref {h : Hs} {n : Nat} {ds : List D} {d : D} (e : h[n]? = some (.lst ds)) (q : ds.length < sizeLine) : mAppend h (.ref n) [d] = some (.non, h.set n (.lst (ds ++ [d]))) := by
  unfold mAppend refOf
  dsimp only
  rw [e]
  dsimp only
  rw [if_pos q]
theorem isL_ref {h : Hs} {n : Nat} {ds : List D} (e : h[n]? = some (.lst ds)) : isL h (.ref n) = true := by
  unfold isL lstOf
  dsimp only
  rw [e]; rfl
theorem mod_int {h : Hs} {i j : Int} (q : 0 < j) : gMod h (.int i) (.int j) = some (.int (i % j)) := by unfold gMod; exact if_pos q
theorem div_int {h : Hs} {i j : Int} (q : 0 < j) (q2 : j < 1073741824) : gDiv h (.int i) (.int j) = some (.int (i / j)) := by unfold gDiv; exact if_pos ⟨q, q2⟩
theorem mul_int {h : Hs} {i j : Int} (q : (small64 i || small64 j) = true) : gMul h (.int i) (.int j) = some (.int (i * j)) := by unfold gMul; exact if_pos q
theorem small_of {i : Int} (a : 0 ≤ i) (b : i < 4294967296) : small64 i = true := by
  unfold small64
  rw [decide_eq_true (by omega), decide_eq_true (by omega)]; rfl
theorem pow18 {h : Hs} : gPow h (.int 10) (.int 18) = some (.int 1000000000000000000) := rfl
theorem pow6 {h : Hs} : gPow h (.int 10) (.int 6) = some (.int 1000000) := rfl

local macro_rules | `(tactic| walk_at "s1") => `(tactic| first
  | ((with_reducible apply wp_name); (case q => rfl))
  | with_reducible refine wp_c ?_
  | with_reducible refine wp_bin ?_
  | with_reducible refine wp_acons ?_
  | with_reducible refine wp_anil ?_
  | with_reducible refine wp_call ?_
  | with_reducible refine wp_fn ?_
  | with_reducible refine wp_fnK ?_
  | with_reducible refine wp_ev ?_
  | with_reducible refine wp_em ?_
  | with_reducible refine wp_tup ?_
  | with_reducible refine wp_eb ?_
  | with_reducible refine wp_et ?_
  | with_reducible refine wp_un ?_
  | with_reducible refine wp_chain ?_
  | with_reducible refine wp_and ?_
  | with_reducible refine wp_or ?_
  | with_reducible refine wp_not ?_
  | with_reducible refine wp_andF ?_
  | with_reducible refine wp_orF ?_
  | with_reducible refine wp_notF ?_
  | with_reducible refine wp_yes ?_
  | with_reducible refine wp_if ?_
  | with_reducible refine wp_sl ?_
  | with_reducible refine wp_onone ?_
  | with_reducible refine wp_osome ?_
  | with_reducible refine wp_rev ?_
  | with_reducible refine wp_list ?_
  | with_reducible refine wp_mt ?_
  | with_reducible refine wp_any ?_
  | with_reducible refine wp_r1 ?_
  | with_reducible refine wp_r2 ?_
  | with_reducible refine ws_seq ?_
  | with_reducible refine ws_set ?_
  | with_reducible refine ws_setC ?_
  | with_reducible refine ws_setCM ?_
  | with_reducible refine ws_if ?_
  | with_reducible refine ws_ret ?_
  | with_reducible refine ws_retN ?_
  | with_reducible refine ws_drop ?_
  | with_reducible refine ws_skip ?_
  | with_reducible refine ws_asg ?_
  | with_reducible refine ws_par ?_
  | with_reducible refine ws_sub ?_
  | with_reducible refine wp_body ?_)
local macro_rules | `(tactic| walk_at "s") => `(tactic| repeat (walk_at "s1"))

/-- the deck at a, its cells at b -/
structure Deck (a b : Nat) (hs : Hs) : Prop where
  ne : a ≠ b
  at_ : ∃ s c : Int, hs[a]? = some (.lst [.ref b, .int s, .int c])
  cells : ∃ ns : List Int, ns.length ≤ 100 ∧ hs[b]? = some (.lst (ns.map .int))
def Two (a b : Nat) : Nat → Prop := fun n => n = a ∨ n = b
theorem Deck.frm {a b : Nat} {hs hs' : Hs} {S : Nat → Prop} (h : Deck a b hs) (f : Frm S hs hs') (ha : ¬ S a) (hb : ¬ S b) : Deck a b hs' := by
  obtain ⟨ne, ⟨s, c, h1⟩, ⟨ns, hl, h2⟩⟩ := h
  exact ⟨ne, ⟨s, c, f.get h1 ha⟩, ⟨ns, hl, f.get h2 hb⟩⟩
theorem Deck.app {a b : Nat} {hs : Hs} {o : O} (h : Deck a b hs) : Deck a b (hs ++ [o]) := by
  obtain ⟨ne, ⟨s, c, h1⟩, ⟨ns, hl, h2⟩⟩ := h
  exact ⟨ne, ⟨s, c, get_app h1⟩, ⟨ns, hl, get_app h2⟩⟩
theorem Deck.lt {a b : Nat} {hs : Hs} (h : Deck a b hs) : a < hs.length ∧ b < hs.length := by
  obtain ⟨ne, ⟨s, c, h1⟩, ⟨ns, hl, h2⟩⟩ := h
  exact ⟨lt_of_get h1, lt_of_get h2⟩
theorem pdWs_ints {r : Nat → Option PyData} : ∀ ns : List Int, pdWs r (ns.map D.int) = some (ns.map PyData.int)
  | [] => rfl
  | n :: ns => by
    show (match pdW r (.int n) with | some p => (match pdWs r (ns.map D.int) with | some ps => some (p :: ps) | none => none) | none => none) = _
    rw [pdWs_ints ns]; rfl
theorem shaped_ints (ns : List Int) : SeqAt.shaped (.list (ns.map PyData.int)) = true := by
  unfold SeqAt.shaped
  have h1 : ∀ ns : List Int, PyData.canLayAll0 (ns.map PyData.int) = true := fun ns => by
    induction ns with
    | nil => rfl
    | cons n ns ih => show (PyData.canLay0 (.int n) && PyData.canLayAll0 (ns.map PyData.int)) = true; rw [ih]; rfl
  have h2 : ∀ ns : List Int, PyData.depthAll (ns.map PyData.int) = 0 := fun ns => by
    induction ns with
    | nil => rfl
    | cons n ns ih => show max (PyData.depth (.int n)) (PyData.depthAll (ns.map PyData.int)) = 0; rw [ih]; rfl
  show (PyData.canLayAll0 (ns.map PyData.int) && decide (PyData.depthAll (ns.map PyData.int) + 1 ≤ 64)) = true
  rw [h1, h2]; rfl
theorem gEqB_cells {hs : Hs} {b : Nat} {ns : List Int} (h : hs[b]? = some (.lst (ns.map .int))) : gEqB hs (.ref b) (.lst []) = some ns.isEmpty := by
  have e : pd hs (.ref b) = some (.list (ns.map PyData.int)) := by
    show pdH hs 40 b = _
    unfold pdH
    rw [h]
    dsimp only
    rw [pdWs_ints]; rfl
  show gEqD hs (.ref b) (.lst []) = _
  unfold gEqD
  rw [e]
  show (if (SeqAt.shaped (.list (ns.map PyData.int)) && SeqAt.shaped (.list [])) = true then _ else none) = _
  rw [shaped_ints ns]
  cases ns <;> rfl
theorem ne_cells {hs : Hs} {b : Nat} {ns : List Int} (h : hs[b]? = some (.lst (ns.map .int))) : gNe hs (.ref b) (.lst []) = some (.bl (!ns.isEmpty)) := by unfold gNe; rw [gEqB_cells h]; rfl

/-- the drawing's function, as it stands in every law -/
def f_draw : FS := (sSeq (sSub mSetL (eBin gAdd (eBin gIx (eName 0) (eC (.int 2))) (eC (.int 1))) (eName 0) (eC (.int 2)))
  (sSeq (sSet 2 (eBin gIx (eName 0) (eC (.int 1))))
  (sSeq (sIf (eB (eBin gNe (eBin gIx (eName 0) (eC (.int 0))) (eV aNil))) (sSeq (sSet 2 (eMt isL mPop (eBin gIx (eName 0) (eC (.int 0))) aNil))
  (sIf (eB (eBin gGe (eName 2) (eBin gPow (eC (.int 10)) (eC (.int 18))))) (sSeq (sDrop (eMt isL mAppend (eBin gIx (eName 0) (eC (.int 0))) (aCons (eBin gDiv (eName 2) (eName 1)) aNil)))
  (sRet (eBin gMod (eName 2) (eName 1)))) sSkip)) sSkip)
  (sSeq (sSet 3 (eBin gMod (eBin gMul (eBin gAdd (eBin gAdd (eBin gMod (eName 2) (eC (.int 2147483629))) (eBin gMul (eC (.int 65537)) (eBin gIx (eName 0) (eC (.int 2))))) (eC (.int 3))) (eC (.int 48271))) (eC (.int 2147483647))))
  (sSeq (sSet 3 (eBin gMod (eBin gAdd (eBin gAdd (eBin gMul (eName 3) (eName 3)) (eBin gMul (eC (.int 69621)) (eBin gIx (eName 0) (eC (.int 2))))) (eC (.int 17))) (eC (.int 2147483587))))
  (sRet (eBin gMod (eBin gDiv (eBin gMod (eBin gAdd (eBin gMul (eName 3) (eName 3)) (eC (.int 39373))) (eC (.int 2147483563))) (eC (.int 64))) (eName 1))))))))
def c_draw : List D → Hs → R D := fnBody 4 f_draw
def Drawn (a b : Nat) (m : Int) (hs : Hs) (d : D) (hs' : Hs) : Prop := ∃ r : Int, d = .int r ∧ 0 ≤ r ∧ r < m ∧ Deck a b hs' ∧ Frm (Two a b) hs hs' ∧ hs'.length = hs.length
theorem draw_tail {a b : Nat} {hs h : Hs} {m s c cell : Int} {ns : List Int} (ne : a ≠ b) (ha : h[a]? = some (.lst [.ref b, .int s, .int c])) (hl : ns.length ≤ 100) (hb : h[b]? = some (.lst (ns.map .int))) (h0 : 0 < m) (fr : Frm (Two a b) hs h) (ln : h.length = hs.length) :
    Ws ((sSeq (sSet 3 (eBin gMod (eBin gMul (eBin gAdd (eBin gAdd (eBin gMod (eName 2) (eC (.int 2147483629))) (eBin gMul (eC (.int 65537)) (eBin gIx (eName 0) (eC (.int 2))))) (eC (.int 3))) (eC (.int 48271))) (eC (.int 2147483647))))
  (sSeq (sSet 3 (eBin gMod (eBin gAdd (eBin gAdd (eBin gMul (eName 3) (eName 3)) (eBin gMul (eC (.int 69621)) (eBin gIx (eName 0) (eC (.int 2))))) (eC (.int 17))) (eC (.int 2147483587))))
  (sRet (eBin gMod (eBin gDiv (eBin gMod (eBin gAdd (eBin gMul (eName 3) (eName 3)) (eC (.int 39373))) (eC (.int 2147483563))) (eC (.int 64))) (eName 1))))) [some (.ref a), some (.int m), some (.int cell), none] h)
      { nx := fun _ h => Drawn a b m hs .non h, rt := Drawn a b m hs } := by
  have gx : gIx h (.ref a) (.int 2) = some (.int c) := ix_ref ha rfl
  have b1 : ∀ x : Int, 0 ≤ x % 2147483647 ∧ x % 2147483647 < 2147483647 := fun x => ⟨Int.emod_nonneg _ (by decide), Int.emod_lt_of_pos _ (by decide)⟩
  have b2 : ∀ x : Int, 0 ≤ x % 2147483587 ∧ x % 2147483587 < 2147483587 := fun x => ⟨Int.emod_nonneg _ (by decide), Int.emod_lt_of_pos _ (by decide)⟩
  have q1 : small64 65537 = true := by decide
  have q2 : small64 69621 = true := by decide
  have q3 : small64 48271 = true := by decide
  walk_at "s"
  refine wp_some (mod_int (by decide)) ?_
  walk_at "s"
  refine wp_some gx ?_
  refine wp_some (mul_int (by rw [q1]; rfl)) ?_
  refine wp_some rfl ?_
  walk_at "s"
  refine wp_some rfl ?_
  walk_at "s"
  refine wp_some (mul_int (by rw [q3, Bool.or_true])) ?_
  walk_at "s"
  refine wp_some (mod_int (by decide)) ?_
  generalize hx : (cell % 2147483629 + 65537 * c + 3) * 48271 % 2147483647 = x
  have hx' := b1 ((cell % 2147483629 + 65537 * c + 3) * 48271)
  rw [hx] at hx'
  have sx : small64 x = true := small_of hx'.1 (by omega)
  show Ws (sSeq _ _ [some (.ref a), some (.int m), some (.int cell), some (.int x)] h) _
  walk_at "s"
  refine wp_some (mul_int (by rw [sx]; rfl)) ?_
  walk_at "s"
  refine wp_some gx ?_
  refine wp_some (mul_int (by rw [q2]; rfl)) ?_
  refine wp_some rfl ?_
  walk_at "s"
  refine wp_some rfl ?_
  walk_at "s"
  refine wp_some (mod_int (by decide)) ?_
  generalize hy : (x * x + 69621 * c + 17) % 2147483587 = y
  have hy' := b2 (x * x + 69621 * c + 17)
  rw [hy] at hy'
  have sy : small64 y = true := small_of hy'.1 (by omega)
  show Ws (sRet _ [some (.ref a), some (.int m), some (.int cell), some (.int y)] h) _
  walk_at "s"
  refine wp_some (mul_int (by rw [sy]; rfl)) ?_
  walk_at "s"
  refine wp_some rfl ?_
  walk_at "s"
  refine wp_some (mod_int (by decide)) ?_
  walk_at "s"
  refine wp_some (div_int (by decide) (by decide)) ?_
  walk_at "s"
  refine wp_some (mod_int h0) ?_
  exact ⟨_, rfl, Int.emod_nonneg _ (by omega), Int.emod_lt_of_pos _ h0, ⟨ne, ⟨s, c, ha⟩, ⟨ns, hl, hb⟩⟩, fr, ln⟩
theorem draw_wp {a b : Nat} {hs : Hs} {m : Int} (h : Deck a b hs) (h0 : 0 < m) (h1 : m < 1073741824) : Wp (c_draw [.ref a, .int m] hs) (Drawn a b m hs) nX := by
  obtain ⟨ne, ⟨s, c, ha⟩, ⟨ns, hl, hb⟩⟩ := h
  unfold c_draw f_draw
  refine wp_bodyE [some (.ref a), some (.int m), none, none] rfl ?_
  walk_at "s"
  refine wp_some (ix_ref ha rfl) ?_
  walk_at "s"
  refine wp_some rfl ?_
  walk_at "s"
  refine ⟨_, set_ref ha rfl, ?_⟩
  have ha1 : (hs.set a (.lst [.ref b, .int s, .int (c + 1)]))[a]? = some (.lst [.ref b, .int s, .int (c + 1)]) := get_set_eq ha
  have hb1 : (hs.set a (.lst [.ref b, .int s, .int (c + 1)]))[b]? = some (.lst (ns.map .int)) := by rw [get_set_ne ne]; exact hb
  have f1 : Frm (Two a b) hs (hs.set a (.lst [.ref b, .int s, .int (c + 1)])) := .set (.inl rfl)
  have l1 : (hs.set a (.lst [.ref b, .int s, .int (c + 1)])).length = hs.length := List.length_set
  show Ws (sSeq _ _ _ (hs.set a (.lst [.ref b, .int s, .int (c + 1)]))) _
  generalize hs.set a (.lst [.ref b, .int s, .int (c + 1)]) = g at ha1 hb1 f1 l1 ⊢
  walk_at "s"
  refine wp_some (ix_ref ha1 rfl) ?_
  walk_at "s"
  refine wp_some (ix_ref ha1 rfl) ?_
  walk_at "s"
  refine wp_some (ne_cells hb1) ⟨_, rfl, fun hne => ?_, fun _ => ?_⟩
  · -- a cell is popped
    have hn : ns ≠ [] := by rintro rfl; cases hne
    obtain ⟨ini, z, rfl⟩ : ∃ ini z, ns = ini ++ [z] := ⟨ns.dropLast, ns.getLast hn, (List.dropLast_concat_getLast hn).symm⟩
    have hl' : ini.length ≤ 99 := by rw [List.length_append] at hl; simp at hl; omega
    walk_at "s"
    refine wp_some (ix_ref ha1 rfl) ⟨isL_ref hb1, wp_anil ?_⟩
    have hp : (List.map D.int (ini ++ [z]))[(List.map D.int (ini ++ [z])).length - 1]? = some (.int z) := by simp
    refine wp_someP (pop_ref hb1 hp) ?_
    have hd : (List.map D.int (ini ++ [z])).dropLast = ini.map D.int := by simp
    rw [hd]
    have ha2 : (g.set b (.lst (ini.map D.int)))[a]? = some (.lst [.ref b, .int s, .int (c + 1)]) := by rw [get_set_ne ne.symm]; exact ha1
    have hb2 : (g.set b (.lst (ini.map D.int)))[b]? = some (.lst (ini.map D.int)) := get_set_eq hb1
    have f2 : Frm (Two a b) hs (g.set b (.lst (ini.map D.int))) := f1.trans (.set (.inr rfl))
    have l2 : (g.set b (.lst (ini.map D.int))).length = hs.length := by rw [List.length_set]; exact l1
    show Ws (sIf _ _ _ _ (g.set b (.lst (ini.map D.int)))) _
    generalize g.set b (.lst (ini.map D.int)) = k at ha2 hb2 f2 l2 ⊢
    walk_at "s"
    refine wp_some pow18 ?_
    refine wp_some rfl ⟨_, rfl, fun _ => ?_, fun _ => ?_⟩
    · walk_at "s"
      refine wp_some (ix_ref ha2 rfl) ⟨isL_ref hb2, ?_⟩
      walk_at "s"
      refine wp_some (div_int h0 h1) (wp_anil ?_)
      refine wp_someP (app_ref hb2 (by rw [List.length_map]; exact small1000 (by omega))) ?_
      have ha3 : (k.set b (.lst ((ini ++ [z / m]).map D.int)))[a]? = some (.lst [.ref b, .int s, .int (c + 1)]) := by rw [get_set_ne ne.symm]; exact ha2
      have hb3 : (k.set b (.lst ((ini ++ [z / m]).map D.int)))[b]? = some (.lst ((ini ++ [z / m]).map D.int)) := get_set_eq hb2
      have e3 : ini.map D.int ++ [D.int (z / m)] = (ini ++ [z / m]).map D.int := by simp
      rw [e3]
      walk_at "s"
      refine wp_some (mod_int h0) ?_
      exact ⟨_, rfl, Int.emod_nonneg _ (by omega), Int.emod_lt_of_pos _ h0, ⟨ne, ⟨s, c + 1, ha3⟩, ⟨ini ++ [z / m], by rw [List.length_append]; simp; omega, hb3⟩⟩, f2.trans (.set (.inr rfl)), by rw [List.length_set]; exact l2⟩
    · (repeat with_reducible refine ws_skip ?_)
      exact draw_tail ne ha2 (by omega) hb2 h0 f2 l2
  · (repeat with_reducible refine ws_skip ?_)
    exact draw_tail ne ha1 hl hb1 h0 f1 l1
end G

/-! # G13: the deck made, a thing picked, names drawn; texts by their signs -/
namespace G
open PySem PySem.Spec PyProof.Rows L2
noncomputable section

/-! ### texts by their signs -/
def T (cs : List Nat) : Str := ⟨cs.toArray⟩
theorem T_add (a b : List Nat) : T a ++ T b = T (a ++ b) := by
  show (⟨a.toArray ++ b.toArray⟩ : Str) = ⟨(a ++ b).toArray⟩
  rw [List.append_toArray]
theorem T_len (a : List Nat) : (T a).length = a.length := by show a.toArray.size = _; rw [List.size_toArray]
theorem T_cps (a : List Nat) : (T a).cps.toList = a := rfl
theorem T_of (z : Str) : z = T z.cps.toList := by cases z with | mk c => show (⟨c⟩ : Str) = ⟨c.toList.toArray⟩; rw [Array.toArray_toList]
theorem T_cut (a : List Nat) (lo hi : Option Int) : cutS (T a) lo hi = T (cutX a lo hi) := by
  unfold cutS cutX
  rw [T_len]
  rfl
theorem T_inj {a b : List Nat} (h : T a = T b) : a = b := by
  have := congrArg (fun z : Str => z.cps.toList) h
  exact this
theorem le_line {n : Nat} (h : n ≤ 100000) : n ≤ sizeLine := by have := sizeLine_eq; omega
theorem ix_T {h : Hs} {a : List Nat} {i : Int} {c : Nat} (q : a.length ≤ 100000) (e : atI a i = some c) : gIx h (.str (T a)) (.int i) = some (.str (T [c])) := by
  unfold gIx
  dsimp only
  rw [T_len, if_pos (le_line q), T_cps, e]
  rfl
theorem ix_seq {h : Hs} {d x : D} {ds : List D} {i : Int} (e : seqOf h d = some ds) (q : atI ds i = some x) : gIx h d (.int i) = some x := by
  unfold gIx
  cases d with
  | str z => cases e
  | _ => dsimp only; rw [e]; exact q
theorem len_seq {h : Hs} {d : D} {ds : List D} (e : seqOf h d = some ds) : gLen h [d] = some (.int ds.length) := by
  unfold gLen
  cases d with
  | str z => cases e
  | _ => dsimp only; rw [e]
theorem atI_nat {t : Type} {ds : List t} {i : Int} {x : t} (h0 : 0 ≤ i) (h : ds[i.toNat]? = some x) : atI ds i = some x := by
  have hl : i.toNat < ds.length := (List.getElem?_eq_some_iff.mp h).1
  unfold atI ixN
  rw [if_pos h0, if_pos (by omega)]
  exact h
theorem atI_mem {t : Type} {ds : List t} {i : Int} (h0 : 0 ≤ i) (h1 : i < ds.length) : ∃ x, atI ds i = some x ∧ x ∈ ds ∧ ds[i.toNat]? = some x := by
  have hl : i.toNat < ds.length := by omega
  exact ⟨ds[i.toNat], atI_nat h0 (List.getElem?_eq_getElem hl), List.getElem_mem hl, List.getElem?_eq_getElem hl⟩
theorem seq_lst {h : Hs} {ds : List D} : seqOf h (.lst ds) = some ds := rfl
theorem seq_tup {h : Hs} {ds : List D} : seqOf h (.tup ds) = some ds := rfl
theorem seq_ref {h : Hs} {n : Nat} {ds : List D} (e : h[n]? = some (.lst ds)) : seqOf h (.ref n) = some ds := by unfold seqOf rdOf lstOf; dsimp only; rw [e]
theorem rd_ref {h : Hs} {n : Nat} {ds : List D} (e : h[n]? = some (.lst ds)) : rdOf h (.ref n) = some ds := by unfold rdOf lstOf; dsimp only; rw [e]
theorem sIx_none (n d : Nat) : HT.sIx n d none = d := rfl
theorem sIx_pos {n d : Nat} {v : Int} (h : 0 ≤ v) : HT.sIx n d (some v) = min v.toNat n := by
  show (if v < 0 then (v + (n : Int)).toNat else min v.toNat n) = _
  rw [if_neg (by omega)]
theorem cutX_to {t : Type} (xs : List t) {v : Int} (h : 0 ≤ v) : cutX xs none (some v) = xs.take v.toNat := by
  unfold cutX
  rw [sIx_none, sIx_pos h, List.drop_zero, Nat.sub_zero]
  by_cases q : v.toNat ≤ xs.length
  · rw [Nat.min_eq_left q]
  · rw [Nat.min_eq_right (by omega), List.take_length, List.take_of_length_le (by omega)]
theorem cutX_from {t : Type} (xs : List t) {v : Int} (h : 0 ≤ v) : cutX xs (some v) none = xs.drop v.toNat := by
  unfold cutX
  rw [sIx_none, sIx_pos h]
  by_cases q : v.toNat ≤ xs.length
  · rw [Nat.min_eq_left q, List.take_of_length_le (by rw [List.length_drop]; omega)]
  · rw [Nat.min_eq_right (by omega), List.drop_length, List.drop_of_length_le (by omega)]; simp
theorem cutX_all {t : Type} (xs : List t) {v : Int} (h : (xs.length : Int) ≤ v) : cutX xs none (some v) = xs := by
  rw [cutX_to xs (by omega), List.take_of_length_le (by omega)]
theorem nxN_some {h : Hs} {lo : Int} {n i : Nat} (q : i < n) : nxN lo n h i = some (some (.int (lo + i))) := by unfold nxN; rw [if_pos q]
theorem nxN_stop {h : Hs} {lo : Int} {n : Nat} : nxN lo n h n = some none := by unfold nxN; rw [if_neg (Nat.lt_irrefl n)]
theorem nxL_some {h : Hs} {ds : List D} {i : Nat} (q : i < ds.length) : nxL ds h i = some (some ds[i]) := by unfold nxL; rw [List.getElem?_eq_getElem q]
theorem nxL_stop {h : Hs} {ds : List D} : nxL ds h ds.length = some none := by unfold nxL; rw [List.getElem?_eq_none (Nat.le_refl _)]
theorem mem_cutX {t : Type} {xs : List t} {lo hi : Option Int} {x : t} (h : x ∈ cutX xs lo hi) : x ∈ xs := List.mem_of_mem_drop (List.mem_of_mem_take h)

/-! ### the deck -/
def f_deck : FS := (sRet (eM (aCons (eM (lRev (eM (lList (eSl (eName 0) oNone (oSome (eC (.int 63)))))))) (aCons (eBin gAdd (eCall gSum (aCons (eV (lComp (iAny (eSl (eName 0) oNone (oSome (eC (.int 63))))) (nSet 1) tYesF (eBin gMod (eName 1) (eC (.int 1000003))) [1])) aNil)) (eBin gMul (eC (.int 7919)) (eCall gLen (aCons (eSl (eName 0) oNone (oSome (eC (.int 63)))) aNil)))) (aCons (eC (.int 0)) aNil)))))
def c_deck : List D → Hs → R D := fnBody 2 f_deck
local macro_rules | `(tactic| walk_at "s1") => `(tactic| first
  | ((with_reducible apply wp_name); (case q => rfl))
  | with_reducible refine wp_c ?_
  | with_reducible refine wp_bin ?_
  | with_reducible refine wp_acons ?_
  | with_reducible refine wp_anil ?_
  | with_reducible refine wp_call ?_
  | with_reducible refine wp_fn ?_
  | with_reducible refine wp_fnK ?_
  | with_reducible refine wp_ev ?_
  | with_reducible refine wp_em ?_
  | with_reducible refine wp_tup ?_
  | with_reducible refine wp_eb ?_
  | with_reducible refine wp_et ?_
  | with_reducible refine wp_un ?_
  | with_reducible refine wp_chain ?_
  | with_reducible refine wp_and ?_
  | with_reducible refine wp_or ?_
  | with_reducible refine wp_not ?_
  | with_reducible refine wp_andF ?_
  | with_reducible refine wp_orF ?_
  | with_reducible refine wp_notF ?_
  | with_reducible refine wp_yes ?_
  | with_reducible refine wp_if ?_
  | with_reducible refine wp_sl ?_
  | with_reducible refine wp_onone ?_
  | with_reducible refine wp_osome ?_
  | with_reducible refine wp_rev ?_
  | with_reducible refine wp_list ?_
  | with_reducible refine wp_mt ?_
  | with_reducible refine wp_any ?_
  | with_reducible refine wp_r1 ?_
  | with_reducible refine wp_r2 ?_
  | with_reducible refine ws_seq ?_
  | with_reducible refine ws_set ?_
  | with_reducible refine ws_setC ?_
  | with_reducible refine ws_setCM ?_
  | with_reducible refine ws_if ?_
  | with_reducible refine ws_ret ?_
  | with_reducible refine ws_retN ?_
  | with_reducible refine ws_drop ?_
  | with_reducible refine ws_skip ?_
  | with_reducible refine ws_asg ?_
  | with_reducible refine ws_par ?_
  | with_reducible refine ws_sub ?_
  | with_reducible refine wp_body ?_)
local macro_rules | `(tactic| walk_at "s") => `(tactic| repeat (walk_at "s1"))

def modD (n : Int) (d : D) : D := match d with | .int i => .int (i % n) | d => d
theorem intsOf_mod (n : Int) (ns : List Int) : intsOf ((ns.map D.int).map (modD n)) = some (ns.map (· % n)) := by
  have : (ns.map D.int).map (modD n) = (ns.map (· % n)).map D.int := by rw [List.map_map, List.map_map]; rfl
  rw [this]; exact intsOf_map _
theorem deck_wp {ns : List Int} (hl : ns.length ≤ 63) {hs : Hs} : Wp (c_deck [.scr (ns.map .int)] hs) (fun d h => d = .ref (hs.length + 2) ∧ Deck (hs.length + 2) (hs.length + 1) h ∧ Frm (fun _ => False) hs h ∧ h.length = hs.length + 3) nX := by
  unfold c_deck f_deck
  refine wp_bodyE [some (.scr (ns.map .int)), none] rfl ?_
  have cut : ∀ h : Hs, gSl h (.scr (ns.map .int)) none (some 63) = some (.lst (ns.map .int)) := fun h => by
    show some (D.lst (cutX (ns.map D.int) none (some 63))) = _
    rw [cutX_all _ (by rw [List.length_map]; omega)]
  walk_at "s"
  refine ⟨_, rfl, ?_⟩
  refine wp_some (cut _) ?_
  refine wp_some seq_lst ?_
  refine wp_some (x := (ns.map D.int).reverse) (by rw [rd_ref get_new]; rfl) ?_
  walk_at "s"
  refine wp_cmap (modD 1000003) ?_
  walk_at "s"
  refine ⟨_, rfl, ?_⟩
  refine wp_some (cut _) ?_
  refine ⟨_, rfl, _, rfl, by rw [List.length_map]; omega, fun d hd => ?_, ?_⟩
  · obtain ⟨i, _, rfl⟩ := List.mem_map.mp hd
    refine ⟨_, rfl, ?_⟩
    show Wp (eBin gMod (eName 1) (eC (.int 1000003)) [some (.scr (ns.map .int)), some (.int i)] _) _ _
    walk_at "s"
    exact wp_some (mod_int (by decide)) ⟨rfl, rfl⟩
  walk_at "s"
  refine wp_some (x := .int (ns.map (· % 1000003)).sum) ?_ ?_
  · show (match intsOf ((ns.map D.int).map (modD 1000003)) with | some ns => some (D.int ns.sum) | none => none) = _
    rw [intsOf_mod]
  walk_at "s"
  refine ⟨_, rfl, ?_⟩
  refine wp_some (cut _) ?_
  walk_at "s"
  refine wp_some (len_seq seq_lst) ?_
  refine wp_some (mul_int rfl) ?_
  refine wp_some rfl ?_
  walk_at "s"
  rw [List.length_append, List.length_append]
  refine ⟨rfl, ⟨by simp, ⟨(ns.map (· % 1000003)).sum + 7919 * ((ns.map D.int).length : Nat), 0, ?_⟩, ⟨ns.reverse, by rw [List.length_reverse]; omega, ?_⟩⟩, (Frm.app.trans Frm.app).trans Frm.app, by simp⟩
  · have := get_new (hs := hs ++ [O.lst (ns.map D.int)] ++ [O.lst (ns.map D.int).reverse]) (o := .lst [.ref (hs.length + 1), .int ((ns.map (· % 1000003)).sum + 7919 * ((ns.map D.int).length : Nat)), .int 0])
    simpa using this
  · have := get_app (o := .lst [.ref (hs.length + 1), .int ((ns.map (· % 1000003)).sum + 7919 * ((ns.map D.int).length : Nat)), .int 0]) (get_new (hs := hs ++ [O.lst (ns.map D.int)]) (o := O.lst (ns.map D.int).reverse))
    simpa using this
/-! ### names -/
def Lw (cs : List Nat) : Prop := ∀ c ∈ cs, 97 ≤ c ∧ c < 123
def Nm (cs : List Nat) : Prop := 1 ≤ cs.length ∧ cs.length ≤ 8 ∧ Lw cs
def IsNm (d : D) : Prop := ∃ cs, d = .str (T cs) ∧ Nm cs
def abc : List Nat := (List.range 26).map (· + 97)
theorem abc_T : ("abcdefghijklmnopqrstuvwxyz" : Str) = T abc := by decide +kernel
theorem abc_at {i : Int} (h0 : 0 ≤ i) (h1 : i < 26) : atI abc i = some (i.toNat + 97) := by
  refine atI_nat h0 ?_
  unfold abc
  rw [List.getElem?_map, List.getElem?_range (by omega)]; rfl
theorem abc_ix : ∀ i < 26, (match Builtin.Str.occurrences (T abc) (T [i + 97]) 0 26 1 with | j :: _ => j == i | [] => false) = true := by decide +kernel
theorem abc_index {h : Hs} {c : Nat} (h0 : 97 ≤ c) (h1 : c < 123) : mSIndex h (.str (T abc)) [.str (T [c])] = some (.int ((c - 97 : Nat) : Int), h) := by
  have e := abc_ix (c - 97) (by omega)
  rw [show c - 97 + 97 = c by omega] at e
  have hl : (T abc).length = 26 := by decide
  unfold mSIndex
  dsimp only
  rw [hl]
  split at e
  · rename_i j js hj
    first | rw [beq_iff_eq.mp e] | rw [hj, beq_iff_eq.mp e]
  · cases e
theorem glue_T : ∀ cs : List Nat, Str.join "" (cs.map fun c => T [c]) = T cs
  | [] => rfl
  | [c] => rfl
  | c :: d :: cs => by
    show T [c] ++ ("" : Str) ++ Str.join "" ((d :: cs).map fun c => T [c]) = _
    rw [glue_T (d :: cs), show ("" : Str) = T [] from rfl, T_add, T_add]
    rfl
theorem sums1 : ∀ cs : List Nat, ((cs.map fun c => T [c]).map (·.length)).sum = cs.length
  | [] => rfl
  | c :: cs => by
    show (T [c]).length + ((cs.map fun c => T [c]).map (·.length)).sum = _
    rw [sums1 cs, T_len]; simp; omega
theorem join_T {h : Hs} {cs : List Nat} (q : cs.length ≤ 100000) : mJoin h (.str "") [.lst (cs.map fun c => .str (T [c]))] = some (.str (T cs), h) := by
  have e1 : seqOf h (.lst (cs.map fun c => .str (T [c]))) = some ((cs.map fun c => T [c]).map D.str) := by rw [List.map_map]; rfl
  unfold mJoin
  dsimp only
  rw [e1]
  dsimp only
  rw [strsOf_map]
  dsimp only
  rw [sums1, List.length_map, show ("" : Str).length = 0 from rfl, Nat.mul_zero, Nat.add_zero, if_pos (by omega)]
  exact congrArg (fun z => some (D.str z, h)) ((PySem.StrLaws.glued_eq_join _ _).trans (glue_T cs))
theorem Lw.app {a b : List Nat} (x : Lw a) (y : Lw b) : Lw (a ++ b) := fun c h => (List.mem_append.mp h).elim (x c) (y c)
theorem Lw.cut {a : List Nat} (x : Lw a) (lo hi : Option Int) : Lw (cutX a lo hi) := fun c h => x c (mem_cutX h)
end
end G

/-! # G14: what the operators answer, for the stepper -/
namespace G
open PySem PySem.Spec PyProof.Rows L2
section
variable {h : Hs} {i j : Int} {p q : Bool} {xs ys : List D}
theorem nof {r : Prop} (h : false = true) : r := by cases h
theorem tnof {r : Prop} (h : true = false) : r := by cases h
theorem add_i : gAdd h (.int i) (.int j) = some (.int (i + j)) := rfl
theorem sub_i : gSub h (.int i) (.int j) = some (.int (i - j)) := rfl
theorem lt_i : gLt h (.int i) (.int j) = some (.bl (decide (i < j))) := rfl
theorem le_i : gLe h (.int i) (.int j) = some (.bl (decide (i ≤ j))) := rfl
theorem gt_i : gGt h (.int i) (.int j) = some (.bl (decide (j < i))) := rfl
theorem ge_i : gGe h (.int i) (.int j) = some (.bl (decide (j ≤ i))) := rfl
theorem eq_i : gEq h (.int i) (.int j) = some (.bl (i == j)) := rfl
theorem ne_i : gNe h (.int i) (.int j) = some (.bl (!(i == j))) := rfl
theorem eq_s {x y : Str} : gEq h (.str x) (.str y) = some (.bl (x == y)) := rfl
theorem ne_s {x y : Str} : gNe h (.str x) (.str y) = some (.bl (!(x == y))) := rfl
theorem eq_b : gEq h (.bl p) (.bl q) = some (.bl (p == q)) := rfl
theorem max_i : gMax2 h [.int i, .int j] = some (.int (if j > i then j else i)) := rfl
theorem min_i : gMin2 h [.int i, .int j] = some (.int (if j < i then j else i)) := rfl
theorem add_tup (e : xs.length + ys.length ≤ 100000) : gAdd h (.tup xs) (.tup ys) = some (.tup (xs ++ ys)) := by
  unfold gAdd
  dsimp only
  rw [if_pos (le_line e)]
theorem add_lst (e : xs.length + ys.length ≤ 100000) : gAdd h (.lst xs) (.lst ys) = some (.lst (xs ++ ys)) := by
  unfold gAdd gAddL lstOf
  dsimp only
  rw [if_pos (le_line e)]
theorem sl_tup {lo hi : Option Int} : gSl h (.tup xs) lo hi = some (.tup (cutX xs lo hi)) := rfl
theorem sl_lst {lo hi : Option Int} : gSl h (.lst xs) lo hi = some (.lst (cutX xs lo hi)) := rfl
theorem tup_tup : gTuple h [.tup xs] = some (.tup xs) := rfl
theorem tup_lst : gTuple h [.lst xs] = some (.tup xs) := rfl
theorem len_tup : gLen h [.tup xs] = some (.int xs.length) := rfl
theorem len_lst : gLen h [.lst xs] = some (.int xs.length) := rfl
theorem tru_b : tru h (.bl p) = some p := rfl
theorem lw_ok {cs : List Nat} (h : Lw cs) : okS (T cs) = true := by
  unfold okS
  show (T cs).cps.all (· < 0x110000) = true
  rw [Array.all_eq_true']
  intro c hc
  have := h c (by simpa [T] using hc)
  exact decide_eq_true (by omega)
@[irreducible] def sB (p : Bool) : Str := (PyData.bool p).shown
theorem repr_b : gRepr h [.bl p] = some (.str (sB p)) := by
  unfold gRepr
  show (if smallText (.bool p) = true then some (D.str (PyData.bool p).shown) else none) = _
  rw [if_pos (by cases p <;> decide +kernel)]; unfold sB; rfl
theorem eq_sb : gEq h (.str (sB p)) (.str (sB p)) = some (.bl true) := by
  unfold gEq sB
  rw [gEqB_str (by cases p <;> decide +kernel) (by cases p <;> decide +kernel)]
  show some (D.bl _) = _
  rw [beq_self_eq_true]
variable {Q : D → Hs → Prop} {X : XQ} {d : D} {n : Nat} {o : O}
theorem wp_ix_tup (q : atI xs i = some d) (g : Q d h) : Wp (R.ofO (gIx h (.tup xs) (.int i)) h) Q X := wp_some (ix_tup q) g
theorem wp_ix_lst (q : atI xs i = some d) (g : Q d h) : Wp (R.ofO (gIx h (.lst xs) (.int i)) h) Q X := wp_some (ix_lst q) g
theorem wp_ix_ref (p : h[n]? = some (.lst xs)) (q : atI xs i = some d) (g : Q d h) : Wp (R.ofO (gIx h (.ref n) (.int i)) h) Q X := wp_some (ix_ref p q) g
end
end G

/-! # G15: loops over lists that stand still -/
namespace G
open PySem PySem.Spec PyProof.Rows L2
section
variable {X : XQ} {e : Ev} {hs : Hs} {P : Po}
end
end G

/-! # G16: isinstance of built-in types -/
namespace G
open PySem PySem.Spec PyProof.Rows L2
section
variable {X : Cx} {Wd : WX}
/-- what a thing is; an instance of a class is none of them -/
def tnOf (hs : Hs) : D → Option Tn
  | .bl _ => some .bool
  | .int _ => some .int
  | .str _ => some .str
  | .tup _ => some .tup
  | .ctp _ => some .tup
  | .lst _ => some .lst
  | .scr _ => some .lst
  | .dct _ _ => some .dct
  | .dtp _ _ => some .dct
  | .ref n => match hs[n]? with | some (.lst _) => some .lst | some (.dk _) => some .dct | some (.dt _) => some .dct | _ => none
  | _ => none
def isTn (t u : Tn) : Bool := decide (t = u) || (decide (t = .bool) && decide (u = .int))
def gIsi (hs : Hs) (ds : List D) : Option D := match ds with
  | [d, .ty u] => (match d with
    | .non => some (.bl false)
    | d => (match tnOf hs d with | some t => some (.bl (isTn t u)) | none => none))
  | _ => none
variable {h : Hs} {i : Int} {b : Bool} {z : Str} {ds : List D} {ks : List Key} {u : Tn} {n : Nat}
theorem isi_non : gIsi h [.non, .ty u] = some (.bl false) := rfl
theorem isi_bl : gIsi h [.bl b, .ty u] = some (.bl (isTn .bool u)) := rfl
theorem isi_int : gIsi h [.int i, .ty u] = some (.bl (isTn .int u)) := rfl
theorem isi_str : gIsi h [.str z, .ty u] = some (.bl (isTn .str u)) := rfl
theorem isi_tup : gIsi h [.tup ds, .ty u] = some (.bl (isTn .tup u)) := rfl
theorem isi_lst : gIsi h [.lst ds, .ty u] = some (.bl (isTn .lst u)) := rfl
theorem isi_dct : gIsi h [.dct ks ds, .ty u] = some (.bl (isTn .dct u)) := rfl
end
end G

/-! # G17: dicts -/
namespace G
open PySem PySem.Spec PyProof.Rows L2
/-! ### keys -/
def keyD : D → Option Key
  | .int i => some (.inl i)
  | .str s => some (.inr s)
  | _ => none
def keysD : List D → Option (List Key)
  | [] => some []
  | d :: ds => match keyD d with | some k => (match keysD ds with | some ks => some (k :: ks) | none => none) | none => none
def putG {k : Type} [DecidableEq k] (kvs : List (k × D)) (x : k) (v : D) : List (k × D) :=
  if (kvs.any fun kv => decide (kv.1 = x)) = true then kvs.map (fun kv => if kv.1 = x then (kv.1, v) else kv) else kvs ++ [(x, v)]
def valG {k : Type} [DecidableEq k] (kvs : List (k × D)) (x : k) : Option D := (kvs.find? fun kv => decide (kv.1 = x)).map (·.2)
section
variable {K : PySem.W.Frag} {mu : Mp} {H : Hp}
theorem RD.ref_inv {n : Nat} {v : V} (h : RD K mu H (.ref n) v) : ∃ a, v = .ref a ∧ mu.l[n]? = some a := by
  cases h with
  | ref e => exact ⟨_, rfl, e⟩
theorem keyD_at {d : D} {v : V} {k : Key} (r : RD K mu H d v) (e : keyD d = some k) : v = kV k := by
  cases r <;> first | (cases e; rfl) | cases e
theorem keysD_at : ∀ {ds : List D} {vs : List V} {ks : List Key}, RDs K mu H ds vs → keysD ds = some ks → vs = ks.map kV
  | _, _, _, .nil, e => by cases e; rfl
  | d :: ds, _, ks, .cons r t, e => by
    unfold keysD at e
    split at e
    · rename_i k hk
      split at e
      · rename_i ks' hks
        cases e
        rw [keyD_at r hk, keysD_at t hks]; rfl
      · cases e
    · cases e
variable {k : Type} [DecidableEq k]
theorem RKs.any {x : k} : ∀ {ds : List (k × D)} {vs : List (k × V)}, RKs K mu H ds vs → (ds.any fun kv => decide (kv.1 = x)) = (vs.any fun kv => decide (kv.1 = x))
  | _, _, .nil => rfl
  | _, _, .cons _ t => by simp only [List.any_cons]; rw [RKs.any t]
theorem RKs.snoc {x : k} {d : D} {v : V} (r : RD K mu H d v) : ∀ {ds : List (k × D)} {vs : List (k × V)}, RKs K mu H ds vs → RKs K mu H (ds ++ [(x, d)]) (vs ++ [(x, v)])
  | _, _, .nil => .cons r .nil
  | _, _, .cons q t => .cons q (RKs.snoc r t)
theorem RKs.over {x : k} {d : D} {v : V} (r : RD K mu H d v) : ∀ {ds : List (k × D)} {vs : List (k × V)}, RKs K mu H ds vs → RKs K mu H (ds.map fun kv => if kv.1 = x then (kv.1, d) else kv) (vs.map fun kv => if kv.1 = x then (kv.1, v) else kv)
  | _, _, .nil => .nil
  | _, _, .cons (x := y) q t => by
    rw [List.map_cons, List.map_cons]
    dsimp only
    by_cases e : y = x
    · rw [if_pos e, if_pos e]; exact .cons r (RKs.over r t)
    · rw [if_neg e, if_neg e]; exact .cons q (RKs.over r t)
theorem RKs.put {x : k} {d : D} {v : V} {ds : List (k × D)} {vs : List (k × V)} (q : RKs K mu H ds vs) (r : RD K mu H d v) : RKs K mu H (putG ds x d) (putK vs x v) := by
  unfold putG putK
  rw [RKs.any q]
  split
  · exact RKs.over r q
  · exact RKs.snoc r q
theorem RKs.val {x : k} : ∀ {ds : List (k × D)} {vs : List (k × V)}, RKs K mu H ds vs → (∀ d, valG ds x = some d → ∃ v, valV vs x = some v ∧ RD K mu H d v) ∧ (valG ds x = none → valV vs x = none)
  | _, _, .nil => ⟨(fun d e => nomatch e), fun _ => rfl⟩
  | _, _, .cons (x := y) (d := d0) (v := v0) (ds := ds) (vs := vs) q t => by
    obtain ⟨h1, h2⟩ := RKs.val (x := x) t
    unfold valG valV at h1 h2 ⊢
    rw [List.find?_cons, List.find?_cons]
    by_cases e : y = x
    · rw [decide_eq_true e]
      exact ⟨fun d e => (by cases e; exact ⟨_, rfl, q⟩), fun e => nomatch e⟩
    · rw [decide_eq_false e]
      exact ⟨h1, h2⟩
theorem RKs.snds : ∀ {ds : List (k × D)} {vs : List (k × V)}, RKs K mu H ds vs → RDs K mu H (ds.map (·.2)) (vs.map (·.2))
  | _, _, .nil => .nil
  | _, _, .cons q t => .cons q (RKs.snds t)
end
section
variable {X : Cx} {Wd : WX} {pos : Pos}
/-! ### {} -/
def eD0K : FE := fun _ hs => .ok (.ref hs.length) (hs ++ [.dk []])
def eD0T : FE := fun _ hs => .ok (.ref hs.length) (hs ++ [.dt []])
def eD0 : FE := fun _ hs => .ok (.dct [] []) hs
theorem ue_d0k : UE X Wd (.Dict [] [] pos) eD0K := by
  refine PE.imp pe_dnewK fun σ H Q h p hp => ?_
  obtain ⟨e, mu, hs, S, E, g⟩ := h
  exact g (mu.own p) _ (.ref p) (.newOwn S hp) (S.newOwn hp (show RO X.K X.mg mu H (.dk []) (.dK []) from .nil)) (.ref (getElem?_own S.len))
theorem ue_d0t : UE X Wd (.Dict [] [] pos) eD0T := by
  refine PE.imp pe_dnewT fun σ H Q h p hp => ?_
  obtain ⟨e, mu, hs, S, E, g⟩ := h
  exact g (mu.own p) _ (.ref p) (.newOwn S hp) (S.newOwn hp (show RO X.K X.mg mu H (.dt []) (.dT []) from .nil)) (.ref (getElem?_own S.len))
/-! ### d[k] = v, of dicts and lists -/
def mSetA (hs : Hs) (o i v : D) : Option Hs := match o with
  | .ref n => (match hs[n]? with
    | some (.dk kvs) => (match keyD i with | some k => if kvs.length < sizeLine then some (hs.set n (.dk (putG kvs k v))) else none | none => none)
    | some (.dt kvs) => (match i with
      | .tup ds => (match keysD ds with | some k => if kvs.length < sizeLine then some (hs.set n (.dt (putG kvs k v))) else none | none => none)
      | _ => none)
    | _ => mSetL hs o i v)
  | _ => none
theorem sg_any (hu : X.A.units + 1 < cLine) : PSet X (rSet X.K X.mg mSetA) := by
  rintro pins s σ H o i v ov iv u Q I r1 r2 r3 ⟨mu, hs, d1, d2, d3, hs', S, e1, e2, e3, hg, q⟩
  unfold mSetA at hg
  split at hg
  · rename_i n
    split at hg
    · rename_i kvs hn
      split at hg
      · rename_i k hk
        split at hg
        · rename_i hz
          cases hg
          cases e1 with
          | ref ea =>
            rename_i a
            obtain ⟨w, h1, h2⟩ := S.at ea hn
            cases w with
            | dK vs =>
              have h2 : RKs X.K mu H kvs vs := h2
              obtain rfl : ov = Value.ref a := r1
              have ei := keyD_at e2 hk
              subst ei
              refine d_setItem hu I (.k h1 (by rw [← h2.length]; exact hz)) r2 r3 fun s' I' => ⟨_, I', ?_⟩
              exact q mu _ (.write ea) (S.write ea (show RO X.K X.mg mu H (.dk _) (.dK _) from h2.put e3))
            | _ => exact h2.elim
        · cases hg
      · cases hg
    · rename_i kvs hn
      split at hg
      · split at hg
        · rename_i k hk
          split at hg
          · rename_i hz
            cases hg
            cases e1 with
            | ref ea =>
              rename_i a
              obtain ⟨w, h1, h2⟩ := S.at ea hn
              cases w with
              | dT vs =>
                have h2 : RKs X.K mu H kvs vs := h2
                obtain rfl : ov = Value.ref a := r1
                cases e2 with
                | tup ht hr =>
                  have ei := keysD_at hr hk
                  subst ei
                  refine d_setItem hu I (.t h1 ht.1 (by rw [← h2.length]; exact hz)) r2 r3 fun s' I' => ⟨_, I', ?_⟩
                  exact q mu _ (.write ea) (S.write ea (show RO X.K X.mg mu H (.dt _) (.dT _) from h2.put e3))
              | _ => exact h2.elim
          · cases hg
        · cases hg
      · cases hg
    · exact sg_list pins s σ H o i v ov iv u Q I r1 r2 r3 ⟨mu, hs, _, d2, d3, hs', S, e1, e2, e3, hg, q⟩
  · cases hg
/-! ### list(d.values()) -/
def valsO (p d : Addr) : HO := .ext fun h => h.IsValuesView p d
theorem valsO_ok {P : Program} {w : World} {H : Hp} {h : Heap} {p d : Addr} (e : h.get? p = some { cls := .type "dict_values", data := .fields #[.ref d] }) : ObjOk P w H h p (valsO p d) :=
  ⟨⟨_, e, rfl, rfl⟩, ⟨_, e⟩, fun h1 h2 x k => let ⟨o, ho, r⟩ := x; ⟨o, k o ho, r⟩⟩
def rValsT : V → List V → Hp → VK → Prop := fun x xs H Q => ∃ (a : Addr) (kvs : List (List L2.Key × V)), x = .ref a ∧ xs = [] ∧ H a = some (.dT kvs) ∧ ∀ p, H p = none → Q (.ref p) (upd H p (valsO p a))
theorem mt_valsT : MtR X "dict.values" rValsT := by
  intro pins s σ H x xs v us Q I rx rxs h
  obtain ⟨a, kvs, rfl, rfl, ha, q⟩ := h
  cases rx
  cases rxs
  obtain ⟨z, hd, xs', rel, o, es, ep, ho, hx, hdat, _⟩ := dt_of I.hok ha
  refine call_meetsIn PySem.F.slot_dict_values (⟨o, ho, hx.1⟩ : s.TypeIs (.ref a) "dict") PySem.F.entry_dict_values (PySem.F.args_dict_values_1 _) (meets_dict_values_raw a hd) ⟨⟨es, ep, o, ho, hx, hdat⟩, ?_⟩
  have hf : H s.heap.objs.size = none := I.hok.fresh (Nat.le_refl _)
  exact ⟨.ref s.heap.objs.size, upd H s.heap.objs.size (valsO s.heap.objs.size a), I.laid (t' := s.toks) (fun b u e => Heap.get?_push_of_some _ e) (Nat.le_refl _) (valsO_ok (Heap.get?_push_size _ rfl)), rfl, q _ hf⟩
theorem call_list_valsT (hc : X.calm = true) : CallR X (.type "list") (fun xs H Q => ∃ p a kvs, xs = [V.ref p] ∧ H p = some (valsO p a) ∧ H a = some (.dT kvs) ∧ ∀ q, H q = none → Q (.ref q) (upd H q (.lst (kvs.map (·.2))))) := by
  intro pins s σ H xs us Q I r h
  obtain ⟨p, a, kvs, rfl, hp, hd, q⟩ := h
  obtain ⟨u, rfl, rx⟩ := r.one
  cases rx
  obtain ⟨z, hs, ks, pr, o, es, ep, ho, hx, hdt, he, hn⟩ := (show ObjOk X.prog X.w H s.heap a (.dT kvs) from I.hok a _ hd)
  have hv : s.heap.IsValuesView p a := (show ObjOk X.prog X.w H s.heap p (valsO p a) from I.hok p _ hp).1
  have l1 : es.size = ks.length := by rw [← Array.length_toList, he, List.length_map]
  have l2 : kvs.length = ks.length := Paired.length pr
  refine PySem.W.kdl_call (PySem.KdlSrc.rawValues (r := p) (d := a) (es := es) (ep := ep)) (I.ok.hd hc) ⟨hv, o, ho, hx, hdt⟩ (by omega) fun h' tk acc' c' kp e it => ?_
  have ea : acc'.toList = ks.map fun x => x.2.2 := by
    have hl : acc'.toList.length = ks.length := by rw [Array.length_toList, it.1]; exact l1
    refine List.ext_getElem? fun j => ?_
    rw [List.getElem?_map]
    cases hj : acc'.toList[j]? with
    | none =>
      have h1 := List.getElem?_eq_none_iff.mp hj
      rw [List.getElem?_eq_none (by omega)]; rfl
    | some v =>
      obtain ⟨hi, hv⟩ := it.2 j v (by rw [← Array.getElem?_toList]; exact hj)
      have hk : j < ks.length := by omega
      have e1 : es[j] = entryOfKey (tupleKind (mixKind X.prog X.w)) ks[j] := by
        have : es.toList[j]'(by rw [Array.length_toList]; exact hi) = (ks.map (entryOfKey (tupleKind (mixKind X.prog X.w))))[j]'(by rw [List.length_map]; exact hk) := by
          congr 1
        rw [Array.getElem_toList, List.getElem_map] at this
        exact this
      rw [List.getElem?_eq_getElem hk, hv, e1]; rfl
  have rv : Vals (kvs.map (·.2)) acc'.toList := by
    rw [ea]
    have all : ∀ {l : List (List L2.Key × V)} {m : List (List L2.Key × Addr × Value)}, KT H l m → Vals (l.map (·.2)) (m.map fun x => x.2.2) := by
      intro l m r
      induction r with
      | nil => exact .nil
      | cons h t ih => exact .cons h.2.2 ih
    exact all pr
  have hz : (kvs.map (·.2)).length ≤ sizeLine := by rw [List.length_map]; exact z
  refine ⟨.ref s.heap.objs.size, _, I.laid (t' := tk) (o := .lst (kvs.map (·.2))) kp (Nat.le_refl _) ?_, rfl, q _ (I.hok.fresh (Nat.le_refl _))⟩
  exact ⟨hz, acc'.toList, c', rv, by rw [Array.toArray_toList]; exact e⟩
/-- list(d.values()) of a dict with tuples as keys -/
def lValsT (f : FE) : FL := fun e hs => (f e hs).bind fun d hs => match d with
  | .ref n => (match hs[n]? with | some (.dt kvs) => .ok (kvs.map (·.2)) hs | _ => .bad)
  | _ => .bad
theorem uf_valsT {o : Expr} {f1 : FE} {apos cpos p : Pos} (hcalm : X.calm = true) (hg : Gl X "list") (hm : X.mg "list" = none) (ha : UE X Wd o f1)
    (hbase : attributeBase o "values" X.env (eval o X.env) = eval o X.env := by rfl) (hline : (apos.endLine == cpos.line) = true := by rfl)
    (hs1 : starEach [.Call (.Attribute o "values" apos) [] [] cpos] X.env = [(false, eval (.Call (.Attribute o "values" apos) [] [] cpos) X.env)] := by rfl) : UF X Wd (.Call (.Name "list" p) [.Call (.Attribute o "values" apos) [] [] cpos] [] pos) (lValsT f1) := by
  refine PE.imp (pe_callTy (call_list_valsT hcalm) hg hm boot_list (pa_cons (pe_bm0 PySem.F.plainAttrs_dict PySem.F.slot_dict_values PySem.F.type_dict_values mt_valsT ha hbase hline) pa_nil hs1) (by decide) (by decide) hs1 rfl) fun σ H Q h => ?_
  obtain ⟨e, mu, hs, S, E, q⟩ := tG_seq (r := relD X.K) relF_ok h
  refine ⟨e, mu, hs, S, E, q.imp fun x H1 ⟨e, mu1, hs1, d, S1, E1, r1, g1⟩ => ?_⟩
  split at g1
  · rename_i n
    split at g1
    · rename_i kvs hn
      obtain ⟨a, rfl, ea⟩ := r1.ref_inv
      obtain ⟨w, h1, h2⟩ := S1.at ea hn
      cases w with
      | dT vs =>
        have h2 : RKs X.K mu1 H1 kvs vs := h2
        refine ⟨.inr (.inr (.inl ⟨rfl, .inr ⟨_, h1⟩⟩)), a, vs, rfl, rfl, h1, fun p hp => ?_⟩
        have S2 := S1.new (o := valsO p a) hp
        refine ⟨p, a, vs, rfl, upd_same, by rw [upd_ne (ne_of_none h1 hp)]; exact h1, fun r hr => ?_⟩
        have hrp : r ≠ p := by rintro rfl; rw [upd_same] at hr; cases hr
        have hr1 : H1 r = none := by rw [upd_ne hrp] at hr; exact hr
        exact g1 mu1 _ (.ref r) ((Lat.new hp).trans (.new hr)) (S2.new hr) ⟨r, vs.map (·.2), rfl, upd_same, S2.fresh hr, S2.freshz hr, hr1, RDs.agr (Lat.agr (.new hr) S2) (RDs.agr (Lat.agr (.new hp) S1) h2.snds)⟩
      | _ => exact h2.elim
    · exact g1.elim
  · exact g1.elim
end
end G

/-! # G18: in, of texts, dicts, deep lists -/
namespace G
open PySem PySem.Spec PyProof.Rows L2
theorem u65 {k : Nat} {A : Around} (r : Room k A) : A.units + 65 < cLine := by have := r.un; omega
theorem u1 {k : Nat} {A : Around} (r : Room k A) : A.units + 1 < cLine := by have := r.un; omega
def inD (hs : Hs) (d e : D) : Option Bool := match pd hs d with
  | some p => (match pd hs e with
    | some (.list ps) => if (SeqAt.shaped p && SeqAt.shaped (.list ps)) = true then some (ps.any fun z => PyData.eqv z p) else none
    | _ => none)
  | none => none
/-- the entry of a dict, whatever its keys -/
def atD (hs : Hs) (e d : D) : Option (Option D) := match e with
  | .ref n => (match hs[n]? with
    | some (.dk kvs) => (match keyD d with | some k => some (valG kvs k) | none => none)
    | some (.dt kvs) => (match d with | .tup ds => (match keysD ds with | some k => some (valG kvs k) | none => none) | _ => none)
    | _ => none)
  | .dct ks ds => (match keyD d with | some k => some (valG (ks.zip ds) k) | none => none)
  | .dtp ks ds => (match d with | .tup es => (match keysD es with | some k => some (valG (ks.zip ds) k) | none => none) | _ => none)
  | .dlk ks ds => (match keyD d with | some k => some (valG (ks.zip ds) k) | none => none)
  | .dlt ks ds => (match d with | .tup es => (match keysD es with | some k => some (valG (ks.zip ds) k) | none => none) | _ => none)
  | _ => none
def inAB (hs : Hs) (d e : D) : Option Bool := match atD hs e d with
  | some o => some o.isSome
  | none => (match gInB hs d e with
    | some b => some b
    | none => (match e with
      | .str z => (match d with | .str x => some (!(Builtin.Str.occurrences z x 0 z.length 1).isEmpty) | _ => none)
      | e => inD hs d e))
def gInA (hs : Hs) (d e : D) : Option D := (inAB hs d e).map .bl
def gNotInA (hs : Hs) (d e : D) : Option D := (inAB hs d e).map fun b => .bl (!b)
section
variable {K : PySem.W.Frag} {mg : Str → Option Value} {mu : Mp} {hs : Hs} {H : Hp}
theorem RKs.zip : ∀ {ks : List Key} {ds : List D} {vs : List V}, RDs K mu H ds vs → RKs K mu H (ks.zip ds) (ks.zip vs)
  | [], _, _, _ => .nil
  | _ :: _, _, _, .nil => .nil
  | _ :: ks, _, _, .cons r t => .cons r (RKs.zip t)
theorem RKs.zipT : ∀ {ks : List (List Key)} {ds : List D} {vs : List V}, RDs K mu H ds vs → RKs K mu H (ks.zip ds) (ks.zip vs)
  | [], _, _, _ => .nil
  | _ :: _, _, _, .nil => .nil
  | _ :: ks, _, _, .cons r t => .cons r (RKs.zipT t)
theorem optVal {k : Type} [DecidableEq k] {x : k} {ds : List (k × D)} {vs : List (k × V)} (r : RKs K mu H ds vs) : (valG ds x).isSome = (valV vs x).isSome ∧ ∀ d, valG ds x = some d → ∃ v, valV vs x = some v ∧ RD K mu H d v := by
  obtain ⟨h1, h2⟩ := RKs.val (x := x) r
  refine ⟨?_, h1⟩
  cases q : valG ds x with
  | none => rw [h2 q]; rfl
  | some d => obtain ⟨v, e, _⟩ := h1 d q; rw [e]; rfl
theorem atD_at (S : Sim K mg mu hs H) {d e : D} {x y : V} {o : Option D} (r1 : RD K mu H d x) (r2 : RD K mu H e y) (h : atD hs e d = some o) :
    ∃ a ov, y = .ref a ∧ DGet H a x ov ∧ o.isSome = ov.isSome ∧ ∀ w, o = some w → ∃ v, ov = some v ∧ RD K mu H w v := by
  unfold atD at h
  split at h
  · rename_i n
    obtain ⟨a, rfl, ea⟩ := r2.ref_inv
    split at h
    · rename_i kvs hn
      obtain ⟨w, h1, h2⟩ := S.at ea hn
      cases w with
      | dK vs =>
        have h2 : RKs K mu H kvs vs := h2
        split at h
        · rename_i k hk
          cases h
          have ei := keyD_at r1 hk
          subst ei
          obtain ⟨q1, q2⟩ := optVal (x := k) h2
          exact ⟨a, _, rfl, .k h1, q1, q2⟩
        · cases h
      | _ => exact h2.elim
    · rename_i kvs hn
      obtain ⟨w, h1, h2⟩ := S.at ea hn
      cases w with
      | dT vs =>
        have h2 : RKs K mu H kvs vs := h2
        split at h
        · split at h
          · rename_i k hk
            cases h
            cases r1 with
            | tup ht hr =>
              have ei := keysD_at hr hk
              subst ei
              obtain ⟨q1, q2⟩ := optVal (x := k) h2
              exact ⟨a, _, rfl, .t h1 ht.1, q1, q2⟩
          · cases h
        · cases h
      | _ => exact h2.elim
    · cases h
  · split at h
    · rename_i k hk
      cases h
      cases r2 with
      | dct h1 _ _ hr =>
        have ei := keyD_at r1 hk
        subst ei
        obtain ⟨q1, q2⟩ := optVal (x := k) (RKs.zip hr)
        exact ⟨_, _, rfl, .k h1, q1, q2⟩
    · cases h
  · split at h
    · split at h
      · rename_i k hk
        cases h
        cases r1 with
        | tup ht hrk =>
          have ei := keysD_at hrk hk
          subst ei
          cases r2 with
          | dtp h1 _ _ hr =>
            obtain ⟨q1, q2⟩ := optVal (x := k) (RKs.zipT hr)
            exact ⟨_, _, rfl, .t h1 ht.1, q1, q2⟩
      · cases h
    · cases h
  · split at h
    · rename_i k hk
      cases h
      cases r2 with
      | dlk h1 _ hr =>
        have ei := keyD_at r1 hk
        subst ei
        obtain ⟨q1, q2⟩ := optVal (x := k) (RKs.zip hr)
        exact ⟨_, _, rfl, .inl ⟨_, _, .inr h1.1, rfl, rfl⟩, q1, q2⟩
    · cases h
  · split at h
    · split at h
      · rename_i k hk
        cases h
        cases r1 with
        | tup ht hrk =>
          have ei := keysD_at hrk hk
          subst ei
          cases r2 with
          | dlt h1 _ hr =>
            obtain ⟨q1, q2⟩ := optVal (x := k) (RKs.zipT hr)
            exact ⟨_, _, rfl, .inr ⟨_, _, _, .inr h1.1, rfl, ht.1, rfl⟩, q1, q2⟩
      · cases h
    · cases h
  · cases h
theorem inD_at (S : Sim K mg mu hs H) {d e : D} {x y : V} {b : Bool} (r1 : RD K mu H d x) (r2 : RD K mu H e y) (h : inD hs d e = some b) :
    ∃ p ps, Dp K H x p ∧ Dp K H y (.list ps) ∧ SeqAt.shaped p = true ∧ SeqAt.shaped (.list ps) = true ∧ (ps.any fun z => PyData.eqv z p) = b := by
  unfold inD at h
  split at h
  · rename_i p hp
    split at h
    · rename_i ps hps
      split at h
      · rename_i hz
        cases h
        simp only [Bool.and_eq_true] at hz
        exact ⟨p, ps, pd_dp S r1 hp, pd_dp S r2 hps, hz.1, hz.2, rfl⟩
      · cases h
    · cases h
  · cases h
variable {X : Cx}
theorem og_notinA (hu : X.A.units + 65 < cLine) : OpR X (compareOp .NotIn) (rB X.K X.mg gNotInA) := by
  rintro pins s σ H x y v u Q I rx ry ⟨mu, hs, d, e, w, S, r1, r2, hg, q⟩
  obtain ⟨b, h1, h2⟩ := Option.map_eq_some_iff.mp (show (inAB hs d e).map (fun b => D.bl (!b)) = some w from hg)
  subst h2
  unfold inAB at h1
  split at h1
  · rename_i o ho
    cases h1
    obtain ⟨a, ov, rfl, hd, e1, _⟩ := atD_at S r1 r2 ho
    obtain rfl : u = Value.ref a := ry
    rw [e1] at q
    exact d_notIn (by omega) I hd rx fun s' I' => ⟨.bl (!ov.isSome), H, I', rfl, fin0 S q (.bl _)⟩
  · split at h1
    · rename_i b hb
      cases h1
      exact og_notin pins s σ H x y v u Q I rx ry ⟨mu, hs, d, e, _, S, r1, r2, by unfold gNotIn; rw [hb]; rfl, q⟩
    · split at h1
      · split at h1
        · cases h1; cases r1; cases r2
          exact op_notin_str pins s σ H _ _ v u Q I rx ry ⟨_, _, rfl, rfl, fin0 S q (.bl _)⟩
        · cases h1
      · obtain ⟨p, ps, a1, a2, a3, a4, rfl⟩ := inD_at S r1 r2 h1
        exact op_notInD hu pins s σ H x y v u Q I rx ry ⟨p, ps, a1, a2, a3, a4, fin0 S q (.bl _)⟩
end
section
variable {X : Cx} {Wd : WX} {k : Nat} {f : Addr} {fd : FuncData} {ps ks : List Str} {fn : List D → Hs → R D} {x : Str} {p pos : Pos} {is : List Nat} {ds : List Value} {dvs : List V} {dds : List D} {kws : List Keyword} {fk : FA}
end
end G

/-! # G19: what stands while things are drawn -/
namespace G
open PySem PySem.Spec PyProof.Rows L2
/-- a fact about what stands below L, but for the deck -/
def Stb (L : Nat) (K : Hs → Prop) : Prop := ∀ h h', K h → L ≤ h.length → (∀ n, n < L → n ≠ 1 → n ≠ 2 → h'[n]? = h[n]?) → K h'
theorem stb_get {L n : Nat} {o : O} (hn : 2 < n) (hl : n < L) : Stb L (fun h => h[n]? = some o) := fun h h' k _ f => (f n hl (by omega) (by omega)).trans k
theorem Stb.and {L : Nat} {K K' : Hs → Prop} (a : Stb L K) (b : Stb L K') : Stb L (fun h => K h ∧ K' h) := fun h h' k l f => ⟨a h h' k.1 l f, b h h' k.2 l f⟩
theorem Stb.mono {L L' : Nat} {K : Hs → Prop} (a : Stb L K) (l : L ≤ L') : Stb L' K := fun h h' k z f => a h h' k (by omega) fun n hn => f n (by omega)
theorem stb_true {L : Nat} : Stb L (fun _ => True) := fun _ _ _ _ _ => trivial
structure St (L : Nat) (K : Hs → Prop) (h : Hs) : Prop where
  deck : Deck 2 1 h
  keep : K h
  len : L ≤ h.length
theorem St.lt {L : Nat} {K : Hs → Prop} {h : Hs} (S : St L K h) : 2 < h.length := S.deck.lt.1
section
variable {L : Nat} {K : Hs → Prop} {h : Hs} {m : Int} {Q : D → Hs → Prop} {X : XQ} {d : D} {ds : List D}
theorem St.frm {h' : Hs} (S : St L K h) (sK : Stb L K) (D : Deck 2 1 h') (F : Frm (Two 2 1) h h') : St L K h' :=
  ⟨D, sK _ _ S.keep S.len fun n hn h1 h2 => F.2 n (Nat.lt_of_lt_of_le hn S.len) (by unfold Two; omega), Nat.le_trans S.len F.1⟩
theorem dr (S : St L K h) (sK : Stb L K) (m0 : 0 < m) (m1 : m < 1073741824) (c : ∀ r h', 0 ≤ r → r < m → St L K h' → Q (.int r) h') : Wp (c_draw [.ref 2, .int m] h) Q X := by
  refine wp_mono (draw_wp S.deck m0 m1) ?_ fun _ _ _ x => x.elim
  rintro d h' ⟨r, rfl, r0, r1, D, F, _⟩
  exact c r h' r0 r1 (S.frm sK D F)
theorem St.on {N : Nat} {o : O} {h' : Hs} (S : St L K h) (sK : Stb L K) (e : N = h.length) (D : Deck 2 1 h') (F : Frm (Two 2 1) h h') (l : N < h'.length) (g : h'[N]? = some o) : St (N + 1) (fun h' => K h' ∧ h'[N]? = some o) h' :=
  ⟨D, ⟨sK _ _ S.keep S.len fun n hn h1 h2 => F.2 n (Nat.lt_of_lt_of_le hn S.len) (by unfold Two; omega), g⟩, l⟩
/-! ### what is new forgotten -/
/-- all that stood but the deck stands -/
def Old (h g : Hs) : Prop := ∀ n, n < h.length → n ≠ 1 → n ≠ 2 → g[n]? = h[n]?
theorem stb_old {h : Hs} : Stb h.length (Old h) := fun _ _ k l f n hn h1 h2 => (f n hn h1 h2).trans (k n hn h1 h2)
theorem St.mark (S : St L K h) (sK : Stb L K) : St h.length (fun g => K g ∧ Old h g) h ∧ Stb h.length (fun g => K g ∧ Old h g) :=
  ⟨⟨S.deck, ⟨S.keep, fun _ _ _ _ => rfl⟩, Nat.le_refl _⟩, (sK.mono S.len).and stb_old⟩
theorem St.weak {L1 : Nat} {K1 K2 : Hs → Prop} (S : St L1 K1 h) (l : L ≤ L1) (k : K1 h → K2 h) : St L K2 h := ⟨S.deck, k S.keep, Nat.le_trans l S.len⟩
theorem St.cut {h1 : Hs} (S : St L K h) (sK : Stb L K) (S1 : St h.length (fun g => K g ∧ Old h g) h1) : Cls h h1 ∧ St L K (h1.take h.length) := by
  obtain ⟨ne, ⟨s, c, d1⟩, ⟨ns, dl, d2⟩⟩ := S1.deck
  have hl := S1.len
  have hd := S.lt
  constructor
  · intro k hk
    by_cases k1 : k = 1
    · subst k1
      refine .inr ⟨_, d2, ?_⟩
      show bels _ (ns.map D.int) = true
      clear d2 dl
      induction ns with
      | nil => rfl
      | cons n ns ih => exact ih
    · by_cases k2 : k = 2
      · subst k2
        refine .inr ⟨_, d1, ?_⟩
        show (decide (1 < h.length) && (true && (true && true))) = true
        rw [decide_eq_true (by omega)]; rfl
      · exact .inl (S1.keep.2 k hk k1 k2)
  · have g : ∀ n o, n < h.length → h1[n]? = some o → (h1.take h.length)[n]? = some o := fun n o hn e => by rw [List.getElem?_take_of_lt hn]; exact e
    refine ⟨⟨ne, ⟨s, c, g 2 _ (by omega) d1⟩, ⟨ns, dl, g 1 _ (by omega) d2⟩⟩, ?_, ?_⟩
    · refine sK h _ S.keep S.len fun n hn n1 n2 => ?_
      have hn' : n < h.length := Nat.lt_of_lt_of_le hn S.len
      rw [List.getElem?_take_of_lt hn']
      exact S1.keep.2 n hn' n1 n2
    · rw [List.length_take]; have := S.len; omega
/-- a function whose new things nobody else knows -/
theorem wp_gcS {fn : List D → Hs → R D} {as : List D} (S : St L K h) (sK : Stb L K)
    (g : St h.length (fun g => K g ∧ Old h g) h → Stb h.length (fun g => K g ∧ Old h g) → Wp (fn as h) (fun d h1 => ∃ d', dW (dH h1 h.length 50) d = some d' ∧ St h.length (fun g => K g ∧ Old h g) h1 ∧ ∀ h2, St L K h2 → Q d' h2) nX) : Wp (gcF fn as h) Q X := by
  refine wp_gcF (wp_mono (g (S.mark sK).1 (S.mark sK).2) ?_ fun _ _ _ x => x.elim)
  rintro d h1 ⟨d', e, S1, q⟩
  obtain ⟨c, S2⟩ := S.cut sK S1
  exact ⟨d', e, c, q _ S2⟩
/-- a thing is put into the heap behind -/
theorem St.app {o : O} (S : St L K h) (sK : Stb L K) : St (h.length + 1) (fun h' => K h' ∧ h'[h.length]? = some o) (h ++ [o]) := S.on sK rfl S.deck.app .app (by simp) get_new
/-- the thing behind is put otherwise -/
theorem St.put {N : Nat} {o o' : O} (S : St (N + 1) (fun h => K h ∧ h[N]? = some o) h) (hN : 2 < N) (sK : Stb N K) : St (N + 1) (fun h => K h ∧ h[N]? = some o') (h.set N o') := by
  obtain ⟨ne, ⟨s, k, h1⟩, ⟨ns, hl, h2⟩⟩ := S.deck
  refine ⟨⟨ne, ⟨s, k, by rw [get_set_ne (by omega)]; exact h1⟩, ⟨ns, hl, by rw [get_set_ne (by omega)]; exact h2⟩⟩, ⟨sK _ _ S.keep.1 (by have := S.len; omega) fun n hn _ _ => get_set_ne (by omega), get_set_eq S.keep.2⟩, ?_⟩
  rw [List.length_set]; exact S.len
/-- what stands behind is let go -/
theorem St.off {N : Nat} {o : O} (S : St (N + 1) (fun h => K h ∧ h[N]? = some o) h) (l : L ≤ N) : St L K h := ⟨S.deck, S.keep.1, by have := S.len; omega⟩
end
theorem deck_st {ns : List Int} (hl : ns.length ≤ 63) {Q : D → Hs → Prop} {X : XQ} (c : ∀ h, St 3 (fun _ => True) h → Q (.ref 2) h) : Wp (c_deck [.scr (ns.map .int)] []) Q X := by
  refine wp_mono (deck_wp hl) ?_ fun _ _ _ x => x.elim
  rintro d h ⟨rfl, D, F, L⟩
  exact c h ⟨D, trivial, by rw [L]; simp⟩
theorem ne_sb {h : Hs} {p : Bool} : gNe h (.str (sB p)) (.str (sB p)) = some (.bl false) := by
  have := eq_sb (h := h) (p := p)
  unfold gEq at this
  unfold gNe
  cases q : gEqB h (.str (sB p)) (.str (sB p)) with
  | none => rw [q] at this; cases this
  | some b => rw [q] at this; cases this; rfl
theorem ne_b {h : Hs} {p q : Bool} : gNe h (.bl p) (.bl q) = some (.bl (!(p == q))) := rfl
/-- one of a list, by a number that is not known -/
theorem wp_ixP {h : Hs} {ds : List D} {i : Int} {Q : D → Hs → Prop} {X : XQ} (P : D → Prop) (i0 : 0 ≤ i) (i1 : i < ds.length) (hP : ∀ x ∈ ds, P x) (c : ∀ x, P x → Q x h) : Wp (R.ofO (gIx h (.lst ds) (.int i)) h) Q X := by
  obtain ⟨x, hx, hm, _⟩ := atI_mem i0 i1
  exact wp_some (ix_lst hx) (c x (hP x hm))
def IntIn (a b : Int) (d : D) : Prop := ∃ i, d = .int i ∧ a ≤ i ∧ i ≤ b
theorem intIn {a b i : Int} (h : a ≤ i) (h' : i ≤ b) : IntIn a b (.int i) := ⟨i, rfl, h, h'⟩
theorem all_nil {P : D → Prop} : ∀ x ∈ ([] : List D), P x := fun _ h => by cases h
theorem all_cons {P : D → Prop} {d : D} {ds : List D} (a : P d) (b : ∀ x ∈ ds, P x) : ∀ x ∈ d :: ds, P x := fun x h => by
  rcases List.mem_cons.mp h with e | h
  · rw [e]; exact a
  · exact b x h
theorem tl : ("l" : Str) = T [108] := by decide +kernel
theorem trr : ("r" : Str) = T [114] := by decide +kernel
theorem lw108 : Lw [108] := fun c hc => by rw [List.mem_singleton.mp hc]; omega
theorem lw114 : Lw [114] := fun c hc => by rw [List.mem_singleton.mp hc]; omega
/-- a side -/
def IsSide (cs : List Nat) : Prop := cs = [108] ∨ cs = [114]
theorem IsSide.lw {cs : List Nat} (h : IsSide cs) : Lw cs := by rcases h with rfl | rfl; exact lw108; exact lw114
theorem sides {d : D} (h : d ∈ [D.str (T [108]), D.str (T [114])]) : ∃ cs, d = .str (T cs) ∧ IsSide cs := by
  simp only [List.mem_cons, List.not_mem_nil, or_false] at h
  rcases h with rfl | rfl
  · exact ⟨_, rfl, .inl rfl⟩
  · exact ⟨_, rfl, .inr rfl⟩
theorem wp_ne_sb {h : Hs} {p : Bool} {Q : D → Hs → Prop} {X : XQ} (g : Q (.bl false) h) : Wp (R.ofO (gNe h (.str (sB p)) (.str (sB p))) h) Q X := wp_some ne_sb g
theorem wp_eq_sb {h : Hs} {p : Bool} {Q : D → Hs → Prop} {X : XQ} (g : Q (.bl true) h) : Wp (R.ofO (gEq h (.str (sB p)) (.str (sB p))) h) Q X := wp_some eq_sb g
/-! ### dicts -/
theorem wp_d0t {e : Ev} {h : Hs} {Q : D → Hs → Prop} {X : XQ} (g : Q (.ref h.length) (h ++ [.dt []])) : Wp (eD0T e h) Q X := wp_ok g
theorem wp_d0k {e : Ev} {h : Hs} {Q : D → Hs → Prop} {X : XQ} (g : Q (.ref h.length) (h ++ [.dk []])) : Wp (eD0K e h) Q X := wp_ok g
theorem wp_d0 {e : Ev} {h : Hs} {Q : D → Hs → Prop} {X : XQ} (g : Q (.dct [] []) h) : Wp (eD0 e h) Q X := wp_ok g
theorem wp_valsT {f : FE} {e : Ev} {h : Hs} {Q : List D → Hs → Prop} {X : XQ} (g : Wp (f e h) (fun d h => ∃ n kvs, d = .ref n ∧ h[n]? = some (.dt kvs) ∧ Q (kvs.map (·.2)) h) X) : Wp (lValsT f e h) Q X := by
  refine wp_bind (wp_mono g (fun d h' q => ?_) fun _ _ _ x => x)
  obtain ⟨n, kvs, rfl, hn, q⟩ := q
  dsimp only
  rw [hn]
  exact wp_ok q
theorem set_dt {h : Hs} {n : Nat} {kvs : List (List Key × D)} {ds : List D} {k : List Key} {v : D} (hn : h[n]? = some (.dt kvs)) (hk : keysD ds = some k) (hz : kvs.length < sizeLine) : mSetA h (.ref n) (.tup ds) v = some (h.set n (.dt (putG kvs k v))) := by
  unfold mSetA
  dsimp only
  rw [hn]
  dsimp only
  rw [hk]
  dsimp only
  rw [if_pos hz]
end G

/-! # G20: data with dicts and lists: repr -/
namespace G
open PySem PySem.Spec PyProof.Rows L2
def kP : Key → PyData
  | .inl i => .int i
  | .inr s => .str s
mutual
/-- data with dicts; what numbers stand for: r -/
def pdX (r : Nat → Option PyData) : D → Option PyData
  | .non => some .none
  | .bl b => some (.bool b)
  | .int i => some (.int i)
  | .str s => some (.str s)
  | .tup ds => (pdXs r ds).map .tuple
  | .lst ds => (pdXs r ds).map .list
  | .scr _ => none
  | .ref n => r n
  | .ty _ => none
  | .ctp _ => none
  | .dct ks ds => (pdXs r ds).map fun ps => .dict ((ks.map kP).zip ps)
  | .dtp _ _ => none
  | .dlk _ _ => none
  | .dlt _ _ => none
  | .ins _ _ _ => none
  | .glb _ => none
  | .exn _ _ _ => none
def pdXs (r : Nat → Option PyData) : List D → Option (List PyData)
  | [] => some []
  | d :: ds => match pdX r d with
    | some p => match pdXs r ds with | some ps => some (p :: ps) | none => none
    | none => none
end
def pdXH (hs : Hs) : Nat → Nat → Option PyData
  | 0, _ => none
  | k + 1, n => match hs[n]? with
    | some (.lst ds) => (pdXs (pdXH hs k) ds).map .list
    | _ => none
/-- read in the heap, apart from the table of modules -/
def Rdn (h : Heap) (v : Value) (p : PyData) : Prop := ∃ as, Reads h v p as ∧ sysModules ∉ as
def Rdns (h : Heap) (vs : List Value) (ps : List PyData) : Prop := ∃ as, ReadsAll h vs ps as ∧ sysModules ∉ as
theorem Rdns.nil {h : Heap} : Rdns h [] [] := ⟨[], .nil, by simp⟩
theorem Rdns.cons {h : Heap} {v : Value} {p : PyData} {vs : List Value} {ps : List PyData} (a : Rdn h v p) (b : Rdns h vs ps) : Rdns h (v :: vs) (p :: ps) := by
  obtain ⟨as, r, n⟩ := a
  obtain ⟨bs, s, m⟩ := b
  exact ⟨_, .cons r s, by simp [n, m]⟩
theorem pdXs_len {r : Nat → Option PyData} : ∀ {ds : List D} {ps : List PyData}, pdXs r ds = some ps → ps.length = ds.length
  | [], ps, e => by unfold pdXs at e; cases e; rfl
  | d :: ds, ps, e => by
    unfold pdXs at e
    split at e
    · split at e
      · rename_i qs hq
        cases e
        rw [List.length_cons, List.length_cons, pdXs_len hq]
      · cases e
    · cases e
section
variable {X : Cx} {pins : List (Addr × Obj)} {σ : L2.St} {H : Hp} {s : Shared} {mu : Mp} {hs : Hs}
/-- what is tracked is not the table of modules -/
theorem not_sm (I : L2.Inv X pins σ H s) (sm : ∃ o, X.base.get? sysModules = some o) {a : Addr} {u : HO} (h : H a = some u) : sysModules ≠ a := by
  obtain ⟨o, e⟩ := sm
  rintro rfl
  have := (I.bs _ _ e).2
  rw [h] at this; cases this
theorem keys_rd {h : Heap} {P : Program} {w : World} : ∀ {es : List DictEntry} {vs : List (Key × Value)}, Pairs (mixKind P w) es vs → ReadsAll h (es.map (·.key)) ((vs.map (·.1)).map kP) []
  | _, _, .nil => .nil
  | _, _, .cons (e := e) (kv := kv) hk hv t => by
    have r : Reads h e.key (kP kv.1) [] := by
      rcases keyIs_shape (show keyIs kv.1 e.key = true from hk) with ⟨i, tk, h1, h2⟩ | ⟨x, tk, h1, h2⟩
      · rw [h1, h2]; exact .int i tk
      · rw [h1, h2]; exact .str x tk
    exact ReadsAll.cons r (keys_rd t)
theorem vals_pairs {P : Program} {w : World} : ∀ {es : List DictEntry} {vs : List (Key × Value)}, Pairs (mixKind P w) es vs → es.map (·.val) = vs.map (·.2)
  | _, _, .nil => rfl
  | _, _, .cons hk hv t => by rw [List.map_cons, List.map_cons, hv, vals_pairs t]
mutual
theorem rd_reads (I : L2.Inv X pins σ H s) (sm : ∃ o, X.base.get? sysModules = some o) {r : Nat → Option PyData} (hr : ∀ n a p, mu.l[n]? = some a → r n = some p → Rdn s.heap (.ref a) p) : ∀ (d : D) (v : V) (u : Value) (p : PyData), RD X.K mu H d v → RelV v u → pdX r d = some p → Rdn s.heap u p
  | .non, _, _, _, h, r, e => by cases h; cases e; cases r; exact ⟨[], .none, by simp⟩
  | .bl b, _, _, _, h, r, e => by cases h; cases e; cases r; exact ⟨[], .bool b, by simp⟩
  | .int i, _, _, _, h, r, e => by cases h; cases e; obtain ⟨t, rfl⟩ := r; exact ⟨[], .int i t, by simp⟩
  | .str z, _, _, _, h, r, e => by cases h; cases e; obtain ⟨t, rfl⟩ := r; exact ⟨[], .str z t, by simp⟩
  | .ref n, _, _, _, h, r, e => by
    cases h with
    | ref q => cases r; exact hr _ _ _ q e
  | .tup ds, _, _, _, h, r, e => by
    cases h with
    | tup q rr =>
      obtain ⟨ps, h1, h2⟩ := Option.map_eq_some_iff.mp (show (pdXs _ ds).map PyData.tuple = some _ from e)
      subst h2
      cases r
      obtain ⟨its, rv, ⟨o, ho, hc, n, hd⟩, _⟩ := I.tuple q.sq
      obtain ⟨as, hr, hn⟩ := rds_reads I sm hr ds _ _ ps rr rv h1
      exact ⟨as, Reads.tuple ho hc hd hr, hn⟩
  | .lst ds, _, _, _, h, r, e => by
    cases h with
    | lst q z rr =>
      obtain ⟨ps, h1, h2⟩ := Option.map_eq_some_iff.mp (show (pdXs _ ds).map PyData.list = some _ from e)
      subst h2
      cases r
      obtain ⟨_, its, n, rv, ho⟩ := I.hok _ _ q
      obtain ⟨as, hr, hn⟩ := rds_reads I sm hr ds _ _ ps rr rv h1
      refine ⟨_, Reads.list ho rfl rfl (by simpa using hr), ?_⟩
      have := not_sm I sm q
      simp [hn, this]
  | .dct ks ds, _, _, _, h, r, e => by
    cases h with
    | dct q z hl rr =>
      rename_i a vs
      obtain ⟨ps, h1, h2⟩ := Option.map_eq_some_iff.mp (show (pdXs _ ds).map (fun ps => PyData.dict ((ks.map kP).zip ps)) = some _ from e)
      subst h2
      cases r
      obtain ⟨_, hd, ws, rel, o, es, ep, ho, hx, hdat, _, hp, _⟩ := dk_of I.hok q
      have hlv : ks.length = vs.length := by rw [hl, rr.length]
      have k1 : ws.map (·.1) = ks := by
        have : ∀ {l : List (Key × V)} {m : List (Key × Value)}, KV l m → m.map (·.1) = l.map (·.1) := by
          intro l m r
          unfold KV at r
          induction r with
          | nil => rfl
          | cons h t ih => rw [List.map_cons, List.map_cons, ih, h.1]
        rw [this rel, List.map_fst_zip (by omega)]
      have k2 : Vals vs (ws.map (·.2)) := by
        have : ∀ {l : List (Key × V)} {m : List (Key × Value)}, KV l m → Vals (l.map (·.2)) (m.map (·.2)) := by
          intro l m r
          unfold KV at r
          induction r with
          | nil => exact .nil
          | cons h t ih => exact .cons h.2 ih
        have := this rel
        rw [List.map_snd_zip (by omega)] at this
        exact this
      obtain ⟨as, hr, hn⟩ := rds_reads I sm hr ds _ _ ps rr k2 h1
      have hpl := pdXs_len h1
      refine ⟨a :: [] ++ as, Reads.dict ho hx.1 hdat ?_ ?_, ?_⟩
      · rw [List.map_fst_zip (by rw [List.length_map]; omega)]
        have := keys_rd (h := s.heap) hp
        rw [k1] at this
        exact this
      · rw [List.map_snd_zip (by rw [List.length_map]; omega), vals_pairs hp]
        exact hr
      · have := not_sm I sm q
        simp [hn, this]
  | .scr _, _, _, _, _, _, e => nomatch e
  | .ty _, _, _, _, _, _, e => nomatch e
  | .ctp _, _, _, _, _, _, e => nomatch e
  | .dtp _ _, _, _, _, _, _, e => nomatch e
  | .dlk _ _, _, _, _, _, _, e => nomatch e
  | .dlt _ _, _, _, _, _, _, e => nomatch e
  | .ins _ _ _, _, _, _, _, _, e => nomatch e
  | .glb _, _, _, _, _, _, e => nomatch e
  | .exn _ _ _, _, _, _, _, _, e => nomatch e
theorem rds_reads (I : L2.Inv X pins σ H s) (sm : ∃ o, X.base.get? sysModules = some o) {r : Nat → Option PyData} (hr : ∀ n a p, mu.l[n]? = some a → r n = some p → Rdn s.heap (.ref a) p) : ∀ (ds : List D) (vs : List V) (us : List Value) (ps : List PyData), RDs X.K mu H ds vs → Vals vs us → pdXs r ds = some ps → Rdns s.heap us ps
  | [], _, _, _, h, r, e => by cases h; cases r; unfold pdXs at e; cases e; exact .nil
  | d :: ds, _, _, _, h, r, e => by
    cases h with
    | cons h1 h2 =>
      cases r with
      | cons r1 r2 =>
        unfold pdXs at e
        split at e
        · rename_i p hp
          split at e
          · rename_i ps hps
            cases e
            exact .cons (rd_reads I sm hr d _ _ p h1 r1 hp) (rds_reads I sm hr ds _ _ ps h2 r2 hps)
          · cases e
        · cases e
end
end
/-- repr of data, with dicts -/
def okX (p : PyData) : Bool := p.showable && decide (p.depth ≤ 60) && decide (p.shown.length ≤ sizeLine)
def isComp : D → Bool
  | .tup _ => true
  | .lst _ => true
  | .dct _ _ => true
  | .ref _ => true
  | _ => false
def gReprA (hs : Hs) (ds : List D) : Option D := match gRepr hs ds with
  | some w => some w
  | none => (match ds with
    | [d] => if isComp d = true then (match pdX (pdXH hs 40) d with | some p => if okX p = true then some (.str p.shown) else none | none => none) else none
    | _ => none)
end G

/-! # G21: tuples and lists times a number; upper -/
namespace G
open PySem PySem.Spec PyProof.Rows L2
def gMulA (hs : Hs) (d e : D) : Option D := match d with
  | .tup xs => (match e with | .int k => if (!xs.isEmpty && decide (2 ≤ k) && decide (k ≤ 1000) && decide (xs.length ≤ 1000)) = true then some (.tup (List.replicate k.toNat xs).flatten) else none | _ => none)
  | .lst xs => (match e with | .int k => if (decide (-1000 ≤ k) && decide (k ≤ 1000) && decide (xs.length ≤ 1000)) = true then some (.lst (List.replicate k.toNat xs).flatten) else none | _ => none)
  | d => gMul hs d e
section
variable {X : Cx}
/-- text.upper() -/
def mUpper (hs : Hs) (d : D) (ds : List D) : Option (D × Hs) := match ds with
  | [] => (match d with | .str a => if a.length ≤ 5592405 then some (.str (Txt.upper a), hs) else none | _ => none)
  | _ => none
end
end G

/-! # G22: {k: v} by value, one entry with a fixed key -/
namespace G
open PySem PySem.Spec PyProof.Rows L2
section
variable {K : PySem.W.Frag} {mg : Str → Option Value} {mu mu' : Mp} {hs hs' : Hs} {H H' : Hp}
theorem Agr.privI {p : Addr} {u : HO} {o : HO} (h : H p = some u) (i : ¬ Imm u) (nz : ¬ mu.fz p) : Agr mu H mu (upd H p o) :=
  ⟨List.prefix_rfl, fun _ h => h, fun a us e z => by rw [upd_ne (show a ≠ p from fun q => nz (q ▸ z))]; exact e, fun a w e im n => ⟨by
    rw [upd_ne]
    · exact e
    · intro z; rw [z, h] at e; cases e; exact i im, n⟩⟩
theorem Sim.privI {p : Addr} {u : HO} {o : HO} (S : Sim K mg mu hs H) (h : H p = some u) (i : ¬ Imm u) (n : p ∉ mu.l) (nz : ¬ mu.fz p) : Sim K mg mu hs (upd H p o) :=
  ⟨S.len, S.nd, S.dj, fun a z => by
    obtain ⟨u, e⟩ := S.fzl a z
    exact ⟨u, by rw [upd_ne (show a ≠ p from fun q => nz (q ▸ z))]; exact e⟩, fun k q hq => by
    obtain ⟨a, w, e1, e2, e3⟩ := S.obj k q hq
    exact ⟨a, w, e1, by rw [upd_ne (fun z => n (by rw [← z]; exact List.mem_of_getElem? e1))]; exact e2, RO.agr (.privI h i nz) e3⟩⟩
variable {X : Cx} {Wd : WX} {pos p1 : Pos} {i : Int} {j : Nat} {v : Expr} {f : FE}
def eD1 (k : Key) (f : FE) : FE := fun e hs => (f e hs).bind fun d hs => .ok (.dct [k] [d]) hs
end
end G

/-! # G23: a text times a number -/
namespace G
open PySem PySem.Spec PyProof.Rows L2
def repS (x : Str) (n : Int) : Str := ⟨(List.replicate n.toNat x.cps).foldl (· ++ ·) #[]⟩
def gMulS (hs : Hs) (d e : D) : Option D := match d with
  | .str x => (match e with | .int n => if (decide (2 ≤ n) && decide (n ≤ 10000) && decide (x.length ≤ 1000)) = true then some (.str (repS x n)) else none | _ => none)
  | d => gMulA hs d e
end G

/-! # G24: WP rules of what came later -/
namespace G
open PySem PySem.Spec PyProof.Rows L2
section
variable {h hs : Hs} {e : Ev} {Q : D → Hs → Prop} {X : XQ} {p : Bool} {i j : Int} {z : Str} {a : List Nat} {xs : List D}
theorem reprA_b : gReprA h [.bl p] = some (.str (sB p)) := by unfold gReprA; rw [repr_b]
theorem wp_d1 {k : Key} {f : FE} (g : Wp (f e hs) (fun d h => Q (.dct [k] [d]) h) X) : Wp (eD1 k f e hs) Q X := wp_bind (wp_mono g (fun _ _ q => wp_ok q) fun _ _ _ x => x)
theorem mulS_tup {n : Int} (h1 : 2 ≤ n) (h2 : n ≤ 1000) (h3 : xs.isEmpty = false) (h4 : xs.length ≤ 1000) : gMulS h (.tup xs) (.int n) = some (.tup (List.replicate n.toNat xs).flatten) := by
  show gMulA h (.tup xs) (.int n) = _
  unfold gMulA
  dsimp only
  rw [h3, decide_eq_true h1, decide_eq_true h2, decide_eq_true h4]
  rfl
end
end G

/-! # G25: t[::-1] of a tuple -/
namespace G
open PySem PySem.Spec PyProof.Rows L2 HT
section
end
section
variable {prog : Program} {w : World} {A : Around} {E : Value → Shared → Prop} {s : Shared}
end
section
variable {X : Cx} {Wd : WX} {a : Expr} {f1 : FE} {pos : Pos}
/-- t[::-1], a tuple or a list that is read, as a value -/
def gRev (hs : Hs) (d : D) : Option D := match d with
  | .tup ds => some (.tup ds.reverse)
  | .ctp ds => some (.tup ds.reverse)
  | .str z => if z.length ≤ sizeLine then some (.str (T z.cps.toList.reverse)) else none
  | d => (rdOf hs d).map fun ds => .lst ds.reverse
/-- a + b of lists, a new list -/
def lAdd (f1 f2 : FE) : FL := fun e hs => (f1 e hs).bind fun x hs => (f2 e hs).bind fun y hs => match lstOf hs x with
  | some xs => (match lstOf hs y with
    | some ys => if xs.length + ys.length ≤ sizeLine then .ok (xs ++ ys) hs else .bad
    | none => .bad)
  | none => .bad
end
end G

/-! # G26: small data: its repr is a text -/
namespace G
open PySem PySem.Spec PyProof.Rows L2
mutual
def dep : D → Nat
  | .tup ds => deps ds + 1
  | .lst ds => deps ds + 1
  | .dct _ ds => deps ds + 1
  | _ => 0
def deps : List D → Nat
  | [] => 0
  | d :: ds => max (dep d) (deps ds)
end
def kblk : Key → Nat
  | .inl _ => 0
  | .inr s => s.length
mutual
def blk : D → Nat
  | .str s => s.length
  | .tup ds => blks ds
  | .lst ds => blks ds
  | .dct ks ds => (ks.map kblk).sum + ks.length + blks ds
  | _ => 0
def blks : List D → Nat
  | [] => 0
  | d :: ds => blk d + 1 + blks ds
end
def klf : Key → Bool
  | .inl i => decide (i.natAbs < 10 ^ 60)
  | .inr s => okS s
mutual
/-- plain data, whole numbers of at most sixty figures -/
def lf : D → Bool
  | .non => true
  | .bl _ => true
  | .int i => decide (i.natAbs < 10 ^ 60)
  | .str s => okS s
  | .tup ds => lfs ds
  | .lst ds => lfs ds
  | .dct ks ds => ks.all klf && decide (ks.length = ds.length) && lfs ds
  | _ => false
def lfs : List D → Bool
  | [] => true
  | d :: ds => lf d && lfs ds
end
theorem lfs_cons {d : D} {ds : List D} : lfs (d :: ds) = true ↔ lf d = true ∧ lfs ds = true := Bool.and_eq_true _ _ ▸ Iff.rfl
theorem lfs_iff {ds : List D} : lfs ds = true ↔ ∀ x ∈ ds, lf x = true := by
  induction ds with
  | nil => exact ⟨fun _ x h => (nomatch h), fun _ => rfl⟩
  | cons d ds ih => rw [lfs_cons, ih]; simp
theorem lfs_app {xs ys : List D} : lfs (xs ++ ys) = true ↔ lfs xs = true ∧ lfs ys = true := by
  rw [lfs_iff, lfs_iff, lfs_iff]
  simp only [List.mem_append]
  exact ⟨fun h => ⟨fun x hx => h x (.inl hx), fun x hx => h x (.inr hx)⟩, fun h x hx => hx.elim (h.1 x) (h.2 x)⟩
theorem blks_app (xs ys : List D) : blks (xs ++ ys) = blks xs + blks ys := by
  induction xs with
  | nil => exact (Nat.zero_add _).symm
  | cons d ds ih => show blk d + 1 + blks (ds ++ ys) = blk d + 1 + blks ds + blks ys; rw [ih]; omega
theorem blks_mem {xs : List D} {x : D} (h : x ∈ xs) : blk x + 1 ≤ blks xs := by
  induction xs with
  | nil => cases h
  | cons d ds ih =>
    show _ ≤ blk d + 1 + blks ds
    rcases List.mem_cons.mp h with rfl | h
    · omega
    · have := ih h; omega
theorem deps_iff {xs : List D} {k : Nat} : deps xs ≤ k ↔ ∀ x ∈ xs, dep x ≤ k := by
  induction xs with
  | nil => exact ⟨fun _ x h => (nomatch h), fun _ => Nat.zero_le _⟩
  | cons d ds ih =>
    show max (dep d) (deps ds) ≤ k ↔ _
    rw [Nat.max_le, ih]; simp
theorem blks_sub {xs ys : List D} (h : xs.Sublist ys) : blks xs ≤ blks ys := by
  induction h with
  | slnil => exact Nat.le_refl _
  | cons a _ ih => exact Nat.le_trans ih (Nat.le_add_left _ _)
  | cons_cons a _ ih => exact Nat.add_le_add_left ih _
theorem blks_len {xs : List D} : xs.length ≤ blks xs := by
  induction xs with
  | nil => exact Nat.le_refl _
  | cons d ds ih => show ds.length + 1 ≤ blk d + 1 + blks ds; omega

theorem okS_lt {s : Str} (h : okS s = true) : ∀ c ∈ s.cps.toList, c < 0x110000 := by
  intro c hc
  unfold okS at h
  rw [Array.all_eq_true'] at h
  exact of_decide_eq_true (h c (by simpa using hc))
theorem int_lf {i : Int} (h : i.natAbs < 10 ^ 60) : i.natAbs.log2 < 1920 := by
  by_cases z : i.natAbs = 0
  · rw [z]; decide
  · rw [Nat.log2_lt z]
    exact Nat.lt_trans h (by decide +kernel)
structure Good (d : D) (p : PyData) : Prop where
  at_ : ∀ r, pdX r d = some p
  show_ : p.showable = true
  dep_ : p.depth ≤ dep d
  leaf : p.leavesShort 64 = true
  bulk_ : p.bulk ≤ blk d
structure Goods (ds : List D) (ps : List PyData) : Prop where
  at_ : ∀ r, pdXs r ds = some ps
  show_ : PyData.showableAll ps = true
  dep_ : PyData.depthAll ps ≤ deps ds
  leaf : PyData.leavesShortAll 64 ps = true
  bulk_ : PyData.bulkAll ps ≤ blks ds
/-- its repr -/
@[irreducible] def rT (d : D) : Str := match pdX (fun _ => none) d with
  | some p => p.shown
  | none => Str.ofString ""
/-- plain data, not too deep, not too great -/
structure Sm (k n : Nat) (d : D) : Prop where
  lf_ : lf d = true
  dep_ : dep d ≤ k
  blk_ : blk d ≤ n
theorem Sm.mono {k n k' n' : Nat} {d : D} (s : Sm k n d) (hk : k ≤ k') (hn : n ≤ n') : Sm k' n' d := ⟨s.lf_, Nat.le_trans s.dep_ hk, Nat.le_trans s.blk_ hn⟩
/-- many of them: all together no greater than n -/
structure Sms (k n : Nat) (ds : List D) : Prop where
  lf_ : lfs ds = true
  dep_ : deps ds ≤ k
  blk_ : blks ds ≤ n
theorem sms_nil {k : Nat} : Sms k 0 [] := ⟨rfl, Nat.zero_le _, Nat.le_refl _⟩
theorem sms_cons {k n m : Nat} {d : D} {ds : List D} (a : Sm k n d) (b : Sms k m ds) : Sms k (n + 1 + m) (d :: ds) :=
  ⟨lfs_cons.mpr ⟨a.lf_, b.lf_⟩, Nat.max_le.mpr ⟨a.dep_, b.dep_⟩, Nat.add_le_add (Nat.add_le_add_right a.blk_ 1) b.blk_⟩
theorem Sms.app {k n m : Nat} {xs ys : List D} (a : Sms k n xs) (b : Sms k m ys) : Sms k (n + m) (xs ++ ys) :=
  ⟨lfs_app.mpr ⟨a.lf_, b.lf_⟩, deps_iff.mpr fun x hx => (List.mem_append.mp hx).elim (deps_iff.mp a.dep_ x) (deps_iff.mp b.dep_ x), by rw [blks_app]; exact Nat.add_le_add a.blk_ b.blk_⟩
theorem Sms.sub {k n : Nat} {xs ys : List D} (a : Sms k n ys) (h : xs.Sublist ys) : Sms k n xs :=
  ⟨lfs_iff.mpr fun x hx => lfs_iff.mp a.lf_ x (h.subset hx), deps_iff.mpr fun x hx => deps_iff.mp a.dep_ x (h.subset hx), Nat.le_trans (blks_sub h) a.blk_⟩
theorem Sms.mem {k n : Nat} {xs : List D} (a : Sms k n xs) {x : D} (h : x ∈ xs) : Sm k n x :=
  ⟨lfs_iff.mp a.lf_ x h, deps_iff.mp a.dep_ x h, Nat.le_trans (Nat.le_trans (Nat.le_succ _) (blks_mem h)) a.blk_⟩
theorem Sms.mono {k n k' n' : Nat} {d : List D} (s : Sms k n d) (hk : k ≤ k') (hn : n ≤ n') : Sms k' n' d := ⟨s.lf_, Nat.le_trans s.dep_ hk, Nat.le_trans s.blk_ hn⟩
theorem Sms.len {k n : Nat} {d : List D} (s : Sms k n d) : d.length ≤ n := Nat.le_trans blks_len s.blk_
theorem sm_tup {k n : Nat} {ds : List D} (a : Sms k n ds) : Sm (k + 1) n (.tup ds) := ⟨a.lf_, Nat.succ_le_succ a.dep_, a.blk_⟩
theorem sm_int {k n : Nat} {i : Int} (h : i.natAbs < 10 ^ 60) : Sm k n (.int i) := ⟨decide_eq_true h, Nat.zero_le _, Nat.zero_le _⟩
theorem sm_str {k n : Nat} {s : Str} (h : okS s = true) (l : s.length ≤ n) : Sm k n (.str s) := ⟨h, Nat.zero_le _, l⟩
theorem Sm.tup {k n : Nat} {ds : List D} (s : Sm k n (.tup ds)) : Sms (k - 1) n ds := ⟨s.lf_, by have := s.dep_; have h : dep (.tup ds) = deps ds + 1 := rfl; omega, s.blk_⟩
theorem Sm.lst {k n : Nat} {ds : List D} (s : Sm k n (.lst ds)) : Sms (k - 1) n ds := ⟨s.lf_, by have := s.dep_; have h : dep (.lst ds) = deps ds + 1 := rfl; omega, s.blk_⟩
theorem Sm.int {k n : Nat} {i : Int} (s : Sm k n (.int i)) : i.natAbs < 10 ^ 60 := of_decide_eq_true s.lf_
theorem Sm.str {k n : Nat} {z : Str} (s : Sm k n (.str z)) : okS z = true ∧ z.length ≤ n := ⟨s.lf_, s.blk_⟩
/-- plain -/
inductive Pln : D → Prop where
  | non : Pln .non
  | bl (b : Bool) : Pln (.bl b)
  | int (i : Int) : Pln (.int i)
  | str (z : Str) : Pln (.str z)
  | tup (ds : List D) : Pln (.tup ds)
  | lst (ds : List D) : Pln (.lst ds)
  | dct (ks : List Key) (ds : List D) : Pln (.dct ks ds)
theorem Sm.pln {k n : Nat} {d : D} (s : Sm k n d) : Pln d := by
  have := s.lf_
  cases d <;> first | constructor | exact absurd this Bool.false_ne_true
theorem okS_app {a b : Str} (ha : okS a = true) (hb : okS b = true) : okS (a ++ b) = true := by
  unfold okS at *
  show (a.cps ++ b.cps).all _ = true
  rw [Array.all_append, ha, hb]; rfl
end G

/-! # G27: what is a number, a name, an ident, a glove: the program's own looks -/
namespace G
open PySem PySem.Spec PyProof.Rows L2
noncomputable section
abbrev k_LAST_MOMENT : D := (.int 999999)
abbrev k_LAST_NUMBER : D := (.int 99)
abbrev k_LETTERS : D := (.str "abcdefghijklmnopqrstuvwxyz")
abbrev k_LONGEST : D := (.int 8)
abbrev k_MOST_GRADE : D := (.int 2)
abbrev k_MOST_HIGH : D := (.int 138)
abbrev k_MOST_QUARTERS : D := (.int 99)
abbrev k_SIDES : D := (.ctp [(.str "l"), (.str "r")])
def f_is_whole : FS := (sRet (eAnd (eCall gIsi (aCons (eName 0) (aCons (eC (.ty .int)) aNil))) (eNot (eCall gIsi (aCons (eName 0) (aCons (eC (.ty .bool)) aNil))))))
def c_is_whole : List D → Hs → R D := fnBody 1 f_is_whole
def f_is_between : FS := (sRet (eAnd (eFn c_is_whole [0] [] (aCons (eName 0) aNil)) (eChain gLe gLe (eName 1) (eName 0) (eName 2))))
def c_is_between : List D → Hs → R D := fnBody 3 f_is_between
def f_is_name : FS := (sSeq (sIf (tOrF (tNotF (eT (eCall gIsi (aCons (eName 0) (aCons (eC (.ty .str)) aNil))))) (tNotF (eB (eChain gLe gLe (eC (.int 1)) (eCall gLen (aCons (eName 0) aNil)) (eC k_LONGEST))))) (sRet (eC (.bl false))) sSkip)
  (sRet (eCall gAll (aCons (eV (lComp (iAny (eName 0)) (nSet 1) tYesF (eBin gInA (eName 1) (eC k_LETTERS)) [1])) aNil))))
def c_is_name : List D → Hs → R D := fnBody 2 f_is_name
def f_is_size : FS := (sRet (eFn c_is_between [0, 1, 2] [] (aCons (eName 0) (aCons (eC (.int 1)) (aCons (eC k_MOST_QUARTERS) aNil)))))
def c_is_size : List D → Hs → R D := fnBody 1 f_is_size
def f_is_moment : FS := (sRet (eFn c_is_between [0, 1, 2] [] (aCons (eName 0) (aCons (eC (.int 0)) (aCons (eC k_LAST_MOMENT) aNil)))))
def c_is_moment : List D → Hs → R D := fnBody 1 f_is_moment
def f_is_side : FS := (sRet (eAnd (eCall gIsi (aCons (eName 0) (aCons (eC (.ty .str)) aNil))) (eBin gInA (eName 0) (eC k_SIDES))))
def c_is_side : List D → Hs → R D := fnBody 1 f_is_side
def f_is_ident : FS := (sSeq (sIf (tOrF (tNotF (eT (eCall gIsi (aCons (eName 0) (aCons (eC (.ty .tup)) aNil))))) (eB (eBin gNe (eCall gLen (aCons (eName 0) aNil)) (eC (.int 3))))) (sRet (eC (.bl false))) sSkip)
  (sRet (eAnd (eFn c_is_moment [0] [] (aCons (eBin gIx (eName 0) (eC (.int 0))) aNil)) (eAnd (eFn c_is_between [0, 1, 2] [] (aCons (eBin gIx (eName 0) (eC (.int 1))) (aCons (eC (.int 0)) (aCons (eC k_LAST_NUMBER) aNil)))) (eFn c_is_side [0] [] (aCons (eBin gIx (eName 0) (eC (.int 2))) aNil))))))
def c_is_ident : List D → Hs → R D := fnBody 1 f_is_ident
def f_is_grade : FS := (sRet (eAnd (eFn c_is_whole [0] [] (aCons (eName 0) aNil)) (eChain gLe gLe (eC (.int 0)) (eName 0) (eC k_MOST_GRADE))))
def c_is_grade : List D → Hs → R D := fnBody 1 f_is_grade
def f_is_glove : FS := (sSeq (sIf (tOrF (tNotF (eT (eCall gIsi (aCons (eName 0) (aCons (eC (.ty .tup)) aNil))))) (tOrF (eB (eBin gNe (eCall gLen (aCons (eName 0) aNil)) (eC (.int 7)))) (tOrF (tNotF (eT (eFn c_is_ident [0] [] (aCons (eSl (eName 0) oNone (oSome (eC (.int 3)))) aNil)))) (tNotF (eT (eFn c_is_name [0] [] (aCons (eBin gIx (eName 0) (eC (.int 3))) aNil))))))) (sRet (eC (.bl false))) sSkip)
  (sSeq (sAsg (nTup 3 (nCons (nSet 1) (nCons (nSet 2) (nCons (nSet 3) nNil)))) (eSl (eName 0) (oSome (eC (.int 4))) oNone))
  (sSeq (sIf (tOrF (tNotF (eT (eFn c_is_size [0] [] (aCons (eName 1) aNil)))) (tOrF (tNotF (eT (eFn c_is_whole [0] [] (aCons (eName 2) aNil)))) (tNotF (eT (eFn c_is_grade [0] [] (aCons (eName 3) aNil)))))) (sRet (eC (.bl false))) sSkip)
  (sRet (eChain gLe gLe (eName 1) (eName 2) (eC k_MOST_HIGH))))))
def c_is_glove : List D → Hs → R D := fnBody 4 f_is_glove
def f_ident_of : FS := (sRet (eSl (eName 0) oNone (oSome (eC (.int 3)))))
def c_ident_of : List D → Hs → R D := fnBody 1 f_ident_of

end
section
variable {e : Ev} {hs h : Hs} {Q : D → Hs → Prop} {X : XQ}
/-- a comprehension that filters and maps, the heap as it is -/
theorem wp_cfm {f : FI} {g : FG} {t : FT} {el : FE} {vs : List Nat} {Q : List D → Hs → Prop} (p : D → Bool) (F : D → D) (h : Wp (f e hs) (fun nx h => ∃ ds, nx = nxL ds ∧ ds.length ≤ 100000 ∧
    (∀ d ∈ ds, ∃ e', g d (wipeE e vs) = some e' ∧ Wp (t e' h) (fun c h1 => h1 = h ∧ c = p d ∧ (c = true → Wp (el e' h) (fun y h' => y = F d ∧ h' = h) nX)) nX) ∧ Q ((ds.filter p).map F) h) X) : Wp (lComp f g t el vs e hs) Q X := by
  refine wp_comp (wp_mono h (fun nx h' q => ?_) fun _ _ _ x => x)
  obtain ⟨ds, rfl, hl, hd, q⟩ := q
  refine ⟨ds.length, fun i acc h => h = h' ∧ acc = ((ds.take i).filter p).map F, hl, ⟨rfl, rfl⟩, fun i acc h hi ⟨e1, e2⟩ => ?_, fun acc h ⟨e1, e2⟩ => ?_⟩
  · subst e1 e2
    obtain ⟨e', h1, h2⟩ := hd ds[i] (List.getElem_mem hi)
    refine ⟨ds[i], e', nxL_some hi, h1, wp_mono h2 (fun c h3 ⟨z1, z2, z3⟩ => ?_) fun _ _ _ x => x⟩
    subst z1
    have ht : ds.take (i + 1) = ds.take i ++ [ds[i]] := by rw [List.take_add_one, List.getElem?_eq_getElem hi]; rfl
    have hl2 : (((ds.take i).filter p).map F).length ≤ i := by
      rw [List.length_map]
      exact Nat.le_trans (List.length_filter_le _ _) (by rw [List.length_take]; omega)
    refine ⟨fun hc => ⟨by rw [sizeLine_eq]; omega, wp_mono (z3 hc) (fun y h4 ⟨r, z4⟩ => ⟨z4, ?_⟩) fun _ _ _ x => x⟩, fun hc => ⟨rfl, ?_⟩⟩
    · rw [ht, List.filter_append, List.map_append, r]
      congr 1
      rw [List.filter_cons_of_pos (by rw [← z2]; exact hc)]; rfl
    · rw [ht, List.filter_append, List.filter_cons_of_neg (by rw [← z2, hc]; exact Bool.false_ne_true), List.filter_nil, List.append_nil]
  · subst e1 e2
    rw [List.take_length]
    exact ⟨nxL_stop, q⟩
end
@[simp] def isW : D → Bool
  | .int _ => true
  | _ => false
@[simp] def isB (a b : Int) : D → Bool
  | .int i => decide (a ≤ i) && decide (i ≤ b)
  | _ => false
def isC (c : Nat) : Bool := decide (97 ≤ c) && decide (c ≤ 122)
@[simp] def isNa : D → Bool
  | .str z => (decide ((1 : Int) ≤ z.length) && decide ((z.length : Int) ≤ 8)) && z.cps.toList.all isC
  | _ => false
@[simp] def isSd : D → Bool
  | .str z => (("l" : Str) == z) || (("r" : Str) == z)
  | _ => false
@[simp] def isId : D → Bool
  | .tup [a, b, c] => isB 0 999999 a && (isB 0 99 b && isSd c)
  | _ => false
@[simp] def leD : D → D → Bool
  | .int i, .int j => decide (i ≤ j)
  | _, _ => false
@[simp] def isGv : D → Bool
  | .tup [a, b, c, s, lo, hi, g] => isId (.tup [a, b, c]) && (isNa s && (isB 1 99 lo && (isW hi && (isB 0 2 g && (leD lo hi && leD hi (.int 138))))))
  | _ => false
local macro_rules | `(tactic| walk_at "s1") => `(tactic| first
  | ((with_reducible apply wp_name); (case q => rfl))
  | with_reducible refine wp_c ?_
  | with_reducible refine wp_bin ?_
  | with_reducible refine wp_acons ?_
  | with_reducible refine wp_anil ?_
  | with_reducible refine wp_call ?_
  | with_reducible refine wp_fn ?_
  | with_reducible refine wp_fnK ?_
  | with_reducible refine wp_ev ?_
  | with_reducible refine wp_em ?_
  | with_reducible refine wp_tup ?_
  | with_reducible refine wp_eb ?_
  | with_reducible refine wp_et ?_
  | with_reducible refine wp_un ?_
  | with_reducible refine wp_chain ?_
  | with_reducible refine wp_and ?_
  | with_reducible refine wp_or ?_
  | with_reducible refine wp_not ?_
  | with_reducible refine wp_andF ?_
  | with_reducible refine wp_orF ?_
  | with_reducible refine wp_notF ?_
  | with_reducible refine wp_yes ?_
  | with_reducible refine wp_if ?_
  | with_reducible refine wp_sl ?_
  | with_reducible refine wp_onone ?_
  | with_reducible refine wp_osome ?_
  | with_reducible refine wp_rev ?_
  | with_reducible refine wp_list ?_
  | with_reducible refine wp_mt ?_
  | with_reducible refine wp_any ?_
  | with_reducible refine wp_r1 ?_
  | with_reducible refine wp_r2 ?_
  | with_reducible refine ws_seq ?_
  | with_reducible refine ws_set ?_
  | with_reducible refine ws_setC ?_
  | with_reducible refine ws_setCM ?_
  | with_reducible refine ws_if ?_
  | with_reducible refine ws_ret ?_
  | with_reducible refine ws_retN ?_
  | with_reducible refine ws_drop ?_
  | with_reducible refine ws_skip ?_
  | with_reducible refine ws_asg ?_
  | with_reducible refine ws_par ?_
  | with_reducible refine ws_sub ?_
  | with_reducible refine wp_body ?_)
local macro_rules | `(tactic| walk_at "s") => `(tactic| repeat (walk_at "s1"))
local macro_rules | `(tactic| walk_at "q") => `(tactic| first | assumption | decide | omega | rfl)
local macro_rules | `(tactic| walk_at "e1") => `(tactic| first
  | with_reducible refine wp_some add_i ?_
  | with_reducible refine wp_some sub_i ?_
  | with_reducible refine wp_some lt_i ?_
  | with_reducible refine wp_some le_i ?_
  | with_reducible refine wp_some gt_i ?_
  | with_reducible refine wp_some ge_i ?_
  | with_reducible refine wp_some eq_i ?_
  | with_reducible refine wp_some ne_i ?_
  | with_reducible refine wp_some eq_b ?_
  | with_reducible refine wp_some max_i ?_
  | with_reducible refine wp_some min_i ?_
  | with_reducible refine wp_some tup_tup ?_
  | with_reducible refine wp_some tup_lst ?_
  | with_reducible refine wp_some len_tup ?_
  | with_reducible refine wp_some len_lst ?_
  | with_reducible refine wp_some sl_tup ?_
  | with_reducible refine wp_some sl_lst ?_
  | with_reducible refine wp_some tru_b ?_
  | with_reducible refine wp_some repr_b ?_
  | with_reducible refine wp_eq_sb ?_
  | with_reducible refine wp_some seq_lst ?_
  | with_reducible refine wp_some seq_tup ?_
  | ((with_reducible apply wp_ix_tup); (case q => rfl))
  | ((with_reducible apply wp_ix_lst); (case q => rfl))
  | ((with_reducible apply wp_ix_ref); (case p => assumption); (case q => rfl))
  | with_reducible refine wp_some eq_s ?_
  | ((with_reducible refine wp_some (mod_int ?q) ?_); (case q => walk_at "q"))
  | ((with_reducible refine wp_some (div_int ?p ?q) ?_); (case p => walk_at "q"); (case q => walk_at "q"))
  | ((with_reducible refine wp_some (mul_int ?q) ?_); (case q => walk_at "q"))
  | ((with_reducible refine wp_some (add_tup ?q) ?_); (case q => first | omega | exact Nat.le_of_ble_eq_true rfl | (simp; done) | (simp; omega)))
  | ((with_reducible refine wp_some (add_lst ?q) ?_); (case q => first | omega | exact Nat.le_of_ble_eq_true rfl | (simp; done) | (simp; omega)))
  | with_reducible refine Exists.intro _ (And.intro rfl ?_)
  | with_reducible refine Exists.intro _ (Exists.intro _ (And.intro rfl ?_)))
local macro_rules | `(tactic| walk_at "g") => `(tactic| repeat (first | walk_at "s1" | walk_at "e1"))
local macro_rules | `(tactic| walk_at "h1") => `(tactic| first
  | with_reducible refine wp_some ne_b ?_
  | with_reducible refine wp_ne_sb ?_
  | with_reducible refine wp_d0t ?_
  | with_reducible refine wp_d0k ?_
  | with_reducible refine wp_d0 ?_
  | with_reducible refine wp_valsT ?_
  | with_reducible refine wp_some ne_s ?_
  | with_reducible refine wp_some reprA_b ?_
  | with_reducible refine wp_d1 ?_
  | with_reducible refine wp_some isi_non ?_
  | with_reducible refine wp_some isi_bl ?_
  | with_reducible refine wp_some isi_int ?_
  | with_reducible refine wp_some isi_str ?_
  | with_reducible refine wp_some isi_tup ?_
  | with_reducible refine wp_some isi_lst ?_
  | with_reducible refine wp_some isi_dct ?_)
local macro_rules | `(tactic| walk_at "k") => `(tactic| repeat (first | walk_at "s1" | walk_at "e1" | walk_at "h1"))

theorem pln_of {d : D} (l : lf d = true) : Pln d := by
  cases d <;> first | constructor | exact absurd l Bool.false_ne_true
theorem eq_of_wp {r : R D} {x : D} {h : Hs} (w : Wp r (fun d h' => d = x ∧ h' = h) nX) : r = .ok x h := by
  obtain ⟨d, h', e, rfl, rfl⟩ := wp_get w
  exact e
section
variable {h : Hs} {d : D} {k n : Nat}
theorem whole_eq (p : Pln d) : c_is_whole [d] h = .ok (.bl (isW d)) h := by cases p <;> rfl
theorem between_eq {a b : Int} (p : Pln d) : c_is_between [d, .int a, .int b] h = .ok (.bl (isB a b d)) h := by
  cases p with
  | int i =>
    refine eq_of_wp ?_
    unfold c_is_between f_is_between
    refine wp_bodyE [some (.int i), some (.int a), some (.int b)] rfl ?_
    walk_at "k"
    refine wp_of (whole_eq (.int i)) ?_
    walk_at "k"
    refine ⟨fun _ => ?_, tnof⟩
    walk_at "k"
    refine ⟨fun q => ?_, fun q => ⟨?_, rfl⟩⟩
    · walk_at "k"
      refine ⟨?_, rfl⟩
      simp [isB, q]
    · simp [isB, q]
  | _ => rfl
end
local macro_rules | `(tactic| walk_at "p") => `(tactic| first | assumption | (constructor; done) | exact pln_of (by assumption) | exact Sm.pln (by assumption))
local macro_rules | `(tactic| walk_at "b1") => `(tactic| first
  | exact nof
  | exact tnof
  | (refine And.intro ?_ tnof; intro _)
  | (refine And.intro nof ?_; intro _)
  | (refine And.intro ?_ ?_ <;> intro _))
local macro_rules | `(tactic| walk_at "P1") => `(tactic| first
  | ((with_reducible show Wp (c_is_whole _ _) _ _); refine wp_of (whole_eq ?p) ?_; (case p => walk_at "p"))
  | ((with_reducible show Wp (c_is_between _ _) _ _); refine wp_of (between_eq ?p) ?_; (case p => walk_at "p")))
local macro_rules | `(tactic| walk_at "b") => `(tactic| repeat' (first | walk_at "s1" | walk_at "e1" | walk_at "h1" | walk_at "P1" | walk_at "b1"))
local macro_rules | `(tactic| walk_at "z") => `(tactic| first
  | exact (show _ ∧ _ from ⟨rfl, rfl⟩)
  | (refine (show _ ∧ _ from ⟨?_, rfl⟩); first | (simp_all; done) | (simp_all <;> omega)))
local macro_rules | `(tactic| walk_at "bz") => `(tactic| (walk_at "b" <;> try walk_at "z"))

section
variable {h : Hs} {d : D} {k n : Nat}
/-! ### texts -/
theorem signs_len (z : Str) : (signs z).length = z.length := by unfold signs; rw [List.length_map]; exact Array.length_toList
theorem letters_in (c : Nat) : decide (c ∈ ("abcdefghijklmnopqrstuvwxyz" : Str).cps.toList) = isC c := by
  rw [abc_T, T_cps]
  unfold isC
  rw [Bool.eq_iff_iff, decide_eq_true_iff, Bool.and_eq_true, decide_eq_true_iff, decide_eq_true_iff]
  constructor
  · intro h
    have : ∀ x ∈ abc, 97 ≤ x ∧ x ≤ 122 := by decide +kernel
    exact this c h
  · rintro ⟨h1, h2⟩
    have : ∀ i, i < 26 → i + 97 ∈ abc := by decide +kernel
    have := this (c - 97) (by omega)
    rwa [show c - 97 + 97 = c by omega] at this
def sgC (p : Nat → Bool) : D → D
  | .str x => (match sign1 x with | some c => .bl (p c) | none => .non)
  | _ => .non
theorem sgC_map (p : Nat → Bool) (z : Str) : (signs z).map (sgC p) = (z.cps.toList.map p).map D.bl := by
  unfold signs
  rw [List.map_map, List.map_map]; rfl
theorem gAll_bls {bs : List Bool} : gAll h [.lst (bs.map D.bl)] = some (.bl (bs.all id)) := by
  unfold gAll
  show (match rdOf h (.lst (bs.map D.bl)) with | some xs => (match blsOf xs with | some ns => some (D.bl (ns.all id)) | none => none) | none => none) = _
  show (match blsOf (bs.map D.bl) with | some ns => some (D.bl (ns.all id)) | none => none) = _
  rw [blsOf_map]
theorem in_letters {c : Nat} : gInA h (.str ⟨#[c]⟩) (.str "abcdefghijklmnopqrstuvwxyz") = some (.bl (isC c)) := by
  show some (D.bl (decide (c ∈ ("abcdefghijklmnopqrstuvwxyz" : Str).cps.toList))) = _
  rw [letters_in]
theorem name_eq (p : Pln d) (hz : blk d ≤ 100000) : c_is_name [d] h = .ok (.bl (isNa d)) h := by
  cases p with
  | str z =>
    have hz : z.length ≤ 100000 := hz
    have hl : gLen h [.str z] = some (.int z.length) := if_pos (le_line hz)
    refine eq_of_wp ?_
    unfold c_is_name f_is_name
    refine wp_bodyE [some (.str z), none] rfl ?_
    walk_at "k"
    refine ⟨nof, fun _ => ?_⟩
    walk_at "k"
    refine wp_some hl ?_
    walk_at "bz"
    refine wp_cfm (fun _ => true) (sgC isC) ?_
    walk_at "k"
    refine ⟨by rw [signs_len]; exact hz, fun d hd => ?_, ?_⟩
    · unfold signs at hd
      obtain ⟨c, _, rfl⟩ := List.mem_map.mp hd
      refine ⟨_, rfl, ?_⟩
      walk_at "k"
      refine ⟨rfl, rfl, fun _ => ?_⟩
      walk_at "k"
      refine wp_some in_letters ⟨rfl, rfl⟩
    · rw [List.filter_eq_self.mpr (fun _ _ => rfl), sgC_map]
      walk_at "k"
      refine wp_some gAll_bls ?_
      refine (show _ ∧ _ from ⟨?_, rfl⟩)
      simp_all
  | _ => rfl
theorem size_eq (p : Pln d) : c_is_size [d] h = .ok (.bl (isB 1 99 d)) h := by
  refine eq_of_wp ?_
  unfold c_is_size f_is_size
  refine wp_bodyE [some d] rfl ?_
  walk_at "bz"
theorem moment_eq (p : Pln d) : c_is_moment [d] h = .ok (.bl (isB 0 999999 d)) h := by
  refine eq_of_wp ?_
  unfold c_is_moment f_is_moment
  refine wp_bodyE [some d] rfl ?_
  walk_at "bz"
theorem side_eq (p : Pln d) : c_is_side [d] h = .ok (.bl (isSd d)) h := by
  cases p with
  | str z =>
    refine eq_of_wp ?_
    unfold c_is_side f_is_side
    refine wp_bodyE [some (.str z)] rfl ?_
    walk_at "k"
    refine ⟨fun _ => ?_, tnof⟩
    walk_at "k"
    refine wp_some (show _ = some (D.bl (("l" : Str) == z || (("r" : Str) == z || false))) from rfl) ?_
    walk_at "z"
  | _ => rfl
theorem grade_eq (p : Pln d) : c_is_grade [d] h = .ok (.bl (isB 0 2 d)) h := by
  cases p with
  | int i =>
    refine eq_of_wp ?_
    unfold c_is_grade f_is_grade
    refine wp_bodyE [some (.int i)] rfl ?_
    walk_at "bz"
  | _ => rfl
end
/-! ### idents, gloves -/
theorem list3 {t : Type} {ds : List t} (h : ds.length = 3) : ∃ a b c, ds = [a, b, c] := by
  match ds, h with
  | [a, b, c], _ => exact ⟨a, b, c, rfl⟩
theorem list7 {t : Type} {ds : List t} (h : ds.length = 7) : ∃ a b c d e f g, ds = [a, b, c, d, e, f, g] := by
  match ds, h with
  | [a, b, c, d, e, f, g], _ => exact ⟨a, b, c, d, e, f, g, rfl⟩
theorem eqL {t : Type} {ds : List t} {n : Nat} {m : Int} (h : ¬ ds.length = n) (e : m = n) : ((ds.length : Int) == m) = false := by
  subst e
  rw [beq_eq_false_iff_ne]
  omega
theorem lfs3 {a b c : D} (l : lfs [a, b, c] = true) : lf a = true ∧ lf b = true ∧ lf c = true :=
  ⟨(lfs_cons.mp l).1, (lfs_cons.mp (lfs_cons.mp l).2).1, (lfs_cons.mp (lfs_cons.mp (lfs_cons.mp l).2).2).1⟩
section
variable {h : Hs} {d : D} {k n : Nat}
local macro_rules | `(tactic| walk_at "P1") => `(tactic| first
  | ((with_reducible show Wp (c_is_size _ _) _ _); refine wp_of (size_eq ?p) ?_; (case p => walk_at "p"))
  | ((with_reducible show Wp (c_is_moment _ _) _ _); refine wp_of (moment_eq ?p) ?_; (case p => walk_at "p"))
  | ((with_reducible show Wp (c_is_side _ _) _ _); refine wp_of (side_eq ?p) ?_; (case p => walk_at "p"))
  | ((with_reducible show Wp (c_is_grade _ _) _ _); refine wp_of (grade_eq ?p) ?_; (case p => walk_at "p"))
  | ((with_reducible show Wp (c_is_whole _ _) _ _); refine wp_of (whole_eq ?p) ?_; (case p => walk_at "p"))
  | ((with_reducible show Wp (c_is_between _ _) _ _); refine wp_of (between_eq ?p) ?_; (case p => walk_at "p")))
theorem isId_len {ds : List D} (h : ¬ ds.length = 3) : isId (.tup ds) = false := by
  match ds, h with
  | [], _ => rfl
  | [_], _ => rfl
  | [_, _], _ => rfl
  | [_, _, _], h => exact absurd rfl h
  | _ :: _ :: _ :: _ :: _, _ => rfl
theorem isGv_len {ds : List D} (h : ¬ ds.length = 7) : isGv (.tup ds) = false := by
  unfold isGv
  split
  · rename_i e
    cases e
    exact absurd rfl h
  · rfl
theorem ident_eq (l : lf d = true) : c_is_ident [d] h = .ok (.bl (isId d)) h := by
  cases pln_of l with
  | tup ds =>
    refine eq_of_wp ?_
    unfold c_is_ident f_is_ident
    by_cases hl : ds.length = 3
    · obtain ⟨a, b, c, rfl⟩ := list3 hl
      obtain ⟨la, lb, lc⟩ := lfs3 (show lfs [a, b, c] = true from l)
      refine wp_bodyE [some (.tup [a, b, c])] rfl ?_
      walk_at "bz"
    · refine wp_bodyE [some (.tup ds)] rfl ?_
      have e := eqL (m := 3) hl rfl
      have e2 := isId_len hl
      walk_at "k"
      refine ⟨nof, fun _ => ?_⟩
      walk_at "k"
      rw [e]
      walk_at "bz"
  | _ => rfl
local macro_rules | `(tactic| walk_at "P1") => `(tactic| first
  | ((with_reducible show Wp (c_is_name _ _) _ _); refine wp_of (name_eq ?p ?q) ?_; (case p => walk_at "p"); (case q => first | assumption | omega))
  | ((with_reducible show Wp (c_is_ident _ _) _ _); refine wp_of (ident_eq ?p) ?_; (case p => assumption)))
theorem glove_eq (l : lf d = true) (hz : blk d ≤ 100000) : c_is_glove [d] h = .ok (.bl (isGv d)) h := by
  cases pln_of l with
  | tup ds =>
    refine eq_of_wp ?_
    unfold c_is_glove f_is_glove
    by_cases hl : ds.length = 7
    · obtain ⟨a, b, c, s, lo, hi, g, rfl⟩ := list7 hl
      have l := lfs_iff.mp (show lfs [a, b, c, s, lo, hi, g] = true from l)
      have la := l a (by simp); have lb := l b (by simp); have lc := l c (by simp)
      have ls := pln_of (l s (by simp)); have l1 := pln_of (l lo (by simp)); have l2 := pln_of (l hi (by simp)); have l3 := pln_of (l g (by simp))
      have l0 : lf (.tup [a, b, c]) = true := lfs_iff.mpr fun x hx => l x (by simp only [List.mem_cons, List.not_mem_nil, or_false] at hx ⊢; rcases hx with q | q | q <;> simp [q])
      have sz : blk s ≤ 100000 := by
        have h1 : blks [a, b, c, s, lo, hi, g] ≤ 100000 := hz
        have h2 := blks_mem (x := s) (xs := [a, b, c, s, lo, hi, g]) (by simp)
        omega
      refine wp_bodyE [some (.tup [a, b, c, s, lo, hi, g]), none, none, none] rfl ?_
      walk_at "k"
      refine ⟨nof, fun _ => ?_⟩
      walk_at "k"
      refine ⟨nof, fun _ => ?_⟩
      walk_at "k"
      rw [show cutX [a, b, c, s, lo, hi, g] none (some 3) = [a, b, c] from rfl]
      clear l
      walk_at "b"
      · refine (show _ ∧ _ from ⟨?_, rfl⟩)
        rename_i q _
        rw [Bool.not_eq_true'] at q
        show D.bl false = D.bl (isId (.tup [a, b, c]) && _)
        rw [q]; rfl
      all_goals try walk_at "z"
      obtain ⟨i, rfl⟩ : ∃ i, lo = .int i := by cases l1 <;> simp_all
      obtain ⟨j, rfl⟩ : ∃ i, hi = .int i := by cases l2 <;> simp_all
      walk_at "bz"
    · refine wp_bodyE [some (.tup ds), none, none, none] rfl ?_
      have e := eqL (m := 7) hl rfl
      have e2 := isGv_len hl
      walk_at "k"
      refine ⟨nof, fun _ => ?_⟩
      walk_at "k"
      rw [e]
      walk_at "bz"
  | _ => rfl
end
end G

/-! # G28: gloves drawn -/
namespace G
open PySem PySem.Spec PyProof.Rows L2
noncomputable section
end
/-- a name by its signs -/
def NmT (cs : List Nat) : Prop := 1 ≤ cs.length ∧ cs.length ≤ 8 ∧ Lw cs
theorem nm_of {d : D} (h : IsNm d) : ∃ cs, d = .str (T cs) ∧ NmT cs := by
  obtain ⟨cs, rfl, a, b, c⟩ := h
  exact ⟨cs, rfl, a, b, c⟩
/-- a glove by its parts -/
abbrev gl (m n : Int) (sd st : List Nat) (lo hi gr : Int) : D := .tup [.int m, .int n, .str (T sd), .str (T st), .int lo, .int hi, .int gr]
structure Gl (d : D) : Prop where
  ex : ∃ m n sd st lo hi gr, d = gl m n sd st lo hi gr ∧ 0 ≤ m ∧ m ≤ 999999 ∧ 0 ≤ n ∧ n ≤ 99 ∧ IsSide sd ∧ NmT st ∧ 1 ≤ lo ∧ lo ≤ 99 ∧ lo ≤ hi ∧ hi ≤ 138 ∧ 0 ≤ gr ∧ gr ≤ 2
section
variable {L : Nat} {K : Hs → Prop} {h : Hs} {Q : D → Hs → Prop} {X : XQ} {sty : List D}
end
end G

/-! # G29: short texts -/
namespace G
open PySem PySem.Spec PyProof.Rows L2
/-- a text of at most so many signs -/
structure Tx (n : Nat) (z : Str) : Prop where
  ok : okS z = true
  len : z.length ≤ n
theorem str_len (a b : Str) : (a ++ b).length = a.length + b.length := by
  show (a.cps ++ b.cps).size = _
  rw [Array.size_append]; rfl
theorem len_half {a b : Str} {k : Nat} (x : a.length ≤ k / 2) (y : b.length ≤ k / 2) : (a ++ b).length ≤ k := by rw [str_len]; omega
theorem lit_half {s : String} {k : Nat} (h : s.length ≤ k) : (Str.ofString s).length ≤ k := by rw [PySem.ofString_length]; exact h
theorem T_half {cs : List Nat} {k : Nat} (h : cs.length ≤ k) : (T cs).length ≤ k := by rw [T_len]; exact h
theorem okS_iff {z : Str} : okS z = true ↔ ∀ c ∈ z.cps.toList, c < 0x110000 := by
  constructor
  · exact okS_lt
  · intro h
    unfold okS
    rw [Array.all_eq_true']
    intro c hc
    exact decide_eq_true (h c (by simpa using hc))
theorem Tx.mono {n m : Nat} {z : Str} (a : Tx n z) (h : n ≤ m) : Tx m z := ⟨a.ok, Nat.le_trans a.len h⟩
theorem Tx.app {n m : Nat} {a b : Str} (x : Tx n a) (y : Tx m b) : Tx (n + m) (a ++ b) := ⟨okS_app x.ok y.ok, by rw [str_len]; exact Nat.add_le_add x.len y.len⟩
theorem Tx.cut {n : Nat} {a : Str} (x : Tx n a) (lo hi : Option Int) : Tx n (cutS a lo hi) := by
  rw [T_of a, T_cut]
  refine ⟨okS_iff.mpr fun c hc => okS_lt x.ok c (mem_cutX hc), ?_⟩
  rw [T_len]
  unfold cutX
  rw [List.length_take, List.length_drop]
  have := x.len
  have e : a.cps.toList.length = a.length := Array.length_toList
  omega
theorem cut_half {a : Str} {k : Nat} {lo hi : Option Int} (h : a.length ≤ k) : (cutS a lo hi).length ≤ k := by
  rw [T_of a, T_cut, T_len]
  unfold cutX
  rw [List.length_take, List.length_drop]
  have e : a.cps.toList.length = a.length := Array.length_toList
  omega
theorem Tx.T {cs : List Nat} (h : Lw cs) {n : Nat} (l : cs.length ≤ n) : Tx n (T cs) := ⟨lw_ok h, by rw [T_len]; exact l⟩
/-- small letters, figures and the like -/
def Asc (z : Str) : Prop := z.cps.toList.all (· < 128) = true
theorem asc_T {cs : List Nat} (h : Lw cs) : Asc (G.T cs) := List.all_eq_true.mpr fun c hc => decide_eq_true (by have := h c hc; omega)
theorem upper_asc {z : Str} (a : Asc z) : Txt.upper z = G.T (z.cps.toList.map PyProof.Rows.up1) := by
  have := SX.upper_S (a := z.cps.toList) a
  have e : SX.S z.cps.toList = z := (T_of z).symm
  rw [e] at this
  exact this
theorem tx_upper {n : Nat} {z : Str} (a : Asc z) (l : z.length ≤ n) : Tx n (Txt.upper z) := by
  rw [upper_asc a]
  refine ⟨okS_iff.mpr fun c hc => ?_, ?_⟩
  · obtain ⟨b, hb, rfl⟩ := List.mem_map.mp (show c ∈ z.cps.toList.map PyProof.Rows.up1 from hc)
    have := of_decide_eq_true (List.all_eq_true.mp a b hb)
    unfold PyProof.Rows.up1
    split <;> omega
  · rw [T_len, List.length_map]
    have e : z.cps.toList.length = z.length := Array.length_toList
    omega
section
variable {h : Hs} {x y : Str} {i : Int} {xs ys : List D} {e : Ev} {Q : D → Hs → Prop} {X : XQ}
theorem add_str (q : x.length ≤ 50000) (r : y.length ≤ 50000) : gAdd h (.str x) (.str y) = some (.str (x ++ y)) := if_pos (le_line (by omega))
theorem sl_str {lo hi : Option Int} (q : x.length ≤ 100000) : gSl h (.str x) lo hi = some (.str (cutS x lo hi)) := if_pos (le_line q)
theorem len_str (q : x.length ≤ 100000) : gLen h [.str x] = some (.int x.length) := if_pos (le_line q)
theorem upper_str (q : x.length ≤ 100000) : mUpper h (.str x) [] = some (.str (Txt.upper x), h) := if_pos (by omega)
theorem str_int (q : i.natAbs < 10 ^ 60) : gStr h [.int i] = some (.str (toString i : String)) := by
  unfold gStr
  exact if_pos (int_lf q)
theorem eq_same : gEq h (.str x) (.str x) = some (.bl true) := by
  show some (D.bl (x == x)) = _
  rw [beq_self_eq_true]
theorem ne_same : gNe h (.str x) (.str x) = some (.bl false) := by
  show some (D.bl (!(x == x))) = _
  rw [beq_self_eq_true]; rfl
theorem rev_tup : gRev h (.tup xs) = some (.tup xs.reverse) := rfl
theorem rev_lst : gRev h (.lst xs) = some (.lst xs.reverse) := rfl
theorem is_bl {p q : Bool} : gIs h (.bl p) (.bl q) = some (.bl (decide (p = q))) := rfl
theorem isN_bl {p q : Bool} : gIsN h (.bl p) (.bl q) = some (.bl (!decide (p = q))) := rfl
theorem neg_i : gNeg h (.int i) = some (.int (-i)) := rfl
theorem wp_inv {a : Type} {o : Option a} {h : Hs} {Q : a → Hs → Prop} {X : XQ} (w : Wp (R.ofO o h) Q X) : ∃ x, o = some x ∧ Q x h := by
  with_unfolding_all
  cases o with
  | none => exact False.elim w
  | some x => exact ⟨x, rfl, w⟩
theorem wp_lAdd {f1 f2 : FE} {Q : List D → Hs → Prop} (g : Wp (f1 e h) (fun x h1 => Wp (f2 e h1) (fun y h2 => Wp (R.ofO (lstOf h2 x) h2) (fun xs h3 => Wp (R.ofO (lstOf h3 y) h3) (fun ys h4 => (xs.length ≤ 50000 ∧ ys.length ≤ 50000) ∧ Q (xs ++ ys) h4) X) X) X) X) : Wp (lAdd f1 f2 e h) Q X := by
  unfold lAdd
  refine wp_bind (wp_mono g (fun x h1 q => wp_bind (wp_mono q (fun y h2 q => ?_) fun _ _ _ x => x)) fun _ _ _ x => x)
  obtain ⟨xs, e1, q⟩ := wp_inv q
  obtain ⟨ys, e2, ⟨l1, l2⟩, q⟩ := wp_inv q
  rw [e1]
  dsimp only
  rw [e2]
  dsimp only
  rw [if_pos (le_line (by omega))]
  exact wp_ok q
theorem lst_lst : lstOf h (.lst xs) = some xs := rfl
end
section
variable {h : Hs} {x y : Str} {i : Int} {xs ys : List D} {e : Ev} {Q : D → Hs → Prop} {X : XQ}
end
/-! ### by any wish -/
theorem eq_any {r : R D} {x : D} {h : Hs} (w : ∀ (Q : D → Hs → Prop) (X : XQ), Q x h → Wp r Q X) : r = .ok x h := by
  obtain ⟨d, h', e, rfl, rfl⟩ := wp_get (w (fun d h' => d = x ∧ h' = h) nX ⟨rfl, rfl⟩)
  exact e
theorem closeB {Q : D → Hs → Prop} {b b' : Bool} {h : Hs} (c : Q (.bl b) h) (e : b = b') : Q (.bl b') h := e ▸ c
/-- of which kind -/
def tyIs (d : D) (u : Tn) : Bool := match d with
  | .bl _ => isTn .bool u
  | .int _ => isTn .int u
  | .str _ => isTn .str u
  | .tup _ => isTn .tup u
  | .lst _ => isTn .lst u
  | .dct _ _ => isTn .dct u
  | _ => false
theorem isi_pln {h : Hs} {d : D} {u : Tn} (p : Pln d) : gIsi h [d, .ty u] = some (.bl (tyIs d u)) := by cases p <;> rfl
section
variable {h : Hs} {x : Str} {i : Int} {xs : List D}
theorem mulS_str (a : 2 ≤ i) (b : i ≤ 10000) (d : x.length ≤ 1000) : gMulS h (.str x) (.int i) = some (.str (repS x i)) := by
  unfold gMulS
  dsimp only
  rw [decide_eq_true a, decide_eq_true b, decide_eq_true d]
  rfl
theorem mulS_tupA (a : 2 ≤ i) (b : i ≤ 1000) (c : xs.isEmpty = false) (d : xs.length ≤ 1000) : gMulS h (.tup xs) (.int i) = some (.tup (List.replicate i.toNat xs).flatten) := mulS_tup a b c d
theorem pow39 : gPow h (.int 10) (.int 39) = some (.int 1000000000000000000000000000000000000000) := rfl
theorem pow30 : gPow h (.int 10) (.int 30) = some (.int 1000000000000000000000000000000) := rfl
theorem pow40 : gPow h (.int 10) (.int 40) = some (.int 10000000000000000000000000000000000000000) := rfl
theorem tru_non : tru h .non = some false := rfl
theorem tru_int : tru h (.int i) = some (i != 0) := rfl
theorem tru_str (q : x.length ≤ 100000) : tru h (.str x) = some ((x.length : Int) != 0) := if_pos (le_line q)
theorem tru_tup : tru h (.tup xs) = some (!xs.isEmpty) := rfl
end
mutual
theorem val_lf : ∀ {d : D}, lf d = true → val d = true
  | .non, _ => rfl
  | .bl _, _ => rfl
  | .int _, _ => rfl
  | .str _, _ => rfl
  | .tup ds, h => vals_lf (ds := ds) h
  | .lst ds, h => vals_lf (ds := ds) h
  | .dct ks ds, h => vals_lf (ds := ds) ((Bool.and_eq_true _ _).mp (show (ks.all klf && decide (ks.length = ds.length) && lfs ds) = true from h)).2
theorem vals_lf : ∀ {ds : List D}, lfs ds = true → vals ds = true
  | [], _ => rfl
  | d :: ds, h => (Bool.and_eq_true _ _).mpr ⟨val_lf (lfs_cons.mp h).1, vals_lf (lfs_cons.mp h).2⟩
end
/-! ### lengths of lists, by halves -/
section
variable {t : Type} {xs ys : List t} {k : Nat} {h : Hs} {us vs : List D}
theorem app_half (x : xs.length ≤ k / 2) (y : ys.length ≤ k / 2) : (xs ++ ys).length ≤ k := by rw [List.length_append]; omega
theorem cutL_half {lo hi : Option Int} (x : xs.length ≤ k) : (cutX xs lo hi).length ≤ k := Nat.le_trans ((List.take_sublist ..).trans (List.drop_sublist ..)).length_le x
theorem rev_half (x : xs.length ≤ k) : xs.reverse.length ≤ k := by rw [List.length_reverse]; exact x
theorem cons_half {a : t} (x : xs.length ≤ k / 2) (k1 : 2 ≤ k) : (a :: xs).length ≤ k := by rw [List.length_cons]; omega
theorem map_half {u : Type} {f : t → u} (x : xs.length ≤ k) : (xs.map f).length ≤ k := by rw [List.length_map]; exact x
theorem add_tup2 (a : us.length ≤ 50000) (b : vs.length ≤ 50000) : gAdd h (.tup us) (.tup vs) = some (.tup (us ++ vs)) := add_tup (by omega)
theorem add_lst2 (a : us.length ≤ 50000) (b : vs.length ≤ 50000) : gAdd h (.lst us) (.lst vs) = some (.lst (us ++ vs)) := add_lst (by omega)
end
/-! ### things behind -/
section
variable {L n : Nat} {K : Hs → Prop} {h : Hs} {o : O} {ds : List D} {i : Int} {Q : D → Hs → Prop} {X : XQ}
theorem lst_ref (e : h[n]? = some (.lst ds)) : lstOf h (.ref n) = some ds := by
  unfold lstOf
  dsimp only
  rw [e]
theorem len_ref (e : h[n]? = some (.lst ds)) : gLen h [.ref n] = some (.int ds.length) := len_seq (seq_ref e)
theorem tup_ref (e : h[n]? = some (.lst ds)) : gTuple h [.ref n] = some (.tup ds) := by
  show (match rdOf h (.ref n) with | some xs => some (D.tup xs) | none => none) = _
  rw [rd_ref e]
theorem lt_line {m : Nat} (q : m ≤ 100000) : m < sizeLine := by rw [sizeLine_eq]; omega
theorem app_ref2 {d : D} (e : h[n]? = some (.lst ds)) (q : ds.length ≤ 50000) : mAppend h (.ref n) [d] = some (.non, h.set n (.lst (ds ++ [d]))) := app_ref e (lt_line (by omega))
theorem St.wapp (S : St L K h) (sK : Stb L K) : St L K (h ++ [o]) := (S.app (o := o) sK).weak (Nat.le_succ_of_le S.len) fun k => k.1
theorem St.wset (S : St L K h) (sK : Stb L K) (l : L ≤ n) (l2 : 2 < n) : St L K (h.set n o) := by
  obtain ⟨ne, ⟨s, k, h1⟩, ⟨ns, hl, h2⟩⟩ := S.deck
  refine ⟨⟨ne, ⟨s, k, by rw [get_set_ne (by omega)]; exact h1⟩, ⟨ns, hl, by rw [get_set_ne (by omega)]; exact h2⟩⟩, sK _ _ S.keep S.len fun m hm _ _ => get_set_ne (by omega), ?_⟩
  rw [List.length_set]; exact S.len
end
section
variable {n m : Nat} {h : Hs} {ds es : List D}
theorem addL_of {x y : D} (a : lstOf h x = some ds) (b : lstOf h y = some es) (l : ds.length ≤ 50000) (l2 : es.length ≤ 50000) : gAddL h x y = some (.lst (ds ++ es)) := by
  unfold gAddL
  rw [a]
  dsimp only
  rw [b]
  dsimp only
  rw [if_pos (le_line (by omega))]
theorem add_rl (a : h[n]? = some (.lst ds)) (l : ds.length ≤ 50000) (l2 : es.length ≤ 50000) : gAdd h (.ref n) (.lst es) = some (.lst (ds ++ es)) := show gAddL h (.ref n) (.lst es) = _ from addL_of (x := .ref n) (y := .lst es) (lst_ref a) rfl l l2
theorem add_lr (a : h[n]? = some (.lst es)) (l : ds.length ≤ 50000) (l2 : es.length ≤ 50000) : gAdd h (.lst ds) (.ref n) = some (.lst (ds ++ es)) := show gAddL h (.lst ds) (.ref n) = _ from addL_of (x := .lst ds) (y := .ref n) rfl (lst_ref a) l l2
theorem add_rr (a : h[n]? = some (.lst ds)) (b : h[m]? = some (.lst es)) (l : ds.length ≤ 50000) (l2 : es.length ≤ 50000) : gAdd h (.ref n) (.ref m) = some (.lst (ds ++ es)) := show gAddL h (.ref n) (.ref m) = _ from addL_of (x := .ref n) (y := .ref m) (lst_ref a) (lst_ref b) l l2
end
end G

/-! # G30: plain data by bounds: whole numbers, depth, size; texts of plain signs -/
namespace G
open PySem PySem.Spec PyProof.Rows L2
/-! ### plain texts -/
structure Tz (n : Nat) (z : Str) : Prop where
  asc : Asc z
  len : z.length ≤ n
theorem asc_iff {z : Str} : Asc z ↔ ∀ c ∈ z.cps.toList, c < 128 := by
  unfold Asc
  rw [List.all_eq_true]
  exact ⟨fun h c hc => of_decide_eq_true (h c hc), fun h c hc => decide_eq_true (h c hc)⟩
theorem cps_app (a b : Str) : (a ++ b).cps.toList = a.cps.toList ++ b.cps.toList := by
  show (a.cps ++ b.cps).toList = _
  rw [Array.toList_append]
theorem Tz.tx {n : Nat} {z : Str} (t : Tz n z) : Tx n z := ⟨okS_iff.mpr fun c hc => by have := asc_iff.mp t.asc c hc; omega, t.len⟩
theorem Tz.mono {n m : Nat} {z : Str} (a : Tz n z) (h : n ≤ m) : Tz m z := ⟨a.asc, Nat.le_trans a.len h⟩
theorem Tz.app {n m : Nat} {a b : Str} (x : Tz n a) (y : Tz m b) : Tz (n + m) (a ++ b) :=
  ⟨asc_iff.mpr fun c hc => by rw [cps_app] at hc; exact (List.mem_append.mp hc).elim (asc_iff.mp x.asc c) (asc_iff.mp y.asc c), (x.tx.app y.tx).len⟩
theorem Tz.cut {n : Nat} {a : Str} (x : Tz n a) (lo hi : Option Int) : Tz n (cutS a lo hi) :=
  ⟨asc_iff.mpr fun c hc => by rw [T_of a, T_cut] at hc; exact asc_iff.mp x.asc c (mem_cutX hc), (x.tx.cut lo hi).len⟩
theorem Tz.upper {n : Nat} {a : Str} (x : Tz n a) : Tz n (Txt.upper a) := by
  refine ⟨?_, (tx_upper x.asc x.len).len⟩
  rw [upper_asc x.asc, asc_iff]
  intro c hc
  obtain ⟨b, hb, rfl⟩ := List.mem_map.mp (show c ∈ a.cps.toList.map PyProof.Rows.up1 from hc)
  have := asc_iff.mp x.asc b hb
  unfold PyProof.Rows.up1
  split <;> omega
theorem Tz.T {cs : List Nat} (h : Lw cs) {n : Nat} (l : cs.length ≤ n) : Tz n (G.T cs) := ⟨asc_T h, by rw [T_len]; exact l⟩
theorem Tz.one {c n : Nat} (h : c < 128) : Tz (n + 1) ⟨#[c]⟩ := ⟨asc_iff.mpr fun b hb => by
  have : b = c := by simpa using hb
  omega, Nat.le_add_left 1 n⟩
/-! ### plain data, whole numbers up to B -/
def kdn (B : Nat) : Key → Bool
  | .inl i => decide (i.natAbs ≤ B)
  | .inr s => s.cps.toList.all (· < 128)
mutual
def dn (B : Nat) : D → Bool
  | .non => true
  | .bl _ => true
  | .int i => decide (i.natAbs ≤ B)
  | .str s => s.cps.toList.all (· < 128)
  | .tup ds => dns B ds
  | .lst ds => dns B ds
  | .dct ks ds => ks.all (kdn B) && decide (ks.length = ds.length) && dns B ds
  | _ => false
def dns (B : Nat) : List D → Bool
  | [] => true
  | d :: ds => dn B d && dns B ds
end
theorem dns_cons {B : Nat} {d : D} {ds : List D} : dns B (d :: ds) = true ↔ dn B d = true ∧ dns B ds = true := Bool.and_eq_true _ _ ▸ Iff.rfl
theorem dns_iff {B : Nat} {ds : List D} : dns B ds = true ↔ ∀ x ∈ ds, dn B x = true := by
  induction ds with
  | nil => exact ⟨fun _ x h => (nomatch h), fun _ => rfl⟩
  | cons d ds ih => rw [dns_cons, ih]; simp
theorem asc_ok {z : Str} (a : Asc z) : okS z = true := okS_iff.mpr fun c hc => by have := asc_iff.mp a c hc; omega
theorem kdn_lf {B : Nat} (hB : B < 10 ^ 60) {k : Key} (h : kdn B k = true) : klf k = true := by
  cases k with
  | inl i => exact decide_eq_true (Nat.lt_of_le_of_lt (of_decide_eq_true h) hB)
  | inr s => exact asc_ok h
theorem kdn_mono {B C : Nat} (hB : B ≤ C) {k : Key} (h : kdn B k = true) : kdn C k = true := by
  cases k with
  | inl i => exact decide_eq_true (Nat.le_trans (of_decide_eq_true h) hB)
  | inr s => exact h
theorem all_imp {t : Type} {p q : t → Bool} {xs : List t} (i : ∀ x, p x = true → q x = true) (h : xs.all p = true) : xs.all q = true := by
  rw [List.all_eq_true] at *
  exact fun x hx => i x (h x hx)
theorem dct_iff {B : Nat} {ks : List Key} {ds : List D} : dn B (.dct ks ds) = true ↔ (ks.all (kdn B) = true ∧ ks.length = ds.length) ∧ dns B ds = true := by
  show (ks.all (kdn B) && decide (ks.length = ds.length) && dns B ds) = true ↔ _
  rw [Bool.and_eq_true, Bool.and_eq_true, decide_eq_true_iff]
mutual
theorem dn_lf {B : Nat} (hB : B < 10 ^ 60) : ∀ {d : D}, dn B d = true → lf d = true
  | .non, _ => rfl
  | .bl _, _ => rfl
  | .int _, h => decide_eq_true (Nat.lt_of_le_of_lt (of_decide_eq_true h) hB)
  | .str _, h => asc_ok h
  | .tup ds, h => dns_lf hB (ds := ds) h
  | .lst ds, h => dns_lf hB (ds := ds) h
  | .dct ks ds, h => by
    obtain ⟨⟨a, b⟩, c⟩ := dct_iff.mp h
    show (ks.all klf && decide (ks.length = ds.length) && lfs ds) = true
    rw [all_imp (fun x => kdn_lf hB) a, decide_eq_true b, dns_lf hB c]; rfl
theorem dns_lf {B : Nat} (hB : B < 10 ^ 60) : ∀ {ds : List D}, dns B ds = true → lfs ds = true
  | [], _ => rfl
  | d :: ds, h => lfs_cons.mpr ⟨dn_lf hB (dns_cons.mp h).1, dns_lf hB (dns_cons.mp h).2⟩
end
mutual
theorem dn_mono {B C : Nat} (hB : B ≤ C) : ∀ {d : D}, dn B d = true → dn C d = true
  | .non, _ => rfl
  | .bl _, _ => rfl
  | .int _, h => decide_eq_true (Nat.le_trans (of_decide_eq_true h) hB)
  | .str _, h => h
  | .tup ds, h => dns_mono hB (ds := ds) h
  | .lst ds, h => dns_mono hB (ds := ds) h
  | .dct ks ds, h => by
    obtain ⟨⟨a, b⟩, c⟩ := dct_iff.mp h
    exact dct_iff.mpr ⟨⟨all_imp (fun x => kdn_mono hB) a, b⟩, dns_mono hB c⟩
theorem dns_mono {B C : Nat} (hB : B ≤ C) : ∀ {ds : List D}, dns B ds = true → dns C ds = true
  | [], _ => rfl
  | d :: ds, h => dns_cons.mpr ⟨dn_mono hB (dns_cons.mp h).1, dns_mono hB (dns_cons.mp h).2⟩
end
/-- plain data: whole numbers up to B, so deep, so great -/
structure Dd (B k n : Nat) (d : D) : Prop where
  dn_ : dn B d = true
  dep_ : dep d ≤ k
  blk_ : blk d ≤ n
structure Dds (B k n : Nat) (ds : List D) : Prop where
  dn_ : dns B ds = true
  dep_ : deps ds ≤ k
  blk_ : blks ds ≤ n
section
variable {B C k n m k' n' : Nat} {d : D} {ds xs ys : List D} {z : Str} {i : Int} {b : Bool}
theorem Dd.sm (a : Dd B k n d) (hB : B < 10 ^ 60) : Sm k n d := ⟨dn_lf hB a.dn_, a.dep_, a.blk_⟩
theorem Dd.mono (a : Dd B k n d) (hB : B ≤ C) (hk : k ≤ k') (hn : n ≤ n') : Dd C k' n' d := ⟨dn_mono hB a.dn_, Nat.le_trans a.dep_ hk, Nat.le_trans a.blk_ hn⟩
theorem Dds.mono (a : Dds B k n ds) (hB : B ≤ C) (hk : k ≤ k') (hn : n ≤ n') : Dds C k' n' ds := ⟨dns_mono hB a.dn_, Nat.le_trans a.dep_ hk, Nat.le_trans a.blk_ hn⟩
theorem Dd.pln (a : Dd B k n d) : Pln d := by
  have := a.dn_
  cases d <;> first | constructor | exact absurd this Bool.false_ne_true
theorem Dds.app (a : Dds B k n xs) (b : Dds B k m ys) : Dds B k (n + m) (xs ++ ys) :=
  ⟨dns_iff.mpr fun x hx => (List.mem_append.mp hx).elim (dns_iff.mp a.dn_ x) (dns_iff.mp b.dn_ x), deps_iff.mpr fun x hx => (List.mem_append.mp hx).elim (deps_iff.mp a.dep_ x) (deps_iff.mp b.dep_ x), by rw [blks_app]; exact Nat.add_le_add a.blk_ b.blk_⟩
theorem Dds.sub (a : Dds B k n ys) (h : xs.Sublist ys) : Dds B k n xs :=
  ⟨dns_iff.mpr fun x hx => dns_iff.mp a.dn_ x (h.subset hx), deps_iff.mpr fun x hx => deps_iff.mp a.dep_ x (h.subset hx), Nat.le_trans (blks_sub h) a.blk_⟩
theorem Dds.cut (a : Dds B k n xs) (lo hi : Option Int) : Dds B k n (cutX xs lo hi) := a.sub ((List.take_sublist ..).trans (List.drop_sublist ..))
theorem Dds.mem (a : Dds B k n xs) {x : D} (h : x ∈ xs) : Dd B k n x :=
  ⟨dns_iff.mp a.dn_ x h, deps_iff.mp a.dep_ x h, Nat.le_trans (Nat.le_trans (Nat.le_succ _) (blks_mem h)) a.blk_⟩
theorem Dds.len (a : Dds B k n xs) : xs.length ≤ n := Nat.le_trans blks_len a.blk_
theorem Dd.int (s : Dd B k n (.int i)) : i.natAbs ≤ B := of_decide_eq_true s.dn_
theorem Dd.str (s : Dd B k n (.str z)) : Tz n z := ⟨s.dn_, s.blk_⟩
theorem Dd.tup (s : Dd B k n (.tup ds)) : Dds B (k - 1) n ds := ⟨s.dn_, by have := s.dep_; have h : dep (.tup ds) = deps ds + 1 := rfl; omega, s.blk_⟩
end
/-! ### repr of a list that one keeps -/
/-! ### == () -/
def gEqT (hs : Hs) (d e : D) : Option D := match d, e with
  | .tup ds, .tup [] => some (.bl ds.isEmpty)
  | d, e => gEq hs d e
theorem eqT_tup {h : Hs} {ds : List D} : gEqT h (.tup ds) (.tup []) = some (.bl ds.isEmpty) := rfl
theorem rev_str {h : Hs} {z : Str} (q : z.length ≤ 100000) : gRev h (.str z) = some (.str (G.T z.cps.toList.reverse)) := if_pos (le_line q)
end G

/-! # G31: enumerate and zip of lists and tuples -/
namespace G
open PySem PySem.Spec PyProof.Rows L2
open AutoSeq1 (wpAny_loadPart')

theorem meets_enumT (l : Addr) (items : Array Value) (n : Nat) (dct : Option Addr) (sl : Array (Option Value)) :
    Meets (Builtin.«enumerate.__new__» ⟨[.type "enumerate", .ref l], []⟩) (fun _ R s => s.heap.get? l = some { cls := .type "tuple", dict := dct, data := .seq items n, slots := sl } ∧
      R (.ok (.ret (.ref (s.heap.push { cls := .type "tuple_iterator", data := .fields #[.ref l, .int 0 0] }).objs.size)))
        { s with heap := (s.heap.push { cls := .type "tuple_iterator", data := .fields #[.ref l, .int 0 0] }).push { cls := .type "enumerate", data := .fields #[.none, .bool false, .ref s.heap.objs.size, rawInt 0, .none, .none] } }) :=
  .of_wp fun prog w A R s h => by
    obtain ⟨hp, g, d, tk, os⟩ := s; obtain ⟨hl, h⟩ := h
    have hsub := sub_enumerate
    have hL : Heap.IsTuple (Shared.heap ⟨hp, g, d, tk, os⟩) l items := ⟨_, hl, rfl, n, rfl⟩
    wp_walk using wpAny_loadPart' hl
    refine wpAny_stack_any fun st => wpAny_pure ?_
    split
    · rename_i c _ _ _ _ _
      cases (c == Value.type "enumerate")
      · wp_walk using wpAny_loadPart' hl, wpAny_pyIter_tuple hL
        exact ⟨_, rfl, h⟩
      · wp_walk using wpAny_loadPart' hl, wpAny_pyIter_tuple hL
        exact ⟨_, rfl, h⟩
    · wp_walk using wpAny_loadPart' hl, wpAny_pyIter_tuple hL
      exact ⟨_, rfl, h⟩
theorem call_enumT {prog : Program} {w : World} {A : Around} {E : Value → Shared → Prop} {s : Shared} {l : Addr} {items : Array Value} {Q : Value → Shared → Prop} (hL : s.heap.IsTuple l items)
    (h : ∀ h', IsEnum h' (s.heap.objs.size + 1) s.heap.objs.size 0 .none → h'.IsTupleIter s.heap.objs.size l 0 → h'.objs.size = s.heap.objs.size + 2 →
      (∀ b o, s.heap.get? b = some o → h'.get? b = some o) → Q (.ref (s.heap.objs.size + 1)) { s with heap := h' }) :
    wpAny (model prog w) A (call (.type "enumerate") [.ref l]) Q E s := by
  obtain ⟨⟨c, dct, dt, sl⟩, hl, hc, n, hd⟩ := hL
  replace hc : c = .type "tuple" := hc
  replace hd : dt = .seq items n := hd
  subst hc hd
  refine callType_new F.called_enumerate (by decide) (F.typeCall_enumerate_1 _) (F.newCall_enumerate_1 _) (fun obj => F.args_object_init_2 obj _) F.entry_enumerate_new
    (meets_enumT l items n dct sl) ⟨hl, ?_⟩
  have hz : (s.heap.push { cls := .type "tuple_iterator", data := .fields #[.ref l, .int 0 0] }).objs.size = s.heap.objs.size + 1 := Heap.size_push ..
  show _ ∧ _
  rw [hz]
  have he : IsEnum ((s.heap.push { cls := .type "tuple_iterator", data := .fields #[.ref l, .int 0 0] }).push
      { cls := .type "enumerate", data := .fields #[.none, .bool false, .ref s.heap.objs.size, rawInt 0, .none, .none] }) (s.heap.objs.size + 1) s.heap.objs.size 0 .none := by
    have := Heap.get?_push_size (s.heap.push { cls := .type "tuple_iterator", data := .fields #[.ref l, .int 0 0] })
      (o := { cls := .type "enumerate", data := .fields #[.none, .bool false, .ref s.heap.objs.size, rawInt 0, .none, .none] }) rfl
    rw [hz] at this; exact this
  refine ⟨⟨_, he, rfl⟩, h _ he ⟨_, Heap.get?_push_of_some _ (Heap.get?_push_size _ rfl), rfl, rfl⟩ (by rw [Heap.size_push, hz]) fun b o x => Heap.get?_push_of_some _ (Heap.get?_push_of_some _ x)⟩

/-- a tuple's items as they stand, each in a new pair -/
def IteT (K : PySem.W.Frag) (a : Addr) : It :=
  ⟨fun i H => ∃ (xs : List V) (x : V), SqT K H a xs ∧ xs[i]? = some x, fun i H v H' => ∃ T x, v = .ref T ∧ H T = none ∧ H' = upd H T (.tup [.int (i : Nat), x]) ∧ ∀ xs, SqT K H a xs → xs[i]? = some x, fun i H => ∃ xs : List V, SqT K H a xs ∧ xs.length ≤ i⟩
theorem turn_enumT {P : Program} {w : World} {K : PySem.W.Frag} {elts : List Expr} {kk : Nat} {tpos : Pos} (a e it : Addr) :
    Turn P w K (.Tuple elts kk tpos) (IteT K a) [e, it] e (fun i h => (∃ old, IsEnum h e it ((i : Nat) : Int) old) ∧ h.IsTupleIter it a i ∧ e ≠ it) where
  mem := by simp
  obj := fun i h st b hb => by
    obtain ⟨⟨old, he⟩, ⟨o, ho, hc, hd⟩, _⟩ := st
    have e' : b = e ∨ b = it := by simpa using hb
    rcases e' with z | z
    · rw [z]; exact ⟨_, he, fun v q => nomatch q⟩
    · rw [z]; exact ⟨o, ho, fun v q => by rw [hd] at q; cases q⟩
  keep := fun i h h' st k => let ⟨⟨old, he⟩, hi, hne⟩ := st; ⟨⟨old, k e (by simp) _ he⟩, hi.at fun o q => k it (by simp) o q, hne⟩
  item := by
    intro X hP hw hK hc i pins s σ H E I hf st hg
    subst hP hw hK
    obtain ⟨⟨old, he⟩, hit, hne⟩ := st
    obtain ⟨xs, x, hq, hx⟩ := hg
    obtain ⟨its, rv, p, hz⟩ := I.tuple hq
    have p : s.heap.IsTuple a its.toArray := p
    obtain ⟨u, hu, ru⟩ := rv.get hx
    have hel : e < s.heap.objs.size := Heap.lt_size he
    have hil : it < s.heap.objs.size := by obtain ⟨_, q, _⟩ := hit; exact Heap.lt_size q
    have nai : a ≠ it := by
      rintro rfl
      obtain ⟨o, h1, h2, _⟩ := hit
      obtain ⟨o', h1', h2', _⟩ := p
      rw [h1] at h1'; cases h1'
      rw [h2] at h2'
      exact absurd (Value.type.inj h2') (by decide)
    have nae : e ≠ a := by
      rintro rfl
      obtain ⟨o', h1', h2', _⟩ := p
      rw [show s.heap.get? e = _ from he] at h1'; cases h1'
      exact absurd (Value.type.inj h2') (by decide)
    have D : Draws X.prog X.w X.A.in1 it [it, a] its.toArray.size (fun i v => its.toArray[i]? = some v) (fun i h => h.IsTupleIter it a i ∧ h.IsTuple a its.toArray) := Draws.tuple (show X.A.in1.handled = none from I.ok.hd hc) it a nai its.toArray
    have hlt : i < its.toArray.size := by
      rw [List.size_toArray]
      exact (List.getElem?_eq_some_iff.mp hu).1
    refine wpAny_pyNext_enum_itemD D he ⟨hit, p⟩ hlt hne (by simp [hne, nae]) fun x' h' tk hP ho hst hT hsz hk => ?_
    have ex : x' = u := by
      rw [List.getElem?_toArray, hu] at hP
      exact (Option.some.inj hP).symm
    subst ex
    refine ⟨_, rfl, wpAny_letOwnedTupleGo_enum (s := { s with heap := h', toks := tk + 1 }) ho fun h'' he' sb => ?_⟩
    have hT2 : h''.get? s.heap.objs.size = some { cls := .type "tuple", data := .seq #[.int i tk, x'] } := (sb.2 _ (Nat.ne_of_gt hel)).trans hT
    have new : ObjOk X.prog X.w (upd H s.heap.objs.size (.tup [.int (i : Nat), x])) h'' s.heap.objs.size (.tup [.int (i : Nat), x]) :=
      ⟨by show 2 ≤ sizeLine; decide, [.int i tk, x'], .cons ⟨_, rfl⟩ (.cons ru .nil), ⟨_, hT2, rfl, _, rfl⟩⟩
    have I1 : Inv X pins σ (upd H s.heap.objs.size (.tup [.int (i : Nat), x])) { s with heap := h'', toks := tk + 1 } :=
      I.turnedNew (ch := [e, it]) (fun b ob hb q => (sb.2 b (fun z => hb (by simp [z]))).trans (hk b ob (fun z => hb (by simp [z])) (fun z => hb (by simp [z])) q)) hf (Nat.le_refl _) new
    refine ⟨.ref s.heap.objs.size, _, I1, rfl, ⟨_, x, rfl, I.hok.fresh (Nat.le_refl _), rfl, fun ys hy => by rw [I.tuple_inj hy hq]; exact hx⟩, ⟨⟨x', ?_⟩, hst.1.at fun o q => (sb.2 it (Ne.symm hne)).trans q, hne⟩, fun b hb => ?_⟩
    · have e1 : ((i + 1 : Nat) : Int) = (i : Int) + 1 := by omega
      rw [e1]; exact he'
    · have hb' : b < s.heap.objs.size := by
        have e' : b = e ∨ b = it := by simpa using hb
        rcases e' with z | z
        · rw [z]; exact hel
        · rw [z]; exact hil
      rw [upd_ne (Nat.ne_of_lt hb')]
      exact (hf b hb).1
  done := by
    intro X hP hw hK hc i pins s σ H E I hf st hg
    subst hP hw hK
    obtain ⟨⟨old, he⟩, hit, hne⟩ := st
    obtain ⟨xs, hq, hx⟩ := hg
    obtain ⟨its, rv, p, hz⟩ := I.tuple hq
    have p : s.heap.IsTuple a its.toArray := p
    obtain ⟨f0, f1, f2, f3, f4, f5⟩ := hf it (by simp)
    have hl := rv.length
    have hT : s.TypeIs (.ref e) "enumerate" := ⟨_, he, rfl⟩
    unfold pyNext
    refine wpAny_bind (wpAny_attempt (wpAny_callSpecial?_slot (name := Str.ofString "__next__") hT F.slot_enumerate_next
      (wpAny_call_entry F.slot_enumerate_next hT F.entry_enumerate_next ?_ (F.args_enumerate_next_1 _))))
    show wpAny _ _ (field (.ref e) 2 >>= _) _ _ _
    refine wpAny_bind (wpAny_field he rfl (x := .ref it) rfl ?_)
    refine wpAny_bind (wpAny_nextOf_tuple_end (I.ok.hd hc) hit p (by simp; omega) fun h' x he' hx' => ?_)
    obtain ⟨o, ho, hc⟩ := hx'
    refine wpAny_bind (wpAny_isInstance (T := "StopIteration") (b := true) ⟨o, ho, hc⟩ isSubtype_stop ?_)
    exact wpAny_pure ⟨rfl, I.turned (t' := s.toks) (fun b o hb q => he' b o hb q) f0 f1 f3 f4 f5⟩
  self := fun A i s Q E st h => let ⟨⟨_, he⟩, _⟩ := st; wpAny_pyIter_enum he h
def iEnumT (K : PySem.W.Frag) (ta : TA) : TI := fun σ H R => ta σ H fun vs H1 => ∃ a xs, vs = [.ref a] ∧ SqT K H1 a xs ∧ R (IteT K a) H1
theorem pi_enumT {X : Cx} {e : Expr} {ta : TA} {p pos tpos : Pos} {elts : List Expr} {kk : Nat} (hg : L2.Gl X "enumerate") (hm : X.mg "enumerate" = none) (ha : PA X [e] ta) (hs : starEach [e] X.env = [(false, eval e X.env)] := by rfl) :
    PI X (.Tuple elts kk tpos) (.Call (.Name "enumerate" p) [e] [] pos) (iEnumT X.K ta) := by
  refine ⟨fun pins s σ H R I h => ?_⟩
  refine Call_ (ld_blt I hg hm boot_enumerate (PyProof.Rows.callWith_type1 (thn (ha.run pos pins s σ H _ I h) fun us s1 ⟨vs, H1, I1, r1, q1⟩ => ?_) hs rfl))
  obtain ⟨a, xs, ex, hq, q⟩ := q1
  subst ex
  cases r1 with
  | cons r rr =>
    cases rr
    cases r
    obtain ⟨its, rv, p', hz⟩ := I1.tuple hq
    refine call_enumT (show s1.heap.IsTuple a its.toArray from p') fun h' he hit hsz hk => wpAny_pyIter_enum he ?_
    have I2 : Inv X pins σ H1 { s1 with heap := h' } := I1.kept (t' := s1.toks) hk
    refine ⟨s1.heap.objs.size + 1, [s1.heap.objs.size + 1, s1.heap.objs.size], _, _, H1, rfl, I2, turn_enumT a (s1.heap.objs.size + 1) s1.heap.objs.size, ⟨⟨.none, he⟩, hit, Nat.succ_ne_self _⟩, fun b hb => ?_, q⟩
    have e' : b = s1.heap.objs.size + 1 ∨ b = s1.heap.objs.size := by simpa using hb
    have hle : s1.heap.objs.size ≤ b := by
      rcases e' with z | z
      · rw [z]; exact Nat.le_add_right _ _
      · rw [z]; exact Nat.le_refl _
    exact I1.fpOk hle (I1.hok.fresh hle)

/-! ### as functions -/
/-- what is walked, numbered -/
def nxE (nx : Nx) : Nx := fun hs i => (nx hs i).map (Option.map fun d => .tup [.int i, d])
/-- two walked at once -/
def nxZ (nx1 nx2 : Nx) : Nx := fun hs i => match nx1 hs i, nx2 hs i with
  | some (some d), some (some e) => some (some (.tup [d, e]))
  | some none, some _ => some none
  | some _, some none => some none
  | _, _ => none
/-- a list here -/
def lsOf (h : Hs) (d : D) : Option (List D) := match d with
  | .lst ds => some ds
  | .scr ds => some ds
  | .ref n => (match h[n]? with | some (.lst ds) => some ds | _ => none)
  | _ => none
def nxS (d : D) : Nx := fun h i => match lsOf h d with
  | some ds => some ds[i]?
  | none => none
def tpOf (d : D) : Option (List D) := match d with
  | .tup ds => some ds
  | .ctp ds => some ds
  | _ => none
section
variable {K : PySem.W.Frag} {mg : Str → Option Value} {mu mu' : Mp} {H H' : Hp} {hs hs' : Hs} {d : D} {a : Addr} {v : V} {ds : List D}
/-- a list at its place, now and later -/
theorem ls_at (S : Sim K mg mu hs H) (r : RD K mu H d v) (e : lsOf hs d = some ds) : ∃ a vs, v = .ref a ∧ SqL K H a vs ∧ RDs K mu H ds vs := by
  cases r with
  | lst h1 h2 h3 => cases e; exact ⟨_, _, rfl, .of h1, h3⟩
  | scr h1 h3 => cases e; exact ⟨_, _, rfl, h1.sq, h3⟩
  | ref hn =>
    unfold lsOf at e
    dsimp only at e
    split at e
    · rename_i es hd
      cases e
      obtain ⟨u, e1, e2⟩ := S.at hn hd
      cases u <;> first
        | exact ⟨_, _, rfl, .of e1, e2⟩
        | exact e2.elim
    · cases e
  | _ => cases e
theorem tp_at (r : RD K mu H d v) (e : tpOf d = some ds) : ∃ a vs, v = .ref a ∧ SqT K H a vs ∧ RDs K mu H ds vs := by
  cases r with
  | tup h1 h3 => cases e; exact ⟨_, _, rfl, h1.sq, h3⟩
  | ctp h1 h3 => cases e; exact ⟨_, _, rfl, sqT_c h1, h3⟩
  | _ => cases e
theorem new_tup {T : Addr} {x y : V} {d e : D} (s : Sim K mg mu hs H) (n : H T = none) (r : RD K mu H d x) (q : RD K mu H e y) : Lat mu H mu (upd H T (.tup [x, y])) ∧ Sim K mg mu hs (upd H T (.tup [x, y])) ∧ RD K mu (upd H T (.tup [x, y])) (.tup [d, e]) (.ref T) :=
  have l : Lat mu H mu (upd H T (.tup [x, y])) := .new n
  ⟨l, s.new n, .tup ⟨upd_same, s.fresh n⟩ (.cons (RD.agr (l.agr s) r) (.cons (RD.agr (l.agr s) q) .nil))⟩
theorem enumL_ri (S : Sim K mg mu hs H) (r : RD K mu H d (.ref a)) : RI K mg mu H (nxE (nxS d)) (Ite K a) := by
  intro mu' H' hs' l s i
  have r' := RD.agr (l.agr S) r
  unfold nxE nxS
  cases q : lsOf hs' d with
  | none => exact ⟨fun z => (by cases z), fun _ z => (by cases z)⟩
  | some ds =>
    obtain ⟨b, vs, eb, h1, h2⟩ := ls_at s r' q
    cases eb
    dsimp only
    cases q2 : ds[i]? with
    | none => exact ⟨fun _ => ⟨vs, h1, by rw [← h2.length]; exact List.getElem?_eq_none_iff.mp q2⟩, fun _ z => (by cases z)⟩
    | some x =>
      obtain ⟨y, e1, e2⟩ := h2.get q2
      refine ⟨fun z => (by cases z), fun _ z => ?_⟩
      cases z
      refine ⟨⟨vs, y, h1, e1⟩, ?_⟩
      rintro v H2 ⟨T, y', rfl, n, rfl, w⟩
      have := w vs h1
      rw [e1] at this; cases this
      exact new_tup s n (.int _) e2
theorem enumT_ri (S : Sim K mg mu hs H) (r : RD K mu H d (.ref a)) (t : tpOf d = some ds) : RI K mg mu H (nxE (nxL ds)) (IteT K a) := by
  intro mu' H' hs' l s i
  obtain ⟨b, vs, eb, h1, h2⟩ := tp_at (RD.agr (l.agr S) r) t
  cases eb
  unfold nxE nxL
  cases q2 : ds[i]? with
  | none => exact ⟨fun _ => ⟨vs, h1, by rw [← h2.length]; exact List.getElem?_eq_none_iff.mp q2⟩, fun _ z => (by cases z)⟩
  | some x =>
    obtain ⟨y, e1, e2⟩ := h2.get q2
    refine ⟨fun z => (by cases z), fun _ z => ?_⟩
    cases z
    refine ⟨⟨vs, y, h1, e1⟩, ?_⟩
    rintro v H2 ⟨T, y', rfl, n, rfl, w⟩
    have := w vs h1
    rw [e1] at this; cases this
    exact new_tup s n (.int _) e2
end
section
variable {X : Cx} {Wd : WX} {a b : Expr} {fa : FA}
def enOf (h : Hs) (ds : List D) : Option Nx := match ds with
  | [d] => (match tpOf d with
    | some es => some (nxE (nxL es))
    | none => (match lsOf h d with | some _ => some (nxE (nxS d)) | none => none))
  | _ => none
def zpOf (h : Hs) (ds : List D) : Option Nx := match ds with
  | [d, e] => (match tpOf d, tpOf e with
    | some xs, some ys => some (nxZ (nxL xs) (nxL ys))
    | _, _ => (match lsOf h d, lsOf h e with | some _, some _ => some (nxZ (nxS d) (nxS e)) | _, _ => none))
  | _ => none
def iOf (g : Hs → List D → Option Nx) (f : FA) : FI := fun e hs => (f e hs).bind fun ds hs => match g hs ds with | some nx => .ok nx hs | none => .bad
theorem ui_enum {p pos tpos : Pos} {elts : List Expr} {kk : Nat} (hg : L2.Gl X "enumerate") (hm : X.mg "enumerate" = none) (ha : UA X Wd [a] fa) (hs : starEach [a] X.env = [(false, eval a X.env)] := by rfl) :
    UI X Wd (.Tuple elts kk tpos) (.Call (.Name "enumerate" p) [a] [] pos) (iOf enOf fa) := by
  refine PI.imp (PI.or (pi_enum hg hm ha hs) (pi_enumT hg hm ha hs)) fun σ H Q h => ?_
  obtain ⟨e, mu, hs, S, E, g⟩ := h
  unfold iOf at g
  cases q : fa e hs with
  | bad => rw [q] at g; exact g.elim
  | exc c fs hs' => rw [q] at g; exact .inl ⟨e, mu, hs, S, E, by rw [q]; exact g⟩
  | ok ds hs' =>
    rw [q] at g
    dsimp only [R.bind_ok] at g
    cases z : enOf hs' ds with
    | none => rw [z] at g; exact g.elim
    | some nx =>
      rw [z] at g
      unfold enOf at z
      split at z
      · rename_i d
        cases z1 : tpOf d with
        | some es =>
          rw [z1] at z; cases z
          refine .inr ⟨e, mu, hs, S, E, ?_⟩
          rw [q]
          rintro mu1 H1 vs l1 S1 (_ | ⟨r, _ | _⟩)
          obtain ⟨a', us, rfl, h1, h2⟩ := tp_at r z1
          exact ⟨a', us, rfl, h1, g mu1 H1 _ l1 S1 (enumT_ri S1 r z1)⟩
        | none =>
          rw [z1] at z
          dsimp only at z
          cases z2 : lsOf hs' d with
          | none => rw [z2] at z; cases z
          | some es =>
            rw [z2] at z; cases z
            refine .inl ⟨e, mu, hs, S, E, ?_⟩
            rw [q]
            rintro mu1 H1 vs l1 S1 (_ | ⟨r, _ | _⟩)
            obtain ⟨a', us, rfl, h1, h2⟩ := ls_at S1 r z2
            exact ⟨a', us, rfl, h1, g mu1 H1 _ l1 S1 (enumL_ri S1 r)⟩
      · cases z
end
/-! ### != () -/
def gNeT (hs : Hs) (d e : D) : Option D := match d, e with
  | .tup ds, .tup [] => some (.bl (!ds.isEmpty))
  | d, e => gNe hs d e
theorem og_neT {X : Cx} (hu : X.A.units + 64 < cLine) : OpR X (compareOp .NotEq) (rB X.K X.mg gNeT) := by
  rintro pins s σ H x y v u Q I rx ry ⟨mu, hs, d, e, w, S, r1, r2, hg, q⟩
  unfold gNeT at hg
  split at hg
  · rename_i ds
    cases hg
    cases r1 with
    | tup q1 rr1 =>
      cases r2 with
      | tup q2 rr2 =>
        cases rx; cases ry
        obtain ⟨its, rv, it, _⟩ := I.tuple q1.sq
        obtain ⟨its2, rv2, it2, _⟩ := I.tuple q2.sq
        have z2 : its2 = [] := by
          cases rr2
          cases rv2
          rfl
        subst z2
        have z1 : (its.toArray.size == 0) = ds.isEmpty := by
          have h1 := rr1.length
          have h2 := rv.length
          rw [List.size_toArray, ← h2, ← h1]
          cases ds <;> rfl
        refine SeqAt.RcNeAt.tuples (e := fun _ => true) it it2 (by omega) (fun j h1 h2 => by simp at h2) X.prog X.w X.xe _ ?_
        rw [show (!((List.range (min its.toArray.size ([] : List Value).toArray.size)).all (fun _ => true) && its.toArray.size == ([] : List Value).toArray.size)) = !ds.isEmpty from by
          rw [← z1]; simp]
        exact ⟨.bl _, H, I, rfl, fin0 S q (.bl _)⟩
  · exact og_ne hu pins s σ H x y v u Q I rx ry ⟨mu, hs, d, e, w, S, r1, r2, hg, q⟩
theorem neT_tup {h : Hs} {ds : List D} : gNeT h (.tup ds) (.tup []) = some (.bl (!ds.isEmpty)) := rfl
end G

/-! # G32: enumerate, zip as lists; spots of nested tuples -/
namespace G
open PySem PySem.Spec PyProof.Rows L2
def enumL (ds : List D) : List D := (List.range ds.length).zipWith (fun i d => .tup [.int (i : Nat), d]) ds
def zipL (ds es : List D) : List D := ds.zipWith (fun d e => .tup [d, e]) es
theorem enumL_at {ds : List D} {i : Nat} : (enumL ds)[i]? = ds[i]?.map fun d => .tup [.int i, d] := by
  unfold enumL
  rw [List.getElem?_zipWith]
  by_cases h : i < ds.length
  · rw [List.getElem?_range h, List.getElem?_eq_getElem h]; rfl
  · rw [List.getElem?_eq_none (Nat.le_of_not_lt h)]
    cases (List.range ds.length)[i]? <;> rfl
theorem nxE_L {ds : List D} : nxE (nxL ds) = nxL (enumL ds) := by
  funext h i
  show (some ds[i]?).map _ = some _
  rw [enumL_at]; rfl
theorem nxZ_L {ds es : List D} : nxZ (nxL ds) (nxL es) = nxL (zipL ds es) := by
  funext h i
  unfold nxZ nxL zipL
  rw [List.getElem?_zipWith]
  cases ds[i]? <;> cases es[i]? <;> rfl
section
variable {e : Ev} {h : Hs} {X : XQ} {ds es : List D} {d : D}
theorem wp_iOf {g : Hs → List D → Option Nx} {f : FA} {Q : Nx → Hs → Prop} (q : Wp (f e h) (fun ds h => ∃ nx, g h ds = some nx ∧ Q nx h) X) : Wp (iOf g f e h) Q X := by
  refine wp_bind (wp_mono q (fun ds h' ⟨nx, e1, e2⟩ => ?_) fun _ _ _ x => x)
  rw [e1]
  exact wp_ok e2
theorem en_tup : enOf h [.tup ds] = some (nxL (enumL ds)) := by
  show some (nxE (nxL ds)) = _
  rw [nxE_L]
theorem en_lst : enOf h [.lst ds] = some (nxL (enumL ds)) := by
  show some (nxE (nxL ds)) = _
  rw [nxE_L]
theorem zp_tup : zpOf h [.tup ds, .tup es] = some (nxL (zipL ds es)) := by
  show some (nxZ (nxL ds) (nxL es)) = _
  rw [nxZ_L]
theorem zp_lst : zpOf h [.lst ds, .lst es] = some (nxL (zipL ds es)) := by
  show some (nxZ (nxL ds) (nxL es)) = _
  rw [nxZ_L]
end
section
variable {h : Hs} {ds es : List D} {Q : Nx → Prop}
theorem ex_ent (q : Q (nxL (enumL ds))) : ∃ nx, enOf h [.tup ds] = some nx ∧ Q nx := ⟨_, en_tup, q⟩
theorem ex_enl (q : Q (nxL (enumL ds))) : ∃ nx, enOf h [.lst ds] = some nx ∧ Q nx := ⟨_, en_lst, q⟩
theorem ex_zpt (q : Q (nxL (zipL ds es))) : ∃ nx, zpOf h [.tup ds, .tup es] = some nx ∧ Q nx := ⟨_, zp_tup, q⟩
theorem ex_zpl (q : Q (nxL (zipL ds es))) : ∃ nx, zpOf h [.lst ds, .lst es] = some nx ∧ Q nx := ⟨_, zp_lst, q⟩
end
theorem St.k2 {L n : Nat} {K : Hs → Prop} {o : O} {h : Hs} (S : St L (fun g => K g ∧ g[n]? = some o) h) : h[n]? = some o := S.keep.2
/-! ### spots -/
/-- what stands in nested tuples at a path -/
def sub : D → List Nat → Option D
  | d, [] => some d
  | .tup ds, i :: is => (match ds[i]? with | some d => sub d is | none => none)
  | _, _ :: _ => none
noncomputable section
end
def pathD (is : List Nat) : D := .tup (is.map fun i => .int (i : Nat))
def Spot (d s : D) : Prop := ∃ is x, s = pathD is ∧ sub d is = some x
/-- spots of d -/
structure Spots (d : D) (ss : List D) : Prop where
  ok : ∀ s ∈ ss, Spot d s
  ne : 0 < ss.length
  len : ss.length ≤ blk d + 1
section
variable {h : Hs} {X : XQ} {B k n : Nat}
def pre (i : Nat) : D → D
  | .tup es => .tup (.int (i : Nat) :: es)
  | d => d
end
end G

/-! # G33: a part of nested tuples put otherwise -/
namespace G
open PySem PySem.Spec PyProof.Rows L2
section
variable {h : Hs} {X : XQ} {B k n : Nat}
end
end G

/-! # G34: instances of the module's own classes -/
namespace G
open PySem PySem.Spec PyProof.Rows L2

/-- the address of the module's class c -/
def IsC (K : PySem.W.Frag) (c : Str) (C : Addr) : Prop := PySem.W.nsIn K mainGlobals c = some (some (.ref C))
theorem IsC.inj {K : PySem.W.Frag} {c : Str} {C C' : Addr} (a : IsC K c C) (b : IsC K c C') : C = C' := by
  unfold IsC at a b
  rw [a] at b; cases b; rfl
/-- an instance's class and attributes -/
def insOf (h : Hs) (d : D) : Option (Str × List (Str × D)) := match d with
  | .ins c ks ds => some (c, ks.zip ds)
  | .ref n => (match h[n]? with | some (.ins c kvs) => some (c, kvs) | _ => none)
  | _ => none
section
variable {K : PySem.W.Frag} {mg : Str → Option Value} {mu mu' : Mp} {H H' : Hp} {hs hs' : Hs} {d : D} {a : Addr} {v : V} {c : Str} {kvs : List (Str × D)}
theorem RKs.zipL {k : Type} : ∀ {ks : List k} {ds : List D} {vs : List V}, ks.length = ds.length → RDs K mu H ds vs → RKs K mu H (ks.zip ds) (ks.zip vs)
  | [], [], _, _, .nil => .nil
  | k :: ks, d :: ds, _, h, .cons r t => .cons r (RKs.zipL (by simpa using h) t)
theorem ins_at (S : Sim K mg mu hs H) (r : RD K mu H d v) (e : insOf hs d = some (c, kvs)) : ∃ a C dx vs, v = .ref a ∧ IsC K c C ∧ H a = some (.ins C dx vs) ∧ RKs K mu H kvs vs := by
  cases r with
  | ins g h z l rr =>
    cases e
    exact ⟨_, _, _, _, rfl, g, h, RKs.zipL l rr⟩
  | ref hn =>
    unfold insOf at e
    dsimp only at e
    split at e
    · rename_i c' k' hd
      cases e
      obtain ⟨u, e1, e2⟩ := S.at hn hd
      cases u <;> first
        | exact ⟨_, _, _, _, rfl, e2.1, e1, e2.2⟩
        | exact e2.elim
    · cases e
  | _ => cases e
end
/-! ### made -/
/-- a new instance, begun by init -/
def mkR (c : Str) (fn : List D → Hs → R D) (ds : List D) (hs : Hs) : R D := match fn ds (hs ++ [.ins c []]) with
  | .ok .non hs' => .ok (.ref hs.length) hs'
  | .ok _ _ => .bad
  | .exc c fs hs' => .exc c fs hs'
  | .bad => .bad
/-- C(e, .., k = ..) -/
def eMk (c : Str) (fn : List D → Hs → R D) (is : List Nat) (dds : List D) (fa fk : FA) : FE := fun e hs => (fa e hs).bind fun ds hs => (fk e hs).bind fun zs hs => mkR c fn (selL is (.ref hs.length :: ds) zs dds) hs
section
variable {X : Cx} {Wd : WX} {k n : Nat} {f C : Addr} {fd : FuncData} {ps ks : List Str} {fn : List D → Hs → R D} {dds : List D} {dvs : List V} {ds : List Value} {is : List Nat} {x c : Str} {p pos kpos : Pos} {e : Expr} {es : List Expr} {fa fk : FA} {kws : List Keyword}
theorem runMk {pins : List (Addr × Obj)} {σ : L2.St} {H : Hp} {s : Shared} {Q : VK} {us ws : List Value} {vs zs : List V} (M : Mk X.K C f) (hC : IsC X.K c C) (F : FnG X.prog X.w X.K X.mg X.base k f fd ps (spU X.K X.mg ps.length fn)) (hr : Room (k + 1) X.A) (hgd : X.A.guards = some []) (tk : Takes X Wd)
    (hb : BindK X.K fd ps (n + 1) ks is ds) (hd : Vals dvs ds) (hdd : ∀ mu H, RDs X.K mu H dds dvs) (I : Inv X pins σ H s) (r : Vals vs us) (rz : Vals zs ws) (hn : us.length = n) (hks : ws.length = ks.length)
    (h : ∃ mu hs es qs, Sim X.K X.mg mu hs H ∧ RDs X.K mu H es vs ∧ RDs X.K mu H qs zs ∧ (selL is (.ref hs.length :: es) qs dds).length = ps.length ∧ Gd (relD X.K) X.K X.mg Wd σ mu H Q (mkR c fn (selL is (.ref hs.length :: es) qs dds) hs)) :
    wpAny (model X.prog X.w) X.A (call (.ref C) us (ks.zip ws)) (EP X pins σ Q) X.xe s := by
  obtain ⟨mu, hs, es, qs, S, r1, r2, hl, g⟩ := h
  have hx := I.hok.fresh (Nat.le_succ s.heap.objs.size)
  have hdx := I.hok.fresh (Nat.le_refl s.heap.objs.size)
  have hne : s.heap.objs.size ≠ s.heap.objs.size + 1 := Nat.ne_of_lt (Nat.lt_succ_self _)
  have I2 := Inv.made (C := C) I
  have S1 := S.new (o := .own (s.heap.objs.size + 1)) hdx
  have hx1 : upd H s.heap.objs.size (.own (s.heap.objs.size + 1)) (s.heap.objs.size + 1) = none := by rw [upd_ne hne.symm]; exact hx
  have ro : RO X.K X.mg mu (upd H s.heap.objs.size (.own (s.heap.objs.size + 1))) (.ins c []) (.ins C s.heap.objs.size []) := ⟨hC, .nil⟩
  have S2 := S1.newOwn hx1 ro
  have l2 : Lat mu H (mu.own (s.heap.objs.size + 1)) (upd (upd H s.heap.objs.size (.own (s.heap.objs.size + 1))) (s.heap.objs.size + 1) (.ins C s.heap.objs.size [])) := (Lat.new hdx).trans (Lat.newOwn S1 hx1)
  have a2 := l2.agr S
  have hsp : spU X.K X.mg ps.length fn (selL is (.ref (s.heap.objs.size + 1) :: vs) zs dvs) (upd (upd H s.heap.objs.size (.own (s.heap.objs.size + 1))) (s.heap.objs.size + 1) (.ins C s.heap.objs.size [])) (fun v H2 => v = .non ∧ Q (.ref (s.heap.objs.size + 1)) H2) (WE Wd σ) := by
    refine ⟨_, _, _, S2, RDs.sel (.cons (.ref (getElem?_own S.len)) (RDs.agr a2 r1)) (RDs.agr a2 r2) (hdd _ _) is, hl, ?_⟩
    unfold mkR at g
    cases q : fn (selL is (.ref hs.length :: es) qs dds) (hs ++ [.ins c []]) with
    | ok d hs' =>
      rw [q] at g
      cases d with
      | non =>
        rintro mu' H' y l s' (_ | _)
        refine ⟨rfl, g mu' H' _ (l2.trans l) s' (.ref ?_)⟩
        obtain ⟨t, e2⟩ := l.pre
        rw [← e2, List.getElem?_append_left (by show _ < (mu.l ++ [_]).length; rw [List.length_append, S.len]; exact Nat.lt_succ_self _)]
        exact getElem?_own S.len
      | _ => exact g.elim
    | exc c fs hs' => rw [q] at g; exact fun mu' H' cls dx l s' rx => g mu' H' cls dx (l2.trans l) s' rx
    | bad => rw [q] at g; exact g.elim
  have rv : Vals (V.ref (s.heap.objs.size + 1) :: vs) (Value.ref (s.heap.objs.size + 1) :: us) := .cons rfl r
  refine wpAny_call (make_map (f := f) I.kIn M.makes M.init (beq_iff_eq.mp M.fn) (codeAny_mono (F.run _ X.stack _ _ ⟨Value.ref (s.heap.objs.size + 1) :: us, ks.zip ws⟩ (selL is (Value.ref (s.heap.objs.size + 1) :: us) ws ds) _ _ (WE Wd σ) (hr.make C us (ks.zip ws)) hgd
    (I2.env0.make C us (ks.zip ws)) (hb _ (Value.ref (s.heap.objs.size + 1) :: us) ws I2.kIn (by rw [List.length_cons, hn]) hks) (Vals.sel rv rz hd is) hsp) fun r s' hq' => ?_))
  cases r with
  | error e => exact passAt tk σ pins _ _ e s' I2 hq'
  | ok fl =>
    cases fl with
    | ret u =>
      obtain ⟨v, H', I3, rv', ev, q3⟩ := I2.after hq'
      subst ev
      exact ⟨rv', ⟨V.ref (s.heap.objs.size + 1), H', I3, rfl, q3⟩⟩
    | next => exact False.elim hq'
    | brk => exact False.elim hq'
    | cont => exact False.elim hq'
/-- what arguments and keywords gave, for a step that takes both -/
theorem tG_argsM {σ : L2.St} {H : Hp} {Q : VK} (h : tG (relD X.K) X.K X.mg Wd (eMk c fn is dds fa fk) σ H Q) :
    tG (relA X.K) X.K X.mg Wd fa σ H (fun vs H1 => tG (relA X.K) X.K X.mg Wd fk σ H1 (fun zs H2 => ∃ mu hs es qs, Sim X.K X.mg mu hs H2 ∧ RDs X.K mu H2 es vs ∧ RDs X.K mu H2 qs zs ∧ (∃ ev h0 h1, fa ev h0 = .ok es h1) ∧ (∃ ev h0 h1, fk ev h0 = .ok qs h1) ∧ Gd (relD X.K) X.K X.mg Wd σ mu H2 Q (mkR c fn (selL is (.ref hs.length :: es) qs dds) hs))) := by
  obtain ⟨ev, mu, hs, S, E, g⟩ := h
  refine ⟨ev, mu, hs, S, E, ?_⟩
  unfold eMk at g
  cases q : fa ev hs with
  | ok es hs1 =>
    rw [q] at g
    rw [R.bind_ok] at g
    intro mu1 H1 vs l1 S1 r1
    refine ⟨ev, mu1, hs1, S1, E.agr (l1.agr S), ?_⟩
    cases q2 : fk ev hs1 with
    | ok qs hs2 =>
      rw [q2] at g
      rw [R.bind_ok] at g
      exact fun mu2 H2 zs l2 S2 r2 => ⟨mu2, hs2, es, qs, S2, RDs.agr (l2.agr S1) r1, r2, ⟨ev, hs, _, q⟩, ⟨ev, hs1, _, q2⟩, Gd.later relD_ok (l1.trans l2) g⟩
    | exc c fs hs' => rw [q2] at g; exact fun mu' H' cls dx l s rr => g mu' H' cls dx (l1.trans l) s rr
    | bad => rw [q2] at g; exact g
  | exc c fs hs' => rw [q] at g; exact g
  | bad => rw [q] at g; exact g
variable {k' : Nat}
/-- all that a call by values, keywords and defaults of a class asks -/
theorem ue_mk (B : Bd X Wd k') (M : Mk X.K C f) (hC : IsC X.K c C) (F : FnG X.prog X.w X.K X.mg X.base k f fd ps (spU X.K X.mg ps.length fn)) (hr : k + 1 ≤ k') (hm : X.mg x = some (.ref C))
    (hb : BindK X.K fd ps ((e :: es).length + 1) ks is ds) (hd : Vals dvs ds) (hdd : ∀ mu H, RDs X.K mu H dds dvs) (ha : UA X Wd (e :: es) fa) (hkw : UK X Wd kws fk)
    (hla : ∀ ev hs qs hs', fa ev hs = .ok qs hs' → qs.length = (e :: es).length) (hlk : ∀ ev hs qs hs', fk ev hs = .ok qs hs' → qs.length = ks.length)
    (hi : is.all (fun i => decide (i < (e :: es).length + 1 + ks.length + dds.length)) = true := by decide) (hl : is.length = ps.length := by rfl) (hg : L2.Gl X x := by rfl)
    (hall : (backToKw pos (keywordEach kws X.env)).all (·.1.isSome) = true := by rfl) (hks : (backToKw pos (keywordEach kws X.env)).filterMap (·.1) = ks := by rfl)
    (hdb : (x == ("__debug__" : Str)) = false := by decide) (he : starEach (e :: es) X.env = (false, eval e X.env) :: starEach es X.env := by rfl)
    (hpl : ((backTo pos (starEach (e :: es) X.env)).any (·.1) || (backToKw pos (keywordEach kws X.env)).any (·.1.isNone)) = false := by rfl) :
    UE X Wd (.Call (.Name x p) (e :: es) kws pos) (eMk c fn is dds fa fk) := by
  refine ⟨fun pins s σ H Q I h => ?_⟩
  refine wpAny_Call_Name_kw (ld_glob I hg hm ?_ hdb)
  refine PySem.W.callWith_KW (h₀ := X.base) I.ok.mod.kin M.kp hall (thn (ha.run pos pins s σ H _ I (tG_argsM h)) fun us s1 ⟨vs, H1, I1, r, q⟩ => ?_) hpl he
  refine thn (hkw.run pos pins s1 σ H1 _ I1 q) fun ws s2 ⟨zs, H2, I2, rz, mu2, hs2, es2, qs2, S2, r1, r2, ⟨_, _, _, q1⟩, ⟨_, _, _, q2⟩, g2⟩ => ⟨I2.kIn, ?_⟩
  rw [hks]
  have z1 := hla _ _ _ _ q1
  have z2 := hlk _ _ _ _ q2
  exact runMk (us := us) (n := (e :: es).length) M hC F (B.room.mono hr) B.gd B.tk hb hd hdd I2 r rz (by rw [← r.length, ← r1.length, z1]) (by rw [← rz.length, ← r2.length, z2])
    ⟨mu2, hs2, es2, qs2, S2, r1, r2, by rw [selL_len _ _ _ _ (by rw [List.length_cons, z1, z2]; exact all_lt hi), hl], g2⟩
end
/-! ### attributes -/
/-- e.f, of an instance of one of the classes cs -/
def gFld (cs : List Str) (f : Str) (h : Hs) (d : D) : Option D := match insOf h d with
  | some (c, kvs) => if cs.contains c then kvs.lookup f else none
  | none => none
/-- each of the classes cs lets its attribute f be -/
def Flds (K : PySem.W.Frag) (cs : List Str) (f : Str) : Prop := ∀ c ∈ cs, ∀ C, IsC K c C → L2.Cls K C ∧ NoAttr K C f
theorem Flds.one {K : PySem.W.Frag} {c f : Str} {C : Addr} (hC : IsC K c C) (a : L2.Cls K C) (b : NoAttr K C f) : Flds K [c] f := fun c' h C' h' => by
  rw [List.mem_singleton.mp h] at h'
  rw [h'.inj hC]
  exact ⟨a, b⟩
theorem contains_mem {cs : List Str} {c : Str} (h : cs.contains c = true) : c ∈ cs := by simpa using h
section
variable {X : Cx} {Wd : WX} {o e value : Expr} {f : Str} {pos pos' : Pos} {fe fv : FE} {cs : List Str}
theorem ue_fld (F : Flds X.K cs f) (he : UE X Wd e fe) (hb : attributeBase e f X.env (eval e X.env) = eval e X.env := by rfl) : UE X Wd (.Attribute e f pos) (eUn (gFld cs f) fe) := by
  refine PE.imp (pe_fld he hb) fun σ H Q h => ?_
  obtain ⟨ev, mu, hs, S, E, q⟩ := tG_seq (r := relD X.K) relD_ok h
  refine ⟨ev, mu, hs, S, E, q.imp fun x H1 ⟨e, mu1, hs1, d, S1, E1, r1, g1⟩ => ?_⟩
  unfold gFld at g1
  cases z : insOf hs1 d with
  | none => rw [z] at g1; exact g1.elim
  | some p =>
    obtain ⟨c, kvs⟩ := p
    rw [z] at g1
    dsimp only at g1
    by_cases hc : cs.contains c = true
    · rw [if_pos hc] at g1
      obtain ⟨a, C, dx, vs, rfl, hC, ha, rk⟩ := ins_at S1 r1 z
      obtain ⟨c1, c2⟩ := F c (contains_mem hc) C hC
      cases q2 : kvs.lookup f with
      | none => rw [q2] at g1; exact g1.elim
      | some w =>
        rw [q2] at g1
        obtain ⟨u, h1, h2⟩ := RKs.lookup rk q2
        exact ⟨a, C, dx, vs, u, rfl, ha, c1, c2, h1, g1 mu1 H1 u .refl S1 h2⟩
    · rw [if_neg hc] at g1; exact g1.elim
end
/-- an attribute put -/
def putD (f : Str) (v : D) : List (Str × D) → List (Str × D)
  | [] => [(f, v)]
  | (g, x) :: r => if g = f then (g, v) :: r else (g, x) :: putD f v r
theorem RKs.putF {K : PySem.W.Frag} {mu : Mp} {H : Hp} {f : Str} {d : D} {v : V} (r : RD K mu H d v) : ∀ {kvs : List (Str × D)} {vs : List (Str × V)}, RKs K mu H kvs vs → RKs K mu H (putD f d kvs) (L2.putF f v vs)
  | _, _, .nil => .cons r .nil
  | _, _, .cons (x := g) q t => by
    show RKs K mu H (if g = f then _ else _) (if g = f then _ else _)
    by_cases h : g = f
    · rw [if_pos h, if_pos h]; exact .cons r t
    · rw [if_neg h, if_neg h]; exact .cons q (RKs.putF r t)
/-- e.f = value -/
def sFld (cs : List Str) (f : Str) (fv fo : FE) : FS := sBind fv fun v => sBind fo fun o e hs => match o with
  | .ref n => (match hs[n]? with
    | some (.ins c kvs) => if cs.contains c = true ∧ kvs.length < 1000 then .nx e (hs.set n (.ins c (putD f v kvs))) else .bad
    | _ => .bad)
  | _ => .bad
section
variable {X : Cx} {Wd : WX} {o value : Expr} {f : Str} {pos pos' : Pos} {fo fv : FE} {cs : List Str}
theorem us_fld (F : Flds X.K cs f) (ho : UE X Wd o fo) (hv : UE X Wd value fv) (hs : swapsWith value (some (.Attribute o f pos')) pos.line X.env = pure false := by rfl) : US X Wd (.Assign [.Attribute o f pos'] value pos) (sFld cs f fv fo) := by
  refine PS.imp (ps_fld ho hv hs) fun D σ H h => ?_
  obtain ⟨e, mu, hs, S, E, q⟩ := tS_bind (r := relD X.K) h
  refine ⟨e, mu, hs, S, E, q.imp fun x H1 ⟨e, mu1, hs1, d, S1, E1, r1, g1⟩ => ?_⟩
  refine ⟨e, mu1, hs1, S1, E1, ?_⟩
  unfold sBind at g1
  cases q2 : fo e hs1 with
  | bad => rw [q2] at g1; exact g1.elim
  | exc c fs hs' => rw [q2] at g1; exact fun mu' H' cls dx l s rx => g1 mu' H' σ cls dx l s (E1.agr (l.agr S1)) rx
  | ok o2 hs2 =>
    rw [q2] at g1
    intro mu2 H2 y l2 S2 r2
    dsimp only at g1
    cases r2 with
    | ref hn =>
      dsimp only at g1
      split at g1
      · rename_i c kvs hd
        split at g1
        · rename_i hc
          obtain ⟨u, e1, e2⟩ := S2.at hn hd
          cases u <;> first
            | (rename_i C dx vs
               obtain ⟨c1, c2⟩ := F c (contains_mem hc.1) C e2.1
               have rk : RKs X.K mu2 H2 kvs vs := e2.2
               refine ⟨_, C, dx, vs, rfl, e1, c1, c2, by rw [← rk.length]; exact hc.2, ?_⟩
               have w := RKs.putF (f := f) (RD.agr (l2.agr S1) r1) rk
               have lw : Lat mu2 H2 mu2 (upd H2 _ (.ins C dx (L2.putF f x vs))) := .write hn
               exact g1 mu2 _ σ (l2.trans lw) (S2.write hn ⟨e2.1, w⟩) ((E1.agr (l2.agr S1)).agr (lw.agr S2)))
            | exact e2.elim
        · exact g1.elim
      · exact g1.elim
    | _ => exact g1.elim
end
/-! ### methods -/
/-- o.m(e, .., k = ..), o an instance of c -/
def eMth (c m : Str) (fn : List D → Hs → R D) (is : List Nat) (dds : List D) (fo : FE) (fa fk : FA) : FE := fun e hs => (fo e hs).bind fun o hs => match insOf hs o with
  | some (c', kvs) => if c' = c ∧ kvs.lookup m = none then (fa e hs).bind fun ds hs => (fk e hs).bind fun zs hs => fn (selL is (o :: ds) zs dds) hs else .bad
  | none => .bad
section
variable {X : Cx} {Wd : WX} {k k' n : Nat} {f C : Addr} {fd : FuncData} {ps ks : List Str} {fn : List D → Hs → R D} {dds : List D} {dvs : List V} {ds : List Value} {is : List Nat} {m c : Str} {apos pos kpos : Pos} {o e : Expr} {es : List Expr} {fo : FE} {fa fk : FA} {kws : List Keyword}
/-- what a method call asks of the class -/
structure MthK (K : PySem.W.Frag) (c : Str) (C : Addr) (m : Str) (f : Addr) : Prop where
  isC : IsC K c C
  cls : L2.Cls K C
  mth : Meth K C m f
end
end G

/-! # G35: str, repr, len of own instances; f-strings -/
namespace G
open PySem PySem.Spec PyProof.Rows L2

section
variable {X : Cx} {k : Nat} {f C : Addr} {fd : FuncData} {ps : List Str} {fn : List D → Hs → R D} {c : Str} {pins : List (Addr × Obj)} {σ : L2.St} {s : Shared} {H : Hp} {mu : Mp} {hs hs' : Hs}
/-- what str, repr, len ask of a class -/
structure SpK (K : PySem.W.Frag) (c : Str) (C : Addr) (nm : Str) (f : Addr) : Prop where
  isC : IsC K c C
  at_ : PySem.W.findIn K (.ref C) nm = some (some (.ref f))
  fn : PySem.W.isFn K (.ref f) = true
def eOwn (g : Hs → List D → Option (D × Hs)) (fa : FA) : FE := fun e hs => (fa e hs).bind fun ds hs => R.ofP (g hs ds)
end
section
variable {X : Cx} {Wd : WX} {k k' : Nat} {f C : Addr} {fd : FuncData} {ps : List Str} {fn : List D → Hs → R D} {c : Str} {e : Expr} {es : List Expr} {fa : FA} {p pos : Pos}
end
end G

/-! # G36: f-strings; what holds behind the constructs of instances -/
namespace G
open PySem PySem.Spec PyProof.Rows L2

/-! ### f-strings -/
def eJs : List FE → Str → FE
  | [], acc => fun _ hs => .ok (.str acc) hs
  | f :: fs, acc => fun e hs => (f e hs).bind fun d hs => match d with
    | .str y => if (acc ++ y).length ≤ sizeLine then eJs fs (acc ++ y) e hs else .bad
    | _ => .bad
section
variable {X : Cx} {Wd : WX} {e : Expr} {es : List Expr} {f : FE} {fs : List FE} {pos : Pos}
inductive UJ (X : Cx) (Wd : WX) : List Expr → List FE → Prop where
  | nil : UJ X Wd [] []
  | cons {e : Expr} {f : FE} {es : List Expr} {fs : List FE} (h : UE X Wd e f) (r : UJ X Wd es fs) : UJ X Wd (e :: es) (f :: fs)
end
/-! ### behind them -/
section
variable {a b : Type} {Q : D → Hs → Prop} {X : XQ} {e : Ev} {hs h : Hs} {c m f : Str} {fn : List D → Hs → R D} {is : List Nat} {dds : List D} {fo fv : FE} {fa fk : FA} {P : Po}
theorem wp_mk (q : Wp (fa e h) (fun ds h => Wp (fk e h) (fun zs h => Wp (fn (selL is (.ref h.length :: ds) zs dds) (h ++ [.ins c []])) (fun d h' => d = .non ∧ Q (.ref h.length) h') X) X) X) : Wp (eMk c fn is dds fa fk e h) Q X := by
  refine wp_bind (wp_mono q (fun ds h1 q => wp_bind (wp_mono q (fun zs h2 q => ?_) fun _ _ _ x => x)) fun _ _ _ x => x)
  unfold mkR
  with_unfolding_all
  unfold Wp at q ⊢
  cases z : fn (selL is (.ref h2.length :: ds) zs dds) (h2 ++ [.ins c []]) with
  | ok d h' =>
    rw [z] at q
    obtain ⟨rfl, q⟩ := q
    exact q
  | exc c fs h' => rw [z] at q; exact q
  | bad => rw [z] at q; exact q
theorem wp_mth (q : Wp (fo e h) (fun o h => ∃ kvs, insOf h o = some (c, kvs) ∧ kvs.lookup m = none ∧ Wp (fa e h) (fun ds h => Wp (fk e h) (fun zs h => Wp (fn (selL is (o :: ds) zs dds) h) Q X) X) X) X) : Wp (eMth c m fn is dds fo fa fk e h) Q X := by
  refine wp_bind (wp_mono q (fun o h1 q => ?_) fun _ _ _ x => x)
  obtain ⟨kvs, h2, h3, q⟩ := q
  rw [h2]
  dsimp only
  rw [if_pos ⟨rfl, h3⟩]
  exact wp_bind (wp_mono q (fun _ _ q => wp_bind q) fun _ _ _ x => x)
theorem wp_eown {g : Hs → List D → Option (D × Hs)} (q : Wp (fa e h) (fun ds h => Wp (R.ofP (g h ds)) Q X) X) : Wp (eOwn g fa e h) Q X := wp_bind q
theorem ws_fld {cs : List Str} (q : Wp (fv e h) (fun v h => Wp (fo e h) (fun o h => ∃ n c kvs, o = .ref n ∧ h[n]? = some (.ins c kvs) ∧ cs.contains c = true ∧ kvs.length < 1000 ∧ P.nx e (h.set n (.ins c (putD f v kvs)))) (fun c fs h => P.ex c fs e h)) (fun c fs h => P.ex c fs e h)) : Ws (sFld cs f fv fo e h) P := by
  refine ws_bind (wp_mono q (fun v h1 q => ws_bind (wp_mono q (fun o h2 q => ?_) fun _ _ _ x => x)) fun _ _ _ x => x)
  obtain ⟨n, c, kvs, rfl, h3, h4, h5, q⟩ := q
  dsimp only
  rw [h3]
  dsimp only
  rw [if_pos ⟨h4, h5⟩]
  with_unfolding_all exact q
theorem wp_js0 {acc : Str} (q : Q (.str acc) h) : Wp (eJs [] acc e h) Q X := wp_ok q
theorem wp_js1 {acc : Str} {f : FE} {fs : List FE} (q : Wp (f e h) (fun d h => ∃ y, d = .str y ∧ (acc ++ y).length ≤ sizeLine ∧ Wp (eJs fs (acc ++ y) e h) Q X) X) : Wp (eJs (f :: fs) acc e h) Q X := by
  refine wp_bind (wp_mono q (fun d h1 q => ?_) fun _ _ _ x => x)
  obtain ⟨y, rfl, h2, q⟩ := q
  dsimp only
  rw [if_pos h2]
  exact q
/-! values -/
end
end G

/-! # G37: defs with defaults; short forms for the printer -/
namespace G
open PySem PySem.Spec PyProof.Rows L2

/-- a def of the text with defaults dvs -/
abbrev FunF (K : PySem.W.Frag) (x qual : Str) (st : Stmt) (dvs : List V) (f : Addr) (fd : FuncData) : Prop := FunD K x qual (defArgs st) (defBody st) (defScope st) dvs [] f fd
section
variable {P : Program} {w : World} {K : PySem.W.Frag} {mg : Str → Option Value} {base : Heap} {x qual : Str} {st : Stmt} {f : Addr} {fd : FuncData} {ps ks : List Str} {n : Nat} {is : List Nat} {dvs : List V}
theorem funF_ok {N : List Str} {k : Nat} (F : FunF K x qual st dvs f fd) (hsm : ∃ o, base.get? sysModules = some o) (S : FnScope N ps (defScope st)) (b : FS)
    (hb : ∀ (cdv : Value) (A : Around) (outer : List Env) (s : Shared) (H : Hp) (E : XK), Bd (cxOf (L2.CX P w) P w K mg base N qual (defScope st) f cdv A outer s H E) (fun cls dx _ H' => E cls dx H') k →
      USs (cxOf (L2.CX P w) P w K mg base N qual (defScope st) f cdv A outer s H E) (fun cls dx _ H' => E cls dx H') (defBody st) b) : FnG P w K mg base (k + 1) f fd ps (spU K mg ps.length (fnBody N.length b)) := by
  obtain ⟨oc, od, dV, kV, doc, pm, an, cdv, ct, osl, rfl, lk, hcd, hD, hK⟩ := F.ex
  exact fnG_of hsm lk hcd S b fun A outer s H E B => hb cdv A outer s H E B
/-- some defaults are read -/
theorem bindKD_of (F : FunF K x qual st dvs f fd) (hd : dvs ≠ []) (h : ∀ (T : Addr) (kV doc pm : Value) (an : Option Addr) (cdv ct : Value) (us its ws : List Value), us.length = n → its.length = dvs.length → ws.length = ks.length →
      ∃ k, bindArgs (PySem.W.fnOf x qual (defArgs st) (defBody st) (defScope st) (.ref T) kV doc pm an cdv ct) ⟨us, ks.zip ws⟩ = seqItems? (.ref T) >>= k ∧ k (some its.toArray) = pure (ps.zip (selL is us ws its))) : ∃ its, Vals dvs its ∧ BindK K fd ps n ks is its := by
  obtain ⟨oc, od, dV, kV, doc, pm, an, cdv, ct, osl, rfl, lk, hcd, hD, hK⟩ := F.ex
  rcases hD with ⟨e, _⟩ | ⟨_, T, o, its, m, rfl, lT, oT, rT⟩
  · exact absurd e hd
  · refine ⟨its, rT, fun s us ws X l1 l2 => ?_⟩
    obtain ⟨k, e1, e2⟩ := h T kV doc pm an cdv ct us its ws l1 rT.length.symm l2
    refine BindsTo.of_looks fun M => ?_
    rw [e1]
    exact looks_items X lT oT (.of_pure e2)
/-- none is read -/
theorem bindKN_of (F : FunF K x qual st dvs f fd) (hd : dvs ≠ []) (h : ∀ (T : Addr) (kV doc pm : Value) (an : Option Addr) (cdv ct : Value) (us its ws : List Value), us.length = n → its.length = dvs.length → ws.length = ks.length →
      bindArgs (PySem.W.fnOf x qual (defArgs st) (defBody st) (defScope st) (.ref T) kV doc pm an cdv ct) ⟨us, ks.zip ws⟩ = pure (ps.zip (selL is us ws its))) : ∃ its, Vals dvs its ∧ BindK K fd ps n ks is its := by
  obtain ⟨oc, od, dV, kV, doc, pm, an, cdv, ct, osl, rfl, lk, hcd, hD, hK⟩ := F.ex
  rcases hD with ⟨e, _⟩ | ⟨_, T, o, its, m, rfl, lT, oT, rT⟩
  · exact absurd e hd
  · exact ⟨its, rT, fun s us ws X l1 l2 => .of_eq (h T kV doc pm an cdv ct us its ws l1 rT.length.symm l2)⟩
theorem funF_mk {oc : Value} {od an : Option Addr} {osl : Array (Option Value)} {dV kV doc pm cdv ct : Value} (l : K.lookup f = some ⟨oc, od, .func (PySem.W.fnOf x qual (defArgs st) (defBody st) (defScope st) dV kV doc pm an cdv ct), osl⟩)
    (c : PySem.W.codeIn K cdv qual = true) (k : PySem.W.keepIn K (.ref f) = true) (d : DflV K dV dvs) : FunF K x qual st dvs f (PySem.W.fnOf x qual (defArgs st) (defBody st) (defScope st) dV kV doc pm an cdv ct) :=
  ⟨⟨oc, od, dV, kV, doc, pm, an, cdv, ct, osl, rfl, l, c, d, .inl rfl⟩, k⟩
end
section
variable {X : Cx} {Wd : WX} {k k' n : Nat} {f C : Addr} {fd : FuncData} {ps ks : List Str} {fn : List D → Hs → R D} {dds : List D} {dvs : List V} {is : List Nat} {x : Str} {p pos kpos : Pos} {e : Expr} {es : List Expr} {fa fk : FA} {kws : List Keyword}
theorem ue_mkD {c : Str} (B : Bd X Wd k') (M : Mk X.K C f) (hC : IsC X.K c C) (F : FnG X.prog X.w X.K X.mg X.base k f fd ps (spU X.K X.mg ps.length fn)) (hr : k + 1 ≤ k') (hm : X.mg x = some (.ref C))
    (hbd : ∃ its, Vals dvs its ∧ BindK X.K fd ps ((e :: es).length + 1) ks is its) (hdd : ∀ mu H, RDs X.K mu H dds dvs) (ha : UA X Wd (e :: es) fa) (hkw : UK X Wd kws fk)
    (hla : ∀ ev hs qs hs', fa ev hs = .ok qs hs' → qs.length = (e :: es).length) (hlk : ∀ ev hs qs hs', fk ev hs = .ok qs hs' → qs.length = ks.length)
    (hi : is.all (fun i => decide (i < (e :: es).length + 1 + ks.length + dds.length)) = true := by decide) (hl : is.length = ps.length := by rfl) (hg : L2.Gl X x := by rfl)
    (hall : (backToKw pos (keywordEach kws X.env)).all (·.1.isSome) = true := by rfl) (hks : (backToKw pos (keywordEach kws X.env)).filterMap (·.1) = ks := by rfl)
    (hdb : (x == ("__debug__" : Str)) = false := by decide) (he : starEach (e :: es) X.env = (false, eval e X.env) :: starEach es X.env := by rfl)
    (hpl : ((backTo pos (starEach (e :: es) X.env)).any (·.1) || (backToKw pos (keywordEach kws X.env)).any (·.1.isNone)) = false := by rfl) :
    UE X Wd (.Call (.Name x p) (e :: es) kws pos) (eMk c fn is dds fa fk) := by
  obtain ⟨its, hd, hb⟩ := hbd
  exact ue_mk B M hC F hr hm hb hd hdd ha hkw hla hlk hi hl hg hall hks hdb he hpl
end
/-! attributes of several classes -/
theorem Flds.nil {K : PySem.W.Frag} {f : Str} : Flds K [] f := fun c h => by cases h
theorem Flds.cons {K : PySem.W.Frag} {c f : Str} {cs : List Str} {C : Addr} (hC : IsC K c C) (a : L2.Cls K C) (b : NoAttr K C f) (r : Flds K cs f) : Flds K (c :: cs) f := fun c' h C' h' => by
  rcases List.mem_cons.mp h with rfl | h
  · rw [h'.inj hC]; exact ⟨a, b⟩
  · exact r c' h C' h'
/-- a value made, by value -/
theorem wp_egc {f : FE} {e : Ev} {hs : Hs} {Q : D → Hs → Prop} {X : XQ} (h : Wp (f e hs) (fun d h1 => ∃ d', dW (dH h1 hs.length 50) d = some d' ∧ Cls hs h1 ∧ Q d' (h1.take hs.length))
    (fun c fs h1 => ∃ ds, dWs (dH h1 hs.length 50) (fs.map (·.2)) = some ds ∧ Cls hs h1 ∧ X c ((fs.map (·.1)).zip ds) (h1.take hs.length))) : Wp (eGc f e hs) Q X := wp_gcR h
/-- nothing below has changed -/
theorem cls_app {hs t : Hs} : Cls hs (hs ++ t) := fun k hk => .inl (List.getElem?_append_left hk)
theorem take_app {hs t : Hs} : (hs ++ t).take hs.length = hs := List.take_left
theorem set_app {hs : Hs} {o o' : O} : (hs ++ [o]).set hs.length o' = hs ++ [o'] := by
  rw [List.set_append_right _ _ (Nat.le_refl _), Nat.sub_self]; rfl
theorem dH_new {hs : Hs} {c : Str} {kvs : List (Str × D)} (v : vals (kvs.map (·.2)) = true) : dW (dH (hs ++ [.ins c kvs]) hs.length 50) (.ref hs.length) = some (.ins c (kvs.map (·.1)) (kvs.map (·.2))) :=
  dH_ins (k := 49) get_new (Nat.le_refl _) v
end G

/-! # G38: Skins: made, their attributes, len and text -/
namespace G
open PySem PySem.Spec PyProof.Rows L2
noncomputable section
end
section
variable {h : Hs} {Q : D → Hs → Prop} {X : XQ} {z s g d : D}
/-- a Skin -/
def skD (z s g : D) : D := .ins "Skin" ["zones", "stretch", "grade"] [z, s, g]
def skF (z s g : D) : List (Str × D) := [("zones", z), ("stretch", s), ("grade", g)]
theorem sk_ins : insOf h (skD z s g) = some (Str.ofString "Skin", skF z s g) := rfl
theorem sk_sk : ([Str.ofString "Skin"].contains (Str.ofString "Skin")) = true := by decide +kernel
theorem sk_ne1 : (Str.ofString "stretch" == Str.ofString "zones") = false := by decide +kernel
theorem sk_ne2 : (Str.ofString "grade" == Str.ofString "zones") = false := by decide +kernel
theorem sk_ne3 : (Str.ofString "grade" == Str.ofString "stretch") = false := by decide +kernel
theorem lk_here {k : Str} {d : D} {r : List (Str × D)} : List.lookup k ((k, d) :: r) = some d := by rw [List.lookup_cons, beq_self_eq_true]
theorem lk_next {k k' : Str} {d : D} {r : List (Str × D)} (n : (k == k') = false) : List.lookup k ((k', d) :: r) = List.lookup k r := by rw [List.lookup_cons, n]
theorem fld_at {c f : Str} {kvs : List (Str × D)} {cs : List Str} {o : D} (hi : insOf h o = some (c, kvs)) (hc : cs.contains c = true) : gFld cs f h o = kvs.lookup f := by
  unfold gFld
  rw [hi]
  exact if_pos hc
theorem sk_zones : gFld ["Skin"] "zones" h (skD z s g) = some z := (fld_at sk_ins sk_sk).trans lk_here
theorem sk_stretch : gFld ["Skin"] "stretch" h (skD z s g) = some s := (fld_at sk_ins sk_sk).trans ((lk_next sk_ne1).trans lk_here)
theorem sk_grade : gFld ["Skin"] "grade" h (skD z s g) = some g := (fld_at sk_ins sk_sk).trans ((lk_next sk_ne2).trans ((lk_next sk_ne3).trans lk_here))
/-! ### its text -/
end
end G

/-! # G39: a list times a number; == of like data -/
namespace G
open PySem PySem.Spec PyProof.Rows L2
section
variable {X : Cx} {Wd : WX} {a b : Expr} {f1 f2 : FE} {pos : Pos}
/-- [..] * n -/
def lRep (f1 f2 : FE) : FL := fun e hs => (f1 e hs).bind fun x hs => (f2 e hs).bind fun y hs => match lstOf hs x with
  | some xs => (match y with
    | .int k => if 0 ≤ k ∧ k ≤ 1000 ∧ xs.length ≤ 1000 then .ok (List.replicate k.toNat xs).flatten hs else .bad
    | _ => .bad)
  | none => .bad
end
section
variable {e : Ev} {h : Hs} {X : XQ} {xs : List D} {i : Int}
theorem wp_lRep {f1 f2 : FE} {Q : List D → Hs → Prop} (q : Wp (f1 e h) (fun x h1 => Wp (f2 e h1) (fun y h2 => ∃ xs k, lstOf h2 x = some xs ∧ y = .int k ∧ (0 ≤ k ∧ k ≤ 1000 ∧ xs.length ≤ 1000) ∧ Q (List.replicate k.toNat xs).flatten h2) X) X) : Wp (lRep f1 f2 e h) Q X := by
  refine wp_bind (wp_mono q (fun x h1 q => wp_bind (wp_mono q (fun y h2 q => ?_) fun _ _ _ x => x)) fun _ _ _ x => x)
  obtain ⟨xs, k, e1, rfl, e2, q⟩ := q
  rw [e1]
  dsimp only
  rw [if_pos e2]
  exact wp_ok q
/-! ### like data -/
end
end G

/-! # G40: gloves: what they are, their measures -/
namespace G
open PySem PySem.Spec PyProof.Rows L2
section
variable {h : Hs} {Q : D → Hs → Prop} {X : XQ} {d : D} {n k : Nat}
theorem int_bl {b : Bool} : gInt h [.bl b] = some (.int (if b then 1 else 0)) := by cases b <;> rfl
theorem ne_ss {z : Str} : gNe h (.str z) (.str z) = some (.bl false) := by unfold gNe; rw [eq_str, beq_self_eq_true]; rfl
theorem okR_in {i : Int} (h : 0 ≤ i) (h' : i ≤ 1000000) : okR i = true := by
  unfold okR
  rw [decide_eq_true (by omega), decide_eq_true (by omega)]; rfl
theorem Gl.is {g : D} (hg : Gl g) : isGv g = true := by
  obtain ⟨m, n, sd, st, lo, hi, gr, rfl, m0, m1, n0, n1, hsd, ⟨s1, s8, lw⟩, a, b, c, d, e, f⟩ := hg.ex
  have hs : isSd (.str (T sd)) = true := by rcases hsd with rfl | rfl <;> decide +kernel
  have hn : isNa (.str (T st)) = true := by
    show ((decide ((1 : Int) ≤ (T st).length) && decide (((T st).length : Int) ≤ 8)) && (T st).cps.toList.all isC) = true
    rw [T_len, T_cps, decide_eq_true (by omega), decide_eq_true (by omega), List.all_eq_true.mpr fun c hc => by
      have := lw c hc
      unfold isC
      rw [decide_eq_true (by omega), decide_eq_true (by omega)]; rfl]
    rfl
  show ((isB 0 999999 (.int m) && (isB 0 99 (.int n) && isSd (.str (T sd)))) && (isNa (.str (T st)) && _)) = true
  rw [hs, hn]
  simp only [isB, isW, leD, decide_eq_true m0, decide_eq_true m1, decide_eq_true n0, decide_eq_true n1, decide_eq_true a, decide_eq_true b, decide_eq_true c, decide_eq_true d, decide_eq_true e, decide_eq_true f]
  rfl
theorem Gl.sm {g : D} (hg : Gl g) : Sm 1 40 g := by
  obtain ⟨m, n, sd, st, lo, hi, gr, rfl, m0, m1, n0, n1, hsd, ⟨s1, s8, lw⟩, a, b, c, d, e, f⟩ := hg.ex
  have hs : okS (T sd) = true ∧ (T sd).length ≤ 1 := by rcases hsd with rfl | rfl <;> exact ⟨by decide +kernel, Nat.le_refl _⟩
  have i : ∀ j : Int, -1000000 ≤ j → j ≤ 1000000 → Sm 0 0 (.int j) := fun j h1 h2 => sm_int (by
    have : (10 : Nat) ^ 60 ≥ 10000000 := by decide
    omega)
  refine (sm_tup (sms_cons (i m (by omega) (by omega)) (sms_cons (i n (by omega) (by omega)) (sms_cons (sm_str (k := 0) (n := 1) hs.1 hs.2) (sms_cons (sm_str (k := 0) (n := 8) (lw_ok lw) (by rw [T_len]; exact s8)) (sms_cons (i lo (by omega) (by omega)) (sms_cons (i hi (by omega) (by omega)) (sms_cons (i gr (by omega) (by omega)) sms_nil)))))))).mono (by decide) (by decide)
theorem Gl.val {g : D} (hg : Gl g) : val g = true := by
  obtain ⟨m, n, sd, st, lo, hi, gr, rfl, _⟩ := hg.ex
  rfl
end
end G

/-! # G41: != [] of any list; loops over lists told part by part -/
namespace G
open PySem PySem.Spec PyProof.Rows L2
def gNeL (hs : Hs) (d e : D) : Option D := match lstOf hs d with
  | some ds => (match e with | .lst [] => some (.bl (!ds.isEmpty)) | _ => none)
  | none => none
theorem og_neL {X : Cx} (hu : X.A.units + 64 < cLine) : OpR X (compareOp .NotEq) (rB X.K X.mg gNeL) := by
  rintro pins s σ H x y v u Q I rx ry ⟨mu, hs, d, e, w, S, r1, r2, hg, q⟩
  unfold gNeL at hg
  split at hg
  · rename_i ds hd
    split at hg
    · cases hg
      obtain ⟨a, vs, rfl, ha, ra⟩ := lstOf_at S r1 hd
      cases r2 with
      | lst h2 n2 rr2 =>
        cases rx; cases ry
        obtain ⟨its, rv, it, _⟩ := I.list (.of ha)
        obtain ⟨its2, rv2, it2, _⟩ := I.list (.of h2)
        have z2 : its2 = [] := by
          cases rr2
          cases rv2
          rfl
        subst z2
        have hl : its.length = ds.length := by rw [← rv.length, ← ra.length]
        by_cases hz : ds = []
        · subst hz
          have z1 : its = [] := List.eq_nil_of_length_eq_zero hl
          subst z1
          refine SeqAt.RcNeAt.lists (e := fun _ => true) it.isList it2.isList rfl (by omega) (fun j h1 h2 => by simp at h2) X.prog X.w X.xe _ ?_
          exact ⟨.bl false, H, I, rfl, fin0 S q (.bl false)⟩
        · have hn : its.length ≠ 0 := fun z => hz (List.eq_nil_of_length_eq_zero (by omega))
          refine SeqAt.RcNeAt.lists_lengths it.isList it2.isList (by simp; intro z; exact hn (by rw [z]; rfl)) (by omega) X.prog X.w X.xe _ ?_
          have e : (!ds.isEmpty) = true := by cases ds <;> first | exact absurd rfl hz | rfl
          rw [e] at q
          exact ⟨.bl true, H, I, rfl, fin0 S q (.bl true)⟩
    · cases hg
  · cases hg
theorem neL_lst {h : Hs} {ds : List D} : gNeL h (.lst ds) (.lst []) = some (.bl (!ds.isEmpty)) := rfl
theorem neL_ref {h : Hs} {n : Nat} {ds : List D} (e : h[n]? = some (.lst ds)) : gNeL h (.ref n) (.lst []) = some (.bl (!ds.isEmpty)) := by
  unfold gNeL
  have z : lstOf h (.ref n) = some ds := by
    show (match h[n]? with | some (.lst ds) => some ds | _ => none) = _
    rw [e]
  rw [z]
/-! ### and, or as values, by truth -/
section
variable {X : Cx} {Wd : WX} {a b : Expr} {f1 f2 : FE} {pos : Pos} {rest : List Expr}
def eOrT (f g : FE) : FE := fun e hs => (f e hs).bind fun d hs => match tru hs d with | some true => .ok d hs | some false => g e hs | none => .bad
def eAndT (f g : FE) : FE := fun e hs => (f e hs).bind fun d hs => match tru hs d with | some true => g e hs | some false => .ok d hs | none => .bad
end
section
variable {e : Ev} {hs : Hs} {X : XQ} {Q : D → Hs → Prop}
theorem wp_orT {f g : FE} (h : Wp (f e hs) (fun d h => ∃ c, tru h d = some c ∧ (c = true → Q d h) ∧ (c = false → Wp (g e h) Q X)) X) : Wp (eOrT f g e hs) Q X := by
  refine wp_bind (wp_mono h (fun d h' q => ?_) fun _ _ _ x => x)
  obtain ⟨c, e1, q1, q2⟩ := q
  rw [e1]
  cases c with
  | true => exact wp_ok (q1 rfl)
  | false => exact q2 rfl
theorem wp_andT {f g : FE} (h : Wp (f e hs) (fun d h => ∃ c, tru h d = some c ∧ (c = true → Wp (g e h) Q X) ∧ (c = false → Q d h)) X) : Wp (eAndT f g e hs) Q X := by
  refine wp_bind (wp_mono h (fun d h' q => ?_) fun _ _ _ x => x)
  obtain ⟨c, e1, q1, q2⟩ := q
  rw [e1]
  cases c with
  | true => exact q1 rfl
  | false => exact wp_ok (q2 rfl)
end
end G

/-! # G42: a tuple times one -/
namespace G
open PySem PySem.Spec PyProof.Rows L2
section
variable {X : Cx}
end
end G

/-! # G43: partition -/
namespace G
open PySem PySem.Spec PyProof.Rows L2
section
variable {X : Cx} {Wd : WX} {st : Stmt}
/-! ### dict.get(key, default) -/
def dkOf (hs : Hs) : D → Option (List (Key × D))
  | .ref n => (match hs[n]? with | some (.dk kvs) => some kvs | _ => none)
  | _ => none
theorem dkOf_at {K : PySem.W.Frag} {mg : Str → Option Value} {mu : Mp} {hs : Hs} {H : Hp} {d : D} {v : V} {kvs : List (Key × D)} (S : Sim K mg mu hs H) (r : RD K mu H d v) (e : dkOf hs d = some kvs) : ∃ a vs, v = .ref a ∧ H a = some (.dK vs) ∧ RKs K mu H kvs vs := by
  cases r with
  | ref q =>
    unfold dkOf at e
    dsimp only at e
    split at e
    · rename_i kvs' hd
      cases e
      obtain ⟨u, h1, h2⟩ := S.at q hd
      cases u with
      | dK vs => exact ⟨_, vs, rfl, h1, h2⟩
      | _ => exact h2.elim
    · cases e
  | _ => cases e
variable {o a b : Expr} {apos cpos : Pos} {fo f1 f2 : FE}
end
section
variable {e : Ev} {hs : Hs} {X : XQ} {Q : D → Hs → Prop}
end
end G

/-! # G44: int(word, 36); a dict's entry read; sorted(dict) -/
namespace G
open PySem PySem.Spec PyProof.Rows L2
namespace B36
open PySem.NumText PySem.Calls
end B36
section
variable {X : Cx} {Wd : WX}
/-! ### d[key] -/
def gDget (hs : Hs) (d k : D) : Option D := match atD hs d k with | some o => o | none => none
theorem ue_dget {o i : Expr} {fo fi : FE} {pos : Pos} (hu : X.A.units + 1 < cLine) (ho : UE X Wd o fo) (hi : UE X Wd i fi) (hs : NoSl i := by exact fun _ _ => rfl) : UE X Wd (.Subscript o i pos) (eBin gDget fo fi) := by
  refine PE.imp (pe_dget hu ho hi hs) fun σ H Q h => ?_
  obtain ⟨e, mu, hs, S, E, q⟩ := tG_seq (r := relD X.K) relD_ok h
  refine ⟨e, mu, hs, S, E, q.imp fun x H1 ⟨e, mu1, hs1, d, S1, E1, r1, g1⟩ => ?_⟩
  refine ⟨e, mu1, hs1, S1, E1, (Gd.bind (r := relD X.K) relD_ok g1).imp fun y H2 ⟨mu2, hs2, k, l2, S2, r2, g2⟩ => ?_⟩
  cases e1 : atD hs2 d k with
  | none => unfold gDget at g2; rw [e1] at g2; exact g2.elim
  | some o =>
    cases o with
    | none => unfold gDget at g2; rw [e1] at g2; exact g2.elim
    | some w =>
      unfold gDget at g2
      rw [e1] at g2
      obtain ⟨a, ov, rfl, hd, _, hw⟩ := atD_at S2 r2 (RD.agr (l2.agr S1) r1) e1
      obtain ⟨v, rfl, rv⟩ := hw w rfl
      exact ⟨a, v, rfl, hd, g2 mu2 H2 _ .refl S2 rv⟩
/-! ### sorted(dict), its keys texts -/
def txtKeys : List (Key × D) → Option (List Str)
  | [] => some []
  | (.inr s, _) :: r => (match txtKeys r with | some ks => some (s :: ks) | none => none)
  | (.inl _, _) :: _ => none
theorem txtKeys_at {K : PySem.W.Frag} {mu : Mp} {H : Hp} : ∀ {kvs : List (Key × D)} {vs : List (Key × V)} {ks : List Str}, RKs K mu H kvs vs → txtKeys kvs = some ks → vs.map (·.1) = ks.map Sum.inr
  | _, _, _, .nil, e => by cases e; rfl
  | (.inr s, _) :: r, _, ks, .cons _ t, e => by
    unfold txtKeys at e
    split at e
    · rename_i ks' h
      cases e
      rw [List.map_cons, txtKeys_at t h]; rfl
    · cases e
  | (.inl _, _) :: _, _, _, .cons _ _, e => by cases e
def leT (a b : Str) : Prop := ltCps b.cps.toList a.cps.toList = false
theorem leT_iff {a b : Str} : leT a b ↔ ¬ b.cps.toList < a.cps.toList := by unfold leT; rw [ltCps_eq, decide_eq_false_iff_not]
theorem leT_anti {a b : Str} (h : leT a b) (g : leT b a) : a = b := by
  rw [leT_iff] at h g
  exact Str.ext' (Array.toList_inj.mp (List.le_antisymm (List.not_lt.mp h) (List.not_lt.mp g)))
theorem leT_trans {a b c : Str} (h : leT a b) (g : leT b c) : leT a c := by
  rw [leT_iff] at h g ⊢
  exact List.not_lt.mpr (List.le_trans (List.not_lt.mp h) (List.not_lt.mp g))
theorem leT_total {a b : Str} (h : ¬ leT a b) : leT b a := by
  rw [leT_iff] at h ⊢
  have h := Classical.not_not.mp h
  exact fun g => List.lt_asymm h g
theorem uniq_sorted {t : Type} (le : t → t → Prop) (anti : ∀ a b, le a b → le b a → a = b) : ∀ {l m : List t}, l.Perm m → l.Pairwise le → m.Pairwise le → l = m
  | [], m, p, _, _ => (List.nil_perm.mp p).symm
  | a :: l, [], p, _, _ => (List.perm_nil.mp p)
  | a :: l, b :: m, p, h, g => by
    have e : a = b := by
      rcases List.mem_cons.mp (p.subset (List.mem_cons_self : a ∈ a :: l)) with q | q
      · exact q
      · rcases List.mem_cons.mp (p.symm.subset (List.mem_cons_self : b ∈ b :: m)) with q' | q'
        · exact q'.symm
        · exact anti a b (List.rel_of_pairwise_cons h q') (List.rel_of_pairwise_cons g q)
    subst e
    rw [uniq_sorted le anti (List.perm_cons a |>.mp p) h.of_cons g.of_cons]
theorem rising_pw : ∀ (l : List Str) (p : Str), risingS p l = true → (p :: l).Pairwise leT
  | [], _, _ => List.pairwise_singleton _ _
  | x :: l, p, h => by
    unfold risingS at h
    rw [Bool.and_eq_true, Bool.not_eq_true'] at h
    have ih := rising_pw l x h.2
    refine List.pairwise_cons.mpr ⟨fun y hy => ?_, ih⟩
    rcases List.mem_cons.mp hy with rfl | hy
    · exact h.1
    · exact leT_trans (show leT p x from h.1) (List.rel_of_pairwise_cons ih hy)
theorem sorted_pw {l : List Str} (h : sortedS l = true) : l.Pairwise leT := by
  cases l with
  | nil => exact .nil
  | cons x l => exact rising_pw l x h
/-- the texts in their order -/
def insT (x : Str) : List Str → List Str
  | [] => [x]
  | y :: r => if ltCps y.cps.toList x.cps.toList = true then y :: insT x r else x :: y :: r
def sortT : List Str → List Str
  | [] => []
  | x :: r => insT x (sortT r)
theorem insT_perm (x : Str) : ∀ l : List Str, (insT x l).Perm (x :: l)
  | [] => .refl _
  | y :: r => by
    unfold insT
    split
    · exact ((insT_perm x r).cons y).trans (.swap x y r)
    · exact .refl _
theorem sortT_perm : ∀ l : List Str, (sortT l).Perm l
  | [] => .refl _
  | x :: r => (insT_perm x (sortT r)).trans ((sortT_perm r).cons x)
theorem insT_pw {x : Str} : ∀ {l : List Str}, l.Pairwise leT → (insT x l).Pairwise leT
  | [], _ => List.pairwise_singleton _ _
  | y :: r, h => by
    unfold insT
    split
    · rename_i q
      refine List.pairwise_cons.mpr ⟨fun z hz => ?_, insT_pw h.of_cons⟩
      rcases List.mem_cons.mp ((insT_perm x r).subset hz) with rfl | hz
      · exact leT_total (fun z => by unfold leT at z; rw [z] at q; cases q)
      · exact List.rel_of_pairwise_cons h hz
    · rename_i q
      have q : leT x y := by unfold leT; exact Bool.eq_false_iff.mpr q
      refine List.pairwise_cons.mpr ⟨fun z hz => ?_, h⟩
      rcases List.mem_cons.mp hz with rfl | hz
      · exact q
      · exact leT_trans q (List.rel_of_pairwise_cons h hz)
theorem sortT_pw : ∀ l : List Str, (sortT l).Pairwise leT
  | [] => .nil
  | x :: r => insT_pw (sortT_pw r)
theorem sortT_is {l m : List Str} (p : m.Perm l) (h : sortedS m = true) : m = sortT l := uniq_sorted leT (fun _ _ => leT_anti) (p.trans (sortT_perm l).symm) (sorted_pw h) (sortT_pw l)
def gSortK (hs : Hs) (d : D) : Option (List D) := match dkOf hs d with
  | some kvs => (match txtKeys kvs with | some ks => if ks.length < 64 then some ((sortT ks).map D.str) else none | none => none)
  | none => none
theorem RDs.strs {K : PySem.W.Frag} {mu : Mp} {H : Hp} : ∀ ks : List Str, RDs K mu H (ks.map D.str) (ks.map V.str)
  | [] => .nil
  | k :: ks => .cons (.str k) (RDs.strs ks)
end
section
variable {e : Ev} {hs : Hs} {X : XQ}
end
end G

/-! # G45: numbers to the base 36, stamps -/
namespace G
open PySem PySem.Spec PyProof.Rows L2
noncomputable section
abbrev k_BASE : D := (.int 36)
abbrev k_FIGURES : D := (.str "0123456789abcdefghijklmnopqrstuvwxyz")
end
section
variable {h : Hs} {Q : D → Hs → Prop} {X : XQ}
/-! ### words to the base 36 -/
end
end G

/-! # G46: tuples of ints and texts: their order, sorted -/
namespace G
open PySem PySem.Spec PyProof.Rows L2
/-! ### the order -/
def ltK : Key → Key → Bool
  | .inl i, .inl j => decide (i < j)
  | .inr x, .inr y => decide (x.cps.toList < y.cps.toList)
  | .inl _, .inr _ => true
  | .inr _, .inl _ => false
def sameK : Key → Key → Bool
  | .inl _, .inl _ => true
  | .inr _, .inr _ => true
  | _, _ => false
def lexK : List Key → List Key → Bool
  | [], [] => false
  | [], _ :: _ => true
  | _ :: _, [] => false
  | x :: xs, y :: ys => if x = y then lexK xs ys else ltK x y
/-- the parts side by side are of one sort -/
def cmpK : List Key → List Key → Bool
  | x :: xs, y :: ys => sameK x y && cmpK xs ys
  | _, _ => true
theorem ltK_asym {x y : Key} (h : ltK x y = true) : ltK y x = false := by
  rcases x with i | s <;> rcases y with j | t
  · exact decide_eq_false (by have := of_decide_eq_true h; omega)
  · rfl
  · exact absurd h Bool.false_ne_true
  · exact decide_eq_false (List.lt_asymm (of_decide_eq_true h))
theorem ltK_irr (x : Key) : ltK x x = false := by
  cases q : ltK x x with
  | false => rfl
  | true => rw [ltK_asym q] at q; exact q.symm
theorem ltK_conn {x y : Key} (h1 : ltK x y = false) (h2 : ltK y x = false) : x = y := by
  rcases x with i | s <;> rcases y with j | t
  · have a := of_decide_eq_false h1
    have b := of_decide_eq_false h2
    rw [show i = j by omega]
  · cases h1
  · cases h2
  · have a := of_decide_eq_false h1
    have b := of_decide_eq_false h2
    rw [show s = t from Str.ext' (Array.toList_inj.mp (List.le_antisymm (List.not_lt.mp b) (List.not_lt.mp a)))]
theorem ltK_tr {x y z : Key} (h1 : ltK x y = true) (h2 : ltK y z = true) : ltK x z = true := by
  rcases x with i | s <;> rcases y with j | t <;> rcases z with k | u <;> first | exact absurd h1 Bool.false_ne_true | exact absurd h2 Bool.false_ne_true | rfl | skip
  · have a := of_decide_eq_true h1
    have b := of_decide_eq_true h2
    exact decide_eq_true (by omega)
  · exact decide_eq_true (List.lt_trans (of_decide_eq_true h1) (of_decide_eq_true h2))
theorem lexK_asym : ∀ x y : List Key, lexK x y = true → lexK y x = false
  | [], [], h => nomatch h
  | [], _ :: _, _ => rfl
  | _ :: _, [], h => nomatch h
  | x :: xs, y :: ys, h => by
    unfold lexK at h ⊢
    by_cases e : x = y
    · rw [if_pos e] at h; rw [if_pos e.symm]; exact lexK_asym xs ys h
    · rw [if_neg e] at h; rw [if_neg (Ne.symm e)]; exact ltK_asym h
theorem lexK_conn : ∀ {x y : List Key}, lexK x y = false → lexK y x = false → x = y
  | [], [], _, _ => rfl
  | [], _ :: _, h, _ => nomatch h
  | _ :: _, [], _, h => nomatch h
  | x :: xs, y :: ys, h, g => by
    unfold lexK at h g
    by_cases e : x = y
    · rw [if_pos e] at h; rw [if_pos e.symm] at g; rw [e, lexK_conn h g]
    · rw [if_neg e] at h; rw [if_neg (Ne.symm e)] at g; exact absurd (ltK_conn h g) e
theorem lexK_tr : ∀ x y z : List Key, lexK x y = true → lexK y z = true → lexK x z = true
  | [], [], _, h, _ => nomatch h
  | [], _ :: _, [], _, h => nomatch h
  | [], _ :: _, _ :: _, _, _ => rfl
  | _ :: _, [], _, h, _ => nomatch h
  | _ :: _, _ :: _, [], _, h => nomatch h
  | x :: xs, y :: ys, z :: zs, h, g => by
    unfold lexK at h g ⊢
    by_cases e : x = y
    · subst e
      rw [if_pos rfl] at h
      by_cases e2 : x = z
      · rw [if_pos e2] at g ⊢; exact lexK_tr xs ys zs h g
      · rw [if_neg e2] at g ⊢; exact g
    · rw [if_neg e] at h
      by_cases e2 : y = z
      · subst e2; rw [if_neg e]; exact h
      · rw [if_neg e2] at g
        have t := ltK_tr h g
        have ne : x ≠ z := by rintro rfl; rw [ltK_irr] at t; cases t
        rw [if_neg ne]; exact t
theorem lexK_neg {x y z : List Key} (h1 : lexK y x = false) (h2 : lexK z y = false) : lexK z x = false := by
  cases q : lexK z x with
  | false => rfl
  | true =>
    cases p : lexK x y with
    | true => rw [lexK_tr z x y q p] at h2; exact h2
    | false => rw [lexK_conn p h1] at q; rw [q] at h2; exact h2
theorem swoK {t : Type} (k : t → List Key) : SrtO.Swo (fun v u : t => lexK (k v) (k u)) := ⟨fun x y h => lexK_asym _ _ h, fun x y z h1 h2 => lexK_neg h1 h2⟩
/-! ### as the model compares -/
section
variable {prog : Program} {w : World} {A : Around} {s : Shared}
theorem eqAt_key {k l : Key} {v u : Value} (rv : RelV (kV k) v) (ru : RelV (kV l) u) (h : sameK k l = true) : SeqAt.EqAt A s v u (decide (k = l)) := by
  rcases k with i | x <;> rcases l with j | y
  · obtain ⟨t1, rfl⟩ := rv
    obtain ⟨t2, rfl⟩ := ru
    have e : decide ((Sum.inl i : Key) = Sum.inl j) = (i == j) := by rw [Bool.eq_iff_iff, decide_eq_true_iff, beq_iff_eq]; exact ⟨Sum.inl.inj, congrArg _⟩
    rw [e]
    exact SeqAt.EqAt.int_int i t1 j t2
  · cases h
  · cases h
  · obtain ⟨t1, rfl⟩ := rv
    obtain ⟨t2, rfl⟩ := ru
    have e : decide ((Sum.inr x : Key) = Sum.inr y) = (x == y) := by rw [Bool.eq_iff_iff, decide_eq_true_iff, beq_iff_eq]; exact ⟨Sum.inr.inj, congrArg _⟩
    rw [e]
    exact SeqAt.EqAt.str_str x t1 y t2
theorem lt_key {k l : Key} {v u : Value} {E : Value → Shared → Prop} {Q : Value → Shared → Prop} (rv : RelV (kV k) v) (ru : RelV (kV l) u) (h : sameK k l = true) (q : Q (.bool (ltK k l)) s) : wpAny (model prog w) A (compareOp .Lt v u) Q E s := by
  rcases k with i | x <;> rcases l with j | y
  · obtain ⟨t1, rfl⟩ := rv
    obtain ⟨t2, rfl⟩ := ru
    exact PyProof.Rows.lt_int q
  · cases h
  · cases h
  · obtain ⟨t1, rfl⟩ := rv
    obtain ⟨t2, rfl⟩ := ru
    exact PyProof.Rows.lt_str q
theorem one_key {k l : Key} {v u : Value} {E : Value → Shared → Prop} {Q : Bool → Shared → Prop} (b : Bool) (rv : RelV (kV k) v) (ru : RelV (kV l) u) (h : sameK k l = true) (q : Q (ltK k l) s) : wpAny (model prog w) A (oneLt' b v u) Q E s := by
  cases b with
  | false => exact PySem.W.kat_one _ _ (lt_key rv ru h q)
  | true =>
    rcases k with i | x <;> rcases l with j | y
    · obtain ⟨t1, rfl⟩ := rv
      obtain ⟨t2, rfl⟩ := ru
      exact oneLt_int q
    · cases h
    · cases h
    · obtain ⟨t1, rfl⟩ := rv
      obtain ⟨t2, rfl⟩ := ru
      exact oneLt_str q
theorem lex_keys {b : Bool} {Q : Bool → Shared → Prop} : ∀ (ks ls : List Key) {vs us : List Value} (i : Nat) {fin : Bool}, Vals (ks.map kV) vs → Vals (ls.map kV) us → cmpK ks ls = true → fin = decide (ks.length < ls.length) → Q (lexK ks ls) s →
    PySem.W.KatLex prog w A b fin Q (vs.zip us) i s
  | [], [], _, _, i, _, .nil, .nil, _, hf, q => PySem.W.kat_nil (by rw [hf]; exact q)
  | [], l :: ls, _, _, i, _, .nil, .cons _ _, _, hf, q => PySem.W.kat_nil (by
    rw [hf]
    have e : decide (([] : List Key).length < (l :: ls).length) = lexK [] (l :: ls) := decide_eq_true (Nat.succ_pos _)
    rw [e]; exact q)
  | k :: ks, [], _, _, i, _, .cons _ _, .nil, _, hf, q => PySem.W.kat_nil (by
    rw [hf]
    have e : decide ((k :: ks).length < ([] : List Key).length) = lexK (k :: ks) [] := decide_eq_false (Nat.not_lt_zero _)
    rw [e]; exact q)
  | k :: ks, l :: ls, _, _, i, _, .cons rv tv, .cons ru tu, hc, hf, q => by
    have hc2 : sameK k l = true ∧ cmpK ks ls = true := by
      have : (sameK k l && cmpK ks ls) = true := hc
      rwa [Bool.and_eq_true] at this
    rw [List.zip_cons_cons]
    have q2 : Q (if k = l then lexK ks ls else ltK k l) s := q
    refine PySem.W.kat_cons (eqAt_key rv ru hc2.1 prog w _ _ ?_)
    refine PySem.W.kat_go (fun e => ?_) (fun e => ?_)
    · rw [if_pos (of_decide_eq_true e)] at q2
      refine PySem.W.kat_yes (lex_keys ks ls (i + 1) tv tu hc2.2 ?_ q2)
      rw [hf, List.length_cons, List.length_cons]
      exact decide_eq_decide.mpr (by omega)
    · rw [if_neg (of_decide_eq_false e)] at q2
      exact PySem.W.kat_no (one_key _ rv ru hc2.1 q2)
/-- a tuple of these keys -/
def IsKt (h : Heap) (v : Value) (ks : List Key) : Prop := ∃ a o us n, v = .ref a ∧ h.get? a = some o ∧ o.cls = .type "tuple" ∧ o.data = .seq us n ∧ Vals (ks.map kV) us.toList
theorem IsKt.keeps {h h' : Heap} {v : Value} {ks : List Key} (x : IsKt h v ks) (k : ∀ b o, v = .ref b → h.get? b = some o → h'.get? b = some o) : IsKt h' v ks := by
  obtain ⟨a, o, us, n, e, g, r⟩ := x
  exact ⟨a, o, us, n, e, k _ _ e g, r⟩
theorem kt_cmp {vs : List Value} {b : Bool} {k : Value → List Key} (hp : ∀ v ∈ vs, IsKt s.heap v (k v)) (hc : ∀ v ∈ vs, ∀ u ∈ vs, cmpK (k v) (k u) = true) : SrtO.Cmp prog w A s (tuples' b) (fun p => p.1 ∈ vs) (SrtO.lt2 fun v u => lexK (k v) (k u)) := by
  intro p q hm hm'
  obtain ⟨a, o, us, n, e, ho, _, hd, r⟩ := hp _ hm
  obtain ⟨a', o', us', n', e', ho', _, hd', r'⟩ := hp _ hm'
  show wpAny (model prog w) A (keyLt' (tuples' b) p.1 q.1) (fun r s' => s' = s ∧ r = lexK (k p.1) (k q.1)) (fun _ _ => False) s
  have hc' := hc _ hm _ hm'
  have hl : (k p.1).length = us.size := by have := r.length; simpa using this
  have hl' : (k q.1).length = us'.size := by have := r'.length; simpa using this
  generalize k p.1 = ks at r hc' hl ⊢
  generalize k q.1 = ls at r' hc' hl' ⊢
  rw [e, e']
  exact PySem.W.kat_lt ho hd ho' hd' (lex_keys _ _ 0 r r' hc' (by rw [hl, hl']) ⟨rfl, rfl⟩)
/-- the first parts, all of one sort -/
theorem kt_firsts {h : Heap} : ∀ {vs : List Value} {k : Value → List Key}, (∀ v ∈ vs, IsKt h v (k v)) → (∀ v ∈ vs, k v ≠ []) → ∃ fs, PySem.W.KatTups h vs fs ∧ fs.length = vs.length ∧ ∀ f ∈ fs, ∃ v ∈ vs, ∃ x r, k v = x :: r ∧ RelV (kV x) f
  | [], _, _, _ => ⟨[], .nil, rfl, fun _ z => nomatch z⟩
  | v :: vs, k, hp, hn => by
    obtain ⟨fs, h1, h2, h3⟩ := kt_firsts (vs := vs) (k := k) (fun u hu => hp u (List.mem_cons_of_mem v hu)) fun u hu => hn u (List.mem_cons_of_mem v hu)
    obtain ⟨a, o, us, n, rfl, ho, hc, hd, r⟩ := hp _ List.mem_cons_self
    have ne := hn _ List.mem_cons_self
    cases q : k (.ref a) with
    | nil => exact absurd q ne
    | cons x rest =>
      rw [q, List.map_cons] at r
      cases q2 : us.toList with
      | nil => rw [q2] at r; cases r
      | cons f fr =>
        rw [q2] at r
        cases r with
        | cons rf _ =>
          refine ⟨f :: fs, .cons ho hc hd ?_ h1, by rw [List.length_cons, List.length_cons, h2], fun g hg => ?_⟩
          · rw [← Array.getElem?_toList, q2]; rfl
          · rcases List.mem_cons.mp hg with rfl | hg
            · exact ⟨_, List.mem_cons_self, x, rest, q, rf⟩
            · obtain ⟨u, hu, z⟩ := h3 g hg
              exact ⟨u, List.mem_cons_of_mem _ hu, z⟩
def headK (b : Bool) : List Key → Bool
  | .inl _ :: _ => b
  | .inr _ :: _ => !b
  | [] => false
theorem kt_sortable {a : Addr} {vs : List Value} {k : Value → List Key} {b : Bool} (h0 : 0 < vs.length) (hp : ∀ v ∈ vs, IsKt s.heap v (k v)) (hh : ∀ v ∈ vs, headK b (k v) = true) (hc : ∀ v ∈ vs, ∀ u ∈ vs, cmpK (k v) (k u) = true)
    (ha : ∀ o, s.heap.get? a = some o → o.cls ≠ .type "tuple") : SrtO.SortableO prog w A s a vs fun v u => lexK (k v) (k u) := by
  intro h' keep
  have hp' : ∀ v ∈ vs, IsKt h' v (k v) := fun v hm => by
    obtain ⟨a1, o1, us1, n1, e1, g1, c1, r1⟩ := hp v hm
    exact ⟨a1, o1, us1, n1, e1, keep a1 o1 (fun z => by subst z; exact ha o1 g1 c1) g1, c1, r1⟩
  obtain ⟨fs, h1, h2, h3⟩ := kt_firsts hp' fun v hv => by intro e; have := hh v hv; rw [e] at this; cases this
  refine ⟨tuples' true, fun Q E hq => ?_, kt_cmp hp' hc⟩
  cases b with
  | true =>
    refine PySem.W.kat_kind (T := .type "int") h1 (by omega) (fun f hm => ?_) (by rfl) ?_
    · obtain ⟨v, hv, x, r, e, rf⟩ := h3 f hm
      have z := hh v hv
      rw [e] at z
      rcases x with i | t
      · obtain ⟨t1, rfl⟩ := rf
        exact PySem.W.Looks.now
      · cases z
    · have e : (Value.type "int" != Value.type "tuple") = true := by first | decide +kernel | rfl
      rw [e]
      exact hq
  | false =>
    refine PySem.W.kat_kind (T := .type "str") h1 (by omega) (fun f hm => ?_) (by rfl) ?_
    · obtain ⟨v, hv, x, r, e, rf⟩ := h3 f hm
      have z := hh v hv
      rw [e] at z
      rcases x with i | t
      · cases z
      · obtain ⟨t1, rfl⟩ := rf
        exact PySem.W.Looks.now
    · have e : (Value.type "str" != Value.type "tuple") = true := by first | decide +kernel | rfl
      rw [e]
      exact hq
end
end G

/-! # G47: t < u of tuples of ints and texts; sorted of lists of them, of dicts with such keys -/
namespace G
open PySem PySem.Spec PyProof.Rows L2
section
open PySem.SeqAt
open PySem.AutoSeq1 (wpAny_loadPart')
open PySem.MeetsSeq PySem.MeetsSeq2 PySem.MeetsSeq3
end
section
variable {prog : Program} {w : World} {A : Around} {E : Value → Shared → Prop} {s : Shared}
end
section
variable {X : Cx} {Wd : WX}
end
end G

/-! # G48: sorted, of what holds tuples of ints and texts -/
namespace G
open PySem PySem.Spec PyProof.Rows L2
section
variable {prog : Program} {w : World} {A : Around} {E : Value → Shared → Prop} {s : Shared}
/-- all items of a list or a tuple are taken into a new list -/
theorem collect_of {T : String} {l : Addr} {o : Obj} {vs : List Value} {n : Nat} {Q : List Value → Shared → Prop} (hT : (Value.type T == Value.type "list" || Value.type T == Value.type "tuple") = true) (h0 : s.heap.get? l = some o) (hc : o.cls = .type T) (hd : o.data = .seq vs.toArray n)
    (hz : vs.length ≤ sizeLine) (h : ∀ h', (∀ b u, s.heap.get? b = some u → h'.get? b = some u) → Q vs { s with heap := h' }) : wpAny (model prog w) A (collect (.ref l)) Q E s := by
  have keep : ∀ b u, s.heap.get? b = some u → ((s.heap.push (seqObj "list" #[] 0)).update s.heap.objs.size (Obj.mapSeq (· ++ vs.toArray))).get? b = some u := fun b u e => by
    rw [Heap.get?_update_ne _ _ _ _ (Nat.ne_of_lt (Heap.lt_size e))]
    exact Heap.get?_push_of_some _ e
  have h2 := h _ keep
  unfold collect
  refine wpAny_bind (wpAny_runValue (codeAny_builtin entry_proto_collect' ?_))
  show wpAny _ _ (do again (.builtin "list.__iadd__" ⟨[← newList [], .ref l], []⟩)) _ _ s
  refine wpAny_bind (wpAny_newList (wpAny_pure ⟨Code.quiet_builtin _ (by decide +kernel), codeAny_builtin entry_list_iadd' ?_⟩))
  have h3 : (s.heap.push (seqObj "list" #[] 0)).get? l = some o := Heap.get?_push_of_some _ h0
  have hn : (s.heap.push (seqObj "list" #[] 0)).get? s.heap.objs.size = some (seqObj "list" #[] 0) := Heap.get?_push_size _ rfl
  show wpAny _ _ (Builtin.List.listExtendWith (.ref s.heap.objs.size) (.ref l) (.ref s.heap.objs.size)) _ _ { s with heap := s.heap.push (seqObj "list" #[] 0) }
  unfold Builtin.List.listExtendWith
  refine wpAny_bind (wpAny_typeOf (T := T) ⟨o, h3, hc⟩ ?_)
  rw [if_pos (by rw [Bool.or_assoc, hT, Bool.or_true])]
  refine wpAny_bind (listItems_at h3 hd ?_)
  refine wpAny_bind (listItems_at hn rfl ?_)
  rw [if_neg (by simp)]
  refine wpAny_bind (listUpdate_at hn rfl ?_ (Nat.zero_le _) (by show (#[] ++ vs.toArray).size ≤ sizeLine + 1; simp only [Array.size_append, List.size_toArray, List.length_nil]; omega))
  refine wpAny_pure ?_
  show wpAny (model prog w) A (do
      let q ← load s.heap.objs.size
      match q.data with
      | .seq xs _ => pure xs.toList
      | _ => unsupported "internal:collect") Q E { s with heap := (s.heap.push (seqObj "list" #[] 0)).update s.heap.objs.size (Obj.mapSeq (· ++ vs.toArray)) }
  refine wpAny_bind (wpAny_load (get?_update_seq hn _) ?_)
  show wpAny _ _ (pure ((#[] : Array Value) ++ vs.toArray).toList) Q E _
  have e : ((#[] : Array Value) ++ vs.toArray).toList = vs := by simp
  rw [e]
  exact wpAny_pure h2
/-- sorted(x), x's items gathered anyhow -/
theorem sorted_of {x : Value} {vs : List Value} {ltv : Value → Value → Bool} {Q : Value → Shared → Prop} (O : SrtO.Swo ltv) (hz : vs.length ≤ sizeLine)
    (hcol : ∀ (Q' : List Value → Shared → Prop) (E' : Value → Shared → Prop), (∀ h' tk, (∀ b u, s.heap.get? b = some u → h'.get? b = some u) → Q' vs { s with heap := h', toks := tk }) → wpAny (model prog w) A.in1 (collect x) Q' E' s)
    (hS : 2 ≤ vs.length → ∀ (h1 : Heap) (tk : Nat) (a : Addr), h1.get? a = some (seqObj "list" vs.toArray 0) → (∀ b u, s.heap.get? b = some u → h1.get? b = some u) → SrtO.SortableO prog w A.in1.in1 { s with heap := h1, toks := tk } a vs ltv)
    (h : ∀ (out : List Value) (h1 h2 : Heap) (tk : Nat), SrtO.Srtd ltv out → SrtO.Stb ltv out vs → (∀ b u, s.heap.get? b = some u → h1.get? b = some u) → (∀ b u, h1.get? b = some u → h2.get? b = some u) → (∃ n, h2.get? h1.objs.size = some (seqObj "list" out.toArray n)) → Q (.ref h1.objs.size) { s with heap := h2, toks := tk }) :
    wpAny (model prog w) A (call (.builtin "sorted") [x]) Q E s := by
  refine Calls.call_function_entry kind_sorted plain_sorted entry_sorted (args_sorted1 _) ?_
  unfold Builtin.«sorted»
  refine wpAny_bind (m := checkCount "sorted" 1 1 _) (wpAny_pure ?_)
  refine wpAny_bind (hcol _ _ fun h' tk k1 => ?_)
  refine wpAny_bind (wpAny_newList ?_ hz)
  have hn : (h'.push (seqObj "list" vs.toArray 0)).get? h'.objs.size = some (seqObj "list" vs.toArray 0) := Heap.get?_push_size _ rfl
  have k2 : ∀ b u, h'.get? b = some u → (h'.push (seqObj "list" vs.toArray 0)).get? b = some u := fun b u e => Heap.get?_push_of_some _ e
  show wpAny _ _ _ _ _ { s with heap := h'.push (seqObj "list" vs.toArray 0), toks := tk }
  refine wpAny_bind (wpAny_holding (wpAny_call_entry slot_list_sort ⟨_, hn, rfl⟩ entry_list_sort (SrtO.list_sort_ord (s := { s with heap := h'.push (seqObj "list" vs.toArray 0), toks := tk }) O hn hz (fun g2 => hS g2 _ _ _ hn fun b u e => k2 b u (k1 b u e)) fun out hs hb => ⟨_, rfl, ?_⟩) (args_list_sort _)))
  obtain ⟨n, hd⟩ := sortedHeap_at (vs := vs) (out := out.toArray) hn
  refine wpAny_pure ⟨_, rfl, h out h' _ tk hs hb k1 (fun b u e => ?_) ⟨n, hd⟩⟩
  have hlt : b < h'.objs.size := Heap.lt_size e
  rw [sortedHeap_old (Nat.ne_of_lt hlt) (by rw [size_push']; exact Nat.lt_succ_of_lt hlt)]
  exact k2 b u e
end
/-! ### by the heap of the layer -/
def vK : V → Key
  | .int i => .inl i
  | .str z => .inr z
  | _ => .inl 0
theorem vK_kV (k : Key) : vK (kV k) = k := by cases k <;> rfl
def keyAt (H : Hp) : Value → List Key
  | .ref a => (match H a with | some (.tup vs) => vs.map vK | _ => [])
  | _ => []
theorem keyAt_of {H : Hp} {a : Addr} {ks : List Key} (e : H a = some (.tup (ks.map kV))) : keyAt H (.ref a) = ks := by
  unfold keyAt
  dsimp only
  rw [e]
  show (ks.map kV).map vK = ks
  rw [List.map_map]
  exact (List.map_congr_left fun k _ => vK_kV k).trans (List.map_id ks)
/-- the addresses hold these tuples of keys -/
def KtAt (H : Hp) (ts : List Addr) (kss : List (List Key)) : Prop := Paired (fun t ks => H t = some (.tup (ks.map kV))) ts kss
theorem KtAt.keys {H : Hp} : ∀ {ts : List Addr} {kss : List (List Key)}, KtAt H ts kss → (ts.map Value.ref).map (keyAt H) = kss ∧ ∀ t ∈ ts, ∃ ks ∈ kss, H t = some (.tup (ks.map kV))
  | _, _, .nil => ⟨rfl, fun _ z => nomatch z⟩
  | _, _, .cons e t => by
    obtain ⟨h1, h2⟩ := KtAt.keys t
    refine ⟨by rw [List.map_cons, List.map_cons, h1, keyAt_of e], fun u hu => ?_⟩
    rcases List.mem_cons.mp hu with rfl | hu
    · exact ⟨_, List.mem_cons_self, e⟩
    · obtain ⟨ks, hk, z⟩ := h2 u hu
      exact ⟨ks, List.mem_cons_of_mem _ hk, z⟩
def okKs (kss : List (List Key)) : Bool := (kss.all fun x => kss.all fun y => cmpK x y) && (kss.all (headK true) || kss.all (headK false)) && decide (kss.length ≤ 100000)
/-- in their order -/
def insK (x : List Key) : List (List Key) → List (List Key)
  | [] => [x]
  | y :: r => if lexK y x = true then y :: insK x r else x :: y :: r
def sortK : List (List Key) → List (List Key)
  | [] => []
  | x :: r => insK x (sortK r)
theorem insK_perm (x : List Key) : ∀ l : List (List Key), (insK x l).Perm (x :: l)
  | [] => .refl _
  | y :: r => by
    unfold insK
    split
    · exact ((insK_perm x r).cons y).trans (.swap x y r)
    · exact .refl _
theorem sortK_perm : ∀ l : List (List Key), (sortK l).Perm l
  | [] => .refl _
  | x :: r => (insK_perm x (sortK r)).trans ((sortK_perm r).cons x)
abbrev leK (x y : List Key) : Prop := lexK y x = false
theorem insK_pw {x : List Key} : ∀ {l : List (List Key)}, l.Pairwise leK → (insK x l).Pairwise leK
  | [], _ => List.pairwise_singleton _ _
  | y :: r, h => by
    unfold insK
    split
    · rename_i q
      refine List.pairwise_cons.mpr ⟨fun z hz => ?_, insK_pw h.of_cons⟩
      rcases List.mem_cons.mp ((insK_perm x r).subset hz) with rfl | hz
      · exact lexK_asym _ _ q
      · exact List.rel_of_pairwise_cons h hz
    · rename_i q
      have q : lexK y x = false := Bool.eq_false_iff.mpr q
      refine List.pairwise_cons.mpr ⟨fun z hz => ?_, h⟩
      rcases List.mem_cons.mp hz with rfl | hz
      · exact q
      · exact lexK_neg (x := x) (y := y) (z := z) q (List.rel_of_pairwise_cons h hz)
theorem sortK_pw : ∀ l : List (List Key), (sortK l).Pairwise leK
  | [] => .nil
  | x :: r => insK_pw (sortK_pw r)
theorem sortK_is {l m : List (List Key)} (p : m.Perm l) (h : m.Pairwise leK) : m = sortK l := uniq_sorted leK (fun _ _ a b => lexK_conn b a) (p.trans (sortK_perm l).symm) h (sortK_pw l)
/-- what sorted gives of such items -/
theorem sort_keys {X : Cx} {pins : List (Addr × Obj)} {σ : L2.St} {H : Hp} {s : Shared} {x : Value} {Q : VK} {ts : List Addr} {kss : List (List Key)} (I : Inv X pins σ H s) (hk : KtAt H ts kss) (ok : okKs kss = true)
    (hcol : ∀ (Q' : List Value → Shared → Prop) (E' : Value → Shared → Prop), (∀ h' tk, (∀ b u, s.heap.get? b = some u → h'.get? b = some u) → Q' (ts.map Value.ref) { s with heap := h', toks := tk }) → wpAny (model X.prog X.w) X.A.in1 (collect x) Q' E' s)
    (q : ∀ ts' p, KtAt H ts' (sortK kss) → (∀ t ∈ ts', t ∈ ts) → H p = none → Q (.ref p) (upd H p (.lst (ts'.map V.ref)))) : wpAny (model X.prog X.w) X.A (call (.builtin "sorted") [x]) (EP X pins σ Q) X.xe s := by
  unfold okKs at ok
  rw [Bool.and_eq_true, Bool.and_eq_true] at ok
  obtain ⟨⟨o1, o2⟩, o3⟩ := ok
  have cmp : ∀ a ∈ kss, ∀ b ∈ kss, cmpK a b = true := fun a ha b hb => List.all_eq_true.mp (List.all_eq_true.mp o1 a ha) b hb
  obtain ⟨b, hb⟩ : ∃ b, ∀ a ∈ kss, headK b a = true := by
    rcases Bool.or_eq_true_iff.mp o2 with h | h
    · exact ⟨true, List.all_eq_true.mp h⟩
    · exact ⟨false, List.all_eq_true.mp h⟩
  obtain ⟨hkeys, hat⟩ := hk.keys
  have hlen : ts.length = kss.length := by rw [← hkeys, List.length_map, List.length_map]
  have l3 := of_decide_eq_true o3
  have hm : ∀ v ∈ ts.map Value.ref, keyAt H v ∈ kss := fun v hv => by rw [← hkeys]; exact List.mem_map_of_mem hv
  have kt : ∀ h1 : Heap, (∀ b u, s.heap.get? b = some u → h1.get? b = some u) → ∀ v ∈ ts.map Value.ref, IsKt h1 v (keyAt H v) := fun h1 k v hv => by
    obtain ⟨t, ht, rfl⟩ := List.mem_map.mp hv
    obtain ⟨ks, _, e⟩ := hat t ht
    rw [keyAt_of e]
    obtain ⟨_, its, r, o, ho, hc, n, hd⟩ := I.hok _ _ e
    exact ⟨t, o, its.toArray, n, rfl, k _ _ ho, hc, hd, by simpa using r⟩
  refine sorted_of (swoK (keyAt H)) (by rw [List.length_map, sizeLine_eq]; omega) hcol (fun g2 h1 tk a ha k => ?_) fun out h1 h2 tk hs hst k1 k2 hd => ?_
  · refine kt_sortable (b := b) (by omega) (kt h1 k) (fun v hv => hb _ (hm v hv)) (fun v hv u hu => cmp _ (hm v hv) _ (hm u hu)) fun o e => ?_
    have e2 : some o = some (seqObj "list" (ts.map Value.ref).toArray 0) := e.symm.trans ha
    cases e2
    intro c
    exact absurd (Value.type.inj c) (by decide)
  · have hp := hst.perm
    have ho : ∀ v ∈ out, ∃ t ∈ ts, v = Value.ref t := fun v hv => by
      obtain ⟨t, ht, e⟩ := List.mem_map.mp (hp.subset hv)
      exact ⟨t, ht, e.symm⟩
    obtain ⟨ts', e1, e2⟩ : ∃ ts' : List Addr, out = ts'.map Value.ref ∧ ∀ t ∈ ts', t ∈ ts := by
      clear hs hst hd hp
      induction out with
      | nil => exact ⟨[], rfl, fun _ z => nomatch z⟩
      | cons v out ih =>
        obtain ⟨ts', e1, e2⟩ := ih fun u hu => ho u (List.mem_cons_of_mem _ hu)
        obtain ⟨t, ht, rfl⟩ := ho _ List.mem_cons_self
        refine ⟨t :: ts', by rw [e1]; rfl, fun u hu => ?_⟩
        rcases List.mem_cons.mp hu with rfl | hu
        · exact ht
        · exact e2 u hu
    subst e1
    have sk : (ts'.map Value.ref).map (keyAt H) = sortK kss := by
      refine sortK_is ?_ (List.pairwise_map.mpr hs)
      rw [← hkeys]
      exact hp.map _
    have kt' : KtAt H ts' (sortK kss) := by
      rw [← sk]
      clear sk hs hst hd hp ho
      induction ts' with
      | nil => exact .nil
      | cons t ts' ih =>
        obtain ⟨ks, _, e⟩ := hat t (e2 t List.mem_cons_self)
        refine .cons ?_ (ih fun u hu => e2 u (List.mem_cons_of_mem _ hu))
        rw [keyAt_of e]; exact e
    have I1 : Inv X pins σ H { s with heap := h1, toks := tk } := I.kept k1
    obtain ⟨n, hd⟩ := hd
    have hl : (ts'.map V.ref).length ≤ sizeLine := by
      have := hp.length_eq
      rw [List.length_map, List.length_map] at this
      rw [List.length_map, sizeLine_eq]; omega
    exact ⟨.ref h1.objs.size, upd H h1.objs.size (.lst (ts'.map V.ref)), I1.laid (t' := tk) k2 (Nat.le_refl _) ⟨hl, ts'.map Value.ref, n, vals_refs _, hd⟩, rfl, q ts' _ kt' e2 (I1.hok.fresh (Nat.le_refl _))⟩
end G

/-! # G49: sorted(x) as a function of ours -/
namespace G
open PySem PySem.Spec PyProof.Rows L2
def keyV : Key → D
  | .inl i => .int i
  | .inr z => .str z
def tupK (ks : List Key) : D := .tup (ks.map keyV)
def keyTs : List D → Option (List (List Key))
  | [] => some []
  | .tup ds :: r => (match keysD ds with | some ks => (match keyTs r with | some kss => some (ks :: kss) | none => none) | none => none)
  | _ :: _ => none
def dtOf (hs : Hs) : D → Option (List (List Key × D))
  | .ref n => (match hs[n]? with | some (.dt kvs) => some kvs | _ => none)
  | _ => none
def sortKs (kss : List (List Key)) : Option (List D) := if okKs kss = true then some ((sortK kss).map tupK) else none
def gSortA (hs : Hs) (d : D) : Option (List D) := match seqOf hs d with
  | some ds => (match keyTs ds with | some kss => sortKs kss | none => none)
  | none => (match dtOf hs d with
    | some kvs => sortKs (kvs.map (·.1))
    | none => gSortK hs d)
section
variable {K : PySem.W.Frag} {mg : Str → Option Value} {mu : Mp} {hs : Hs} {H : Hp}
theorem dtOf_at {d : D} {v : V} {kvs : List (List Key × D)} (S : Sim K mg mu hs H) (r : RD K mu H d v) (e : dtOf hs d = some kvs) : ∃ a vs, v = .ref a ∧ H a = some (.dT vs) ∧ RKs K mu H kvs vs := by
  cases r with
  | ref q =>
    unfold dtOf at e
    dsimp only at e
    split at e
    · rename_i kvs' hd
      cases e
      obtain ⟨u, h1, h2⟩ := S.at q hd
      cases u with
      | dT vs => exact ⟨_, vs, rfl, h1, h2⟩
      | _ => exact h2.elim
    · cases e
  | _ => cases e
theorem RKs.fsts {k : Type} : ∀ {ds : List (k × D)} {vs : List (k × V)}, RKs K mu H ds vs → ds.map (·.1) = vs.map (·.1)
  | _, _, .nil => rfl
  | _, _, .cons _ t => by rw [List.map_cons, List.map_cons, RKs.fsts t]
theorem Sim.tup_out (S : Sim K mg mu hs H) {a : Addr} {vs : List V} (e : H a = some (.tup vs)) : a ∉ mu.l := fun m => by
  obtain ⟨n, hn, q⟩ := List.getElem_of_mem m
  have hn' : n < hs.length := by rw [← S.len]; exact hn
  obtain ⟨b, u, e1, e2, e3⟩ := S.obj n hs[n] (List.getElem?_eq_getElem hn')
  rw [List.getElem?_eq_getElem hn] at e1
  cases e1
  rw [q, e] at e2
  cases e2
  exact RO.notTup e3
theorem keyTs_at : ∀ {ds : List D} {vs : List V} {kss : List (List Key)}, RDs K mu H ds vs → keyTs ds = some kss → ∃ ts, vs = ts.map V.ref ∧ KtAt H ts kss
  | [], _, _, .nil, e => by cases e; exact ⟨[], rfl, .nil⟩
  | d :: ds, _, _, .cons r t, e => by
    cases r with
    | tup q rs =>
      rename_i a us xs
      unfold keyTs at e
      split at e
      · rename_i ks hks
        split at e
        · rename_i kss' hk
          cases e
          obtain ⟨ts, e1, h⟩ := keyTs_at t hk
          have e2 := keysD_at rs hks
          subst e1 e2
          exact ⟨a :: ts, rfl, .cons q.1 h⟩
        · cases e
      · cases e
    | _ => cases e
theorem keys_rds : ∀ ks : List Key, RDs K mu H (ks.map keyV) (ks.map kV)
  | [] => .nil
  | .inl i :: ks => .cons (.int i) (keys_rds ks)
  | .inr z :: ks => .cons (.str z) (keys_rds ks)
theorem kt_rds (S : Sim K mg mu hs H) : ∀ {ts : List Addr} {kss : List (List Key)}, KtAt H ts kss → RDs K mu H (kss.map tupK) (ts.map V.ref)
  | _, _, .nil => .nil
  | _, _, .cons e t => .cons (.tup ⟨e, S.tup_out e⟩ (keys_rds _)) (kt_rds S t)
theorem refs_vals : ∀ {ts : List Addr} {us : List Value}, Vals (ts.map V.ref) us → us = ts.map Value.ref
  | [], _, .nil => rfl
  | t :: ts, _, .cons r q => by cases r; rw [refs_vals q]; rfl
end
section
variable {X : Cx} {Wd : WX}
def rSortG (K : PySem.W.Frag) (mg : Str → Option Value) : List V → Hp → VK → Prop := fun xs H Q => ∃ mu hs d x ds, xs = [x] ∧ Sim K mg mu hs H ∧ RD K mu H d x ∧ gSortA hs d = some ds ∧ ∀ p vs, H p = none → RDs K mu H ds vs → Q (.ref p) (upd H p (.lst vs))
theorem cr_sortA (hc : X.calm = true) : CallR X (.builtin "sorted") (rSortG X.K X.mg) := by
  rintro pins s σ H xs us Q I r ⟨mu, hs, d, x, ds, rfl, S, rd, hg, q⟩
  obtain ⟨u, rfl, ru⟩ := r.one
  unfold gSortA at hg
  split at hg
  · rename_i es hes
    split at hg
    · rename_i kss hks
      unfold sortKs at hg
      split at hg
      · rename_i ok
        cases hg
        obtain ⟨p, vs, rfl, h1, h2⟩ := seqOf_at S rd hes
        obtain ⟨ts, rfl, hat⟩ := keyTs_at h2 hks
        obtain rfl : u = Value.ref p := ru
        refine sort_keys I hat ok (fun Q' E' k => ?_) fun ts' p' hk _ hp => q p' _ hp (kt_rds S hk)
        rcases h1 with h1 | h1
        · obtain ⟨its, rv, hl, hz⟩ := I.list h1
          obtain rfl := refs_vals rv
          obtain ⟨o, ho, hcl, n, hd⟩ := hl.isList
          exact collect_of (T := "list") (by decide +kernel) ho hcl hd (by simpa using hz) fun h' kk => k h' s.toks kk
        · obtain ⟨its, rv, hl, hz⟩ := I.tuple h1
          obtain rfl := refs_vals rv
          obtain ⟨o, ho, hcl, n, hd⟩ := hl
          exact collect_of (T := "tuple") (by decide +kernel) ho hcl hd (by simpa using hz) fun h' kk => k h' s.toks kk
      · cases hg
    · cases hg
  · split at hg
    · rename_i kvs hkv
      unfold sortKs at hg
      split at hg
      · rename_i ok
        cases hg
        obtain ⟨p, vs, rfl, h1, h2⟩ := dtOf_at S rd hkv
        obtain rfl : u = Value.ref p := ru
        rw [h2.fsts] at ok q
        obtain ⟨z, hne, ks, pr, o, es, ep, ho, hx, hdt, he, hn⟩ := (show ObjOk X.prog X.w H s.heap p (.dT vs) from I.hok p _ h1)
        have l1 : es.size = ks.length := size_of_entries he
        have l2 : vs.length = ks.length := Paired.length pr
        have hat : ∀ {l : List (List Key × V)} {m : List (List Key × Addr × Value)}, KT H l m → KtAt H (m.map fun x => x.2.1) (l.map (·.1)) := by
          intro l m rr
          induction rr with
          | nil => exact .nil
          | cons h t ih => exact .cons h.2.1 ih
        refine sort_keys I (hat pr) ok (fun Q' E' k => ?_) fun ts' p' hk _ hp => q p' _ hp (kt_rds S hk)
        refine PySem.W.kdu_collect (A := X.A.in1) (kdl_raw hne hx hdt) (I.ok.hd hc) ho (by omega) fun h' tk acc kk it => ?_
        have hl : acc.toList.length = ks.length := by rw [Array.length_toList, it.1]; exact l1
        have ea : acc.toList = (ks.map fun x => x.2.1).map Value.ref := by
          rw [List.map_map]
          apply List.ext_getElem?
          intro j
          rw [List.getElem?_map]
          cases hj : acc.toList[j]? with
          | none =>
            have h1 := List.getElem?_eq_none_iff.mp hj
            rw [List.getElem?_eq_none (by omega)]
            rfl
          | some v =>
            obtain ⟨en, hen, hv⟩ := it.2 j v (by rw [← Array.getElem?_toList]; exact hj)
            have qe := entry_at he j
            rw [hen] at qe
            cases hb : ks[j]? with
            | none => rw [hb] at qe; exact nomatch (show some en = none from qe)
            | some b =>
              rw [hb] at qe
              have e2 : en = entryOfKey (tupleKind (mixKind X.prog X.w)) b := Option.some.inj qe
              rw [hv, e2]
              rfl
        rw [ea]
        exact k h' tk kk
      · cases hg
    · unfold gSortK at hg
      split at hg
      · rename_i kvs hk
        split at hg
        · rename_i ks hks
          split at hg
          · rename_i h64
            cases hg
            obtain ⟨a, vs, rfl, ha, rk⟩ := dkOf_at S rd hk
            refine call_sortedD hc pins s σ H _ _ Q I r ⟨a, vs, ks, rfl, .inl ha, txtKeys_at rk hks, h64, fun ys p hp hs hq => ?_⟩
            rw [sortT_is hp hs]
            exact q p _ hq (RDs.strs _)
          · cases hg
        · cases hg
      · cases hg
def lSortA (f : FE) : FL := fun e hs => (f e hs).bind fun d hs => R.ofO (gSortA hs d) hs
theorem uf_sortA {a : Expr} {f1 : FE} {p pos : Pos} (hc : X.calm = true) (hg : L2.Gl X "sorted") (hm : X.mg "sorted" = none) (ha : UE X Wd a f1)
    (hs1 : starEach [a] X.env = [(false, eval a X.env)] := by rfl) : UF X Wd (.Call (.Name "sorted" p) [a] [] pos) (lSortA f1) := by
  refine PE.imp (pe_callB (cr_sortA hc) hg hm boot_sorted (pa_cons ha pa_nil hs1) (by decide) (by decide) hs1 rfl) fun σ H Q h => ?_
  obtain ⟨e, mu, hs, S, E, q⟩ := tG_seq (r := relD X.K) relF_ok h
  refine ⟨e, mu, hs, S, E, q.imp fun x H1 ⟨e, mu1, hs1, d, S1, E1, r1, g1⟩ => ?_⟩
  cases q : gSortA hs1 d with
  | none => rw [q] at g1; exact g1.elim
  | some ds =>
    rw [q] at g1
    exact ⟨mu1, hs1, d, x, ds, rfl, S1, r1, q, fun p vs hp rr => relF_new S1 g1 hp rr⟩
end
section
variable {e : Ev} {hs h : Hs} {X : XQ}
theorem wp_sortA {f : FE} {Q : List D → Hs → Prop} (g : Wp (f e hs) (fun d h => Wp (R.ofO (gSortA h d) h) Q X) X) : Wp (lSortA f e hs) Q X := wp_bind g
end
end G

/-! # G50: exceptions: raise, try .. except X as e, isinstance of what is caught, its fields -/
namespace G
open PySem PySem.Spec PyProof.Rows L2

/-! ### the caught thing, tracked -/
section
variable {X : Cx} {pins : List (Addr × Obj)} {σ : L2.St} {H : Hp} {s : Shared}
end
section
variable {X : Cx} {x n : Str} {c : Value} {i : Nat} {body suite : List Stmt} {b₀ : Stmt} {np pos pos' : Pos} {tb : WX → TS} {ts : TS} {Wout : WX}
end
end G

/-! # G51: try, raise, isinstance and fields of exceptions as functions of ours -/
namespace G
open PySem PySem.Spec PyProof.Rows L2

/-! ### try .. except X as e -/
/-- which of the classes told the clause's class catches -/
inductive Cats (K : PySem.W.Frag) (c : Value) : List (Str × Bool) → Prop
  | nil : Cats K c []
  | cons {x : Str} {C : Addr} {b : Bool} {T : List (Str × Bool)} : PySem.W.nsIn K mainGlobals x = some (some (.ref C)) → PySem.W.exmOne K (.ref C) c = some b → Cats K c T → Cats K c ((x, b) :: T)
theorem Cats.get {K : PySem.W.Frag} {c : Value} {x : Str} {C : Addr} {b : Bool} : ∀ {T : List (Str × Bool)}, Cats K c T → T.lookup x = some b → PySem.W.nsIn K mainGlobals x = some (some (.ref C)) → PySem.W.exmOne K (.ref C) c = some b
  | _, .nil, e, _ => by cases e
  | _, .cons (x := y) h1 h2 t, e, g => by
    rw [List.lookup_cons] at e
    cases q : (x == y) with
    | true =>
      rw [q] at e
      cases e
      have := beq_iff_eq.mp q
      subst this
      rw [g] at h1; cases h1
      exact h2
    | false => rw [q] at e; exact t.get e g
theorem zip_map {k : Type} {a : Type} : ∀ (l : List (k × a)), (l.map (·.1)).zip (l.map (·.2)) = l
  | [] => rfl
  | (x, y) :: l => by simp [zip_map l]
section
variable {X : Cx} {Wd : WX} {x n : Str} {c : Value} {i : Nat} {body suite : List Stmt} {b₀ : Stmt} {np pos pos' : Pos} {f g : FS} {T : List (Str × Bool)}
/-! ### raise X('m') -/
/-- an own exception class without own __init__ -/
structure ExcK (K : PySem.W.Frag) (x : Str) (C : Addr) (bmB : List Value) (B newId initId : String) : Prop where
  ns : PySem.W.nsIn K mainGlobals x = some (some (.ref C))
  ba : ExcBaseFacts B newId initId bmB
  ex : PySem.W.excIn K C bmB newId = true
  kp : PySem.W.keepIn K (.ref C) = true
  sb : PySem.W.subIn K (.ref C) (.type "BaseException") = some true
  ty : PySem.W.typeIn K (.ref C) = some (.type "type")
end

/-! ### isinstance of an exception -/
/-- a class that is asked for -/
def Cn (mg : Str → Option Value) (x : Str) (u : Value) : Prop := ∃ v, ClsV v u ∧ RelV v u ∧ (mg x = some u ∨ (mg x = none ∧ bootBuiltins x = some u ∧ x ≠ "__name__"))
/-- the classes of a tuple -/
def PAc (X : Cx) (es : List Expr) (us : List Value) : Prop := ∃ vs, Paired ClsV vs us ∧ PA X es (fun _ H Q => Q vs H)
/-- one class, or a tuple of classes -/
inductive CArg (X : Cx) : Expr → List Value → Prop
  | one {x : Str} {u : Value} {pos : Pos} (h : Cn X.mg x u) (hg : L2.Gl X x := by exact rfl) (hd : (x == ("__debug__" : Str)) = false := by decide) : CArg X (.Name x pos) [u]
  | tup {es : List Expr} {us : List Value} {k : Nat} {pos : Pos} (h : PAc X es us) (hl : us.length ≤ sizeLine) : CArg X (.Tuple es k pos) us
/-- what isinstance asks of the classes of exceptions -/
inductive Exs (K : PySem.W.Frag) (us : List Value) : List (Str × Bool) → Prop
  | nil : Exs K us []
  | cons {x : Str} {C : Addr} {b : Bool} {T : List (Str × Bool)} : PySem.W.nsIn K mainGlobals x = some (some (.ref C)) → ExcC K C → PySem.W.kitAny K (.ref C) us = some b → Exs K us T → Exs K us ((x, b) :: T)
theorem Exs.get {K : PySem.W.Frag} {us : List Value} {x : Str} {C : Addr} {b : Bool} : ∀ {T : List (Str × Bool)}, Exs K us T → T.lookup x = some b → PySem.W.nsIn K mainGlobals x = some (some (.ref C)) → ExcC K C ∧ PySem.W.kitAny K (.ref C) us = some b
  | _, .nil, e, _ => by cases e
  | _, .cons (x := y) h1 h2 h3 t, e, g => by
    rw [List.lookup_cons] at e
    cases q : (x == y) with
    | true =>
      rw [q] at e
      cases e
      have := beq_iff_eq.mp q
      subst this
      rw [g] at h1; cases h1
      exact ⟨h2, h3⟩
    | false => rw [q] at e; exact t.get e g
section
variable {X : Cx} {Wd : WX} {a c : Expr} {f : FE} {us : List Value} {T : List (Str × Bool)} {p pos : Pos}
end

/-! ### e.f -/
/-- classes of exceptions whose instances' field is read -/
inductive Xfs (K : PySem.W.Frag) (n : Str) : List Str → Prop
  | nil : Xfs K n []
  | cons {x : Str} {C : Addr} {T : List Str} : PySem.W.nsIn K mainGlobals x = some (some (.ref C)) → XfC K C → PySem.W.findIn K (.ref C) n = some none → Xfs K n T → Xfs K n (x :: T)
theorem Xfs.get {K : PySem.W.Frag} {n x : Str} {C : Addr} : ∀ {T : List Str}, Xfs K n T → T.contains x = true → PySem.W.nsIn K mainGlobals x = some (some (.ref C)) → XfC K C ∧ PySem.W.findIn K (.ref C) n = some none
  | _, .nil, e, _ => by cases e
  | _, .cons (x := y) h1 h2 h3 t, e, g => by
    rw [List.contains_cons, Bool.or_eq_true] at e
    rcases e with q | q
    · have := beq_iff_eq.mp q
      subst this
      rw [g] at h1; cases h1
      exact ⟨h2, h3⟩
    · exact t.get q g
theorem zip_rks {K : PySem.W.Frag} {mu : Mp} {H : Hp} {k : Type} : ∀ {ks : List k} {ds : List D} {vs : List V}, RDs K mu H ds vs → RKs K mu H (ks.zip ds) (ks.zip vs)
  | [], _, _, _ => .nil
  | _ :: _, _, _, .nil => .nil
  | _ :: _, _, _, .cons r t => .cons r (zip_rks t)
end G

/-! # G52: own == and !=; isinstance of own instances; dict.get(key); what holds behind try -/
namespace G
open PySem PySem.Spec PyProof.Rows L2

/-! ### own ==, != -/
section
variable {prog : Program} {w : World} {A : Around} {E : Value → Shared → Prop} {s : Shared} {K : PySem.W.Frag} {x C f : Addr} {ox : Obj} {od : Option Obj} {b tb : Value}
end
open Classical in
/-- two instances of the class c, by its own __eq__ that changes nothing of ours -/
noncomputable def gOeq (c : Str) (fn : List D → Hs → R D) (hs : Hs) (d e : D) : Option D := match insOf hs d, insOf hs e with
  | some (c1, _), some (c2, _) => if c1 = c ∧ c2 = c then (match fn [d, e] hs with | .ok (.bl b) h' => if h' = hs then some (.bl b) else none | _ => none) else none
  | _, _ => none
section
variable {X : Cx} {Wd : WX} {k : Nat} {f C : Addr} {fd : FuncData} {ps : List Str} {fn : List D → Hs → R D} {c : Str}
/-- what == and != ask of a class with an own __eq__ -/
structure EqK (K : PySem.W.Frag) (c : Str) (C : Addr) (f : Addr) : Prop extends SpK K c C "__eq__" f where
  nf : PySem.W.notFirst K C (.ref C) = true
  ne : PySem.W.findIn K (.ref C) "__ne__" = some (some (.builtin "object.__ne__"))
  ob : PySem.W.mroIn K C (.type "object") = some true
end

/-! ### isinstance(x, C), x an instance -/
/-- what isinstance asks of the classes of instances -/
structure IsK (K : PySem.W.Frag) (C : Addr) : Prop where
  cl : L2.Cls K C
  ha : PySem.W.findIn K (.ref C) "__class__" = some (some (.builtin "object.__class__"))
  hn : PySem.W.specialIn K (.builtin "object.__class__") "__get__" = some (some (.builtin "getset_descriptor.__get__"))
  ht : PySem.W.takesIn K (.builtin "object.__class__") = some true
  hm : PySem.W.mroIn K C (.type "object") = some true
inductive Iss (K : PySem.W.Frag) (u : Value) : List (Str × Bool) → Prop
  | nil : Iss K u []
  | cons {x : Str} {C : Addr} {b : Bool} {T : List (Str × Bool)} : IsC K x C → IsK K C → PySem.W.kitOne K (.ref C) u = some b → Iss K u T → Iss K u ((x, b) :: T)
theorem Iss.get {K : PySem.W.Frag} {u : Value} {x : Str} {C : Addr} {b : Bool} : ∀ {T : List (Str × Bool)}, Iss K u T → T.lookup x = some b → IsC K x C → IsK K C ∧ PySem.W.kitOne K (.ref C) u = some b
  | _, .nil, e, _ => by cases e
  | _, .cons (x := y) h1 h2 h3 t, e, g => by
    rw [List.lookup_cons] at e
    cases q : (x == y) with
    | true =>
      rw [q] at e
      cases e
      have := beq_iff_eq.mp q
      subst this
      cases h1.inj g
      exact ⟨h2, h3⟩
    | false => rw [q] at e; exact t.get e g
/-! ### d.get(k) -/
/-! ### what holds behind them -/
section
variable {Q : D → Hs → Prop} {X : XQ} {e : Ev} {hs : Hs} {P : Po}
@[reducible] def Po.tr (P : Po) (i : Nat) (T : List (Str × Bool)) (g : FS) : Po := { P with ex := fun c fs e h => match T.lookup c with
    | some true => Ws (g (e.set i (some (.exn c (fs.map (·.1)) (fs.map (·.2))))) h) { nx := fun e h => P.nx (e.set i none) h, rt := P.rt, bk := fun e h => P.bk (e.set i none) h, ct := fun e h => P.ct (e.set i none) h }
    | some false => P.ex c fs e h
    | none => False }
end
end G
namespace G
open PySem PySem.Spec PyProof.Rows L2
theorem Bd.tr {X : Cx} {Wd W : WX} {k : Nat} {pn : List (Addr × Obj)} {xe : Value → Shared → Prop} (B : Bd X Wd k) (tk : Takes (X.tr pn xe) W) (po : PassesOwn (model X.prog X.w) X.A X.env xe) : Bd (X.tr pn xe) W k :=
  ⟨B.calm, B.room, B.gd, tk, po, B.sm⟩
end G

/-! # G53: sorted(dict) of text keys, however many -/
namespace G
open PySem PySem.Spec PyProof.Rows L2
section
variable {prog : Program} {w : World} {A : Around} {s : Shared}
end
/-! ### as a function of ours -/
section
variable {e : Ev} {hs h : Hs} {X : XQ}
end
end G

/-! # G54: text.count, text.split, text.replace (with a token given out ahead) -/
namespace G
open PySem PySem.Spec PyProof.Rows L2
/-! ### count, split -/
section
variable {X : Cx}
end
/-! ### one token is out -/
section
variable {X : Cx} {Wd : WX} {e a b : Expr} {es : List Expr} {f f1 f2 : FE} {g : FA} {pos : Pos}
end
section
variable {X : Cx} {Wd : WX} {st : Stmt} {rest : List Stmt} {f g : FS} {a b : Expr} {f1 f2 : FE} {pos : Pos}
end
section
variable {e : Ev} {hs h : Hs} {X : XQ} {Q : D → Hs → Prop}
end
end G

/-! # G55: exceptions of own classes with their own __init__ -/
namespace G
open PySem PySem.Spec PyProof.Rows L2
/-- what is told of such a class -/
structure OexK (K : PySem.W.Frag) (C : Addr) (bmB : List Value) (B newId initId : String) : Prop where
  ba : ExcBaseFacts B newId initId bmB
  sf : StoreFacts B bmB "object.__setattr__" "object"
  ini : PySem.W.excInitIn K C bmB newId = true
  ovr : PySem.W.excOver K C bmB = true
  hd : PySem.W.hasDictIn K C = true
  sa : PySem.W.findIn K (.ref C) "__setattr__" = some (some (.builtin "object.__setattr__"))
  sb : PySem.W.subIn K (.ref C) (.type "BaseException") = some true
  ty : PySem.W.typeIn K (.ref C) = some (.type "type")
  kp : PySem.W.keepIn K (.ref C) = true
section
open Builtin Builtin.ObjectAttr PySem.W PySem.HandSPX
variable {prog : Program} {w : World} {A : Around} {E : Value → Shared → Prop} {R : Result → Shared → Prop} {hp : Heap} {g : Array GenState} {d : PySem.Drawn} {t : Nat} {os : OsState} {K : Frag} {bmB : List Value} {B newId initId : String} {x C dx : Addr} {name : PySem.Str} {tk : Tok} {v : Value} {fv : Array Value} {m0 : PySem.Str → Option Value} {nl : List PySem.Str}
end
end G
namespace G
open PySem PySem.Spec PyProof.Rows L2
section
variable {X : Cx} {pins : List (Addr × Obj)} {σ : L2.St} {H : Hp} {s : Shared} {a C dx : Addr} {f : Str} {y : V} {u : Value} {fs : List (Str × V)} {Q : Unit → Shared → Prop} {E : Value → Shared → Prop} {A : Around} {bmB : List Value} {B newId initId : String}
end
/-- what is told of the base G whose __init__ is called by its name -/
structure BasK (K : PySem.W.Frag) (C : Addr) (initId : String) : Prop where
  ga : PySem.W.specialIn K (.ref C) "__getattribute__" = some (some (.builtin "type.__getattribute__"))
  rd : PySem.W.readsIn K C (.type "type") = true
  fd : PySem.W.findCls K (.ref C) (.type "type") "__init__" = some (.val (.builtin initId))
  hi : PySem.W.handedIn (.builtin initId) = true
section
variable {X : Cx} {x m : Str} {i j : Nat} {Ge C : Addr} {p p1 p2 p3 p4 pos : Pos} {bmB : List Value} {B newId initId : String}
end
end G
namespace G
open PySem PySem.Spec PyProof.Rows L2
/-! ### the def __init__ -/
theorem upd_upd {H : Hp} {a : Addr} {o p : HO} : upd (upd H a o) a p = upd H a p := by
  funext b
  by_cases h : b = a
  · rw [h, upd_same, upd_same]
  · rw [upd_ne h, upd_ne h, upd_ne h]
section
variable {X : Cx} {x m f f1 f2 : Str} {i j : Nat} {Ge C : Addr} {p p1 p2 p3 p4 p5 pos : Pos} {bmB : List Value} {B newId initId : String}
end
section
variable {P : Program} {w : World} {K : PySem.W.Frag} {mg : Str → Option Value} {base : Heap}
end
end G
namespace G
open PySem PySem.Spec PyProof.Rows L2
/-! ### the body of such an __init__ -/
section
variable {X : Cx} {f1 f2 : Str} {C : Addr} {bmB : List Value} {B newId initId : String} {st0 st1 st2 : Stmt}
end

/-! ### X(e, ..) -/
section
variable {X : Cx} {e : Expr} {es : List Expr} {ta : TA} {p pos : Pos} {bmB : List Value} {B newId initId : String} {x : Str} {C fI : Addr} {k : Nat} {fd : FuncData} {ps fs : List Str} {Wd : WX}
theorem RKs.app {K : PySem.W.Frag} {mu : Mp} {H : Hp} {a b : List (Str × D)} {c d : List (Str × V)} (h : RKs K mu H a c) (g : RKs K mu H b d) : RKs K mu H (a ++ b) (c ++ d) := by
  induction h with
  | nil => exact g
  | cons r t ih => exact .cons r ih
end
end G

namespace G
open PySem PySem.Spec PyProof.Rows L2
/-! ### short forms for the printer -/
section
variable {K : PySem.W.Frag} {x qual : Str} {st : Stmt} {f C : Addr} {fd : FuncData} {ps fs : List Str}
end
section
variable {X : Cx} {Wd : WX} {i : Nat} {x : Str} {pos : Pos}
/-- a name's reading, short -/
theorem pv (i : Nat) {x : Str} {pos : Pos} (hN : X.N[i]? = some x := by rfl) (hv : Vis X.env.scope x := by first | exact Or.inl rfl | exact Or.inr (Or.inl rfl) | exact Or.inr (Or.inr rfl)) (hd : (x == ("__debug__" : Str)) = false := by decide)
    (hcd : (x == ("__classdict__" : Str)) = false := by decide) : PE X (.Name x pos) (tVar i) := pe_var hN hv hd hcd
end
variable {P : Po} {e : Ev} {hs : Hs}
end G

/-! # G56: dict(a list of pairs) -/
namespace G
open PySem PySem.Spec PyProof.Rows L2
def pairK : D → Option (Key × D)
  | .tup [k, v] => (match keyD k with | some x => some (x, v) | none => none)
  | _ => none
def pairsK : List D → Option (List (Key × D))
  | [] => some []
  | d :: ds => match pairK d with | some kv => (match pairsK ds with | some r => some (kv :: r) | none => none) | none => none
def mrgG {k : Type} [DecidableEq k] (kvs more : List (k × D)) : List (k × D) := more.foldl (fun acc kv => putG acc kv.1 kv.2) kvs
def mrgV {k : Type} [DecidableEq k] (kvs more : List (k × V)) : List (k × V) := more.foldl (fun acc kv => putK acc kv.1 kv.2) kvs
theorem RKs.mrg {K : PySem.W.Frag} {mu : Mp} {H : Hp} {k : Type} [DecidableEq k] {more : List (k × D)} {moreV : List (k × V)} (h : RKs K mu H more moreV) : ∀ {kvs : List (k × D)} {vs : List (k × V)}, RKs K mu H kvs vs → RKs K mu H (mrgG kvs more) (mrgV vs moreV) := by
  induction h with
  | nil => exact fun q => q
  | cons r t ih => exact fun q => ih (q.put r)
def gDictP (ds : List D) : Option D := match pairsK ds with
  | some kvs => some (.dlk ((mrgG [] kvs).map (·.1)) ((mrgG [] kvs).map (·.2)))
  | none => none
/-- dict(xs): by value -/
def eDictP (f : FL) : FE := fun e hs => (f e hs).bind fun ds hs => R.ofO (gDictP ds) hs
theorem pairs_at {K : PySem.W.Frag} {mu : Mp} {H : Hp} : ∀ {ds : List D} {vs : List V} {kvs : List (Key × D)}, RDs K mu H ds vs → pairsK ds = some kvs →
    ∃ (ps : List Addr) (ws : List (Key × V)), vs = ps.map V.ref ∧ Paired (fun p kv => SqT K H p [kV kv.1, kv.2]) ps ws ∧ RKs K mu H kvs ws
  | _, _, _, .nil, e => by cases e; exact ⟨[], [], rfl, .nil, .nil⟩
  | d :: ds, v :: vs, kvs, .cons r t, e => by
    unfold pairsK at e
    split at e
    · rename_i kv hk
      split at e
      · rename_i rs hr
        cases e
        obtain ⟨ps, ws, e1, e2, e3⟩ := pairs_at t hr
        unfold pairK at hk
        split at hk
        · rename_i k x
          split at hk
          · rename_i y hy
            cases hk
            cases r with
            | tup hst rr =>
              cases rr with
              | cons ra rb =>
                cases rb with
                | cons rc rd =>
                  cases rd
                  have ek := keyD_at ra hy
                  subst ek
                  subst e1
                  exact ⟨_ :: ps, (y, _) :: ws, rfl, .cons hst.sq e2, .cons rc e3⟩
          · cases hk
        · cases hk
      · cases e
    · cases e
section
variable {X : Cx} {Wd : WX} {a : Expr} {p pos : Pos} {f : FL}
/-- dict(xs), locked -/
theorem call_dictL (hc : X.calm = true) : CallR X (.type "dict") (fun xs H Q => ∃ (a : Addr) (ps : List Addr) (kvs : List (Key × V)), xs = [.ref a] ∧ SqL X.K H a (ps.map V.ref) ∧ Paired (fun p kv => SqT X.K H p [kV kv.1, kv.2]) ps kvs ∧
    ∀ p od, H p = none → Q (.ref p) (upd H p (.frz od (.dK (mrgV [] kvs))))) := by
  intro pins s σ H xs us Q I r ⟨a, ps, kvs, e1, e2, e3, q⟩
  refine thn (call_dictP hc pins s σ H xs us (fun v H1 => ∃ p, v = .ref p ∧ H p = none ∧ H1 = upd H p (.dK (mergeK [] kvs))) I r ⟨a, ps, kvs, e1, e2, e3, fun p hp => ⟨p, rfl, hp, rfl⟩⟩) fun v s1 ⟨x, H1, J, rv, p, ex, hp, eH⟩ => ?_
  subst ex
  subst eH
  obtain ⟨od, J2⟩ := J.lock upd_same trivial
  rw [upd_upd] at J2
  exact ⟨.ref p, _, J2, rv, q p od hp⟩
theorem ue_dictP (hc : X.calm = true) (hg : L2.Gl X "dict") (hm : X.mg "dict" = none) (ha : UF X Wd a f)
    (hs1 : starEach [a] X.env = [(false, eval a X.env)] := by rfl) : UE X Wd (.Call (.Name "dict" p) [a] [] pos) (eDictP f) := by
  refine PE.imp (pe_callTy (call_dictL hc) hg hm PyProof.Rows.boot_dict (pa_cons ha pa_nil hs1) (by decide) (by decide) hs1 rfl) fun σ H Q h => ?_
  obtain ⟨e, mu, hs, S, E, q⟩ := tG_seq (r := relF X.K X.mg) relD_ok h
  refine ⟨e, mu, hs, S, E, q.imp fun x H1 ⟨e, mu1, hs1, ds, S1, E1, r1, g1⟩ => ?_⟩
  obtain ⟨b, vs, rfl, hb, n1, n2, n3, rr⟩ := r1
  unfold gDictP at g1
  cases q : pairsK ds with
  | none => rw [q] at g1; exact g1.elim
  | some kvs =>
    rw [q] at g1
    obtain ⟨ps, ws, e1, e2, e3⟩ := pairs_at rr q
    subst e1
    refine ⟨b, ps, ws, rfl, .inl (.inl hb), e2, fun p od hp => ?_⟩
    have rk : RKs X.K mu1 H1 (mrgG [] kvs) (mrgV [] ws) := e3.mrg .nil
    have l : Lat mu1 H1 mu1 (upd H1 p (.frz od (.dK (mrgV [] ws)))) := .new hp
    have hu : StF mu1 (upd H1 p (.frz od (.dK (mrgV [] ws)))) p (.dK (((mrgG [] kvs).map (·.1)).zip ((mrgV [] ws).map (·.2)))) := by
      refine ⟨⟨od, ?_⟩, S1.fresh hp⟩
      rw [upd_same, rk.fsts, zip_map]
    exact g1 mu1 _ (.ref p) l (S1.new hp) (.dlk hu (by simp) (RDs.agr (l.agr S1) rk.snds))
end
section
variable {e : Ev} {hs : Hs} {X : XQ}
theorem wp_dictP {f : FL} {Q : D → Hs → Prop} (h : Wp (f e hs) (fun ds h => Wp (R.ofO (gDictP ds) h) Q X) X) : Wp (eDictP f e hs) Q X := wp_bind h
end
end G

/-! # G57: dict(a list of pairs), the keys tuples -/
namespace G
open PySem PySem.Spec PyProof.Rows L2
/-- the pairs, told by their keys' addresses -/
abbrev PTs (K : PySem.W.Frag) (H : Hp) : List Addr → List (List Key × Addr × V) → Prop := Paired fun p x => SqT K H p [.ref x.2.1, x.2.2] ∧ H x.2.1 = some (.tup (x.1.map kV))
section
variable {X : Cx} {pins : List (Addr × Obj)} {σ : L2.St} {H : Hp} {s : Shared}
theorem KT.all {kvs : List (List Key × Addr × V)} {xs : List (List Key × Addr × Value)} (r : Paired (fun (x : List Key × Addr × V) (y : List Key × Addr × Value) => x.1 = y.1 ∧ x.2.1 = y.2.1 ∧ H y.2.1 = some (.tup (x.1.map kV)) ∧ RelV x.2.2 y.2.2) kvs xs) :
    ∀ {acc : List (List Key × V)} {ys : List (List Key × Addr × Value)}, KT H acc ys → KT H (mrgV acc (kvs.map fun x => (x.1, x.2.2))) (storedAllH ys xs) := by
  induction r with
  | nil => exact fun q => q
  | @cons x y l m h t ih =>
    intro acc ys q
    obtain ⟨h1, h2, h3, h4⟩ := h
    have z := q.put x.1 h3 h4
    rw [h1] at z
    show KT H (mrgV (putK acc x.1 x.2.2) _) (storedAllH (storedH ys y.1 y.2.1 y.2.2) m)
    rw [h1]
    exact ih z
end
end G
namespace G
open PySem PySem.Spec PyProof.Rows L2
section
variable {X : Cx} {Wd : WX} {a : Expr} {p pos : Pos} {f : FL}
end
section
variable {e : Ev} {hs : Hs} {X : XQ}
end
end G

/-! # G58: for k in d, d locked -/
namespace G
open PySem PySem.Spec PyProof.Rows L2
def iKeysF (f : FE) : FI := fun e hs => (f e hs).bind fun d hs => match d with
  | .dlk ks _ => .ok (nxL (ks.map keyV)) hs
  | .dlt ks _ => .ok (nxL (ks.map tupK)) hs
  | _ => .bad
theorem rd_key {K : PySem.W.Frag} {mu : Mp} {H : Hp} : ∀ k : Key, RD K mu H (keyV k) (kV k)
  | .inl i => .int i
  | .inr s => .str s
theorem rds_keys {K : PySem.W.Frag} {mu : Mp} {H : Hp} : ∀ ks : List Key, RDs K mu H (ks.map keyV) (ks.map kV)
  | [] => .nil
  | k :: ks => .cons (rd_key k) (rds_keys ks)
section
variable {X : Cx} {Wd : WX} {tg a : Expr} {f1 : FE}
theorem ui_keys (ha : UE X Wd a f1) : UI X Wd tg a (iKeysF f1) := by
  refine PI.imp (pi_keys ha) fun σ H Q h => ?_
  obtain ⟨e, mu, hs, S, E, q⟩ := tG_seq (r := relD X.K) relI_ok h
  refine ⟨e, mu, hs, S, E, q.imp fun x H1 ⟨e, mu1, hs1, d, S1, E1, r1, g1⟩ => ?_⟩
  cases r1 with
  | dlk h1 hz h3 =>
    rename_i ks vs ds q0
    obtain ⟨⟨o, ho⟩, n1⟩ := h1
    have hl : (ks.zip vs).length = ks.length := by rw [List.length_zip, ← h3.length, ← hz, Nat.min_self]
    refine ⟨_, o, rfl, .inl ⟨_, ho, g1 mu1 H1 _ .refl S1 ?_⟩⟩
    intro mu' H' hs' l s i
    have k1 := (l.ext _ _ ho n1).1
    refine ⟨fun q => ⟨k1, ?_⟩, fun d q => ?_⟩
    · have q : (ks.map keyV)[i]? = none := Option.some.inj q
      have := List.getElem?_eq_none_iff.mp q
      rw [List.length_map] at this
      omega
    · have q : (ks.map keyV)[i]? = some d := Option.some.inj q
      rw [List.getElem?_map] at q
      obtain ⟨k, hk, rfl⟩ := Option.map_eq_some_iff.mp q
      have hi := (List.getElem?_eq_some_iff.mp hk).1
      refine ⟨⟨k1, by omega⟩, fun x H2 y => ?_⟩
      obtain ⟨rfl, k', v, y, rfl⟩ := y
      have e1 := (List.getElem?_zip_eq_some.mp y).1
      rw [hk] at e1; cases e1
      exact ⟨.refl, s, rd_key _⟩
  | dlt h1 hz h3 =>
    rename_i ks vs ds q0
    obtain ⟨⟨o, ho⟩, n1⟩ := h1
    have hl : (ks.zip vs).length = ks.length := by rw [List.length_zip, ← h3.length, ← hz, Nat.min_self]
    refine ⟨_, o, rfl, .inr ⟨_, ho, g1 mu1 H1 _ .refl S1 ?_⟩⟩
    intro mu' H' hs' l s i
    have k1 := (l.ext _ _ ho n1).1
    refine ⟨fun q => ⟨k1, ?_⟩, fun d q => ?_⟩
    · have q : (ks.map tupK)[i]? = none := Option.some.inj q
      have := List.getElem?_eq_none_iff.mp q
      rw [List.length_map] at this
      omega
    · have q : (ks.map tupK)[i]? = some d := Option.some.inj q
      rw [List.getElem?_map] at q
      obtain ⟨k, hk, rfl⟩ := Option.map_eq_some_iff.mp q
      have hi := (List.getElem?_eq_some_iff.mp hk).1
      refine ⟨⟨k1, by omega⟩, fun x H2 y => ?_⟩
      obtain ⟨rfl, k', v, b, y, rfl, hb⟩ := y
      have e1 := (List.getElem?_zip_eq_some.mp y).1
      rw [hk] at e1; cases e1
      exact ⟨.refl, s, .tup ⟨hb, s.tup_out hb⟩ (rds_keys _)⟩
  | _ => exact g1.elim
end
section
variable {e : Ev} {hs : Hs} {X : XQ}
theorem wp_keysF {f : FE} {Q : Nx → Hs → Prop} (h : Wp (f e hs) (fun d h => (∃ ks ds, d = .dlk ks ds ∧ Q (nxL (ks.map keyV)) h) ∨ ∃ ks ds, d = .dlt ks ds ∧ Q (nxL (ks.map tupK)) h) X) : Wp (iKeysF f e hs) Q X := by
  refine wp_bind (wp_mono h (fun d h' q => ?_) fun _ _ _ x => x)
  rcases q with ⟨ks, ds, rfl, q⟩ | ⟨ks, ds, rfl, q⟩ <;> exact wp_ok q
end
end G

/-! # G59: own == beside other kinds, in lists and tuples (the model's side) -/
namespace G
open PySem PySem.Spec PyProof.Rows
open PySem.SeqAt
open AutoSeq1 (wpAny_loadPart')
open MeetsSeq MeetsSeq2 MeetsSeq3 SeqRoads2
section
variable {prog : Program} {w : World} {A : Around} {R : Result → Shared → Prop}
end
section
variable {prog : Program} {w : World} {A : Around} {E : Value → Shared → Prop} {s : Shared}
end
end G

/-! # G60: == and != of other kinds beside an instance: they decline, the own one answers -/
namespace G
open PySem PySem.Spec PyProof.Rows
open PySem.SeqAt
open AutoSeq1 (wpAny_loadPart')
open MeetsSeq MeetsSeq2 MeetsSeq3 SeqRoads2
section
variable {prog : Program} {w : World} {A : Around} {E : Value → Shared → Prop} {s : Shared} {x C dx : Addr} {K : PySem.W.Frag} {R : Result → Shared → Prop}
theorem str_dec (b : Str) (u : Tok) (hx : s.heap.get? x = some (PySem.W.instObj C dx)) (h : R (.ok (.ret .notImplemented)) s) :
    wpAny (model prog w) A.in1 (Builtin.«str.__eq__» ⟨[.str b u, .ref x], []⟩) (GQ.FinOf prog w A R) (fun e s' => R (.error e) s') s := by
  obtain ⟨hp, g, d, tk, os⟩ := s
  unfold PySem.W.instObj at hx
  wp_walk using wpAny_loadPart' hx, wpAny_load hx
  exact h
theorem str_ndec (b : Str) (u : Tok) (hx : s.heap.get? x = some (PySem.W.instObj C dx)) (h : R (.ok (.ret .notImplemented)) s) :
    wpAny (model prog w) A.in1 (Builtin.«str.__ne__» ⟨[.str b u, .ref x], []⟩) (GQ.FinOf prog w A R) (fun e s' => R (.error e) s') s := by
  obtain ⟨hp, g, d, tk, os⟩ := s
  unfold PySem.W.instObj at hx
  wp_walk using wpAny_loadPart' hx, wpAny_load hx
  exact h
end
/-- what == asks of a class beside other kinds -/
structure OthK (K : PySem.W.Frag) (C : Addr) : Prop where
  a1 : PySem.W.subIn K (.ref C) (.type "NoneType") = some false
  a2 : PySem.W.subIn K (.ref C) (.type "bool") = some false
  a3 : PySem.W.subIn K (.ref C) (.type "int") = some false
  a4 : PySem.W.subIn K (.ref C) (.type "str") = some false
  a5 : PySem.W.subIn K (.ref C) (.type "list") = some false
  a6 : PySem.W.subIn K (.ref C) (.type "tuple") = some false
  a7 : PySem.W.subIn K (.ref C) (.type "dict") = some false
  b1 : PySem.W.subIn K (.type "NoneType") (.ref C) = some false
  b2 : PySem.W.subIn K (.type "bool") (.ref C) = some false
  b3 : PySem.W.subIn K (.type "int") (.ref C) = some false
  b4 : PySem.W.subIn K (.type "str") (.ref C) = some false
  b5 : PySem.W.subIn K (.type "list") (.ref C) = some false
  b6 : PySem.W.subIn K (.type "tuple") (.ref C) = some false
  b7 : PySem.W.subIn K (.type "dict") (.ref C) = some false
/-- a value whose == and != decline beside an instance -/
structure Dec (prog : Program) (w : World) (K : PySem.W.Frag) (C : Addr) (s : Shared) (u : Value) (T : String) : Prop where
  ty : s.TypeIs u T
  fst : PySem.W.notFirst K C (.type T) = true
  sub : PySem.W.subIn K (.ref C) (.type T) = some false
  eq : ∀ (A : Around) (E : Value → Shared → Prop) (x dx : Addr) (Q : Option Value → Shared → Prop), s.heap.get? x = some (PySem.W.instObj C dx) → Q none s → wpAny (model prog w) A (tryCompare u "__eq__" (.ref x)) Q E s
  ne : ∀ (A : Around) (E : Value → Shared → Prop) (x dx : Addr) (Q : Option Value → Shared → Prop), s.heap.get? x = some (PySem.W.instObj C dx) → Q none s → wpAny (model prog w) A (tryCompare u "__ne__" (.ref x)) Q E s
section
variable {prog : Program} {w : World} {s : Shared} {C : Addr} {K : PySem.W.Frag}
theorem nf_of {K : PySem.W.Frag} {C : Addr} {T : String} (h : PySem.W.subIn K (.type T) (.ref C) = some false) : PySem.W.notFirst K C (.type T) = true := by
  unfold PySem.W.notFirst
  rw [h]
  simp
theorem dec_str (O : OthK K C) (b : Str) (u : Tok) : Dec prog w K C s (.str b u) "str" where
  ty := typeIs_str s b u
  fst := nf_of O.b4
  sub := O.a4
  eq := fun A E x dx Q hx q => wpAny_tryCompare_declines (typeIs_str s b u) F.slot_str_eq (GQ.call_here F.slot_str_eq (typeIs_str s b u) F.entry_str_eq (F.args_str_eq_2 _ _) (str_dec (R := wants (fun v s' => v = .notImplemented ∧ Q none s') E) b u hx ⟨rfl, q⟩))
  ne := fun A E x dx Q hx q => wpAny_tryCompare_declines (typeIs_str s b u) F.slot_str_ne (GQ.call_here F.slot_str_ne (typeIs_str s b u) F.entry_str_ne (F.args_str_ne_2 _ _) (str_ndec (R := wants (fun v s' => v = .notImplemented ∧ Q none s') E) b u hx ⟨rfl, q⟩))
end
section
variable {prog : Program} {w : World} {A : Around} {E : Value → Shared → Prop} {s : Shared} {K : PySem.W.Frag} {x C dx f : Addr} {od : Option Obj} {u tb : Value} {T : String}
end
end G

/-! # G61: == and != by an own __eq__, beside other kinds, in lists and tuples -/
namespace G
open PySem PySem.Spec PyProof.Rows L2
/-! ### what is surely not the same object -/
section
variable {K : PySem.W.Frag} {mg : Str → Option Value} {mu : Mp} {hs : Hs} {H : Hp}
end
/-! ### what == answers -/
section
variable {X : Cx} {k : Nat} {f C : Addr} {fd : FuncData} {ps : List Str} {fn : List D → Hs → R D} {c : Str} {hs : Hs} {d e : D} {b : Bool}
/-- what is kept -/
def Kp (X : Cx) (pins : List (Addr × Obj)) (σ : L2.St) (mu : Mp) (H : Hp) (hs : Hs) (s' : Shared) : Prop := ∃ mu' H', Lat mu H mu' H' ∧ Sim X.K X.mg mu' hs H' ∧ Inv X pins σ H' s'
def RunQ (X : Cx) (k : Nat) (hs : Hs) (d e : D) (op : Value → Value → Sem Value) (b : Bool) : Prop :=
  ∀ (A' : Around) (pins : List (Addr × Obj)) (σ : L2.St) (s : Shared) (H : Hp) (mu : Mp) (x y : V) (u v : Value), Room k A' → A'.guards = some [] → A'.frames = X.A.frames → Inv X pins σ H s → Sim X.K X.mg mu hs H →
    RD X.K mu H d x → RD X.K mu H e y → RelV x u → RelV y v → wpAny (model X.prog X.w) A' (op u v) (fun r s' => r = .bool b ∧ Kp X pins σ mu H hs s') X.xe s
def RunE (X : Cx) (k : Nat) (hs : Hs) (d e : D) (b : Bool) : Prop :=
  ∀ (A' : Around) (pins : List (Addr × Obj)) (σ : L2.St) (s : Shared) (H : Hp) (mu : Mp) (x y : V) (u v : Value), Room k A' → A'.guards = some [] → A'.frames = X.A.frames → Inv X pins σ H s → Sim X.K X.mg mu hs H →
    RD X.K mu H d x → RD X.K mu H e y → RelV x u → RelV y v → wpAny (model X.prog X.w) A' (eqBool u v) (fun r s' => r = b ∧ Kp X pins σ mu H hs s') X.xe s
theorem Kp.refl {pins : List (Addr × Obj)} {σ : L2.St} {mu : Mp} {H : Hp} {s' : Shared} (S : Sim X.K X.mg mu hs H) (I : Inv X pins σ H s') : Kp X pins σ mu H hs s' := ⟨mu, H, .refl, S, I⟩
theorem RunQ.mono {op : Value → Value → Sem Value} {j : Nat} (h : RunQ X k hs d e op b) (hk : k ≤ j) : RunQ X j hs d e op b := fun A' pins σ s H mu x y u v hr => h A' pins σ s H mu x y u v (hr.mono hk)
theorem RunE.mono {j : Nat} (h : RunE X k hs d e b) (hk : k ≤ j) : RunE X j hs d e b := fun A' pins σ s H mu x y u v hr => h A' pins σ s H mu x y u v (hr.mono hk)
section
variable (M : EqK X.K c C f) (O : OthK X.K C) (F : FnG X.prog X.w X.K X.mg X.base k f fd ps (spU X.K X.mg ps.length fn)) (hb : BindK X.K fd ps 2 [] [0, 1] []) (hl : ps.length = 2)
include M F hb hl
end
/-! ### plain data -/
/-! ### lists, tuples -/
section
variable {ds es : List D} {E : Nat → Bool}
end
end
end G

/-! # G62: ==, != and in by an own __eq__: the rules -/
namespace G
open PySem PySem.Spec PyProof.Rows L2
section
variable {X : Cx} {Wd : WX} {k : Nat} {f C : Addr} {fd : FuncData} {ps : List Str} {fn : List D → Hs → R D} {c : Str} {hs : Hs} {b : Bool}
section
variable (M : EqK X.K c C f) (O : OthK X.K C) (F : FnG X.prog X.w X.K X.mg X.base k f fd ps (spU X.K X.mg ps.length fn)) (hb : BindK X.K fd ps 2 [] [0, 1] []) (hl : ps.length = 2)
include M O F hb hl
end
end
end G

/-! # G63: isinstance(x, Own) of anything; what == by an own __eq__ answers -/
namespace G
open PySem PySem.Spec PyProof.Rows L2
structure OnK (K : PySem.W.Frag) (u : Value) : Prop where
  t1 : PySem.W.kitOne K (.type "int") u = some false
  t2 : PySem.W.kitOne K (.type "str") u = some false
  t3 : PySem.W.kitOne K (.type "bool") u = some false
  t4 : PySem.W.kitOne K (.type "tuple") u = some false
  t5 : PySem.W.kitOne K (.type "list") u = some false
  t6 : PySem.W.kitOne K (.type "dict") u = some false
  t7 : PySem.W.kitOne K (.type "NoneType") u = some false
theorem OnK.at_ {K : PySem.W.Frag} {u : Value} (h : OnK K u) (t : Tn) : PySem.W.kitOne K (.type t.nm) u = some false := by
  cases t
  · exact h.t1
  · exact h.t2
  · exact h.t3
  · exact h.t4
  · exact h.t5
  · exact h.t6
def isNonD : D → Bool
  | .non => true
  | _ => false
def eIsO2 (T : List (Str × Bool)) (f : FE) : FE := fun e hs => (f e hs).bind fun d hs => match insOf hs d with
  | some (c, _) => (match T.lookup c with | some b => .ok (.bl b) hs | none => .bad)
  | none => if isNonD d = true then .ok (.bl false) hs else match tnOf hs d with | some _ => .ok (.bl false) hs | none => .bad
section
variable {Q : D → Hs → Prop} {X : XQ} {e : Ev} {hs : Hs} {P : Po}
/-- what isinstance answers -/
def isO2 (T : List (Str × Bool)) (h : Hs) (d : D) : Option Bool := match insOf h d with
  | some (c, _) => T.lookup c
  | none => if isNonD d = true then some false else (tnOf h d).map fun _ => false
theorem wp_isO2 {T : List (Str × Bool)} {f : FE} (h : Wp (f e hs) (fun d h => ∃ b, isO2 T h d = some b ∧ Q (.bl b) h) X) : Wp (eIsO2 T f e hs) Q X := by
  refine wp_bind (wp_mono h (fun d h' q => ?_) fun _ _ _ x => x)
  obtain ⟨b, z, q⟩ := q
  unfold isO2 at z
  cases y : insOf h' d with
  | none =>
    rw [y] at z
    dsimp only at z ⊢
    split at z
    · rename_i hn
      cases z
      rw [if_pos hn]
      exact wp_ok q
    · rename_i hn
      rw [if_neg hn]
      obtain ⟨t, e1, e2⟩ := Option.map_eq_some_iff.mp z
      rw [e1]
      cases e2
      exact wp_ok q
  | some p =>
    obtain ⟨c, k⟩ := p
    rw [y] at z
    dsimp only at z ⊢
    rw [z]
    exact wp_ok q
end
/-! ### answers -/
section
variable {c : Str} {fn : List D → Hs → R D} {h : Hs} {d e : D} {b : Bool} {n : Nat}
end
end G

/-! # G64: walks over a list of ours that stands still, its last item, its parts -/
namespace G
open PySem PySem.Spec L2
section
variable {h : Hs} {Q : D → Hs → Prop} {X : XQ} {e : Ev} {hs : Hs} {P : Po}
end
end G

/-! # G65: {k: v, ..} with keys numbers and texts, by value and as a thing of ours -/
namespace G
open PySem PySem.Spec PyProof.Rows L2
section
variable {K : PySem.W.Frag} {mg : Str → Option Value} {mu mu' : Mp} {hs hs' : Hs} {H H' : Hp}
end
def relP (K : PySem.W.Frag) : Rel (List (D × D)) (List (V × V)) := fun _ mu _ H ds vs => RDs K mu H (ds.map (·.1)) (vs.map (·.1)) ∧ RDs K mu H (ds.map (·.2)) (vs.map (·.2)) ∧ ds.length = vs.length
theorem relP_ok {K : PySem.W.Frag} : (relP K).Ok := fun _ _ _ _ _ _ _ _ _ _ _ h => h
abbrev FPs := Ev → Hs → R (List (D × D))
def pNil : FPs := fun _ hs => .ok [] hs
def pCons (fk fv : FE) (g : FPs) : FPs := fun e hs => (fk e hs).bind fun k hs => (fv e hs).bind fun v hs => (g e hs).bind fun l hs => .ok ((k, v) :: l) hs
def dispD (l : List (D × D)) : Option (List (Key × D)) := match keysD (l.map (·.1)) with
  | some ks => if l.length ≤ 15 then some (mrgG [] (ks.zip (l.map (·.2)))) else none
  | none => none
/-- by value -/
def eDisp (g : FPs) : FE := fun e hs => (g e hs).bind fun l hs => match dispD l with
  | some m => .ok (.dct (m.map (·.1)) (m.map (·.2))) hs
  | none => .bad
def UPs (X : Cx) (Wd : WX) (pos : Pos) (keys : List (Option Expr)) (values : List Expr) (g : FPs) : Prop :=
  ∃ trs, PPs X pos keys values trs ∧ ∀ σ H Q, tG (relP X.K) X.K X.mg Wd g σ H Q → tPairs trs σ H Q
section
variable {X : Cx} {Wd : WX} {pos : Pos} {keys : List (Option Expr)} {values : List Expr} {g : FPs}
theorem ups_nil : UPs X Wd pos [] [] pNil := ⟨[], pps_nil, fun σ H Q h => by
  obtain ⟨e, mu, hs, S, E, q⟩ := h
  exact q mu H [] .refl S ⟨.nil, .nil, rfl⟩⟩
theorem ups_cons {k v : Expr} {fk fv : FE} (hk : UE X Wd k fk) (hv : UE X Wd v fv) (hr : UPs X Wd pos keys values g) : UPs X Wd pos (some k :: keys) (v :: values) (pCons fk fv g) := by
  obtain ⟨trs, P, i⟩ := hr
  refine ⟨_, pps_cons hk hv P, fun σ H Q h => ?_⟩
  obtain ⟨e, mu, hs, S, E, q⟩ := tG_seq (r := relD X.K) relP_ok h
  refine ⟨e, mu, hs, S, E, q.imp fun x H1 ⟨e, mu1, hs1, d, S1, E1, r1, g1⟩ => ?_⟩
  obtain ⟨e2, mu2, hs2, S2, E2, q2⟩ := tG_seq (r := relD X.K) (a' := List (D × D)) (b' := List (V × V)) relP_ok (f := fun e' hs' => fv e' hs') (k := fun e' v hs' => (g e' hs').bind fun l hs => .ok ((d, v) :: l) hs) (K := X.K) (mg := X.mg) (Wd := Wd) (σ := σ) (H := H1) (Q := Q) ⟨e, mu1, hs1, S1, E1, g1⟩
  refine ⟨e, mu1, hs1, S1, E1, (Gd.bind (r := relD X.K) relP_ok g1).imp fun y H2 ⟨mu2, hs2, d2, l2, S2, r2, g2⟩ => ?_⟩
  refine i σ H2 _ ⟨e, mu2, hs2, S2, E1.agr (l2.agr S1), (Gd.bind (r := relP X.K) relP_ok g2).imp fun ps H3 ⟨mu3, hs3, ds, l3, S3, ⟨r31, r32, r33⟩, g3⟩ => ?_⟩
  exact g3 mu3 H3 _ .refl S3 ⟨.cons (RD.agr (l3.agr S2) (RD.agr (l2.agr S1) r1)) r31, .cons (RD.agr (l3.agr S2) r2) r32, by rw [List.length_cons, List.length_cons, r33]⟩
theorem zip_self : ∀ {k a : Type} (l : List (k × a)), (l.map (·.1)).zip (l.map (·.2)) = l
  | _, _, [] => rfl
  | _, _, p :: l => by rw [List.map_cons, List.map_cons, List.zip_cons_cons, zip_self l]
theorem keysD_len : ∀ {ds : List D} {ks : List Key}, keysD ds = some ks → ks.length = ds.length
  | [], _, h => by cases h; rfl
  | d :: ds, ks, h => by
    unfold keysD at h
    split at h
    · split at h
      · rename_i k _ ks' h2
        cases h
        rw [List.length_cons, List.length_cons, keysD_len h2]
      · cases h
    · cases h
/-- what the display holds -/
theorem disp_at {mu : Mp} {H : Hp} {l : List (D × D)} {ps : List (V × V)} {m : List (Key × D)} (r : relP X.K H mu [] H l ps) (h : dispD l = some m) :
    ∃ kvs : List (Key × V), ps = kvs.map (fun kv => (kV kv.1, kv.2)) ∧ kvs.length ≤ 15 ∧ RKs X.K mu H m (mrgV [] kvs) := by
  obtain ⟨r1, r2, r3⟩ := r
  unfold dispD at h
  split at h
  · rename_i ks hk
    split at h
    · rename_i hl
      cases h
      have e1 := keysD_at r1 hk
      have lk := keysD_len hk
      rw [List.length_map] at lk
      have lv : ks.length = (ps.map (·.2)).length := by rw [List.length_map, lk, r3]
      refine ⟨ks.zip (ps.map (·.2)), ?_, by rw [List.length_zip, lk]; omega, (RKs.zip r2).mrg .nil⟩
      rw [← zip_self ps, e1]
      clear e1 r1 r2 hk hl lk r3
      induction ks generalizing ps with
      | nil => simp
      | cons k ks ih =>
        cases ps with
        | nil => simp at lv
        | cons p ps =>
          simp only [List.map_cons, List.zip_cons_cons, List.cons.injEq, true_and]
          have := ih (ps := ps) (by simpa using lv)
          simpa [zip_self] using this
    · cases h
  · cases h
theorem ue_disp (h : UPs X Wd pos keys values g) (hall : keys.all (·.isSome) = true := by rfl) (hl : keys.length = values.length := by rfl) (h0 : keys ≠ [] := by exact List.cons_ne_nil _ _) (h15 : keys.length ≤ 15 := by exact Nat.le_of_ble_eq_true rfl) : UE X Wd (.Dict keys values pos) (eDisp g) := by
  obtain ⟨trs, P, i⟩ := h
  refine PE.imp (pe_disp P hall hl h0 h15) fun σ H Q h p hp => ?_
  obtain ⟨e, mu, hs, S, E, q⟩ := h
  have l0 : Lat mu H mu (upd H p (.dK [])) := .new hp
  refine i σ _ _ ⟨e, mu, hs, S.new hp, E.agr (l0.agr S), ?_⟩
  unfold eDisp at q
  cases z : g e hs with
  | bad => rw [z] at q; exact q
  | exc c fs hs' => rw [z] at q; exact fun mu' H' cls dx l s rr => q mu' H' cls dx (l0.trans l) s rr
  | ok l hs' =>
    rw [z] at q
    intro mu1 H1 ps l1 S1 r1
    have q : Gd (relD X.K) X.K X.mg Wd σ mu H Q (match dispD l with | some m => .ok (.dct (m.map (·.1)) (m.map (·.2))) hs' | none => .bad) := q
    cases y : dispD l with
    | none => rw [y] at q; exact q.elim
    | some m =>
      rw [y] at q
      obtain ⟨e1, n1, z1⟩ := l1.ext p _ upd_same (S.fresh hp)
      have nz : ¬ mu1.fz p := fun z => S.freshz hp (z1 z)
      have ni : ¬ Imm (.dK []) := fun z => z
      obtain ⟨kvs, ek, lk, rk⟩ := disp_at (X := X) r1 y
      refine ⟨e1, kvs, ek, lk, ?_⟩
      have S2 := S1.privI (o := .dK (mrgV [] kvs)) e1 ni n1 nz
      have hz : upd H1 p (.dK (mrgV [] kvs)) p = some (.dK ((m.map (·.1)).zip ((mrgV [] kvs).map (·.2)))) := by rw [upd_same, rk.fsts, zip_map]
      refine q (mu1.still p) _ (.ref p) ⟨l1.pre, fun a z => .inr (l1.sub a z), fun b o hb nb => ?_⟩ (S2.still upd_same n1) (show RD X.K (mu1.still p) _ (.dct (m.map (·.1)) (m.map (·.2))) (.ref p) from .dct hz (.inl rfl) (by simp) (RDs.agr .still (RDs.agr (.privI e1 ni nz) rk.snds)))
      have hbp : b ≠ p := ne_of_none hb hp
      obtain ⟨a1, a2, a3⟩ := l1.ext b o (by rw [upd_ne hbp]; exact hb) nb
      exact ⟨by show upd H1 p _ b = _; rw [upd_ne hbp]; exact a1, a2, fun z => z.elim (fun e => absurd e hbp) a3⟩
end
section
variable {e : Ev} {hs : Hs} {X : XQ}
theorem wp_pNil {Q : List (D × D) → Hs → Prop} (h : Q [] hs) : Wp (pNil e hs) Q X := wp_ok h
theorem wp_pCons {fk fv : FE} {g : FPs} {Q : List (D × D) → Hs → Prop} (h : Wp (fk e hs) (fun k h => Wp (fv e h) (fun v h => Wp (g e h) (fun l h => Q ((k, v) :: l) h) X) X) X) : Wp (pCons fk fv g e hs) Q X :=
  wp_bind (wp_mono h (fun _ _ q => wp_bind (wp_mono q (fun _ _ q => wp_bind (wp_mono q (fun _ _ q => wp_ok q) fun _ _ _ x => x)) fun _ _ _ x => x)) fun _ _ _ x => x)
theorem wp_disp {g : FPs} {Q : D → Hs → Prop} (h : Wp (g e hs) (fun l h => ∃ m, dispD l = some m ∧ Q (.dct (m.map (·.1)) (m.map (·.2))) h) X) : Wp (eDisp g e hs) Q X := by
  refine wp_bind (wp_mono h (fun l h' q => ?_) fun _ _ _ x => x)
  obtain ⟨m, z, q⟩ := q
  rw [z]
  exact wp_ok q
end
end G

/-! # G66: the truth of an instance by its own __len__; bool(x) -/
namespace G
open PySem PySem.Spec PyProof.Rows L2
/-- a class with an own __len__ and no __bool__ -/
structure LnK (K : PySem.W.Frag) (c : Str) (C : Addr) (f : Addr) : Prop extends SpK K c C "__len__" f where
  nb : PySem.W.findIn K (.ref C) "__bool__" = some none
section
variable {X : Cx} {k : Nat} {f C : Addr} {fd : FuncData} {ps : List Str} {fn : List D → Hs → R D} {c : Str}
end
section
variable {e : Ev} {hs : Hs} {X : XQ}
end
end G

/-! # G67: == of numbers, texts and tuples of these is being the same -/
namespace G
open PySem PySem.Spec L2
mutual
/-- numbers, texts, tuples of these -/
def pt : D → Bool
  | .int _ => true
  | .str _ => true
  | .tup ds => pts ds
  | _ => false
def pts : List D → Bool
  | [] => true
  | d :: ds => pt d && pts ds
end
section
variable {r : Nat → Option PyData}
end
open Classical in
/-- whether they are the same -/
noncomputable def sameD (d e : D) : Bool := decide (d = e)
end G

/-! # G68: not x of an instance by its own __len__; more rules of what holds -/
namespace G
open PySem PySem.Spec PyProof.Rows L2
section
variable {X : Cx} {k : Nat} {f C : Addr} {fd : FuncData} {ps : List Str} {fn : List D → Hs → R D} {c : Str}
end
section
variable {e : Ev} {hs : Hs} {X : XQ} {h : Hs} {P : Po}
/-- a statement that only goes on -/
theorem ws_cut {f g : FS} (R : Ev → Hs → Prop) (h1 : Ws (f e hs) { nx := R }) (h2 : ∀ e h, R e h → Ws (g e h) P) : Ws (sSeq f g e hs) P :=
  ws_seq (ws_mono h1 h2 (fun _ _ h => h.elim) (fun _ _ h => h.elim) (fun _ _ h => h.elim) (fun _ _ _ _ h => h.elim))
end
end G

/-! # G69: xs.pop(i), xs.extend(ys) -/
namespace G
open PySem PySem.Spec PyProof.Rows L2
section
variable {X : Cx}
end
section
variable {h : Hs} {n : Nat} {ds es : List D} {i : Int} {d y : D}
end
end G

/-! # G70: tuples in lists of plain data; changes of things that stand -/
namespace G
open PySem PySem.Spec L2
section
variable {h : Hs} {L n : Nat} {K K' : Hs → Prop} {o : O}
theorem St.upd (S : St L K h) (hn : 2 < n) (k : K' (h.set n o)) : St L K' (h.set n o) := by
  obtain ⟨ne, ⟨s, c, h1⟩, ⟨ns, hl, h2⟩⟩ := S.deck
  refine ⟨⟨ne, ⟨s, c, by rw [get_set_ne (by omega)]; exact h1⟩, ⟨ns, hl, by rw [get_set_ne (by omega)]; exact h2⟩⟩, k, ?_⟩
  rw [List.length_set]; exact S.len
end
end G

/-! # G71: exceptions made by keywords -/
namespace PySem.HandSPX
open PySem PySem.Spec PyProof.Rows
section
variable {M : Model} {A : Around} {E : Value → Shared → Prop} {h : Heap} {g : Array GenState} {d : Drawn} {t : Nat} {os : OsState}
variable {nm q : Str} {C N : Addr} {bs bm bmB : List Value} {hdct : Bool} {sn : List Str} {sub : List Value} {ab : Bool} {col : Option Bool} {dd : Option Addr} {k0 k1 k2 k3 k5 : Option Value} {B newId initId : String}

end
section
variable {prog : Program} {w : World} {A : Around} {E : Value → Shared → Prop} {R : Result → Shared → Prop} {h : Heap} {g : Array GenState} {d : Drawn} {t : Nat} {os : OsState}
variable {nm q : Str} {C N : Addr} {bs bm bmB : List Value} {hdct : Bool} {sn : List Str} {sub : List Value} {ab : Bool} {col : Option Bool} {dd : Option Addr} {k0 k1 k2 k3 k5 : Option Value} {B newId initId : String}

end
end PySem.HandSPX
namespace G
open PySem PySem.Spec PyProof.Rows L2
section
variable {X : Cx} {pins : List (Addr × Obj)} {σ : L2.St} {H : Hp} {s : Shared}
end
section
variable {X : Cx} {e : Expr} {es : List Expr} {p pos : Pos} {bmB : List Value} {B newId initId : String} {x : Str} {C fI : Addr} {k : Nat} {fd : FuncData} {ps fs ks : List Str} {Wd : WX} {f : FA} {is : List Nat} {kws : List Keyword}
end
/-! ### how to walk them -/
section
variable {e : Ev} {hs : Hs} {Q : D → Hs → Prop} {XX : XQ} {x : Str} {fs : List Str} {is : List Nat} {f : FA}
end
end G
namespace G
open PySem PySem.Spec PyProof.Rows L2
/-- what stands in an except suite -/
structure SuR (X : Cx) : Prop where
  units : X.A.units + 64 < cLine
structure SuB (X : Cx) : Prop where
  room : SuR X
end G

/-! # G72: functions that may run while a repr is under way; repr of a tuple in which own instances stand -/
namespace G
open PySem PySem.Spec PyProof.Rows L2
/-- a def's promise, whatever repr is under way -/
structure FnQ (P : Program) (w : World) (K : PySem.W.Frag) (mg : Str → Option Value) (base : Heap) (k : Nat) (f : Addr) (fd : FuncData) (ps : List Str) (sp : Sp) : Prop where
  len : ∀ vs H Q E, sp vs H Q E → vs.length = ps.length
  run : ∀ (A : Around) (outer : List Env) (s : Shared) (H : Hp) (args : Args) (us : List Value) (vs : List V) (Q : VK) (E : XK), Room k A → Env0 P w K mg base A outer s H →
    BindsTo s fd args (ps.zip us) → Vals vs us → sp vs H Q E → codeAny (model P w) A (.call (.ref f) args) (CR (L2.CX P w) outer P w H s Q E) s
structure BdQ (X : Cx) (Wd : WX) (k : Nat) : Prop where
  calm : X.calm = true
  room : Room k X.A
  tk : Takes X Wd
  po : PassesOwn (model X.prog X.w) X.A X.env X.xe
  sm : ∃ o, X.base.get? sysModules = some o
section
variable {P : Program} {w : World} {K : PySem.W.Frag} {mg : Str → Option Value} {base : Heap}
end
section
variable {K : PySem.W.Frag} {x qual : Str} {st : Stmt} {f : Addr} {fd : FuncData} {ps : List Str}
end
section
variable {X : Cx} {Wd : WX} {k k' n : Nat} {f : Addr} {fd : FuncData} {ps ks : List Str} {fn : List D → Hs → R D} {dds : List D} {dvs : List V} {ds : List Value} {is : List Nat} {x : Str} {p pos kpos : Pos} {e : Expr} {es : List Expr} {fa fk : FA} {kws : List Keyword}
theorem BdQ.blk {s : Shared} {H : Hp} {scope : Scope} {cenv : Env} {fp : List Addr} (B : BdQ X Wd k) : BdQ (X.blk s H scope cenv fp) W0 k := ⟨B.calm, B.room, takes0, PassesOwn.never, B.sm⟩
end
section
variable {X : Cx} {k : Nat} {f C : Addr} {fd : FuncData} {ps : List Str} {fn : List D → Hs → R D} {c : Str} {pins : List (Addr × Obj)} {σ : L2.St} {s : Shared} {H : Hp} {mu : Mp} {hs hs' : Hs}
/-! ### a tuple's repr -/
theorem RDs.mem {K : PySem.W.Frag} {d : D} : ∀ {ds : List D} {vs : List V}, RDs K mu H ds vs → d ∈ ds → ∃ v, v ∈ vs ∧ RD K mu H d v
  | _, _, .cons r t, hd => by
    rcases List.mem_cons.mp hd with rfl | hd
    · exact ⟨_, List.mem_cons_self, r⟩
    · obtain ⟨v, a, b⟩ := RDs.mem t hd
      exact ⟨v, List.mem_cons_of_mem _ a, b⟩
  | _, _, .nil, hd => nomatch hd
end
end G

/-! # G73: min, max of a list of numbers -/
namespace G
open PySem PySem.Spec PyProof.Rows L2
section
variable {X : Cx}
end
section
variable {h : Hs} {ds : List D} {ns : List Int} {n : Int}
end
end G
namespace G
open PySem PySem.Spec PyProof.Rows L2
end G

/-! # G74: zip of a tuple and a list -/
namespace G
open PySem PySem.Spec PyProof.Rows L2
end G
namespace G
open PySem PySem.Spec PyProof.Rows L2
end G
namespace G
open PySem PySem.Spec PyProof.Rows L2
/-- a comprehension within a comprehension -/
theorem relabel_look {names : List (Str × NameKind)} {p : Str → NameKind → Bool} {x : Str} {k : NameKind} (h : names.lookup x = some k) :
    (names.map fun (n, k) => if p n k = true then (n, NameKind.cell) else (n, k)).lookup x = some (if p x k = true then .cell else k) := by
  induction names with
  | nil => cases h
  | cons y r ih =>
    obtain ⟨n, k'⟩ := y
    rw [List.lookup_cons] at h
    rw [List.map_cons]
    dsimp only
    by_cases e : x = n
    · subst e
      rw [beq_self_eq_true] at h
      cases h
      by_cases c : p x k = true
      · rw [if_pos c, if_pos c, List.lookup_cons, beq_self_eq_true]
      · rw [if_neg c, if_neg c, List.lookup_cons, beq_self_eq_true]
    · rw [show (x == n) = false from beq_false_of_ne e] at h
      have ih := ih h
      by_cases c : p n k' = true
      · rw [if_pos c, List.lookup_cons, show (x == n) = false from beq_false_of_ne e]; exact ih
      · rw [if_neg c, List.lookup_cons, show (x == n) = false from beq_false_of_ne e]; exact ih
theorem blkOk_n {N : List Str} {s1 scope : Scope} {env : Env} {own : List (Str × Nat)} (h : blkC N s1 scope own = true) : BlkOk N (relabel s1 env) scope own := by
  have b := blkOk_by h
  refine ⟨b.kind, b.uniq, b.ix, fun y hy e => ?_, b.own⟩
  have key : ∀ k, s1.names.lookup y.1 = some k → (k = .cell ∨ k = .free) → (relabel s1 env).names.lookup y.1 = some .cell ∨ (relabel s1 env).names.lookup y.1 = some .free := fun k hk hc => by
    have := relabel_look (p := fun n k => (k == NameKind.free && env.scope.kind == .function && env.kindOf n == some .cell)) hk
    unfold relabel
    rw [this]
    split
    · exact .inl rfl
    · rcases hc with rfl | rfl
      · exact .inl rfl
      · exact .inr rfl
  rcases b.free y hy e with q | q
  · exact key _ q (.inl rfl)
  · exact key _ q (.inr rfl)
end G

/-! # G75: sum of a tuple of numbers -/
namespace G
open PySem PySem.Spec PyProof.Rows L2
end G

/-! # G76: dicts of ours: locked, walked, listed, sorted, counted, put into one another -/
namespace G
open PySem PySem.Spec PyProof.Rows L2
/-! ### locked from now on -/
def eLk (f : FE) : FE := fun e hs => (f e hs).bind fun d hs => match d with
  | .ref n => (match hs[n]? with | some (.dk kvs) => .ok (.ref n) (hs.set n (.lkd (.dk kvs))) | _ => .bad)
  | _ => .bad
section
variable {X : Cx} {Wd : WX} {a : Expr} {f1 : FE}
theorem pe_lockK {t : TE} (he : PE X a t) : PE X a (fun σ H Q => t σ H fun x H1 => ∃ (b : Addr) (kvs : List (Key × V)), x = .ref b ∧ H1 b = some (.dK kvs) ∧ ∀ od, Q x (upd H1 b (.frz od (.dK kvs)))) := by
  refine ⟨fun pins s σ H Q I h => thn (he.run pins s σ H _ I h) fun u s1 ⟨x, H1, I1, r, b, kvs, ex, hd, q⟩ => ?_⟩
  obtain ⟨od, I2⟩ := I1.lock hd trivial
  exact ⟨x, _, I2, r, q od⟩
theorem ue_lk (ha : UE X Wd a f1) : UE X Wd a (eLk f1) := by
  refine PE.imp (pe_lockK ha) fun σ H Q h => ?_
  obtain ⟨e, mu, hs, S, E, q⟩ := tG_seq (r := relD X.K) relD_ok h
  refine ⟨e, mu, hs, S, E, q.imp fun x H1 ⟨e, mu1, hs1, d, S1, E1, r1, g1⟩ => ?_⟩
  cases r1 with
  | @ref n b ea =>
    dsimp only at g1
    split at g1
    · rename_i kvs hn
      obtain ⟨u, h1, h2⟩ := S1.at ea hn
      cases u with
      | dK vs =>
        refine ⟨b, vs, rfl, h1, fun od => ?_⟩
        exact g1 mu1 _ (.ref b) (.write ea) (S1.write ea (show RO X.K X.mg mu1 H1 (.lkd (.dk kvs)) (.frz od (.dK vs)) from h2)) (.ref ea)
      | _ => exact h2.elim
    · exact g1.elim
  | _ => exact g1.elim
/-! ### for v in d.values() -/
def iValsF (f : FE) : FI := fun e hs => (f e hs).bind fun d hs => match d with
  | .dlk _ ds => .ok (nxL ds) hs
  | _ => .bad
theorem ui_vals {tg : Expr} {apos cpos : Pos} (ha : UE X Wd a f1) (hbase : attributeBase a "values" X.env (eval a X.env) = eval a X.env := by rfl) (hline : (apos.endLine == cpos.line) = true := by rfl) : UI X Wd tg (.Call (.Attribute a "values" apos) [] [] cpos) (iValsF f1) := by
  refine PI.imp (pi_values ha hbase hline) fun σ H Q h => ?_
  obtain ⟨e, mu, hs, S, E, q⟩ := tG_seq (r := relD X.K) relI_ok h
  refine ⟨e, mu, hs, S, E, q.imp fun x H1 ⟨e, mu1, hs1, d, S1, E1, r1, g1⟩ => ?_⟩
  cases r1 with
  | dlk h1 hz h3 =>
    rename_i ks vs ds q0
    obtain ⟨⟨o, ho⟩, n1⟩ := h1
    have hl : (ks.zip vs).length = ds.length := by rw [List.length_zip, ← h3.length, ← hz, Nat.min_self]
    refine ⟨_, o, _, rfl, ho, g1 mu1 H1 _ .refl S1 ?_⟩
    intro mu' H' hs' l s i
    have k1 := (l.ext _ _ ho n1).1
    have r3 := RDs.agr (l.agr S1) h3
    refine ⟨fun q => ⟨k1, ?_⟩, fun d q => ?_⟩
    · have q : ds[i]? = none := Option.some.inj q
      have := List.getElem?_eq_none_iff.mp q
      omega
    · have q : ds[i]? = some d := Option.some.inj q
      have hi := (List.getElem?_eq_some_iff.mp q).1
      refine ⟨⟨k1, by omega⟩, fun x H2 y => ?_⟩
      obtain ⟨rfl, k', y⟩ := y
      have e1 := (List.getElem?_zip_eq_some.mp y).2
      obtain ⟨v2, e2, r2⟩ := r3.get q
      rw [e1] at e2; cases e2
      exact ⟨.refl, s, r2⟩
  | _ => exact g1.elim
end
section
variable {e : Ev} {hs : Hs} {X : XQ}
theorem wp_lk {f : FE} {Q : D → Hs → Prop} (h : Wp (f e hs) (fun d h => ∃ n kvs, d = .ref n ∧ h[n]? = some (.dk kvs) ∧ Q (.ref n) (h.set n (.lkd (.dk kvs)))) X) : Wp (eLk f e hs) Q X := by
  refine wp_bind (wp_mono h (fun d h' q => ?_) fun _ _ _ x => x)
  obtain ⟨n, kvs, rfl, e1, q⟩ := q
  dsimp only
  rw [e1]
  exact wp_ok q
theorem wp_valsF {f : FE} {Q : Nx → Hs → Prop} (h : Wp (f e hs) (fun d h => ∃ ks ds, d = .dlk ks ds ∧ Q (nxL ds) h) X) : Wp (iValsF f e hs) Q X := by
  refine wp_bind (wp_mono h (fun d h' q => ?_) fun _ _ _ x => x)
  obtain ⟨ks, ds, rfl, q⟩ := q
  exact wp_ok q
end
/-! ### dict(xs) as a thing of ours -/
def eDictPM (f : FL) : FE := fun e hs => (f e hs).bind fun ds hs => match pairsK ds with | some kvs => .ok (.ref hs.length) (hs ++ [.dk (mrgG [] kvs)]) | none => .bad
section
variable {X : Cx} {Wd : WX} {a : Expr} {p pos : Pos} {f : FL}
theorem ue_dictPM (hc : X.calm = true) (hg : L2.Gl X "dict") (hm : X.mg "dict" = none) (ha : UF X Wd a f)
    (hs1 : starEach [a] X.env = [(false, eval a X.env)] := by rfl) : UE X Wd (.Call (.Name "dict" p) [a] [] pos) (eDictPM f) := by
  refine PE.imp (pe_callTy (call_dictP hc) hg hm PyProof.Rows.boot_dict (pa_cons ha pa_nil hs1) (by decide) (by decide) hs1 rfl) fun σ H Q h => ?_
  obtain ⟨e, mu, hs, S, E, q⟩ := tG_seq (r := relF X.K X.mg) relD_ok h
  refine ⟨e, mu, hs, S, E, q.imp fun x H1 ⟨e, mu1, hs1, ds, S1, E1, r1, g1⟩ => ?_⟩
  obtain ⟨b, vs, rfl, hb, n1, n2, n3, rr⟩ := r1
  cases q : pairsK ds with
  | none => rw [q] at g1; exact g1.elim
  | some kvs =>
    rw [q] at g1
    obtain ⟨ps, ws, e1, e2, e3⟩ := pairs_at rr q
    subst e1
    refine ⟨b, ps, ws, rfl, .inl (.inl hb), e2, fun p hp => ?_⟩
    have rk : RKs X.K mu1 H1 (mrgG [] kvs) (mrgV [] ws) := e3.mrg .nil
    exact g1 (mu1.own p) _ (.ref p) (.newOwn S1 hp) (S1.newOwn hp (show RO X.K X.mg mu1 H1 (.dk (mrgG [] kvs)) (.dK (mrgV [] ws)) from rk)) (.ref (getElem?_own S1.len))
end
section
variable {e : Ev} {hs : Hs} {X : XQ}
theorem wp_dictPM {f : FL} {Q : D → Hs → Prop} (h : Wp (f e hs) (fun ds h => ∃ kvs, pairsK ds = some kvs ∧ Q (.ref h.length) (h ++ [.dk (mrgG [] kvs)])) X) : Wp (eDictPM f e hs) Q X := by
  refine wp_bind (wp_mono h (fun d h' q => ?_) fun _ _ _ x => x)
  obtain ⟨kvs, e1, q⟩ := q
  rw [e1]
  exact wp_ok q
end
/-! ### dicts read -/
def dkR (hs : Hs) : D → Option (List (Key × D))
  | .dct ks ds => some (ks.zip ds)
  | .dlk ks ds => some (ks.zip ds)
  | .ref n => (match hs[n]? with | some (.dk kvs) => some kvs | _ => none)
  | _ => none
theorem dkR_at {K : PySem.W.Frag} {mg : Str → Option Value} {mu : Mp} {hs : Hs} {H : Hp} {d : D} {v : V} {kvs : List (Key × D)} (S : Sim K mg mu hs H) (r : RD K mu H d v) (e : dkR hs d = some kvs) : ∃ a vs, v = .ref a ∧ Rd H a (.dK vs) ∧ RKs K mu H kvs vs := by
  cases r with
  | dct h _ _ r => cases e; exact ⟨_, _, rfl, .inl h, zip_rks r⟩
  | dlk h _ r => cases e; obtain ⟨⟨o, h⟩, _⟩ := h; exact ⟨_, _, rfl, .inr ⟨o, h⟩, zip_rks r⟩
  | ref q =>
    unfold dkR at e
    dsimp only at e
    split at e
    · rename_i kvs' hd
      cases e
      obtain ⟨u, h1, h2⟩ := S.at q hd
      cases u with
      | dK vs => exact ⟨_, vs, rfl, .inl h1, h2⟩
      | _ => exact h2.elim
    · cases e
  | _ => cases e
/-- the keys, as they come out -/
theorem keys_out {P : Program} {w : World} {kvs : List (Key × V)} {vs : List (Key × Value)} {acc : List Value} (hk : vs.map (·.1) = kvs.map (·.1)) (hl : acc.length = vs.length)
    (h : ∀ (j : Nat) (v : Value), acc[j]? = some v → ∃ k x, vs[j]? = some (k, x) ∧ (mixKind P w).is k v = true) : Vals (kvs.map fun kv => kV kv.1) acc := by
  induction kvs generalizing vs acc with
  | nil =>
    cases vs with
    | nil => cases acc with
      | nil => exact .nil
      | cons => cases hl
    | cons => cases hk
  | cons kv kvs ih =>
    cases vs with
    | nil => cases hk
    | cons p vs =>
      cases acc with
      | nil => cases hl
      | cons v acc =>
        rw [List.map_cons, List.map_cons] at hk
        injection hk with h1 h2
        obtain ⟨k, x, e1, e2⟩ := h 0 v rfl
        have e1 : p = (k, x) := Option.some.inj e1
        subst e1
        rw [List.map_cons]
        refine .cons ?_ (ih h2 (Nat.succ.inj hl) fun j v hj => h (j + 1) v hj)
        rw [← h1]
        exact relV_key (show keyIs k v = true from e2)
section
variable {X : Cx} {Wd : WX} {a : Expr} {p pos : Pos} {f1 : FE}
theorem call_list_dK (hcalm : X.calm = true) : CallR X (.type "list") (fun xs H Q => ∃ (d : Addr) (kvs : List (Key × V)), xs = [V.ref d] ∧ Rd H d (.dK kvs) ∧ ∀ p, H p = none → Q (.ref p) (upd H p (.lst (kvs.map fun kv => kV kv.1)))) := by
  intro pins s σ H xs us Q I r h
  obtain ⟨d, kvs, rfl, hd, q⟩ := h
  obtain ⟨u, rfl, rx⟩ := r.one
  cases rx
  obtain ⟨z, lo, vs, rel, dd⟩ := dk_rd I.hok hd
  obtain ⟨ep, hat⟩ := dd.dictAt
  have hkeys : vs.map (·.1) = kvs.map (·.1) := rel.keys.symm
  have hl : vs.length = kvs.length := by
    have e := congrArg List.length hkeys
    rw [List.length_map, List.length_map] at e
    exact e
  refine PySem.W.kdl_call (PySem.W.kdl_dict (knd := mixKind X.prog X.w) (kvs := vs) (ep := ep) lo) (I.ok.hd hcalm) hat (by omega) fun h' tk acc' c' kp e it => ?_
  have rv : Vals (kvs.map fun kv => kV kv.1) acc'.toList := keys_out hkeys (by rw [Array.length_toList]; exact it.1) fun j v hj => it.2 j v (by rw [← Array.getElem?_toList]; exact hj)
  have hz : (kvs.map fun kv => kV kv.1).length ≤ sizeLine := by rw [List.length_map]; exact z
  refine ⟨.ref s.heap.objs.size, _, I.laid (t' := tk) (o := .lst (kvs.map fun kv => kV kv.1)) kp (Nat.le_refl _) ?_, rfl, q _ (I.hok.fresh (Nat.le_refl _))⟩
  exact ⟨hz, acc'.toList, c', rv, by rw [Array.toArray_toList]; exact e⟩
theorem rks_keys {K : PySem.W.Frag} {mu : Mp} {H : Hp} {kvs : List (Key × D)} {vs : List (Key × V)} (r : RKs K mu H kvs vs) : RDs K mu H (kvs.map fun kv => keyV kv.1) (vs.map fun kv => kV kv.1) := by
  induction r with
  | nil => exact .nil
  | cons _ _ ih => exact .cons (rd_key _) ih
/-- list(d) -/
def lListD (f : FE) : FL := fun e hs => (f e hs).bind fun d hs => R.ofO ((dkR hs d).map fun kvs => kvs.map fun kv => keyV kv.1) hs
theorem uf_listD (hc : X.calm = true) (hg : L2.Gl X "list") (hm : X.mg "list" = none) (ha : UE X Wd a f1)
    (hs1 : starEach [a] X.env = [(false, eval a X.env)] := by rfl) : UF X Wd (.Call (.Name "list" p) [a] [] pos) (lListD f1) := by
  refine PE.imp (pe_callTy (call_list_dK hc) hg hm PyProof.Rows.boot_list (pa_cons ha pa_nil hs1) (by decide) (by decide) hs1 rfl) fun σ H Q h => ?_
  obtain ⟨e, mu, hs, S, E, q⟩ := tG_seq (r := relD X.K) relF_ok h
  refine ⟨e, mu, hs, S, E, q.imp fun x H1 ⟨e, mu1, hs1, d, S1, E1, r1, g1⟩ => ?_⟩
  cases e1 : dkR hs1 d with
  | none => rw [e1] at g1; exact g1.elim
  | some kvs =>
    rw [e1] at g1
    obtain ⟨a, vs, rfl, ha, rk⟩ := dkR_at S1 r1 e1
    exact ⟨a, vs, rfl, ha, fun p hp => relF_new S1 g1 hp (rks_keys rk)⟩
end
/-! ### sorted(d), whole numbers as keys -/
def insZ (x : Int) : List Int → List Int
  | [] => [x]
  | y :: r => if y < x then y :: insZ x r else x :: y :: r
def sortZ : List Int → List Int
  | [] => []
  | x :: r => insZ x (sortZ r)
theorem insZ_perm (x : Int) : ∀ l : List Int, (insZ x l).Perm (x :: l)
  | [] => .refl _
  | y :: r => by
    unfold insZ
    split
    · exact ((insZ_perm x r).cons y).trans (.swap x y r)
    · exact .refl _
theorem sortZ_perm : ∀ l : List Int, (sortZ l).Perm l
  | [] => .refl _
  | x :: r => (insZ_perm x (sortZ r)).trans ((sortZ_perm r).cons x)
theorem insZ_pw {x : Int} : ∀ {l : List Int}, l.Pairwise (· ≤ ·) → (insZ x l).Pairwise (· ≤ ·)
  | [], _ => List.pairwise_singleton _ _
  | y :: r, h => by
    unfold insZ
    split
    · rename_i q
      refine List.pairwise_cons.mpr ⟨fun z hz => ?_, insZ_pw h.of_cons⟩
      rcases List.mem_cons.mp ((insZ_perm x r).subset hz) with rfl | hz
      · omega
      · exact List.rel_of_pairwise_cons h hz
    · rename_i q
      refine List.pairwise_cons.mpr ⟨fun z hz => ?_, h⟩
      rcases List.mem_cons.mp hz with rfl | hz
      · omega
      · have := List.rel_of_pairwise_cons h hz
        omega
theorem sortZ_pw : ∀ l : List Int, (sortZ l).Pairwise (· ≤ ·)
  | [] => .nil
  | x :: r => insZ_pw (sortZ_pw r)
theorem sortZ_is {l m : List Int} (p : m.Perm l) (h : m.Pairwise (· ≤ ·)) : m = sortZ l := uniq_sorted (· ≤ ·) (fun _ _ a b => Int.le_antisymm a b) (p.trans (sortZ_perm l).symm) h (sortZ_pw l)
def intKeys : List (Key × D) → Option (List Int)
  | [] => some []
  | (.inl i, _) :: r => (intKeys r).map (i :: ·)
  | (.inr _, _) :: _ => none
theorem intKeys_eq : ∀ {kvs : List (Key × D)} {is : List Int}, intKeys kvs = some is → kvs.map (·.1) = is.map Sum.inl
  | [], _, e => by cases e; rfl
  | (.inl i, _) :: r, _, e => by
    obtain ⟨m, h1, rfl⟩ := Option.map_eq_some_iff.mp (show (intKeys r).map (i :: ·) = _ from e)
    rw [List.map_cons, List.map_cons, intKeys_eq h1]
  | (.inr _, _) :: _, _, e => nomatch e
theorem ints_of_vals : ∀ {ns : List Int} {us : List Value}, Vals (ns.map V.int) us → IntsAre us ns
  | [], _, .nil => .nil
  | _ :: _, _, .cons r t => by obtain ⟨t1, rfl⟩ := r; exact .cons _ _ (ints_of_vals t)
theorem call_sortedZ {X : Cx} (hcalm : X.calm = true) : CallR X (.builtin "sorted") (fun xs H Q => ∃ (a : Addr) (kvs : List (Key × V)) (ks : List Int), xs = [.ref a] ∧ Rd H a (.dK kvs) ∧ kvs.map (·.1) = ks.map Sum.inl ∧ ks.length ≤ 100000 ∧
    ∀ p, H p = none → Q (.ref p) (upd H p (.lst ((sortZ ks).map V.int)))) := by
  intro pins s σ H xs us Q I r q
  obtain ⟨a, kvs, ks, ex, hd, hks, h64, q⟩ := q
  subst ex
  obtain ⟨u, eu, rx⟩ := vals1 r
  subst eu
  cases rx
  obtain ⟨z, lo, vs, rel, dd⟩ := dk_rd I.hok hd
  obtain ⟨ep, hat⟩ := dd.dictAt
  have hkeys : vs.map (·.1) = kvs.map (·.1) := rel.keys.symm
  have hl : vs.length = ks.length := by
    have e := congrArg List.length (hkeys.trans hks)
    rw [List.length_map, List.length_map] at e
    exact e
  have h16 : vs.length ≤ sizeLine := by rw [hl, sizeLine_eq]; omega
  have em : (kvs.map fun kv => kV kv.1) = ks.map V.int := by
    have h := congrArg (List.map kV) hks
    rw [List.map_map, List.map_map] at h
    exact h
  refine Calls.call_function_entry PyProof.Rows.kind_sorted PyProof.Rows.plain_sorted PyProof.Rows.entry_sorted (PyProof.Rows.args_sorted1 _) ?_
  unfold Builtin.«sorted»
  refine wpAny_bind (m := checkCount "sorted" 1 1 _) (wpAny_pure ?_)
  refine wpAny_bind (PySem.W.kdu_collect (A := X.A.in1) (PySem.W.kdl_dict (knd := mixKind X.prog X.w) (kvs := vs) (ep := ep) lo) (I.ok.hd hcalm) hat h16 fun h' tk acc hk hacc => ?_)
  have hal : acc.toList.length = ks.length := by rw [Array.length_toList, hacc.1, hl]
  have hV := keys_out (acc := acc.toList) hkeys (by rw [Array.length_toList]; exact hacc.1) fun j v hj => hacc.2 j v (by rw [← Array.getElem?_toList]; exact hj)
  rw [em] at hV
  have hI : IntsAre acc.toList ks := ints_of_vals hV
  have I1 : L2.Inv X pins σ H { s with heap := h', toks := tk } := I.kept hk
  have hz : acc.toList.length ≤ sizeLine := by rw [hal, sizeLine_eq]; omega
  refine wpAny_bind (wpAny_newList ?_ hz)
  have hoL : (h'.push (seqObj "list" acc.toList.toArray 0)).get? h'.objs.size = some (seqObj "list" acc.toList.toArray 0) := Heap.get?_push_size _ rfl
  show wpAny _ _ _ _ _ { s with heap := h'.push (seqObj "list" acc.toList.toArray 0), toks := tk }
  refine wpAny_bind (wpAny_holding (wpAny_call_entry PyProof.Rows.slot_list_sort ⟨_, hoL, rfl⟩ PyProof.Rows.entry_list_sort
    (SrtO.list_sort_ord (s := { s with heap := h'.push (seqObj "list" acc.toList.toArray 0), toks := tk }) SrtO.swo_int hoL hz (fun g2 => SrtO.ints_sortable hI g2) fun out hs hb => ⟨_, rfl, ?_⟩)
    (PyProof.Rows.args_list_sort _)))
  obtain ⟨k1, k2, k3⟩ := SrtO.ints_out hI hs hb
  have k4 := sortZ_is k2 k3
  rw [k4] at k1
  obtain ⟨e', he'⟩ := PyProof.Rows.sortedHeap_at (vs := acc.toList) (out := out.toArray) hoL
  have hlen : ((sortZ ks).map V.int).length ≤ sizeLine := by
    rw [List.length_map, (sortZ_perm ks).length_eq, sizeLine_eq]; omega
  refine wpAny_pure ⟨_, rfl, .ref h'.objs.size, upd H h'.objs.size (.lst ((sortZ ks).map V.int)), I1.laid (t' := tk) (fun b u e => ?_) (Nat.le_refl _)
    (show ObjOk X.prog X.w _ _ _ (.lst ((sortZ ks).map V.int)) from ⟨hlen, out, e', vals_of_ints k1, he'⟩), rfl, q _ (I1.hok.fresh (Nat.le_refl _))⟩
  have hb : b < h'.objs.size := Heap.lt_size e
  rw [PyProof.Rows.sortedHeap_old (Nat.ne_of_lt hb) (by rw [size_push']; exact Nat.lt_succ_of_lt hb)]
  exact Heap.get?_push_of_some _ e
theorem ints_rds {K : PySem.W.Frag} {mu : Mp} {H : Hp} : ∀ ns : List Int, RDs K mu H (ns.map D.int) (ns.map V.int)
  | [] => .nil
  | n :: ns => .cons (.int n) (ints_rds ns)
def gSortZ (hs : Hs) (d : D) : Option (List D) := match dkR hs d with
  | some kvs => (match intKeys kvs with | some ks => if ks.length ≤ 100000 then some ((sortZ ks).map D.int) else none | none => none)
  | none => none
def lSortZ (f : FE) : FL := fun e hs => (f e hs).bind fun d hs => R.ofO (gSortZ hs d) hs
theorem rks_fst {K : PySem.W.Frag} {mu : Mp} {H : Hp} {kvs : List (Key × D)} {vs : List (Key × V)} (r : RKs K mu H kvs vs) : vs.map (·.1) = kvs.map (·.1) := r.fsts.symm
theorem uf_sortZ {X : Cx} {Wd : WX} {a : Expr} {f1 : FE} {p pos : Pos} (hc : X.calm = true) (hg : L2.Gl X "sorted") (hm : X.mg "sorted" = none) (ha : UE X Wd a f1)
    (hs1 : starEach [a] X.env = [(false, eval a X.env)] := by rfl) : UF X Wd (.Call (.Name "sorted" p) [a] [] pos) (lSortZ f1) := by
  refine PE.imp (pe_callB (call_sortedZ hc) hg hm boot_sorted (pa_cons ha pa_nil hs1) (by decide) (by decide) hs1 rfl) fun σ H Q h => ?_
  obtain ⟨e, mu, hs, S, E, q⟩ := tG_seq (r := relD X.K) relF_ok h
  refine ⟨e, mu, hs, S, E, q.imp fun x H1 ⟨e, mu1, hs1, d, S1, E1, r1, g1⟩ => ?_⟩
  unfold gSortZ at g1
  cases e1 : dkR hs1 d with
  | none => rw [e1] at g1; exact g1.elim
  | some kvs =>
    rw [e1] at g1
    dsimp only at g1
    cases e2 : intKeys kvs with
    | none => rw [e2] at g1; exact g1.elim
    | some ks =>
      rw [e2] at g1
      dsimp only at g1
      split at g1
      · rename_i l
        obtain ⟨a, vs, rfl, ha, rk⟩ := dkR_at S1 r1 e1
        exact ⟨a, vs, ks, rfl, ha, (rks_fst rk).trans (intKeys_eq e2), l, fun p hp => relF_new S1 g1 hp (ints_rds _)⟩
      · exact g1.elim
/-! ### len(d) -/
def gLenA (hs : Hs) (ds : List D) : Option D := match ds with
  | [d] => (match dkR hs d with | some kvs => some (.int kvs.length) | none => gLen hs [d])
  | ds => gLen hs ds
theorem cg_lenA {X : Cx} : CallR X (.builtin "len") (rC X.K X.mg gLenA) := by
  rintro pins s σ H xs us Q I r ⟨mu, hs, ds, w, S, rs, hg, q⟩
  unfold gLenA at hg
  split at hg
  · rename_i d
    split at hg
    · rename_i kvs hk
      cases hg
      cases rs with
      | cons r1 r2 =>
        cases r2
        obtain ⟨a, vs, rfl, ha, rk⟩ := dkR_at S r1 hk
        obtain ⟨u, rfl, ru⟩ := vals1 r
        cases ru
        have q' := fin0 S q (.int _)
        have el : (vs.length : Int) = kvs.length := by rw [← rk.length]
        exact d_len I ha fun t s' I' => ⟨.int vs.length, H, I', ⟨t, rfl⟩, by rw [el]; exact q'⟩
    · exact cg_len pins s σ H xs us Q I r ⟨mu, hs, _, w, S, rs, hg, q⟩
  · exact cg_len pins s σ H xs us Q I r ⟨mu, hs, _, w, S, rs, hg, q⟩
/-! ### d.update(e) -/
def isDm (hs : Hs) (d : D) : Bool := match d with
  | .ref n => (match hs[n]? with | some (.dk _) => true | _ => false)
  | _ => false
def mUpdate (hs : Hs) (d : D) (ds : List D) : Option (D × Hs) := match d, ds with
  | .ref n, [.dlk ks vs] => (match hs[n]? with
    | some (.dk kvs) => if kvs.length + (ks.zip vs).length ≤ 100000 then some (.non, hs.set n (.dk (mrgG kvs (ks.zip vs)))) else none
    | _ => none)
  | _, _ => none
theorem isDm_ty {K : PySem.W.Frag} {mg : Str → Option Value} : ∀ mu hs H d x, Sim K mg mu hs H → RD K mu H d x → isDm hs d = true → tyV K "dict" x H := fun mu hs H d x S r h => by
  cases r with
  | ref q =>
    unfold isDm at h
    dsimp only at h
    split at h
    · rename_i kvs hd
      obtain ⟨u, h1, h2⟩ := S.at q hd
      cases u with
      | dK vs => exact .inr (.inr (.inl ⟨rfl, .inl ⟨vs, h1⟩⟩))
      | _ => exact h2.elim
    · cases h
  | _ => cases h
theorem kv_mrg {more : List (Key × V)} {moreU : List (Key × Value)} (h : KV more moreU) : ∀ {kvs : List (Key × V)} {vs : List (Key × Value)}, KV kvs vs → KV (mrgV kvs more) (merged vs moreU) := by
  induction h with
  | nil => exact fun q => q
  | cons r t ih =>
    intro kvs vs q
    refine ih ?_
    rename_i p1 p2 _ _
    obtain ⟨e, r⟩ := r
    show KV (putK kvs p1.1 p1.2) (stored vs p2.1 p2.2)
    rw [← e]; exact q.put _ r
theorem mrgV_le (more : List (Key × V)) : ∀ kvs : List (Key × V), (mrgV kvs more).length ≤ kvs.length + more.length := by
  induction more with
  | nil => intro kvs; exact Nat.le_refl _
  | cons p more ih =>
    intro kvs
    have h1 := ih (putK kvs p.1 p.2)
    have h2 := length_putK kvs p.1 p.2
    show (mrgV (putK kvs p.1 p.2) more).length ≤ _
    rw [List.length_cons]
    omega
theorem mg_update {X : Cx} : MtR X "dict.update" (rMd X.K X.mg mUpdate) := by
  rintro pins s σ H x xs v us Q I rx rxs ⟨mu, hs, d, ds, w, hs', S, r1, r2, hg, q⟩
  unfold mUpdate at hg
  split at hg
  · rename_i n ks es
    split at hg
    · rename_i kvs hn
      split at hg
      · rename_i hz
        cases hg
        obtain ⟨a, rfl, ea⟩ := r1.ref_inv
        obtain ⟨w, h1, h2⟩ := S.at ea hn
        cases w with
        | dK ws =>
          have h2 : RKs X.K mu H kvs ws := h2
          cases r2 with
          | cons r2 r3 =>
            cases r3
            cases r2 with
            | dlk hst hl rr =>
              rename_i b vs
              obtain ⟨⟨o, ho⟩, nb⟩ := hst
              obtain rfl : v = Value.ref a := rx
              obtain ⟨u, eu, ru⟩ := vals1 rxs
              subst eu
              obtain rfl : u = Value.ref b := ru
              have rk : RKs X.K mu H (ks.zip es) (ks.zip vs) := zip_rks rr
              obtain ⟨z1, lo1, vs1, rel1, dd1⟩ := dk_of I.hok h1
              obtain ⟨z2, lo2, vs2, rel2, dd2⟩ := dk_rd I.hok (.inr ⟨o, ho⟩)
              have l1 : vs1.length = kvs.length := by rw [← rel1.length, h2.length]
              have l2 : vs2.length = (ks.zip es).length := by rw [← rel2.length, rk.length]
              have hne : a ≠ b := fun z => nb (z ▸ List.mem_of_getElem? ea)
              have hl5 : (mrgV ws (ks.zip vs)).length ≤ sizeLine := by
                have := mrgV_le (ks.zip vs) ws
                rw [h2.length] at hz
                rw [rk.length] at hz
                rw [sizeLine_eq]; omega
              refine call_meetsIn PySem.F.slot_dict_update dd1.typeIs PySem.F.entry_dict_update (PySem.F.args_dict_update_2 _ _) (meets_dict_update (mixKind X.prog X.w) a b hne lo2) ⟨vs1, vs2, dd1, dd2, by rw [l1, l2, sizeLine_eq]; omega, fun h' dd' _ hsb => ?_⟩
              have he : ∃ q, h'.get? a = some q := let ⟨q, _, _, hq, _⟩ := dd'; ⟨q, hq⟩
              have I2 := d_write (t' := s.toks) I (by rw [h1]; exact True.intro) hsb he (dk_new hl5 lo1 (kv_mrg rel2 rel1) dd')
              exact ⟨.non, _, I2, rfl, q mu _ .non (.write ea) (S.write ea (show RO X.K X.mg mu H (.dk _) (.dK _) from rk.mrg h2)) .non⟩
        | _ => exact h2.elim
      · cases hg
    · cases hg
  · cases hg
end G

/-! # G77: sorted of a list of any data that may be compared (pairs of tuples ..) -/
namespace G
open PySem PySem.Spec PyProof.Rows L2
def tupB : PyData → Bool
  | .tuple (_ :: _) => true
  | _ => false
def othB : PyData → Bool
  | .tuple _ => false
  | .none => false
  | _ => true
def sortOk (ps : List PyData) : Bool := (ps.all fun d => ps.all fun e => PySem.W.alike d e) && (ps.all tupB || ps.all othB) && (ps.all fun d => decide (d.depth ≤ 40))
def sortD (ds : List D) (ps : List PyData) : List D := ((ds.zip ps).mergeSort (PySem.W.dataLe false (·.2))).map (·.1)
def gSortP (hs : Hs) (d : D) : Option (List D) := match rdOf hs d with
  | some ds => (match pdXs (fun _ => none) ds with
    | some ps => if sortOk ps = true ∧ ds.length ≤ 100000 then some (sortD ds ps) else none
    | none => none)
  | none => none
theorem pdXs_le {r : Nat → Option PyData} : ∀ {ds : List D} {ps : List PyData}, pdXs r ds = some ps → ps.length = ds.length
  | [], ps, e => by unfold pdXs at e; cases e; rfl
  | d :: ds, ps, e => by
    unfold pdXs at e
    split at e
    · split at e
      · rename_i qs hq
        cases e
        rw [List.length_cons, List.length_cons, pdXs_le hq]
      · cases e
    · cases e
theorem sortD_perm {ds : List D} {ps : List PyData} (h : ps.length = ds.length) : (sortD ds ps).Perm ds := by
  unfold sortD
  have p := (List.mergeSort_perm (ds.zip ps) (PySem.W.dataLe false (·.2))).map (·.1)
  rw [List.map_fst_zip (by omega)] at p
  exact p
section
variable {X : Cx} {Wd : WX} {pins : List (Addr × Obj)} {σ : L2.St} {H : Hp} {s : Shared} {mu : Mp}
theorem each_rd (I : Inv X pins σ H s) (sm : ∃ o, X.base.get? sysModules = some o) : ∀ (ds : List D) {vs : List V} {us : List Value} {ps : List PyData}, RDs X.K mu H ds vs → Vals vs us → pdXs (fun _ => none) ds = some ps →
    PySem.W.EachIs (fun (u : Value) (b : D × PyData) => ∃ v, RelV v u ∧ RD X.K mu H b.1 v) us (ds.zip ps) ∧ PySem.W.EachIs (fun (u : Value) (b : D × PyData) => ∃ as, Reads s.heap u b.2 as) us (ds.zip ps) := by
  intro ds
  induction ds with
  | nil =>
    intro vs us ps r ru e
    cases r; cases ru
    unfold pdXs at e; cases e
    exact ⟨.nil, .nil⟩
  | cons d ds ih =>
    intro vs us ps r ru e
    cases r with
    | cons r t =>
      cases ru with
      | cons ru tu =>
        unfold pdXs at e
        split at e
        · rename_i p hp
          split at e
          · rename_i qs hq
            cases e
            obtain ⟨h1, h2⟩ := ih t tu hq
            obtain ⟨as, rd, _⟩ := rd_reads I sm (fun _ _ _ _ z => by cases z) d _ _ p r ru hp
            exact ⟨.cons ⟨_, ru, r⟩ h1, .cons ⟨as, rd⟩ h2⟩
          · cases e
        · cases e
theorem each_out {K : PySem.W.Frag} {bs : List (D × PyData)} {us : List Value} (h : PySem.W.EachIs (fun (u : Value) (b : D × PyData) => ∃ v, RelV v u ∧ RD K mu H b.1 v) us bs) : ∃ vs, Vals vs us ∧ RDs K mu H (bs.map (·.1)) vs := by
  induction h with
  | nil => exact ⟨[], .nil, .nil⟩
  | cons r t ih =>
    obtain ⟨v, r, d⟩ := r
    obtain ⟨vs, h1, h2⟩ := ih
    exact ⟨v :: vs, .cons r h1, .cons d h2⟩
def rSortP (K : PySem.W.Frag) (mg : Str → Option Value) : List V → Hp → VK → Prop := fun xs H Q => ∃ mu hs d x ds, xs = [x] ∧ Sim K mg mu hs H ∧ RD K mu H d x ∧ gSortP hs d = some ds ∧ ∀ p vs, H p = none → RDs K mu H ds vs → Q (.ref p) (upd H p (.lst vs))
theorem cr_sortP (sm : ∃ o, X.base.get? sysModules = some o) (hu : X.A.units + 65 < cLine) : CallR X (.builtin "sorted") (rSortP X.K X.mg) := by
  rintro pins s σ H xs us Q I r ⟨mu, hs, d, x, ds, rfl, S, rd, hg, q⟩
  obtain ⟨u, rfl, ru⟩ := r.one
  unfold gSortP at hg
  split at hg
  · rename_i es hes
    split at hg
    · rename_i ps hps
      split at hg
      · rename_i ok
        cases hg
        obtain ⟨ok, hl5⟩ := ok
        unfold sortOk at ok
        simp only [Bool.and_eq_true, Bool.or_eq_true, List.all_eq_true, decide_eq_true_eq] at ok
        obtain ⟨⟨o1, o2⟩, o3⟩ := ok
        have hlp := pdXs_le hps
        obtain ⟨p, vs, rfl, h1, h2⟩ := rdOf_at S rd hes
        obtain rfl : u = Value.ref p := ru
        obtain ⟨its, rv, hl, hz⟩ := I.list h1
        obtain ⟨e1, e2⟩ := each_rd I sm es h2 rv hps
        have em : (es.zip ps).map (·.2) = ps := List.map_snd_zip (by omega)
        have hal : PySem.W.AllAlike ((es.zip ps).map (·.2)) := by rw [em]; exact fun a ha b hb => o1 a ha b hb
        have hk : PySem.W.Sortable ((es.zip ps).map (·.2)) := by
          rw [em]
          rcases o2 with o | o
          · refine .inl fun a ha => ?_
            have := o a ha
            cases a with
            | tuple l => cases l with
              | nil => cases this
              | cons x r => exact ⟨x, r, rfl⟩
            | _ => cases this
          · refine .inr fun a ha => ?_
            have := o a ha
            cases a with
            | tuple l => cases this
            | none => cases this
            | _ => exact ⟨by simp, by simp⟩
        have hlz : (es.zip ps).length = es.length := by rw [List.length_zip]; omega
        refine PySem.W.sorted_data (s := s) (vs := its) (bs := es.zip ps) (enc := (·.2)) hl.isList e1 e2 hal hk (by rw [hlz, sizeLine_eq]; omega) (fun b hb => ?_) fun out ho hR => ?_
        · have := o3 b.2 (by rw [← em]; exact List.mem_map_of_mem hb)
          omega
        · obtain ⟨vs', v1, v2⟩ := each_out hR
          obtain ⟨ep, he'⟩ := PyProof.Rows.sortedAll_at s.heap its out.toArray
          have hlen : vs'.length ≤ sizeLine := by rw [v1.length, ho, hlz, sizeLine_eq]; omega
          exact ⟨.ref _, upd H (s.heap.objs.size + 1) (.lst vs'), I.laid (t' := s.toks) (fun _ _ => PyProof.Rows.sortedAll_old) (Nat.le_succ _) ⟨hlen, out, ep, v1, he'⟩, rfl, q _ vs' (I.hok.fresh (Nat.le_succ _)) v2⟩
      · cases hg
    · cases hg
  · cases hg
def lSortP (f : FE) : FL := fun e hs => (f e hs).bind fun d hs => R.ofO (gSortP hs d) hs
theorem uf_sortP {a : Expr} {f1 : FE} {p pos : Pos} (sm : ∃ o, X.base.get? sysModules = some o) (hu : X.A.units + 65 < cLine) (hg : L2.Gl X "sorted") (hm : X.mg "sorted" = none) (ha : UE X Wd a f1)
    (hs1 : starEach [a] X.env = [(false, eval a X.env)] := by rfl) : UF X Wd (.Call (.Name "sorted" p) [a] [] pos) (lSortP f1) := by
  refine PE.imp (pe_callB (cr_sortP sm hu) hg hm boot_sorted (pa_cons ha pa_nil hs1) (by decide) (by decide) hs1 rfl) fun σ H Q h => ?_
  obtain ⟨e, mu, hs, S, E, q⟩ := tG_seq (r := relD X.K) relF_ok h
  refine ⟨e, mu, hs, S, E, q.imp fun x H1 ⟨e, mu1, hs1, d, S1, E1, r1, g1⟩ => ?_⟩
  cases q : gSortP hs1 d with
  | none => rw [q] at g1; exact g1.elim
  | some ds =>
    rw [q] at g1
    exact ⟨mu1, hs1, d, x, ds, rfl, S1, r1, q, fun p vs hp rr => relF_new S1 g1 hp rr⟩
end
section
variable {e : Ev} {hs h : Hs} {X : XQ}
theorem wp_sortP {f : FE} {Q : List D → Hs → Prop} (g : Wp (f e hs) (fun d h => Wp (R.ofO (gSortP h d) h) Q X) X) : Wp (lSortP f e hs) Q X := wp_bind g
end
end G

/-! # G78: gloves by their parts; their order; Lots made; who matches whom -/
namespace G
open PySem PySem.Spec PyProof.Rows L2
noncomputable section
def f_can_have_one : FS := (sRet (eBin gLe (eCall gMax2 (aCons (eBin gIx (eName 0) (eC (.int 4))) (aCons (eBin gIx (eName 1) (eC (.int 4))) aNil))) (eCall gMin2 (aCons (eBin gIx (eName 0) (eC (.int 5))) (aCons (eBin gIx (eName 1) (eC (.int 5))) aNil)))))
def c_can_have_one : List D → Hs → R D := fnBody 2 f_can_have_one
def f_do_match : FS := (sSeq (sIf (tOrF (eB (eBin gEq (eBin gIx (eName 0) (eC (.int 2))) (eBin gIx (eName 1) (eC (.int 2))))) (tOrF (eB (eBin gNe (eBin gIx (eName 0) (eC (.int 3))) (eBin gIx (eName 1) (eC (.int 3))))) (eB (eBin gNe (eBin gIx (eName 0) (eC (.int 6))) (eBin gIx (eName 1) (eC (.int 6))))))) (sRet (eC (.bl false))) sSkip)
  (sRet (eFn c_can_have_one [0, 1] [] (aCons (eName 0) (aCons (eName 1) aNil)))))
def c_do_match : List D → Hs → R D := fnBody 2 f_do_match
def f_Lot_init : FS := (sSeq (sFld ["Lot"] "gloves" (eTup aNil) (eName 0))
  (sIf (eB (eBin gIsN (eName 1) (eC .non))) (sFld ["Lot"] "gloves" (eCall gTuple (aCons (eV (lSortA (eName 1))) aNil)) (eName 0)) sSkip))
def c_Lot_init : List D → Hs → R D := fnBody 2 f_Lot_init

end
local macro_rules | `(tactic| walk_at "s1") => `(tactic| first
  | ((with_reducible apply wp_name); (case q => rfl))
  | with_reducible refine wp_c ?_
  | with_reducible refine wp_bin ?_
  | with_reducible refine wp_acons ?_
  | with_reducible refine wp_anil ?_
  | with_reducible refine wp_call ?_
  | with_reducible refine wp_fn ?_
  | with_reducible refine wp_fnK ?_
  | with_reducible refine wp_ev ?_
  | with_reducible refine wp_em ?_
  | with_reducible refine wp_tup ?_
  | with_reducible refine wp_eb ?_
  | with_reducible refine wp_et ?_
  | with_reducible refine wp_un ?_
  | with_reducible refine wp_chain ?_
  | with_reducible refine wp_and ?_
  | with_reducible refine wp_or ?_
  | with_reducible refine wp_not ?_
  | with_reducible refine wp_andF ?_
  | with_reducible refine wp_orF ?_
  | with_reducible refine wp_notF ?_
  | with_reducible refine wp_yes ?_
  | with_reducible refine wp_if ?_
  | with_reducible refine wp_sl ?_
  | with_reducible refine wp_onone ?_
  | with_reducible refine wp_osome ?_
  | with_reducible refine wp_rev ?_
  | with_reducible refine wp_list ?_
  | with_reducible refine wp_mt ?_
  | with_reducible refine wp_any ?_
  | with_reducible refine wp_r1 ?_
  | with_reducible refine wp_r2 ?_
  | with_reducible refine ws_seq ?_
  | with_reducible refine ws_set ?_
  | with_reducible refine ws_setC ?_
  | with_reducible refine ws_setCM ?_
  | with_reducible refine ws_if ?_
  | with_reducible refine ws_ret ?_
  | with_reducible refine ws_retN ?_
  | with_reducible refine ws_drop ?_
  | with_reducible refine ws_skip ?_
  | with_reducible refine ws_asg ?_
  | with_reducible refine ws_par ?_
  | with_reducible refine ws_sub ?_
  | with_reducible refine wp_body ?_)
local macro_rules | `(tactic| walk_at "s") => `(tactic| repeat (walk_at "s1"))
local macro_rules | `(tactic| walk_at "q") => `(tactic| first | assumption | decide | omega | rfl)
local macro_rules | `(tactic| walk_at "e1") => `(tactic| first
  | with_reducible refine wp_some add_i ?_
  | with_reducible refine wp_some sub_i ?_
  | with_reducible refine wp_some lt_i ?_
  | with_reducible refine wp_some le_i ?_
  | with_reducible refine wp_some gt_i ?_
  | with_reducible refine wp_some ge_i ?_
  | with_reducible refine wp_some eq_i ?_
  | with_reducible refine wp_some ne_i ?_
  | with_reducible refine wp_some eq_b ?_
  | with_reducible refine wp_some max_i ?_
  | with_reducible refine wp_some min_i ?_
  | with_reducible refine wp_some tup_tup ?_
  | with_reducible refine wp_some tup_lst ?_
  | with_reducible refine wp_some len_tup ?_
  | with_reducible refine wp_some len_lst ?_
  | with_reducible refine wp_some sl_tup ?_
  | with_reducible refine wp_some sl_lst ?_
  | with_reducible refine wp_some tru_b ?_
  | with_reducible refine wp_some repr_b ?_
  | with_reducible refine wp_eq_sb ?_
  | with_reducible refine wp_some seq_lst ?_
  | with_reducible refine wp_some seq_tup ?_
  | ((with_reducible apply wp_ix_tup); (case q => rfl))
  | ((with_reducible apply wp_ix_lst); (case q => rfl))
  | ((with_reducible apply wp_ix_ref); (case p => assumption); (case q => rfl))
  | with_reducible refine wp_some eq_s ?_
  | ((with_reducible refine wp_some (mod_int ?q) ?_); (case q => walk_at "q"))
  | ((with_reducible refine wp_some (div_int ?p ?q) ?_); (case p => walk_at "q"); (case q => walk_at "q"))
  | ((with_reducible refine wp_some (mul_int ?q) ?_); (case q => walk_at "q"))
  | ((with_reducible refine wp_some (add_tup ?q) ?_); (case q => first | omega | exact Nat.le_of_ble_eq_true rfl | (simp; done) | (simp; omega)))
  | ((with_reducible refine wp_some (add_lst ?q) ?_); (case q => first | omega | exact Nat.le_of_ble_eq_true rfl | (simp; done) | (simp; omega)))
  | with_reducible refine Exists.intro _ (And.intro rfl ?_)
  | with_reducible refine Exists.intro _ (Exists.intro _ (And.intro rfl ?_)))
local macro_rules | `(tactic| walk_at "g") => `(tactic| repeat (first | walk_at "s1" | walk_at "e1"))
local macro_rules | `(tactic| walk_at "h1") => `(tactic| first
  | with_reducible refine wp_some ne_b ?_
  | with_reducible refine wp_ne_sb ?_
  | with_reducible refine wp_d0t ?_
  | with_reducible refine wp_d0k ?_
  | with_reducible refine wp_d0 ?_
  | with_reducible refine wp_valsT ?_
  | with_reducible refine wp_some ne_s ?_
  | with_reducible refine wp_some reprA_b ?_
  | with_reducible refine wp_d1 ?_
  | with_reducible refine wp_some isi_non ?_
  | with_reducible refine wp_some isi_bl ?_
  | with_reducible refine wp_some isi_int ?_
  | with_reducible refine wp_some isi_str ?_
  | with_reducible refine wp_some isi_tup ?_
  | with_reducible refine wp_some isi_lst ?_
  | with_reducible refine wp_some isi_dct ?_)
local macro_rules | `(tactic| walk_at "k") => `(tactic| repeat (first | walk_at "s1" | walk_at "e1" | walk_at "h1"))
local macro_rules | `(tactic| walk_at "p") => `(tactic| first | assumption | (constructor; done) | exact pln_of (by assumption) | exact Sm.pln (by assumption))
local macro_rules | `(tactic| walk_at "b1") => `(tactic| first
  | exact nof
  | exact tnof
  | (refine And.intro ?_ tnof; intro _)
  | (refine And.intro nof ?_; intro _)
  | (refine And.intro ?_ ?_ <;> intro _))
local macro_rules | `(tactic| walk_at "P1") => `(tactic| first
  | ((with_reducible show Wp (c_is_whole _ _) _ _); refine wp_of (whole_eq ?p) ?_; (case p => walk_at "p"))
  | ((with_reducible show Wp (c_is_between _ _) _ _); refine wp_of (between_eq ?p) ?_; (case p => walk_at "p")))
local macro_rules | `(tactic| walk_at "b") => `(tactic| repeat' (first | walk_at "s1" | walk_at "e1" | walk_at "h1" | walk_at "P1" | walk_at "b1"))
local macro_rules | `(tactic| walk_at "z") => `(tactic| first
  | exact (show _ ∧ _ from ⟨rfl, rfl⟩)
  | (refine (show _ ∧ _ from ⟨?_, rfl⟩); first | (simp_all; done) | (simp_all <;> omega)))
local macro_rules | `(tactic| walk_at "bz") => `(tactic| (walk_at "b" <;> try walk_at "z"))
local macro_rules | `(tactic| walk_at "P1") => `(tactic| first
  | ((with_reducible show Wp (c_is_size _ _) _ _); refine wp_of (size_eq ?p) ?_; (case p => walk_at "p"))
  | ((with_reducible show Wp (c_is_moment _ _) _ _); refine wp_of (moment_eq ?p) ?_; (case p => walk_at "p"))
  | ((with_reducible show Wp (c_is_side _ _) _ _); refine wp_of (side_eq ?p) ?_; (case p => walk_at "p"))
  | ((with_reducible show Wp (c_is_grade _ _) _ _); refine wp_of (grade_eq ?p) ?_; (case p => walk_at "p"))
  | ((with_reducible show Wp (c_is_name _ _) _ _); refine wp_of (name_eq ?p ?q) ?_; (case p => walk_at "p"); (case q => first | assumption | omega))
  | ((with_reducible show Wp (c_is_ident _ _) _ _); refine wp_of (ident_eq ?p) ?_; (case p => assumption))
  | ((with_reducible show Wp (c_is_glove _ _) _ _); refine wp_of (glove_eq ?p ?q) ?_; (case p => assumption); (case q => first | assumption | omega)))
local macro_rules | `(tactic| walk_at "d1") => `(tactic| first
  | ((with_reducible show Wp (c_draw _ _) _ _); refine' dr ?s ?k ?a ?b ?_; (case s => assumption); (case k => assumption); (case a => first | decide | omega); (case b => first | decide | omega); intro _ _ _ _ _))
local macro_rules | `(tactic| walk_at "d") => `(tactic| repeat (first | walk_at "s1" | walk_at "e1" | walk_at "h1" | walk_at "P1" | walk_at "d1"))
local macro_rules | `(tactic| walk_at "db") => `(tactic| repeat' (first | walk_at "s1" | walk_at "e1" | walk_at "h1" | walk_at "P1" | walk_at "d1" | walk_at "b1"))
local macro_rules | `(tactic| walk_at "tl") => `(tactic| repeat' (first | assumption | omega | decide | (with_reducible refine len_half ?_ ?_) | (with_reducible refine lit_half ?_) | (with_reducible refine cut_half ?_) | (with_reducible refine T_half ?_)))
local macro_rules | `(tactic| walk_at "t1") => `(tactic| first
  | ((with_reducible refine wp_some (add_str ?q ?r) ?_); (case q => walk_at "tl"); (case r => walk_at "tl"))
  | ((with_reducible refine wp_some (sl_str ?q) ?_); (case q => walk_at "tl"))
  | ((with_reducible refine wp_some (len_str ?q) ?_); (case q => walk_at "tl"))
  | ((with_reducible refine wp_someP (upper_str ?q) ?_); (case q => walk_at "tl"))
  | ((with_reducible refine wp_some (str_int ?q) ?_); (case q => first | assumption | omega))
  | with_reducible refine wp_some rev_tup ?_
  | with_reducible refine wp_some rev_lst ?_
  | with_reducible refine wp_some is_bl ?_
  | with_reducible refine wp_some isN_bl ?_
  | with_reducible refine wp_some neg_i ?_
  | with_reducible refine wp_lAdd ?_
  | with_reducible refine And.intro rfl ?_)
local macro_rules | `(tactic| walk_at "d") => `(tactic| repeat (first | walk_at "s1" | walk_at "e1" | walk_at "h1" | walk_at "t1" | walk_at "P1" | walk_at "d1"))
local macro_rules | `(tactic| walk_at "db") => `(tactic| repeat' (first | walk_at "s1" | walk_at "e1" | walk_at "h1" | walk_at "t1" | walk_at "P1" | walk_at "d1" | walk_at "b1"))
local macro_rules | `(tactic| walk_at "dz") => `(tactic| (walk_at "db" <;> try walk_at "z"))
local macro_rules | `(tactic| walk_at "hg") => `(tactic| first | assumption | exact get_new | (refine get_app ?_; walk_at "hg") | (refine' get_set_eq ?e; (case e => walk_at "hg")) | (refine (get_set_ne ?_).trans ?_; (first | omega | (simp only [List.length_append, List.length_set, List.length_cons, List.length_nil]; omega)); walk_at "hg"))
local macro_rules | `(tactic| walk_at "st") => `(tactic| repeat' (first | assumption | (with_reducible refine St.wapp ?_ ?_) | (with_reducible refine St.wset ?_ ?_ ?_ ?_) | (simp only [List.length_append, List.length_set, List.length_cons, List.length_nil]; omega) | omega))
local macro_rules | `(tactic| walk_at "ll") => `(tactic| repeat' (first | assumption | omega | exact Nat.le_of_ble_eq_true rfl | (with_reducible refine app_half ?_ ?_) | (with_reducible refine cutL_half ?_) | (with_reducible refine rev_half ?_) | (with_reducible refine map_half ?_) | (with_reducible refine cons_half ?_ ?_)))
local macro_rules | `(tactic| walk_at "n1") => `(tactic| first
  | ((with_reducible show Wp (R.ofO _ _) _ _); first
    | with_reducible apply wp_some eq_same
    | with_reducible apply wp_some ne_same
    | with_reducible apply wp_some add_i
    | with_reducible apply wp_some sub_i
    | with_reducible apply wp_some lt_i
    | with_reducible apply wp_some le_i
    | with_reducible apply wp_some gt_i
    | with_reducible apply wp_some ge_i
    | with_reducible apply wp_some eq_i
    | with_reducible apply wp_some ne_i
    | with_reducible apply wp_some eq_b
    | with_reducible apply wp_some max_i
    | with_reducible apply wp_some min_i
    | with_reducible apply wp_some tup_tup
    | with_reducible apply wp_some tup_lst
    | with_reducible apply wp_some len_tup
    | with_reducible apply wp_some len_lst
    | with_reducible apply wp_some sl_tup
    | with_reducible apply wp_some sl_lst
    | with_reducible apply wp_some tru_b
    | with_reducible apply wp_some repr_b
    | with_reducible refine wp_eq_sb ?_
    | with_reducible apply wp_some seq_lst
    | with_reducible apply wp_some seq_tup
    | ((with_reducible apply wp_ix_tup); (case q => rfl))
    | ((with_reducible apply wp_ix_lst); (case q => rfl))
    | ((with_reducible apply wp_ix_ref); (case p => assumption); (case q => rfl))
    | with_reducible apply wp_some eq_s
    | ((with_reducible apply wp_some (mod_int ?q)); (case q => walk_at "q"))
    | ((with_reducible apply wp_some (div_int ?p ?q)); (case p => walk_at "q"); (case q => walk_at "q"))
    | ((with_reducible apply wp_some (mul_int ?q)); (case q => walk_at "q"))
    | ((with_reducible apply wp_some (add_tup2 ?a ?b)); (case a => walk_at "ll"); (case b => walk_at "ll"))
    | ((with_reducible apply wp_some (add_lst2 ?a ?b)); (case a => walk_at "ll"); (case b => walk_at "ll"))
    | with_reducible apply wp_some ne_b
    | with_reducible refine wp_ne_sb ?_
    | with_reducible apply wp_some ne_s
    | with_reducible apply wp_some reprA_b
    | with_reducible apply wp_some isi_non
    | with_reducible apply wp_some isi_bl
    | with_reducible apply wp_some isi_int
    | with_reducible apply wp_some isi_str
    | with_reducible apply wp_some isi_tup
    | with_reducible apply wp_some isi_lst
    | with_reducible apply wp_some isi_dct
    | ((with_reducible apply wp_some (add_str ?q ?r)); (case q => walk_at "tl"); (case r => walk_at "tl"))
    | ((with_reducible apply wp_some (sl_str ?q)); (case q => walk_at "tl"))
    | ((with_reducible apply wp_some (len_str ?q)); (case q => walk_at "tl"))
    | ((with_reducible apply wp_some (str_int ?q)); (case q => first | assumption | omega))
    | with_reducible apply wp_some rev_tup
    | with_reducible apply wp_some rev_lst
    | with_reducible apply wp_some is_bl
    | with_reducible apply wp_some isN_bl
    | with_reducible apply wp_some neg_i
    | ((with_reducible apply wp_some (isi_pln ?q)); (case q => walk_at "p"))
    | with_reducible apply wp_some pow6
    | with_reducible apply wp_some eqT_tup
    | ((with_reducible apply wp_some (rev_str ?q)); (case q => walk_at "tl"))
    | ((with_reducible apply wp_some (add_rl ?q ?a ?b)); (case q => walk_at "hg"); (case a => walk_at "ll"); (case b => walk_at "ll"))
    | ((with_reducible apply wp_some (add_lr ?q ?a ?b)); (case q => walk_at "hg"); (case a => walk_at "ll"); (case b => walk_at "ll"))
    | ((with_reducible apply wp_some (add_rr ?q ?r ?a ?b)); (case q => walk_at "hg"); (case r => walk_at "hg"); (case a => walk_at "ll"); (case b => walk_at "ll"))
    | with_reducible apply wp_some lst_lst
    | ((with_reducible apply wp_some (lst_ref ?q)); (case q => walk_at "hg"))
    | ((with_reducible apply wp_some (len_ref ?q)); (case q => walk_at "hg"))
    | ((with_reducible apply wp_some (tup_ref ?q)); (case q => walk_at "hg"))
    | with_reducible apply wp_some pow39
    | with_reducible apply wp_some pow30
    | with_reducible apply wp_some pow40
    | with_reducible apply wp_some tru_non
    | with_reducible apply wp_some tru_int
    | with_reducible apply wp_some tru_tup
    | ((with_reducible apply wp_some (tru_str ?q)); (case q => walk_at "tl"))
    | ((with_reducible apply wp_some (mulS_str ?a ?b ?d)); (case a => walk_at "tl"); (case b => walk_at "tl"); (case d => walk_at "tl"))
    | ((with_reducible apply wp_some (mulS_tupA ?a ?b ?c ?d)); (case a => walk_at "tl"); (case b => walk_at "tl"); (case c => first | rfl | assumption); (case d => walk_at "tl")))
  | ((with_reducible show Wp (R.ofP _) _ _); first
    | ((with_reducible apply wp_someP (app_ref2 ?e ?q)); (case e => walk_at "hg"); (case q => walk_at "ll"))
    | ((with_reducible apply wp_someP (upper_str ?q)); (case q => walk_at "tl")))
  | ((with_reducible show Ws _ _); first
    | with_reducible refine ws_seq ?_
    | with_reducible refine ws_set ?_
    | with_reducible refine ws_setC ?_
    | with_reducible refine ws_setCM ?_
    | with_reducible refine ws_if ?_
    | with_reducible refine ws_ret ?_
    | with_reducible refine ws_retN ?_
    | with_reducible refine ws_drop ?_
    | with_reducible refine ws_skip ?_
    | with_reducible refine ws_asg ?_
    | with_reducible refine ws_par ?_
    | with_reducible refine ws_sub ?_)
  | ((with_reducible refine' And.intro (isL_ref ?e) ?_); (case e => walk_at "hg"))
  | ((with_reducible refine And.intro (And.intro ?a ?b) ?_); (case a => walk_at "ll"); (case b => walk_at "ll"))
  | with_reducible refine Exists.intro _ (And.intro rfl ?_)
  | with_reducible refine Exists.intro _ (Exists.intro _ (And.intro rfl ?_))
  | with_reducible refine And.intro rfl ?_
  | ((with_reducible show Wp _ _ _); first
    | ((with_reducible apply wp_name); (case q => rfl))
    | with_reducible refine wp_c ?_
    | with_reducible refine wp_bin ?_
    | with_reducible refine wp_acons ?_
    | with_reducible refine wp_anil ?_
    | with_reducible refine wp_call ?_
    | with_reducible refine wp_fn ?_
    | with_reducible refine wp_fnK ?_
    | with_reducible refine wp_ev ?_
    | with_reducible refine wp_em ?_
    | with_reducible refine wp_tup ?_
    | with_reducible refine wp_eb ?_
    | with_reducible refine wp_et ?_
    | with_reducible refine wp_un ?_
    | with_reducible refine wp_chain ?_
    | with_reducible refine wp_and ?_
    | with_reducible refine wp_or ?_
    | with_reducible refine wp_not ?_
    | with_reducible refine wp_andF ?_
    | with_reducible refine wp_orF ?_
    | with_reducible refine wp_notF ?_
    | with_reducible refine wp_yes ?_
    | with_reducible refine wp_if ?_
    | with_reducible refine wp_sl ?_
    | with_reducible refine wp_onone ?_
    | with_reducible refine wp_osome ?_
    | with_reducible refine wp_rev ?_
    | with_reducible refine wp_list ?_
    | with_reducible refine wp_mt ?_
    | with_reducible refine wp_any ?_
    | with_reducible refine wp_r1 ?_
    | with_reducible refine wp_r2 ?_
    | with_reducible refine wp_body ?_
    | with_reducible refine wp_d0t ?_
    | with_reducible refine wp_d0k ?_
    | with_reducible refine wp_d0 ?_
    | with_reducible refine wp_valsT ?_
    | with_reducible refine wp_d1 ?_
    | with_reducible refine wp_lAdd ?_
    | walk_at "P1"
    | walk_at "d1")
  | ((fail_if_success (with_reducible show Ws _ _)); (fail_if_success (with_reducible show Wp _ _ _)); show Ws _ _))
local macro_rules | `(tactic| walk_at "n") => `(tactic| repeat (walk_at "n1"))
local macro_rules | `(tactic| walk_at "nb") => `(tactic| repeat' (first | walk_at "n1" | walk_at "b1"))
local macro_rules | `(tactic| walk_at "c") => `(tactic| first
  | assumption
  | (refine closeB (by assumption) ?_; first | rfl | (simp_all; done) | (simp_all <;> omega)))
local macro_rules | `(tactic| walk_at "nc") => `(tactic| (walk_at "nb" <;> try walk_at "c"))
local macro_rules | `(tactic| walk_at "n1") => `(tactic| first
  | with_reducible refine wp_iOf ?_
  | with_reducible apply wp_some neT_tup
  | with_reducible refine ex_ent ?_
  | with_reducible refine ex_enl ?_
  | with_reducible refine ex_zpt ?_
  | with_reducible refine ex_zpl ?_)
local macro_rules | `(tactic| walk_at "q") => `(tactic| exact Int.natCast_pos.mpr (Nat.succ_pos _))
local macro_rules | `(tactic| walk_at "hg") => `(tactic| with_reducible exact St.k2 (by assumption))
local macro_rules | `(tactic| walk_at "n1") => `(tactic| first
  | with_reducible refine wp_mk ?_
  | with_reducible refine wp_mth ?_
  | with_reducible refine wp_eown ?_
  | with_reducible refine ws_fld ?_
  | with_reducible refine wp_js1 ?_
  | with_reducible refine wp_js0 ?_)
local macro_rules | `(tactic| walk_at "n1") => `(tactic| first
  | with_reducible refine wp_lRep ?_
  | with_reducible apply wp_some sk_zones
  | with_reducible apply wp_some sk_stretch
  | with_reducible apply wp_some sk_grade)
local macro_rules | `(tactic| walk_at "n1") => `(tactic| first
  | with_reducible refine wp_orT ?_
  | with_reducible refine wp_andT ?_
  | with_reducible apply wp_some neL_lst
  | with_reducible apply wp_some int_bl
  | with_reducible apply wp_some ne_ss)
local macro_rules | `(tactic| walk_at "tl") => `(tactic| repeat' (first | assumption | omega | exact Nat.le_of_ble_eq_true rfl | (with_reducible refine len_half ?_ ?_) | (with_reducible refine lit_half ?_) | (with_reducible refine cut_half ?_) | (with_reducible refine T_half ?_) | (simp only [List.length_append, List.length_cons, List.length_nil]; omega)))
local macro_rules | `(tactic| walk_at "n1") => `(tactic| first
  | with_reducible refine wp_disp ?_
  | with_reducible refine wp_pCons ?_
  | with_reducible refine wp_pNil ?_
  | with_reducible refine wp_isO2 ?_)

/-- a glove by its parts -/
structure Gv where
  m : Nat
  n : Nat
  sd : List Nat
  st : List Nat
  lo : Int
  hi : Int
  gr : Int
def Gv.k (g : Gv) : List Key := [.inl g.m, .inl g.n, .inr (T g.sd), .inr (T g.st), .inl g.lo, .inl g.hi, .inl g.gr]
abbrev Gv.d (g : Gv) : D := .tup [.int g.m, .int g.n, .str (T g.sd), .str (T g.st), .int g.lo, .int g.hi, .int g.gr]
abbrev Gv.id (g : Gv) : D := .tup [.int g.m, .int g.n, .str (T g.sd)]
theorem Gv.tup (g : Gv) : tupK g.k = g.d := rfl
structure Gv.Ok (g : Gv) : Prop where
  m1 : g.m ≤ 999999
  n1 : g.n ≤ 99
  sd : IsSide g.sd
  st : NmT g.st
  lo0 : 0 ≤ g.lo
  lh : g.lo ≤ g.hi
  hi1 : g.hi ≤ 300
  gr0 : 0 ≤ g.gr
  gr1 : g.gr ≤ 10
section
variable {L : Nat} {K : Hs → Prop} {h : Hs} {Q : D → Hs → Prop} {X : XQ} {d : D} {g g' : Gv} {gs gs' : List Gv}
theorem num_in {n : Int} (a : -1000000 ≤ n) (b : n ≤ 1000000) : n.natAbs < 10 ^ 60 := by
  have : n.natAbs ≤ 1000000 := by omega
  exact Nat.lt_of_le_of_lt this (by decide)
theorem side_len {sd : List Nat} (h : IsSide sd) : sd.length = 1 ∧ Lw sd := by
  rcases h with rfl | rfl
  · exact ⟨rfl, fun x hx => by rw [List.mem_singleton.mp hx]; exact ⟨by decide, by decide⟩⟩
  · exact ⟨rfl, fun x hx => by rw [List.mem_singleton.mp hx]; exact ⟨by decide, by decide⟩⟩
theorem Gv.Ok.sm (o : g.Ok) : Sm 2 20 g.d := by
  have ⟨s1, s2⟩ := side_len o.sd
  have := o.m1; have := o.n1; have := o.lo0; have := o.lh; have := o.hi1; have := o.gr0; have := o.gr1
  exact (sm_tup (k := 1) (sms_cons (n := 0) (sm_int (num_in (by omega) (by omega))) (sms_cons (n := 0) (sm_int (num_in (by omega) (by omega))) (sms_cons (n := 1) (sm_str (lw_ok s2) (by rw [T_len]; omega)) (sms_cons (n := 8) (sm_str (lw_ok o.st.2.2) (by rw [T_len]; exact o.st.2.1))
    (sms_cons (n := 0) (sm_int (num_in (by omega) (by omega))) (sms_cons (n := 0) (sm_int (num_in (by omega) (by omega))) (sms_cons (n := 0) (sm_int (num_in (by omega) (by omega))) sms_nil)))))))).mono (by decide) (by decide)
theorem Gv.dep : dep g.d ≤ 1 := Nat.le_refl _
theorem Gv.pt : pt g.d = true := rfl
abbrev gtD (gs : List Gv) : D := .tup (gs.map Gv.d)
abbrev AllG (gs : List Gv) : Prop := (∀ g ∈ gs, g.Ok) ∧ gs.length ≤ 60
theorem sms_gt : ∀ {gs : List Gv}, (∀ g ∈ gs, g.Ok) → Sms 2 (21 * gs.length) (gs.map Gv.d)
  | [], _ => sms_nil
  | k :: l, a => (sms_cons (a k List.mem_cons_self).sm (sms_gt fun x hx => a x (List.mem_cons_of_mem _ hx))).mono (Nat.le_refl _) (by rw [List.length_cons]; omega)
theorem sm_gt (a : AllG gs) : Sm 3 1300 (gtD gs) := (sm_tup (sms_gt a.1)).mono (by decide) (by have := a.2; omega)
theorem val_gt (a : AllG gs) : val (gtD gs) = true := val_lf (sm_gt a).lf_
/-! ### sorted -/
def insG (g : Gv) : List Gv → List Gv
  | [] => [g]
  | y :: r => if lexK y.k g.k = true then y :: insG g r else g :: y :: r
def sortG : List Gv → List Gv
  | [] => []
  | x :: r => insG x (sortG r)
theorem insG_k (g : Gv) : ∀ l : List Gv, (insG g l).map Gv.k = insK g.k (l.map Gv.k)
  | [] => rfl
  | y :: r => by
    unfold insG insK
    rw [List.map_cons]
    dsimp only
    by_cases e : lexK y.k g.k = true
    · rw [if_pos e, if_pos e, List.map_cons, insG_k g r]
    · rw [if_neg e, if_neg e]; rfl
theorem sortG_k : ∀ l : List Gv, (sortG l).map Gv.k = sortK (l.map Gv.k)
  | [] => rfl
  | x :: r => by
    show (insG x (sortG r)).map Gv.k = insK x.k (sortK (r.map Gv.k))
    rw [insG_k, sortG_k r]
theorem insG_perm (x : Gv) : ∀ l : List Gv, (insG x l).Perm (x :: l)
  | [] => .refl _
  | y :: r => by
    unfold insG
    split
    · exact ((insG_perm x r).cons y).trans (.swap x y r)
    · exact .refl _
theorem sortG_perm : ∀ l : List Gv, (sortG l).Perm l
  | [] => .refl _
  | x :: r => (insG_perm x (sortG r)).trans ((sortG_perm r).cons x)
theorem AllG.perm (a : AllG gs) (p : gs'.Perm gs) : AllG gs' := ⟨fun k hk => a.1 k (p.subset hk), by rw [p.length_eq]; exact a.2⟩
theorem AllG.sort (a : AllG gs) : AllG (sortG gs) := a.perm (sortG_perm gs)
theorem AllG.ok (a : AllG gs) : okKs (gs.map Gv.k) = true := by
  unfold okKs
  rw [Bool.and_eq_true, Bool.and_eq_true, Bool.or_eq_true]
  refine ⟨⟨List.all_eq_true.mpr fun x hx => List.all_eq_true.mpr fun y hy => ?_, .inl (List.all_eq_true.mpr fun x hx => ?_)⟩, decide_eq_true (by have := a.2; rw [List.length_map]; omega)⟩
  · obtain ⟨u, _, rfl⟩ := List.mem_map.mp hx
    obtain ⟨v, _, rfl⟩ := List.mem_map.mp hy
    rfl
  · obtain ⟨u, _, rfl⟩ := List.mem_map.mp hx
    rfl
theorem keyTs_gt : ∀ l : List Gv, keyTs (l.map Gv.d) = some (l.map Gv.k)
  | [] => rfl
  | k :: l => by
    show (match some k.k with | some ks => (match keyTs (l.map Gv.d) with | some kss => some (ks :: kss) | none => none) | none => none) = _
    rw [keyTs_gt l]; rfl
theorem sort_gt (a : AllG gs) : gSortA h (gtD gs) = some ((sortG gs).map Gv.d) := by
  show (match keyTs (gs.map Gv.d) with | some kss => sortKs kss | none => none) = _
  rw [keyTs_gt]
  show sortKs (gs.map Gv.k) = _
  unfold sortKs
  rw [if_pos a.ok, ← sortG_k, List.map_map]; rfl
/-! ### Lots -/
def lotF (gs : List Gv) : List (Str × D) := [("gloves", gtD (sortG gs))]
def lotD (gs : List Gv) : D := .ins "Lot" ["gloves"] [gtD (sortG gs)]
theorem lot_ins : insOf h (lotD gs) = some (Str.ofString "Lot", lotF gs) := rfl
theorem lot_lot : ([Str.ofString "Lot"].contains (Str.ofString "Lot")) = true := by decide +kernel
theorem lot_g : gFld ["Lot"] "gloves" h (lotD gs) = some (gtD (sortG gs)) := (fld_at lot_ins lot_lot).trans lk_here
theorem mk_lot {R : Hs → Prop} (a : AllG gs) (q : R (h ++ [.ins "Lot" (lotF gs)])) : Wp (c_Lot_init [.ref h.length, gtD gs] (h ++ [.ins "Lot" []])) (fun d h' => d = .non ∧ R h') X := by
  unfold c_Lot_init f_Lot_init
  refine wp_bodyE [some (.ref h.length), some (gtD gs)] rfl ?_
  walk_at "n"
  refine ⟨_, _, _, rfl, get_new, lot_lot, by decide, ?_⟩
  rw [set_app]
  walk_at "n"
  refine wp_some (show gIsN _ (gtD gs) .non = some (.bl true) from rfl) ?_
  walk_at "n"
  refine ⟨fun _ => ?_, tnof⟩
  walk_at "n"
  refine wp_sortA ?_
  walk_at "n"
  refine wp_some (sort_gt a) ?_
  walk_at "n"
  refine ⟨_, _, _, rfl, get_new, lot_lot, by show 1 < 1000; decide, ?_⟩
  rw [set_app]
  have e : putD (Str.ofString "gloves") (.tup ((sortG gs).map Gv.d)) (putD (Str.ofString "gloves") (.tup []) []) = lotF gs := by
    show (if Str.ofString "gloves" = Str.ofString "gloves" then _ else _) = _
    rw [if_pos rfl]; rfl
  rw [e]
  exact ⟨rfl, q⟩
theorem lot_new (a : AllG gs) : dW (dH (h ++ [.ins "Lot" (lotF gs)]) h.length 50) (.ref h.length) = some (lotD gs) :=
  dH_new (show (val (gtD (sortG gs)) && true) = true by rw [val_gt a.sort]; rfl)
/-! ### who matches whom -/
def onG (a b : Gv) : Bool := decide ((if b.lo > a.lo then b.lo else a.lo) ≤ (if b.hi < a.hi then b.hi else a.hi))
def mtG (a b : Gv) : Bool := !(T a.sd == T b.sd) && (T a.st == T b.st && (a.gr == b.gr && onG a b))
theorem one_eq : c_can_have_one [g.d, g'.d] h = .ok (.bl (onG g g')) h := by
  refine eq_any fun Q X c => ?_
  unfold c_can_have_one f_can_have_one
  refine wp_bodyE [some g.d, some g'.d] rfl ?_
  walk_at "n"
  exact c
theorem match_eq (a : g.Ok) (b : g'.Ok) : c_do_match [g.d, g'.d] h = .ok (.bl (mtG g g')) h := by
  have a1 := (side_len a.sd).2
  have a2 := (side_len b.sd).2
  have a3 := a.st.2.2
  have a4 := b.st.2.2
  refine eq_any fun Q X c => ?_
  unfold c_do_match f_do_match
  refine wp_bodyE [some g.d, some g'.d] rfl ?_
  unfold mtG at c
  walk_at "n"
  generalize (T g.sd == T g'.sd) = b1 at c ⊢
  cases b1 with
  | true =>
    refine ⟨fun _ => ⟨fun _ => ?_, tnof⟩, tnof⟩
    walk_at "n"
    exact c
  | false =>
    refine ⟨nof, fun _ => ?_⟩
    walk_at "n"
    generalize (T g.st == T g'.st) = b2 at c ⊢
    cases b2 with
    | false =>
      refine ⟨fun _ => ⟨fun _ => ?_, tnof⟩, tnof⟩
      walk_at "n"
      exact c
    | true =>
      refine ⟨nof, fun _ => ?_⟩
      walk_at "n"
      generalize (g.gr == g'.gr) = b3 at c ⊢
      cases b3 with
      | false =>
        refine ⟨fun _ => ?_, tnof⟩
        walk_at "n"
        exact c
      | true =>
        refine ⟨nof, fun _ => ?_⟩
        walk_at "n"
        refine wp_of one_eq ?_
        exact c
end
end G

/-! # G79: the most pairs that match: searches, what is taken, what is come to -/
namespace G
open PySem PySem.Spec PyProof.Rows L2
noncomputable section
def f_of_side : FS := (sRet (eV (lComp (iAny (eUn (gFld ["Lot"] "gloves") (eName 0))) (nSet 2) (eB (eBin gEq (eBin gIx (eName 2) (eC (.int 2))) (eName 1))) (eName 2) [2])))
def c_of_side : List D → Hs → R D := fnBody 3 f_of_side
def f_rights_near : FS := (sRet (eV (lComp (iAny (eName 0)) (nSet 2) tYesF (eV (lComp (iOf enOf (aCons (eName 1) aNil)) (nTup 2 (nCons (nSet 3) (nCons (nSet 4) nNil))) (eT (eFn c_do_match [0, 1] [] (aCons (eName 2) (aCons (eName 4) aNil)))) (eName 3) [3, 4])) [2])))
def c_rights_near : List D → Hs → R D := fnBody 5 f_rights_near
def f_gets_one (self : List D → Hs → R D) : FS := (sSeq (sFor (iAny (eBin gIx (eName 0) (eName 2))) (nSet 4)
  (sIf (eB (eBin gNotInA (eName 4) (eName 3))) (sSeq (sSub mSetA (eC (.bl true)) (eName 3) (eName 4))
  (sIf (tOrF (eB (eBin gNotInA (eName 4) (eName 1))) (eT (eFn self [0, 1, 2, 3] [] (aCons (eName 0) (aCons (eName 1) (aCons (eBin gDget (eName 1) (eName 4)) (aCons (eName 3) aNil))))))) (sSeq (sSub mSetA (eName 2) (eName 1) (eName 4))
  (sRet (eC (.bl true)))) sSkip)) sSkip))
  (sRet (eC (.bl false))))
def r_gets_one : Nat → List D → Hs → R D
  | 0 => fun _ _ => .bad
  | n + 1 => fnBody 5 (f_gets_one (r_gets_one n))
def c_gets_one : List D → Hs → R D := r_gets_one 40
def f_most_taken : FS := (sSeq (sSet 1 eD0K)
  (sSeq (sFor (iR1 (aCons (eCall gLen (aCons (eName 0) aNil)) aNil)) (nSet 2)
  (sDrop (eFn c_gets_one [0, 1, 2, 3] [] (aCons (eName 0) (aCons (eName 1) (aCons (eName 2) (aCons eD0K aNil)))))))
  (sRet (eLk (eName 1)))))
def c_most_taken : List D → Hs → R D := gcF (fnBody 3 f_most_taken)
def f_lefts_come_to : FS := (sSeq (sSet 2 (eDictP (lComp (iValsF (eName 1)) (nSet 6) tYesF (eTup (aCons (eName 6) (aCons (eC (.bl true)) aNil))) [6])))
  (sSeq (sSet 3 (eDictPM (lComp (iR1 (aCons (eCall gLen (aCons (eName 0) aNil)) aNil)) (nSet 6) (eB (eBin gNotInA (eName 6) (eName 2))) (eTup (aCons (eName 6) (aCons (eC (.bl true)) aNil))) [6])))
  (sSeq (sSet 4 (eM (lListD (eName 3))))
  (sSeq (sWhile (eB (eBin gNeL (eName 4) (eV aNil))) (sFor (iAny (eBin gIx (eName 0) (eMt isL mPop (eName 4) aNil))) (nSet 5)
  (sSeq (sSet 6 (eBin gDget (eName 1) (eName 5)))
  (sIf (eB (eBin gNotInA (eName 6) (eName 3))) (sSeq (sSub mSetA (eC (.bl true)) (eName 3) (eName 6))
  (sDrop (eMt isL mAppend (eName 4) (aCons (eName 6) aNil)))) sSkip))))
  (sRet (eV (lSortZ (eName 3))))))))
def c_lefts_come_to : List D → Hs → R D := gcF (fnBody 7 f_lefts_come_to)
def f_matched : FS := (sSeq (sAsg (nTup 2 (nCons (nSet 1) (nCons (nSet 2) nNil))) (eTup (aCons (eFn c_of_side [0, 1] [] (aCons (eName 0) (aCons (eC (.str "l")) aNil))) (aCons (eFn c_of_side [0, 1] [] (aCons (eName 0) (aCons (eC (.str "r")) aNil))) aNil))))
  (sSeq (sSet 3 (eFn c_rights_near [0, 1] [] (aCons (eName 1) (aCons (eName 2) aNil))))
  (sSeq (sSet 4 (eFn c_most_taken [0] [] (aCons (eName 3) aNil)))
  (sSeq (sSet 5 (eV (lSortP (eV (lComp (iKeysF (eName 4)) (nSet 6) tYesF (eTup (aCons (eFn c_ident_of [0] [] (aCons (eBin gIx (eName 1) (eBin gDget (eName 4) (eName 6))) aNil)) (aCons (eFn c_ident_of [0] [] (aCons (eBin gIx (eName 2) (eName 6)) aNil)) aNil))) [6])))))
  (sRet (eTup (aCons (eCall gTuple (aCons (eName 5) aNil)) (aCons (eCall gTuple (aCons (eV (lComp (iAny (eFn c_lefts_come_to [0, 1] [] (aCons (eName 3) (aCons (eName 4) aNil)))) (nSet 7) tYesF (eFn c_ident_of [0] [] (aCons (eBin gIx (eName 1) (eName 7)) aNil)) [7])) aNil)) aNil))))))))
def c_matched : List D → Hs → R D := fnBody 8 f_matched

end
end G
namespace MT
theorem nd_sub {t : Type} : ∀ {l D : List t}, l.Nodup → (∀ x ∈ l, x ∈ D) → l.length ≤ D.length
  | [], _, _, _ => Nat.zero_le _
  | a :: l, D, n, s => by
    obtain ⟨n1, n2⟩ := List.nodup_cons.mp n
    obtain ⟨u, v, rfl⟩ := List.append_of_mem (s a List.mem_cons_self)
    have h := nd_sub (l := l) (D := u ++ v) n2 fun x hx => by
      rcases List.mem_append.mp (s x (List.mem_cons_of_mem _ hx)) with h | h
      · exact List.mem_append_left _ h
      · rcases List.mem_cons.mp h with rfl | h
        · exact absurd hx n1
        · exact List.mem_append_right _ h
    simp only [List.length_append, List.length_cons] at h ⊢
    omega
/-! ### taken: which right one goes with which left one -/
abbrev Tk := List (Nat × Nat)
def lk (T : Tk) (r : Nat) : Option Nat := (T.find? fun p => decide (p.1 = r)).map (·.2)
def up (T : Tk) (r l : Nat) : Tk := T.map fun p => if p.1 = r then (p.1, l) else p
def pt (T : Tk) (r l : Nat) : Tk := if (T.any fun p => decide (p.1 = r)) = true then up T r l else T ++ [(r, l)]
def Kd (T : Tk) : Prop := (T.map (·.1)).Nodup
theorem lk_cons {p : Nat × Nat} {T : Tk} {r : Nat} : lk (p :: T) r = if p.1 = r then some p.2 else lk T r := by
  unfold lk
  rw [List.find?_cons]
  by_cases e : p.1 = r
  · rw [decide_eq_true e, if_pos e]; rfl
  · rw [decide_eq_false e, if_neg e]
theorem lk_mem {r l : Nat} : ∀ {T : Tk}, lk T r = some l → (r, l) ∈ T
  | [], h => nomatch h
  | p :: T, h => by
    rw [lk_cons] at h
    split at h
    · rename_i e
      cases h
      rw [← e]
      exact List.mem_cons_self
    · exact List.mem_cons_of_mem _ (lk_mem h)
theorem lk_of {r l : Nat} : ∀ {T : Tk}, Kd T → (r, l) ∈ T → lk T r = some l
  | [], _, h => nomatch h
  | p :: T, k, h => by
    obtain ⟨k1, k2⟩ := List.nodup_cons.mp (show (p.1 :: T.map (·.1)).Nodup from k)
    rw [lk_cons]
    rcases List.mem_cons.mp h with rfl | h
    · rw [if_pos rfl]
    · rw [if_neg (fun e => k1 (List.mem_map.mpr ⟨(r, l), h, e.symm⟩))]
      exact lk_of k2 h
theorem lk_none {r : Nat} : ∀ {T : Tk}, lk T r = none ↔ r ∉ T.map (·.1)
  | [] => ⟨fun _ h => (by cases h), fun _ => rfl⟩
  | p :: T => by
    rw [lk_cons, List.map_cons, List.mem_cons, not_or]
    by_cases e : p.1 = r
    · rw [if_pos e]
      exact ⟨fun h => (by cases h), fun h => absurd e.symm h.1⟩
    · rw [if_neg e, lk_none]
      exact ⟨fun h => ⟨fun z => e z.symm, h⟩, fun h => h.2⟩
theorem any_lk {r : Nat} : ∀ {T : Tk}, (T.any fun p => decide (p.1 = r)) = (lk T r).isSome
  | [] => rfl
  | p :: T => by
    rw [List.any_cons, lk_cons, any_lk]
    by_cases e : p.1 = r
    · rw [decide_eq_true e, if_pos e]; rfl
    · rw [decide_eq_false e, if_neg e]; rfl
theorem lk_up {r l q : Nat} : ∀ {T : Tk}, lk (up T r l) q = if q = r then (lk T r).map fun _ => l else lk T q
  | [] => by by_cases e : q = r <;> simp [lk, up, e]
  | p :: T => by
    have ih := lk_up (r := r) (l := l) (q := q) (T := T)
    show lk ((if p.1 = r then (p.1, l) else p) :: up T r l) q = _
    rw [lk_cons, ih, lk_cons, lk_cons]
    by_cases e : p.1 = r
    · rw [if_pos e]
      by_cases e2 : q = r
      · rw [if_pos (e.trans e2.symm), if_pos e2, if_pos e]; rfl
      · rw [if_neg (fun z => e2 (z.symm.trans e)), if_neg e2, if_neg e2, if_neg (fun z => e2 (z.symm.trans e))]
    · rw [if_neg e]
      by_cases e2 : q = r
      · rw [if_neg (fun z => e (z.trans e2)), if_pos e2, if_pos e2, if_neg e]
      · rw [if_neg e2, if_neg e2]
theorem lk_app {T : Tk} {r l q : Nat} (h : lk T r = none) : lk (T ++ [(r, l)]) q = if q = r then some l else lk T q := by
  induction T with
  | nil =>
    show lk [(r, l)] q = _
    rw [lk_cons]
    by_cases e : q = r
    · rw [if_pos e, if_pos e.symm]
    · rw [if_neg e, if_neg fun z => e z.symm]
  | cons p T ih =>
    rw [lk_cons] at h
    split at h
    · cases h
    · rename_i e
      rw [List.cons_append, lk_cons, ih h, lk_cons]
      by_cases e2 : q = r
      · rw [if_pos e2, if_neg (fun z => e (z.trans e2)), if_pos e2]
      · rw [if_neg e2, if_neg e2]
theorem lk_pt {T : Tk} {r l q : Nat} : lk (pt T r l) q = if q = r then some l else lk T q := by
  unfold pt
  rw [any_lk]
  cases h : lk T r with
  | none => exact lk_app h
  | some x =>
    rw [if_pos (show (some x).isSome = true from rfl), lk_up, h]; rfl
theorem up_keys (T : Tk) (r l : Nat) : (up T r l).map (·.1) = T.map (·.1) := by
  unfold up
  rw [List.map_map]
  refine List.map_congr_left fun p _ => ?_
  show (if p.1 = r then (p.1, l) else p).1 = p.1
  split <;> rfl
theorem kd_pt {T : Tk} {r l : Nat} (k : Kd T) : Kd (pt T r l) := by
  unfold pt
  rw [any_lk]
  cases h : lk T r with
  | none =>
    show ((T ++ [(r, l)]).map (·.1)).Nodup
    rw [List.map_append, List.nodup_append]
    refine ⟨k, by simp, fun a ha b hb => ?_⟩
    rw [show b = r by simpa using hb]
    rintro rfl
    exact lk_none.mp h ha
  | some x =>
    rw [if_pos (show (some x).isSome = true from rfl)]
    show ((up T r l).map (·.1)).Nodup
    rw [up_keys]; exact k
theorem up_no {T : Tk} {r l : Nat} (h : r ∉ T.map (·.1)) : up T r l = T := by
  unfold up
  refine (List.map_congr_left fun p hp => ?_).trans (List.map_id T)
  rw [if_neg (fun e => h (List.mem_map.mpr ⟨p, hp, e⟩))]; rfl
/-- one left one for another -/
theorem up_perm {r x y : Nat} : ∀ {T : Tk}, Kd T → lk T r = some x → (x :: (up T r y).map (·.2)).Perm (y :: T.map (·.2))
  | [], _, h => nomatch h
  | p :: T, k, h => by
    obtain ⟨k1, k2⟩ := List.nodup_cons.mp (show (p.1 :: T.map (·.1)).Nodup from k)
    rw [lk_cons] at h
    show (x :: ((if p.1 = r then (p.1, y) else p) :: up T r y).map (·.2)).Perm _
    by_cases e : p.1 = r
    · rw [if_pos e] at h ⊢
      cases h
      rw [up_no (by rw [← e]; exact k1)]
      exact .swap _ _ _
    · rw [if_neg e] at h ⊢
      rw [List.map_cons, List.map_cons]
      exact (List.Perm.swap _ _ _).trans (((up_perm k2 h).cons _).trans (.swap _ _ _))
theorem mem_pt {T : Tk} {r l : Nat} {p : Nat × Nat} (h : p ∈ pt T r l) : p = (r, l) ∨ p ∈ T := by
  unfold pt at h
  split at h
  · unfold up at h
    obtain ⟨q, hq, rfl⟩ := List.mem_map.mp h
    by_cases e : q.1 = r
    · rw [if_pos e, e]; exact .inl rfl
    · rw [if_neg e]; exact .inr hq
  · rcases List.mem_append.mp h with h | h
    · exact .inr h
    · exact .inl (List.mem_singleton.mp h)
/-! ### a search -/
inductive Lp (N : Nat → List Nat) : Nat → List Nat → Tk → List Nat → Bool → Tk → List Nat → Prop
  | nil {l : Nat} {T : Tk} {S : List Nat} : Lp N l [] T S false T S
  | skip {l r : Nat} {rs S S' : List Nat} {T T' : Tk} {ok : Bool} : r ∈ S → Lp N l rs T S ok T' S' → Lp N l (r :: rs) T S ok T' S'
  | free {l r : Nat} {rs S : List Nat} {T : Tk} : r ∉ S → lk T r = none → Lp N l (r :: rs) T S true (pt T r l) (S ++ [r])
  | push {l r l2 : Nat} {rs S S1 : List Nat} {T T1 : Tk} : r ∉ S → lk T r = some l2 → Lp N l2 (N l2) T (S ++ [r]) true T1 S1 → Lp N l (r :: rs) T S true (pt T1 r l) S1
  | fail {l r l2 : Nat} {rs S S1 S' : List Nat} {T T1 T' : Tk} {ok : Bool} : r ∉ S → lk T r = some l2 → Lp N l2 (N l2) T (S ++ [r]) false T1 S1 → Lp N l rs T1 S1 ok T' S' → Lp N l (r :: rs) T S ok T' S'
section
variable {N : Nat → List Nat} {l : Nat} {rs S S' : List Nat} {T T' : Tk} {ok : Bool}
theorem Lp.sub (h : Lp N l rs T S ok T' S') : ∀ r ∈ S, r ∈ S' := by
  induction h with
  | nil => exact fun _ h => h
  | skip _ _ ih => exact ih
  | free => exact fun r h => List.mem_append_left _ h
  | push _ _ _ ih => exact fun r h => ih r (List.mem_append_left _ h)
  | fail _ _ _ _ ih1 ih2 => exact fun r h => ih2 r (ih1 r (List.mem_append_left _ h))
theorem snoc_nd {S : List Nat} {r : Nat} (n : S.Nodup) (h : r ∉ S) : (S ++ [r]).Nodup := by
  rw [List.nodup_append]
  refine ⟨n, by simp, fun a ha b hb => ?_⟩
  rw [List.mem_singleton.mp hb]
  rintro rfl
  exact h ha
theorem Lp.nd (h : Lp N l rs T S ok T' S') : S.Nodup → S'.Nodup := by
  induction h with
  | nil => exact fun h => h
  | skip _ _ ih => exact ih
  | free a _ => exact fun n => snoc_nd n a
  | push a _ _ ih => exact fun n => ih (snoc_nd n a)
  | fail a _ _ _ ih1 ih2 => exact fun n => ih2 (ih1 (snoc_nd n a))
theorem Lp.bd {R : Nat} (hN : ∀ x, ∀ r ∈ N x, r < R) (h : Lp N l rs T S ok T' S') : (∀ r ∈ rs, r < R) → (∀ r ∈ S, r < R) → ∀ r ∈ S', r < R := by
  have sn : ∀ {S : List Nat} {r : Nat}, (∀ q ∈ S, q < R) → r < R → ∀ q ∈ S ++ [r], q < R := fun h1 h2 q hq => (List.mem_append.mp hq).elim (h1 q) fun z => by rw [List.mem_singleton.mp z]; exact h2
  induction h with
  | nil => exact fun _ h => h
  | skip _ _ ih => exact fun a b => ih (fun r hr => a r (List.mem_cons_of_mem _ hr)) b
  | free _ _ => exact fun a b => sn b (a _ List.mem_cons_self)
  | push _ _ _ ih => exact fun a b => ih (hN _) (sn b (a _ List.mem_cons_self))
  | fail _ _ _ _ ih1 ih2 => exact fun a b => ih2 (fun r hr => a r (List.mem_cons_of_mem _ hr)) (ih1 (hN _) (sn b (a _ List.mem_cons_self)))
theorem Lp.agr (h : Lp N l rs T S ok T' S') : ∀ r ∈ S, lk T' r = lk T r := by
  induction h with
  | nil => exact fun _ _ => rfl
  | skip _ _ ih => exact ih
  | free a _ =>
    intro r hr
    rw [lk_pt, if_neg]
    rintro rfl
    exact a hr
  | push a _ _ ih =>
    intro r hr
    rw [lk_pt, if_neg (by rintro rfl; exact a hr)]
    exact ih r (List.mem_append_left _ hr)
  | fail _ _ h1 _ ih1 ih2 =>
    intro r hr
    exact (ih2 r (h1.sub r (List.mem_append_left _ hr))).trans (ih1 r (List.mem_append_left _ hr))
theorem Lp.no (h : Lp N l rs T S ok T' S') : ok = false → T' = T ∧ (∀ r ∈ rs, r ∈ S') ∧ ∀ r ∈ S', r ∈ S ∨ ∃ x, lk T r = some x ∧ ∀ q ∈ N x, q ∈ S' := by
  induction h with
  | nil => exact fun _ => ⟨rfl, nofun, fun r h => .inl h⟩
  | skip a h ih =>
    intro e
    obtain ⟨e1, e2, e3⟩ := ih e
    refine ⟨e1, fun r hr => ?_, e3⟩
    rcases List.mem_cons.mp hr with rfl | hr
    · exact h.sub _ a
    · exact e2 r hr
  | free => exact fun e => nomatch e
  | push => exact fun e => nomatch e
  | @fail l r l2 rs S S1 S' T T1 T' ok a b h1 h2 ih1 ih2 =>
    intro e
    obtain ⟨e1, e2, e3⟩ := ih1 rfl
    subst e1
    obtain ⟨f1, f2, f3⟩ := ih2 e
    have hr1 : r ∈ S1 := h1.sub r (List.mem_append_right _ (List.mem_singleton.mpr rfl))
    refine ⟨f1, fun q hq => ?_, fun q hq => ?_⟩
    · rcases List.mem_cons.mp hq with rfl | hq
      · exact h2.sub _ hr1
      · exact f2 q hq
    · rcases f3 q hq with hq | hq
      · rcases e3 q hq with hq | ⟨x, hx, hn⟩
        · rcases List.mem_append.mp hq with hq | hq
          · exact .inl hq
          · rw [List.mem_singleton.mp hq]
            exact .inr ⟨l2, b, fun z hz => h2.sub z (e2 z hz)⟩
        · exact .inr ⟨x, hx, fun z hz => h2.sub z (hn z hz)⟩
      · exact .inr hq
theorem Lp.yes (h : Lp N l rs T S ok T' S') : ok = true → Kd T → Kd T' ∧ (T'.map (·.2)).Perm (l :: T.map (·.2)) := by
  induction h with
  | nil => exact fun e => nomatch e
  | skip _ _ ih => exact ih
  | free a b =>
    intro _ k
    refine ⟨kd_pt k, ?_⟩
    unfold pt
    rw [any_lk, b, if_neg (show ¬ (none : Option Nat).isSome = true from Bool.false_ne_true), List.map_append]
    exact List.perm_append_comm
  | @push l r l2 rs S S1 T T1 a b h1 ih =>
    intro _ k
    obtain ⟨k1, p1⟩ := ih rfl k
    have e1 : lk T1 r = some l2 := (h1.agr r (List.mem_append_right _ (List.mem_singleton.mpr rfl))).trans b
    refine ⟨kd_pt k1, ?_⟩
    unfold pt
    rw [any_lk, e1, if_pos (show (some l2).isSome = true from rfl)]
    have p2 := up_perm (y := l) k1 e1
    have p3 := (p1.cons l).trans (.swap _ _ _)
    exact (List.perm_cons l2).mp (p2.trans p3)
  | fail _ _ h1 _ _ ih2 =>
    intro e k
    obtain ⟨e1, _⟩ := h1.no rfl
    subst e1
    exact ih2 e k
theorem Lp.edge (h : Lp N l rs T S ok T' S') : (∀ p ∈ T, p.1 ∈ N p.2) → (∀ r ∈ rs, r ∈ N l) → ∀ p ∈ T', p.1 ∈ N p.2 := by
  induction h with
  | nil => exact fun h _ => h
  | skip _ _ ih => exact fun a b => ih a fun r hr => b r (List.mem_cons_of_mem _ hr)
  | free _ _ =>
    intro a b p hp
    rcases mem_pt hp with rfl | hp
    · exact b _ List.mem_cons_self
    · exact a p hp
  | push _ _ _ ih =>
    intro a b p hp
    rcases mem_pt hp with rfl | hp
    · exact b _ List.mem_cons_self
    · exact ih a (fun _ h => h) p hp
  | fail _ _ _ _ ih1 ih2 => exact fun a b => ih2 (ih1 a fun _ h => h) fun r hr => b r (List.mem_cons_of_mem _ hr)
/-- all of A are taken, by left ones that come to A alone -/
def Cl (N : Nat → List Nat) (T : Tk) (A : Nat → Prop) : Prop := ∀ r, A r → ∃ x, lk T r = some x ∧ ∀ q ∈ N x, A q
theorem Lp.shut {A : Nat → Prop} (h : Lp N l rs T S ok T' S') : Cl N T A → (∀ r ∈ rs, A r) → ok = false := by
  induction h with
  | nil => exact fun _ _ => rfl
  | skip _ _ ih => exact fun c a => ih c fun r hr => a r (List.mem_cons_of_mem _ hr)
  | free _ b =>
    intro c a
    obtain ⟨x, hx, _⟩ := c _ (a _ List.mem_cons_self)
    rw [b] at hx; cases hx
  | push _ b _ ih =>
    intro c a
    obtain ⟨x, hx, hn⟩ := c _ (a _ List.mem_cons_self)
    rw [b] at hx; cases hx
    exact ih c hn
  | fail _ _ h1 _ _ ih2 =>
    intro c a
    obtain ⟨e1, _⟩ := h1.no rfl
    subst e1
    exact ih2 c fun r hr => a r (List.mem_cons_of_mem _ hr)
theorem Lp.keep {A : Nat → Prop} (h : Lp N l rs T S ok T' S') : Cl N T A → ok = true → ∀ r, A r → lk T' r = lk T r := by
  induction h with
  | nil => exact fun _ e => nomatch e
  | skip _ _ ih => exact ih
  | @free l r rs S T a b =>
    intro c _ q hq
    rw [lk_pt, if_neg]
    rintro rfl
    obtain ⟨x, hx, _⟩ := c _ hq
    rw [b] at hx; cases hx
  | @push l r l2 rs S S1 T T1 a b h1 ih =>
    intro c _ q hq
    rw [lk_pt, if_neg]
    · exact ih c rfl q hq
    · rintro rfl
      obtain ⟨x, hx, hn⟩ := c _ hq
      rw [b] at hx; cases hx
      exact absurd (h1.shut c hn) (by decide)
  | fail _ _ h1 _ _ ih2 =>
    intro c e
    obtain ⟨e1, _⟩ := h1.no rfl
    subst e1
    exact ih2 c e
/-- what stands behind the first i left ones -/
structure Km (N : Nat → List Nat) (i : Nat) (T : Tk) (A : Nat → Prop) : Prop where
  kd : Kd T
  vd : (T.map (·.2)).Nodup
  vb : ∀ x ∈ T.map (·.2), x < i
  ed : ∀ p ∈ T, p.1 ∈ N p.2
  cl : Cl N T A
  un : ∀ x, x < i → x ∉ T.map (·.2) → ∀ q ∈ N x, A q
theorem Km.zero : Km N 0 [] (fun _ => False) := ⟨.nil, .nil, nofun, nofun, fun _ h => h.elim, fun _ h => absurd h (Nat.not_lt_zero _)⟩
theorem Km.step {i : Nat} {A : Nat → Prop} (K : Km N i T A) (h : Lp N i (N i) T [] ok T' S') : ∃ A', Km N (i + 1) T' A' := by
  cases ok with
  | false =>
    obtain ⟨e1, e2, e3⟩ := h.no rfl
    subst e1
    refine ⟨fun r => A r ∨ r ∈ S', K.kd, K.vd, fun x hx => Nat.lt_succ_of_lt (K.vb x hx), K.ed, fun r hr => ?_, fun x hx hn q hq => ?_⟩
    · rcases hr with hr | hr
      · obtain ⟨x, h1, h2⟩ := K.cl r hr
        exact ⟨x, h1, fun q hq => .inl (h2 q hq)⟩
      · rcases e3 r hr with z | ⟨x, h1, h2⟩
        · cases z
        · exact ⟨x, h1, fun q hq => .inr (h2 q hq)⟩
    · by_cases e : x = i
      · subst e; exact .inr (e2 q hq)
      · exact .inl (K.un x (by omega) hn q hq)
  | true =>
    obtain ⟨k, p⟩ := h.yes rfl K.kd
    have hk := h.keep K.cl rfl
    refine ⟨A, k, ?_, fun x hx => ?_, h.edge K.ed fun _ z => z, fun r hr => ?_, fun x hx hn q hq => ?_⟩
    · refine p.nodup_iff.mpr (List.nodup_cons.mpr ⟨fun z => ?_, K.vd⟩)
      exact absurd (K.vb i z) (Nat.lt_irrefl _)
    · rcases List.mem_cons.mp (p.subset hx) with rfl | hx
      · exact Nat.lt_succ_self _
      · exact Nat.lt_succ_of_lt (K.vb x hx)
    · obtain ⟨x, h1, h2⟩ := K.cl r hr
      exact ⟨x, (hk r hr).trans h1, h2⟩
    · have ne : x ≠ i := fun e => hn (p.symm.subset (by rw [e]; exact List.mem_cons_self))
      exact K.un x (by omega) (fun z => hn (p.symm.subset (List.mem_cons_of_mem _ z))) q hq
end
end MT
namespace MT
open PySem PySem.Spec L2 G
local macro_rules | `(tactic| walk_at "s1") => `(tactic| first
  | ((with_reducible apply wp_name); (case q => rfl))
  | with_reducible refine wp_c ?_
  | with_reducible refine wp_bin ?_
  | with_reducible refine wp_acons ?_
  | with_reducible refine wp_anil ?_
  | with_reducible refine wp_call ?_
  | with_reducible refine wp_fn ?_
  | with_reducible refine wp_fnK ?_
  | with_reducible refine wp_ev ?_
  | with_reducible refine wp_em ?_
  | with_reducible refine wp_tup ?_
  | with_reducible refine wp_eb ?_
  | with_reducible refine wp_et ?_
  | with_reducible refine wp_un ?_
  | with_reducible refine wp_chain ?_
  | with_reducible refine wp_and ?_
  | with_reducible refine wp_or ?_
  | with_reducible refine wp_not ?_
  | with_reducible refine wp_andF ?_
  | with_reducible refine wp_orF ?_
  | with_reducible refine wp_notF ?_
  | with_reducible refine wp_yes ?_
  | with_reducible refine wp_if ?_
  | with_reducible refine wp_sl ?_
  | with_reducible refine wp_onone ?_
  | with_reducible refine wp_osome ?_
  | with_reducible refine wp_rev ?_
  | with_reducible refine wp_list ?_
  | with_reducible refine wp_mt ?_
  | with_reducible refine wp_any ?_
  | with_reducible refine wp_r1 ?_
  | with_reducible refine wp_r2 ?_
  | with_reducible refine ws_seq ?_
  | with_reducible refine ws_set ?_
  | with_reducible refine ws_setC ?_
  | with_reducible refine ws_setCM ?_
  | with_reducible refine ws_if ?_
  | with_reducible refine ws_ret ?_
  | with_reducible refine ws_retN ?_
  | with_reducible refine ws_drop ?_
  | with_reducible refine ws_skip ?_
  | with_reducible refine ws_asg ?_
  | with_reducible refine ws_par ?_
  | with_reducible refine ws_sub ?_
  | with_reducible refine wp_body ?_)
local macro_rules | `(tactic| walk_at "s") => `(tactic| repeat (walk_at "s1"))
local macro_rules | `(tactic| walk_at "q") => `(tactic| first | assumption | decide | omega | rfl)
local macro_rules | `(tactic| walk_at "e1") => `(tactic| first
  | with_reducible refine wp_some add_i ?_
  | with_reducible refine wp_some sub_i ?_
  | with_reducible refine wp_some lt_i ?_
  | with_reducible refine wp_some le_i ?_
  | with_reducible refine wp_some gt_i ?_
  | with_reducible refine wp_some ge_i ?_
  | with_reducible refine wp_some eq_i ?_
  | with_reducible refine wp_some ne_i ?_
  | with_reducible refine wp_some eq_b ?_
  | with_reducible refine wp_some max_i ?_
  | with_reducible refine wp_some min_i ?_
  | with_reducible refine wp_some tup_tup ?_
  | with_reducible refine wp_some tup_lst ?_
  | with_reducible refine wp_some len_tup ?_
  | with_reducible refine wp_some len_lst ?_
  | with_reducible refine wp_some sl_tup ?_
  | with_reducible refine wp_some sl_lst ?_
  | with_reducible refine wp_some tru_b ?_
  | with_reducible refine wp_some repr_b ?_
  | with_reducible refine wp_eq_sb ?_
  | with_reducible refine wp_some seq_lst ?_
  | with_reducible refine wp_some seq_tup ?_
  | ((with_reducible apply wp_ix_tup); (case q => rfl))
  | ((with_reducible apply wp_ix_lst); (case q => rfl))
  | ((with_reducible apply wp_ix_ref); (case p => assumption); (case q => rfl))
  | with_reducible refine wp_some eq_s ?_
  | ((with_reducible refine wp_some (mod_int ?q) ?_); (case q => walk_at "q"))
  | ((with_reducible refine wp_some (div_int ?p ?q) ?_); (case p => walk_at "q"); (case q => walk_at "q"))
  | ((with_reducible refine wp_some (mul_int ?q) ?_); (case q => walk_at "q"))
  | ((with_reducible refine wp_some (add_tup ?q) ?_); (case q => first | omega | exact Nat.le_of_ble_eq_true rfl | (simp; done) | (simp; omega)))
  | ((with_reducible refine wp_some (add_lst ?q) ?_); (case q => first | omega | exact Nat.le_of_ble_eq_true rfl | (simp; done) | (simp; omega)))
  | with_reducible refine Exists.intro _ (And.intro rfl ?_)
  | with_reducible refine Exists.intro _ (Exists.intro _ (And.intro rfl ?_)))
local macro_rules | `(tactic| walk_at "g") => `(tactic| repeat (first | walk_at "s1" | walk_at "e1"))
local macro_rules | `(tactic| walk_at "h1") => `(tactic| first
  | with_reducible refine wp_some ne_b ?_
  | with_reducible refine wp_ne_sb ?_
  | with_reducible refine wp_d0t ?_
  | with_reducible refine wp_d0k ?_
  | with_reducible refine wp_d0 ?_
  | with_reducible refine wp_valsT ?_
  | with_reducible refine wp_some ne_s ?_
  | with_reducible refine wp_some reprA_b ?_
  | with_reducible refine wp_d1 ?_
  | with_reducible refine wp_some isi_non ?_
  | with_reducible refine wp_some isi_bl ?_
  | with_reducible refine wp_some isi_int ?_
  | with_reducible refine wp_some isi_str ?_
  | with_reducible refine wp_some isi_tup ?_
  | with_reducible refine wp_some isi_lst ?_
  | with_reducible refine wp_some isi_dct ?_)
local macro_rules | `(tactic| walk_at "k") => `(tactic| repeat (first | walk_at "s1" | walk_at "e1" | walk_at "h1"))
local macro_rules | `(tactic| walk_at "p") => `(tactic| first | assumption | (constructor; done) | exact pln_of (by assumption) | exact Sm.pln (by assumption))
local macro_rules | `(tactic| walk_at "b1") => `(tactic| first
  | exact nof
  | exact tnof
  | (refine And.intro ?_ tnof; intro _)
  | (refine And.intro nof ?_; intro _)
  | (refine And.intro ?_ ?_ <;> intro _))
local macro_rules | `(tactic| walk_at "P1") => `(tactic| first
  | ((with_reducible show Wp (c_is_whole _ _) _ _); refine wp_of (whole_eq ?p) ?_; (case p => walk_at "p"))
  | ((with_reducible show Wp (c_is_between _ _) _ _); refine wp_of (between_eq ?p) ?_; (case p => walk_at "p")))
local macro_rules | `(tactic| walk_at "b") => `(tactic| repeat' (first | walk_at "s1" | walk_at "e1" | walk_at "h1" | walk_at "P1" | walk_at "b1"))
local macro_rules | `(tactic| walk_at "z") => `(tactic| first
  | exact (show _ ∧ _ from ⟨rfl, rfl⟩)
  | (refine (show _ ∧ _ from ⟨?_, rfl⟩); first | (simp_all; done) | (simp_all <;> omega)))
local macro_rules | `(tactic| walk_at "bz") => `(tactic| (walk_at "b" <;> try walk_at "z"))
local macro_rules | `(tactic| walk_at "P1") => `(tactic| first
  | ((with_reducible show Wp (c_is_size _ _) _ _); refine wp_of (size_eq ?p) ?_; (case p => walk_at "p"))
  | ((with_reducible show Wp (c_is_moment _ _) _ _); refine wp_of (moment_eq ?p) ?_; (case p => walk_at "p"))
  | ((with_reducible show Wp (c_is_side _ _) _ _); refine wp_of (side_eq ?p) ?_; (case p => walk_at "p"))
  | ((with_reducible show Wp (c_is_grade _ _) _ _); refine wp_of (grade_eq ?p) ?_; (case p => walk_at "p"))
  | ((with_reducible show Wp (c_is_name _ _) _ _); refine wp_of (name_eq ?p ?q) ?_; (case p => walk_at "p"); (case q => first | assumption | omega))
  | ((with_reducible show Wp (c_is_ident _ _) _ _); refine wp_of (ident_eq ?p) ?_; (case p => assumption))
  | ((with_reducible show Wp (c_is_glove _ _) _ _); refine wp_of (glove_eq ?p ?q) ?_; (case p => assumption); (case q => first | assumption | omega)))
local macro_rules | `(tactic| walk_at "d1") => `(tactic| first
  | ((with_reducible show Wp (c_draw _ _) _ _); refine' dr ?s ?k ?a ?b ?_; (case s => assumption); (case k => assumption); (case a => first | decide | omega); (case b => first | decide | omega); intro _ _ _ _ _))
local macro_rules | `(tactic| walk_at "d") => `(tactic| repeat (first | walk_at "s1" | walk_at "e1" | walk_at "h1" | walk_at "P1" | walk_at "d1"))
local macro_rules | `(tactic| walk_at "db") => `(tactic| repeat' (first | walk_at "s1" | walk_at "e1" | walk_at "h1" | walk_at "P1" | walk_at "d1" | walk_at "b1"))
local macro_rules | `(tactic| walk_at "tl") => `(tactic| repeat' (first | assumption | omega | decide | (with_reducible refine len_half ?_ ?_) | (with_reducible refine lit_half ?_) | (with_reducible refine cut_half ?_) | (with_reducible refine T_half ?_)))
local macro_rules | `(tactic| walk_at "t1") => `(tactic| first
  | ((with_reducible refine wp_some (add_str ?q ?r) ?_); (case q => walk_at "tl"); (case r => walk_at "tl"))
  | ((with_reducible refine wp_some (sl_str ?q) ?_); (case q => walk_at "tl"))
  | ((with_reducible refine wp_some (len_str ?q) ?_); (case q => walk_at "tl"))
  | ((with_reducible refine wp_someP (upper_str ?q) ?_); (case q => walk_at "tl"))
  | ((with_reducible refine wp_some (str_int ?q) ?_); (case q => first | assumption | omega))
  | with_reducible refine wp_some rev_tup ?_
  | with_reducible refine wp_some rev_lst ?_
  | with_reducible refine wp_some is_bl ?_
  | with_reducible refine wp_some isN_bl ?_
  | with_reducible refine wp_some neg_i ?_
  | with_reducible refine wp_lAdd ?_
  | with_reducible refine And.intro rfl ?_)
local macro_rules | `(tactic| walk_at "d") => `(tactic| repeat (first | walk_at "s1" | walk_at "e1" | walk_at "h1" | walk_at "t1" | walk_at "P1" | walk_at "d1"))
local macro_rules | `(tactic| walk_at "db") => `(tactic| repeat' (first | walk_at "s1" | walk_at "e1" | walk_at "h1" | walk_at "t1" | walk_at "P1" | walk_at "d1" | walk_at "b1"))
local macro_rules | `(tactic| walk_at "dz") => `(tactic| (walk_at "db" <;> try walk_at "z"))
local macro_rules | `(tactic| walk_at "hg") => `(tactic| first | assumption | exact get_new | (refine get_app ?_; walk_at "hg") | (refine' get_set_eq ?e; (case e => walk_at "hg")) | (refine (get_set_ne ?_).trans ?_; (first | omega | (simp only [List.length_append, List.length_set, List.length_cons, List.length_nil]; omega)); walk_at "hg"))
local macro_rules | `(tactic| walk_at "st") => `(tactic| repeat' (first | assumption | (with_reducible refine St.wapp ?_ ?_) | (with_reducible refine St.wset ?_ ?_ ?_ ?_) | (simp only [List.length_append, List.length_set, List.length_cons, List.length_nil]; omega) | omega))
local macro_rules | `(tactic| walk_at "ll") => `(tactic| repeat' (first | assumption | omega | exact Nat.le_of_ble_eq_true rfl | (with_reducible refine app_half ?_ ?_) | (with_reducible refine cutL_half ?_) | (with_reducible refine rev_half ?_) | (with_reducible refine map_half ?_) | (with_reducible refine cons_half ?_ ?_)))
local macro_rules | `(tactic| walk_at "n1") => `(tactic| first
  | ((with_reducible show Wp (R.ofO _ _) _ _); first
    | with_reducible apply wp_some eq_same
    | with_reducible apply wp_some ne_same
    | with_reducible apply wp_some add_i
    | with_reducible apply wp_some sub_i
    | with_reducible apply wp_some lt_i
    | with_reducible apply wp_some le_i
    | with_reducible apply wp_some gt_i
    | with_reducible apply wp_some ge_i
    | with_reducible apply wp_some eq_i
    | with_reducible apply wp_some ne_i
    | with_reducible apply wp_some eq_b
    | with_reducible apply wp_some max_i
    | with_reducible apply wp_some min_i
    | with_reducible apply wp_some tup_tup
    | with_reducible apply wp_some tup_lst
    | with_reducible apply wp_some len_tup
    | with_reducible apply wp_some len_lst
    | with_reducible apply wp_some sl_tup
    | with_reducible apply wp_some sl_lst
    | with_reducible apply wp_some tru_b
    | with_reducible apply wp_some repr_b
    | with_reducible refine wp_eq_sb ?_
    | with_reducible apply wp_some seq_lst
    | with_reducible apply wp_some seq_tup
    | ((with_reducible apply wp_ix_tup); (case q => rfl))
    | ((with_reducible apply wp_ix_lst); (case q => rfl))
    | ((with_reducible apply wp_ix_ref); (case p => assumption); (case q => rfl))
    | with_reducible apply wp_some eq_s
    | ((with_reducible apply wp_some (mod_int ?q)); (case q => walk_at "q"))
    | ((with_reducible apply wp_some (div_int ?p ?q)); (case p => walk_at "q"); (case q => walk_at "q"))
    | ((with_reducible apply wp_some (mul_int ?q)); (case q => walk_at "q"))
    | ((with_reducible apply wp_some (add_tup2 ?a ?b)); (case a => walk_at "ll"); (case b => walk_at "ll"))
    | ((with_reducible apply wp_some (add_lst2 ?a ?b)); (case a => walk_at "ll"); (case b => walk_at "ll"))
    | with_reducible apply wp_some ne_b
    | with_reducible refine wp_ne_sb ?_
    | with_reducible apply wp_some ne_s
    | with_reducible apply wp_some reprA_b
    | with_reducible apply wp_some isi_non
    | with_reducible apply wp_some isi_bl
    | with_reducible apply wp_some isi_int
    | with_reducible apply wp_some isi_str
    | with_reducible apply wp_some isi_tup
    | with_reducible apply wp_some isi_lst
    | with_reducible apply wp_some isi_dct
    | ((with_reducible apply wp_some (add_str ?q ?r)); (case q => walk_at "tl"); (case r => walk_at "tl"))
    | ((with_reducible apply wp_some (sl_str ?q)); (case q => walk_at "tl"))
    | ((with_reducible apply wp_some (len_str ?q)); (case q => walk_at "tl"))
    | ((with_reducible apply wp_some (str_int ?q)); (case q => first | assumption | omega))
    | with_reducible apply wp_some rev_tup
    | with_reducible apply wp_some rev_lst
    | with_reducible apply wp_some is_bl
    | with_reducible apply wp_some isN_bl
    | with_reducible apply wp_some neg_i
    | ((with_reducible apply wp_some (isi_pln ?q)); (case q => walk_at "p"))
    | with_reducible apply wp_some pow6
    | with_reducible apply wp_some eqT_tup
    | ((with_reducible apply wp_some (rev_str ?q)); (case q => walk_at "tl"))
    | ((with_reducible apply wp_some (add_rl ?q ?a ?b)); (case q => walk_at "hg"); (case a => walk_at "ll"); (case b => walk_at "ll"))
    | ((with_reducible apply wp_some (add_lr ?q ?a ?b)); (case q => walk_at "hg"); (case a => walk_at "ll"); (case b => walk_at "ll"))
    | ((with_reducible apply wp_some (add_rr ?q ?r ?a ?b)); (case q => walk_at "hg"); (case r => walk_at "hg"); (case a => walk_at "ll"); (case b => walk_at "ll"))
    | with_reducible apply wp_some lst_lst
    | ((with_reducible apply wp_some (lst_ref ?q)); (case q => walk_at "hg"))
    | ((with_reducible apply wp_some (len_ref ?q)); (case q => walk_at "hg"))
    | ((with_reducible apply wp_some (tup_ref ?q)); (case q => walk_at "hg"))
    | with_reducible apply wp_some pow39
    | with_reducible apply wp_some pow30
    | with_reducible apply wp_some pow40
    | with_reducible apply wp_some tru_non
    | with_reducible apply wp_some tru_int
    | with_reducible apply wp_some tru_tup
    | ((with_reducible apply wp_some (tru_str ?q)); (case q => walk_at "tl"))
    | ((with_reducible apply wp_some (mulS_str ?a ?b ?d)); (case a => walk_at "tl"); (case b => walk_at "tl"); (case d => walk_at "tl"))
    | ((with_reducible apply wp_some (mulS_tupA ?a ?b ?c ?d)); (case a => walk_at "tl"); (case b => walk_at "tl"); (case c => first | rfl | assumption); (case d => walk_at "tl")))
  | ((with_reducible show Wp (R.ofP _) _ _); first
    | ((with_reducible apply wp_someP (app_ref2 ?e ?q)); (case e => walk_at "hg"); (case q => walk_at "ll"))
    | ((with_reducible apply wp_someP (upper_str ?q)); (case q => walk_at "tl")))
  | ((with_reducible show Ws _ _); first
    | with_reducible refine ws_seq ?_
    | with_reducible refine ws_set ?_
    | with_reducible refine ws_setC ?_
    | with_reducible refine ws_setCM ?_
    | with_reducible refine ws_if ?_
    | with_reducible refine ws_ret ?_
    | with_reducible refine ws_retN ?_
    | with_reducible refine ws_drop ?_
    | with_reducible refine ws_skip ?_
    | with_reducible refine ws_asg ?_
    | with_reducible refine ws_par ?_
    | with_reducible refine ws_sub ?_)
  | ((with_reducible refine' And.intro (isL_ref ?e) ?_); (case e => walk_at "hg"))
  | ((with_reducible refine And.intro (And.intro ?a ?b) ?_); (case a => walk_at "ll"); (case b => walk_at "ll"))
  | with_reducible refine Exists.intro _ (And.intro rfl ?_)
  | with_reducible refine Exists.intro _ (Exists.intro _ (And.intro rfl ?_))
  | with_reducible refine And.intro rfl ?_
  | ((with_reducible show Wp _ _ _); first
    | ((with_reducible apply wp_name); (case q => rfl))
    | with_reducible refine wp_c ?_
    | with_reducible refine wp_bin ?_
    | with_reducible refine wp_acons ?_
    | with_reducible refine wp_anil ?_
    | with_reducible refine wp_call ?_
    | with_reducible refine wp_fn ?_
    | with_reducible refine wp_fnK ?_
    | with_reducible refine wp_ev ?_
    | with_reducible refine wp_em ?_
    | with_reducible refine wp_tup ?_
    | with_reducible refine wp_eb ?_
    | with_reducible refine wp_et ?_
    | with_reducible refine wp_un ?_
    | with_reducible refine wp_chain ?_
    | with_reducible refine wp_and ?_
    | with_reducible refine wp_or ?_
    | with_reducible refine wp_not ?_
    | with_reducible refine wp_andF ?_
    | with_reducible refine wp_orF ?_
    | with_reducible refine wp_notF ?_
    | with_reducible refine wp_yes ?_
    | with_reducible refine wp_if ?_
    | with_reducible refine wp_sl ?_
    | with_reducible refine wp_onone ?_
    | with_reducible refine wp_osome ?_
    | with_reducible refine wp_rev ?_
    | with_reducible refine wp_list ?_
    | with_reducible refine wp_mt ?_
    | with_reducible refine wp_any ?_
    | with_reducible refine wp_r1 ?_
    | with_reducible refine wp_r2 ?_
    | with_reducible refine wp_body ?_
    | with_reducible refine wp_d0t ?_
    | with_reducible refine wp_d0k ?_
    | with_reducible refine wp_d0 ?_
    | with_reducible refine wp_valsT ?_
    | with_reducible refine wp_d1 ?_
    | with_reducible refine wp_lAdd ?_
    | walk_at "P1"
    | walk_at "d1")
  | ((fail_if_success (with_reducible show Ws _ _)); (fail_if_success (with_reducible show Wp _ _ _)); show Ws _ _))
local macro_rules | `(tactic| walk_at "n") => `(tactic| repeat (walk_at "n1"))
local macro_rules | `(tactic| walk_at "nb") => `(tactic| repeat' (first | walk_at "n1" | walk_at "b1"))
local macro_rules | `(tactic| walk_at "c") => `(tactic| first
  | assumption
  | (refine closeB (by assumption) ?_; first | rfl | (simp_all; done) | (simp_all <;> omega)))
local macro_rules | `(tactic| walk_at "nc") => `(tactic| (walk_at "nb" <;> try walk_at "c"))
local macro_rules | `(tactic| walk_at "n1") => `(tactic| first
  | with_reducible refine wp_iOf ?_
  | with_reducible apply wp_some neT_tup
  | with_reducible refine ex_ent ?_
  | with_reducible refine ex_enl ?_
  | with_reducible refine ex_zpt ?_
  | with_reducible refine ex_zpl ?_)
local macro_rules | `(tactic| walk_at "q") => `(tactic| exact Int.natCast_pos.mpr (Nat.succ_pos _))
local macro_rules | `(tactic| walk_at "hg") => `(tactic| with_reducible exact St.k2 (by assumption))
local macro_rules | `(tactic| walk_at "n1") => `(tactic| first
  | with_reducible refine wp_mk ?_
  | with_reducible refine wp_mth ?_
  | with_reducible refine wp_eown ?_
  | with_reducible refine ws_fld ?_
  | with_reducible refine wp_js1 ?_
  | with_reducible refine wp_js0 ?_)
local macro_rules | `(tactic| walk_at "n1") => `(tactic| first
  | with_reducible refine wp_lRep ?_
  | with_reducible apply wp_some sk_zones
  | with_reducible apply wp_some sk_stretch
  | with_reducible apply wp_some sk_grade)
local macro_rules | `(tactic| walk_at "n1") => `(tactic| first
  | with_reducible refine wp_orT ?_
  | with_reducible refine wp_andT ?_
  | with_reducible apply wp_some neL_lst
  | with_reducible apply wp_some int_bl
  | with_reducible apply wp_some ne_ss)
local macro_rules | `(tactic| walk_at "tl") => `(tactic| repeat' (first | assumption | omega | exact Nat.le_of_ble_eq_true rfl | (with_reducible refine len_half ?_ ?_) | (with_reducible refine lit_half ?_) | (with_reducible refine cut_half ?_) | (with_reducible refine T_half ?_) | (simp only [List.length_append, List.length_cons, List.length_nil]; omega)))
local macro_rules | `(tactic| walk_at "n1") => `(tactic| first
  | with_reducible refine wp_disp ?_
  | with_reducible refine wp_pCons ?_
  | with_reducible refine wp_pNil ?_
  | with_reducible refine wp_isO2 ?_)

section
variable {h : Hs} {Q : D → Hs → Prop} {X : XQ} {T : Tk} {S : List Nat} {r l : Nat} {N : List (List Nat)} {R : Nat}
/-! ### as things of the heap -/
def rowD (ks : List Nat) : D := .lst (ks.map fun k => .int (k : Nat))
def nD (N : List (List Nat)) : D := .lst (N.map rowD)
def Nf (N : List (List Nat)) (x : Nat) : List Nat := N.getD x []
def kT (T : Tk) : List (Key × D) := T.map fun (p : Nat × Nat) => (.inl (p.1 : Int), .int (p.2 : Nat))
def kS (S : List Nat) : List (Key × D) := S.map fun (r : Nat) => (.inl (r : Int), .bl true)
theorem inl_eq {a b : Nat} : ((Sum.inl (a : Int) : Key) = .inl (b : Int)) ↔ a = b := ⟨fun e => by have := Sum.inl.inj e; omega, fun e => by rw [e]⟩
theorem val_T : valG (kT T) (.inl (r : Int)) = (lk T r).map fun l => D.int (l : Nat) := by
  induction T with
  | nil => rfl
  | cons p T ih =>
    unfold valG kT at ih ⊢
    rw [List.map_cons, List.find?_cons, lk_cons]
    dsimp only
    by_cases e : p.1 = r
    · rw [decide_eq_true (inl_eq.mpr e), if_pos e]; rfl
    · rw [decide_eq_false (fun z => e (inl_eq.mp z)), if_neg e]; exact ih
theorem val_S : valG (kS S) (.inl (r : Int)) = if r ∈ S then some (.bl true) else none := by
  induction S with
  | nil => rw [if_neg List.not_mem_nil]; rfl
  | cons p S ih =>
    unfold valG kS at ih ⊢
    rw [List.map_cons, List.find?_cons]
    dsimp only
    by_cases e : p = r
    · rw [decide_eq_true (inl_eq.mpr e), if_pos (List.mem_cons.mpr (.inl e.symm))]; rfl
    · rw [decide_eq_false (fun z => e (inl_eq.mp z))]
      dsimp only
      rw [ih]
      by_cases e2 : r ∈ S
      · rw [if_pos e2, if_pos (List.mem_cons_of_mem _ e2)]
      · rw [if_neg e2, if_neg fun z => (List.mem_cons.mp z).elim (fun w => e w.symm) e2]
theorem any_T : ((kT T).any fun kv => decide (kv.1 = .inl (r : Int))) = (T.any fun p => decide (p.1 = r)) := by
  unfold kT
  rw [List.any_map]
  congr 1
  funext p
  show decide ((Sum.inl (p.1 : Int) : Key) = .inl (r : Int)) = _
  rw [decide_eq_decide]
  exact inl_eq
theorem put_T : putG (kT T) (.inl (r : Int)) (.int (l : Nat)) = kT (pt T r l) := by
  unfold putG pt
  rw [any_T]
  split
  · unfold kT up
    rw [List.map_map, List.map_map]
    refine List.map_congr_left fun p _ => ?_
    show (if (Sum.inl (p.1 : Int) : Key) = .inl (r : Int) then ((Sum.inl (p.1 : Int) : Key), D.int (l : Nat)) else (.inl (p.1 : Int), .int (p.2 : Nat))) = (Sum.inl ((if p.1 = r then (p.1, l) else p).1 : Int), D.int ((if p.1 = r then (p.1, l) else p).2 : Nat))
    by_cases e : p.1 = r
    · rw [if_pos (inl_eq.mpr e), if_pos e]
    · rw [if_neg (fun z => e (inl_eq.mp z)), if_neg e]
  · unfold kT
    rw [List.map_append]; rfl
theorem put_S (n : r ∉ S) : putG (kS S) (.inl (r : Int)) (.bl true) = kS (S ++ [r]) := by
  unfold putG
  rw [if_neg]
  · unfold kS
    rw [List.map_append]; rfl
  · intro z
    obtain ⟨kv, h1, h2⟩ := List.any_eq_true.mp z
    unfold kS at h1
    obtain ⟨q, hq, rfl⟩ := List.mem_map.mp h1
    have e : q = r := inl_eq.mp (of_decide_eq_true (p := (Sum.inl (q : Int) : Key) = .inl (r : Int)) h2)
    exact n (e ▸ hq)
theorem at_T {a : Nat} (e : h[a]? = some (.dk (kT T))) : atD h (.ref a) (.int (r : Nat)) = some ((lk T r).map fun l => D.int (l : Nat)) := by
  unfold atD
  dsimp only
  rw [e]
  show some (valG (kT T) (.inl (r : Int))) = _
  rw [val_T]
theorem at_S {b : Nat} (e : h[b]? = some (.dk (kS S))) : atD h (.ref b) (.int (r : Nat)) = some (if r ∈ S then some (.bl true) else none) := by
  unfold atD
  dsimp only
  rw [e]
  show some (valG (kS S) (.inl (r : Int))) = _
  rw [val_S]
theorem ni_T {a : Nat} (e : h[a]? = some (.dk (kT T))) : gNotInA h (.int (r : Nat)) (.ref a) = some (.bl (!(lk T r).isSome)) := by
  unfold gNotInA inAB
  rw [at_T e]
  cases lk T r <;> rfl
theorem ni_S {b : Nat} (e : h[b]? = some (.dk (kS S))) : gNotInA h (.int (r : Nat)) (.ref b) = some (.bl (!decide (r ∈ S))) := by
  unfold gNotInA inAB
  rw [at_S e]
  by_cases q : r ∈ S
  · rw [if_pos q, decide_eq_true q]; rfl
  · rw [if_neg q, decide_eq_false q]; rfl
theorem get_T {a : Nat} (e : h[a]? = some (.dk (kT T))) (q : lk T r = some l) : gDget h (.ref a) (.int (r : Nat)) = some (.int (l : Nat)) := by
  unfold gDget
  rw [at_T e, q]; rfl
theorem set_T {a : Nat} (e : h[a]? = some (.dk (kT T))) (q : T.length ≤ 100000) : mSetA h (.ref a) (.int (r : Nat)) (.int (l : Nat)) = some (h.set a (.dk (kT (pt T r l)))) := by
  unfold mSetA
  dsimp only
  rw [e]
  show (if (kT T).length < sizeLine then some (h.set a (.dk (putG (kT T) (.inl (r : Int)) (.int (l : Nat))))) else none) = _
  rw [if_pos (by unfold kT; rw [List.length_map, sizeLine_eq]; omega), put_T]
theorem set_S {b : Nat} (e : h[b]? = some (.dk (kS S))) (n : r ∉ S) (q : S.length ≤ 100000) : mSetA h (.ref b) (.int (r : Nat)) (.bl true) = some (h.set b (.dk (kS (S ++ [r])))) := by
  unfold mSetA
  dsimp only
  rw [e]
  show (if (kS S).length < sizeLine then some (h.set b (.dk (putG (kS S) (.inl (r : Int)) (.bl true)))) else none) = _
  rw [if_pos (by unfold kS; rw [List.length_map, sizeLine_eq]; omega), put_S n]
/-- taken stands at a, seen at b, all else as it stood -/
structure HS (h : Hs) (a b : Nat) (T : Tk) (S : List Nat) (g : Hs) : Prop where
  ne : a ≠ b
  t : g[a]? = some (.dk (kT T))
  s : g[b]? = some (.dk (kS S))
  len : g.length = h.length
  old : ∀ n, n ≠ a → n ≠ b → g[n]? = h[n]?
theorem HS.setT {h g : Hs} {a b : Nat} {T T' : Tk} {S : List Nat} (H : HS h a b T S g) : HS h a b T' S (g.set a (.dk (kT T'))) :=
  ⟨H.ne, get_set_eq H.t, by rw [get_set_ne H.ne]; exact H.s, by rw [List.length_set]; exact H.len, fun n n1 n2 => by rw [get_set_ne (Ne.symm n1)]; exact H.old n n1 n2⟩
theorem HS.setS {h g : Hs} {a b : Nat} {T : Tk} {S S' : List Nat} (H : HS h a b T S g) : HS h a b T S' (g.set b (.dk (kS S'))) :=
  ⟨H.ne, by rw [get_set_ne H.ne.symm]; exact H.t, get_set_eq H.s, by rw [List.length_set]; exact H.len, fun n n1 n2 => by rw [get_set_ne (Ne.symm n2)]; exact H.old n n1 n2⟩
theorem HS.trans {h g k : Hs} {a b : Nat} {T T' : Tk} {S S' : List Nat} (H : HS h a b T S g) (K : HS g a b T' S' k) : HS h a b T' S' k :=
  ⟨H.ne, K.t, K.s, K.len.trans H.len, fun n n1 n2 => (K.old n n1 n2).trans (H.old n n1 n2)⟩
theorem kd_len {T : Tk} (k : Kd T) (b : ∀ p ∈ T, p.1 < R) : T.length ≤ R := by
  have h := nd_sub (D := List.range R) k fun x hx => by
    obtain ⟨p, hp, rfl⟩ := List.mem_map.mp hx
    exact List.mem_range.mpr (b p hp)
  rw [List.length_map, List.length_range] at h
  exact h
theorem nd_len {S : List Nat} (k : S.Nodup) (b : ∀ p ∈ S, p < R) : S.length ≤ R := by
  have h := nd_sub (D := List.range R) k fun x hx => List.mem_range.mpr (b x hx)
  rw [List.length_range] at h
  exact h
theorem row_at (hl : l < N.length) : gIx h (nD N) (.int (l : Nat)) = some (rowD (Nf N l)) := by
  unfold Nf
  rw [List.getD_eq_getElem?_getD, List.getElem?_eq_getElem hl]
  refine ix_lst (atI_nat (by omega) ?_)
  rw [Int.toNat_natCast, List.getElem?_map, List.getElem?_eq_getElem hl]; rfl
theorem lt_of_in {x : Nat} (h : r ∈ Nf N x) : x < N.length := by
  unfold Nf at h
  rw [List.getD_eq_getElem?_getD] at h
  rcases Nat.lt_or_ge x N.length with q | q
  · exact q
  · rw [List.getElem?_eq_none q] at h; cases h
/-- a search of the program's -/
theorem gets_wp (hN : ∀ x, ∀ r ∈ Nf N x, r < R) (hW : ∀ x, (Nf N x).length ≤ 1000) (hR : R ≤ 1000) : ∀ (n : Nat) {a b : Nat} {h g : Hs} {T : Tk} {S : List Nat} {l : Nat} {Q : D → Hs → Prop} {X : XQ}, HS h a b T S g → l < N.length → S.Nodup → (∀ r ∈ S, r < R) → R + 1 ≤ n + S.length → Kd T → (∀ p ∈ T, p.1 ∈ Nf N p.2) →
    (∀ ok T' S' g', Lp (Nf N) l (Nf N l) T S ok T' S' → HS h a b T' S' g' → Q (.bl ok) g') → Wp (r_gets_one n [nD N, .ref a, .int (l : Nat), .ref b] g) Q X := by
  intro n
  induction n with
  | zero =>
    intro a b h g T S l Q X H hl nd bd hn
    have := nd_len nd bd
    omega
  | succ n ih =>
    intro a b h g T S l Q X H hl nd bd hn kd ed q
    unfold r_gets_one f_gets_one
    refine wp_bodyE [some (nD N), some (.ref a), some (.int (l : Nat)), some (.ref b), none] rfl ?_
    walk_at "n"
    refine ws_for ?_
    walk_at "n"
    refine wp_some (row_at hl) ?_
    walk_at "n"
    refine ⟨(Nf N l).length, fun i e k => ∃ T1 S1 x4, HS h a b T1 S1 k ∧ S1.Nodup ∧ (∀ r ∈ S1, r < R) ∧ S.length ≤ S1.length ∧ Kd T1 ∧ (∀ p ∈ T1, p.1 ∈ Nf N p.2) ∧
      (∀ ok T' S', Lp (Nf N) l ((Nf N l).drop i) T1 S1 ok T' S' → Lp (Nf N) l (Nf N l) T S ok T' S') ∧ e = [some (nD N), some (.ref a), some (.int (l : Nat)), some (.ref b), x4],
      Nat.le_trans (hW l) (by decide), ⟨T, S, none, H, nd, bd, Nat.le_refl _, kd, ed, fun _ _ _ h => h, rfl⟩, ?_, ?_⟩
    · rintro i _ k hi ⟨T1, S1, x4, H1, nd1, bd1, le1, kd1, ed1, back, rfl⟩
      obtain ⟨r, hr⟩ : ∃ r, r = (Nf N l)[i] := ⟨_, rfl⟩
      have hrN : r ∈ Nf N l := by rw [hr]; exact List.getElem_mem hi
      have hrR := hN l r hrN
      have dr : (Nf N l).drop i = r :: (Nf N l).drop (i + 1) := by rw [hr]; exact List.drop_eq_getElem_cons hi
      rw [dr] at back
      have l1 := nd_len nd1 bd1
      have lT := kd_len kd1 fun p hp => hN _ _ (ed1 p hp)
      refine ⟨.int (r : Nat), _, ?_, rfl, ?_⟩
      · unfold nxL
        rw [List.getElem?_map, List.getElem?_eq_getElem hi, ← hr]; rfl
      walk_at "n"
      refine wp_some (ni_S H1.s) ?_
      by_cases inS : r ∈ S1
      · rw [decide_eq_true inS]
        walk_at "n"
        refine ⟨nof, fun _ => ?_⟩
        walk_at "n"
        exact ⟨T1, S1, _, H1, nd1, bd1, le1, kd1, ed1, fun ok T' S' z => back _ _ _ (.skip inS z), rfl⟩
      rw [decide_eq_false inS]
      walk_at "n"
      refine ⟨fun _ => ?_, tnof⟩
      walk_at "n"
      refine ⟨_, set_S H1.s inS (by omega), ?_⟩
      have H2 : HS h a b T1 (S1 ++ [r]) (k.set b (.dk (kS (S1 ++ [r])))) := H1.setS
      generalize k.set b (.dk (kS (S1 ++ [r]))) = k2 at H2 ⊢
      have nd2 := snoc_nd nd1 inS
      have bd2 : ∀ q ∈ S1 ++ [r], q < R := fun q hq => (List.mem_append.mp hq).elim (bd1 q) fun z => by rw [List.mem_singleton.mp z]; exact hrR
      walk_at "n"
      refine wp_some (ni_T H2.t) ?_
      cases hlk : lk T1 r with
      | none =>
        walk_at "n"
        refine ⟨fun _ => ⟨fun _ => ?_, tnof⟩, fun z => absurd z (by decide)⟩
        walk_at "n"
        refine ⟨_, set_T H2.t (by omega), ?_⟩
        walk_at "n"
        exact q _ _ _ _ (back _ _ _ (.free inS hlk)) H2.setT
      | some l2 =>
        walk_at "n"
        refine ⟨nof, fun _ => ?_⟩
        walk_at "n"
        refine wp_some (get_T H2.t hlk) ?_
        walk_at "n"
        have hl2 : l2 < N.length := lt_of_in (ed1 _ (lk_mem hlk))
        refine ih ⟨H2.ne, H2.t, H2.s, rfl, fun _ _ _ => rfl⟩ hl2 nd2 bd2 (by rw [List.length_append, List.length_singleton]; omega) kd1 ed1 fun ok T3 S3 g3 hLp H3 => ?_
        have H4 := H2.trans H3
        have ed3 := hLp.edge ed1 fun _ z => z
        have nd3 := hLp.nd nd2
        have bd3 := hLp.bd hN (hN _) bd2
        cases ok with
        | true =>
          have kd3 := (hLp.yes rfl kd1).1
          have lT3 := kd_len kd3 fun p hp => hN _ _ (ed3 p hp)
          walk_at "n"
          refine ⟨fun _ => ?_, tnof⟩
          walk_at "n"
          refine ⟨_, set_T H4.t (by omega), ?_⟩
          walk_at "n"
          exact q _ _ _ _ (back _ _ _ (.push inS hlk hLp)) H4.setT
        | false =>
          have e3 := (hLp.no rfl).1
          subst e3
          have le3 := nd_sub nd2 fun z hz => hLp.sub z hz
          rw [List.length_append] at le3
          walk_at "n"
          refine ⟨nof, fun _ => ?_⟩
          walk_at "n"
          exact ⟨T3, S3, _, H4, nd3, bd3, by omega, kd1, ed1, fun ok T' S' z => back _ _ _ (.fail inS hlk hLp z), rfl⟩
    · rintro _ k ⟨T1, S1, x4, H1, nd1, bd1, le1, kd1, ed1, back, rfl⟩
      refine ⟨by unfold nxL; rw [List.getElem?_eq_none (by rw [List.length_map]; exact Nat.le_refl _)], ?_⟩
      walk_at "n"
      rw [List.drop_length] at back
      exact q _ _ _ _ (back _ _ _ .nil) H1
end
end MT
namespace MT
open PySem PySem.Spec L2 G
local macro_rules | `(tactic| walk_at "s1") => `(tactic| first
  | ((with_reducible apply wp_name); (case q => rfl))
  | with_reducible refine wp_c ?_
  | with_reducible refine wp_bin ?_
  | with_reducible refine wp_acons ?_
  | with_reducible refine wp_anil ?_
  | with_reducible refine wp_call ?_
  | with_reducible refine wp_fn ?_
  | with_reducible refine wp_fnK ?_
  | with_reducible refine wp_ev ?_
  | with_reducible refine wp_em ?_
  | with_reducible refine wp_tup ?_
  | with_reducible refine wp_eb ?_
  | with_reducible refine wp_et ?_
  | with_reducible refine wp_un ?_
  | with_reducible refine wp_chain ?_
  | with_reducible refine wp_and ?_
  | with_reducible refine wp_or ?_
  | with_reducible refine wp_not ?_
  | with_reducible refine wp_andF ?_
  | with_reducible refine wp_orF ?_
  | with_reducible refine wp_notF ?_
  | with_reducible refine wp_yes ?_
  | with_reducible refine wp_if ?_
  | with_reducible refine wp_sl ?_
  | with_reducible refine wp_onone ?_
  | with_reducible refine wp_osome ?_
  | with_reducible refine wp_rev ?_
  | with_reducible refine wp_list ?_
  | with_reducible refine wp_mt ?_
  | with_reducible refine wp_any ?_
  | with_reducible refine wp_r1 ?_
  | with_reducible refine wp_r2 ?_
  | with_reducible refine ws_seq ?_
  | with_reducible refine ws_set ?_
  | with_reducible refine ws_setC ?_
  | with_reducible refine ws_setCM ?_
  | with_reducible refine ws_if ?_
  | with_reducible refine ws_ret ?_
  | with_reducible refine ws_retN ?_
  | with_reducible refine ws_drop ?_
  | with_reducible refine ws_skip ?_
  | with_reducible refine ws_asg ?_
  | with_reducible refine ws_par ?_
  | with_reducible refine ws_sub ?_
  | with_reducible refine wp_body ?_)
local macro_rules | `(tactic| walk_at "s") => `(tactic| repeat (walk_at "s1"))
local macro_rules | `(tactic| walk_at "q") => `(tactic| first | assumption | decide | omega | rfl)
local macro_rules | `(tactic| walk_at "e1") => `(tactic| first
  | with_reducible refine wp_some add_i ?_
  | with_reducible refine wp_some sub_i ?_
  | with_reducible refine wp_some lt_i ?_
  | with_reducible refine wp_some le_i ?_
  | with_reducible refine wp_some gt_i ?_
  | with_reducible refine wp_some ge_i ?_
  | with_reducible refine wp_some eq_i ?_
  | with_reducible refine wp_some ne_i ?_
  | with_reducible refine wp_some eq_b ?_
  | with_reducible refine wp_some max_i ?_
  | with_reducible refine wp_some min_i ?_
  | with_reducible refine wp_some tup_tup ?_
  | with_reducible refine wp_some tup_lst ?_
  | with_reducible refine wp_some len_tup ?_
  | with_reducible refine wp_some len_lst ?_
  | with_reducible refine wp_some sl_tup ?_
  | with_reducible refine wp_some sl_lst ?_
  | with_reducible refine wp_some tru_b ?_
  | with_reducible refine wp_some repr_b ?_
  | with_reducible refine wp_eq_sb ?_
  | with_reducible refine wp_some seq_lst ?_
  | with_reducible refine wp_some seq_tup ?_
  | ((with_reducible apply wp_ix_tup); (case q => rfl))
  | ((with_reducible apply wp_ix_lst); (case q => rfl))
  | ((with_reducible apply wp_ix_ref); (case p => assumption); (case q => rfl))
  | with_reducible refine wp_some eq_s ?_
  | ((with_reducible refine wp_some (mod_int ?q) ?_); (case q => walk_at "q"))
  | ((with_reducible refine wp_some (div_int ?p ?q) ?_); (case p => walk_at "q"); (case q => walk_at "q"))
  | ((with_reducible refine wp_some (mul_int ?q) ?_); (case q => walk_at "q"))
  | ((with_reducible refine wp_some (add_tup ?q) ?_); (case q => first | omega | exact Nat.le_of_ble_eq_true rfl | (simp; done) | (simp; omega)))
  | ((with_reducible refine wp_some (add_lst ?q) ?_); (case q => first | omega | exact Nat.le_of_ble_eq_true rfl | (simp; done) | (simp; omega)))
  | with_reducible refine Exists.intro _ (And.intro rfl ?_)
  | with_reducible refine Exists.intro _ (Exists.intro _ (And.intro rfl ?_)))
local macro_rules | `(tactic| walk_at "g") => `(tactic| repeat (first | walk_at "s1" | walk_at "e1"))
local macro_rules | `(tactic| walk_at "h1") => `(tactic| first
  | with_reducible refine wp_some ne_b ?_
  | with_reducible refine wp_ne_sb ?_
  | with_reducible refine wp_d0t ?_
  | with_reducible refine wp_d0k ?_
  | with_reducible refine wp_d0 ?_
  | with_reducible refine wp_valsT ?_
  | with_reducible refine wp_some ne_s ?_
  | with_reducible refine wp_some reprA_b ?_
  | with_reducible refine wp_d1 ?_
  | with_reducible refine wp_some isi_non ?_
  | with_reducible refine wp_some isi_bl ?_
  | with_reducible refine wp_some isi_int ?_
  | with_reducible refine wp_some isi_str ?_
  | with_reducible refine wp_some isi_tup ?_
  | with_reducible refine wp_some isi_lst ?_
  | with_reducible refine wp_some isi_dct ?_)
local macro_rules | `(tactic| walk_at "k") => `(tactic| repeat (first | walk_at "s1" | walk_at "e1" | walk_at "h1"))
local macro_rules | `(tactic| walk_at "p") => `(tactic| first | assumption | (constructor; done) | exact pln_of (by assumption) | exact Sm.pln (by assumption))
local macro_rules | `(tactic| walk_at "b1") => `(tactic| first
  | exact nof
  | exact tnof
  | (refine And.intro ?_ tnof; intro _)
  | (refine And.intro nof ?_; intro _)
  | (refine And.intro ?_ ?_ <;> intro _))
local macro_rules | `(tactic| walk_at "P1") => `(tactic| first
  | ((with_reducible show Wp (c_is_whole _ _) _ _); refine wp_of (whole_eq ?p) ?_; (case p => walk_at "p"))
  | ((with_reducible show Wp (c_is_between _ _) _ _); refine wp_of (between_eq ?p) ?_; (case p => walk_at "p")))
local macro_rules | `(tactic| walk_at "b") => `(tactic| repeat' (first | walk_at "s1" | walk_at "e1" | walk_at "h1" | walk_at "P1" | walk_at "b1"))
local macro_rules | `(tactic| walk_at "z") => `(tactic| first
  | exact (show _ ∧ _ from ⟨rfl, rfl⟩)
  | (refine (show _ ∧ _ from ⟨?_, rfl⟩); first | (simp_all; done) | (simp_all <;> omega)))
local macro_rules | `(tactic| walk_at "bz") => `(tactic| (walk_at "b" <;> try walk_at "z"))
local macro_rules | `(tactic| walk_at "P1") => `(tactic| first
  | ((with_reducible show Wp (c_is_size _ _) _ _); refine wp_of (size_eq ?p) ?_; (case p => walk_at "p"))
  | ((with_reducible show Wp (c_is_moment _ _) _ _); refine wp_of (moment_eq ?p) ?_; (case p => walk_at "p"))
  | ((with_reducible show Wp (c_is_side _ _) _ _); refine wp_of (side_eq ?p) ?_; (case p => walk_at "p"))
  | ((with_reducible show Wp (c_is_grade _ _) _ _); refine wp_of (grade_eq ?p) ?_; (case p => walk_at "p"))
  | ((with_reducible show Wp (c_is_name _ _) _ _); refine wp_of (name_eq ?p ?q) ?_; (case p => walk_at "p"); (case q => first | assumption | omega))
  | ((with_reducible show Wp (c_is_ident _ _) _ _); refine wp_of (ident_eq ?p) ?_; (case p => assumption))
  | ((with_reducible show Wp (c_is_glove _ _) _ _); refine wp_of (glove_eq ?p ?q) ?_; (case p => assumption); (case q => first | assumption | omega)))
local macro_rules | `(tactic| walk_at "d1") => `(tactic| first
  | ((with_reducible show Wp (c_draw _ _) _ _); refine' dr ?s ?k ?a ?b ?_; (case s => assumption); (case k => assumption); (case a => first | decide | omega); (case b => first | decide | omega); intro _ _ _ _ _))
local macro_rules | `(tactic| walk_at "d") => `(tactic| repeat (first | walk_at "s1" | walk_at "e1" | walk_at "h1" | walk_at "P1" | walk_at "d1"))
local macro_rules | `(tactic| walk_at "db") => `(tactic| repeat' (first | walk_at "s1" | walk_at "e1" | walk_at "h1" | walk_at "P1" | walk_at "d1" | walk_at "b1"))
local macro_rules | `(tactic| walk_at "tl") => `(tactic| repeat' (first | assumption | omega | decide | (with_reducible refine len_half ?_ ?_) | (with_reducible refine lit_half ?_) | (with_reducible refine cut_half ?_) | (with_reducible refine T_half ?_)))
local macro_rules | `(tactic| walk_at "t1") => `(tactic| first
  | ((with_reducible refine wp_some (add_str ?q ?r) ?_); (case q => walk_at "tl"); (case r => walk_at "tl"))
  | ((with_reducible refine wp_some (sl_str ?q) ?_); (case q => walk_at "tl"))
  | ((with_reducible refine wp_some (len_str ?q) ?_); (case q => walk_at "tl"))
  | ((with_reducible refine wp_someP (upper_str ?q) ?_); (case q => walk_at "tl"))
  | ((with_reducible refine wp_some (str_int ?q) ?_); (case q => first | assumption | omega))
  | with_reducible refine wp_some rev_tup ?_
  | with_reducible refine wp_some rev_lst ?_
  | with_reducible refine wp_some is_bl ?_
  | with_reducible refine wp_some isN_bl ?_
  | with_reducible refine wp_some neg_i ?_
  | with_reducible refine wp_lAdd ?_
  | with_reducible refine And.intro rfl ?_)
local macro_rules | `(tactic| walk_at "d") => `(tactic| repeat (first | walk_at "s1" | walk_at "e1" | walk_at "h1" | walk_at "t1" | walk_at "P1" | walk_at "d1"))
local macro_rules | `(tactic| walk_at "db") => `(tactic| repeat' (first | walk_at "s1" | walk_at "e1" | walk_at "h1" | walk_at "t1" | walk_at "P1" | walk_at "d1" | walk_at "b1"))
local macro_rules | `(tactic| walk_at "dz") => `(tactic| (walk_at "db" <;> try walk_at "z"))
local macro_rules | `(tactic| walk_at "hg") => `(tactic| first | assumption | exact get_new | (refine get_app ?_; walk_at "hg") | (refine' get_set_eq ?e; (case e => walk_at "hg")) | (refine (get_set_ne ?_).trans ?_; (first | omega | (simp only [List.length_append, List.length_set, List.length_cons, List.length_nil]; omega)); walk_at "hg"))
local macro_rules | `(tactic| walk_at "st") => `(tactic| repeat' (first | assumption | (with_reducible refine St.wapp ?_ ?_) | (with_reducible refine St.wset ?_ ?_ ?_ ?_) | (simp only [List.length_append, List.length_set, List.length_cons, List.length_nil]; omega) | omega))
local macro_rules | `(tactic| walk_at "ll") => `(tactic| repeat' (first | assumption | omega | exact Nat.le_of_ble_eq_true rfl | (with_reducible refine app_half ?_ ?_) | (with_reducible refine cutL_half ?_) | (with_reducible refine rev_half ?_) | (with_reducible refine map_half ?_) | (with_reducible refine cons_half ?_ ?_)))
local macro_rules | `(tactic| walk_at "n1") => `(tactic| first
  | ((with_reducible show Wp (R.ofO _ _) _ _); first
    | with_reducible apply wp_some eq_same
    | with_reducible apply wp_some ne_same
    | with_reducible apply wp_some add_i
    | with_reducible apply wp_some sub_i
    | with_reducible apply wp_some lt_i
    | with_reducible apply wp_some le_i
    | with_reducible apply wp_some gt_i
    | with_reducible apply wp_some ge_i
    | with_reducible apply wp_some eq_i
    | with_reducible apply wp_some ne_i
    | with_reducible apply wp_some eq_b
    | with_reducible apply wp_some max_i
    | with_reducible apply wp_some min_i
    | with_reducible apply wp_some tup_tup
    | with_reducible apply wp_some tup_lst
    | with_reducible apply wp_some len_tup
    | with_reducible apply wp_some len_lst
    | with_reducible apply wp_some sl_tup
    | with_reducible apply wp_some sl_lst
    | with_reducible apply wp_some tru_b
    | with_reducible apply wp_some repr_b
    | with_reducible refine wp_eq_sb ?_
    | with_reducible apply wp_some seq_lst
    | with_reducible apply wp_some seq_tup
    | ((with_reducible apply wp_ix_tup); (case q => rfl))
    | ((with_reducible apply wp_ix_lst); (case q => rfl))
    | ((with_reducible apply wp_ix_ref); (case p => assumption); (case q => rfl))
    | with_reducible apply wp_some eq_s
    | ((with_reducible apply wp_some (mod_int ?q)); (case q => walk_at "q"))
    | ((with_reducible apply wp_some (div_int ?p ?q)); (case p => walk_at "q"); (case q => walk_at "q"))
    | ((with_reducible apply wp_some (mul_int ?q)); (case q => walk_at "q"))
    | ((with_reducible apply wp_some (add_tup2 ?a ?b)); (case a => walk_at "ll"); (case b => walk_at "ll"))
    | ((with_reducible apply wp_some (add_lst2 ?a ?b)); (case a => walk_at "ll"); (case b => walk_at "ll"))
    | with_reducible apply wp_some ne_b
    | with_reducible refine wp_ne_sb ?_
    | with_reducible apply wp_some ne_s
    | with_reducible apply wp_some reprA_b
    | with_reducible apply wp_some isi_non
    | with_reducible apply wp_some isi_bl
    | with_reducible apply wp_some isi_int
    | with_reducible apply wp_some isi_str
    | with_reducible apply wp_some isi_tup
    | with_reducible apply wp_some isi_lst
    | with_reducible apply wp_some isi_dct
    | ((with_reducible apply wp_some (add_str ?q ?r)); (case q => walk_at "tl"); (case r => walk_at "tl"))
    | ((with_reducible apply wp_some (sl_str ?q)); (case q => walk_at "tl"))
    | ((with_reducible apply wp_some (len_str ?q)); (case q => walk_at "tl"))
    | ((with_reducible apply wp_some (str_int ?q)); (case q => first | assumption | omega))
    | with_reducible apply wp_some rev_tup
    | with_reducible apply wp_some rev_lst
    | with_reducible apply wp_some is_bl
    | with_reducible apply wp_some isN_bl
    | with_reducible apply wp_some neg_i
    | ((with_reducible apply wp_some (isi_pln ?q)); (case q => walk_at "p"))
    | with_reducible apply wp_some pow6
    | with_reducible apply wp_some eqT_tup
    | ((with_reducible apply wp_some (rev_str ?q)); (case q => walk_at "tl"))
    | ((with_reducible apply wp_some (add_rl ?q ?a ?b)); (case q => walk_at "hg"); (case a => walk_at "ll"); (case b => walk_at "ll"))
    | ((with_reducible apply wp_some (add_lr ?q ?a ?b)); (case q => walk_at "hg"); (case a => walk_at "ll"); (case b => walk_at "ll"))
    | ((with_reducible apply wp_some (add_rr ?q ?r ?a ?b)); (case q => walk_at "hg"); (case r => walk_at "hg"); (case a => walk_at "ll"); (case b => walk_at "ll"))
    | with_reducible apply wp_some lst_lst
    | ((with_reducible apply wp_some (lst_ref ?q)); (case q => walk_at "hg"))
    | ((with_reducible apply wp_some (len_ref ?q)); (case q => walk_at "hg"))
    | ((with_reducible apply wp_some (tup_ref ?q)); (case q => walk_at "hg"))
    | with_reducible apply wp_some pow39
    | with_reducible apply wp_some pow30
    | with_reducible apply wp_some pow40
    | with_reducible apply wp_some tru_non
    | with_reducible apply wp_some tru_int
    | with_reducible apply wp_some tru_tup
    | ((with_reducible apply wp_some (tru_str ?q)); (case q => walk_at "tl"))
    | ((with_reducible apply wp_some (mulS_str ?a ?b ?d)); (case a => walk_at "tl"); (case b => walk_at "tl"); (case d => walk_at "tl"))
    | ((with_reducible apply wp_some (mulS_tupA ?a ?b ?c ?d)); (case a => walk_at "tl"); (case b => walk_at "tl"); (case c => first | rfl | assumption); (case d => walk_at "tl")))
  | ((with_reducible show Wp (R.ofP _) _ _); first
    | ((with_reducible apply wp_someP (app_ref2 ?e ?q)); (case e => walk_at "hg"); (case q => walk_at "ll"))
    | ((with_reducible apply wp_someP (upper_str ?q)); (case q => walk_at "tl")))
  | ((with_reducible show Ws _ _); first
    | with_reducible refine ws_seq ?_
    | with_reducible refine ws_set ?_
    | with_reducible refine ws_setC ?_
    | with_reducible refine ws_setCM ?_
    | with_reducible refine ws_if ?_
    | with_reducible refine ws_ret ?_
    | with_reducible refine ws_retN ?_
    | with_reducible refine ws_drop ?_
    | with_reducible refine ws_skip ?_
    | with_reducible refine ws_asg ?_
    | with_reducible refine ws_par ?_
    | with_reducible refine ws_sub ?_)
  | ((with_reducible refine' And.intro (isL_ref ?e) ?_); (case e => walk_at "hg"))
  | ((with_reducible refine And.intro (And.intro ?a ?b) ?_); (case a => walk_at "ll"); (case b => walk_at "ll"))
  | with_reducible refine Exists.intro _ (And.intro rfl ?_)
  | with_reducible refine Exists.intro _ (Exists.intro _ (And.intro rfl ?_))
  | with_reducible refine And.intro rfl ?_
  | ((with_reducible show Wp _ _ _); first
    | ((with_reducible apply wp_name); (case q => rfl))
    | with_reducible refine wp_c ?_
    | with_reducible refine wp_bin ?_
    | with_reducible refine wp_acons ?_
    | with_reducible refine wp_anil ?_
    | with_reducible refine wp_call ?_
    | with_reducible refine wp_fn ?_
    | with_reducible refine wp_fnK ?_
    | with_reducible refine wp_ev ?_
    | with_reducible refine wp_em ?_
    | with_reducible refine wp_tup ?_
    | with_reducible refine wp_eb ?_
    | with_reducible refine wp_et ?_
    | with_reducible refine wp_un ?_
    | with_reducible refine wp_chain ?_
    | with_reducible refine wp_and ?_
    | with_reducible refine wp_or ?_
    | with_reducible refine wp_not ?_
    | with_reducible refine wp_andF ?_
    | with_reducible refine wp_orF ?_
    | with_reducible refine wp_notF ?_
    | with_reducible refine wp_yes ?_
    | with_reducible refine wp_if ?_
    | with_reducible refine wp_sl ?_
    | with_reducible refine wp_onone ?_
    | with_reducible refine wp_osome ?_
    | with_reducible refine wp_rev ?_
    | with_reducible refine wp_list ?_
    | with_reducible refine wp_mt ?_
    | with_reducible refine wp_any ?_
    | with_reducible refine wp_r1 ?_
    | with_reducible refine wp_r2 ?_
    | with_reducible refine wp_body ?_
    | with_reducible refine wp_d0t ?_
    | with_reducible refine wp_d0k ?_
    | with_reducible refine wp_d0 ?_
    | with_reducible refine wp_valsT ?_
    | with_reducible refine wp_d1 ?_
    | with_reducible refine wp_lAdd ?_
    | walk_at "P1"
    | walk_at "d1")
  | ((fail_if_success (with_reducible show Ws _ _)); (fail_if_success (with_reducible show Wp _ _ _)); show Ws _ _))
local macro_rules | `(tactic| walk_at "n") => `(tactic| repeat (walk_at "n1"))
local macro_rules | `(tactic| walk_at "nb") => `(tactic| repeat' (first | walk_at "n1" | walk_at "b1"))
local macro_rules | `(tactic| walk_at "c") => `(tactic| first
  | assumption
  | (refine closeB (by assumption) ?_; first | rfl | (simp_all; done) | (simp_all <;> omega)))
local macro_rules | `(tactic| walk_at "nc") => `(tactic| (walk_at "nb" <;> try walk_at "c"))
local macro_rules | `(tactic| walk_at "n1") => `(tactic| first
  | with_reducible refine wp_iOf ?_
  | with_reducible apply wp_some neT_tup
  | with_reducible refine ex_ent ?_
  | with_reducible refine ex_enl ?_
  | with_reducible refine ex_zpt ?_
  | with_reducible refine ex_zpl ?_)
local macro_rules | `(tactic| walk_at "q") => `(tactic| exact Int.natCast_pos.mpr (Nat.succ_pos _))
local macro_rules | `(tactic| walk_at "hg") => `(tactic| with_reducible exact St.k2 (by assumption))
local macro_rules | `(tactic| walk_at "n1") => `(tactic| first
  | with_reducible refine wp_mk ?_
  | with_reducible refine wp_mth ?_
  | with_reducible refine wp_eown ?_
  | with_reducible refine ws_fld ?_
  | with_reducible refine wp_js1 ?_
  | with_reducible refine wp_js0 ?_)
local macro_rules | `(tactic| walk_at "n1") => `(tactic| first
  | with_reducible refine wp_lRep ?_
  | with_reducible apply wp_some sk_zones
  | with_reducible apply wp_some sk_stretch
  | with_reducible apply wp_some sk_grade)
local macro_rules | `(tactic| walk_at "n1") => `(tactic| first
  | with_reducible refine wp_orT ?_
  | with_reducible refine wp_andT ?_
  | with_reducible apply wp_some neL_lst
  | with_reducible apply wp_some int_bl
  | with_reducible apply wp_some ne_ss)
local macro_rules | `(tactic| walk_at "tl") => `(tactic| repeat' (first | assumption | omega | exact Nat.le_of_ble_eq_true rfl | (with_reducible refine len_half ?_ ?_) | (with_reducible refine lit_half ?_) | (with_reducible refine cut_half ?_) | (with_reducible refine T_half ?_) | (simp only [List.length_append, List.length_cons, List.length_nil]; omega)))
local macro_rules | `(tactic| walk_at "n1") => `(tactic| first
  | with_reducible refine wp_disp ?_
  | with_reducible refine wp_pCons ?_
  | with_reducible refine wp_pNil ?_
  | with_reducible refine wp_isO2 ?_)

section
variable {h : Hs} {Q : D → Hs → Prop} {X : XQ} {T : Tk} {S : List Nat} {r l : Nat} {N : List (List Nat)} {R : Nat}
theorem shape {h g' t : Hs} {x : O} {T' : Tk} {S' : List Nat} {b : Nat} (H : HS (h ++ x :: t) h.length b T' S' g') (hb : h.length < b) : ∃ t', g' = h ++ .dk (kT T') :: t' := by
  have l1 : h.length < g'.length := by rw [H.len, List.length_append, List.length_cons]; omega
  have e1 : g'.take h.length = h := by
    apply List.ext_getElem?
    intro n
    by_cases hn : n < h.length
    · rw [List.getElem?_take_of_lt hn, H.old n (by omega) (by omega), List.getElem?_append_left hn]
    · rw [List.getElem?_eq_none (by rw [List.length_take]; omega), List.getElem?_eq_none (by omega)]
  have e2 : g'.drop h.length = .dk (kT T') :: g'.drop (h.length + 1) := by
    rw [List.drop_eq_getElem_cons l1]
    congr 1
    exact Option.some.inj ((List.getElem?_eq_getElem l1).symm.trans H.t)
  refine ⟨g'.drop (h.length + 1), ?_⟩
  rw [← e2]
  conv => rhs; arg 1; rw [← e1]
  exact (List.take_append_drop _ _).symm
theorem vals_T : vals ((kT T).map (·.2)) = true := vals_all fun x hx => by
  unfold kT at hx
  rw [List.map_map] at hx
  obtain ⟨p, _, rfl⟩ := List.mem_map.mp hx
  rfl
theorem dH_lkd {hs : Hs} {n m k : Nat} {kvs : List (Key × D)} (h : hs[m]? = some (.lkd (.dk kvs))) (l : n ≤ m) (v : vals (kvs.map (·.2)) = true) : dH hs n (k + 1) m = some (.dlk (kvs.map (·.1)) (kvs.map (·.2))) := by
  unfold dH
  rw [if_neg (by omega), h]
  show (dWs _ (kvs.map (·.2))).map (D.dlk _) = _
  rw [dWs_val v]; rfl
abbrev tD (T : Tk) : D := .dlk ((kT T).map (·.1)) ((kT T).map (·.2))
theorem taken_wp (hN : ∀ x, ∀ r ∈ Nf N x, r < R) (hW : ∀ x, (Nf N x).length ≤ 1000) (hR : R ≤ 38) (lN : N.length ≤ 1000) (q : ∀ T A, Km (Nf N) N.length T A → Q (tD T) h) : Wp (c_most_taken [nD N] h) Q X := by
  unfold c_most_taken f_most_taken
  refine wp_gcF (wp_mono (Q := fun d h1 => ∃ T A t, d = .ref h.length ∧ h1 = h ++ .lkd (.dk (kT T)) :: t ∧ Km (Nf N) N.length T A) (X := fun _ _ _ => False) ?_ (fun d h1 z => ?_) fun _ _ _ x => x.elim)
  · refine wp_bodyE [some (nD N), none, none] rfl ?_
    walk_at "n"
    refine ws_for ?_
    walk_at "n"
    have ln : gLen (h ++ [.dk []]) [nD N] = some (.int N.length) := by
      refine (len_seq (show seqOf _ (nD N) = some (N.map rowD) from rfl)).trans ?_
      rw [List.length_map]
    refine wp_some ln ?_
    refine wp_anil ?_
    refine ⟨_, rfl, okR_in (by omega) (by omega), N.length, fun i e g => ∃ T A t x2, g = h ++ .dk (kT T) :: t ∧ Km (Nf N) i T A ∧ e = [some (nD N), some (.ref h.length), x2], by omega, ⟨[], _, [], _, rfl, Km.zero, rfl⟩, ?_, ?_⟩
    · rintro i _ g hi ⟨T, A, t, x2, rfl, K, rfl⟩
      refine ⟨_, _, nxN_some (by omega), rfl, ?_⟩
      walk_at "n"
      rw [Int.zero_add]
      have e1 : h ++ O.dk (kT T) :: t ++ [O.dk []] = h ++ O.dk (kT T) :: (t ++ [O.dk []]) := by simp
      have hb : h.length < (h ++ O.dk (kT T) :: t).length := by rw [List.length_append, List.length_cons]; omega
      have H : HS (h ++ O.dk (kT T) :: (t ++ [O.dk []])) h.length (h ++ O.dk (kT T) :: t).length T [] (h ++ O.dk (kT T) :: t ++ [O.dk []]) := by
        refine ⟨by omega, ?_, get_new, by rw [e1], fun n _ _ => by rw [e1]⟩
        rw [List.getElem?_append_left hb]
        simp
      refine gets_wp hN hW (by omega) 40 H hi .nil nofun (by simp; omega) K.kd K.ed fun ok T' S' g' hLp H' => ?_
      obtain ⟨A', K'⟩ := K.step hLp
      obtain ⟨t', rfl⟩ := shape H' hb
      walk_at "n"
      exact ⟨T', A', t', _, rfl, K', rfl⟩
    · rintro _ g ⟨T, A, t, x2, rfl, K, rfl⟩
      refine ⟨nxN_stop, ?_⟩
      walk_at "n"
      refine wp_lk ?_
      walk_at "n"
      refine ⟨h.length, kT T, rfl, by simp, ?_⟩
      refine ⟨T, A, t, rfl, by simp, K⟩
  · obtain ⟨T, A, t, rfl, rfl, K⟩ := z
    refine ⟨tD T, dH_lkd (by simp) (Nat.le_refl _) vals_T, cls_app, ?_⟩
    rw [take_app]
    exact q T A K
end
end MT
namespace MT
open PySem PySem.Spec L2 G
local macro_rules | `(tactic| walk_at "s1") => `(tactic| first
  | ((with_reducible apply wp_name); (case q => rfl))
  | with_reducible refine wp_c ?_
  | with_reducible refine wp_bin ?_
  | with_reducible refine wp_acons ?_
  | with_reducible refine wp_anil ?_
  | with_reducible refine wp_call ?_
  | with_reducible refine wp_fn ?_
  | with_reducible refine wp_fnK ?_
  | with_reducible refine wp_ev ?_
  | with_reducible refine wp_em ?_
  | with_reducible refine wp_tup ?_
  | with_reducible refine wp_eb ?_
  | with_reducible refine wp_et ?_
  | with_reducible refine wp_un ?_
  | with_reducible refine wp_chain ?_
  | with_reducible refine wp_and ?_
  | with_reducible refine wp_or ?_
  | with_reducible refine wp_not ?_
  | with_reducible refine wp_andF ?_
  | with_reducible refine wp_orF ?_
  | with_reducible refine wp_notF ?_
  | with_reducible refine wp_yes ?_
  | with_reducible refine wp_if ?_
  | with_reducible refine wp_sl ?_
  | with_reducible refine wp_onone ?_
  | with_reducible refine wp_osome ?_
  | with_reducible refine wp_rev ?_
  | with_reducible refine wp_list ?_
  | with_reducible refine wp_mt ?_
  | with_reducible refine wp_any ?_
  | with_reducible refine wp_r1 ?_
  | with_reducible refine wp_r2 ?_
  | with_reducible refine ws_seq ?_
  | with_reducible refine ws_set ?_
  | with_reducible refine ws_setC ?_
  | with_reducible refine ws_setCM ?_
  | with_reducible refine ws_if ?_
  | with_reducible refine ws_ret ?_
  | with_reducible refine ws_retN ?_
  | with_reducible refine ws_drop ?_
  | with_reducible refine ws_skip ?_
  | with_reducible refine ws_asg ?_
  | with_reducible refine ws_par ?_
  | with_reducible refine ws_sub ?_
  | with_reducible refine wp_body ?_)
local macro_rules | `(tactic| walk_at "s") => `(tactic| repeat (walk_at "s1"))
local macro_rules | `(tactic| walk_at "q") => `(tactic| first | assumption | decide | omega | rfl)
local macro_rules | `(tactic| walk_at "e1") => `(tactic| first
  | with_reducible refine wp_some add_i ?_
  | with_reducible refine wp_some sub_i ?_
  | with_reducible refine wp_some lt_i ?_
  | with_reducible refine wp_some le_i ?_
  | with_reducible refine wp_some gt_i ?_
  | with_reducible refine wp_some ge_i ?_
  | with_reducible refine wp_some eq_i ?_
  | with_reducible refine wp_some ne_i ?_
  | with_reducible refine wp_some eq_b ?_
  | with_reducible refine wp_some max_i ?_
  | with_reducible refine wp_some min_i ?_
  | with_reducible refine wp_some tup_tup ?_
  | with_reducible refine wp_some tup_lst ?_
  | with_reducible refine wp_some len_tup ?_
  | with_reducible refine wp_some len_lst ?_
  | with_reducible refine wp_some sl_tup ?_
  | with_reducible refine wp_some sl_lst ?_
  | with_reducible refine wp_some tru_b ?_
  | with_reducible refine wp_some repr_b ?_
  | with_reducible refine wp_eq_sb ?_
  | with_reducible refine wp_some seq_lst ?_
  | with_reducible refine wp_some seq_tup ?_
  | ((with_reducible apply wp_ix_tup); (case q => rfl))
  | ((with_reducible apply wp_ix_lst); (case q => rfl))
  | ((with_reducible apply wp_ix_ref); (case p => assumption); (case q => rfl))
  | with_reducible refine wp_some eq_s ?_
  | ((with_reducible refine wp_some (mod_int ?q) ?_); (case q => walk_at "q"))
  | ((with_reducible refine wp_some (div_int ?p ?q) ?_); (case p => walk_at "q"); (case q => walk_at "q"))
  | ((with_reducible refine wp_some (mul_int ?q) ?_); (case q => walk_at "q"))
  | ((with_reducible refine wp_some (add_tup ?q) ?_); (case q => first | omega | exact Nat.le_of_ble_eq_true rfl | (simp; done) | (simp; omega)))
  | ((with_reducible refine wp_some (add_lst ?q) ?_); (case q => first | omega | exact Nat.le_of_ble_eq_true rfl | (simp; done) | (simp; omega)))
  | with_reducible refine Exists.intro _ (And.intro rfl ?_)
  | with_reducible refine Exists.intro _ (Exists.intro _ (And.intro rfl ?_)))
local macro_rules | `(tactic| walk_at "g") => `(tactic| repeat (first | walk_at "s1" | walk_at "e1"))
local macro_rules | `(tactic| walk_at "h1") => `(tactic| first
  | with_reducible refine wp_some ne_b ?_
  | with_reducible refine wp_ne_sb ?_
  | with_reducible refine wp_d0t ?_
  | with_reducible refine wp_d0k ?_
  | with_reducible refine wp_d0 ?_
  | with_reducible refine wp_valsT ?_
  | with_reducible refine wp_some ne_s ?_
  | with_reducible refine wp_some reprA_b ?_
  | with_reducible refine wp_d1 ?_
  | with_reducible refine wp_some isi_non ?_
  | with_reducible refine wp_some isi_bl ?_
  | with_reducible refine wp_some isi_int ?_
  | with_reducible refine wp_some isi_str ?_
  | with_reducible refine wp_some isi_tup ?_
  | with_reducible refine wp_some isi_lst ?_
  | with_reducible refine wp_some isi_dct ?_)
local macro_rules | `(tactic| walk_at "k") => `(tactic| repeat (first | walk_at "s1" | walk_at "e1" | walk_at "h1"))
local macro_rules | `(tactic| walk_at "p") => `(tactic| first | assumption | (constructor; done) | exact pln_of (by assumption) | exact Sm.pln (by assumption))
local macro_rules | `(tactic| walk_at "b1") => `(tactic| first
  | exact nof
  | exact tnof
  | (refine And.intro ?_ tnof; intro _)
  | (refine And.intro nof ?_; intro _)
  | (refine And.intro ?_ ?_ <;> intro _))
local macro_rules | `(tactic| walk_at "P1") => `(tactic| first
  | ((with_reducible show Wp (c_is_whole _ _) _ _); refine wp_of (whole_eq ?p) ?_; (case p => walk_at "p"))
  | ((with_reducible show Wp (c_is_between _ _) _ _); refine wp_of (between_eq ?p) ?_; (case p => walk_at "p")))
local macro_rules | `(tactic| walk_at "b") => `(tactic| repeat' (first | walk_at "s1" | walk_at "e1" | walk_at "h1" | walk_at "P1" | walk_at "b1"))
local macro_rules | `(tactic| walk_at "z") => `(tactic| first
  | exact (show _ ∧ _ from ⟨rfl, rfl⟩)
  | (refine (show _ ∧ _ from ⟨?_, rfl⟩); first | (simp_all; done) | (simp_all <;> omega)))
local macro_rules | `(tactic| walk_at "bz") => `(tactic| (walk_at "b" <;> try walk_at "z"))
local macro_rules | `(tactic| walk_at "P1") => `(tactic| first
  | ((with_reducible show Wp (c_is_size _ _) _ _); refine wp_of (size_eq ?p) ?_; (case p => walk_at "p"))
  | ((with_reducible show Wp (c_is_moment _ _) _ _); refine wp_of (moment_eq ?p) ?_; (case p => walk_at "p"))
  | ((with_reducible show Wp (c_is_side _ _) _ _); refine wp_of (side_eq ?p) ?_; (case p => walk_at "p"))
  | ((with_reducible show Wp (c_is_grade _ _) _ _); refine wp_of (grade_eq ?p) ?_; (case p => walk_at "p"))
  | ((with_reducible show Wp (c_is_name _ _) _ _); refine wp_of (name_eq ?p ?q) ?_; (case p => walk_at "p"); (case q => first | assumption | omega))
  | ((with_reducible show Wp (c_is_ident _ _) _ _); refine wp_of (ident_eq ?p) ?_; (case p => assumption))
  | ((with_reducible show Wp (c_is_glove _ _) _ _); refine wp_of (glove_eq ?p ?q) ?_; (case p => assumption); (case q => first | assumption | omega)))
local macro_rules | `(tactic| walk_at "d1") => `(tactic| first
  | ((with_reducible show Wp (c_draw _ _) _ _); refine' dr ?s ?k ?a ?b ?_; (case s => assumption); (case k => assumption); (case a => first | decide | omega); (case b => first | decide | omega); intro _ _ _ _ _))
local macro_rules | `(tactic| walk_at "d") => `(tactic| repeat (first | walk_at "s1" | walk_at "e1" | walk_at "h1" | walk_at "P1" | walk_at "d1"))
local macro_rules | `(tactic| walk_at "db") => `(tactic| repeat' (first | walk_at "s1" | walk_at "e1" | walk_at "h1" | walk_at "P1" | walk_at "d1" | walk_at "b1"))
local macro_rules | `(tactic| walk_at "tl") => `(tactic| repeat' (first | assumption | omega | decide | (with_reducible refine len_half ?_ ?_) | (with_reducible refine lit_half ?_) | (with_reducible refine cut_half ?_) | (with_reducible refine T_half ?_)))
local macro_rules | `(tactic| walk_at "t1") => `(tactic| first
  | ((with_reducible refine wp_some (add_str ?q ?r) ?_); (case q => walk_at "tl"); (case r => walk_at "tl"))
  | ((with_reducible refine wp_some (sl_str ?q) ?_); (case q => walk_at "tl"))
  | ((with_reducible refine wp_some (len_str ?q) ?_); (case q => walk_at "tl"))
  | ((with_reducible refine wp_someP (upper_str ?q) ?_); (case q => walk_at "tl"))
  | ((with_reducible refine wp_some (str_int ?q) ?_); (case q => first | assumption | omega))
  | with_reducible refine wp_some rev_tup ?_
  | with_reducible refine wp_some rev_lst ?_
  | with_reducible refine wp_some is_bl ?_
  | with_reducible refine wp_some isN_bl ?_
  | with_reducible refine wp_some neg_i ?_
  | with_reducible refine wp_lAdd ?_
  | with_reducible refine And.intro rfl ?_)
local macro_rules | `(tactic| walk_at "d") => `(tactic| repeat (first | walk_at "s1" | walk_at "e1" | walk_at "h1" | walk_at "t1" | walk_at "P1" | walk_at "d1"))
local macro_rules | `(tactic| walk_at "db") => `(tactic| repeat' (first | walk_at "s1" | walk_at "e1" | walk_at "h1" | walk_at "t1" | walk_at "P1" | walk_at "d1" | walk_at "b1"))
local macro_rules | `(tactic| walk_at "dz") => `(tactic| (walk_at "db" <;> try walk_at "z"))
local macro_rules | `(tactic| walk_at "hg") => `(tactic| first | assumption | exact get_new | (refine get_app ?_; walk_at "hg") | (refine' get_set_eq ?e; (case e => walk_at "hg")) | (refine (get_set_ne ?_).trans ?_; (first | omega | (simp only [List.length_append, List.length_set, List.length_cons, List.length_nil]; omega)); walk_at "hg"))
local macro_rules | `(tactic| walk_at "st") => `(tactic| repeat' (first | assumption | (with_reducible refine St.wapp ?_ ?_) | (with_reducible refine St.wset ?_ ?_ ?_ ?_) | (simp only [List.length_append, List.length_set, List.length_cons, List.length_nil]; omega) | omega))
local macro_rules | `(tactic| walk_at "ll") => `(tactic| repeat' (first | assumption | omega | exact Nat.le_of_ble_eq_true rfl | (with_reducible refine app_half ?_ ?_) | (with_reducible refine cutL_half ?_) | (with_reducible refine rev_half ?_) | (with_reducible refine map_half ?_) | (with_reducible refine cons_half ?_ ?_)))
local macro_rules | `(tactic| walk_at "n1") => `(tactic| first
  | ((with_reducible show Wp (R.ofO _ _) _ _); first
    | with_reducible apply wp_some eq_same
    | with_reducible apply wp_some ne_same
    | with_reducible apply wp_some add_i
    | with_reducible apply wp_some sub_i
    | with_reducible apply wp_some lt_i
    | with_reducible apply wp_some le_i
    | with_reducible apply wp_some gt_i
    | with_reducible apply wp_some ge_i
    | with_reducible apply wp_some eq_i
    | with_reducible apply wp_some ne_i
    | with_reducible apply wp_some eq_b
    | with_reducible apply wp_some max_i
    | with_reducible apply wp_some min_i
    | with_reducible apply wp_some tup_tup
    | with_reducible apply wp_some tup_lst
    | with_reducible apply wp_some len_tup
    | with_reducible apply wp_some len_lst
    | with_reducible apply wp_some sl_tup
    | with_reducible apply wp_some sl_lst
    | with_reducible apply wp_some tru_b
    | with_reducible apply wp_some repr_b
    | with_reducible refine wp_eq_sb ?_
    | with_reducible apply wp_some seq_lst
    | with_reducible apply wp_some seq_tup
    | ((with_reducible apply wp_ix_tup); (case q => rfl))
    | ((with_reducible apply wp_ix_lst); (case q => rfl))
    | ((with_reducible apply wp_ix_ref); (case p => assumption); (case q => rfl))
    | with_reducible apply wp_some eq_s
    | ((with_reducible apply wp_some (mod_int ?q)); (case q => walk_at "q"))
    | ((with_reducible apply wp_some (div_int ?p ?q)); (case p => walk_at "q"); (case q => walk_at "q"))
    | ((with_reducible apply wp_some (mul_int ?q)); (case q => walk_at "q"))
    | ((with_reducible apply wp_some (add_tup2 ?a ?b)); (case a => walk_at "ll"); (case b => walk_at "ll"))
    | ((with_reducible apply wp_some (add_lst2 ?a ?b)); (case a => walk_at "ll"); (case b => walk_at "ll"))
    | with_reducible apply wp_some ne_b
    | with_reducible refine wp_ne_sb ?_
    | with_reducible apply wp_some ne_s
    | with_reducible apply wp_some reprA_b
    | with_reducible apply wp_some isi_non
    | with_reducible apply wp_some isi_bl
    | with_reducible apply wp_some isi_int
    | with_reducible apply wp_some isi_str
    | with_reducible apply wp_some isi_tup
    | with_reducible apply wp_some isi_lst
    | with_reducible apply wp_some isi_dct
    | ((with_reducible apply wp_some (add_str ?q ?r)); (case q => walk_at "tl"); (case r => walk_at "tl"))
    | ((with_reducible apply wp_some (sl_str ?q)); (case q => walk_at "tl"))
    | ((with_reducible apply wp_some (len_str ?q)); (case q => walk_at "tl"))
    | ((with_reducible apply wp_some (str_int ?q)); (case q => first | assumption | omega))
    | with_reducible apply wp_some rev_tup
    | with_reducible apply wp_some rev_lst
    | with_reducible apply wp_some is_bl
    | with_reducible apply wp_some isN_bl
    | with_reducible apply wp_some neg_i
    | ((with_reducible apply wp_some (isi_pln ?q)); (case q => walk_at "p"))
    | with_reducible apply wp_some pow6
    | with_reducible apply wp_some eqT_tup
    | ((with_reducible apply wp_some (rev_str ?q)); (case q => walk_at "tl"))
    | ((with_reducible apply wp_some (add_rl ?q ?a ?b)); (case q => walk_at "hg"); (case a => walk_at "ll"); (case b => walk_at "ll"))
    | ((with_reducible apply wp_some (add_lr ?q ?a ?b)); (case q => walk_at "hg"); (case a => walk_at "ll"); (case b => walk_at "ll"))
    | ((with_reducible apply wp_some (add_rr ?q ?r ?a ?b)); (case q => walk_at "hg"); (case r => walk_at "hg"); (case a => walk_at "ll"); (case b => walk_at "ll"))
    | with_reducible apply wp_some lst_lst
    | ((with_reducible apply wp_some (lst_ref ?q)); (case q => walk_at "hg"))
    | ((with_reducible apply wp_some (len_ref ?q)); (case q => walk_at "hg"))
    | ((with_reducible apply wp_some (tup_ref ?q)); (case q => walk_at "hg"))
    | with_reducible apply wp_some pow39
    | with_reducible apply wp_some pow30
    | with_reducible apply wp_some pow40
    | with_reducible apply wp_some tru_non
    | with_reducible apply wp_some tru_int
    | with_reducible apply wp_some tru_tup
    | ((with_reducible apply wp_some (tru_str ?q)); (case q => walk_at "tl"))
    | ((with_reducible apply wp_some (mulS_str ?a ?b ?d)); (case a => walk_at "tl"); (case b => walk_at "tl"); (case d => walk_at "tl"))
    | ((with_reducible apply wp_some (mulS_tupA ?a ?b ?c ?d)); (case a => walk_at "tl"); (case b => walk_at "tl"); (case c => first | rfl | assumption); (case d => walk_at "tl")))
  | ((with_reducible show Wp (R.ofP _) _ _); first
    | ((with_reducible apply wp_someP (app_ref2 ?e ?q)); (case e => walk_at "hg"); (case q => walk_at "ll"))
    | ((with_reducible apply wp_someP (upper_str ?q)); (case q => walk_at "tl")))
  | ((with_reducible show Ws _ _); first
    | with_reducible refine ws_seq ?_
    | with_reducible refine ws_set ?_
    | with_reducible refine ws_setC ?_
    | with_reducible refine ws_setCM ?_
    | with_reducible refine ws_if ?_
    | with_reducible refine ws_ret ?_
    | with_reducible refine ws_retN ?_
    | with_reducible refine ws_drop ?_
    | with_reducible refine ws_skip ?_
    | with_reducible refine ws_asg ?_
    | with_reducible refine ws_par ?_
    | with_reducible refine ws_sub ?_)
  | ((with_reducible refine' And.intro (isL_ref ?e) ?_); (case e => walk_at "hg"))
  | ((with_reducible refine And.intro (And.intro ?a ?b) ?_); (case a => walk_at "ll"); (case b => walk_at "ll"))
  | with_reducible refine Exists.intro _ (And.intro rfl ?_)
  | with_reducible refine Exists.intro _ (Exists.intro _ (And.intro rfl ?_))
  | with_reducible refine And.intro rfl ?_
  | ((with_reducible show Wp _ _ _); first
    | ((with_reducible apply wp_name); (case q => rfl))
    | with_reducible refine wp_c ?_
    | with_reducible refine wp_bin ?_
    | with_reducible refine wp_acons ?_
    | with_reducible refine wp_anil ?_
    | with_reducible refine wp_call ?_
    | with_reducible refine wp_fn ?_
    | with_reducible refine wp_fnK ?_
    | with_reducible refine wp_ev ?_
    | with_reducible refine wp_em ?_
    | with_reducible refine wp_tup ?_
    | with_reducible refine wp_eb ?_
    | with_reducible refine wp_et ?_
    | with_reducible refine wp_un ?_
    | with_reducible refine wp_chain ?_
    | with_reducible refine wp_and ?_
    | with_reducible refine wp_or ?_
    | with_reducible refine wp_not ?_
    | with_reducible refine wp_andF ?_
    | with_reducible refine wp_orF ?_
    | with_reducible refine wp_notF ?_
    | with_reducible refine wp_yes ?_
    | with_reducible refine wp_if ?_
    | with_reducible refine wp_sl ?_
    | with_reducible refine wp_onone ?_
    | with_reducible refine wp_osome ?_
    | with_reducible refine wp_rev ?_
    | with_reducible refine wp_list ?_
    | with_reducible refine wp_mt ?_
    | with_reducible refine wp_any ?_
    | with_reducible refine wp_r1 ?_
    | with_reducible refine wp_r2 ?_
    | with_reducible refine wp_body ?_
    | with_reducible refine wp_d0t ?_
    | with_reducible refine wp_d0k ?_
    | with_reducible refine wp_d0 ?_
    | with_reducible refine wp_valsT ?_
    | with_reducible refine wp_d1 ?_
    | with_reducible refine wp_lAdd ?_
    | walk_at "P1"
    | walk_at "d1")
  | ((fail_if_success (with_reducible show Ws _ _)); (fail_if_success (with_reducible show Wp _ _ _)); show Ws _ _))
local macro_rules | `(tactic| walk_at "n") => `(tactic| repeat (walk_at "n1"))
local macro_rules | `(tactic| walk_at "nb") => `(tactic| repeat' (first | walk_at "n1" | walk_at "b1"))
local macro_rules | `(tactic| walk_at "c") => `(tactic| first
  | assumption
  | (refine closeB (by assumption) ?_; first | rfl | (simp_all; done) | (simp_all <;> omega)))
local macro_rules | `(tactic| walk_at "nc") => `(tactic| (walk_at "nb" <;> try walk_at "c"))
local macro_rules | `(tactic| walk_at "n1") => `(tactic| first
  | with_reducible refine wp_iOf ?_
  | with_reducible apply wp_some neT_tup
  | with_reducible refine ex_ent ?_
  | with_reducible refine ex_enl ?_
  | with_reducible refine ex_zpt ?_
  | with_reducible refine ex_zpl ?_)
local macro_rules | `(tactic| walk_at "q") => `(tactic| exact Int.natCast_pos.mpr (Nat.succ_pos _))
local macro_rules | `(tactic| walk_at "hg") => `(tactic| with_reducible exact St.k2 (by assumption))
local macro_rules | `(tactic| walk_at "n1") => `(tactic| first
  | with_reducible refine wp_mk ?_
  | with_reducible refine wp_mth ?_
  | with_reducible refine wp_eown ?_
  | with_reducible refine ws_fld ?_
  | with_reducible refine wp_js1 ?_
  | with_reducible refine wp_js0 ?_)
local macro_rules | `(tactic| walk_at "n1") => `(tactic| first
  | with_reducible refine wp_lRep ?_
  | with_reducible apply wp_some sk_zones
  | with_reducible apply wp_some sk_stretch
  | with_reducible apply wp_some sk_grade)
local macro_rules | `(tactic| walk_at "n1") => `(tactic| first
  | with_reducible refine wp_orT ?_
  | with_reducible refine wp_andT ?_
  | with_reducible apply wp_some neL_lst
  | with_reducible apply wp_some int_bl
  | with_reducible apply wp_some ne_ss)
local macro_rules | `(tactic| walk_at "tl") => `(tactic| repeat' (first | assumption | omega | exact Nat.le_of_ble_eq_true rfl | (with_reducible refine len_half ?_ ?_) | (with_reducible refine lit_half ?_) | (with_reducible refine cut_half ?_) | (with_reducible refine T_half ?_) | (simp only [List.length_append, List.length_cons, List.length_nil]; omega)))
local macro_rules | `(tactic| walk_at "n1") => `(tactic| first
  | with_reducible refine wp_disp ?_
  | with_reducible refine wp_pCons ?_
  | with_reducible refine wp_pNil ?_
  | with_reducible refine wp_isO2 ?_)

section
variable {h : Hs} {Q : D → Hs → Prop} {X : XQ} {T : Tk} {S F W : List Nat} {r l : Nat} {N : List (List Nat)} {R : Nat}
def prD (x : Nat) : D := .tup [.int (x : Nat), .bl true]
theorem pairs_S : ∀ xs : List Nat, pairsK (xs.map prD) = some (kS xs)
  | [] => rfl
  | x :: xs => by
    show (match pairK (prD x) with | some kv => (match pairsK (xs.map prD) with | some r => some (kv :: r) | none => none) | none => none) = _
    rw [pairs_S xs]; rfl
theorem mrg_S : ∀ (ys xs : List Nat), (xs ++ ys).Nodup → mrgG (kS xs) (kS ys) = kS (xs ++ ys)
  | [], xs, _ => by rw [List.append_nil]; rfl
  | y :: ys, xs, n => by
    show mrgG (putG (kS xs) (.inl (y : Int)) (.bl true)) (kS ys) = _
    have hy : y ∉ xs := fun z => (List.nodup_append.mp n).2.2 y z y List.mem_cons_self rfl
    rw [put_S hy, mrg_S ys (xs ++ [y]) (by rw [List.append_assoc]; exact n), List.append_assoc]; rfl
theorem mrg_S0 {xs : List Nat} (n : xs.Nodup) : mrgG [] (kS xs) = kS xs := mrg_S xs [] n
abbrev sD (S : List Nat) : D := .dlk ((kS S).map (·.1)) ((kS S).map (·.2))
theorem dictP_S {xs : List Nat} (n : xs.Nodup) : gDictP (xs.map prD) = some (sD xs) := by
  unfold gDictP
  rw [pairs_S]
  dsimp only
  rw [mrg_S0 n]
theorem at_sD : atD h (sD S) (.int (r : Nat)) = some (if r ∈ S then some (.bl true) else none) := by
  show some (valG (((kS S).map (·.1)).zip ((kS S).map (·.2))) (.inl (r : Int))) = _
  rw [zip_back, val_S]
theorem ni_sD : gNotInA h (.int (r : Nat)) (sD S) = some (.bl (!decide (r ∈ S))) := by
  unfold gNotInA inAB
  rw [at_sD]
  by_cases q : r ∈ S
  · rw [if_pos q, decide_eq_true q]; rfl
  · rw [if_neg q, decide_eq_false q]; rfl
theorem get_tD (q : lk T r = some l) : gDget h (tD T) (.int (r : Nat)) = some (.int (l : Nat)) := by
  unfold gDget
  show (match some (valG (((kT T).map (·.1)).zip ((kT T).map (·.2))) (.inl (r : Int))) with | some o => o | none => none) = _
  rw [zip_back, val_T, q]; rfl
theorem tD_vals : (kT T).map (·.2) = (T.map (·.2)).map fun x => D.int (x : Nat) := by
  unfold kT
  rw [List.map_map, List.map_map]; rfl
def nI (x : Nat) : D := .int (x : Nat)
abbrev zi (x : Nat) : Int := (x : Int)
theorem kS_keys : ((kS S).map fun kv => keyV kv.1) = S.map nI := by
  unfold kS
  rw [List.map_map]; rfl
theorem int_S : ∀ S : List Nat, intKeys (kS S) = some (S.map zi)
  | [] => rfl
  | x :: S => by
    show (intKeys (kS S)).map ((x : Int) :: ·) = _
    rw [int_S S]; rfl
theorem two0 {a b : O} : (h ++ [a, b])[h.length]? = some a := by simp
theorem two1 {a b : O} : (h ++ [a, b])[h.length + 1]? = some b := by simp
theorem twos0 {a b a' : O} : (h ++ [a, b]).set h.length a' = h ++ [a', b] := by simp
theorem twos1 {a b b' : O} : (h ++ [a, b]).set (h.length + 1) b' = h ++ [a, b'] := by
  rw [List.set_append_right _ _ (Nat.le_succ _), show h.length + 1 - h.length = 1 by omega]; rfl
theorem sortZ_nat : ∀ S : List Nat, ∃ xs : List Nat, sortZ (S.map zi) = xs.map zi ∧ xs.Perm S := by
  have ins : ∀ (x : Nat) (S : List Nat), ∃ xs : List Nat, insZ (x : Int) (S.map zi) = xs.map zi ∧ xs.Perm (x :: S) := by
    intro x S
    induction S with
    | nil => exact ⟨[x], rfl, .refl _⟩
    | cons y S ih =>
      obtain ⟨xs, e, p⟩ := ih
      show ∃ xs : List Nat, (if (y : Int) < x then (y : Int) :: insZ x (S.map zi) else (x : Int) :: (y : Int) :: S.map zi) = _ ∧ _
      by_cases q : (y : Int) < x
      · rw [if_pos q, e]
        exact ⟨y :: xs, rfl, (p.cons y).trans (.swap _ _ _)⟩
      · rw [if_neg q]
        exact ⟨x :: y :: S, rfl, .refl _⟩
  intro S
  induction S with
  | nil => exact ⟨[], rfl, .refl _⟩
  | cons x S ih =>
    obtain ⟨xs, e, p⟩ := ih
    obtain ⟨ys, e2, p2⟩ := ins x xs
    refine ⟨ys, ?_, p2.trans (p.cons x)⟩
    show insZ (x : Int) (sortZ (S.map zi)) = _
    rw [e, e2]
theorem wp_listD {e : Ev} {hs : Hs} {f : FE} {Q : List D → Hs → Prop} {X : XQ} (h : Wp (f e hs) (fun d h => ∃ kvs, dkR h d = some kvs ∧ Q (kvs.map fun kv => keyV kv.1) h) X) : Wp (lListD f e hs) Q X := by
  refine wp_bind (wp_mono h (fun d h' q => ?_) fun _ _ _ x => x)
  obtain ⟨kvs, e1, q⟩ := q
  rw [e1]
  exact wp_some rfl q
theorem wp_sortZ {e : Ev} {hs : Hs} {f : FE} {Q : List D → Hs → Prop} {X : XQ} (h : Wp (f e hs) (fun d h => ∃ ds, gSortZ h d = some ds ∧ Q ds h) X) : Wp (lSortZ f e hs) Q X := by
  refine wp_bind (wp_mono h (fun d h' q => ?_) fun _ _ _ x => x)
  obtain ⟨kvs, e1, q⟩ := q
  exact wp_some e1 q
theorem dkR_S {n : Nat} (e : h[n]? = some (.dk (kS S))) : dkR h (.ref n) = some (kS S) := by
  unfold dkR
  dsimp only
  rw [e]
theorem sort_S {n : Nat} (e : h[n]? = some (.dk (kS S))) (l : S.length ≤ 100000) : gSortZ h (.ref n) = some ((sortZ (S.map zi)).map D.int) := by
  unfold gSortZ
  rw [dkR_S e]
  dsimp only
  rw [int_S]
  dsimp only
  rw [if_pos (by rw [List.length_map]; exact l)]
/-- what is come to stands so -/
structure Cm (N : List (List Nat)) (T : Tk) (xs : List Nat) : Prop where
  nd : xs.Nodup
  bd : ∀ x ∈ xs, x < N.length
  un : ∀ x, x < N.length → x ∉ T.map (·.2) → x ∈ xs
  cl : ∀ y ∈ xs, ∀ r ∈ Nf N y, ∃ x ∈ xs, lk T r = some x
  by_ : ∀ x ∈ xs, x ∈ T.map (·.2) → ∃ y ∈ xs, ∃ r ∈ Nf N y, lk T r = some x
structure Cw (N : List (List Nat)) (T : Tk) (A : Nat → Prop) (F W : List Nat) : Prop where
  nd : F.Nodup
  bd : ∀ x ∈ F, x < N.length
  un : ∀ x, x < N.length → x ∉ T.map (·.2) → x ∈ F
  by_ : ∀ x ∈ F, x ∈ T.map (·.2) → ∃ y ∈ F, ∃ r ∈ Nf N y, lk T r = some x
  inA : ∀ x ∈ F, ∀ q ∈ Nf N x, A q
  sub : ∀ x ∈ W, x ∈ F
  wl : W.length + 2 * (N.length - F.length) ≤ 2 * N.length
theorem come_wp {A : Nat → Prop} (K : Km (Nf N) N.length T A) (hW : ∀ x, (Nf N x).length ≤ 1000) (lN : N.length ≤ 1000)
    (q : ∀ xs : List Nat, xs.Pairwise (· ≤ ·) → Cm N T xs → Q (.lst (xs.map nI)) h) : Wp (c_lefts_come_to [nD N, tD T] h) Q X := by
  unfold c_lefts_come_to f_lefts_come_to
  refine wp_gcF (wp_mono (Q := fun d h1 => ∃ xs t, d = .lst (xs.map nI) ∧ h1 = h ++ t ∧ xs.Pairwise (· ≤ ·) ∧ Cm N T xs) (X := fun _ _ _ => False) ?_ (fun d h1 z => ?_) fun _ _ _ x => x.elim)
  · refine wp_bodyE [some (nD N), some (tD T), none, none, none, none, none] rfl ?_
    refine ws_seq ?_
    refine ws_set ?_
    refine wp_dictP ?_
    refine wp_cmap (fun d => .tup [d, .bl true]) ?_
    refine wp_valsF ?_
    walk_at "n"
    have lT : T.length ≤ N.length := by
      have := nd_len K.vd K.vb
      rw [List.length_map] at this
      exact this
    refine ⟨?_, fun d hd => ?_, ?_⟩
    · unfold kT
      rw [List.length_map, List.length_map]
      omega
    · refine ⟨_, rfl, ?_⟩
      walk_at "n"
      rfl
    have e1 : (List.map (fun d => D.tup [d, .bl true]) ((kT T).map (·.2))) = (T.map (·.2)).map prD := by
      rw [tD_vals, List.map_map]; rfl
    rw [e1]
    refine wp_some (dictP_S K.vd) ?_
    walk_at "n"
    refine wp_dictPM ?_
    refine wp_comp ?_
    walk_at "n"
    have ln : gLen h [nD N] = some (.int N.length) := by
      refine (len_seq (show seqOf _ (nD N) = some (N.map rowD) from rfl)).trans ?_
      rw [List.length_map]
    refine wp_some ln ?_
    refine wp_anil ?_
    refine ⟨_, rfl, okR_in (by omega) (by omega), N.length, fun i acc g => g = h ∧ acc = ((List.range i).filter fun x => !decide (x ∈ T.map (·.2))).map prD, by omega, ⟨rfl, rfl⟩, ?_, ?_⟩
    · rintro i acc g hi ⟨rfl, rfl⟩
      refine ⟨_, _, nxN_some (by omega), rfl, ?_⟩
      walk_at "n"
      rw [Int.zero_add]
      refine wp_some ni_sD ?_
      walk_at "n"
      have er : (List.range (i + 1)).filter (fun x => !decide (x ∈ T.map (·.2))) = (List.range i).filter (fun x => !decide (x ∈ T.map (·.2))) ++ (if i ∈ T.map (·.2) then [] else [i]) := by
        rw [List.range_succ, List.filter_append]
        by_cases q : i ∈ T.map (·.2)
        · rw [if_pos q, List.filter_cons, if_neg (by simp [q])]; rfl
        · rw [if_neg q, List.filter_cons, if_pos (by simp [q])]; rfl
      refine ⟨fun ee => ⟨lt_line (by
        rw [List.length_map]
        exact Nat.le_trans (List.length_filter_le _ _) (by rw [List.length_range]; omega)), ?_⟩, fun ee => ?_⟩
      · have q : i ∉ T.map (·.2) := by simpa using ee
        walk_at "n"
        rw [er, if_neg q, List.map_append]
        rfl
      · have q : i ∈ T.map (·.2) := by simpa using ee
        exact ⟨rfl, by rw [er, if_pos q, List.append_nil]⟩
    rintro acc g ⟨rfl, rfl⟩
    refine ⟨nxN_stop, _, pairs_S _, ?_⟩
    generalize hF : (List.range N.length).filter (fun x => !decide (x ∈ T.map (·.2))) = F0
    have nF : F0.Nodup := by subst hF; exact List.nodup_range.filter _
    have mF : ∀ x, x ∈ F0 ↔ x < N.length ∧ x ∉ T.map (·.2) := fun x => by subst hF; simp
    rw [mrg_S0 nF]
    walk_at "n"
    refine wp_listD ?_
    walk_at "n"
    refine ⟨_, dkR_S get_new, ?_⟩
    have hl : (g ++ [O.dk (kS F0)]).length = g.length + 1 := by simp
    rw [hl, List.append_assoc, kS_keys]
    show Ws (sSeq _ _ [some (nD N), some (tD T), some (sD (T.map (·.2))), some (.ref g.length), some (.ref (g.length + 1)), none, none] (g ++ [O.dk (kS F0), O.lst (F0.map nI)])) _
    have lF : F0.length ≤ N.length := nd_len nF fun x hx => ((mF x).mp hx).1
    have C0 : Cw N T A F0 F0 := ⟨nF, fun x hx => ((mF x).mp hx).1, fun x a b => (mF x).mpr ⟨a, b⟩, fun x hx z => absurd z ((mF x).mp hx).2, fun x hx => K.un x ((mF x).mp hx).1 ((mF x).mp hx).2, fun _ h => h, by omega⟩
    refine ws_seq ?_
    refine ws_while (2 * (N.length - F0.length) + F0.length) (fun m e k => ∃ F W x5 x6, k = g ++ [O.dk (kS F), O.lst (W.map nI)] ∧ m = 2 * (N.length - F.length) + W.length ∧ Cw N T A F W ∧ (∀ y ∈ F, y ∉ W → ∀ r ∈ Nf N y, ∃ x ∈ F, lk T r = some x) ∧
      e = [some (nD N), some (tD T), some (sD (T.map (·.2))), some (.ref g.length), some (.ref (g.length + 1)), x5, x6]) (by omega) ⟨F0, F0, _, _, rfl, rfl, C0, fun y h1 h2 => absurd h1 h2, rfl⟩ ?_
    rintro m _ k ⟨F, W, x5, x6, rfl, rfl, C, cl, rfl⟩
    walk_at "n"
    refine wp_some (neL_ref two1) ?_
    walk_at "n"
    refine ⟨fun ee => ?_, fun ee => ?_⟩
    · have hW0 : W ≠ [] := fun z => by rw [z] at ee; cases ee
      obtain ⟨W0, y, rfl⟩ : ∃ W0 y, W = W0 ++ [y] := ⟨W.dropLast, W.getLast hW0, (List.dropLast_concat_getLast hW0).symm⟩
      have hyF : y ∈ F := C.sub y (List.mem_append_right _ (List.mem_singleton.mpr rfl))
      have hyN := C.bd y hyF
      refine ws_for ?_
      walk_at "n"
      refine ⟨isL_ref two1, wp_anil ?_⟩
      have hp : ((W0 ++ [y]).map nI)[((W0 ++ [y]).map nI).length - 1]? = some (nI y) := by simp
      refine wp_someP (pop_ref two1 hp) ?_
      have hdl : ((W0 ++ [y]).map nI).dropLast = W0.map nI := by simp
      rw [hdl, twos1]
      refine wp_some (row_at hyN) ?_
      have lF2 : F.length ≤ N.length := nd_len C.nd C.bd
      have wl := C.wl
      rw [List.length_append, List.length_singleton] at wl
      refine ⟨_, rfl, (Nf N y).length, fun i e k => ∃ F1 W1 x5 x6, k = g ++ [O.dk (kS F1), O.lst (W1.map nI)] ∧ 2 * (N.length - F1.length) + W1.length ≤ 2 * (N.length - F.length) + W0.length ∧ Cw N T A F1 W1 ∧ (∀ x ∈ F, x ∈ F1) ∧
        (∀ z ∈ F1, z ≠ y → z ∉ W1 → ∀ r ∈ Nf N z, ∃ x ∈ F1, lk T r = some x) ∧ (∀ r ∈ (Nf N y).take i, ∃ x ∈ F1, lk T r = some x) ∧
        e = [some (nD N), some (tD T), some (sD (T.map (·.2))), some (.ref g.length), some (.ref (g.length + 1)), x5, x6], Nat.le_trans (hW y) (by decide),
        ⟨F, W0, _, _, rfl, Nat.le_refl _, ⟨C.nd, C.bd, C.un, C.by_, C.inA, fun x hx => C.sub x (List.mem_append_left _ hx), by omega⟩, fun _ h => h, fun z h1 h2 h3 => cl z h1 fun w => (List.mem_append.mp w).elim h3 fun w => h2 (List.mem_singleton.mp w), nofun, rfl⟩, ?_, ?_⟩
      · rintro i _ k hi ⟨F1, W1, x5, x6, rfl, me, C1, sub, cl1, cly, rfl⟩
        obtain ⟨r, hr⟩ : ∃ r, r = (Nf N y)[i] := ⟨_, rfl⟩
        have hrN : r ∈ Nf N y := by rw [hr]; exact List.getElem_mem hi
        have tk : (Nf N y).take (i + 1) = (Nf N y).take i ++ [r] := by rw [hr]; exact List.take_succ_eq_append_getElem hi
        obtain ⟨x, hx, hxA⟩ := K.cl r (C.inA y hyF r hrN)
        have lF1 : F1.length ≤ N.length := nd_len C1.nd C1.bd
        refine ⟨.int (r : Nat), _, ?_, rfl, ?_⟩
        · unfold nxL
          rw [List.getElem?_map, List.getElem?_eq_getElem hi, ← hr]; rfl
        walk_at "n"
        refine wp_some (get_tD hx) ?_
        walk_at "n"
        refine wp_some (ni_S two0) ?_
        walk_at "n"
        refine ⟨fun ee => ?_, fun ee => ?_⟩
        · have nx : x ∉ F1 := by simpa using ee
          have xN : x < N.length := K.vb x (List.mem_map.mpr ⟨(r, x), lk_mem hx, rfl⟩)
          walk_at "n"
          refine ⟨_, set_S two0 nx (by omega), ?_⟩
          rw [twos0]
          walk_at "n"
          refine ⟨isL_ref two1, ?_⟩
          walk_at "n"
          refine wp_someP (app_ref two1 (by rw [List.length_map, sizeLine_eq]; have := C1.wl; omega)) ?_
          have e2 : W1.map nI ++ [D.int (x : Nat)] = (W1 ++ [x]).map nI := by rw [List.map_append]; rfl
          rw [e2, twos1]
          have lF3 : (F1 ++ [x]).length ≤ N.length := nd_len (snoc_nd C1.nd nx) fun z hz => (List.mem_append.mp hz).elim (C1.bd z) fun w => by rw [List.mem_singleton.mp w]; exact xN
          have wl1 := C1.wl
          rw [List.length_append, List.length_singleton] at lF3
          refine ⟨F1 ++ [x], W1 ++ [x], _, _, rfl, by simp only [List.length_append, List.length_singleton]; omega, ⟨snoc_nd C1.nd nx, fun z hz => ?_, fun z h1 h2 => List.mem_append_left _ (C1.un z h1 h2), fun z hz hz2 => ?_, fun z hz q hq => ?_, fun z hz => ?_, by simp only [List.length_append, List.length_singleton]; omega⟩,
            fun z hz => List.mem_append_left _ (sub z hz), fun z hz ne hw p hp => ?_, fun p hp => ?_, rfl⟩
          · rcases List.mem_append.mp hz with hz | hz
            · exact C1.bd z hz
            · rw [List.mem_singleton.mp hz]; exact xN
          · rcases List.mem_append.mp hz with hz | hz
            · obtain ⟨y2, h1, r2, h2, h3⟩ := C1.by_ z hz hz2
              exact ⟨y2, List.mem_append_left _ h1, r2, h2, h3⟩
            · rw [List.mem_singleton.mp hz]
              exact ⟨y, List.mem_append_left _ (sub y hyF), r, hrN, hx⟩
          · rcases List.mem_append.mp hz with hz | hz
            · exact C1.inA z hz q hq
            · rw [List.mem_singleton.mp hz] at hq; exact hxA q hq
          · rcases List.mem_append.mp hz with hz | hz
            · exact List.mem_append_left _ (C1.sub z hz)
            · exact List.mem_append_right _ hz
          · rcases List.mem_append.mp hz with hz | hz
            · obtain ⟨x2, h1, h2⟩ := cl1 z hz ne (fun w => hw (List.mem_append_left _ w)) p hp
              exact ⟨x2, List.mem_append_left _ h1, h2⟩
            · exact absurd (List.mem_append_right _ hz) hw
          · rw [tk] at hp
            rcases List.mem_append.mp hp with hp | hp
            · obtain ⟨x2, h1, h2⟩ := cly p hp
              exact ⟨x2, List.mem_append_left _ h1, h2⟩
            · rw [List.mem_singleton.mp hp]; exact ⟨x, List.mem_append_right _ (List.mem_singleton.mpr rfl), hx⟩
        · have nx : x ∈ F1 := by simpa using ee
          walk_at "n"
          refine ⟨F1, W1, _, _, rfl, me, C1, sub, cl1, fun q hq => ?_, rfl⟩
          rw [tk] at hq
          rcases List.mem_append.mp hq with hq | hq
          · exact cly q hq
          · rw [List.mem_singleton.mp hq]; exact ⟨x, nx, hx⟩
      · rintro _ k ⟨F1, W1, x5, x6, rfl, me, C1, sub, cl1, cly, rfl⟩
        refine ⟨by unfold nxL; rw [List.getElem?_eq_none (by rw [List.length_map]; exact Nat.le_refl _)], ?_⟩
        rw [List.take_length] at cly
        walk_at "n"
        refine ⟨_, ?_, F1, W1, _, _, rfl, rfl, C1, fun z h1 h2 r hr => ?_, rfl⟩
        · rw [List.length_append, List.length_singleton]; omega
        · by_cases e : z = y
          · subst e; exact cly r hr
          · exact cl1 z h1 e h2 r hr
    · have hW0 : W = [] := by
        cases W with
        | nil => rfl
        | cons => cases ee
      subst hW0
      walk_at "n"
      refine wp_sortZ ?_
      walk_at "n"
      have lF2 : F.length ≤ N.length := nd_len C.nd C.bd
      refine ⟨_, sort_S two0 (by omega), ?_⟩
      obtain ⟨xs, e2, p2⟩ := sortZ_nat F
      have pw := sortZ_pw (F.map zi)
      rw [e2] at pw ⊢
      have pw2 : xs.Pairwise (· ≤ ·) := (List.pairwise_map.mp pw).imp fun h => Int.ofNat_le.mp h
      have e3 : (xs.map zi).map D.int = xs.map nI := by rw [List.map_map]; rfl
      rw [e3]
      refine ⟨xs, _, rfl, rfl, pw2, ?_⟩
      exact ⟨p2.nodup_iff.mpr C.nd, fun x hx => C.bd x (p2.subset hx), fun x a b => p2.symm.subset (C.un x a b), fun y hy r hr => by
        obtain ⟨x, h1, h2⟩ := cl y (p2.subset hy) (List.not_mem_nil) r hr
        exact ⟨x, p2.symm.subset h1, h2⟩, fun x hx z => by
        obtain ⟨y, h1, r, h2, h3⟩ := C.by_ x (p2.subset hx) z
        exact ⟨y, p2.symm.subset h1, r, h2, h3⟩⟩
  · obtain ⟨xs, t, rfl, rfl, pw, C⟩ := z
    refine ⟨.lst (xs.map nI), dW_val (vals_all fun x hx => by obtain ⟨y, _, rfl⟩ := List.mem_map.mp hx; rfl), cls_app, ?_⟩
    rw [take_app]
    exact q xs pw C
end
end MT

/-! # G80: the program's matched, of a Lot -/
namespace G
open PySem PySem.Spec PyProof.Rows L2
section
variable {e : Ev} {hs : Hs} {X : XQ} {α : Type}
/-- a comprehension over things of one kind: those of which p is true, each as F says -/
theorem wp_cga {f : FI} {g : FG} {t : FT} {el : FE} {vs : List Nat} {Q : List D → Hs → Prop} (i : α → D) (p : α → Bool) (F : α → D) (h : Wp (f e hs) (fun nx h => ∃ xs : List α, nx = nxL (xs.map i) ∧ xs.length ≤ 100000 ∧
    (∀ a ∈ xs, ∃ e', g (i a) (wipeE e vs) = some e' ∧ Wp (t e' h) (fun c h1 => h1 = h ∧ c = p a ∧ (c = true → Wp (el e' h) (fun y h' => y = F a ∧ h' = h) nX)) nX) ∧ Q ((xs.filter p).map F) h) X) : Wp (lComp f g t el vs e hs) Q X := by
  refine wp_comp (wp_mono h (fun nx h' q => ?_) fun _ _ _ x => x)
  obtain ⟨xs, rfl, hl, hd, q⟩ := q
  refine ⟨xs.length, fun i acc h => h = h' ∧ acc = ((xs.take i).filter p).map F, hl, ⟨rfl, rfl⟩, fun i acc h hi ⟨e1, e2⟩ => ?_, fun acc h ⟨e1, e2⟩ => ?_⟩
  · subst e1 e2
    obtain ⟨e', h1, h2⟩ := hd xs[i] (List.getElem_mem hi)
    refine ⟨_, e', ?_, h1, wp_mono h2 (fun c h3 ⟨z1, z2, z3⟩ => ?_) fun _ _ _ x => x⟩
    · unfold nxL
      rw [List.getElem?_map, List.getElem?_eq_getElem hi]; rfl
    subst z1
    have ht : xs.take (i + 1) = xs.take i ++ [xs[i]] := List.take_succ_eq_append_getElem hi
    have hl2 : (((xs.take i).filter p).map F).length ≤ i := by
      rw [List.length_map]
      exact Nat.le_trans (List.length_filter_le _ _) (by rw [List.length_take]; omega)
    refine ⟨fun hc => ⟨by rw [sizeLine_eq]; omega, wp_mono (z3 hc) (fun y h4 ⟨r, z4⟩ => ⟨z4, ?_⟩) fun _ _ _ x => x⟩, fun hc => ⟨rfl, ?_⟩⟩
    · rw [ht, List.filter_append, List.map_append, r]
      congr 1
      rw [List.filter_cons_of_pos (by rw [← z2]; exact hc)]; rfl
    · rw [ht, List.filter_append, List.filter_cons_of_neg (by rw [← z2, hc]; exact Bool.false_ne_true), List.filter_nil, List.append_nil]
  · subst e1 e2
    rw [List.take_length]
    exact ⟨by unfold nxL; rw [List.getElem?_eq_none (by rw [List.length_map]; exact Nat.le_refl _)], q⟩
theorem wp_cma {f : FI} {g : FG} {el : FE} {vs : List Nat} {Q : List D → Hs → Prop} (i : α → D) (F : α → D) (h : Wp (f e hs) (fun nx h => ∃ xs : List α, nx = nxL (xs.map i) ∧ xs.length ≤ 100000 ∧
    (∀ a ∈ xs, ∃ e', g (i a) (wipeE e vs) = some e' ∧ Wp (el e' h) (fun y h' => y = F a ∧ h' = h) nX) ∧ Q (xs.map F) h) X) : Wp (lComp f g tYesF el vs e hs) Q X := by
  refine wp_cga i (fun _ => true) F (wp_mono h (fun nx h' q => ?_) fun _ _ _ x => x)
  obtain ⟨xs, rfl, hl, hd, q⟩ := q
  refine ⟨xs, rfl, hl, fun a ha => ?_, by rw [List.filter_eq_self.mpr fun _ _ => rfl]; exact q⟩
  obtain ⟨e', h1, h2⟩ := hd a ha
  exact ⟨e', h1, wp_yes ⟨rfl, rfl, fun _ => h2⟩⟩
theorem perm_map {β : Type} {f : α → β} {l : List β} {m : List α} (h : l.Perm (m.map f)) : ∃ m' : List α, m'.Perm m ∧ l = m'.map f := by
  generalize e : m.map f = k at h
  induction h generalizing m with
  | nil =>
    cases m with
    | nil => exact ⟨[], .refl _, rfl⟩
    | cons => cases e
  | @cons x l1 l2 p ih =>
    cases m with
    | nil => cases e
    | cons a m =>
      injection e with e1 e2
      obtain ⟨m', h1, h2⟩ := ih e2
      exact ⟨a :: m', h1.cons a, by rw [List.map_cons, h2, e1]⟩
  | swap x y l =>
    cases m with
    | nil => cases e
    | cons a m =>
      cases m with
      | nil => cases e
      | cons b m =>
        injection e with e1 e2
        injection e2 with e2 e3
        exact ⟨b :: a :: m, .swap _ _ _, by rw [List.map_cons, List.map_cons, e1, e2, e3]⟩
  | trans p q ih1 ih2 =>
    obtain ⟨m2, h1, h2⟩ := ih2 e
    obtain ⟨m1, h3, h4⟩ := ih1 h2.symm
    exact ⟨m1, h3.trans h1, h4⟩
theorem enumL_map (F : α → D) (xs : List α) : enumL (xs.map F) = xs.zipIdx.map fun p => D.tup [.int (p.2 : Nat), F p.1] := by
  apply List.ext_getElem?
  intro i
  rw [enumL_at, List.getElem?_map, List.getElem?_map, List.getElem?_zipIdx]
  cases xs[i]? with
  | none => rfl
  | some x =>
    show some _ = some _
    rw [Nat.zero_add]
end
/-! ### both sides -/
def sideG (s : List Nat) (gs : List Gv) : List Gv := (sortG gs).filter fun g => T g.sd == T s
def idxs (p : Gv → Bool) (B : List Gv) : List Nat := (B.zipIdx.filter fun x => p x.1).map (·.2)
def nearG (A B : List Gv) : List (List Nat) := A.map fun a => idxs (mtG a) B
def gvA (L : List Gv) (i : Nat) : Gv := L.getD i ⟨0, 0, [], [], 0, 0, 0⟩
theorem mem_idxs {p : Gv → Bool} {B : List Gv} {r : Nat} : r ∈ idxs p B ↔ r < B.length ∧ p (gvA B r) = true := by
  unfold idxs gvA
  rw [List.mem_map]
  constructor
  · rintro ⟨⟨b, i⟩, h, rfl⟩
    obtain ⟨h1, h2⟩ := List.mem_filter.mp h
    have h3 := List.mem_zipIdx' h1
    obtain ⟨h4, h5⟩ := h3
    refine ⟨h4, ?_⟩
    rw [List.getD_eq_getElem?_getD, List.getElem?_eq_getElem h4]
    dsimp only at h2 h5
    rw [h5] at h2
    exact h2
  · rintro ⟨h1, h2⟩
    rw [List.getD_eq_getElem?_getD, List.getElem?_eq_getElem h1] at h2
    exact ⟨(B[r], r), List.mem_filter.mpr ⟨List.mk_mem_zipIdx_iff_getElem?.mpr (List.getElem?_eq_getElem h1), h2⟩, rfl⟩
theorem idxs_len {p : Gv → Bool} {B : List Gv} : (idxs p B).length ≤ B.length := by
  unfold idxs
  rw [List.length_map]
  exact Nat.le_trans (List.length_filter_le _ _) (by rw [List.length_zipIdx]; exact Nat.le_refl _)
theorem near_at {A B : List Gv} {x r : Nat} : r ∈ MT.Nf (nearG A B) x ↔ x < A.length ∧ r < B.length ∧ mtG (gvA A x) (gvA B r) = true := by
  unfold MT.Nf nearG
  rw [List.getD_eq_getElem?_getD, List.getElem?_map]
  rcases Nat.lt_or_ge x A.length with h | h
  · rw [List.getElem?_eq_getElem h]
    show r ∈ idxs (mtG A[x]) B ↔ _
    have e : gvA A x = A[x] := by unfold gvA; rw [List.getD_eq_getElem?_getD, List.getElem?_eq_getElem h]; rfl
    rw [mem_idxs, e]
    exact ⟨fun z => ⟨h, z⟩, fun z => z.2⟩
  · rw [List.getElem?_eq_none h]
    exact Iff.intro (fun z => absurd (show r ∈ ([] : List Nat) from z) List.not_mem_nil) (fun z => absurd z.1 (by omega))
theorem near_len {A B : List Gv} : (nearG A B).length = A.length := List.length_map _
theorem near_w {A B : List Gv} (x : Nat) : (MT.Nf (nearG A B) x).length ≤ B.length := by
  unfold MT.Nf nearG
  rw [List.getD_eq_getElem?_getD, List.getElem?_map]
  cases A[x]? with
  | none => exact Nat.zero_le _
  | some a => exact idxs_len
theorem gvA_mem {L : List Gv} {i : Nat} (h : i < L.length) : gvA L i ∈ L := by
  unfold gvA
  rw [List.getD_eq_getElem?_getD, List.getElem?_eq_getElem h]
  exact List.getElem_mem h
section
variable {h : Hs} {Q : D → Hs → Prop} {X : XQ} {gs A B : List Gv}
local macro_rules | `(tactic| walk_at "s1") => `(tactic| first
  | ((with_reducible apply wp_name); (case q => rfl))
  | with_reducible refine wp_c ?_
  | with_reducible refine wp_bin ?_
  | with_reducible refine wp_acons ?_
  | with_reducible refine wp_anil ?_
  | with_reducible refine wp_call ?_
  | with_reducible refine wp_fn ?_
  | with_reducible refine wp_fnK ?_
  | with_reducible refine wp_ev ?_
  | with_reducible refine wp_em ?_
  | with_reducible refine wp_tup ?_
  | with_reducible refine wp_eb ?_
  | with_reducible refine wp_et ?_
  | with_reducible refine wp_un ?_
  | with_reducible refine wp_chain ?_
  | with_reducible refine wp_and ?_
  | with_reducible refine wp_or ?_
  | with_reducible refine wp_not ?_
  | with_reducible refine wp_andF ?_
  | with_reducible refine wp_orF ?_
  | with_reducible refine wp_notF ?_
  | with_reducible refine wp_yes ?_
  | with_reducible refine wp_if ?_
  | with_reducible refine wp_sl ?_
  | with_reducible refine wp_onone ?_
  | with_reducible refine wp_osome ?_
  | with_reducible refine wp_rev ?_
  | with_reducible refine wp_list ?_
  | with_reducible refine wp_mt ?_
  | with_reducible refine wp_any ?_
  | with_reducible refine wp_r1 ?_
  | with_reducible refine wp_r2 ?_
  | with_reducible refine ws_seq ?_
  | with_reducible refine ws_set ?_
  | with_reducible refine ws_setC ?_
  | with_reducible refine ws_setCM ?_
  | with_reducible refine ws_if ?_
  | with_reducible refine ws_ret ?_
  | with_reducible refine ws_retN ?_
  | with_reducible refine ws_drop ?_
  | with_reducible refine ws_skip ?_
  | with_reducible refine ws_asg ?_
  | with_reducible refine ws_par ?_
  | with_reducible refine ws_sub ?_
  | with_reducible refine wp_body ?_)
local macro_rules | `(tactic| walk_at "s") => `(tactic| repeat (walk_at "s1"))
local macro_rules | `(tactic| walk_at "q") => `(tactic| first | assumption | decide | omega | rfl)
local macro_rules | `(tactic| walk_at "e1") => `(tactic| first
  | with_reducible refine wp_some add_i ?_
  | with_reducible refine wp_some sub_i ?_
  | with_reducible refine wp_some lt_i ?_
  | with_reducible refine wp_some le_i ?_
  | with_reducible refine wp_some gt_i ?_
  | with_reducible refine wp_some ge_i ?_
  | with_reducible refine wp_some eq_i ?_
  | with_reducible refine wp_some ne_i ?_
  | with_reducible refine wp_some eq_b ?_
  | with_reducible refine wp_some max_i ?_
  | with_reducible refine wp_some min_i ?_
  | with_reducible refine wp_some tup_tup ?_
  | with_reducible refine wp_some tup_lst ?_
  | with_reducible refine wp_some len_tup ?_
  | with_reducible refine wp_some len_lst ?_
  | with_reducible refine wp_some sl_tup ?_
  | with_reducible refine wp_some sl_lst ?_
  | with_reducible refine wp_some tru_b ?_
  | with_reducible refine wp_some repr_b ?_
  | with_reducible refine wp_eq_sb ?_
  | with_reducible refine wp_some seq_lst ?_
  | with_reducible refine wp_some seq_tup ?_
  | ((with_reducible apply wp_ix_tup); (case q => rfl))
  | ((with_reducible apply wp_ix_lst); (case q => rfl))
  | ((with_reducible apply wp_ix_ref); (case p => assumption); (case q => rfl))
  | with_reducible refine wp_some eq_s ?_
  | ((with_reducible refine wp_some (mod_int ?q) ?_); (case q => walk_at "q"))
  | ((with_reducible refine wp_some (div_int ?p ?q) ?_); (case p => walk_at "q"); (case q => walk_at "q"))
  | ((with_reducible refine wp_some (mul_int ?q) ?_); (case q => walk_at "q"))
  | ((with_reducible refine wp_some (add_tup ?q) ?_); (case q => first | omega | exact Nat.le_of_ble_eq_true rfl | (simp; done) | (simp; omega)))
  | ((with_reducible refine wp_some (add_lst ?q) ?_); (case q => first | omega | exact Nat.le_of_ble_eq_true rfl | (simp; done) | (simp; omega)))
  | with_reducible refine Exists.intro _ (And.intro rfl ?_)
  | with_reducible refine Exists.intro _ (Exists.intro _ (And.intro rfl ?_)))
local macro_rules | `(tactic| walk_at "g") => `(tactic| repeat (first | walk_at "s1" | walk_at "e1"))
local macro_rules | `(tactic| walk_at "h1") => `(tactic| first
  | with_reducible refine wp_some ne_b ?_
  | with_reducible refine wp_ne_sb ?_
  | with_reducible refine wp_d0t ?_
  | with_reducible refine wp_d0k ?_
  | with_reducible refine wp_d0 ?_
  | with_reducible refine wp_valsT ?_
  | with_reducible refine wp_some ne_s ?_
  | with_reducible refine wp_some reprA_b ?_
  | with_reducible refine wp_d1 ?_
  | with_reducible refine wp_some isi_non ?_
  | with_reducible refine wp_some isi_bl ?_
  | with_reducible refine wp_some isi_int ?_
  | with_reducible refine wp_some isi_str ?_
  | with_reducible refine wp_some isi_tup ?_
  | with_reducible refine wp_some isi_lst ?_
  | with_reducible refine wp_some isi_dct ?_)
local macro_rules | `(tactic| walk_at "k") => `(tactic| repeat (first | walk_at "s1" | walk_at "e1" | walk_at "h1"))
local macro_rules | `(tactic| walk_at "p") => `(tactic| first | assumption | (constructor; done) | exact pln_of (by assumption) | exact Sm.pln (by assumption))
local macro_rules | `(tactic| walk_at "b1") => `(tactic| first
  | exact nof
  | exact tnof
  | (refine And.intro ?_ tnof; intro _)
  | (refine And.intro nof ?_; intro _)
  | (refine And.intro ?_ ?_ <;> intro _))
local macro_rules | `(tactic| walk_at "P1") => `(tactic| first
  | ((with_reducible show Wp (c_is_whole _ _) _ _); refine wp_of (whole_eq ?p) ?_; (case p => walk_at "p"))
  | ((with_reducible show Wp (c_is_between _ _) _ _); refine wp_of (between_eq ?p) ?_; (case p => walk_at "p")))
local macro_rules | `(tactic| walk_at "b") => `(tactic| repeat' (first | walk_at "s1" | walk_at "e1" | walk_at "h1" | walk_at "P1" | walk_at "b1"))
local macro_rules | `(tactic| walk_at "z") => `(tactic| first
  | exact (show _ ∧ _ from ⟨rfl, rfl⟩)
  | (refine (show _ ∧ _ from ⟨?_, rfl⟩); first | (simp_all; done) | (simp_all <;> omega)))
local macro_rules | `(tactic| walk_at "bz") => `(tactic| (walk_at "b" <;> try walk_at "z"))
local macro_rules | `(tactic| walk_at "P1") => `(tactic| first
  | ((with_reducible show Wp (c_is_size _ _) _ _); refine wp_of (size_eq ?p) ?_; (case p => walk_at "p"))
  | ((with_reducible show Wp (c_is_moment _ _) _ _); refine wp_of (moment_eq ?p) ?_; (case p => walk_at "p"))
  | ((with_reducible show Wp (c_is_side _ _) _ _); refine wp_of (side_eq ?p) ?_; (case p => walk_at "p"))
  | ((with_reducible show Wp (c_is_grade _ _) _ _); refine wp_of (grade_eq ?p) ?_; (case p => walk_at "p"))
  | ((with_reducible show Wp (c_is_name _ _) _ _); refine wp_of (name_eq ?p ?q) ?_; (case p => walk_at "p"); (case q => first | assumption | omega))
  | ((with_reducible show Wp (c_is_ident _ _) _ _); refine wp_of (ident_eq ?p) ?_; (case p => assumption))
  | ((with_reducible show Wp (c_is_glove _ _) _ _); refine wp_of (glove_eq ?p ?q) ?_; (case p => assumption); (case q => first | assumption | omega)))
local macro_rules | `(tactic| walk_at "d1") => `(tactic| first
  | ((with_reducible show Wp (c_draw _ _) _ _); refine' dr ?s ?k ?a ?b ?_; (case s => assumption); (case k => assumption); (case a => first | decide | omega); (case b => first | decide | omega); intro _ _ _ _ _))
local macro_rules | `(tactic| walk_at "d") => `(tactic| repeat (first | walk_at "s1" | walk_at "e1" | walk_at "h1" | walk_at "P1" | walk_at "d1"))
local macro_rules | `(tactic| walk_at "db") => `(tactic| repeat' (first | walk_at "s1" | walk_at "e1" | walk_at "h1" | walk_at "P1" | walk_at "d1" | walk_at "b1"))
local macro_rules | `(tactic| walk_at "tl") => `(tactic| repeat' (first | assumption | omega | decide | (with_reducible refine len_half ?_ ?_) | (with_reducible refine lit_half ?_) | (with_reducible refine cut_half ?_) | (with_reducible refine T_half ?_)))
local macro_rules | `(tactic| walk_at "t1") => `(tactic| first
  | ((with_reducible refine wp_some (add_str ?q ?r) ?_); (case q => walk_at "tl"); (case r => walk_at "tl"))
  | ((with_reducible refine wp_some (sl_str ?q) ?_); (case q => walk_at "tl"))
  | ((with_reducible refine wp_some (len_str ?q) ?_); (case q => walk_at "tl"))
  | ((with_reducible refine wp_someP (upper_str ?q) ?_); (case q => walk_at "tl"))
  | ((with_reducible refine wp_some (str_int ?q) ?_); (case q => first | assumption | omega))
  | with_reducible refine wp_some rev_tup ?_
  | with_reducible refine wp_some rev_lst ?_
  | with_reducible refine wp_some is_bl ?_
  | with_reducible refine wp_some isN_bl ?_
  | with_reducible refine wp_some neg_i ?_
  | with_reducible refine wp_lAdd ?_
  | with_reducible refine And.intro rfl ?_)
local macro_rules | `(tactic| walk_at "d") => `(tactic| repeat (first | walk_at "s1" | walk_at "e1" | walk_at "h1" | walk_at "t1" | walk_at "P1" | walk_at "d1"))
local macro_rules | `(tactic| walk_at "db") => `(tactic| repeat' (first | walk_at "s1" | walk_at "e1" | walk_at "h1" | walk_at "t1" | walk_at "P1" | walk_at "d1" | walk_at "b1"))
local macro_rules | `(tactic| walk_at "dz") => `(tactic| (walk_at "db" <;> try walk_at "z"))
local macro_rules | `(tactic| walk_at "hg") => `(tactic| first | assumption | exact get_new | (refine get_app ?_; walk_at "hg") | (refine' get_set_eq ?e; (case e => walk_at "hg")) | (refine (get_set_ne ?_).trans ?_; (first | omega | (simp only [List.length_append, List.length_set, List.length_cons, List.length_nil]; omega)); walk_at "hg"))
local macro_rules | `(tactic| walk_at "st") => `(tactic| repeat' (first | assumption | (with_reducible refine St.wapp ?_ ?_) | (with_reducible refine St.wset ?_ ?_ ?_ ?_) | (simp only [List.length_append, List.length_set, List.length_cons, List.length_nil]; omega) | omega))
local macro_rules | `(tactic| walk_at "ll") => `(tactic| repeat' (first | assumption | omega | exact Nat.le_of_ble_eq_true rfl | (with_reducible refine app_half ?_ ?_) | (with_reducible refine cutL_half ?_) | (with_reducible refine rev_half ?_) | (with_reducible refine map_half ?_) | (with_reducible refine cons_half ?_ ?_)))
local macro_rules | `(tactic| walk_at "n1") => `(tactic| first
  | ((with_reducible show Wp (R.ofO _ _) _ _); first
    | with_reducible apply wp_some eq_same
    | with_reducible apply wp_some ne_same
    | with_reducible apply wp_some add_i
    | with_reducible apply wp_some sub_i
    | with_reducible apply wp_some lt_i
    | with_reducible apply wp_some le_i
    | with_reducible apply wp_some gt_i
    | with_reducible apply wp_some ge_i
    | with_reducible apply wp_some eq_i
    | with_reducible apply wp_some ne_i
    | with_reducible apply wp_some eq_b
    | with_reducible apply wp_some max_i
    | with_reducible apply wp_some min_i
    | with_reducible apply wp_some tup_tup
    | with_reducible apply wp_some tup_lst
    | with_reducible apply wp_some len_tup
    | with_reducible apply wp_some len_lst
    | with_reducible apply wp_some sl_tup
    | with_reducible apply wp_some sl_lst
    | with_reducible apply wp_some tru_b
    | with_reducible apply wp_some repr_b
    | with_reducible refine wp_eq_sb ?_
    | with_reducible apply wp_some seq_lst
    | with_reducible apply wp_some seq_tup
    | ((with_reducible apply wp_ix_tup); (case q => rfl))
    | ((with_reducible apply wp_ix_lst); (case q => rfl))
    | ((with_reducible apply wp_ix_ref); (case p => assumption); (case q => rfl))
    | with_reducible apply wp_some eq_s
    | ((with_reducible apply wp_some (mod_int ?q)); (case q => walk_at "q"))
    | ((with_reducible apply wp_some (div_int ?p ?q)); (case p => walk_at "q"); (case q => walk_at "q"))
    | ((with_reducible apply wp_some (mul_int ?q)); (case q => walk_at "q"))
    | ((with_reducible apply wp_some (add_tup2 ?a ?b)); (case a => walk_at "ll"); (case b => walk_at "ll"))
    | ((with_reducible apply wp_some (add_lst2 ?a ?b)); (case a => walk_at "ll"); (case b => walk_at "ll"))
    | with_reducible apply wp_some ne_b
    | with_reducible refine wp_ne_sb ?_
    | with_reducible apply wp_some ne_s
    | with_reducible apply wp_some reprA_b
    | with_reducible apply wp_some isi_non
    | with_reducible apply wp_some isi_bl
    | with_reducible apply wp_some isi_int
    | with_reducible apply wp_some isi_str
    | with_reducible apply wp_some isi_tup
    | with_reducible apply wp_some isi_lst
    | with_reducible apply wp_some isi_dct
    | ((with_reducible apply wp_some (add_str ?q ?r)); (case q => walk_at "tl"); (case r => walk_at "tl"))
    | ((with_reducible apply wp_some (sl_str ?q)); (case q => walk_at "tl"))
    | ((with_reducible apply wp_some (len_str ?q)); (case q => walk_at "tl"))
    | ((with_reducible apply wp_some (str_int ?q)); (case q => first | assumption | omega))
    | with_reducible apply wp_some rev_tup
    | with_reducible apply wp_some rev_lst
    | with_reducible apply wp_some is_bl
    | with_reducible apply wp_some isN_bl
    | with_reducible apply wp_some neg_i
    | ((with_reducible apply wp_some (isi_pln ?q)); (case q => walk_at "p"))
    | with_reducible apply wp_some pow6
    | with_reducible apply wp_some eqT_tup
    | ((with_reducible apply wp_some (rev_str ?q)); (case q => walk_at "tl"))
    | ((with_reducible apply wp_some (add_rl ?q ?a ?b)); (case q => walk_at "hg"); (case a => walk_at "ll"); (case b => walk_at "ll"))
    | ((with_reducible apply wp_some (add_lr ?q ?a ?b)); (case q => walk_at "hg"); (case a => walk_at "ll"); (case b => walk_at "ll"))
    | ((with_reducible apply wp_some (add_rr ?q ?r ?a ?b)); (case q => walk_at "hg"); (case r => walk_at "hg"); (case a => walk_at "ll"); (case b => walk_at "ll"))
    | with_reducible apply wp_some lst_lst
    | ((with_reducible apply wp_some (lst_ref ?q)); (case q => walk_at "hg"))
    | ((with_reducible apply wp_some (len_ref ?q)); (case q => walk_at "hg"))
    | ((with_reducible apply wp_some (tup_ref ?q)); (case q => walk_at "hg"))
    | with_reducible apply wp_some pow39
    | with_reducible apply wp_some pow30
    | with_reducible apply wp_some pow40
    | with_reducible apply wp_some tru_non
    | with_reducible apply wp_some tru_int
    | with_reducible apply wp_some tru_tup
    | ((with_reducible apply wp_some (tru_str ?q)); (case q => walk_at "tl"))
    | ((with_reducible apply wp_some (mulS_str ?a ?b ?d)); (case a => walk_at "tl"); (case b => walk_at "tl"); (case d => walk_at "tl"))
    | ((with_reducible apply wp_some (mulS_tupA ?a ?b ?c ?d)); (case a => walk_at "tl"); (case b => walk_at "tl"); (case c => first | rfl | assumption); (case d => walk_at "tl")))
  | ((with_reducible show Wp (R.ofP _) _ _); first
    | ((with_reducible apply wp_someP (app_ref2 ?e ?q)); (case e => walk_at "hg"); (case q => walk_at "ll"))
    | ((with_reducible apply wp_someP (upper_str ?q)); (case q => walk_at "tl")))
  | ((with_reducible show Ws _ _); first
    | with_reducible refine ws_seq ?_
    | with_reducible refine ws_set ?_
    | with_reducible refine ws_setC ?_
    | with_reducible refine ws_setCM ?_
    | with_reducible refine ws_if ?_
    | with_reducible refine ws_ret ?_
    | with_reducible refine ws_retN ?_
    | with_reducible refine ws_drop ?_
    | with_reducible refine ws_skip ?_
    | with_reducible refine ws_asg ?_
    | with_reducible refine ws_par ?_
    | with_reducible refine ws_sub ?_)
  | ((with_reducible refine' And.intro (isL_ref ?e) ?_); (case e => walk_at "hg"))
  | ((with_reducible refine And.intro (And.intro ?a ?b) ?_); (case a => walk_at "ll"); (case b => walk_at "ll"))
  | with_reducible refine Exists.intro _ (And.intro rfl ?_)
  | with_reducible refine Exists.intro _ (Exists.intro _ (And.intro rfl ?_))
  | with_reducible refine And.intro rfl ?_
  | ((with_reducible show Wp _ _ _); first
    | ((with_reducible apply wp_name); (case q => rfl))
    | with_reducible refine wp_c ?_
    | with_reducible refine wp_bin ?_
    | with_reducible refine wp_acons ?_
    | with_reducible refine wp_anil ?_
    | with_reducible refine wp_call ?_
    | with_reducible refine wp_fn ?_
    | with_reducible refine wp_fnK ?_
    | with_reducible refine wp_ev ?_
    | with_reducible refine wp_em ?_
    | with_reducible refine wp_tup ?_
    | with_reducible refine wp_eb ?_
    | with_reducible refine wp_et ?_
    | with_reducible refine wp_un ?_
    | with_reducible refine wp_chain ?_
    | with_reducible refine wp_and ?_
    | with_reducible refine wp_or ?_
    | with_reducible refine wp_not ?_
    | with_reducible refine wp_andF ?_
    | with_reducible refine wp_orF ?_
    | with_reducible refine wp_notF ?_
    | with_reducible refine wp_yes ?_
    | with_reducible refine wp_if ?_
    | with_reducible refine wp_sl ?_
    | with_reducible refine wp_onone ?_
    | with_reducible refine wp_osome ?_
    | with_reducible refine wp_rev ?_
    | with_reducible refine wp_list ?_
    | with_reducible refine wp_mt ?_
    | with_reducible refine wp_any ?_
    | with_reducible refine wp_r1 ?_
    | with_reducible refine wp_r2 ?_
    | with_reducible refine wp_body ?_
    | with_reducible refine wp_d0t ?_
    | with_reducible refine wp_d0k ?_
    | with_reducible refine wp_d0 ?_
    | with_reducible refine wp_valsT ?_
    | with_reducible refine wp_d1 ?_
    | with_reducible refine wp_lAdd ?_
    | walk_at "P1"
    | walk_at "d1")
  | ((fail_if_success (with_reducible show Ws _ _)); (fail_if_success (with_reducible show Wp _ _ _)); show Ws _ _))
local macro_rules | `(tactic| walk_at "n") => `(tactic| repeat (walk_at "n1"))
local macro_rules | `(tactic| walk_at "nb") => `(tactic| repeat' (first | walk_at "n1" | walk_at "b1"))
local macro_rules | `(tactic| walk_at "c") => `(tactic| first
  | assumption
  | (refine closeB (by assumption) ?_; first | rfl | (simp_all; done) | (simp_all <;> omega)))
local macro_rules | `(tactic| walk_at "nc") => `(tactic| (walk_at "nb" <;> try walk_at "c"))
local macro_rules | `(tactic| walk_at "n1") => `(tactic| first
  | with_reducible refine wp_iOf ?_
  | with_reducible apply wp_some neT_tup
  | with_reducible refine ex_ent ?_
  | with_reducible refine ex_enl ?_
  | with_reducible refine ex_zpt ?_
  | with_reducible refine ex_zpl ?_)
local macro_rules | `(tactic| walk_at "q") => `(tactic| exact Int.natCast_pos.mpr (Nat.succ_pos _))
local macro_rules | `(tactic| walk_at "hg") => `(tactic| with_reducible exact St.k2 (by assumption))
local macro_rules | `(tactic| walk_at "n1") => `(tactic| first
  | with_reducible refine wp_mk ?_
  | with_reducible refine wp_mth ?_
  | with_reducible refine wp_eown ?_
  | with_reducible refine ws_fld ?_
  | with_reducible refine wp_js1 ?_
  | with_reducible refine wp_js0 ?_)
local macro_rules | `(tactic| walk_at "n1") => `(tactic| first
  | with_reducible refine wp_lRep ?_
  | with_reducible apply wp_some sk_zones
  | with_reducible apply wp_some sk_stretch
  | with_reducible apply wp_some sk_grade)
local macro_rules | `(tactic| walk_at "n1") => `(tactic| first
  | with_reducible refine wp_orT ?_
  | with_reducible refine wp_andT ?_
  | with_reducible apply wp_some neL_lst
  | with_reducible apply wp_some int_bl
  | with_reducible apply wp_some ne_ss)
local macro_rules | `(tactic| walk_at "tl") => `(tactic| repeat' (first | assumption | omega | exact Nat.le_of_ble_eq_true rfl | (with_reducible refine len_half ?_ ?_) | (with_reducible refine lit_half ?_) | (with_reducible refine cut_half ?_) | (with_reducible refine T_half ?_) | (simp only [List.length_append, List.length_cons, List.length_nil]; omega)))
local macro_rules | `(tactic| walk_at "n1") => `(tactic| first
  | with_reducible refine wp_disp ?_
  | with_reducible refine wp_pCons ?_
  | with_reducible refine wp_pNil ?_
  | with_reducible refine wp_isO2 ?_)

theorem sideEq {s : List Nat} (hs : Lw s) (a : AllG gs) : c_of_side [lotD gs, .str (T s)] h = .ok (.lst ((sideG s gs).map Gv.d)) h := by
  refine eq_any fun Q X c => ?_
  unfold c_of_side f_of_side
  refine wp_bodyE [some (lotD gs), some (.str (T s)), none] rfl ?_
  walk_at "n"
  refine wp_cga Gv.d (fun g => T g.sd == T s) Gv.d ?_
  walk_at "n"
  refine wp_some lot_g ?_
  walk_at "n"
  have l2 := a.sort.2
  refine ⟨by omega, fun g hg => ⟨_, rfl, ?_⟩, c⟩
  have o := a.sort.1 g hg
  have := (side_len o.sd).2
  walk_at "n"
  refine fun _ => ?_
  walk_at "n"
  first | exact rfl | exact ⟨rfl, rfl⟩
theorem near_eq (a : ∀ g ∈ A, g.Ok) (b : ∀ g ∈ B, g.Ok) (la : A.length ≤ 100000) (lb : B.length ≤ 100000) : c_rights_near [.lst (A.map Gv.d), .lst (B.map Gv.d)] h = .ok (MT.nD (nearG A B)) h := by
  refine eq_any fun Q X c => ?_
  unfold c_rights_near f_rights_near
  refine wp_bodyE [some (.lst (A.map Gv.d)), some (.lst (B.map Gv.d)), none, none, none] rfl ?_
  walk_at "n"
  refine wp_cma Gv.d (fun g => MT.rowD (idxs (mtG g) B)) ?_
  walk_at "n"
  refine ⟨la, fun g hg => ⟨_, rfl, ?_⟩, ?_⟩
  · walk_at "n"
    refine wp_cga (fun p : Gv × Nat => D.tup [.int (p.2 : Nat), p.1.d]) (fun p => mtG g p.1) (fun p => .int (p.2 : Nat)) ?_
    refine wp_iOf ?_
    walk_at "n"
    rw [enumL_map]
    refine ⟨B.zipIdx, rfl, by rw [List.length_zipIdx]; exact lb, fun p hp => ⟨_, rfl, ?_⟩, ?_⟩
    · have hb := b p.1 (List.fst_mem_of_mem_zipIdx hp)
      walk_at "n"
      refine wp_of (match_eq (a g hg) hb) ?_
      walk_at "n"
      refine fun _ => ?_
      walk_at "n"
      first | exact rfl | exact ⟨rfl, rfl⟩
    · refine ⟨?_, rfl⟩
      unfold MT.rowD idxs
      rw [List.map_map]; rfl
  · have e : (A.map fun g => MT.rowD (idxs (mtG g) B)) = (nearG A B).map MT.rowD := by unfold nearG; rw [List.map_map]; rfl
    rw [e]
    exact c
theorem ident_eq2 {g : Gv} : c_ident_of [g.d] h = .ok g.id h := by
  refine eq_any fun Q X c => ?_
  unfold c_ident_of f_ident_of
  refine wp_bodyE [some g.d] rfl ?_
  walk_at "n"
  exact c
/-! ### pairs, sorted -/
abbrev prG (p : Gv × Gv) : D := .tup [p.1.id, p.2.id]
def pdG (g : Gv) : PyData := .tuple [.int g.m, .int g.n, .str (T g.sd)]
def ppG (p : Gv × Gv) : PyData := .tuple [pdG p.1, pdG p.2]
theorem pdXs_pr {r : Nat → Option PyData} : ∀ ps : List (Gv × Gv), pdXs r (ps.map prG) = some (ps.map ppG)
  | [] => rfl
  | p :: ps => by
    show (match some (ppG p) with | some q => (match pdXs r (ps.map prG) with | some qs => some (q :: qs) | none => none) | none => none) = _
    rw [pdXs_pr ps]; rfl
theorem sort_pr {ps : List (Gv × Gv)} (hl : ps.length ≤ 100000) : gSortP h (.lst (ps.map prG)) = some (sortD (ps.map prG) (ps.map ppG)) := by
  show (match pdXs (fun _ => none) (ps.map prG) with | some qs => if sortOk qs = true ∧ (ps.map prG).length ≤ 100000 then some (sortD (ps.map prG) qs) else none | none => none) = _
  rw [pdXs_pr]
  dsimp only
  rw [if_pos]
  refine ⟨?_, by rw [List.length_map]; exact hl⟩
  unfold sortOk
  rw [Bool.and_eq_true, Bool.and_eq_true, Bool.or_eq_true]
  refine ⟨⟨List.all_eq_true.mpr fun x hx => List.all_eq_true.mpr fun y hy => ?_, .inl (List.all_eq_true.mpr fun x hx => ?_)⟩, List.all_eq_true.mpr fun x hx => ?_⟩
  · obtain ⟨u, _, rfl⟩ := List.mem_map.mp hx
    obtain ⟨v, _, rfl⟩ := List.mem_map.mp hy
    rfl
  · obtain ⟨u, _, rfl⟩ := List.mem_map.mp hx
    rfl
  · obtain ⟨u, _, rfl⟩ := List.mem_map.mp hx
    rfl
abbrev pairTG (A B : List Gv) (p : Nat × Nat) : Gv × Gv := (gvA A p.2, gvA B p.1)
theorem get_ix {L : List Gv} {i : Nat} (hi : i < L.length) : gIx h (.lst (L.map Gv.d)) (.int (i : Nat)) = some (gvA L i).d := by
  refine ix_lst (atI_nat (by omega) ?_)
  unfold gvA
  rw [Int.toNat_natCast, List.getElem?_map, List.getElem?_eq_getElem hi, List.getD_eq_getElem?_getD, List.getElem?_eq_getElem hi]; rfl
open MT in
theorem matched_wp (a : AllG gs) (hR : (sideG [114] gs).length ≤ 38)
    (q : ∀ (T : Tk) (A : Nat → Prop) (xs : List Nat) (ps : List (Gv × Gv)), Km (Nf (nearG (sideG [108] gs) (sideG [114] gs))) (sideG [108] gs).length T A → xs.Pairwise (· ≤ ·) → Cm (nearG (sideG [108] gs) (sideG [114] gs)) T xs → ps.Perm (T.map (pairTG (sideG [108] gs) (sideG [114] gs))) →
      ps.map prG = sortD ((T.map (pairTG (sideG [108] gs) (sideG [114] gs))).map prG) ((T.map (pairTG (sideG [108] gs) (sideG [114] gs))).map ppG) →
      Q (.tup [.tup (ps.map prG), .tup (xs.map fun x => (gvA (sideG [108] gs) x).id)]) h) : Wp (c_matched [lotD gs] h) Q X := by
  have okA : ∀ s, (∀ g ∈ sideG s gs, g.Ok) ∧ (sideG s gs).length ≤ 60 := fun s => ⟨fun g hg => a.sort.1 g (List.mem_filter.mp hg).1, Nat.le_trans (List.length_filter_le _ _) a.sort.2⟩
  unfold c_matched f_matched
  refine wp_bodyE [some (lotD gs), none, none, none, none, none, none, none] rfl ?_
  rw [tl, trr]
  walk_at "n"
  refine wp_of (sideEq (fun x hx => by rw [List.mem_singleton.mp hx]; exact ⟨by decide, by decide⟩) a) ?_
  walk_at "n"
  refine wp_of (sideEq (fun x hx => by rw [List.mem_singleton.mp hx]; exact ⟨by decide, by decide⟩) a) ?_
  obtain ⟨oa, la⟩ := okA [108]
  obtain ⟨ob, lb⟩ := okA [114]
  generalize sideG [108] gs = A at oa la q ⊢
  generalize sideG [114] gs = B at ob lb q hR ⊢
  walk_at "n"
  refine wp_of (near_eq oa ob (by omega) (by omega)) ?_
  walk_at "n"
  have hN : ∀ x, ∀ r ∈ Nf (nearG A B) x, r < B.length := fun x r hr => (near_at.mp hr).2.1
  have hW : ∀ x, (Nf (nearG A B) x).length ≤ 1000 := fun x => Nat.le_trans (near_w x) (by omega)
  refine taken_wp hN hW hR (by rw [near_len]; omega) fun T A1 K => ?_
  rw [near_len] at K
  have lT : T.length ≤ A.length := by
    have := nd_len K.vd K.vb
    rw [List.length_map] at this
    exact this
  have hT : ∀ p ∈ T, p.2 < A.length ∧ p.1 < B.length ∧ lk T p.1 = some p.2 := fun p hp => by
    have h1 := near_at.mp (K.ed p hp)
    exact ⟨h1.1, h1.2.1, lk_of K.kd hp⟩
  walk_at "n"
  refine wp_sortP ?_
  walk_at "n"
  refine wp_cma (fun p : Nat × Nat => D.int (p.1 : Nat)) (fun p => prG (pairTG A B p)) ?_
  refine wp_keysF ?_
  walk_at "n"
  refine .inl ⟨_, _, rfl, T, ?_, by omega, fun p hp => ?_, ?_⟩
  · unfold kT
    rw [List.map_map, List.map_map]; rfl
  · obtain ⟨h1, h2, h3⟩ := hT p hp
    refine ⟨_, rfl, ?_⟩
    walk_at "n"
    refine wp_some (get_tD h3) ?_
    refine wp_some (get_ix h1) ?_
    walk_at "n"
    refine wp_of ident_eq2 ?_
    walk_at "n"
    refine wp_some (get_ix h2) ?_
    walk_at "n"
    refine wp_of ident_eq2 ?_
    walk_at "n"
    exact rfl
  have e1 : (T.map fun p => prG (pairTG A B p)) = (T.map (pairTG A B)).map prG := by rw [List.map_map]; rfl
  rw [e1]
  walk_at "n"
  refine wp_some (sort_pr (by rw [List.length_map]; omega)) ?_
  obtain ⟨ps, p1, e2⟩ := perm_map (f := prG) (sortD_perm (ds := (T.map (pairTG A B)).map prG) (ps := (T.map (pairTG A B)).map ppG) (by simp only [List.length_map]))
  have e3 := e2
  rw [e2]
  walk_at "n"
  refine wp_cma nI (fun x => (gvA A x).id) ?_
  walk_at "n"
  refine come_wp (by rw [near_len]; exact K) hW (by rw [near_len]; omega) fun xs pw C => ?_
  walk_at "n"
  have lx : xs.length ≤ (nearG A B).length := nd_len C.nd C.bd
  rw [near_len] at lx
  refine ⟨by omega, fun x hx => ?_, ?_⟩
  · refine ⟨_, rfl, ?_⟩
    walk_at "n"
    have hx2 := C.bd x hx
    rw [near_len] at hx2
    refine wp_some (get_ix hx2) ?_
    walk_at "n"
    refine wp_of ident_eq2 ?_
    exact ⟨rfl, rfl⟩
  walk_at "n"
  exact q T A1 xs ps K pw C p1 e3.symm
end
end G

/-! # G81: gloves drawn into dicts by their idents; gloves of unlike idents -/
namespace G
open PySem PySem.Spec PyProof.Rows L2
def Gv.ik (g : Gv) : List Key := [.inl g.m, .inl g.n, .inr (T g.sd)]
def Un (gs : List Gv) : Prop := (gs.map Gv.ik).Nodup
def kvG (g : Gv) : List Key × D := (g.ik, g.d)
theorem un_nd {gs : List Gv} (u : Un gs) : gs.Nodup := List.Pairwise.of_map _ (fun _ _ hne e => hne (congrArg _ e)) u
theorem Un.perm {gs gs' : List Gv} (u : Un gs) (p : gs'.Perm gs) : Un gs' := (p.map _).nodup_iff.mpr u
theorem Un.sub {gs gs' : List Gv} (u : Un gs) (p : gs'.Sublist gs) : Un gs' := List.Nodup.sublist (p.map _) u
theorem un_nil : Un [] := List.nodup_nil
theorem put_gv {gs : List Gv} {g : Gv} (u : Un gs) : ∃ gs', putG (gs.map kvG) g.ik g.d = gs'.map kvG ∧ (∀ x ∈ gs', x = g ∨ x ∈ gs) ∧ Un gs' ∧ gs'.length ≤ gs.length + 1 := by
  unfold putG
  by_cases h : ((gs.map kvG).any fun kv => decide (kv.1 = g.ik)) = true
  · rw [if_pos h]
    refine ⟨gs.map fun x => if x.ik = g.ik then g else x, ?_, fun x hx => ?_, ?_, by rw [List.length_map]; omega⟩
    · rw [List.map_map, List.map_map]
      refine List.map_congr_left fun x _ => ?_
      show (if x.ik = g.ik then (x.ik, g.d) else (x.ik, x.d)) = kvG (if x.ik = g.ik then g else x)
      by_cases e : x.ik = g.ik
      · rw [if_pos e, if_pos e, e]; rfl
      · rw [if_neg e, if_neg e]; rfl
    · obtain ⟨y, hy, rfl⟩ := List.mem_map.mp hx
      by_cases e : y.ik = g.ik
      · rw [if_pos e]; exact .inl rfl
      · rw [if_neg e]; exact .inr hy
    · unfold Un
      rw [List.map_map]
      have : (Gv.ik ∘ fun x => if x.ik = g.ik then g else x) = Gv.ik := by
        funext x
        show (if x.ik = g.ik then g else x).ik = x.ik
        by_cases e : x.ik = g.ik
        · rw [if_pos e, e]
        · rw [if_neg e]
      rw [this]; exact u
  · rw [if_neg h]
    refine ⟨gs ++ [g], by rw [List.map_append]; rfl, fun x hx => ?_, ?_, by rw [List.length_append]; exact Nat.le_refl _⟩
    · rcases List.mem_append.mp hx with hx | hx
      · exact .inr hx
      · exact .inl (List.mem_singleton.mp hx)
    · show ((gs ++ [g]).map Gv.ik).Nodup
      rw [List.map_append, List.nodup_append]
      refine ⟨u, by simp, fun a ha b hb => ?_⟩
      rw [show b = g.ik by simpa using hb]
      rintro rfl
      obtain ⟨x, hx, e⟩ := List.mem_map.mp ha
      exact h (List.any_eq_true.mpr ⟨kvG x, List.mem_map.mpr ⟨x, hx, rfl⟩, decide_eq_true e⟩)
theorem kvG_vals (gs : List Gv) : (gs.map kvG).map (·.2) = gs.map Gv.d := by rw [List.map_map]; rfl
end G

/-! # G82: the most pairs: pairs and bars -/
namespace G
open PySem PySem.Spec PyProof.Rows L2
structure Mat (A B : List Gv) (P : List (Gv × Gv)) : Prop where
  n1 : (P.map (·.1)).Nodup
  n2 : (P.map (·.2)).Nodup
  i1 : ∀ p ∈ P, p.1 ∈ A
  i2 : ∀ p ∈ P, p.2 ∈ B
  mt : ∀ p ∈ P, mtG p.1 p.2 = true
def Cov (A B : List Gv) (X Y : Gv → Bool) : Prop := ∀ a ∈ A, ∀ b ∈ B, mtG a b = true → X a = true ∨ Y b = true
def csz (A B : List Gv) (X Y : Gv → Bool) : Nat := (A.filter X).length + (B.filter Y).length
def IsMost (A B : List Gv) (m : Nat) : Prop := (∃ P, Mat A B P ∧ P.length = m) ∧ ∃ X Y, Cov A B X Y ∧ csz A B X Y ≤ m
theorem filt_len {t : Type} (p : t → Bool) : ∀ l : List t, (l.filter p).length + (l.filter fun x => !p x).length = l.length
  | [] => rfl
  | x :: l => by
    have ih := filt_len p l
    rw [List.filter_cons, List.filter_cons]
    cases p x <;> simp <;> omega
theorem map_nd {t u : Type} {f : t → u} : ∀ {l : List t}, l.Nodup → (∀ x ∈ l, ∀ y ∈ l, f x = f y → x = y) → (l.map f).Nodup
  | [], _, _ => List.nodup_nil
  | x :: l, n, h => by
    obtain ⟨n1, n2⟩ := List.nodup_cons.mp n
    rw [List.map_cons]
    refine List.nodup_cons.mpr ⟨fun z => ?_, map_nd n2 fun a ha b hb => h a (List.mem_cons_of_mem _ ha) b (List.mem_cons_of_mem _ hb)⟩
    obtain ⟨y, hy, e⟩ := List.mem_map.mp z
    have := h y (List.mem_cons_of_mem _ hy) x List.mem_cons_self e
    subst this
    exact n1 hy
theorem mat_cov {A B : List Gv} {P : List (Gv × Gv)} {X Y : Gv → Bool} (M : Mat A B P) (C : Cov A B X Y) : P.length ≤ csz A B X Y := by
  have h1 : (P.filter fun p => X p.1).length ≤ (A.filter X).length := by
    have := MT.nd_sub (l := (P.filter fun p => X p.1).map (·.1)) (D := A.filter X) (List.Nodup.sublist (List.Sublist.map _ List.filter_sublist) M.n1) fun x hx => by
      obtain ⟨p, hp, rfl⟩ := List.mem_map.mp hx
      obtain ⟨h1, h2⟩ := List.mem_filter.mp hp
      exact List.mem_filter.mpr ⟨M.i1 p h1, h2⟩
    rwa [List.length_map] at this
  have h2 : (P.filter fun p => !X p.1).length ≤ (B.filter Y).length := by
    have := MT.nd_sub (l := (P.filter fun p => !X p.1).map (·.2)) (D := B.filter Y) (List.Nodup.sublist (List.Sublist.map _ List.filter_sublist) M.n2) fun x hx => by
      obtain ⟨p, hp, rfl⟩ := List.mem_map.mp hx
      obtain ⟨h1, h2⟩ := List.mem_filter.mp hp
      refine List.mem_filter.mpr ⟨M.i2 p h1, ?_⟩
      rcases C p.1 (M.i1 p h1) p.2 (M.i2 p h1) (M.mt p h1) with z | z
      · rw [z] at h2; cases h2
      · exact z
    rwa [List.length_map] at this
  have h3 := filt_len (fun p : Gv × Gv => X p.1) P
  unfold csz
  omega
theorem IsMost.le {A B : List Gv} {m : Nat} {P : List (Gv × Gv)} (h : IsMost A B m) (M : Mat A B P) : P.length ≤ m := by
  obtain ⟨_, X, Y, C, l⟩ := h
  have := mat_cov M C
  omega
theorem IsMost.ge {A B : List Gv} {m : Nat} {X Y : Gv → Bool} (h : IsMost A B m) (C : Cov A B X Y) : m ≤ csz A B X Y := by
  obtain ⟨⟨P, M, rfl⟩, _⟩ := h
  exact mat_cov M C
theorem IsMost.uniq {A B : List Gv} {m m' : Nat} (h : IsMost A B m) (h' : IsMost A B m') : m = m' := by
  obtain ⟨⟨P, M, e⟩, X, Y, C, l⟩ := h
  obtain ⟨⟨P', M', e'⟩, X', Y', C', l'⟩ := h'
  have := mat_cov M C'
  have := mat_cov M' C
  omega
theorem onG_comm (a b : Gv) : onG a b = onG b a := by
  unfold onG
  congr 1
  apply propext
  constructor <;> (intro h; split at h <;> split at h <;> split <;> split <;> omega)
theorem mtG_comm (a b : Gv) : mtG a b = mtG b a := by
  unfold mtG
  rw [onG_comm a b, Bool.beq_comm (a := T a.sd), Bool.beq_comm (a := T a.st), Bool.beq_comm (a := a.gr)]
theorem IsMost.symm {A B : List Gv} {m : Nat} (h : IsMost A B m) : IsMost B A m := by
  obtain ⟨⟨P, M, e⟩, X, Y, C, l⟩ := h
  refine ⟨⟨P.map fun p => (p.2, p.1), ⟨?_, ?_, ?_, ?_, ?_⟩, by rw [List.length_map]; exact e⟩, Y, X, fun b hb a ha q => (C a ha b hb (by rw [mtG_comm]; exact q)).symm, by unfold csz at l ⊢; omega⟩
  · rw [List.map_map]; exact M.n2
  · rw [List.map_map]; exact M.n1
  · intro p hp; obtain ⟨q, hq, rfl⟩ := List.mem_map.mp hp; exact M.i2 q hq
  · intro p hp; obtain ⟨q, hq, rfl⟩ := List.mem_map.mp hp; exact M.i1 q hq
  · intro p hp; obtain ⟨q, hq, rfl⟩ := List.mem_map.mp hp; rw [mtG_comm]; exact M.mt q hq
theorem IsMost.perm {A B A' B' : List Gv} {m : Nat} (h : IsMost A B m) (pa : A'.Perm A) (pb : B'.Perm B) : IsMost A' B' m := by
  obtain ⟨⟨P, M, e⟩, X, Y, C, l⟩ := h
  refine ⟨⟨P, ⟨M.n1, M.n2, fun p hp => pa.symm.subset (M.i1 p hp), fun p hp => pb.symm.subset (M.i2 p hp), M.mt⟩, e⟩, X, Y, fun a ha b hb q => C a (pa.subset ha) b (pb.subset hb) q, ?_⟩
  unfold csz at l ⊢
  rw [(pa.filter X).length_eq, (pb.filter Y).length_eq]
  exact l
/-- of one glove fewer on a side -/
theorem IsMost.fewer {A B : List Gv} {g : Gv} {m m' : Nat} (h : IsMost (g :: A) B m) (h' : IsMost A B m') : m' ≤ m ∧ m ≤ m' + 1 := by
  obtain ⟨⟨P, M, e⟩, X, Y, C, l⟩ := h
  obtain ⟨⟨P', M', e'⟩, X', Y', C', l'⟩ := h'
  constructor
  · have := mat_cov (P := P') (A := g :: A) ⟨M'.n1, M'.n2, fun p hp => List.mem_cons_of_mem _ (M'.i1 p hp), M'.i2, M'.mt⟩ C
    omega
  · classical
    have : P.length ≤ (P.filter fun p => !decide (p.1 = g)).length + 1 := by
      have h1 := filt_len (fun p : Gv × Gv => !decide (p.1 = g)) P
      have h2 : (P.filter fun p => !!decide (p.1 = g)).length ≤ 1 := by
        have := MT.nd_sub (l := (P.filter fun p => !!decide (p.1 = g)).map (·.1)) (D := [g]) (List.Nodup.sublist (List.Sublist.map _ List.filter_sublist) M.n1) fun x hx => by
          obtain ⟨p, hp, rfl⟩ := List.mem_map.mp hx
          have := (List.mem_filter.mp hp).2
          rw [Bool.not_not] at this
          rw [of_decide_eq_true this]; exact List.mem_singleton.mpr rfl
        rwa [List.length_map] at this
      omega
    have M2 : Mat A B (P.filter fun p => !decide (p.1 = g)) := by
      refine ⟨List.Nodup.sublist (List.Sublist.map _ List.filter_sublist) M.n1, List.Nodup.sublist (List.Sublist.map _ List.filter_sublist) M.n2, fun p hp => ?_, fun p hp => M.i2 p (List.mem_filter.mp hp).1, fun p hp => M.mt p (List.mem_filter.mp hp).1⟩
      obtain ⟨h1, h2⟩ := List.mem_filter.mp hp
      rcases List.mem_cons.mp (M.i1 p h1) with z | z
      · rw [decide_eq_true z] at h2; cases h2
      · exact z
    have := mat_cov M2 C'
    omega
/-! ### what the searches leave -/
theorem gvA_at {L : List Gv} {i : Nat} (h : i < L.length) : gvA L i = L[i] := by
  unfold gvA
  rw [List.getD_eq_getElem?_getD, List.getElem?_eq_getElem h]; rfl
theorem gvA_inj {L : List Gv} (n : L.Nodup) {i j : Nat} (hi : i < L.length) (hj : j < L.length) (e : gvA L i = gvA L j) : i = j := by
  rw [gvA_at hi, gvA_at hj] at e
  exact (List.getElem_inj n).mp e
theorem gvA_of {L : List Gv} {g : Gv} (h : g ∈ L) : ∃ i, i < L.length ∧ gvA L i = g := by
  obtain ⟨i, hi, e⟩ := List.getElem_of_mem h
  exact ⟨i, hi, by rw [gvA_at hi]; exact e⟩
open MT in
theorem most_of {A B : List Gv} {T : Tk} {S : Nat → Prop} (na : A.Nodup) (nb : B.Nodup) (K : Km (Nf (nearG A B)) A.length T S) : Mat A B (T.map (pairTG A B)) ∧ IsMost A B T.length := by
  have hT : ∀ p ∈ T, p.2 < A.length ∧ p.1 < B.length ∧ mtG (gvA A p.2) (gvA B p.1) = true := fun p hp => near_at.mp (K.ed p hp)
  have M : Mat A B (T.map (pairTG A B)) := by
    refine ⟨?_, ?_, fun p hp => ?_, fun p hp => ?_, fun p hp => ?_⟩
    · have : (T.map (pairTG A B)).map (·.1) = (T.map (·.2)).map (gvA A) := by rw [List.map_map, List.map_map]; rfl
      rw [this]
      refine map_nd K.vd fun x hx y hy e => gvA_inj na (K.vb x hx) (K.vb y hy) e
    · have : (T.map (pairTG A B)).map (·.2) = (T.map (·.1)).map (gvA B) := by rw [List.map_map, List.map_map]; rfl
      rw [this]
      refine map_nd K.kd fun x hx y hy e => ?_
      obtain ⟨p, hp, rfl⟩ := List.mem_map.mp hx
      obtain ⟨q, hq, rfl⟩ := List.mem_map.mp hy
      exact gvA_inj nb (hT p hp).2.1 (hT q hq).2.1 e
    · obtain ⟨q, hq, rfl⟩ := List.mem_map.mp hp; exact gvA_mem (hT q hq).1
    · obtain ⟨q, hq, rfl⟩ := List.mem_map.mp hp; exact gvA_mem (hT q hq).2.1
    · obtain ⟨q, hq, rfl⟩ := List.mem_map.mp hp; exact (hT q hq).2.2
  refine ⟨M, ⟨_, M, List.length_map _⟩, ?_⟩
  classical
  let inS : Nat → Bool := fun x => decide (∀ q ∈ Nf (nearG A B) x, S q)
  let X : Gv → Bool := fun a => decide (∃ i, i < A.length ∧ gvA A i = a ∧ inS i = false)
  let Y : Gv → Bool := fun b => decide (∃ r, r < B.length ∧ gvA B r = b ∧ S r)
  refine ⟨X, Y, fun a ha b hb q => ?_, ?_⟩
  · obtain ⟨i, hi, rfl⟩ := gvA_of ha
    obtain ⟨r, hr, rfl⟩ := gvA_of hb
    by_cases z : inS i = true
    · exact .inr (decide_eq_true ⟨r, hr, rfl, of_decide_eq_true z r (near_at.mpr ⟨hi, hr, q⟩)⟩)
    · exact .inl (decide_eq_true ⟨i, hi, rfl, Bool.eq_false_iff.mpr z⟩)
  · have h1 : (A.filter X).length ≤ (T.filter fun p => !inS p.2).length := by
      have := nd_sub (l := A.filter X) (D := (T.filter fun p => !inS p.2).map fun p => gvA A p.2) (na.filter _) fun a ha => by
        obtain ⟨_, h2⟩ := List.mem_filter.mp ha
        obtain ⟨i, hi, rfl, hS⟩ := of_decide_eq_true h2
        have : i ∈ T.map (·.2) := by
          apply Classical.byContradiction
          intro z
          have := K.un i hi z
          rw [show inS i = true from decide_eq_true this] at hS
          cases hS
        obtain ⟨p, hp, rfl⟩ := List.mem_map.mp this
        exact List.mem_map.mpr ⟨p, List.mem_filter.mpr ⟨hp, by rw [hS]; rfl⟩, rfl⟩
      rwa [List.length_map] at this
    have h2 : (B.filter Y).length ≤ (T.filter fun p => inS p.2).length := by
      have := nd_sub (l := B.filter Y) (D := (T.filter fun p => inS p.2).map fun p => gvA B p.1) (nb.filter _) fun b hb => by
        obtain ⟨_, h2⟩ := List.mem_filter.mp hb
        obtain ⟨r, hr, rfl, hS⟩ := of_decide_eq_true h2
        obtain ⟨x, hx, hn⟩ := K.cl r hS
        exact List.mem_map.mpr ⟨(r, x), List.mem_filter.mpr ⟨lk_mem hx, decide_eq_true hn⟩, rfl⟩
      rwa [List.length_map] at this
    have h3 := filt_len (fun p : Nat × Nat => inS p.2) T
    unfold csz
    omega
/-! ### by all choices -/
def chs : Nat → List (List Nat)
  | 0 => [[]]
  | n + 1 => chs n ++ (chs n).map fun s => s ++ [n]
theorem chs_len : ∀ n, (chs n).length = 2 ^ n
  | 0 => rfl
  | n + 1 => by
    show (chs n ++ _).length = _
    rw [List.length_append, List.length_map, chs_len n, Nat.pow_succ]; omega
theorem chs_in : ∀ n, ∀ s ∈ chs n, s.Nodup ∧ ∀ x ∈ s, x < n
  | 0, s, h => by rw [List.mem_singleton.mp h]; exact ⟨.nil, nofun⟩
  | n + 1, s, h => by
    rcases List.mem_append.mp h with h | h
    · obtain ⟨a, b⟩ := chs_in n s h
      exact ⟨a, fun x hx => Nat.lt_succ_of_lt (b x hx)⟩
    · obtain ⟨t, ht, rfl⟩ := List.mem_map.mp h
      obtain ⟨a, b⟩ := chs_in n t ht
      refine ⟨MT.snoc_nd a fun z => absurd (b n z) (Nat.lt_irrefl _), fun x hx => ?_⟩
      rcases List.mem_append.mp hx with hx | hx
      · exact Nat.lt_succ_of_lt (b x hx)
      · rw [List.mem_singleton.mp hx]; exact Nat.lt_succ_self _
theorem chs_all (p : Nat → Bool) : ∀ n, (List.range n).filter p ∈ chs n
  | 0 => List.mem_singleton.mpr rfl
  | n + 1 => by
    rw [List.range_succ, List.filter_append]
    have ih := chs_all p n
    cases h : p n with
    | true =>
      rw [List.filter_cons_of_pos h]
      exact List.mem_append_right _ (List.mem_map.mpr ⟨_, ih, rfl⟩)
    | false =>
      rw [List.filter_cons_of_neg (by rw [h]; exact Bool.false_ne_true), List.filter_nil, List.append_nil]
      exact List.mem_append_left _ ih
/-- what some chosen ones match -/
structure Hit (N : List (List Nat)) (s U : List Nat) : Prop where
  nd : U.Nodup
  iff : ∀ r, r ∈ U ↔ ∃ x ∈ s, r ∈ MT.Nf N x
theorem most_choice {A B : List Gv} {m v : Nat} (na : A.Nodup) (nb : B.Nodup) (h : IsMost A B m) (lo : ∀ s ∈ chs A.length, ∃ U, Hit (nearG A B) s U ∧ v ≤ A.length - s.length + U.length)
    (at_ : ∃ s ∈ chs A.length, ∃ U, Hit (nearG A B) s U ∧ v = A.length - s.length + U.length) : v = m := by
  classical
  apply Nat.le_antisymm
  · obtain ⟨_, X, Y, C, l⟩ := h
    obtain ⟨U, H, le⟩ := lo _ (chs_all (fun i => !X (gvA A i)) A.length)
    have e1 : A = (List.range A.length).map (gvA A) := by
      apply List.ext_getElem (by simp)
      intro i h1 h2
      rw [List.getElem_map, List.getElem_range, gvA_at h1]
    have h1 : ((List.range A.length).filter fun i => !X (gvA A i)).length + (A.filter X).length = A.length := by
      have h2 := filt_len (fun i => X (gvA A i)) (List.range A.length)
      have h3 : ((List.range A.length).filter fun i => X (gvA A i)).length = (A.filter X).length := by
        conv => rhs; rw [e1]
        rw [List.filter_map, List.length_map]; rfl
      rw [List.length_range] at h2
      omega
    have h2 : U.length ≤ (B.filter Y).length := by
      have := MT.nd_sub (l := U.map (gvA B)) (D := B.filter Y) (map_nd H.nd fun x hx y hy e => by
          obtain ⟨i, _, hi⟩ := (H.iff x).mp hx
          obtain ⟨j, _, hj⟩ := (H.iff y).mp hy
          exact gvA_inj nb (near_at.mp hi).2.1 (near_at.mp hj).2.1 e) fun b hb => by
        obtain ⟨r, hr, rfl⟩ := List.mem_map.mp hb
        obtain ⟨i, hi, hr2⟩ := (H.iff r).mp hr
        obtain ⟨k1, k2, k3⟩ := near_at.mp hr2
        refine List.mem_filter.mpr ⟨gvA_mem k2, ?_⟩
        rcases C _ (gvA_mem k1) _ (gvA_mem k2) k3 with z | z
        · have := (List.mem_filter.mp hi).2
          rw [z] at this; cases this
        · exact z
      rwa [List.length_map] at this
    unfold csz at l
    omega
  · obtain ⟨s, hs, U, H, rfl⟩ := at_
    obtain ⟨n1, n2⟩ := chs_in _ s hs
    have C : Cov A B (fun a => !decide (a ∈ s.map (gvA A))) (fun b => decide (b ∈ U.map (gvA B))) := by
      intro a ha b hb q
      by_cases z : a ∈ s.map (gvA A)
      · right
        obtain ⟨i, hi, rfl⟩ := List.mem_map.mp z
        obtain ⟨r, hr, rfl⟩ := gvA_of hb
        exact decide_eq_true (List.mem_map.mpr ⟨r, (H.iff r).mpr ⟨i, hi, near_at.mpr ⟨n2 i hi, hr, q⟩⟩, rfl⟩)
      · left; show (!decide (a ∈ s.map (gvA A))) = true; rw [decide_eq_false z]; rfl
    have h1 := h.ge C
    have h2 : s.length ≤ (A.filter fun a => decide (a ∈ s.map (gvA A))).length := by
      have := MT.nd_sub (l := s.map (gvA A)) (D := A.filter fun a => decide (a ∈ s.map (gvA A))) (map_nd n1 fun x hx y hy e => gvA_inj na (n2 x hx) (n2 y hy) e) fun a ha => by
        obtain ⟨i, hi, rfl⟩ := List.mem_map.mp ha
        exact List.mem_filter.mpr ⟨gvA_mem (n2 i hi), decide_eq_true ha⟩
      rwa [List.length_map] at this
    have h3 := filt_len (fun a => decide (a ∈ s.map (gvA A))) A
    have h4 : (B.filter fun b => decide (b ∈ U.map (gvA B))).length ≤ U.length := by
      have := MT.nd_sub (l := B.filter fun b => decide (b ∈ U.map (gvA B))) (D := U.map (gvA B)) (nb.filter _) fun b hb => of_decide_eq_true (List.mem_filter.mp hb).2
      rwa [List.length_map] at this
    unfold csz at h1
    omega
/-! ### sides exchanged, one glove fewer -/
theorem side_flt (s : List Nat) (gs : List Gv) : (sideG s gs).Perm (gs.filter fun g => T g.sd == T s) := (sortG_perm gs).filter _
theorem side_in {s : List Nat} {gs gs' : List Gv} {g : Gv} (p : gs.Perm (g :: gs')) (h : (T g.sd == T s) = true) : (sideG s gs).Perm (g :: sideG s gs') := by
  have h1 := (side_flt s gs).trans (p.filter _)
  rw [List.filter_cons_of_pos (p := fun g : Gv => T g.sd == T s) h] at h1
  exact h1.trans ((side_flt s gs').symm.cons g)
theorem side_out {s : List Nat} {gs gs' : List Gv} {g : Gv} (p : gs.Perm (g :: gs')) (h : (T g.sd == T s) = false) : (sideG s gs).Perm (sideG s gs') := by
  have h1 := (side_flt s gs).trans (p.filter _)
  rw [List.filter_cons_of_neg (p := fun g : Gv => T g.sd == T s) (by rw [h]; exact Bool.false_ne_true)] at h1
  exact h1.trans (side_flt s gs').symm
abbrev MostL (gs : List Gv) (m : Nat) : Prop := IsMost (sideG [108] gs) (sideG [114] gs) m
theorem sides_T {s : List Nat} (h : IsSide s) : ((T s == T [108]) = true ∧ (T s == T [114]) = false) ∨ ((T s == T [108]) = false ∧ (T s == T [114]) = true) := by
  rcases h with rfl | rfl
  · exact .inl ⟨by decide +kernel, by decide +kernel⟩
  · exact .inr ⟨by decide +kernel, by decide +kernel⟩
theorem most_fewer {gs gs' : List Gv} {g : Gv} {m m' : Nat} (p : gs.Perm (g :: gs')) (o : g.Ok) (h : MostL gs m) (h' : MostL gs' m') : m' ≤ m ∧ m ≤ m' + 1 := by
  rcases sides_T o.sd with ⟨a, b⟩ | ⟨a, b⟩
  · exact (h.perm (side_in p a).symm (side_out p b).symm).fewer h'
  · exact (h.perm (side_out p a).symm (side_in p b).symm).symm.fewer h'.symm
/-- the other side -/
def exS (s : List Nat) : List Nat := if s = [108] then [114] else [108]
def exG (g : Gv) : Gv := { g with sd := exS g.sd }
theorem exS_T {s t : List Nat} (h : IsSide s) (h' : IsSide t) : (T (exS s) == T (exS t)) = (T s == T t) := by
  rcases h with rfl | rfl <;> rcases h' with rfl | rfl <;> decide +kernel
theorem exS_side {s : List Nat} (h : IsSide s) : IsSide (exS s) := by
  rcases h with rfl | rfl
  · exact .inr rfl
  · exact .inl rfl
theorem exS_ex {s : List Nat} (h : IsSide s) : exS (exS s) = s := by
  rcases h with rfl | rfl <;> rfl
theorem exG_ex {g : Gv} (o : g.Ok) : exG (exG g) = g := by
  unfold exG
  obtain ⟨m, n, sd, st, lo, hi, gr⟩ := g
  show (⟨m, n, exS (exS sd), st, lo, hi, gr⟩ : Gv) = _
  rw [exS_ex o.sd]
theorem exG_ok {g : Gv} (o : g.Ok) : (exG g).Ok := ⟨o.m1, o.n1, exS_side o.sd, o.st, o.lo0, o.lh, o.hi1, o.gr0, o.gr1⟩
theorem exG_mt {a b : Gv} (o : a.Ok) (o' : b.Ok) : mtG (exG a) (exG b) = mtG a b := by
  unfold mtG
  show (!(T (exS a.sd) == T (exS b.sd)) && _) = _
  rw [exS_T o.sd o'.sd]; rfl
theorem exG_inj {a b : Gv} (o : a.Ok) (o' : b.Ok) (e : exG a = exG b) : a = b := by rw [← exG_ex o, ← exG_ex o', e]
theorem most_ex {A B : List Gv} {m : Nat} (oa : ∀ g ∈ A, g.Ok) (ob : ∀ g ∈ B, g.Ok) (h : IsMost A B m) : IsMost (A.map exG) (B.map exG) m := by
  obtain ⟨⟨P, M, e⟩, X, Y, C, l⟩ := h
  have q1 : ∀ (L : List Gv) (Z : Gv → Bool), (∀ g ∈ L, g.Ok) → ((L.map exG).filter fun g => Z (exG g)).length = (L.filter Z).length := by
    intro L Z o
    rw [List.filter_map, List.length_map]
    congr 1
    refine List.filter_congr fun g hg => ?_
    show Z (exG (exG g)) = Z g
    rw [exG_ex (o g hg)]
  refine ⟨⟨P.map fun p => (exG p.1, exG p.2), ⟨?_, ?_, ?_, ?_, ?_⟩, by rw [List.length_map]; exact e⟩, fun g => X (exG g), fun g => Y (exG g), ?_, ?_⟩
  · have : (P.map fun p => (exG p.1, exG p.2)).map (·.1) = (P.map (·.1)).map exG := by rw [List.map_map, List.map_map]; rfl
    rw [this]
    refine map_nd M.n1 fun x hx y hy q => ?_
    obtain ⟨a, ha, rfl⟩ := List.mem_map.mp hx
    obtain ⟨b, hb, rfl⟩ := List.mem_map.mp hy
    exact exG_inj (oa _ (M.i1 a ha)) (oa _ (M.i1 b hb)) q
  · have : (P.map fun p => (exG p.1, exG p.2)).map (·.2) = (P.map (·.2)).map exG := by rw [List.map_map, List.map_map]; rfl
    rw [this]
    refine map_nd M.n2 fun x hx y hy q => ?_
    obtain ⟨a, ha, rfl⟩ := List.mem_map.mp hx
    obtain ⟨b, hb, rfl⟩ := List.mem_map.mp hy
    exact exG_inj (ob _ (M.i2 a ha)) (ob _ (M.i2 b hb)) q
  · intro p hp; obtain ⟨q, hq, rfl⟩ := List.mem_map.mp hp; exact List.mem_map.mpr ⟨_, M.i1 q hq, rfl⟩
  · intro p hp; obtain ⟨q, hq, rfl⟩ := List.mem_map.mp hp; exact List.mem_map.mpr ⟨_, M.i2 q hq, rfl⟩
  · intro p hp; obtain ⟨q, hq, rfl⟩ := List.mem_map.mp hp; exact (exG_mt (oa _ (M.i1 q hq)) (ob _ (M.i2 q hq))).trans (M.mt q hq)
  · intro a ha b hb q
    obtain ⟨a, ha2, rfl⟩ := List.mem_map.mp ha
    obtain ⟨b, hb2, rfl⟩ := List.mem_map.mp hb
    rw [exG_mt (oa a ha2) (ob b hb2)] at q
    show X (exG (exG a)) = true ∨ Y (exG (exG b)) = true
    rw [exG_ex (oa a ha2), exG_ex (ob b hb2)]
    exact C a ha2 b hb2 q
  · unfold csz at l ⊢
    rw [q1 A X oa, q1 B Y ob]; exact l
theorem side_ex {s : List Nat} {gs : List Gv} (hs : IsSide s) (o : ∀ g ∈ gs, g.Ok) : (sideG (exS s) (gs.map exG)).Perm ((sideG s gs).map exG) := by
  refine (side_flt _ _).trans (List.Perm.trans ?_ ((side_flt s gs).symm.map exG))
  rw [List.filter_map]
  have : gs.filter ((fun g : Gv => T g.sd == T (exS s)) ∘ exG) = gs.filter fun g => T g.sd == T s := List.filter_congr fun g hg => by
    show (T (exS g.sd) == T (exS s)) = _
    exact exS_T (o g hg).sd hs
  rw [this]
theorem mostL_ex {gs : List Gv} {m : Nat} (o : ∀ g ∈ gs, g.Ok) (h : MostL gs m) : MostL (gs.map exG) m := by
  have os : ∀ s, ∀ g ∈ sideG s gs, g.Ok := fun s g hg => o g ((sortG_perm gs).subset (List.mem_filter.mp hg).1)
  have h1 := most_ex (os _) (os _) h
  exact (h1.symm).perm (side_ex (s := [114]) (.inr rfl) o) (side_ex (s := [108]) (.inl rfl) o)
theorem side_nd {s : List Nat} {gs : List Gv} (n : gs.Nodup) : (sideG s gs).Nodup := ((sortG_perm gs).nodup_iff.mpr n).filter _
end G

/-! # G83: x in a tuple of data of any depth -/
namespace G
open PySem PySem.Spec PyProof.Rows L2
def inTD (hs : Hs) (d e : D) : Option Bool := match pd hs d with
  | some p => (match pd hs e with
    | some (.tuple ps) => if (SeqAt.shaped p && SeqAt.shaped (.tuple ps)) = true then some (ps.any fun z => PyData.eqv z p) else none
    | _ => none)
  | none => none
def gNotInT (hs : Hs) (d e : D) : Option D := (inTD hs d e).map fun b => .bl (!b)
section
variable {K : PySem.W.Frag} {mg : Str → Option Value} {mu : Mp} {hs : Hs} {H : Hp} {X : Cx}
theorem inTD_at (S : Sim K mg mu hs H) {d e : D} {x y : V} {b : Bool} (r1 : RD K mu H d x) (r2 : RD K mu H e y) (h : inTD hs d e = some b) :
    ∃ p ps, Dp K H x p ∧ Dp K H y (.tuple ps) ∧ SeqAt.shaped p = true ∧ SeqAt.shaped (.tuple ps) = true ∧ (ps.any fun z => PyData.eqv z p) = b := by
  unfold inTD at h
  split at h
  · rename_i p hp
    split at h
    · rename_i ps hps
      split at h
      · rename_i hz
        cases h
        simp only [Bool.and_eq_true] at hz
        exact ⟨p, ps, pd_dp S r1 hp, pd_dp S r2 hps, hz.1, hz.2, rfl⟩
      · cases h
    · cases h
  · cases h
theorem og_notinT (hu : X.A.units + 65 < cLine) : OpR X (compareOp .NotIn) (rB X.K X.mg gNotInT) := by
  rintro pins s σ H x y v u Q I rx ry ⟨mu, hs, d, e, w, S, r1, r2, hg, q⟩
  obtain ⟨b, h1, h2⟩ := Option.map_eq_some_iff.mp (show (inTD hs d e).map (fun b => D.bl (!b)) = some w from hg)
  subst h2
  obtain ⟨p, ps, a1, a2, a3, a4, rfl⟩ := inTD_at S r1 r2 h1
  obtain ⟨as, k1⟩ := Dp.reads I p x v a1 rx
  obtain ⟨bs, k2⟩ := Dp.reads I (.tuple ps) y u a2 ry
  have a5 := a3
  unfold SeqAt.shaped at a5
  rw [Bool.and_eq_true, decide_eq_true_iff] at a5
  exact SeqAt.notIn_tuple_reads k2 k1 (SeqAt.canLay_of_shaped a4) (SeqAt.canLay_of_shaped a3) (by have := a5.2; omega) ⟨.bl _, H, I, rfl, fin0 S q (.bl _)⟩
end
section
variable {h : Hs}
theorem inTD_c {d e : D} {p : PyData} {ps : List PyData} {b : Bool} (h1 : pd h d = some p) (h2 : pd h e = some (.tuple ps)) (h3 : (SeqAt.shaped p && SeqAt.shaped (.tuple ps)) = true) (h4 : (ps.any fun z => PyData.eqv z p) = b) : inTD h d e = some b := by
  unfold inTD
  rw [h1, h2]
  dsimp only
  rw [if_pos h3, h4]
end
end G

namespace K28
open PySem PySem.Spec PyProof.Rows L2 G
/-! ### the functions -/
noncomputable section
def f_deck : FS := (sSeq (sSet 1 (eM (lList (eSl (eName 0) oNone (oSome (eC (.int 63)))))))
  (sRet (eM (aCons (eM (lRev (eName 1))) (aCons (eBin gAdd (eCall gSum (aCons (eV (lComp (iAny (eName 1)) (nSet 2) tYesF (eBin gMod (eName 2) (eC (.int 1000003))) [2])) aNil)) (eBin gMul (eC (.int 7919)) (eCall gLen (aCons (eName 1) aNil)))) (aCons (eC (.int 0)) aNil))))))
def c_deck : List D → Hs → R D := fnBody 3 f_deck
def f_draw : FS := (sSeq (sSub mSetL (eBin gAdd (eBin gIx (eName 0) (eC (.int 2))) (eC (.int 1))) (eName 0) (eC (.int 2)))
  (sSeq (sSet 2 (eBin gIx (eName 0) (eC (.int 1))))
  (sSeq (sIf (eB (eBin gNe (eBin gIx (eName 0) (eC (.int 0))) (eV aNil))) (sSeq (sSet 2 (eMt isL mPop (eBin gIx (eName 0) (eC (.int 0))) aNil))
  (sIf (eB (eBin gGe (eName 2) (eBin gPow (eC (.int 10)) (eC (.int 18))))) (sSeq (sDrop (eMt isL mAppend (eBin gIx (eName 0) (eC (.int 0))) (aCons (eBin gDiv (eName 2) (eName 1)) aNil)))
  (sRet (eBin gMod (eName 2) (eName 1)))) sSkip)) sSkip)
  (sSeq (sSet 3 (eBin gMod (eBin gMul (eBin gAdd (eBin gAdd (eBin gMod (eName 2) (eC (.int 2147483629))) (eBin gMul (eC (.int 65537)) (eBin gIx (eName 0) (eC (.int 2))))) (eC (.int 5))) (eC (.int 48271))) (eC (.int 2147483647))))
  (sSeq (sSet 3 (eBin gMod (eBin gAdd (eBin gAdd (eBin gMul (eName 3) (eName 3)) (eBin gMul (eC (.int 69621)) (eBin gIx (eName 0) (eC (.int 2))))) (eC (.int 11))) (eC (.int 2147483587))))
  (sRet (eBin gMod (eBin gDiv (eBin gMod (eBin gAdd (eBin gMul (eName 3) (eName 3)) (eBin gMul (eC (.int 16807)) (eName 3))) (eC (.int 2147483563))) (eC (.int 64))) (eName 1))))))))
def c_draw : List D → Hs → R D := fnBody 4 f_draw
def f_styles : FS := (sSeq (sSet 1 (eC (.str "abcdefghijklmnopqrstuvwxyz")))
  (sSeq (sSet 2 (eFn c_draw [0, 1] [] (aCons (eName 0) (aCons (eC (.int 3)) aNil))))
  (sSeq (sSet 3 (eMt (fun _ => isS) mJoin (eC (.str "")) (aCons (eV (lComp (iR1 (aCons (eBin gAdd (eC (.int 2)) (eFn c_draw [0, 1] [] (aCons (eName 0) (aCons (eC (.int 7)) aNil)))) aNil)) (nSet 6) tYesF (eBin gIx (eName 1) (eFn c_draw [0, 1] [] (aCons (eName 0) (aCons (eC (.int 26)) aNil)))) [6])) aNil)))
  (sSeq (sSet 4 (eFn c_draw [0, 1] [] (aCons (eName 0) (aCons (eCall gLen (aCons (eName 3) aNil)) aNil))))
  (sSeq (sSet 5 (eBin gIx (eName 1) (eBin gMod (eBin gAdd (eMt (fun _ => isS) mSIndex (eName 1) (aCons (eBin gIx (eName 3) (eName 4)) aNil)) (eC (.int 1))) (eC (.int 26)))))
  (sSeq (sIf (eB (eBin gEq (eName 2) (eC (.int 0)))) (sRet (eV (aCons (eName 3) (aCons (eSl (eName 3) oNone (oSome (eBin gAdd (eC (.int 1)) (eFn c_draw [0, 1] [] (aCons (eName 0) (aCons (eBin gSub (eCall gLen (aCons (eName 3) aNil)) (eC (.int 1))) aNil)))))) aNil)))) sSkip)
  (sRet (eBin gIx (eV (aCons (eV (aCons (eName 3) (aCons (eBin gAdd (eBin gAdd (eSl (eName 3) oNone (oSome (eName 4))) (eName 5)) (eSl (eName 3) (oSome (eBin gAdd (eName 4) (eC (.int 1)))) oNone)) aNil))) (aCons (eV (aCons (eBin gIx (eName 3) (eName 4)) (aCons (eName 5) aNil))) aNil))) (eBin gSub (eName 2) (eC (.int 1)))))))))))
def c_styles : List D → Hs → R D := fnBody 7 f_styles
def f_gloves : FS := (sSeq (sSet 2 (eFn c_draw [0, 1] [] (aCons (eName 0) (aCons (eC (.int 6)) aNil))))
  (sSeq (sSet 3 (eBin gIx (eV (aCons (eC (.int 28)) (aCons (eC (.int 1)) (aCons (eC (.int 60)) (aCons (eC (.int 90)) aNil))))) (eFn c_draw [0, 1] [] (aCons (eName 0) (aCons (eC (.int 4)) aNil)))))
  (sSeq (sSet 4 (eFn c_styles [0] [] (aCons (eName 0) aNil)))
  (sSeq (sSet 5 eD0T)
  (sSeq (sFor (iR1 (aCons (eName 1) aNil)) (nSet 6)
  (sSeq (sSet 7 (eBin gIx (eV (aCons (eC (.str "l")) (aCons (eC (.str "r")) (aCons (eBin gIx (eV (aCons (eC (.str "l")) (aCons (eC (.str "r")) aNil))) (eBin gMod (eName 6) (eC (.int 2)))) (aCons (eBin gIx (eV (aCons (eC (.str "r")) (aCons (eC (.str "l")) aNil))) (eCall gInt (aCons (eBin gEq (eName 2) (eC (.int 3))) aNil))) aNil))))) (eFn c_draw [0, 1] [] (aCons (eName 0) (aCons (eC (.int 4)) aNil)))))
  (sSeq (sPar 8 9 (aCons (eFn c_draw [0, 1] [] (aCons (eName 0) (aCons (eBin gIx (eV (aCons (eC (.int 6)) (aCons (eC (.int 1)) (aCons (eC (.int 1)) (aCons (eC (.int 4)) (aCons (eC (.int 9)) (aCons (eC (.int 9)) aNil))))))) (eName 2)) aNil))) (aCons (eFn c_draw [0, 1] [] (aCons (eName 0) (aCons (eBin gIx (eV (aCons (eC (.int 4)) (aCons (eC (.int 1)) (aCons (eC (.int 1)) (aCons (eC (.int 3)) (aCons (eC (.int 1)) (aCons (eC (.int 30)) aNil))))))) (eName 2)) aNil))) aNil)))
  (sSeq (sSet 10 (eBin gAdd (eBin gAdd (eName 3) (eName 8)) (eBin gMul (eBin gDiv (eName 6) (eC (.int 2))) (eCall gInt (aCons (eBin gEq (eName 2) (eC (.int 1))) aNil)))))
  (sSeq (sSet 11 (eBin gAdd (eBin gAdd (eName 10) (eName 9)) (eCall gInt (aCons (eAnd (eBin gEq (eName 2) (eC (.int 1))) (eBin gEq (eName 7) (eC (.str "r")))) aNil))))
  (sSeq (sSet 12 (eBin gIx (eName 4) (eCall gInt (aCons (eBin gEq (eFn c_draw [0, 1] [] (aCons (eName 0) (aCons (eC (.int 5)) aNil))) (eC (.int 1))) aNil))))
  (sSeq (sSet 13 (eBin gMul (eBin gIx (eV (aCons (eC (.int 0)) (aCons (eC (.int 0)) (aCons (eC (.int 0)) (aCons (eC (.int 0)) (aCons (eC (.int 1)) (aCons (eC (.int 2)) aNil))))))) (eFn c_draw [0, 1] [] (aCons (eName 0) (aCons (eC (.int 6)) aNil)))) (eCall gInt (aCons (eBin gNe (eName 2) (eC (.int 1))) aNil))))
  (sSeq (sSet 14 (eTup (aCons (eBin gIx (eV (aCons (eC (.int 0)) (aCons (eC (.int 1)) (aCons (eC (.int 35)) (aCons (eC (.int 36)) (aCons (eC (.int 999999)) aNil)))))) (eFn c_draw [0, 1] [] (aCons (eName 0) (aCons (eC (.int 5)) aNil)))) (aCons (eFn c_draw [0, 1] [] (aCons (eName 0) (aCons (eC (.int 100)) aNil))) (aCons (eName 7) aNil)))))
  (sSub mSetA (eBin gAdd (eName 14) (eTup (aCons (eName 12) (aCons (eCall gMin2 (aCons (eC (.int 99)) (aCons (eName 10) aNil))) (aCons (eCall gMin2 (aCons (eC (.int 138)) (aCons (eCall gMax2 (aCons (eCall gMin2 (aCons (eC (.int 99)) (aCons (eName 10) aNil))) (aCons (eName 11) aNil))) aNil))) (aCons (eName 13) aNil)))))) (eName 5) (eName 14))))))))))
  (sRet (eCall gTuple (aCons (eV (lValsT (eName 5))) aNil))))))))
def c_gloves : List D → Hs → R D := gcF (fnBody 15 f_gloves)
def f_l_do_match : FS := (sSeq (sIf (tOrF (eB (eBin gNotInT (eTup (aCons (eBin gIx (eName 0) (eC (.int 2))) (aCons (eBin gIx (eName 1) (eC (.int 2))) aNil))) (eTup (aCons (eTup (aCons (eC (.str "l")) (aCons (eC (.str "r")) aNil))) (aCons (eTup (aCons (eC (.str "r")) (aCons (eC (.str "l")) aNil))) aNil))))) (tOrF (eB (eBin gNe (eBin gIx (eName 0) (eC (.int 3))) (eBin gIx (eName 1) (eC (.int 3))))) (eB (eBin gNe (eBin gIx (eName 0) (eC (.int 6))) (eBin gIx (eName 1) (eC (.int 6))))))) (sRet (eC (.bl false))) sSkip)
  (sRet (eAnd (eBin gLe (eBin gIx (eName 0) (eC (.int 4))) (eBin gIx (eName 1) (eC (.int 5)))) (eBin gLe (eBin gIx (eName 1) (eC (.int 4))) (eBin gIx (eName 0) (eC (.int 5)))))))
def c_l_do_match : List D → Hs → R D := fnBody 2 f_l_do_match
def f_l_of_side : FS := (sRet (eV (lComp (iAny (eV (lSortA (eName 0)))) (nSet 2) (eB (eBin gEq (eBin gIx (eName 2) (eC (.int 2))) (eName 1))) (eName 2) [2])))
def c_l_of_side : List D → Hs → R D := fnBody 3 f_l_of_side
def f_choices : FS := (sSeq (sSet 1 (eV (aCons (eTup aNil) aNil)))
  (sSeq (sFor (iR1 (aCons (eName 0) aNil)) (nSet 2)
  (sSet 1 (eBin gAdd (eName 1) (eV (lComp (iAny (eName 1)) (nSet 3) tYesF (eBin gAdd (eName 3) (eTup (aCons (eName 2) aNil))) [3])))))
  (sRet (eName 1))))
def c_choices : List D → Hs → R D := fnBody 4 f_choices
def f_most : FS := (sSeq (sPar 1 2 (aCons (eFn c_l_of_side [0, 1] [] (aCons (eName 0) (aCons (eC (.str "l")) aNil))) (aCons (eFn c_l_of_side [0, 1] [] (aCons (eName 0) (aCons (eC (.str "r")) aNil))) aNil)))
  (sSeq (sAsg (nTup 2 (nCons (nSet 3) (nCons (nSet 4) nNil))) (eBin gIx (eV (aCons (eTup (aCons (eName 1) (aCons (eName 2) aNil))) (aCons (eTup (aCons (eName 2) (aCons (eName 1) aNil))) aNil))) (eCall gInt (aCons (eBin gLt (eCall gLenA (aCons (eName 2) aNil)) (eCall gLenA (aCons (eName 1) aNil))) aNil))))
  (sSeq (sSetC 5 false (lComp (iAny (eName 3)) (nSet 9) tYesF (eV (lComp (iOf enOf (aCons (eName 4) aNil)) (nTup 2 (nCons (nSet 10) (nCons (nSet 11) nNil))) (eT (eFn c_l_do_match [0, 1] [] (aCons (eName 9) (aCons (eName 11) aNil)))) (eName 10) [10, 11])) [9]))
  (sSeq (sSet 6 (eCall gLenA (aCons (eName 3) aNil)))
  (sSeq (sFor (iAny (eFn c_choices [0] [] (aCons (eCall gLenA (aCons (eName 3) aNil)) aNil))) (nSet 7)
  (sSeq (sSet 8 eD0K)
  (sSeq (sFor (iAny (eName 7)) (nSet 9)
  (sDrop (eMt isDm mUpdate (eName 8) (aCons (eDictP (lComp (iAny (eBin gIx (eName 5) (eName 9))) (nSet 10) tYesF (eTup (aCons (eName 10) (aCons (eC (.bl true)) aNil))) [10])) aNil))))
  (sSet 6 (eCall gMin2 (aCons (eName 6) (aCons (eBin gAdd (eBin gSub (eCall gLenA (aCons (eName 3) aNil)) (eCall gLenA (aCons (eName 7) aNil))) (eCall gLenA (aCons (eName 8) aNil))) aNil)))))))
  (sRet (eName 6)))))))
def c_most : List D → Hs → R D := gcF (fnBody 12 f_most)
def f_told : FS := (sRet (eCall gLen (aCons (eBin gIx (eFn c_matched [0] [] (aCons (eGc (eMk "Lot" c_Lot_init [0, 1] [.non] (aCons (eName 0) aNil) aNil)) aNil)) (eC (.int 0))) aNil)))
def c_told : List D → Hs → R D := fnBody 1 f_told
def f_exchanged : FS := (sRet (eCall gTuple (aCons (eV (lComp (iAny (eName 0)) (nSet 1) tYesF (eBin gAdd (eBin gAdd (eSl (eName 1) oNone (oSome (eC (.int 2)))) (eTup (aCons (eBin gDget (eDisp (pCons (eC (.str "l")) (eC (.str "r")) (pCons (eC (.str "r")) (eC (.str "l")) pNil))) (eBin gIx (eName 1) (eC (.int 2)))) aNil))) (eSl (eName 1) (oSome (eC (.int 3))) oNone)) [1])) aNil)))
def c_exchanged : List D → Hs → R D := fnBody 2 f_exchanged
def f_law : FS := (sSeq (sSet 1 (eFn c_deck [0] [] (aCons (eName 0) aNil)))
  (sSeq (sFor (iR1 (aCons (eC (.int 3)) aNil)) (nSet 2)
  (sSeq (sSet 3 (eFn c_gloves [0, 1] [] (aCons (eName 1) (aCons (eFn c_draw [0, 1] [] (aCons (eName 1) (aCons (eC (.int 13)) aNil))) aNil))))
  (sSeq (sSet 4 (eFn c_most [0] [] (aCons (eName 3) aNil)))
  (sSeq (sIf (tOrF (eB (eBin gNe (eFn c_told [0] [] (aCons (eName 3) aNil)) (eName 4))) (eB (eBin gNe (eFn c_told [0] [] (aCons (eFn c_exchanged [0] [] (aCons (eName 3) aNil)) aNil)) (eName 4)))) (sRet (eC (.bl false))) sSkip)
  (sIf (eB (eBin gNeT (eName 3) (eTup aNil))) (sSeq (sSet 5 (eFn c_draw [0, 1] [] (aCons (eName 1) (aCons (eCall gLen (aCons (eName 3) aNil)) aNil))))
  (sSeq (sSet 6 (eBin gAdd (eSl (eName 3) oNone (oSome (eName 5))) (eSl (eName 3) (oSome (eBin gAdd (eName 5) (eC (.int 1)))) oNone)))
  (sIf (tOrF (eB (eBin gNe (eFn c_told [0] [] (aCons (eName 6) aNil)) (eFn c_most [0] [] (aCons (eName 6) aNil)))) (tNotF (eB (eChain gLe gLe (eBin gSub (eName 4) (eC (.int 1))) (eFn c_told [0] [] (aCons (eName 6) aNil)) (eName 4))))) (sRet (eC (.bl false))) sSkip))) sSkip)))))
  (sRet (eBin gEq (eFn c_told [0] [] (aCons (eTup aNil) aNil)) (eC (.int 0))))))
def c_law : List D → Hs → R D := fnBody 7 f_law
end
end K28

namespace K28
open PySem PySem.Spec L2 G
local macro_rules | `(tactic| walk_at "s1") => `(tactic| first
  | ((with_reducible apply wp_name); (case q => rfl))
  | with_reducible refine wp_c ?_
  | with_reducible refine wp_bin ?_
  | with_reducible refine wp_acons ?_
  | with_reducible refine wp_anil ?_
  | with_reducible refine wp_call ?_
  | with_reducible refine wp_fn ?_
  | with_reducible refine wp_fnK ?_
  | with_reducible refine wp_ev ?_
  | with_reducible refine wp_em ?_
  | with_reducible refine wp_tup ?_
  | with_reducible refine wp_eb ?_
  | with_reducible refine wp_et ?_
  | with_reducible refine wp_un ?_
  | with_reducible refine wp_chain ?_
  | with_reducible refine wp_and ?_
  | with_reducible refine wp_or ?_
  | with_reducible refine wp_not ?_
  | with_reducible refine wp_andF ?_
  | with_reducible refine wp_orF ?_
  | with_reducible refine wp_notF ?_
  | with_reducible refine wp_yes ?_
  | with_reducible refine wp_if ?_
  | with_reducible refine wp_sl ?_
  | with_reducible refine wp_onone ?_
  | with_reducible refine wp_osome ?_
  | with_reducible refine wp_rev ?_
  | with_reducible refine wp_list ?_
  | with_reducible refine wp_mt ?_
  | with_reducible refine wp_any ?_
  | with_reducible refine wp_r1 ?_
  | with_reducible refine wp_r2 ?_
  | with_reducible refine ws_seq ?_
  | with_reducible refine ws_set ?_
  | with_reducible refine ws_setC ?_
  | with_reducible refine ws_setCM ?_
  | with_reducible refine ws_if ?_
  | with_reducible refine ws_ret ?_
  | with_reducible refine ws_retN ?_
  | with_reducible refine ws_drop ?_
  | with_reducible refine ws_skip ?_
  | with_reducible refine ws_asg ?_
  | with_reducible refine ws_par ?_
  | with_reducible refine ws_sub ?_
  | with_reducible refine wp_body ?_)
local macro_rules | `(tactic| walk_at "s") => `(tactic| repeat (walk_at "s1"))

/-! ### the deck of this law -/
theorem draw_tail {a b : Nat} {hs h : Hs} {m s c cell : Int} {ns : List Int} (ne : a ≠ b) (ha : h[a]? = some (.lst [.ref b, .int s, .int c])) (hl : ns.length ≤ 100) (hb : h[b]? = some (.lst (ns.map .int))) (h0 : 0 < m) (fr : Frm (Two a b) hs h) (ln : h.length = hs.length) :
    Ws ((sSeq (sSet 3 (eBin gMod (eBin gMul (eBin gAdd (eBin gAdd (eBin gMod (eName 2) (eC (.int 2147483629))) (eBin gMul (eC (.int 65537)) (eBin gIx (eName 0) (eC (.int 2))))) (eC (.int 5))) (eC (.int 48271))) (eC (.int 2147483647))))
  (sSeq (sSet 3 (eBin gMod (eBin gAdd (eBin gAdd (eBin gMul (eName 3) (eName 3)) (eBin gMul (eC (.int 69621)) (eBin gIx (eName 0) (eC (.int 2))))) (eC (.int 11))) (eC (.int 2147483587))))
  (sRet (eBin gMod (eBin gDiv (eBin gMod (eBin gAdd (eBin gMul (eName 3) (eName 3)) (eBin gMul (eC (.int 16807)) (eName 3))) (eC (.int 2147483563))) (eC (.int 64))) (eName 1))))) [some (.ref a), some (.int m), some (.int cell), none] h)
      { nx := fun _ h => Drawn a b m hs .non h, rt := Drawn a b m hs } := by
  have gx : gIx h (.ref a) (.int 2) = some (.int c) := ix_ref ha rfl
  have b1 : ∀ x : Int, 0 ≤ x % 2147483647 ∧ x % 2147483647 < 2147483647 := fun x => ⟨Int.emod_nonneg _ (by decide), Int.emod_lt_of_pos _ (by decide)⟩
  have b2 : ∀ x : Int, 0 ≤ x % 2147483587 ∧ x % 2147483587 < 2147483587 := fun x => ⟨Int.emod_nonneg _ (by decide), Int.emod_lt_of_pos _ (by decide)⟩
  have q1 : small64 65537 = true := by decide
  have q2 : small64 69621 = true := by decide
  have q3 : small64 48271 = true := by decide
  have q4 : small64 16807 = true := by decide
  walk_at "s"
  refine wp_some (mod_int (by decide)) ?_
  walk_at "s"
  refine wp_some gx ?_
  refine wp_some (mul_int (by rw [q1]; rfl)) ?_
  refine wp_some rfl ?_
  walk_at "s"
  refine wp_some rfl ?_
  walk_at "s"
  refine wp_some (mul_int (by rw [q3, Bool.or_true])) ?_
  walk_at "s"
  refine wp_some (mod_int (by decide)) ?_
  generalize hx : (cell % 2147483629 + 65537 * c + 5) * 48271 % 2147483647 = x
  have hx' := b1 ((cell % 2147483629 + 65537 * c + 5) * 48271)
  rw [hx] at hx'
  have sx : small64 x = true := small_of hx'.1 (by omega)
  show Ws (sSeq _ _ [some (.ref a), some (.int m), some (.int cell), some (.int x)] h) _
  walk_at "s"
  refine wp_some (mul_int (by rw [sx]; rfl)) ?_
  walk_at "s"
  refine wp_some gx ?_
  refine wp_some (mul_int (by rw [q2]; rfl)) ?_
  refine wp_some rfl ?_
  walk_at "s"
  refine wp_some rfl ?_
  walk_at "s"
  refine wp_some (mod_int (by decide)) ?_
  generalize hy : (x * x + 69621 * c + 11) % 2147483587 = y
  have hy' := b2 (x * x + 69621 * c + 11)
  rw [hy] at hy'
  have sy : small64 y = true := small_of hy'.1 (by omega)
  show Ws (sRet _ [some (.ref a), some (.int m), some (.int cell), some (.int y)] h) _
  walk_at "s"
  refine wp_some (mul_int (by rw [sy]; rfl)) ?_
  walk_at "s"
  refine wp_some (mul_int (by rw [q4]; rfl)) ?_
  refine wp_some rfl ?_
  walk_at "s"
  refine wp_some (mod_int (by decide)) ?_
  walk_at "s"
  refine wp_some (div_int (by decide) (by decide)) ?_
  walk_at "s"
  refine wp_some (mod_int h0) ?_
  exact ⟨_, rfl, Int.emod_nonneg _ (by omega), Int.emod_lt_of_pos _ h0, ⟨ne, ⟨s, c, ha⟩, ⟨ns, hl, hb⟩⟩, fr, ln⟩
theorem draw_wp {a b : Nat} {hs : Hs} {m : Int} (h : Deck a b hs) (h0 : 0 < m) (h1 : m < 1073741824) : Wp (c_draw [.ref a, .int m] hs) (Drawn a b m hs) nX := by
  obtain ⟨ne, ⟨s, c, ha⟩, ⟨ns, hl, hb⟩⟩ := h
  unfold c_draw f_draw
  refine wp_bodyE [some (.ref a), some (.int m), none, none] rfl ?_
  walk_at "s"
  refine wp_some (ix_ref ha rfl) ?_
  walk_at "s"
  refine wp_some rfl ?_
  walk_at "s"
  refine ⟨_, set_ref ha rfl, ?_⟩
  have ha1 : (hs.set a (.lst [.ref b, .int s, .int (c + 1)]))[a]? = some (.lst [.ref b, .int s, .int (c + 1)]) := get_set_eq ha
  have hb1 : (hs.set a (.lst [.ref b, .int s, .int (c + 1)]))[b]? = some (.lst (ns.map .int)) := by rw [get_set_ne ne]; exact hb
  have f1 : Frm (Two a b) hs (hs.set a (.lst [.ref b, .int s, .int (c + 1)])) := .set (.inl rfl)
  have l1 : (hs.set a (.lst [.ref b, .int s, .int (c + 1)])).length = hs.length := List.length_set
  show Ws (sSeq _ _ _ (hs.set a (.lst [.ref b, .int s, .int (c + 1)]))) _
  generalize hs.set a (.lst [.ref b, .int s, .int (c + 1)]) = g at ha1 hb1 f1 l1 ⊢
  walk_at "s"
  refine wp_some (ix_ref ha1 rfl) ?_
  walk_at "s"
  refine wp_some (ix_ref ha1 rfl) ?_
  walk_at "s"
  refine wp_some (ne_cells hb1) ⟨_, rfl, fun hne => ?_, fun _ => ?_⟩
  · -- a cell is popped
    have hn : ns ≠ [] := by rintro rfl; cases hne
    obtain ⟨ini, z, rfl⟩ : ∃ ini z, ns = ini ++ [z] := ⟨ns.dropLast, ns.getLast hn, (List.dropLast_concat_getLast hn).symm⟩
    have hl' : ini.length ≤ 99 := by rw [List.length_append] at hl; simp at hl; omega
    walk_at "s"
    refine wp_some (ix_ref ha1 rfl) ⟨isL_ref hb1, wp_anil ?_⟩
    have hp : (List.map D.int (ini ++ [z]))[(List.map D.int (ini ++ [z])).length - 1]? = some (.int z) := by simp
    refine wp_someP (pop_ref hb1 hp) ?_
    have hd : (List.map D.int (ini ++ [z])).dropLast = ini.map D.int := by simp
    rw [hd]
    have ha2 : (g.set b (.lst (ini.map D.int)))[a]? = some (.lst [.ref b, .int s, .int (c + 1)]) := by rw [get_set_ne ne.symm]; exact ha1
    have hb2 : (g.set b (.lst (ini.map D.int)))[b]? = some (.lst (ini.map D.int)) := get_set_eq hb1
    have f2 : Frm (Two a b) hs (g.set b (.lst (ini.map D.int))) := f1.trans (.set (.inr rfl))
    have l2 : (g.set b (.lst (ini.map D.int))).length = hs.length := by rw [List.length_set]; exact l1
    show Ws (sIf _ _ _ _ (g.set b (.lst (ini.map D.int)))) _
    generalize g.set b (.lst (ini.map D.int)) = k at ha2 hb2 f2 l2 ⊢
    walk_at "s"
    refine wp_some pow18 ?_
    refine wp_some rfl ⟨_, rfl, fun _ => ?_, fun _ => ?_⟩
    · walk_at "s"
      refine wp_some (ix_ref ha2 rfl) ⟨isL_ref hb2, ?_⟩
      walk_at "s"
      refine wp_some (div_int h0 h1) (wp_anil ?_)
      refine wp_someP (app_ref hb2 (by rw [List.length_map]; exact small1000 (by omega))) ?_
      have ha3 : (k.set b (.lst ((ini ++ [z / m]).map D.int)))[a]? = some (.lst [.ref b, .int s, .int (c + 1)]) := by rw [get_set_ne ne.symm]; exact ha2
      have hb3 : (k.set b (.lst ((ini ++ [z / m]).map D.int)))[b]? = some (.lst ((ini ++ [z / m]).map D.int)) := get_set_eq hb2
      have e3 : ini.map D.int ++ [D.int (z / m)] = (ini ++ [z / m]).map D.int := by simp
      rw [e3]
      walk_at "s"
      refine wp_some (mod_int h0) ?_
      exact ⟨_, rfl, Int.emod_nonneg _ (by omega), Int.emod_lt_of_pos _ h0, ⟨ne, ⟨s, c + 1, ha3⟩, ⟨ini ++ [z / m], by rw [List.length_append]; simp; omega, hb3⟩⟩, f2.trans (.set (.inr rfl)), by rw [List.length_set]; exact l2⟩
    · (repeat with_reducible refine ws_skip ?_)
      exact draw_tail ne ha2 (by omega) hb2 h0 f2 l2
  · (repeat with_reducible refine ws_skip ?_)
    exact draw_tail ne ha1 hl hb1 h0 f1 l1
section
variable {L : Nat} {K : Hs → Prop} {h : Hs} {m : Int} {Q : D → Hs → Prop} {X : XQ} {d : D} {ds : List D}
theorem dr (S : St L K h) (sK : Stb L K) (m0 : 0 < m) (m1 : m < 1073741824) (c : ∀ r h', 0 ≤ r → r < m → St L K h' → Q (.int r) h') : Wp (c_draw [.ref 2, .int m] h) Q X := by
  refine wp_mono (draw_wp S.deck m0 m1) ?_ fun _ _ _ x => x.elim
  rintro d h' ⟨r, rfl, r0, r1, D, F, _⟩
  exact c r h' r0 r1 (S.frm sK D F)
end
theorem compR_map {e : Ev} {hs : Hs} {f : FI} {g : FG} {el : FE} {vs : List Nat} {Q : List D → Hs → Prop} {X : XQ} (F : D → D) (q : Wp (f e hs) (fun nx h => ∃ n LL, nx = nxR n ∧ h[n]? = some (.lst LL) ∧ LL.length ≤ 100000 ∧
    (∀ d ∈ LL, ∃ e', g d (wipeE e vs) = some e' ∧ Wp (el e' h) (fun y h' => y = F d ∧ h' = h) nX) ∧ Q (LL.map F) h) X) : Wp (lComp f g tYesF el vs e hs) Q X := by
  refine wp_comp (wp_mono q (fun nx h' q => ?_) fun _ _ _ x => x)
  obtain ⟨n, LL, rfl, hg, hl, hd, q⟩ := q
  refine ⟨LL.length, fun i acc h => h = h' ∧ acc = (LL.take i).map F, hl, ⟨rfl, rfl⟩, fun i acc h hi ⟨e1, e2⟩ => ?_, fun acc h ⟨e1, e2⟩ => ?_⟩
  · subst e1 e2
    obtain ⟨e', h1, h2⟩ := hd LL[i] (List.getElem_mem hi)
    refine ⟨LL[i], e', ?_, h1, ?_⟩
    · unfold nxR
      rw [hg]
      dsimp only
      rw [List.getElem?_eq_getElem hi]
    · refine wp_yes ⟨fun _ => ⟨by rw [List.length_map, List.length_take, sizeLine_eq]; omega, wp_mono h2 (fun y h3 ⟨z1, z2⟩ => ⟨z2, ?_⟩) fun _ _ _ x => x⟩, fun z => by cases z⟩
      rw [z1, List.take_succ_eq_append_getElem hi, List.map_append]; rfl
  · subst e1 e2
    refine ⟨?_, by rw [List.take_length]; exact q⟩
    unfold nxR
    rw [hg]
    dsimp only
    rw [List.getElem?_eq_none (Nat.le_refl _)]
theorem deck_wp {ns : List Int} (hl : ns.length ≤ 63) {Q : D → Hs → Prop} {X : XQ} (c : ∀ h, St 3 (fun _ => True) h → Q (.ref 2) h) : Wp (c_deck [.scr (ns.map .int)] []) Q X := by
  unfold c_deck f_deck
  refine wp_bodyE [some (.scr (ns.map .int)), none, none] rfl ?_
  have cut : ∀ h : Hs, gSl h (.scr (ns.map .int)) none (some 63) = some (.lst (ns.map .int)) := fun h => by
    show some (D.lst (cutX (ns.map D.int) none (some 63))) = _
    rw [cutX_all _ (by rw [List.length_map]; omega)]
  walk_at "s"
  refine ⟨_, rfl, ?_⟩
  refine wp_some (cut _) ?_
  refine wp_some seq_lst ?_
  show Ws (sRet _ [some (.scr (ns.map .int)), some (.ref 0), none] [O.lst (ns.map D.int)]) _
  walk_at "s"
  have g0 : ∀ {o : O}, ([O.lst (ns.map D.int)] ++ [o])[0]? = some (O.lst (ns.map D.int)) := rfl
  refine wp_some (x := (ns.map D.int).reverse) (by rw [rd_ref (h := [O.lst (ns.map D.int)]) (n := 0) rfl]; rfl) ?_
  walk_at "s"
  refine compR_map (modD 1000003) ?_
  walk_at "s"
  refine ⟨_, rfl, _, _, rfl, g0, by rw [List.length_map]; omega, fun d hd => ?_, ?_⟩
  · obtain ⟨i, _, rfl⟩ := List.mem_map.mp hd
    refine ⟨_, rfl, ?_⟩
    walk_at "s"
    exact wp_some (mod_int (by decide)) ⟨rfl, rfl⟩
  walk_at "s"
  refine wp_some (x := .int (ns.map (· % 1000003)).sum) ?_ ?_
  · show (match intsOf ((ns.map D.int).map (modD 1000003)) with | some ns => some (D.int ns.sum) | none => none) = _
    rw [intsOf_mod]
  walk_at "s"
  refine wp_some (len_seq (show seqOf _ (.ref 0) = some (ns.map D.int) from rfl)) ?_
  refine wp_some (mul_int rfl) ?_
  refine wp_some rfl ?_
  walk_at "s"
  refine c _ ⟨⟨by decide, ⟨(ns.map (· % 1000003)).sum + 7919 * ((ns.map D.int).length : Nat), 0, rfl⟩, ⟨ns.reverse, by rw [List.length_reverse]; omega, ?_⟩⟩, trivial, Nat.le_refl _⟩
  show some (O.lst (ns.map D.int).reverse) = _
  rw [List.map_reverse]
theorem deck_st {ns : List Int} (hl : ns.length ≤ 63) {Q : D → Hs → Prop} {X : XQ} (c : ∀ h, St 3 (fun _ => True) h → Q (.ref 2) h) : Wp (c_deck [.scr (ns.map .int)] []) Q X := deck_wp hl c
end K28

namespace K28
open PySem PySem.Spec L2 G
local macro_rules | `(tactic| walk_at "s1") => `(tactic| first
  | ((with_reducible apply wp_name); (case q => rfl))
  | with_reducible refine wp_c ?_
  | with_reducible refine wp_bin ?_
  | with_reducible refine wp_acons ?_
  | with_reducible refine wp_anil ?_
  | with_reducible refine wp_call ?_
  | with_reducible refine wp_fn ?_
  | with_reducible refine wp_fnK ?_
  | with_reducible refine wp_ev ?_
  | with_reducible refine wp_em ?_
  | with_reducible refine wp_tup ?_
  | with_reducible refine wp_eb ?_
  | with_reducible refine wp_et ?_
  | with_reducible refine wp_un ?_
  | with_reducible refine wp_chain ?_
  | with_reducible refine wp_and ?_
  | with_reducible refine wp_or ?_
  | with_reducible refine wp_not ?_
  | with_reducible refine wp_andF ?_
  | with_reducible refine wp_orF ?_
  | with_reducible refine wp_notF ?_
  | with_reducible refine wp_yes ?_
  | with_reducible refine wp_if ?_
  | with_reducible refine wp_sl ?_
  | with_reducible refine wp_onone ?_
  | with_reducible refine wp_osome ?_
  | with_reducible refine wp_rev ?_
  | with_reducible refine wp_list ?_
  | with_reducible refine wp_mt ?_
  | with_reducible refine wp_any ?_
  | with_reducible refine wp_r1 ?_
  | with_reducible refine wp_r2 ?_
  | with_reducible refine ws_seq ?_
  | with_reducible refine ws_set ?_
  | with_reducible refine ws_setC ?_
  | with_reducible refine ws_setCM ?_
  | with_reducible refine ws_if ?_
  | with_reducible refine ws_ret ?_
  | with_reducible refine ws_retN ?_
  | with_reducible refine ws_drop ?_
  | with_reducible refine ws_skip ?_
  | with_reducible refine ws_asg ?_
  | with_reducible refine ws_par ?_
  | with_reducible refine ws_sub ?_
  | with_reducible refine wp_body ?_)
local macro_rules | `(tactic| walk_at "s") => `(tactic| repeat (walk_at "s1"))
local macro_rules | `(tactic| walk_at "q") => `(tactic| first | assumption | decide | omega | rfl)
local macro_rules | `(tactic| walk_at "e1") => `(tactic| first
  | with_reducible refine wp_some add_i ?_
  | with_reducible refine wp_some sub_i ?_
  | with_reducible refine wp_some lt_i ?_
  | with_reducible refine wp_some le_i ?_
  | with_reducible refine wp_some gt_i ?_
  | with_reducible refine wp_some ge_i ?_
  | with_reducible refine wp_some eq_i ?_
  | with_reducible refine wp_some ne_i ?_
  | with_reducible refine wp_some eq_b ?_
  | with_reducible refine wp_some max_i ?_
  | with_reducible refine wp_some min_i ?_
  | with_reducible refine wp_some tup_tup ?_
  | with_reducible refine wp_some tup_lst ?_
  | with_reducible refine wp_some len_tup ?_
  | with_reducible refine wp_some len_lst ?_
  | with_reducible refine wp_some sl_tup ?_
  | with_reducible refine wp_some sl_lst ?_
  | with_reducible refine wp_some tru_b ?_
  | with_reducible refine wp_some repr_b ?_
  | with_reducible refine wp_eq_sb ?_
  | with_reducible refine wp_some seq_lst ?_
  | with_reducible refine wp_some seq_tup ?_
  | ((with_reducible apply wp_ix_tup); (case q => rfl))
  | ((with_reducible apply wp_ix_lst); (case q => rfl))
  | ((with_reducible apply wp_ix_ref); (case p => assumption); (case q => rfl))
  | with_reducible refine wp_some eq_s ?_
  | ((with_reducible refine wp_some (mod_int ?q) ?_); (case q => walk_at "q"))
  | ((with_reducible refine wp_some (div_int ?p ?q) ?_); (case p => walk_at "q"); (case q => walk_at "q"))
  | ((with_reducible refine wp_some (mul_int ?q) ?_); (case q => walk_at "q"))
  | ((with_reducible refine wp_some (add_tup ?q) ?_); (case q => first | omega | exact Nat.le_of_ble_eq_true rfl | (simp; done) | (simp; omega)))
  | ((with_reducible refine wp_some (add_lst ?q) ?_); (case q => first | omega | exact Nat.le_of_ble_eq_true rfl | (simp; done) | (simp; omega)))
  | with_reducible refine Exists.intro _ (And.intro rfl ?_)
  | with_reducible refine Exists.intro _ (Exists.intro _ (And.intro rfl ?_)))
local macro_rules | `(tactic| walk_at "g") => `(tactic| repeat (first | walk_at "s1" | walk_at "e1"))
local macro_rules | `(tactic| walk_at "h1") => `(tactic| first
  | with_reducible refine wp_some ne_b ?_
  | with_reducible refine wp_ne_sb ?_
  | with_reducible refine wp_d0t ?_
  | with_reducible refine wp_d0k ?_
  | with_reducible refine wp_d0 ?_
  | with_reducible refine wp_valsT ?_
  | with_reducible refine wp_some ne_s ?_
  | with_reducible refine wp_some reprA_b ?_
  | with_reducible refine wp_d1 ?_
  | with_reducible refine wp_some isi_non ?_
  | with_reducible refine wp_some isi_bl ?_
  | with_reducible refine wp_some isi_int ?_
  | with_reducible refine wp_some isi_str ?_
  | with_reducible refine wp_some isi_tup ?_
  | with_reducible refine wp_some isi_lst ?_
  | with_reducible refine wp_some isi_dct ?_)
local macro_rules | `(tactic| walk_at "k") => `(tactic| repeat (first | walk_at "s1" | walk_at "e1" | walk_at "h1"))
local macro_rules | `(tactic| walk_at "p") => `(tactic| first | assumption | (constructor; done) | exact pln_of (by assumption) | exact Sm.pln (by assumption))
local macro_rules | `(tactic| walk_at "b1") => `(tactic| first
  | exact nof
  | exact tnof
  | (refine And.intro ?_ tnof; intro _)
  | (refine And.intro nof ?_; intro _)
  | (refine And.intro ?_ ?_ <;> intro _))
local macro_rules | `(tactic| walk_at "P1") => `(tactic| first
  | ((with_reducible show Wp (c_is_whole _ _) _ _); refine wp_of (whole_eq ?p) ?_; (case p => walk_at "p"))
  | ((with_reducible show Wp (c_is_between _ _) _ _); refine wp_of (between_eq ?p) ?_; (case p => walk_at "p")))
local macro_rules | `(tactic| walk_at "b") => `(tactic| repeat' (first | walk_at "s1" | walk_at "e1" | walk_at "h1" | walk_at "P1" | walk_at "b1"))
local macro_rules | `(tactic| walk_at "z") => `(tactic| first
  | exact (show _ ∧ _ from ⟨rfl, rfl⟩)
  | (refine (show _ ∧ _ from ⟨?_, rfl⟩); first | (simp_all; done) | (simp_all <;> omega)))
local macro_rules | `(tactic| walk_at "bz") => `(tactic| (walk_at "b" <;> try walk_at "z"))
local macro_rules | `(tactic| walk_at "P1") => `(tactic| first
  | ((with_reducible show Wp (c_is_size _ _) _ _); refine wp_of (size_eq ?p) ?_; (case p => walk_at "p"))
  | ((with_reducible show Wp (c_is_moment _ _) _ _); refine wp_of (moment_eq ?p) ?_; (case p => walk_at "p"))
  | ((with_reducible show Wp (c_is_side _ _) _ _); refine wp_of (side_eq ?p) ?_; (case p => walk_at "p"))
  | ((with_reducible show Wp (c_is_grade _ _) _ _); refine wp_of (grade_eq ?p) ?_; (case p => walk_at "p"))
  | ((with_reducible show Wp (c_is_name _ _) _ _); refine wp_of (name_eq ?p ?q) ?_; (case p => walk_at "p"); (case q => first | assumption | omega))
  | ((with_reducible show Wp (c_is_ident _ _) _ _); refine wp_of (ident_eq ?p) ?_; (case p => assumption))
  | ((with_reducible show Wp (c_is_glove _ _) _ _); refine wp_of (glove_eq ?p ?q) ?_; (case p => assumption); (case q => first | assumption | omega)))
local macro_rules | `(tactic| walk_at "d1") => `(tactic| first
  | ((with_reducible show Wp (c_draw _ _) _ _); refine' dr ?s ?k ?a ?b ?_; (case s => assumption); (case k => assumption); (case a => first | decide | omega); (case b => first | decide | omega); intro _ _ _ _ _))
local macro_rules | `(tactic| walk_at "d") => `(tactic| repeat (first | walk_at "s1" | walk_at "e1" | walk_at "h1" | walk_at "P1" | walk_at "d1"))
local macro_rules | `(tactic| walk_at "db") => `(tactic| repeat' (first | walk_at "s1" | walk_at "e1" | walk_at "h1" | walk_at "P1" | walk_at "d1" | walk_at "b1"))
local macro_rules | `(tactic| walk_at "tl") => `(tactic| repeat' (first | assumption | omega | decide | (with_reducible refine len_half ?_ ?_) | (with_reducible refine lit_half ?_) | (with_reducible refine cut_half ?_) | (with_reducible refine T_half ?_)))
local macro_rules | `(tactic| walk_at "t1") => `(tactic| first
  | ((with_reducible refine wp_some (add_str ?q ?r) ?_); (case q => walk_at "tl"); (case r => walk_at "tl"))
  | ((with_reducible refine wp_some (sl_str ?q) ?_); (case q => walk_at "tl"))
  | ((with_reducible refine wp_some (len_str ?q) ?_); (case q => walk_at "tl"))
  | ((with_reducible refine wp_someP (upper_str ?q) ?_); (case q => walk_at "tl"))
  | ((with_reducible refine wp_some (str_int ?q) ?_); (case q => first | assumption | omega))
  | with_reducible refine wp_some rev_tup ?_
  | with_reducible refine wp_some rev_lst ?_
  | with_reducible refine wp_some is_bl ?_
  | with_reducible refine wp_some isN_bl ?_
  | with_reducible refine wp_some neg_i ?_
  | with_reducible refine wp_lAdd ?_
  | with_reducible refine And.intro rfl ?_)
local macro_rules | `(tactic| walk_at "d") => `(tactic| repeat (first | walk_at "s1" | walk_at "e1" | walk_at "h1" | walk_at "t1" | walk_at "P1" | walk_at "d1"))
local macro_rules | `(tactic| walk_at "db") => `(tactic| repeat' (first | walk_at "s1" | walk_at "e1" | walk_at "h1" | walk_at "t1" | walk_at "P1" | walk_at "d1" | walk_at "b1"))
local macro_rules | `(tactic| walk_at "dz") => `(tactic| (walk_at "db" <;> try walk_at "z"))
local macro_rules | `(tactic| walk_at "hg") => `(tactic| first | assumption | exact get_new | (refine get_app ?_; walk_at "hg") | (refine' get_set_eq ?e; (case e => walk_at "hg")) | (refine (get_set_ne ?_).trans ?_; (first | omega | (simp only [List.length_append, List.length_set, List.length_cons, List.length_nil]; omega)); walk_at "hg"))
local macro_rules | `(tactic| walk_at "st") => `(tactic| repeat' (first | assumption | (with_reducible refine St.wapp ?_ ?_) | (with_reducible refine St.wset ?_ ?_ ?_ ?_) | (simp only [List.length_append, List.length_set, List.length_cons, List.length_nil]; omega) | omega))
local macro_rules | `(tactic| walk_at "ll") => `(tactic| repeat' (first | assumption | omega | exact Nat.le_of_ble_eq_true rfl | (with_reducible refine app_half ?_ ?_) | (with_reducible refine cutL_half ?_) | (with_reducible refine rev_half ?_) | (with_reducible refine map_half ?_) | (with_reducible refine cons_half ?_ ?_)))
local macro_rules | `(tactic| walk_at "n1") => `(tactic| first
  | ((with_reducible show Wp (R.ofO _ _) _ _); first
    | with_reducible apply wp_some eq_same
    | with_reducible apply wp_some ne_same
    | with_reducible apply wp_some add_i
    | with_reducible apply wp_some sub_i
    | with_reducible apply wp_some lt_i
    | with_reducible apply wp_some le_i
    | with_reducible apply wp_some gt_i
    | with_reducible apply wp_some ge_i
    | with_reducible apply wp_some eq_i
    | with_reducible apply wp_some ne_i
    | with_reducible apply wp_some eq_b
    | with_reducible apply wp_some max_i
    | with_reducible apply wp_some min_i
    | with_reducible apply wp_some tup_tup
    | with_reducible apply wp_some tup_lst
    | with_reducible apply wp_some len_tup
    | with_reducible apply wp_some len_lst
    | with_reducible apply wp_some sl_tup
    | with_reducible apply wp_some sl_lst
    | with_reducible apply wp_some tru_b
    | with_reducible apply wp_some repr_b
    | with_reducible refine wp_eq_sb ?_
    | with_reducible apply wp_some seq_lst
    | with_reducible apply wp_some seq_tup
    | ((with_reducible apply wp_ix_tup); (case q => rfl))
    | ((with_reducible apply wp_ix_lst); (case q => rfl))
    | ((with_reducible apply wp_ix_ref); (case p => assumption); (case q => rfl))
    | with_reducible apply wp_some eq_s
    | ((with_reducible apply wp_some (mod_int ?q)); (case q => walk_at "q"))
    | ((with_reducible apply wp_some (div_int ?p ?q)); (case p => walk_at "q"); (case q => walk_at "q"))
    | ((with_reducible apply wp_some (mul_int ?q)); (case q => walk_at "q"))
    | ((with_reducible apply wp_some (add_tup2 ?a ?b)); (case a => walk_at "ll"); (case b => walk_at "ll"))
    | ((with_reducible apply wp_some (add_lst2 ?a ?b)); (case a => walk_at "ll"); (case b => walk_at "ll"))
    | with_reducible apply wp_some ne_b
    | with_reducible refine wp_ne_sb ?_
    | with_reducible apply wp_some ne_s
    | with_reducible apply wp_some reprA_b
    | with_reducible apply wp_some isi_non
    | with_reducible apply wp_some isi_bl
    | with_reducible apply wp_some isi_int
    | with_reducible apply wp_some isi_str
    | with_reducible apply wp_some isi_tup
    | with_reducible apply wp_some isi_lst
    | with_reducible apply wp_some isi_dct
    | ((with_reducible apply wp_some (add_str ?q ?r)); (case q => walk_at "tl"); (case r => walk_at "tl"))
    | ((with_reducible apply wp_some (sl_str ?q)); (case q => walk_at "tl"))
    | ((with_reducible apply wp_some (len_str ?q)); (case q => walk_at "tl"))
    | ((with_reducible apply wp_some (str_int ?q)); (case q => first | assumption | omega))
    | with_reducible apply wp_some rev_tup
    | with_reducible apply wp_some rev_lst
    | with_reducible apply wp_some is_bl
    | with_reducible apply wp_some isN_bl
    | with_reducible apply wp_some neg_i
    | ((with_reducible apply wp_some (isi_pln ?q)); (case q => walk_at "p"))
    | with_reducible apply wp_some pow6
    | with_reducible apply wp_some eqT_tup
    | ((with_reducible apply wp_some (rev_str ?q)); (case q => walk_at "tl"))
    | ((with_reducible apply wp_some (add_rl ?q ?a ?b)); (case q => walk_at "hg"); (case a => walk_at "ll"); (case b => walk_at "ll"))
    | ((with_reducible apply wp_some (add_lr ?q ?a ?b)); (case q => walk_at "hg"); (case a => walk_at "ll"); (case b => walk_at "ll"))
    | ((with_reducible apply wp_some (add_rr ?q ?r ?a ?b)); (case q => walk_at "hg"); (case r => walk_at "hg"); (case a => walk_at "ll"); (case b => walk_at "ll"))
    | with_reducible apply wp_some lst_lst
    | ((with_reducible apply wp_some (lst_ref ?q)); (case q => walk_at "hg"))
    | ((with_reducible apply wp_some (len_ref ?q)); (case q => walk_at "hg"))
    | ((with_reducible apply wp_some (tup_ref ?q)); (case q => walk_at "hg"))
    | with_reducible apply wp_some pow39
    | with_reducible apply wp_some pow30
    | with_reducible apply wp_some pow40
    | with_reducible apply wp_some tru_non
    | with_reducible apply wp_some tru_int
    | with_reducible apply wp_some tru_tup
    | ((with_reducible apply wp_some (tru_str ?q)); (case q => walk_at "tl"))
    | ((with_reducible apply wp_some (mulS_str ?a ?b ?d)); (case a => walk_at "tl"); (case b => walk_at "tl"); (case d => walk_at "tl"))
    | ((with_reducible apply wp_some (mulS_tupA ?a ?b ?c ?d)); (case a => walk_at "tl"); (case b => walk_at "tl"); (case c => first | rfl | assumption); (case d => walk_at "tl")))
  | ((with_reducible show Wp (R.ofP _) _ _); first
    | ((with_reducible apply wp_someP (app_ref2 ?e ?q)); (case e => walk_at "hg"); (case q => walk_at "ll"))
    | ((with_reducible apply wp_someP (upper_str ?q)); (case q => walk_at "tl")))
  | ((with_reducible show Ws _ _); first
    | with_reducible refine ws_seq ?_
    | with_reducible refine ws_set ?_
    | with_reducible refine ws_setC ?_
    | with_reducible refine ws_setCM ?_
    | with_reducible refine ws_if ?_
    | with_reducible refine ws_ret ?_
    | with_reducible refine ws_retN ?_
    | with_reducible refine ws_drop ?_
    | with_reducible refine ws_skip ?_
    | with_reducible refine ws_asg ?_
    | with_reducible refine ws_par ?_
    | with_reducible refine ws_sub ?_)
  | ((with_reducible refine' And.intro (isL_ref ?e) ?_); (case e => walk_at "hg"))
  | ((with_reducible refine And.intro (And.intro ?a ?b) ?_); (case a => walk_at "ll"); (case b => walk_at "ll"))
  | with_reducible refine Exists.intro _ (And.intro rfl ?_)
  | with_reducible refine Exists.intro _ (Exists.intro _ (And.intro rfl ?_))
  | with_reducible refine And.intro rfl ?_
  | ((with_reducible show Wp _ _ _); first
    | ((with_reducible apply wp_name); (case q => rfl))
    | with_reducible refine wp_c ?_
    | with_reducible refine wp_bin ?_
    | with_reducible refine wp_acons ?_
    | with_reducible refine wp_anil ?_
    | with_reducible refine wp_call ?_
    | with_reducible refine wp_fn ?_
    | with_reducible refine wp_fnK ?_
    | with_reducible refine wp_ev ?_
    | with_reducible refine wp_em ?_
    | with_reducible refine wp_tup ?_
    | with_reducible refine wp_eb ?_
    | with_reducible refine wp_et ?_
    | with_reducible refine wp_un ?_
    | with_reducible refine wp_chain ?_
    | with_reducible refine wp_and ?_
    | with_reducible refine wp_or ?_
    | with_reducible refine wp_not ?_
    | with_reducible refine wp_andF ?_
    | with_reducible refine wp_orF ?_
    | with_reducible refine wp_notF ?_
    | with_reducible refine wp_yes ?_
    | with_reducible refine wp_if ?_
    | with_reducible refine wp_sl ?_
    | with_reducible refine wp_onone ?_
    | with_reducible refine wp_osome ?_
    | with_reducible refine wp_rev ?_
    | with_reducible refine wp_list ?_
    | with_reducible refine wp_mt ?_
    | with_reducible refine wp_any ?_
    | with_reducible refine wp_r1 ?_
    | with_reducible refine wp_r2 ?_
    | with_reducible refine wp_body ?_
    | with_reducible refine wp_d0t ?_
    | with_reducible refine wp_d0k ?_
    | with_reducible refine wp_d0 ?_
    | with_reducible refine wp_valsT ?_
    | with_reducible refine wp_d1 ?_
    | with_reducible refine wp_lAdd ?_
    | walk_at "P1"
    | walk_at "d1")
  | ((fail_if_success (with_reducible show Ws _ _)); (fail_if_success (with_reducible show Wp _ _ _)); show Ws _ _))
local macro_rules | `(tactic| walk_at "n") => `(tactic| repeat (walk_at "n1"))
local macro_rules | `(tactic| walk_at "nb") => `(tactic| repeat' (first | walk_at "n1" | walk_at "b1"))
local macro_rules | `(tactic| walk_at "c") => `(tactic| first
  | assumption
  | (refine closeB (by assumption) ?_; first | rfl | (simp_all; done) | (simp_all <;> omega)))
local macro_rules | `(tactic| walk_at "nc") => `(tactic| (walk_at "nb" <;> try walk_at "c"))
local macro_rules | `(tactic| walk_at "n1") => `(tactic| first
  | with_reducible refine wp_iOf ?_
  | with_reducible apply wp_some neT_tup
  | with_reducible refine ex_ent ?_
  | with_reducible refine ex_enl ?_
  | with_reducible refine ex_zpt ?_
  | with_reducible refine ex_zpl ?_)
local macro_rules | `(tactic| walk_at "q") => `(tactic| exact Int.natCast_pos.mpr (Nat.succ_pos _))
local macro_rules | `(tactic| walk_at "hg") => `(tactic| with_reducible exact St.k2 (by assumption))
local macro_rules | `(tactic| walk_at "n1") => `(tactic| first
  | with_reducible refine wp_mk ?_
  | with_reducible refine wp_mth ?_
  | with_reducible refine wp_eown ?_
  | with_reducible refine ws_fld ?_
  | with_reducible refine wp_js1 ?_
  | with_reducible refine wp_js0 ?_)
local macro_rules | `(tactic| walk_at "n1") => `(tactic| first
  | with_reducible refine wp_lRep ?_
  | with_reducible apply wp_some sk_zones
  | with_reducible apply wp_some sk_stretch
  | with_reducible apply wp_some sk_grade)
local macro_rules | `(tactic| walk_at "n1") => `(tactic| first
  | with_reducible refine wp_orT ?_
  | with_reducible refine wp_andT ?_
  | with_reducible apply wp_some neL_lst
  | with_reducible apply wp_some int_bl
  | with_reducible apply wp_some ne_ss)
local macro_rules | `(tactic| walk_at "tl") => `(tactic| repeat' (first | assumption | omega | exact Nat.le_of_ble_eq_true rfl | (with_reducible refine len_half ?_ ?_) | (with_reducible refine lit_half ?_) | (with_reducible refine cut_half ?_) | (with_reducible refine T_half ?_) | (simp only [List.length_append, List.length_cons, List.length_nil]; omega)))
local macro_rules | `(tactic| walk_at "n1") => `(tactic| first
  | with_reducible refine wp_disp ?_
  | with_reducible refine wp_pCons ?_
  | with_reducible refine wp_pNil ?_
  | with_reducible refine wp_isO2 ?_)

section
variable {L : Nat} {K : Hs → Prop} {h : Hs} {Q : D → Hs → Prop} {X : XQ} {d : D}
theorem styles_wp (S : St L K h) (sK : Stb L K) (c : ∀ a b h', IsNm a → IsNm b → St L K h' → Q (.lst [a, b]) h') : Wp (c_styles [.ref 2] h) Q X := by
  unfold c_styles f_styles
  refine wp_bodyE [some (.ref 2), none, none, none, none, none, none] rfl ?_
  rw [abc_T]
  walk_at "n"
  rename_i way h1 w0 w1 S1
  refine wp_comp ?_
  walk_at "n"
  rename_i r h2 r0 r1 S2
  walk_at "n"
  refine ⟨okR_in (by omega) (by omega), (2 + r).toNat, fun i acc g => St L K g ∧ ∃ cs, acc = cs.map (fun c => D.str (T [c])) ∧ cs.length = i ∧ Lw cs, by omega, ⟨S2, [], rfl, rfl, fun _ h => by cases h⟩, ?_, ?_⟩
  · rintro i acc g hi ⟨S3, cs, rfl, hc, lw⟩
    refine ⟨_, _, nxN_some hi, rfl, wp_yes ⟨fun _ => ⟨by rw [List.length_map, sizeLine_eq]; omega, ?_⟩, fun h => by cases h⟩⟩
    walk_at "n"
    rename_i q h4 q0 q1 S4
    refine wp_some (ix_T (by decide) (abc_at q0 q1)) ⟨S4, cs ++ [q.toNat + 97], by rw [List.map_append]; rfl, by rw [List.length_append, hc]; rfl, lw.app fun c hc => ?_⟩
    rw [List.mem_singleton.mp hc]; omega
  rintro acc g ⟨S3, cs, rfl, hc, lw⟩
  refine ⟨nxN_stop, ?_⟩
  walk_at "n"
  refine wp_someP (join_T (by omega)) ?_
  walk_at "n"
  have tl1 : (T cs).length = cs.length := T_len cs
  rw [tl1]
  refine dr S3 sK (by omega) (by omega) fun at_ h5 a0 a1 S5 => ?_
  walk_at "n"
  obtain ⟨z, hza, hzm, hzg⟩ := atI_mem a0 (show at_ < cs.length by omega)
  have lz := lw z hzm
  refine wp_some (ix_T (by omega) hza) ?_
  walk_at "n"
  refine wp_someP (abc_index lz.1 lz.2) ?_
  walk_at "n"
  have b0 : 0 ≤ (((z - 97 : Nat) : Int) + 1) % 26 := Int.emod_nonneg _ (by decide)
  have b1 : (((z - 97 : Nat) : Int) + 1) % 26 < 26 := Int.emod_lt_of_pos _ (by decide)
  refine wp_some (ix_T (by decide) (abc_at b0 b1)) ?_
  generalize hsg : ((((z - 97 : Nat) : Int) + 1) % 26).toNat + 97 = sg
  have ls : Lw [sg] := fun c hc => by rw [List.mem_singleton.mp hc]; omega
  have n1 : IsNm (.str (T cs)) := ⟨cs, rfl, by omega, by omega, lw⟩
  have n2 : IsNm (.str (T [z])) := ⟨[z], rfl, Nat.le_refl _, Nat.le_of_ble_eq_true rfl, fun c hc => by rw [List.mem_singleton.mp hc]; exact lz⟩
  have n3 : IsNm (.str (T [sg])) := ⟨[sg], rfl, Nat.le_refl _, Nat.le_of_ble_eq_true rfl, ls⟩
  walk_at "n"
  refine ⟨fun _ => ?_, fun w => ?_⟩
  · walk_at "n"
    rename_i r2 h6 r20 r21 S6
    refine c _ _ _ n1 ?_ S6
    refine ⟨cutX cs none (some (1 + r2)), by rw [T_cut], ?_, ?_, lw.cut _ _⟩
    · rw [cutX_to cs (by omega), List.length_take]; omega
    · rw [cutX_to cs (by omega), List.length_take]; omega
  · have w := of_decide_eq_false w
    walk_at "n"
    refine wp_some (ix_T (by omega) hza) ?_
    walk_at "n"
    have l1 : (cutX cs none (some at_)).length = at_.toNat := by rw [cutX_to cs a0, List.length_take]; omega
    have l2 : (cutX cs (some (at_ + 1)) none).length = cs.length - (at_ + 1).toNat := by rw [cutX_from cs (by omega), List.length_drop]
    have n4 : IsNm (.str (cutS (T cs) none (some at_) ++ T [sg] ++ cutS (T cs) (some (at_ + 1)) none)) := by
      refine ⟨cutX cs none (some at_) ++ [sg] ++ cutX cs (some (at_ + 1)) none, by rw [T_cut, T_cut, T_add, T_add], ?_, ?_, ((lw.cut _ _).app ls).app (lw.cut _ _)⟩
      · rw [List.length_append, List.length_append, l1, l2, List.length_singleton]; omega
      · rw [List.length_append, List.length_append, l1, l2, List.length_singleton]; omega
    have : way = 1 ∨ way = 2 := by omega
    rcases this with rfl | rfl
    · refine wp_some rfl ?_
      exact c _ _ _ n1 n4 S5
    · refine wp_some rfl ?_
      exact c _ _ _ n2 n3 S5
def SdD (d : D) : Prop := ∃ sd, d = .str (T sd) ∧ IsSide sd
theorem sd_l : SdD (.str (T [108])) := ⟨_, rfl, .inl rfl⟩
theorem sd_r : SdD (.str (T [114])) := ⟨_, rfl, .inr rfl⟩
theorem b01 {b : Bool} : 0 ≤ (if b = true then (1 : Int) else 0) ∧ (if b = true then (1 : Int) else 0) < 2 := by cases b <;> decide
theorem gloves_wp {q : Int} (S : St L K h) (sK : Stb L K) (q0 : 0 ≤ q) (q1 : q ≤ 40)
    (c : ∀ gs h', (∀ g ∈ gs, g.Ok) → Un gs → gs.length ≤ q.toNat → St L K h' → Q (gtD gs) h') : Wp (c_gloves [.ref 2, .int q] h) Q X := by
  unfold c_gloves f_gloves
  refine wp_gcS S sK fun S0 sK0 => ?_
  refine wp_bodyE [some (.ref 2), some (.int q), none, none, none, none, none, none, none, none, none, none, none, none, none] rfl ?_
  rw [tl, trr]
  walk_at "n"
  rename_i way h1 w0 w1 S1 r h2 r0 r1 S2
  refine wp_ixP (IntIn 1 90) r0 r1 (all_cons (intIn (by decide) (by decide)) (all_cons (intIn (by decide) (by decide)) (all_cons (intIn (by decide) (by decide)) (all_cons (intIn (by decide) (by decide)) all_nil)))) ?_
  rintro _ ⟨st, rfl, st0, st1⟩
  walk_at "n"
  refine styles_wp S2 sK0 fun na nb h3 ha hb S3 => ?_
  walk_at "n"
  have S4 := S3.app (o := .dt []) sK0
  have hN0 := S0.lt
  have hN1 := S3.len
  generalize h3 ++ [O.dt []] = h4 at S4 ⊢
  generalize h3.length = N at S4 hN1 ⊢
  have hN : 2 < N := by omega
  have sKN := sK0.mono hN1
  refine ws_for ?_
  walk_at "n"
  refine ⟨okR_in (by omega) (by omega), ?_⟩
  refine ⟨q.toNat, fun i e g => ∃ gs x6 x7 x8 x9 x10 x11 x12 x13 x14, St (N + 1) (fun g => (K g ∧ Old h g) ∧ g[N]? = some (.dt (gs.map kvG))) g ∧ gs.length ≤ i ∧ (∀ g ∈ gs, g.Ok) ∧ Un gs ∧
    e = [some (.ref 2), some (.int q), some (.int way), some (.int st), some (.lst [na, nb]), some (.ref N), x6, x7, x8, x9, x10, x11, x12, x13, x14], by omega, ⟨[], _, _, _, _, _, _, _, _, _, S4, Nat.le_refl _, nofun, un_nil, rfl⟩, ?_, ?_⟩
  · rintro i _ g hi ⟨gs, x6, x7, x8, x9, x10, x11, x12, x13, x14, S, hl, hok, un, rfl⟩
    have sN : Stb (N + 1) (fun g => (K g ∧ Old h g) ∧ g[N]? = some (.dt (gs.map kvG))) := (sKN.mono (by omega)).and (stb_get hN (Nat.lt_succ_self _))
    refine ⟨_, _, nxN_some hi, rfl, ?_⟩
    walk_at "n"
    have m0 : 0 ≤ (0 + (i : Int)) % 2 := Int.emod_nonneg _ (by decide)
    have m1 : (0 + (i : Int)) % 2 < 2 := Int.emod_lt_of_pos _ (by decide)
    refine wp_ixP SdD m0 m1 (all_cons sd_l (all_cons sd_r all_nil)) ?_
    rintro a ha2
    walk_at "n"
    refine wp_ixP SdD b01.1 b01.2 (all_cons sd_r (all_cons sd_l all_nil)) ?_
    rintro b hb2
    walk_at "n"
    rename_i r3 h5 r30 r31 S5
    refine wp_ixP SdD r30 r31 (all_cons sd_l (all_cons sd_r (all_cons ha2 (all_cons hb2 all_nil)))) ?_
    rintro _ ⟨sd, rfl, hsd⟩
    walk_at "n"
    refine wp_ixP (IntIn 1 9) w0 w1 (all_cons (intIn (by decide) (by decide)) (all_cons (intIn (by decide) (by decide)) (all_cons (intIn (by decide) (by decide)) (all_cons (intIn (by decide) (by decide)) (all_cons (intIn (by decide) (by decide)) (all_cons (intIn (by decide) (by decide)) all_nil)))))) ?_
    rintro _ ⟨m6, rfl, m60, m61⟩
    walk_at "n"
    rename_i more h6 mo0 mo1 S6
    refine wp_ixP (IntIn 1 30) w0 w1 (all_cons (intIn (by decide) (by decide)) (all_cons (intIn (by decide) (by decide)) (all_cons (intIn (by decide) (by decide)) (all_cons (intIn (by decide) (by decide)) (all_cons (intIn (by decide) (by decide)) (all_cons (intIn (by decide) (by decide)) all_nil)))))) ?_
    rintro _ ⟨m7, rfl, m70, m71⟩
    refine wp_anil ?_
    refine dr S6 sN (by omega) (by omega) fun wide h7 wi0 wi1 S7 => ?_
    refine wp_anil ?_
    refine ⟨_, _, rfl, ?_⟩
    refine ws_seq ?_
    refine ws_set ?_
    refine wp_bin ?_
    refine wp_bin ?_
    walk_at "s"
    refine wp_some rfl ?_
    refine wp_bin ?_
    refine wp_bin ?_
    walk_at "s"
    refine wp_some (div_int (by decide) (by decide)) ?_
    have k0 : 0 ≤ (0 + (i : Int)) / 2 := by omega
    have k1 : (0 + (i : Int)) / 2 ≤ 20 := by omega
    generalize (0 + (i : Int)) / 2 = kk at k0 k1 ⊢
    walk_at "s"
    refine wp_some eq_i ?_
    walk_at "s"
    refine wp_some int_bl ?_
    have b1 := b01 (b := way == 1)
    generalize (if (way == 1) = true then (1 : Int) else 0) = bi at b1 ⊢
    refine wp_some (mul_int (by rw [small_of b1.1 (by omega), Bool.or_true])) ?_
    have kb0 : 0 ≤ kk * bi := Int.mul_nonneg k0 b1.1
    have kb1 : kk * bi ≤ 20 := by
      have : bi = 0 ∨ bi = 1 := by omega
      rcases this with e | e <;> rw [e] <;> omega
    generalize kk * bi = kb at kb0 kb1 ⊢
    refine wp_some rfl ?_
    obtain ⟨lw, elw⟩ : ∃ lw, lw = st + more + kb := ⟨_, rfl⟩
    rw [← elw]
    refine ws_cut (fun e k => k = h7 ∧ ∃ hi, lw ≤ hi ∧ hi ≤ 200 ∧ e = [some (.ref 2), some (.int q), some (.int way), some (.int st), some (.lst [na, nb]), some (.ref N), some (.int (0 + (i : Int))), some (.str (T sd)), some (.int more), some (.int wide), some (.int lw), some (.int hi), x12, x13, x14]) ?_ ?_
    · have lsd := hsd.lw
      walk_at "n"
      refine ⟨fun _ => ?_, fun _ => ?_⟩
      · walk_at "n"
        have b2 := b01 (b := T sd == T [114])
        exact ⟨_, by omega, by omega, rfl⟩
      · walk_at "n"
        exact ⟨_, by omega, by omega, rfl⟩
    rintro _ _ ⟨rfl, hi, hi0, hi1, rfl⟩
    walk_at "n"
    rename_i r8 h8 r80 r81 S8
    refine wp_ixP IsNm b01.1 b01.2 (all_cons ha (all_cons hb all_nil)) ?_
    rintro x hx
    obtain ⟨sy, rfl, hsy⟩ := nm_of hx
    walk_at "s"
    refine dr S8 sN (by decide) (by decide) fun r9 h9 r90 r91 S9 => ?_
    refine wp_ixP (IntIn 0 2) r90 r91 (all_cons (intIn (by decide) (by decide)) (all_cons (intIn (by decide) (by decide)) (all_cons (intIn (by decide) (by decide)) (all_cons (intIn (by decide) (by decide)) (all_cons (intIn (by decide) (by decide)) (all_cons (intIn (by decide) (by decide)) all_nil)))))) ?_
    rintro _ ⟨gr0, rfl, gr00, gr01⟩
    walk_at "n"
    have b2 := b01 (b := !way == 1)
    generalize (if (!way == 1) = true then (1 : Int) else 0) = bi2 at b2 ⊢
    refine wp_some (mul_int (by rw [small_of b2.1 (by omega), Bool.or_true])) ?_
    have gb0 : 0 ≤ gr0 * bi2 := Int.mul_nonneg gr00 b2.1
    have gb1 : gr0 * bi2 ≤ 2 := by
      have : bi2 = 0 ∨ bi2 = 1 := by omega
      rcases this with e | e <;> rw [e] <;> omega
    generalize gr0 * bi2 = gr at gb0 gb1 ⊢
    walk_at "s"
    refine dr S9 sN (by decide) (by decide) fun r10 h10 r100 r101 S10 => ?_
    refine wp_ixP (fun d => ∃ m : Nat, d = .int m ∧ m ≤ 999999) r100 r101 (all_cons ⟨0, rfl, by decide⟩ (all_cons ⟨1, rfl, by decide⟩ (all_cons ⟨35, rfl, by decide⟩ (all_cons ⟨36, rfl, by decide⟩ (all_cons ⟨999999, rfl, by decide⟩ all_nil))))) ?_
    rintro _ ⟨m, rfl, hm⟩
    walk_at "s"
    refine dr S10 sN (by decide) (by decide) fun r11 h11 r110 r111 S11 => ?_
    obtain ⟨nn, rfl⟩ : ∃ nn : Nat, r11 = nn := ⟨r11.toNat, by omega⟩
    walk_at "n"
    obtain ⟨a, ea, a0, a1⟩ : ∃ a : Int, (if lw < 99 then lw else 99) = a ∧ 0 ≤ a ∧ a ≤ 99 := ⟨_, rfl, by split <;> omega, by split <;> omega⟩
    rw [ea]
    obtain ⟨b, eb, b0, b1⟩ : ∃ b : Int, (if (if hi > a then hi else a) < 138 then (if hi > a then hi else a) else 138) = b ∧ a ≤ b ∧ b ≤ 138 := ⟨_, rfl, by split <;> split <;> omega, by split <;> split <;> omega⟩
    rw [eb]
    obtain ⟨gv, egv⟩ : ∃ gv : Gv, gv = ⟨m, nn, sd, sy, a, b, gr⟩ := ⟨_, rfl⟩
    have gok : gv.Ok := by
      subst egv
      exact ⟨hm, by show nn ≤ 99; omega, hsd, hsy, a0, b0, by show b ≤ 300; omega, gb0, by show gr ≤ 10; omega⟩
    refine ⟨_, set_dt (k := gv.ik) S11.keep.2 (by subst egv; rfl) (lt_line (by rw [List.length_map]; omega)), ?_⟩
    obtain ⟨gs', e1, e2, e3, e4⟩ := put_gv (g := gv) un
    have e5 : D.tup ([D.int (m : Nat), D.int (nn : Nat), D.str (T sd)] ++ [D.str (T sy), D.int a, D.int b, D.int gr]) = gv.d := by subst egv; rfl
    rw [e5, e1]
    exact ⟨gs', _, _, _, _, _, _, _, _, _, S11.put hN sKN, by omega, fun x hx => (e2 x hx).elim (fun z => z ▸ gok) (hok x), e3, rfl⟩
  · rintro _ g ⟨gs, x6, x7, x8, x9, x10, x11, x12, x13, x14, S, hl, hok, un, rfl⟩
    refine ⟨nxN_stop, ?_⟩
    walk_at "n"
    refine ⟨_, _, rfl, S.keep.2, ?_⟩
    rw [kvG_vals]
    walk_at "n"
    exact ⟨_, dW_val (val_gt ⟨hok, by omega⟩), S.off (by omega), fun h2 S2 => c gs h2 hok un hl S2⟩
end
end K28

namespace K28
open PySem PySem.Spec L2 G
local macro_rules | `(tactic| walk_at "s1") => `(tactic| first
  | ((with_reducible apply wp_name); (case q => rfl))
  | with_reducible refine wp_c ?_
  | with_reducible refine wp_bin ?_
  | with_reducible refine wp_acons ?_
  | with_reducible refine wp_anil ?_
  | with_reducible refine wp_call ?_
  | with_reducible refine wp_fn ?_
  | with_reducible refine wp_fnK ?_
  | with_reducible refine wp_ev ?_
  | with_reducible refine wp_em ?_
  | with_reducible refine wp_tup ?_
  | with_reducible refine wp_eb ?_
  | with_reducible refine wp_et ?_
  | with_reducible refine wp_un ?_
  | with_reducible refine wp_chain ?_
  | with_reducible refine wp_and ?_
  | with_reducible refine wp_or ?_
  | with_reducible refine wp_not ?_
  | with_reducible refine wp_andF ?_
  | with_reducible refine wp_orF ?_
  | with_reducible refine wp_notF ?_
  | with_reducible refine wp_yes ?_
  | with_reducible refine wp_if ?_
  | with_reducible refine wp_sl ?_
  | with_reducible refine wp_onone ?_
  | with_reducible refine wp_osome ?_
  | with_reducible refine wp_rev ?_
  | with_reducible refine wp_list ?_
  | with_reducible refine wp_mt ?_
  | with_reducible refine wp_any ?_
  | with_reducible refine wp_r1 ?_
  | with_reducible refine wp_r2 ?_
  | with_reducible refine ws_seq ?_
  | with_reducible refine ws_set ?_
  | with_reducible refine ws_setC ?_
  | with_reducible refine ws_setCM ?_
  | with_reducible refine ws_if ?_
  | with_reducible refine ws_ret ?_
  | with_reducible refine ws_retN ?_
  | with_reducible refine ws_drop ?_
  | with_reducible refine ws_skip ?_
  | with_reducible refine ws_asg ?_
  | with_reducible refine ws_par ?_
  | with_reducible refine ws_sub ?_
  | with_reducible refine wp_body ?_)
local macro_rules | `(tactic| walk_at "s") => `(tactic| repeat (walk_at "s1"))
local macro_rules | `(tactic| walk_at "q") => `(tactic| first | assumption | decide | omega | rfl)
local macro_rules | `(tactic| walk_at "e1") => `(tactic| first
  | with_reducible refine wp_some add_i ?_
  | with_reducible refine wp_some sub_i ?_
  | with_reducible refine wp_some lt_i ?_
  | with_reducible refine wp_some le_i ?_
  | with_reducible refine wp_some gt_i ?_
  | with_reducible refine wp_some ge_i ?_
  | with_reducible refine wp_some eq_i ?_
  | with_reducible refine wp_some ne_i ?_
  | with_reducible refine wp_some eq_b ?_
  | with_reducible refine wp_some max_i ?_
  | with_reducible refine wp_some min_i ?_
  | with_reducible refine wp_some tup_tup ?_
  | with_reducible refine wp_some tup_lst ?_
  | with_reducible refine wp_some len_tup ?_
  | with_reducible refine wp_some len_lst ?_
  | with_reducible refine wp_some sl_tup ?_
  | with_reducible refine wp_some sl_lst ?_
  | with_reducible refine wp_some tru_b ?_
  | with_reducible refine wp_some repr_b ?_
  | with_reducible refine wp_eq_sb ?_
  | with_reducible refine wp_some seq_lst ?_
  | with_reducible refine wp_some seq_tup ?_
  | ((with_reducible apply wp_ix_tup); (case q => rfl))
  | ((with_reducible apply wp_ix_lst); (case q => rfl))
  | ((with_reducible apply wp_ix_ref); (case p => assumption); (case q => rfl))
  | with_reducible refine wp_some eq_s ?_
  | ((with_reducible refine wp_some (mod_int ?q) ?_); (case q => walk_at "q"))
  | ((with_reducible refine wp_some (div_int ?p ?q) ?_); (case p => walk_at "q"); (case q => walk_at "q"))
  | ((with_reducible refine wp_some (mul_int ?q) ?_); (case q => walk_at "q"))
  | ((with_reducible refine wp_some (add_tup ?q) ?_); (case q => first | omega | exact Nat.le_of_ble_eq_true rfl | (simp; done) | (simp; omega)))
  | ((with_reducible refine wp_some (add_lst ?q) ?_); (case q => first | omega | exact Nat.le_of_ble_eq_true rfl | (simp; done) | (simp; omega)))
  | with_reducible refine Exists.intro _ (And.intro rfl ?_)
  | with_reducible refine Exists.intro _ (Exists.intro _ (And.intro rfl ?_)))
local macro_rules | `(tactic| walk_at "g") => `(tactic| repeat (first | walk_at "s1" | walk_at "e1"))
local macro_rules | `(tactic| walk_at "h1") => `(tactic| first
  | with_reducible refine wp_some ne_b ?_
  | with_reducible refine wp_ne_sb ?_
  | with_reducible refine wp_d0t ?_
  | with_reducible refine wp_d0k ?_
  | with_reducible refine wp_d0 ?_
  | with_reducible refine wp_valsT ?_
  | with_reducible refine wp_some ne_s ?_
  | with_reducible refine wp_some reprA_b ?_
  | with_reducible refine wp_d1 ?_
  | with_reducible refine wp_some isi_non ?_
  | with_reducible refine wp_some isi_bl ?_
  | with_reducible refine wp_some isi_int ?_
  | with_reducible refine wp_some isi_str ?_
  | with_reducible refine wp_some isi_tup ?_
  | with_reducible refine wp_some isi_lst ?_
  | with_reducible refine wp_some isi_dct ?_)
local macro_rules | `(tactic| walk_at "k") => `(tactic| repeat (first | walk_at "s1" | walk_at "e1" | walk_at "h1"))
local macro_rules | `(tactic| walk_at "p") => `(tactic| first | assumption | (constructor; done) | exact pln_of (by assumption) | exact Sm.pln (by assumption))
local macro_rules | `(tactic| walk_at "b1") => `(tactic| first
  | exact nof
  | exact tnof
  | (refine And.intro ?_ tnof; intro _)
  | (refine And.intro nof ?_; intro _)
  | (refine And.intro ?_ ?_ <;> intro _))
local macro_rules | `(tactic| walk_at "P1") => `(tactic| first
  | ((with_reducible show Wp (c_is_whole _ _) _ _); refine wp_of (whole_eq ?p) ?_; (case p => walk_at "p"))
  | ((with_reducible show Wp (c_is_between _ _) _ _); refine wp_of (between_eq ?p) ?_; (case p => walk_at "p")))
local macro_rules | `(tactic| walk_at "b") => `(tactic| repeat' (first | walk_at "s1" | walk_at "e1" | walk_at "h1" | walk_at "P1" | walk_at "b1"))
local macro_rules | `(tactic| walk_at "z") => `(tactic| first
  | exact (show _ ∧ _ from ⟨rfl, rfl⟩)
  | (refine (show _ ∧ _ from ⟨?_, rfl⟩); first | (simp_all; done) | (simp_all <;> omega)))
local macro_rules | `(tactic| walk_at "bz") => `(tactic| (walk_at "b" <;> try walk_at "z"))
local macro_rules | `(tactic| walk_at "P1") => `(tactic| first
  | ((with_reducible show Wp (c_is_size _ _) _ _); refine wp_of (size_eq ?p) ?_; (case p => walk_at "p"))
  | ((with_reducible show Wp (c_is_moment _ _) _ _); refine wp_of (moment_eq ?p) ?_; (case p => walk_at "p"))
  | ((with_reducible show Wp (c_is_side _ _) _ _); refine wp_of (side_eq ?p) ?_; (case p => walk_at "p"))
  | ((with_reducible show Wp (c_is_grade _ _) _ _); refine wp_of (grade_eq ?p) ?_; (case p => walk_at "p"))
  | ((with_reducible show Wp (c_is_name _ _) _ _); refine wp_of (name_eq ?p ?q) ?_; (case p => walk_at "p"); (case q => first | assumption | omega))
  | ((with_reducible show Wp (c_is_ident _ _) _ _); refine wp_of (ident_eq ?p) ?_; (case p => assumption))
  | ((with_reducible show Wp (c_is_glove _ _) _ _); refine wp_of (glove_eq ?p ?q) ?_; (case p => assumption); (case q => first | assumption | omega)))
local macro_rules | `(tactic| walk_at "d1") => `(tactic| first
  | ((with_reducible show Wp (c_draw _ _) _ _); refine' dr ?s ?k ?a ?b ?_; (case s => assumption); (case k => assumption); (case a => first | decide | omega); (case b => first | decide | omega); intro _ _ _ _ _))
local macro_rules | `(tactic| walk_at "d") => `(tactic| repeat (first | walk_at "s1" | walk_at "e1" | walk_at "h1" | walk_at "P1" | walk_at "d1"))
local macro_rules | `(tactic| walk_at "db") => `(tactic| repeat' (first | walk_at "s1" | walk_at "e1" | walk_at "h1" | walk_at "P1" | walk_at "d1" | walk_at "b1"))
local macro_rules | `(tactic| walk_at "tl") => `(tactic| repeat' (first | assumption | omega | decide | (with_reducible refine len_half ?_ ?_) | (with_reducible refine lit_half ?_) | (with_reducible refine cut_half ?_) | (with_reducible refine T_half ?_)))
local macro_rules | `(tactic| walk_at "t1") => `(tactic| first
  | ((with_reducible refine wp_some (add_str ?q ?r) ?_); (case q => walk_at "tl"); (case r => walk_at "tl"))
  | ((with_reducible refine wp_some (sl_str ?q) ?_); (case q => walk_at "tl"))
  | ((with_reducible refine wp_some (len_str ?q) ?_); (case q => walk_at "tl"))
  | ((with_reducible refine wp_someP (upper_str ?q) ?_); (case q => walk_at "tl"))
  | ((with_reducible refine wp_some (str_int ?q) ?_); (case q => first | assumption | omega))
  | with_reducible refine wp_some rev_tup ?_
  | with_reducible refine wp_some rev_lst ?_
  | with_reducible refine wp_some is_bl ?_
  | with_reducible refine wp_some isN_bl ?_
  | with_reducible refine wp_some neg_i ?_
  | with_reducible refine wp_lAdd ?_
  | with_reducible refine And.intro rfl ?_)
local macro_rules | `(tactic| walk_at "d") => `(tactic| repeat (first | walk_at "s1" | walk_at "e1" | walk_at "h1" | walk_at "t1" | walk_at "P1" | walk_at "d1"))
local macro_rules | `(tactic| walk_at "db") => `(tactic| repeat' (first | walk_at "s1" | walk_at "e1" | walk_at "h1" | walk_at "t1" | walk_at "P1" | walk_at "d1" | walk_at "b1"))
local macro_rules | `(tactic| walk_at "dz") => `(tactic| (walk_at "db" <;> try walk_at "z"))
local macro_rules | `(tactic| walk_at "hg") => `(tactic| first | assumption | exact get_new | (refine get_app ?_; walk_at "hg") | (refine' get_set_eq ?e; (case e => walk_at "hg")) | (refine (get_set_ne ?_).trans ?_; (first | omega | (simp only [List.length_append, List.length_set, List.length_cons, List.length_nil]; omega)); walk_at "hg"))
local macro_rules | `(tactic| walk_at "st") => `(tactic| repeat' (first | assumption | (with_reducible refine St.wapp ?_ ?_) | (with_reducible refine St.wset ?_ ?_ ?_ ?_) | (simp only [List.length_append, List.length_set, List.length_cons, List.length_nil]; omega) | omega))
local macro_rules | `(tactic| walk_at "ll") => `(tactic| repeat' (first | assumption | omega | exact Nat.le_of_ble_eq_true rfl | (with_reducible refine app_half ?_ ?_) | (with_reducible refine cutL_half ?_) | (with_reducible refine rev_half ?_) | (with_reducible refine map_half ?_) | (with_reducible refine cons_half ?_ ?_)))
local macro_rules | `(tactic| walk_at "n1") => `(tactic| first
  | ((with_reducible show Wp (R.ofO _ _) _ _); first
    | with_reducible apply wp_some eq_same
    | with_reducible apply wp_some ne_same
    | with_reducible apply wp_some add_i
    | with_reducible apply wp_some sub_i
    | with_reducible apply wp_some lt_i
    | with_reducible apply wp_some le_i
    | with_reducible apply wp_some gt_i
    | with_reducible apply wp_some ge_i
    | with_reducible apply wp_some eq_i
    | with_reducible apply wp_some ne_i
    | with_reducible apply wp_some eq_b
    | with_reducible apply wp_some max_i
    | with_reducible apply wp_some min_i
    | with_reducible apply wp_some tup_tup
    | with_reducible apply wp_some tup_lst
    | with_reducible apply wp_some len_tup
    | with_reducible apply wp_some len_lst
    | with_reducible apply wp_some sl_tup
    | with_reducible apply wp_some sl_lst
    | with_reducible apply wp_some tru_b
    | with_reducible apply wp_some repr_b
    | with_reducible refine wp_eq_sb ?_
    | with_reducible apply wp_some seq_lst
    | with_reducible apply wp_some seq_tup
    | ((with_reducible apply wp_ix_tup); (case q => rfl))
    | ((with_reducible apply wp_ix_lst); (case q => rfl))
    | ((with_reducible apply wp_ix_ref); (case p => assumption); (case q => rfl))
    | with_reducible apply wp_some eq_s
    | ((with_reducible apply wp_some (mod_int ?q)); (case q => walk_at "q"))
    | ((with_reducible apply wp_some (div_int ?p ?q)); (case p => walk_at "q"); (case q => walk_at "q"))
    | ((with_reducible apply wp_some (mul_int ?q)); (case q => walk_at "q"))
    | ((with_reducible apply wp_some (add_tup2 ?a ?b)); (case a => walk_at "ll"); (case b => walk_at "ll"))
    | ((with_reducible apply wp_some (add_lst2 ?a ?b)); (case a => walk_at "ll"); (case b => walk_at "ll"))
    | with_reducible apply wp_some ne_b
    | with_reducible refine wp_ne_sb ?_
    | with_reducible apply wp_some ne_s
    | with_reducible apply wp_some reprA_b
    | with_reducible apply wp_some isi_non
    | with_reducible apply wp_some isi_bl
    | with_reducible apply wp_some isi_int
    | with_reducible apply wp_some isi_str
    | with_reducible apply wp_some isi_tup
    | with_reducible apply wp_some isi_lst
    | with_reducible apply wp_some isi_dct
    | ((with_reducible apply wp_some (add_str ?q ?r)); (case q => walk_at "tl"); (case r => walk_at "tl"))
    | ((with_reducible apply wp_some (sl_str ?q)); (case q => walk_at "tl"))
    | ((with_reducible apply wp_some (len_str ?q)); (case q => walk_at "tl"))
    | ((with_reducible apply wp_some (str_int ?q)); (case q => first | assumption | omega))
    | with_reducible apply wp_some rev_tup
    | with_reducible apply wp_some rev_lst
    | with_reducible apply wp_some is_bl
    | with_reducible apply wp_some isN_bl
    | with_reducible apply wp_some neg_i
    | ((with_reducible apply wp_some (isi_pln ?q)); (case q => walk_at "p"))
    | with_reducible apply wp_some pow6
    | with_reducible apply wp_some eqT_tup
    | ((with_reducible apply wp_some (rev_str ?q)); (case q => walk_at "tl"))
    | ((with_reducible apply wp_some (add_rl ?q ?a ?b)); (case q => walk_at "hg"); (case a => walk_at "ll"); (case b => walk_at "ll"))
    | ((with_reducible apply wp_some (add_lr ?q ?a ?b)); (case q => walk_at "hg"); (case a => walk_at "ll"); (case b => walk_at "ll"))
    | ((with_reducible apply wp_some (add_rr ?q ?r ?a ?b)); (case q => walk_at "hg"); (case r => walk_at "hg"); (case a => walk_at "ll"); (case b => walk_at "ll"))
    | with_reducible apply wp_some lst_lst
    | ((with_reducible apply wp_some (lst_ref ?q)); (case q => walk_at "hg"))
    | ((with_reducible apply wp_some (len_ref ?q)); (case q => walk_at "hg"))
    | ((with_reducible apply wp_some (tup_ref ?q)); (case q => walk_at "hg"))
    | with_reducible apply wp_some pow39
    | with_reducible apply wp_some pow30
    | with_reducible apply wp_some pow40
    | with_reducible apply wp_some tru_non
    | with_reducible apply wp_some tru_int
    | with_reducible apply wp_some tru_tup
    | ((with_reducible apply wp_some (tru_str ?q)); (case q => walk_at "tl"))
    | ((with_reducible apply wp_some (mulS_str ?a ?b ?d)); (case a => walk_at "tl"); (case b => walk_at "tl"); (case d => walk_at "tl"))
    | ((with_reducible apply wp_some (mulS_tupA ?a ?b ?c ?d)); (case a => walk_at "tl"); (case b => walk_at "tl"); (case c => first | rfl | assumption); (case d => walk_at "tl")))
  | ((with_reducible show Wp (R.ofP _) _ _); first
    | ((with_reducible apply wp_someP (app_ref2 ?e ?q)); (case e => walk_at "hg"); (case q => walk_at "ll"))
    | ((with_reducible apply wp_someP (upper_str ?q)); (case q => walk_at "tl")))
  | ((with_reducible show Ws _ _); first
    | with_reducible refine ws_seq ?_
    | with_reducible refine ws_set ?_
    | with_reducible refine ws_setC ?_
    | with_reducible refine ws_setCM ?_
    | with_reducible refine ws_if ?_
    | with_reducible refine ws_ret ?_
    | with_reducible refine ws_retN ?_
    | with_reducible refine ws_drop ?_
    | with_reducible refine ws_skip ?_
    | with_reducible refine ws_asg ?_
    | with_reducible refine ws_par ?_
    | with_reducible refine ws_sub ?_)
  | ((with_reducible refine' And.intro (isL_ref ?e) ?_); (case e => walk_at "hg"))
  | ((with_reducible refine And.intro (And.intro ?a ?b) ?_); (case a => walk_at "ll"); (case b => walk_at "ll"))
  | with_reducible refine Exists.intro _ (And.intro rfl ?_)
  | with_reducible refine Exists.intro _ (Exists.intro _ (And.intro rfl ?_))
  | with_reducible refine And.intro rfl ?_
  | ((with_reducible show Wp _ _ _); first
    | ((with_reducible apply wp_name); (case q => rfl))
    | with_reducible refine wp_c ?_
    | with_reducible refine wp_bin ?_
    | with_reducible refine wp_acons ?_
    | with_reducible refine wp_anil ?_
    | with_reducible refine wp_call ?_
    | with_reducible refine wp_fn ?_
    | with_reducible refine wp_fnK ?_
    | with_reducible refine wp_ev ?_
    | with_reducible refine wp_em ?_
    | with_reducible refine wp_tup ?_
    | with_reducible refine wp_eb ?_
    | with_reducible refine wp_et ?_
    | with_reducible refine wp_un ?_
    | with_reducible refine wp_chain ?_
    | with_reducible refine wp_and ?_
    | with_reducible refine wp_or ?_
    | with_reducible refine wp_not ?_
    | with_reducible refine wp_andF ?_
    | with_reducible refine wp_orF ?_
    | with_reducible refine wp_notF ?_
    | with_reducible refine wp_yes ?_
    | with_reducible refine wp_if ?_
    | with_reducible refine wp_sl ?_
    | with_reducible refine wp_onone ?_
    | with_reducible refine wp_osome ?_
    | with_reducible refine wp_rev ?_
    | with_reducible refine wp_list ?_
    | with_reducible refine wp_mt ?_
    | with_reducible refine wp_any ?_
    | with_reducible refine wp_r1 ?_
    | with_reducible refine wp_r2 ?_
    | with_reducible refine wp_body ?_
    | with_reducible refine wp_d0t ?_
    | with_reducible refine wp_d0k ?_
    | with_reducible refine wp_d0 ?_
    | with_reducible refine wp_valsT ?_
    | with_reducible refine wp_d1 ?_
    | with_reducible refine wp_lAdd ?_
    | walk_at "P1"
    | walk_at "d1")
  | ((fail_if_success (with_reducible show Ws _ _)); (fail_if_success (with_reducible show Wp _ _ _)); show Ws _ _))
local macro_rules | `(tactic| walk_at "n") => `(tactic| repeat (walk_at "n1"))
local macro_rules | `(tactic| walk_at "nb") => `(tactic| repeat' (first | walk_at "n1" | walk_at "b1"))
local macro_rules | `(tactic| walk_at "c") => `(tactic| first
  | assumption
  | (refine closeB (by assumption) ?_; first | rfl | (simp_all; done) | (simp_all <;> omega)))
local macro_rules | `(tactic| walk_at "nc") => `(tactic| (walk_at "nb" <;> try walk_at "c"))
local macro_rules | `(tactic| walk_at "n1") => `(tactic| first
  | with_reducible refine wp_iOf ?_
  | with_reducible apply wp_some neT_tup
  | with_reducible refine ex_ent ?_
  | with_reducible refine ex_enl ?_
  | with_reducible refine ex_zpt ?_
  | with_reducible refine ex_zpl ?_)
local macro_rules | `(tactic| walk_at "q") => `(tactic| exact Int.natCast_pos.mpr (Nat.succ_pos _))
local macro_rules | `(tactic| walk_at "hg") => `(tactic| with_reducible exact St.k2 (by assumption))
local macro_rules | `(tactic| walk_at "n1") => `(tactic| first
  | with_reducible refine wp_mk ?_
  | with_reducible refine wp_mth ?_
  | with_reducible refine wp_eown ?_
  | with_reducible refine ws_fld ?_
  | with_reducible refine wp_js1 ?_
  | with_reducible refine wp_js0 ?_)
local macro_rules | `(tactic| walk_at "n1") => `(tactic| first
  | with_reducible refine wp_lRep ?_
  | with_reducible apply wp_some sk_zones
  | with_reducible apply wp_some sk_stretch
  | with_reducible apply wp_some sk_grade)
local macro_rules | `(tactic| walk_at "n1") => `(tactic| first
  | with_reducible refine wp_orT ?_
  | with_reducible refine wp_andT ?_
  | with_reducible apply wp_some neL_lst
  | with_reducible apply wp_some int_bl
  | with_reducible apply wp_some ne_ss)
local macro_rules | `(tactic| walk_at "tl") => `(tactic| repeat' (first | assumption | omega | exact Nat.le_of_ble_eq_true rfl | (with_reducible refine len_half ?_ ?_) | (with_reducible refine lit_half ?_) | (with_reducible refine cut_half ?_) | (with_reducible refine T_half ?_) | (simp only [List.length_append, List.length_cons, List.length_nil]; omega)))
local macro_rules | `(tactic| walk_at "n1") => `(tactic| first
  | with_reducible refine wp_disp ?_
  | with_reducible refine wp_pCons ?_
  | with_reducible refine wp_pNil ?_
  | with_reducible refine wp_isO2 ?_)

section
variable {L : Nat} {K : Hs → Prop} {h : Hs} {Q : D → Hs → Prop} {X : XQ} {d : D} {a b : Gv} {gs : List Gv}
theorem on_lh (o : a.Ok) (o' : b.Ok) : onG a b = (decide (a.lo ≤ b.hi) && decide (b.lo ≤ a.hi)) := by
  have := o.lh; have := o'.lh
  unfold onG
  rw [Bool.eq_iff_iff, Bool.and_eq_true, decide_eq_true_iff, decide_eq_true_iff, decide_eq_true_iff]
  constructor
  · intro h; split at h <;> split at h <;> omega
  · intro h; split <;> split <;> omega
theorem not_both (o : IsSide a.sd) (o' : IsSide b.sd) : gNotInT h (.tup [.str (T a.sd), .str (T b.sd)]) (.tup [.tup [.str (T [108]), .str (T [114])], .tup [.str (T [114]), .str (T [108])]]) = some (.bl (T a.sd == T b.sd)) := by
  have e : inTD h (.tup [.str (T a.sd), .str (T b.sd)]) (.tup [.tup [.str (T [108]), .str (T [114])], .tup [.str (T [114]), .str (T [108])]]) = some (!(T a.sd == T b.sd)) := by
    rcases o with o | o <;> rcases o' with o' | o' <;> rw [o, o'] <;> exact inTD_c rfl rfl (by decide +kernel) (by decide +kernel)
  unfold gNotInT
  rw [e]
  show some (D.bl (!!_)) = _
  rw [Bool.not_not]
theorem lmatch_eq (o : a.Ok) (o' : b.Ok) : c_l_do_match [a.d, b.d] h = .ok (.bl (mtG a b)) h := by
  have a1 := (side_len o.sd).2
  have a2 := (side_len o'.sd).2
  have a3 := o.st.2.2
  have a4 := o'.st.2.2
  refine eq_any fun Q X c => ?_
  unfold c_l_do_match f_l_do_match
  refine wp_bodyE [some a.d, some b.d] rfl ?_
  unfold mtG at c
  rw [on_lh o o'] at c
  rw [tl, trr]
  walk_at "n"
  refine wp_some (not_both o.sd o'.sd) ?_
  walk_at "n"
  generalize (T a.sd == T b.sd) = b1 at c ⊢
  cases b1 with
  | true =>
    refine ⟨fun _ => ⟨fun _ => ?_, tnof⟩, tnof⟩
    walk_at "n"
    exact c
  | false =>
    refine ⟨nof, fun _ => ?_⟩
    walk_at "n"
    generalize (T a.st == T b.st) = b2 at c ⊢
    cases b2 with
    | false =>
      refine ⟨fun _ => ⟨fun _ => ?_, tnof⟩, tnof⟩
      walk_at "n"
      exact c
    | true =>
      refine ⟨nof, fun _ => ?_⟩
      walk_at "n"
      generalize (a.gr == b.gr) = b3 at c ⊢
      cases b3 with
      | false =>
        refine ⟨fun _ => ?_, tnof⟩
        walk_at "n"
        exact c
      | true =>
        refine ⟨nof, fun _ => ?_⟩
        walk_at "n"
        generalize decide (a.lo ≤ b.hi) = b4 at c ⊢
        cases b4 with
        | false => exact ⟨nof, fun _ => c⟩
        | true =>
          refine ⟨fun _ => ?_, tnof⟩
          walk_at "n"
          exact c
theorem lside_eq {s : List Nat} (hs : Lw s) (al : AllG gs) : c_l_of_side [gtD gs, .str (T s)] h = .ok (.lst ((sideG s gs).map Gv.d)) h := by
  refine eq_any fun Q X c => ?_
  unfold c_l_of_side f_l_of_side
  refine wp_bodyE [some (gtD gs), some (.str (T s)), none] rfl ?_
  walk_at "n"
  refine wp_cga Gv.d (fun g => T g.sd == T s) Gv.d ?_
  walk_at "n"
  refine wp_sortA ?_
  walk_at "n"
  refine wp_some (sort_gt al) ?_
  walk_at "n"
  have l2 := al.sort.2
  refine ⟨by omega, fun g hg => ⟨_, rfl, ?_⟩, c⟩
  have o := al.sort.1 g hg
  have := (side_len o.sd).2
  walk_at "n"
  refine fun _ => ?_
  walk_at "n"
  first | exact rfl | exact ⟨rfl, rfl⟩
def chD (s : List Nat) : D := .tup (s.map MT.nI)
def chsD (n : Nat) : D := .lst ((chs n).map chD)
theorem pow_le {n : Nat} (h : n ≤ 12) : 2 ^ n ≤ 4096 := Nat.pow_le_pow_right (by decide) h
theorem choices_eq {n : Nat} (hn : n ≤ 12) : c_choices [.int (n : Nat)] h = .ok (chsD n) h := by
  refine eq_any fun Q X c => ?_
  unfold c_choices f_choices
  refine wp_bodyE [some (.int (n : Nat)), none, none, none] rfl ?_
  walk_at "n"
  refine ws_for ?_
  refine wp_r1 ?_
  walk_at "s"
  refine ⟨_, rfl, okR_in (by omega) (by omega), n, fun i e g => g = h ∧ ∃ x2 x3, e = [some (.int (n : Nat)), some (chsD i), x2, x3], by omega, ⟨rfl, _, _, rfl⟩, ?_, ?_⟩
  · rintro i _ g hi ⟨rfl, x2, x3, rfl⟩
    refine ⟨_, _, nxN_some (by omega), rfl, ?_⟩
    refine ws_set ?_
    refine wp_bin ?_
    walk_at "s"
    refine wp_cma chD (fun s => chD (s ++ [i])) ?_
    refine wp_any ?_
    walk_at "s"
    have l1 : (chs i).length ≤ 4096 := by rw [chs_len]; exact pow_le (by omega)
    refine ⟨_, rfl, chs i, rfl, by omega, fun s hs => ⟨_, rfl, ?_⟩, ?_⟩
    · have l2 : s.length ≤ 20 := by
        have := MT.nd_len (chs_in _ s hs).1 (chs_in _ s hs).2
        omega
      walk_at "s"
      refine wp_some (add_tup (by rw [List.length_map]; show s.length + 1 ≤ _; omega)) ⟨?_, rfl⟩
      unfold chD
      rw [List.map_append, Int.zero_add]; rfl
    · refine wp_some (add_lst (by rw [List.length_map, List.length_map]; omega)) ?_
      refine ⟨rfl, some (.int (0 + (i : Int))), x3, ?_⟩
      have e1 : D.lst ((chs i).map chD ++ (chs i).map fun s => chD (s ++ [i])) = chsD (i + 1) := by
        unfold chsD
        show _ = D.lst ((chs i ++ (chs i).map fun s => s ++ [i]).map chD)
        rw [List.map_append, List.map_map]; rfl
      rw [← e1]; rfl
  · rintro _ g ⟨rfl, x2, x3, rfl⟩
    refine ⟨by rw [Int.toNat_natCast]; exact nxN_stop, ?_⟩
    walk_at "n"
    exact c
open MT in
theorem mrg_any : ∀ (N S : List Nat), S.Nodup → ∃ S', mrgG (kS S) (kS N) = kS S' ∧ S'.Nodup ∧ (∀ r, r ∈ S' ↔ r ∈ S ∨ r ∈ N) ∧ S'.length ≤ S.length + N.length
  | [], S, n => ⟨S, rfl, n, fun r => ⟨.inl, fun z => z.elim (fun w => w) (fun w => absurd w List.not_mem_nil)⟩, Nat.le_refl _⟩
  | y :: N, S, n => by
    show ∃ S', mrgG (putG (kS S) (.inl (y : Int)) (.bl true)) (kS N) = kS S' ∧ _
    by_cases hy : y ∈ S
    · have e : putG (kS S) (.inl (y : Int)) (.bl true) = kS S := by
        unfold putG
        rw [if_pos]
        · unfold kS
          rw [List.map_map]
          refine List.map_congr_left fun x _ => ?_
          show (if (Sum.inl (x : Int) : Key) = .inl (y : Int) then ((Sum.inl (x : Int) : Key), D.bl true) else (Sum.inl (x : Int), D.bl true)) = _
          split <;> rfl
        · refine List.any_eq_true.mpr ⟨(.inl (y : Int), .bl true), List.mem_map.mpr ⟨y, hy, rfl⟩, ?_⟩
          exact decide_eq_true rfl
      rw [e]
      obtain ⟨S', h1, h2, h3, h4⟩ := mrg_any N S n
      refine ⟨S', h1, h2, fun r => ?_, by rw [List.length_cons]; omega⟩
      rw [h3, List.mem_cons]
      constructor
      · rintro (h | h)
        · exact .inl h
        · exact .inr (.inr h)
      · rintro (h | h | h)
        · exact .inl h
        · rw [h]; exact .inl hy
        · exact .inr h
    · rw [put_S hy]
      obtain ⟨S', h1, h2, h3, h4⟩ := mrg_any N (S ++ [y]) (snoc_nd n hy)
      refine ⟨S', h1, h2, fun r => ?_, by rw [List.length_append] at h4; rw [List.length_cons]; simp at h4; omega⟩
      rw [h3, List.mem_append, List.mem_singleton, List.mem_cons, or_assoc]
open MT in
theorem dictP_any (N : List Nat) : ∃ S, gDictP (N.map prD) = some (.dlk ((kS S).map (·.1)) ((kS S).map (·.2))) ∧ S.Nodup ∧ (∀ r, r ∈ S ↔ r ∈ N) ∧ S.length ≤ N.length := by
  obtain ⟨S, h1, h2, h3, h4⟩ := mrg_any N [] .nil
  refine ⟨S, ?_, h2, fun r => ?_, by simpa using h4⟩
  · unfold gDictP
    rw [pairs_S]
    dsimp only
    rw [show (mrgG [] (kS N)) = kS S from h1]
  · rw [h3]
    exact ⟨fun z => z.elim (fun w => absurd w List.not_mem_nil) (fun w => w), .inr⟩
theorem hit_nil {N : List (List Nat)} : Hit N [] [] := ⟨.nil, fun r => ⟨fun z => absurd z List.not_mem_nil, fun ⟨x, hx, _⟩ => absurd hx List.not_mem_nil⟩⟩
open MT in
theorem most_wp (al : AllG gs) (l12 : gs.length ≤ 12) (c : ∀ v A B, (A = sideG [108] gs ∧ B = sideG [114] gs ∨ A = sideG [114] gs ∧ B = sideG [108] gs) → (∀ s ∈ chs A.length, ∃ U, Hit (nearG A B) s U ∧ v ≤ A.length - s.length + U.length) →
    (∃ s ∈ chs A.length, ∃ U, Hit (nearG A B) s U ∧ v = A.length - s.length + U.length) → Q (.int (v : Nat)) h) : Wp (c_most [gtD gs] h) Q X := by
  have okA : ∀ s, (∀ g ∈ sideG s gs, g.Ok) ∧ (sideG s gs).length ≤ 12 := fun s => ⟨fun g hg => al.sort.1 g (List.mem_filter.mp hg).1, Nat.le_trans (List.length_filter_le _ _) (by rw [(sortG_perm gs).length_eq]; exact l12)⟩
  unfold c_most f_most
  refine wp_gcF (wp_mono (Q := fun d h1 => ∃ (v : Nat) (A B : List Gv) (t : Hs), d = .int v ∧ h1 = h ++ t ∧ (A = sideG [108] gs ∧ B = sideG [114] gs ∨ A = sideG [114] gs ∧ B = sideG [108] gs) ∧ (∀ s ∈ chs A.length, ∃ U, Hit (nearG A B) s U ∧ v ≤ A.length - s.length + U.length) ∧
    (∃ s ∈ chs A.length, ∃ U, Hit (nearG A B) s U ∧ v = A.length - s.length + U.length)) (X := fun _ _ _ => False) ?_ (fun d h1 z => ?_) fun _ _ _ x => x.elim)
  · refine wp_bodyE [some (gtD gs), none, none, none, none, none, none, none, none, none, none, none] rfl ?_
    rw [tl, trr]
    walk_at "n"
    refine wp_of (lside_eq (fun x hx => by rw [List.mem_singleton.mp hx]; exact ⟨by decide, by decide⟩) al) ?_
    walk_at "n"
    refine wp_of (lside_eq (fun x hx => by rw [List.mem_singleton.mp hx]; exact ⟨by decide, by decide⟩) al) ?_
    walk_at "n"
    have ln : ∀ L : List Gv, ∀ h : Hs, gLenA h [.lst (L.map Gv.d)] = some (.int L.length) := fun L h => by
      unfold gLenA dkR
      refine (len_seq seq_lst).trans ?_
      rw [List.length_map]
    refine wp_some (ln _ _) ?_
    walk_at "n"
    refine wp_some (ln _ _) ?_
    walk_at "n"
    refine wp_ixP (fun d => ∃ A B, d = .tup [.lst (A.map Gv.d), .lst (B.map Gv.d)] ∧ (A = sideG [108] gs ∧ B = sideG [114] gs ∨ A = sideG [114] gs ∧ B = sideG [108] gs)) b01.1 b01.2 (all_cons ⟨_, _, rfl, .inl ⟨rfl, rfl⟩⟩ (all_cons ⟨_, _, rfl, .inr ⟨rfl, rfl⟩⟩ all_nil)) ?_
    rintro _ ⟨A, B, rfl, hAB⟩
    have oA : (∀ g ∈ A, g.Ok) ∧ A.length ≤ 12 ∧ (∀ g ∈ B, g.Ok) ∧ B.length ≤ 12 := by
      rcases hAB with ⟨rfl, rfl⟩ | ⟨rfl, rfl⟩
      · exact ⟨(okA _).1, (okA _).2, (okA _).1, (okA _).2⟩
      · exact ⟨(okA _).1, (okA _).2, (okA _).1, (okA _).2⟩
    obtain ⟨oa, la, ob, lb⟩ := oA
    obtain ⟨e1, he1⟩ : ∃ d, d = D.lst ((sideG [108] gs).map Gv.d) := ⟨_, rfl⟩
    obtain ⟨e2, he2⟩ : ∃ d, d = D.lst ((sideG [114] gs).map Gv.d) := ⟨_, rfl⟩
    rw [← he1, ← he2]
    walk_at "n"
    refine wp_cma Gv.d (fun g => rowD (idxs (mtG g) B)) ?_
    walk_at "n"
    refine ⟨by omega, fun g hg => ⟨_, rfl, ?_⟩, ?_⟩
    · walk_at "n"
      refine wp_cga (fun p : Gv × Nat => D.tup [.int (p.2 : Nat), p.1.d]) (fun p => mtG g p.1) (fun p => .int (p.2 : Nat)) ?_
      refine wp_iOf ?_
      walk_at "n"
      rw [enumL_map]
      refine ⟨B.zipIdx, rfl, by rw [List.length_zipIdx]; omega, fun p hp => ⟨_, rfl, ?_⟩, ?_⟩
      · have hb := ob p.1 (List.fst_mem_of_mem_zipIdx hp)
        walk_at "n"
        refine wp_of (lmatch_eq (oa g hg) hb) ?_
        walk_at "n"
        refine fun _ => ?_
        walk_at "n"
        first | exact rfl | exact ⟨rfl, rfl⟩
      · refine ⟨?_, rfl⟩
        unfold rowD idxs
        rw [List.map_map]; rfl
    have e3 : (A.map fun g => rowD (idxs (mtG g) B)) = (nearG A B).map rowD := by unfold nearG; rw [List.map_map]; rfl
    rw [e3]
    walk_at "n"
    refine wp_some (ln _ _) ?_
    walk_at "n"
    refine ws_for ?_
    walk_at "n"
    refine wp_some (ln _ _) ?_
    refine wp_anil ?_
    refine wp_of (choices_eq la) ?_
    obtain ⟨N, eN⟩ : ∃ N, N = nearG A B := ⟨_, rfl⟩
    have hN : ∀ x r, r ∈ Nf N x → r < B.length := fun x r hr => by subst eN; exact (near_at.mp hr).2.1
    have lN : N.length = A.length := by subst eN; exact near_len
    have lc : (chs A.length).length ≤ 4096 := by rw [chs_len]; exact pow_le la
    rw [← eN]
    refine ⟨_, rfl, (chs A.length).length, fun i e g => ∃ (v : Nat) (t : Hs) (x7 x8 x9 x10 x11 : Option D), g = h ++ t ∧ (∀ s ∈ (chs A.length).take i, ∃ U, Hit N s U ∧ v ≤ A.length - s.length + U.length) ∧ v ≤ A.length ∧ (∃ s ∈ chs A.length, ∃ U, Hit N s U ∧ v = A.length - s.length + U.length) ∧
      e = [some (gtD gs), some e1, some e2, some (.lst (A.map Gv.d)), some (.lst (B.map Gv.d)), some (nD N), some (.int v), x7, x8, x9, x10, x11], by omega,
      ⟨A.length, [], none, none, none, none, none, by rw [List.append_nil], nofun, Nat.le_refl _, ⟨[], ?_, [], hit_nil, rfl⟩, rfl⟩, ?_, ?_⟩
    · have := chs_all (fun _ => false) A.length
      rwa [List.filter_eq_nil_iff.mpr (fun _ _ => Bool.false_ne_true)] at this
    · rintro i _ g hi ⟨v, t, x7, x8, x9, x10, x11, eg, lo, vn, at_, rfl⟩
      obtain ⟨s, es⟩ : ∃ s, s = (chs A.length)[i] := ⟨_, rfl⟩
      have hs : s ∈ chs A.length := by rw [es]; exact List.getElem_mem hi
      obtain ⟨sn, sb⟩ := chs_in _ s hs
      have ls := MT.nd_len sn sb
      refine ⟨chD s, _, ?_, rfl, ?_⟩
      · unfold nxL
        rw [List.getElem?_map, List.getElem?_eq_getElem hi, ← es]; rfl
      refine ws_seq ?_
      refine ws_set ?_
      walk_at "n"
      refine ws_for ?_
      walk_at "n"
      refine ⟨s.length, fun j e k => ∃ (U : List Nat) (x9 x10 : Option D), k = g ++ [.dk (kS U)] ∧ Hit N (s.take j) U ∧ e = [some (gtD gs), some e1, some e2, some (.lst (A.map Gv.d)), some (.lst (B.map Gv.d)), some (nD N), some (.int v), some (chD s), some (.ref g.length), x9, x10, x11],
        by omega, ⟨[], x9, x10, rfl, hit_nil, rfl⟩, ?_, ?_⟩
      · rintro j _ k hj ⟨U, y9, y10, rfl, H, rfl⟩
        obtain ⟨x, ex⟩ : ∃ x, x = s[j] := ⟨_, rfl⟩
        have hx : x ∈ s := by rw [ex]; exact List.getElem_mem hj
        have tk : s.take (j + 1) = s.take j ++ [x] := by rw [ex]; exact List.take_succ_eq_append_getElem hj
        have hxA := sb x hx
        have lU : U.length ≤ B.length := nd_len H.nd fun r hr => by
          obtain ⟨y, _, h2⟩ := (H.iff r).mp hr
          exact hN y r h2
        refine ⟨.int (x : Nat), _, ?_, rfl, ?_⟩
        · unfold nxL
          rw [List.getElem?_map, List.getElem?_eq_getElem hj, ← ex]; rfl
        walk_at "n"
        refine ⟨by unfold isDm; dsimp only; rw [get_new], ?_⟩
        walk_at "n"
        refine wp_dictP ?_
        refine wp_cma nI prD ?_
        walk_at "n"
        refine wp_some (row_at (by omega)) ?_
        have lw : (Nf N x).length ≤ B.length := by subst eN; exact near_w x
        refine ⟨_, rfl, Nf N x, rfl, by omega, fun y hy => ⟨_, rfl, ?_⟩, ?_⟩
        · walk_at "n"
          rfl
        obtain ⟨S, d1, d2, d3, d4⟩ := dictP_any (Nf N x)
        refine wp_some d1 ?_
        walk_at "n"
        obtain ⟨U', m1, m2, m3, m4⟩ := mrg_any S U H.nd
        have up : mUpdate (g ++ [O.dk (kS U)]) (.ref g.length) [.dlk ((kS S).map (·.1)) ((kS S).map (·.2))] = some (.non, g ++ [O.dk (kS U')]) := by
          unfold mUpdate
          dsimp only
          rw [get_new]
          dsimp only
          rw [zip_back, m1, set_app, if_pos]
          unfold kS
          rw [List.length_map, List.length_map]
          omega
        refine wp_someP up ?_
        refine ⟨U', _, _, rfl, ⟨m2, fun r => ?_⟩, rfl⟩
        rw [m3, d3, H.iff, tk]
        constructor
        · rintro (⟨y, h1, h2⟩ | h)
          · exact ⟨y, List.mem_append_left _ h1, h2⟩
          · exact ⟨x, List.mem_append_right _ (List.mem_singleton.mpr rfl), h⟩
        · rintro ⟨y, h1, h2⟩
          rcases List.mem_append.mp h1 with h1 | h1
          · exact .inl ⟨y, h1, h2⟩
          · rw [List.mem_singleton.mp h1] at h2; exact .inr h2
      · rintro _ k ⟨U, y9, y10, rfl, H, rfl⟩
        refine ⟨by unfold nxL; rw [List.getElem?_eq_none (by rw [List.length_map]; exact Nat.le_refl _)], ?_⟩
        rw [List.take_length] at H
        walk_at "n"
        refine wp_some (ln _ _) ?_
        walk_at "n"
        have lnS : gLenA (g ++ [O.dk (kS U)]) [chD s] = some (.int s.length) := by
          unfold gLenA chD dkR
          refine (len_seq seq_tup).trans ?_
          rw [List.length_map]
        refine wp_some lnS ?_
        walk_at "n"
        have lnU : gLenA (g ++ [O.dk (kS U)]) [.ref g.length] = some (.int U.length) := by
          unfold gLenA dkR
          dsimp only
          rw [get_new]
          dsimp only
          unfold kS
          rw [List.length_map]
        refine wp_some lnU ?_
        walk_at "n"
        obtain ⟨v', ev, cv⟩ : ∃ v' : Nat, (if ((A.length : Int) - s.length + U.length) < v then ((A.length : Int) - s.length + U.length) else (v : Int)) = (v' : Int) ∧ (v' = v ∧ v ≤ A.length - s.length + U.length ∨ v' = A.length - s.length + U.length ∧ v' ≤ v) := by
          by_cases q : ((A.length : Int) - s.length + U.length) < v
          · rw [if_pos q]; exact ⟨A.length - s.length + U.length, by omega, .inr ⟨rfl, by omega⟩⟩
          · rw [if_neg q]; exact ⟨v, rfl, .inl ⟨rfl, by omega⟩⟩
        rw [ev]
        have tk : (chs A.length).take (i + 1) = (chs A.length).take i ++ [s] := by rw [es]; exact List.take_succ_eq_append_getElem hi
        refine ⟨v', t ++ [O.dk (kS U)], _, _, _, _, _, by rw [eg, List.append_assoc], fun s2 hs2 => ?_, by omega, ?_, rfl⟩
        · rw [tk] at hs2
          rcases List.mem_append.mp hs2 with hs2 | hs2
          · obtain ⟨U2, h1, h2⟩ := lo s2 hs2
            exact ⟨U2, h1, by omega⟩
          · rw [List.mem_singleton.mp hs2]; exact ⟨U, H, by omega⟩
        · rcases cv with ⟨rfl, _⟩ | ⟨e, _⟩
          · exact at_
          · exact ⟨s, hs, U, H, e⟩
    · rintro _ g ⟨v, t, x7, x8, x9, x10, x11, rfl, lo, vn, at_, rfl⟩
      refine ⟨by unfold nxL; rw [List.getElem?_eq_none (by rw [List.length_map]; exact Nat.le_refl _)], ?_⟩
      walk_at "n"
      rw [List.take_length] at lo
      subst eN
      exact ⟨v, A, B, t, rfl, rfl, hAB, lo, at_⟩
  · obtain ⟨v, A, B, t, rfl, rfl, h1, h2, h3⟩ := z
    refine ⟨.int v, rfl, cls_app, ?_⟩
    rw [take_app]
    exact c v A B h1 h2 h3
end
end K28

namespace K28
open PySem PySem.Spec L2 G
local macro_rules | `(tactic| walk_at "s1") => `(tactic| first
  | ((with_reducible apply wp_name); (case q => rfl))
  | with_reducible refine wp_c ?_
  | with_reducible refine wp_bin ?_
  | with_reducible refine wp_acons ?_
  | with_reducible refine wp_anil ?_
  | with_reducible refine wp_call ?_
  | with_reducible refine wp_fn ?_
  | with_reducible refine wp_fnK ?_
  | with_reducible refine wp_ev ?_
  | with_reducible refine wp_em ?_
  | with_reducible refine wp_tup ?_
  | with_reducible refine wp_eb ?_
  | with_reducible refine wp_et ?_
  | with_reducible refine wp_un ?_
  | with_reducible refine wp_chain ?_
  | with_reducible refine wp_and ?_
  | with_reducible refine wp_or ?_
  | with_reducible refine wp_not ?_
  | with_reducible refine wp_andF ?_
  | with_reducible refine wp_orF ?_
  | with_reducible refine wp_notF ?_
  | with_reducible refine wp_yes ?_
  | with_reducible refine wp_if ?_
  | with_reducible refine wp_sl ?_
  | with_reducible refine wp_onone ?_
  | with_reducible refine wp_osome ?_
  | with_reducible refine wp_rev ?_
  | with_reducible refine wp_list ?_
  | with_reducible refine wp_mt ?_
  | with_reducible refine wp_any ?_
  | with_reducible refine wp_r1 ?_
  | with_reducible refine wp_r2 ?_
  | with_reducible refine ws_seq ?_
  | with_reducible refine ws_set ?_
  | with_reducible refine ws_setC ?_
  | with_reducible refine ws_setCM ?_
  | with_reducible refine ws_if ?_
  | with_reducible refine ws_ret ?_
  | with_reducible refine ws_retN ?_
  | with_reducible refine ws_drop ?_
  | with_reducible refine ws_skip ?_
  | with_reducible refine ws_asg ?_
  | with_reducible refine ws_par ?_
  | with_reducible refine ws_sub ?_
  | with_reducible refine wp_body ?_)
local macro_rules | `(tactic| walk_at "s") => `(tactic| repeat (walk_at "s1"))
local macro_rules | `(tactic| walk_at "q") => `(tactic| first | assumption | decide | omega | rfl)
local macro_rules | `(tactic| walk_at "e1") => `(tactic| first
  | with_reducible refine wp_some add_i ?_
  | with_reducible refine wp_some sub_i ?_
  | with_reducible refine wp_some lt_i ?_
  | with_reducible refine wp_some le_i ?_
  | with_reducible refine wp_some gt_i ?_
  | with_reducible refine wp_some ge_i ?_
  | with_reducible refine wp_some eq_i ?_
  | with_reducible refine wp_some ne_i ?_
  | with_reducible refine wp_some eq_b ?_
  | with_reducible refine wp_some max_i ?_
  | with_reducible refine wp_some min_i ?_
  | with_reducible refine wp_some tup_tup ?_
  | with_reducible refine wp_some tup_lst ?_
  | with_reducible refine wp_some len_tup ?_
  | with_reducible refine wp_some len_lst ?_
  | with_reducible refine wp_some sl_tup ?_
  | with_reducible refine wp_some sl_lst ?_
  | with_reducible refine wp_some tru_b ?_
  | with_reducible refine wp_some repr_b ?_
  | with_reducible refine wp_eq_sb ?_
  | with_reducible refine wp_some seq_lst ?_
  | with_reducible refine wp_some seq_tup ?_
  | ((with_reducible apply wp_ix_tup); (case q => rfl))
  | ((with_reducible apply wp_ix_lst); (case q => rfl))
  | ((with_reducible apply wp_ix_ref); (case p => assumption); (case q => rfl))
  | with_reducible refine wp_some eq_s ?_
  | ((with_reducible refine wp_some (mod_int ?q) ?_); (case q => walk_at "q"))
  | ((with_reducible refine wp_some (div_int ?p ?q) ?_); (case p => walk_at "q"); (case q => walk_at "q"))
  | ((with_reducible refine wp_some (mul_int ?q) ?_); (case q => walk_at "q"))
  | ((with_reducible refine wp_some (add_tup ?q) ?_); (case q => first | omega | exact Nat.le_of_ble_eq_true rfl | (simp; done) | (simp; omega)))
  | ((with_reducible refine wp_some (add_lst ?q) ?_); (case q => first | omega | exact Nat.le_of_ble_eq_true rfl | (simp; done) | (simp; omega)))
  | with_reducible refine Exists.intro _ (And.intro rfl ?_)
  | with_reducible refine Exists.intro _ (Exists.intro _ (And.intro rfl ?_)))
local macro_rules | `(tactic| walk_at "g") => `(tactic| repeat (first | walk_at "s1" | walk_at "e1"))
local macro_rules | `(tactic| walk_at "h1") => `(tactic| first
  | with_reducible refine wp_some ne_b ?_
  | with_reducible refine wp_ne_sb ?_
  | with_reducible refine wp_d0t ?_
  | with_reducible refine wp_d0k ?_
  | with_reducible refine wp_d0 ?_
  | with_reducible refine wp_valsT ?_
  | with_reducible refine wp_some ne_s ?_
  | with_reducible refine wp_some reprA_b ?_
  | with_reducible refine wp_d1 ?_
  | with_reducible refine wp_some isi_non ?_
  | with_reducible refine wp_some isi_bl ?_
  | with_reducible refine wp_some isi_int ?_
  | with_reducible refine wp_some isi_str ?_
  | with_reducible refine wp_some isi_tup ?_
  | with_reducible refine wp_some isi_lst ?_
  | with_reducible refine wp_some isi_dct ?_)
local macro_rules | `(tactic| walk_at "k") => `(tactic| repeat (first | walk_at "s1" | walk_at "e1" | walk_at "h1"))
local macro_rules | `(tactic| walk_at "p") => `(tactic| first | assumption | (constructor; done) | exact pln_of (by assumption) | exact Sm.pln (by assumption))
local macro_rules | `(tactic| walk_at "b1") => `(tactic| first
  | exact nof
  | exact tnof
  | (refine And.intro ?_ tnof; intro _)
  | (refine And.intro nof ?_; intro _)
  | (refine And.intro ?_ ?_ <;> intro _))
local macro_rules | `(tactic| walk_at "P1") => `(tactic| first
  | ((with_reducible show Wp (c_is_whole _ _) _ _); refine wp_of (whole_eq ?p) ?_; (case p => walk_at "p"))
  | ((with_reducible show Wp (c_is_between _ _) _ _); refine wp_of (between_eq ?p) ?_; (case p => walk_at "p")))
local macro_rules | `(tactic| walk_at "b") => `(tactic| repeat' (first | walk_at "s1" | walk_at "e1" | walk_at "h1" | walk_at "P1" | walk_at "b1"))
local macro_rules | `(tactic| walk_at "z") => `(tactic| first
  | exact (show _ ∧ _ from ⟨rfl, rfl⟩)
  | (refine (show _ ∧ _ from ⟨?_, rfl⟩); first | (simp_all; done) | (simp_all <;> omega)))
local macro_rules | `(tactic| walk_at "bz") => `(tactic| (walk_at "b" <;> try walk_at "z"))
local macro_rules | `(tactic| walk_at "P1") => `(tactic| first
  | ((with_reducible show Wp (c_is_size _ _) _ _); refine wp_of (size_eq ?p) ?_; (case p => walk_at "p"))
  | ((with_reducible show Wp (c_is_moment _ _) _ _); refine wp_of (moment_eq ?p) ?_; (case p => walk_at "p"))
  | ((with_reducible show Wp (c_is_side _ _) _ _); refine wp_of (side_eq ?p) ?_; (case p => walk_at "p"))
  | ((with_reducible show Wp (c_is_grade _ _) _ _); refine wp_of (grade_eq ?p) ?_; (case p => walk_at "p"))
  | ((with_reducible show Wp (c_is_name _ _) _ _); refine wp_of (name_eq ?p ?q) ?_; (case p => walk_at "p"); (case q => first | assumption | omega))
  | ((with_reducible show Wp (c_is_ident _ _) _ _); refine wp_of (ident_eq ?p) ?_; (case p => assumption))
  | ((with_reducible show Wp (c_is_glove _ _) _ _); refine wp_of (glove_eq ?p ?q) ?_; (case p => assumption); (case q => first | assumption | omega)))
local macro_rules | `(tactic| walk_at "d1") => `(tactic| first
  | ((with_reducible show Wp (c_draw _ _) _ _); refine' dr ?s ?k ?a ?b ?_; (case s => assumption); (case k => assumption); (case a => first | decide | omega); (case b => first | decide | omega); intro _ _ _ _ _))
local macro_rules | `(tactic| walk_at "d") => `(tactic| repeat (first | walk_at "s1" | walk_at "e1" | walk_at "h1" | walk_at "P1" | walk_at "d1"))
local macro_rules | `(tactic| walk_at "db") => `(tactic| repeat' (first | walk_at "s1" | walk_at "e1" | walk_at "h1" | walk_at "P1" | walk_at "d1" | walk_at "b1"))
local macro_rules | `(tactic| walk_at "tl") => `(tactic| repeat' (first | assumption | omega | decide | (with_reducible refine len_half ?_ ?_) | (with_reducible refine lit_half ?_) | (with_reducible refine cut_half ?_) | (with_reducible refine T_half ?_)))
local macro_rules | `(tactic| walk_at "t1") => `(tactic| first
  | ((with_reducible refine wp_some (add_str ?q ?r) ?_); (case q => walk_at "tl"); (case r => walk_at "tl"))
  | ((with_reducible refine wp_some (sl_str ?q) ?_); (case q => walk_at "tl"))
  | ((with_reducible refine wp_some (len_str ?q) ?_); (case q => walk_at "tl"))
  | ((with_reducible refine wp_someP (upper_str ?q) ?_); (case q => walk_at "tl"))
  | ((with_reducible refine wp_some (str_int ?q) ?_); (case q => first | assumption | omega))
  | with_reducible refine wp_some rev_tup ?_
  | with_reducible refine wp_some rev_lst ?_
  | with_reducible refine wp_some is_bl ?_
  | with_reducible refine wp_some isN_bl ?_
  | with_reducible refine wp_some neg_i ?_
  | with_reducible refine wp_lAdd ?_
  | with_reducible refine And.intro rfl ?_)
local macro_rules | `(tactic| walk_at "d") => `(tactic| repeat (first | walk_at "s1" | walk_at "e1" | walk_at "h1" | walk_at "t1" | walk_at "P1" | walk_at "d1"))
local macro_rules | `(tactic| walk_at "db") => `(tactic| repeat' (first | walk_at "s1" | walk_at "e1" | walk_at "h1" | walk_at "t1" | walk_at "P1" | walk_at "d1" | walk_at "b1"))
local macro_rules | `(tactic| walk_at "dz") => `(tactic| (walk_at "db" <;> try walk_at "z"))
local macro_rules | `(tactic| walk_at "hg") => `(tactic| first | assumption | exact get_new | (refine get_app ?_; walk_at "hg") | (refine' get_set_eq ?e; (case e => walk_at "hg")) | (refine (get_set_ne ?_).trans ?_; (first | omega | (simp only [List.length_append, List.length_set, List.length_cons, List.length_nil]; omega)); walk_at "hg"))
local macro_rules | `(tactic| walk_at "st") => `(tactic| repeat' (first | assumption | (with_reducible refine St.wapp ?_ ?_) | (with_reducible refine St.wset ?_ ?_ ?_ ?_) | (simp only [List.length_append, List.length_set, List.length_cons, List.length_nil]; omega) | omega))
local macro_rules | `(tactic| walk_at "ll") => `(tactic| repeat' (first | assumption | omega | exact Nat.le_of_ble_eq_true rfl | (with_reducible refine app_half ?_ ?_) | (with_reducible refine cutL_half ?_) | (with_reducible refine rev_half ?_) | (with_reducible refine map_half ?_) | (with_reducible refine cons_half ?_ ?_)))
local macro_rules | `(tactic| walk_at "n1") => `(tactic| first
  | ((with_reducible show Wp (R.ofO _ _) _ _); first
    | with_reducible apply wp_some eq_same
    | with_reducible apply wp_some ne_same
    | with_reducible apply wp_some add_i
    | with_reducible apply wp_some sub_i
    | with_reducible apply wp_some lt_i
    | with_reducible apply wp_some le_i
    | with_reducible apply wp_some gt_i
    | with_reducible apply wp_some ge_i
    | with_reducible apply wp_some eq_i
    | with_reducible apply wp_some ne_i
    | with_reducible apply wp_some eq_b
    | with_reducible apply wp_some max_i
    | with_reducible apply wp_some min_i
    | with_reducible apply wp_some tup_tup
    | with_reducible apply wp_some tup_lst
    | with_reducible apply wp_some len_tup
    | with_reducible apply wp_some len_lst
    | with_reducible apply wp_some sl_tup
    | with_reducible apply wp_some sl_lst
    | with_reducible apply wp_some tru_b
    | with_reducible apply wp_some repr_b
    | with_reducible refine wp_eq_sb ?_
    | with_reducible apply wp_some seq_lst
    | with_reducible apply wp_some seq_tup
    | ((with_reducible apply wp_ix_tup); (case q => rfl))
    | ((with_reducible apply wp_ix_lst); (case q => rfl))
    | ((with_reducible apply wp_ix_ref); (case p => assumption); (case q => rfl))
    | with_reducible apply wp_some eq_s
    | ((with_reducible apply wp_some (mod_int ?q)); (case q => walk_at "q"))
    | ((with_reducible apply wp_some (div_int ?p ?q)); (case p => walk_at "q"); (case q => walk_at "q"))
    | ((with_reducible apply wp_some (mul_int ?q)); (case q => walk_at "q"))
    | ((with_reducible apply wp_some (add_tup2 ?a ?b)); (case a => walk_at "ll"); (case b => walk_at "ll"))
    | ((with_reducible apply wp_some (add_lst2 ?a ?b)); (case a => walk_at "ll"); (case b => walk_at "ll"))
    | with_reducible apply wp_some ne_b
    | with_reducible refine wp_ne_sb ?_
    | with_reducible apply wp_some ne_s
    | with_reducible apply wp_some reprA_b
    | with_reducible apply wp_some isi_non
    | with_reducible apply wp_some isi_bl
    | with_reducible apply wp_some isi_int
    | with_reducible apply wp_some isi_str
    | with_reducible apply wp_some isi_tup
    | with_reducible apply wp_some isi_lst
    | with_reducible apply wp_some isi_dct
    | ((with_reducible apply wp_some (add_str ?q ?r)); (case q => walk_at "tl"); (case r => walk_at "tl"))
    | ((with_reducible apply wp_some (sl_str ?q)); (case q => walk_at "tl"))
    | ((with_reducible apply wp_some (len_str ?q)); (case q => walk_at "tl"))
    | ((with_reducible apply wp_some (str_int ?q)); (case q => first | assumption | omega))
    | with_reducible apply wp_some rev_tup
    | with_reducible apply wp_some rev_lst
    | with_reducible apply wp_some is_bl
    | with_reducible apply wp_some isN_bl
    | with_reducible apply wp_some neg_i
    | ((with_reducible apply wp_some (isi_pln ?q)); (case q => walk_at "p"))
    | with_reducible apply wp_some pow6
    | with_reducible apply wp_some eqT_tup
    | ((with_reducible apply wp_some (rev_str ?q)); (case q => walk_at "tl"))
    | ((with_reducible apply wp_some (add_rl ?q ?a ?b)); (case q => walk_at "hg"); (case a => walk_at "ll"); (case b => walk_at "ll"))
    | ((with_reducible apply wp_some (add_lr ?q ?a ?b)); (case q => walk_at "hg"); (case a => walk_at "ll"); (case b => walk_at "ll"))
    | ((with_reducible apply wp_some (add_rr ?q ?r ?a ?b)); (case q => walk_at "hg"); (case r => walk_at "hg"); (case a => walk_at "ll"); (case b => walk_at "ll"))
    | with_reducible apply wp_some lst_lst
    | ((with_reducible apply wp_some (lst_ref ?q)); (case q => walk_at "hg"))
    | ((with_reducible apply wp_some (len_ref ?q)); (case q => walk_at "hg"))
    | ((with_reducible apply wp_some (tup_ref ?q)); (case q => walk_at "hg"))
    | with_reducible apply wp_some pow39
    | with_reducible apply wp_some pow30
    | with_reducible apply wp_some pow40
    | with_reducible apply wp_some tru_non
    | with_reducible apply wp_some tru_int
    | with_reducible apply wp_some tru_tup
    | ((with_reducible apply wp_some (tru_str ?q)); (case q => walk_at "tl"))
    | ((with_reducible apply wp_some (mulS_str ?a ?b ?d)); (case a => walk_at "tl"); (case b => walk_at "tl"); (case d => walk_at "tl"))
    | ((with_reducible apply wp_some (mulS_tupA ?a ?b ?c ?d)); (case a => walk_at "tl"); (case b => walk_at "tl"); (case c => first | rfl | assumption); (case d => walk_at "tl")))
  | ((with_reducible show Wp (R.ofP _) _ _); first
    | ((with_reducible apply wp_someP (app_ref2 ?e ?q)); (case e => walk_at "hg"); (case q => walk_at "ll"))
    | ((with_reducible apply wp_someP (upper_str ?q)); (case q => walk_at "tl")))
  | ((with_reducible show Ws _ _); first
    | with_reducible refine ws_seq ?_
    | with_reducible refine ws_set ?_
    | with_reducible refine ws_setC ?_
    | with_reducible refine ws_setCM ?_
    | with_reducible refine ws_if ?_
    | with_reducible refine ws_ret ?_
    | with_reducible refine ws_retN ?_
    | with_reducible refine ws_drop ?_
    | with_reducible refine ws_skip ?_
    | with_reducible refine ws_asg ?_
    | with_reducible refine ws_par ?_
    | with_reducible refine ws_sub ?_)
  | ((with_reducible refine' And.intro (isL_ref ?e) ?_); (case e => walk_at "hg"))
  | ((with_reducible refine And.intro (And.intro ?a ?b) ?_); (case a => walk_at "ll"); (case b => walk_at "ll"))
  | with_reducible refine Exists.intro _ (And.intro rfl ?_)
  | with_reducible refine Exists.intro _ (Exists.intro _ (And.intro rfl ?_))
  | with_reducible refine And.intro rfl ?_
  | ((with_reducible show Wp _ _ _); first
    | ((with_reducible apply wp_name); (case q => rfl))
    | with_reducible refine wp_c ?_
    | with_reducible refine wp_bin ?_
    | with_reducible refine wp_acons ?_
    | with_reducible refine wp_anil ?_
    | with_reducible refine wp_call ?_
    | with_reducible refine wp_fn ?_
    | with_reducible refine wp_fnK ?_
    | with_reducible refine wp_ev ?_
    | with_reducible refine wp_em ?_
    | with_reducible refine wp_tup ?_
    | with_reducible refine wp_eb ?_
    | with_reducible refine wp_et ?_
    | with_reducible refine wp_un ?_
    | with_reducible refine wp_chain ?_
    | with_reducible refine wp_and ?_
    | with_reducible refine wp_or ?_
    | with_reducible refine wp_not ?_
    | with_reducible refine wp_andF ?_
    | with_reducible refine wp_orF ?_
    | with_reducible refine wp_notF ?_
    | with_reducible refine wp_yes ?_
    | with_reducible refine wp_if ?_
    | with_reducible refine wp_sl ?_
    | with_reducible refine wp_onone ?_
    | with_reducible refine wp_osome ?_
    | with_reducible refine wp_rev ?_
    | with_reducible refine wp_list ?_
    | with_reducible refine wp_mt ?_
    | with_reducible refine wp_any ?_
    | with_reducible refine wp_r1 ?_
    | with_reducible refine wp_r2 ?_
    | with_reducible refine wp_body ?_
    | with_reducible refine wp_d0t ?_
    | with_reducible refine wp_d0k ?_
    | with_reducible refine wp_d0 ?_
    | with_reducible refine wp_valsT ?_
    | with_reducible refine wp_d1 ?_
    | with_reducible refine wp_lAdd ?_
    | walk_at "P1"
    | walk_at "d1")
  | ((fail_if_success (with_reducible show Ws _ _)); (fail_if_success (with_reducible show Wp _ _ _)); show Ws _ _))
local macro_rules | `(tactic| walk_at "n") => `(tactic| repeat (walk_at "n1"))
local macro_rules | `(tactic| walk_at "nb") => `(tactic| repeat' (first | walk_at "n1" | walk_at "b1"))
local macro_rules | `(tactic| walk_at "c") => `(tactic| first
  | assumption
  | (refine closeB (by assumption) ?_; first | rfl | (simp_all; done) | (simp_all <;> omega)))
local macro_rules | `(tactic| walk_at "nc") => `(tactic| (walk_at "nb" <;> try walk_at "c"))
local macro_rules | `(tactic| walk_at "n1") => `(tactic| first
  | with_reducible refine wp_iOf ?_
  | with_reducible apply wp_some neT_tup
  | with_reducible refine ex_ent ?_
  | with_reducible refine ex_enl ?_
  | with_reducible refine ex_zpt ?_
  | with_reducible refine ex_zpl ?_)
local macro_rules | `(tactic| walk_at "q") => `(tactic| exact Int.natCast_pos.mpr (Nat.succ_pos _))
local macro_rules | `(tactic| walk_at "hg") => `(tactic| with_reducible exact St.k2 (by assumption))
local macro_rules | `(tactic| walk_at "n1") => `(tactic| first
  | with_reducible refine wp_mk ?_
  | with_reducible refine wp_mth ?_
  | with_reducible refine wp_eown ?_
  | with_reducible refine ws_fld ?_
  | with_reducible refine wp_js1 ?_
  | with_reducible refine wp_js0 ?_)
local macro_rules | `(tactic| walk_at "n1") => `(tactic| first
  | with_reducible refine wp_lRep ?_
  | with_reducible apply wp_some sk_zones
  | with_reducible apply wp_some sk_stretch
  | with_reducible apply wp_some sk_grade)
local macro_rules | `(tactic| walk_at "n1") => `(tactic| first
  | with_reducible refine wp_orT ?_
  | with_reducible refine wp_andT ?_
  | with_reducible apply wp_some neL_lst
  | with_reducible apply wp_some int_bl
  | with_reducible apply wp_some ne_ss)
local macro_rules | `(tactic| walk_at "tl") => `(tactic| repeat' (first | assumption | omega | exact Nat.le_of_ble_eq_true rfl | (with_reducible refine len_half ?_ ?_) | (with_reducible refine lit_half ?_) | (with_reducible refine cut_half ?_) | (with_reducible refine T_half ?_) | (simp only [List.length_append, List.length_cons, List.length_nil]; omega)))
local macro_rules | `(tactic| walk_at "n1") => `(tactic| first
  | with_reducible refine wp_disp ?_
  | with_reducible refine wp_pCons ?_
  | with_reducible refine wp_pNil ?_
  | with_reducible refine wp_isO2 ?_)

section
variable {L : Nat} {K : Hs → Prop} {h : Hs} {Q : D → Hs → Prop} {X : XQ} {d : D} {a b : Gv} {gs : List Gv}
theorem told_wp (al : AllG gs) (u : Un gs) (l38 : gs.length ≤ 38) (c : ∀ m : Nat, MostL gs m → Q (.int m) h) : Wp (c_told [gtD gs] h) Q X := by
  unfold c_told f_told
  refine wp_bodyE [some (gtD gs)] rfl ?_
  walk_at "n"
  refine wp_egc ?_
  refine wp_mk ?_
  walk_at "n"
  refine mk_lot al ?_
  refine ⟨_, lot_new al, cls_app, ?_⟩
  rw [take_app]
  walk_at "n"
  have lB : (sideG [114] gs).length ≤ 38 := Nat.le_trans (List.length_filter_le _ _) (by rw [(sortG_perm gs).length_eq]; exact l38)
  refine matched_wp al lB fun T A xs ps K pw C p e => ?_
  walk_at "n"
  have e2 : ps.length = T.length := by rw [p.length_eq, List.length_map]
  rw [List.length_map, e2]
  exact c _ (most_of (side_nd (un_nd u)) (side_nd (un_nd u)) K).2
theorem exch_wp (al : AllG gs) (c : Q (gtD (gs.map exG)) h) : Wp (c_exchanged [gtD gs] h) Q X := by
  unfold c_exchanged f_exchanged
  refine wp_bodyE [some (gtD gs), none] rfl ?_
  rw [tl, trr]
  walk_at "n"
  refine wp_cma Gv.d (fun g => (exG g).d) ?_
  walk_at "n"
  have l2 := al.2
  refine ⟨by omega, fun g hg => ⟨_, rfl, ?_⟩, ?_⟩
  · obtain ⟨m, n, sd, st, lo, hi, gr⟩ := g
    have o := (al.1 _ hg).sd
    dsimp only at o
    rcases o with rfl | rfl
    · walk_at "n"
      refine wp_some (x := .str (T [114])) (by rfl) ?_
      walk_at "n"
      rfl
    · walk_at "n"
      refine wp_some (x := .str (T [108])) (by rfl) ?_
      walk_at "n"
      rfl
  · have e : (gs.map fun g => (exG g).d) = (gs.map exG).map Gv.d := by rw [List.map_map]; rfl
    rw [e]
    walk_at "n"
    exact c
theorem most_is (al : AllG gs) (u : Un gs) (l12 : gs.length ≤ 12) (c : ∀ v : Nat, (∀ m, MostL gs m → m = v) → Q (.int v) h) : Wp (c_most [gtD gs] h) Q X := by
  refine most_wp al l12 fun v A B hAB lo at_ => ?_
  have nd : ∀ s, (sideG s gs).Nodup := fun s => side_nd (un_nd u)
  refine c v fun m hm => ?_
  rcases hAB with ⟨rfl, rfl⟩ | ⟨rfl, rfl⟩
  · exact (most_choice (nd _) (nd _) hm lo at_).symm
  · exact (most_choice (nd _) (nd _) hm.symm lo at_).symm
theorem most_nil {m : Nat} (h : MostL [] m) : m = 0 := by
  obtain ⟨⟨P, M, rfl⟩, _⟩ := h
  cases P with
  | nil => rfl
  | cons p P => exact absurd (M.i1 p List.mem_cons_self) List.not_mem_nil
theorem un_ex (ok : ∀ g ∈ gs, g.Ok) (u : Un gs) : Un (gs.map exG) := by
  unfold G.Un
  have e : (gs.map exG).map Gv.ik = (gs.map Gv.ik).map fun k => match k with | [a, b, .inr s] => [a, b, .inr (T (exS s.cps.toList))] | k => k := by
    rw [List.map_map, List.map_map]
    refine List.map_congr_left fun g hg => ?_
    show [Sum.inl (g.m : Int), Sum.inl (g.n : Int), Sum.inr (T (exS g.sd))] = [Sum.inl (g.m : Int), Sum.inl (g.n : Int), Sum.inr (T (exS (T g.sd).cps.toList))]
    rw [T_cps]
  rw [e]
  refine map_nd u fun x hx y hy q => ?_
  obtain ⟨a, ha, rfl⟩ := List.mem_map.mp hx
  obtain ⟨b, hb, rfl⟩ := List.mem_map.mp hy
  have q : [Sum.inl (a.m : Int), Sum.inl (a.n : Int), Sum.inr (T (exS (T a.sd).cps.toList))] = ([Sum.inl (b.m : Int), Sum.inl (b.n : Int), Sum.inr (T (exS (T b.sd).cps.toList))] : List Key) := q
  rw [T_cps, T_cps] at q
  injection q with q1 q
  injection q with q2 q
  injection q with q3 _
  have q3 := T_inj (Sum.inr.inj q3)
  have : a.sd = b.sd := by rw [← exS_ex (ok a ha).sd, ← exS_ex (ok b hb).sd, q3]
  show [Sum.inl (a.m : Int), Sum.inl (a.n : Int), Sum.inr (T a.sd)] = [Sum.inl (b.m : Int), Sum.inl (b.n : Int), Sum.inr (T b.sd)]
  rw [q1, q2, this]
theorem ne_no {m : Nat} (h : (!((m : Int) == (m : Int))) = true) : False := by simp at h
theorem law_true : ∀ ns : List Int, ns.length ≤ 63 → ∃ hs', c_law [.scr (ns.map D.int)] [] = .ok (.bl true) hs' := by
  intro ns hl
  suffices Wp (c_law [.scr (ns.map D.int)] []) (fun d _ => d = .bl true) nX by
    obtain ⟨x, h, e, rfl⟩ := wp_get this
    exact ⟨h, e⟩
  unfold c_law f_law
  refine wp_bodyE [some (.scr (ns.map .int)), none, none, none, none, none, none] rfl ?_
  walk_at "n"
  refine deck_st hl fun h S => ?_
  generalize D.scr (ns.map D.int) = sc
  have sK : Stb 3 (fun _ => True) := stb_true
  walk_at "n"
  refine ws_for ?_
  walk_at "n"
  refine ⟨3, fun i e g => ∃ x2 x3 x4 x5 x6, St 3 (fun _ => True) g ∧ e = [some sc, some (.ref 2), x2, x3, x4, x5, x6], by decide, ⟨_, _, _, _, _, S, rfl⟩, ?_, ?_⟩
  · rintro i _ g hi ⟨x2, x3, x4, x5, x6, S2, rfl⟩
    refine ⟨_, _, nxN_some hi, rfl, ?_⟩
    walk_at "n"
    rename_i r h1 r0 r1 S3
    refine gloves_wp S3 sK r0 (by omega) fun gs h2 ok un lg S4 => ?_
    have l12 : gs.length ≤ 12 := by omega
    have al : AllG gs := ⟨ok, by omega⟩
    walk_at "n"
    refine most_is al un l12 fun m isM => ?_
    walk_at "n"
    refine told_wp al un (by omega) fun m1 hm => ?_
    obtain rfl := isM _ hm
    walk_at "n"
    refine ⟨fun w => (ne_no w).elim, fun _ => ?_⟩
    walk_at "n"
    refine exch_wp al ?_
    walk_at "n"
    have okx : ∀ g ∈ gs.map exG, g.Ok := fun g hg => by obtain ⟨a, ha, rfl⟩ := List.mem_map.mp hg; exact exG_ok (ok a ha)
    refine told_wp ⟨okx, by rw [List.length_map]; omega⟩ (un_ex ok un) (by rw [List.length_map]; omega) fun m2 hm2 => ?_
    obtain rfl := hm2.uniq (mostL_ex ok hm)
    walk_at "n"
    refine ⟨fun w => (ne_no w).elim, fun _ => ?_⟩
    walk_at "n"
    refine ⟨fun w => ?_, fun _ => ?_⟩
    · have g0 : 0 < gs.length := by
        cases gs with
        | nil => cases w
        | cons => exact Nat.succ_pos _
      walk_at "n"
      rw [List.length_map]
      refine dr S4 sK (by omega) (by omega) fun at_ h3 a0 a1 S5 => ?_
      walk_at "n"
      obtain ⟨k, rfl⟩ : ∃ k : Nat, at_ = k := ⟨at_.toNat, by omega⟩
      have hk : k < gs.length := by omega
      have e1 : cutX (gs.map Gv.d) none (some (k : Int)) = (gs.take k).map Gv.d := by rw [cutX_to _ (by omega), List.map_take]; rfl
      have e2 : cutX (gs.map Gv.d) (some ((k : Int) + 1)) none = (gs.drop (k + 1)).map Gv.d := by rw [cutX_from _ (by omega), List.map_drop]; rfl
      rw [e1, e2]
      have l1 : ((gs.take k).map Gv.d).length + ((gs.drop (k + 1)).map Gv.d).length ≤ 100000 := by rw [List.length_map, List.length_map, List.length_take, List.length_drop]; omega
      rw [← List.map_append]
      obtain ⟨gs', eg⟩ : ∃ gs', gs' = gs.take k ++ gs.drop (k + 1) := ⟨_, rfl⟩
      rw [← eg]
      have ed : gs = gs.take k ++ gs[k] :: gs.drop (k + 1) := by rw [← List.drop_eq_getElem_cons hk, List.take_append_drop]
      have pm : gs.Perm (gs[k] :: gs') := by
        rw [eg]
        conv => lhs; rw [ed]
        exact List.perm_middle
      have sb : gs'.Sublist gs := by
        conv => rhs; rw [ed]
        rw [eg]
        exact (List.sublist_cons_self _ _).append_left _
      have ok' : ∀ g ∈ gs', g.Ok := fun g hg => ok g (sb.subset hg)
      have un' : G.Un gs' := un.sub sb
      have lg' : gs'.length ≤ 12 := Nat.le_trans sb.length_le l12
      have al' : AllG gs' := ⟨ok', by omega⟩
      walk_at "n"
      refine told_wp al' un' (by omega) fun m3 hm3 => ?_
      walk_at "n"
      refine most_is al' un' lg' fun m4 isM4 => ?_
      obtain rfl := isM4 _ hm3
      walk_at "n"
      refine ⟨fun w => (ne_no w).elim, fun _ => ?_⟩
      walk_at "n"
      refine told_wp al' un' (by omega) fun m5 hm5 => ?_
      obtain rfl := hm5.uniq hm3
      have mf := most_fewer pm (ok _ (List.getElem_mem hk)) hm hm3
      walk_at "n"
      refine ⟨fun _ => ?_, fun w => absurd (of_decide_eq_false w) (by omega)⟩
      walk_at "n"
      refine ⟨fun w => ?_, fun _ => ?_⟩
      · rw [decide_eq_true (by omega)] at w; cases w
      walk_at "n"
      exact ⟨_, _, _, _, _, S5, rfl⟩
    · walk_at "n"
      exact ⟨_, _, _, _, _, S4, rfl⟩
  · rintro _ g ⟨x2, x3, x4, x5, x6, S2, rfl⟩
    refine ⟨nxN_stop, ?_⟩
    walk_at "n"
    refine told_wp (gs := []) ⟨nofun, by decide⟩ un_nil (by decide) fun m hm => ?_
    walk_at "n"
    rw [most_nil hm]
    rfl
end
end K28

namespace K28
open PySem PySem.Spec PyProof.Rows L2 G
/-! ### the text -/
def topS (i : Nat) : Stmt := PySem.Challenge.pw_glovepairs_k28_as_many_as_can_be.main.body.getD i (.Pass ⟨0, 0, 0, 0⟩)
abbrev s_wall : Stmt := topS 0
abbrev s_in_base : Stmt := topS 7
abbrev s_stamp_of : Stmt := topS 8
abbrev s_ident_of : Stmt := topS 10
abbrev N_ident_of : List Str := ["glove"]
theorem sc_ident_of : FnScope N_ident_of ["glove"] (defScope s_ident_of) := ⟨rfl, rfl, rfl, by decide +kernel, rfl, by decide +kernel, by decide +kernel⟩
abbrev s_can_have_one : Stmt := topS 11
abbrev N_can_have_one : List Str := ["one", "other"]
theorem sc_can_have_one : FnScope N_can_have_one ["one", "other"] (defScope s_can_have_one) := ⟨rfl, rfl, rfl, by decide +kernel, rfl, by decide +kernel, by decide +kernel⟩
abbrev s_do_match : Stmt := topS 12
abbrev N_do_match : List Str := ["one", "other"]
theorem sc_do_match : FnScope N_do_match ["one", "other"] (defScope s_do_match) := ⟨rfl, rfl, rfl, by decide +kernel, rfl, by decide +kernel, by decide +kernel⟩
abbrev s_of_side : Stmt := topS 14
abbrev N_of_side : List Str := ["lot", "side", "glove"]
theorem sc_of_side : FnScope N_of_side ["lot", "side"] (defScope s_of_side) := ⟨rfl, rfl, rfl, by decide +kernel, rfl, by decide +kernel, by decide +kernel⟩
abbrev s_rights_near : Stmt := topS 15
abbrev N_rights_near : List Str := ["lefts", "rights", "left", "k", "right"]
theorem sc_rights_near : FnScope N_rights_near ["lefts", "rights"] (defScope s_rights_near) := ⟨rfl, rfl, rfl, by decide +kernel, rfl, by decide +kernel, by decide +kernel⟩
abbrev s_gets_one : Stmt := topS 16
abbrev N_gets_one : List Str := ["near", "taken", "left", "seen", "right"]
theorem sc_gets_one : FnScope N_gets_one ["near", "taken", "left", "seen"] (defScope s_gets_one) := ⟨rfl, rfl, rfl, by decide +kernel, rfl, by decide +kernel, by decide +kernel⟩
abbrev s_most_taken : Stmt := topS 17
abbrev N_most_taken : List Str := ["near", "taken", "left"]
theorem sc_most_taken : FnScope N_most_taken ["near"] (defScope s_most_taken) := ⟨rfl, rfl, rfl, by decide +kernel, rfl, by decide +kernel, by decide +kernel⟩
abbrev s_lefts_come_to : Stmt := topS 18
abbrev N_lefts_come_to : List Str := ["near", "taken", "had", "found", "waiting", "right", "left"]
theorem sc_lefts_come_to : FnScope N_lefts_come_to ["near", "taken"] (defScope s_lefts_come_to) := ⟨rfl, rfl, rfl, by decide +kernel, rfl, by decide +kernel, by decide +kernel⟩
abbrev s_matched : Stmt := topS 19
abbrev N_matched : List Str := ["lot", "lefts", "rights", "near", "taken", "pairs", "right", "left"]
theorem sc_matched : FnScope N_matched ["lot"] (defScope s_matched) := ⟨rfl, rfl, rfl, by decide +kernel, rfl, by decide +kernel, by decide +kernel⟩
abbrev s_deck : Stmt := topS 23
abbrev N_deck : List Str := ["_law_script", "_law_cells", "_law_cell"]
theorem sc_deck : FnScope N_deck ["_law_script"] (defScope s_deck) := ⟨rfl, rfl, rfl, by decide +kernel, rfl, by decide +kernel, by decide +kernel⟩
abbrev s_draw : Stmt := topS 24
abbrev N_draw : List Str := ["_law_deck_here", "_law_most_here", "_law_cell", "_law_number"]
theorem sc_draw : FnScope N_draw ["_law_deck_here", "_law_most_here"] (defScope s_draw) := ⟨rfl, rfl, rfl, by decide +kernel, rfl, by decide +kernel, by decide +kernel⟩
abbrev s_styles : Stmt := topS 25
abbrev N_styles : List Str := ["_law_deck_here", "_law_letters", "_law_way", "_law_word", "_law_at", "_law_sign", "_law_k"]
theorem sc_styles : FnScope N_styles ["_law_deck_here"] (defScope s_styles) := ⟨rfl, rfl, rfl, by decide +kernel, rfl, by decide +kernel, by decide +kernel⟩
abbrev s_gloves : Stmt := topS 26
abbrev N_gloves : List Str := ["_law_deck_here", "_law_many", "_law_way", "_law_start", "_law_styles_here", "_law_found", "_law_k", "_law_side", "_law_more", "_law_wide", "_law_low", "_law_high", "_law_style", "_law_grade", "_law_ident"]
theorem sc_gloves : FnScope N_gloves ["_law_deck_here", "_law_many"] (defScope s_gloves) := ⟨rfl, rfl, rfl, by decide +kernel, rfl, by decide +kernel, by decide +kernel⟩
abbrev s_l_do_match : Stmt := topS 27
abbrev N_l_do_match : List Str := ["_law_one", "_law_other"]
theorem sc_l_do_match : FnScope N_l_do_match ["_law_one", "_law_other"] (defScope s_l_do_match) := ⟨rfl, rfl, rfl, by decide +kernel, rfl, by decide +kernel, by decide +kernel⟩
abbrev s_l_of_side : Stmt := topS 28
abbrev N_l_of_side : List Str := ["_law_gloves_here", "_law_side", "_law_glove"]
theorem sc_l_of_side : FnScope N_l_of_side ["_law_gloves_here", "_law_side"] (defScope s_l_of_side) := ⟨rfl, rfl, rfl, by decide +kernel, rfl, by decide +kernel, by decide +kernel⟩
abbrev s_choices : Stmt := topS 29
abbrev N_choices : List Str := ["_law_many", "_law_found", "_law_k", "_law_some"]
theorem sc_choices : FnScope N_choices ["_law_many"] (defScope s_choices) := ⟨rfl, rfl, rfl, by decide +kernel, rfl, by decide +kernel, by decide +kernel⟩
abbrev s_most : Stmt := topS 30
abbrev N_most : List Str := ["_law_gloves_here", "_law_lefts", "_law_rights", "_law_few", "_law_many", "_law_near", "_law_best", "_law_some", "_law_found", "_law_one", "_law_k", "_law_other"]
theorem sc_most : FnScope N_most ["_law_gloves_here"] (defScope s_most) := ⟨rfl, rfl, rfl, by decide +kernel, rfl, by decide +kernel, by decide +kernel⟩
abbrev s_Lot_init : Stmt := inClass (topS 21) 0
abbrev N_Lot_init : List Str := ["self", "gloves"]
theorem sc_Lot_init : FnScope N_Lot_init ["self", "gloves"] (defScope s_Lot_init) := ⟨rfl, rfl, rfl, by decide +kernel, rfl, by decide +kernel, by decide +kernel⟩
abbrev s_told : Stmt := topS 31
abbrev N_told : List Str := ["_law_gloves_here"]
theorem sc_told : FnScope N_told ["_law_gloves_here"] (defScope s_told) := ⟨rfl, rfl, rfl, by decide +kernel, rfl, by decide +kernel, by decide +kernel⟩
abbrev s_exchanged : Stmt := topS 32
abbrev N_exchanged : List Str := ["_law_gloves_here", "_law_glove"]
theorem sc_exchanged : FnScope N_exchanged ["_law_gloves_here"] (defScope s_exchanged) := ⟨rfl, rfl, rfl, by decide +kernel, rfl, by decide +kernel, by decide +kernel⟩
abbrev s_law : Stmt := topS 33
abbrev N_law : List Str := ["_law_script", "_law_deck_here", "_law_turn", "_law_gloves_here", "_law_due", "_law_at", "_law_fewer"]
theorem sc_law : FnScope N_law ["_law_script"] (defScope s_law) := ⟨rfl, rfl, rfl, by decide +kernel, rfl, by decide +kernel, by decide +kernel⟩
/-! ### what the top has left -/
structure Tx (K : PySem.W.Frag) (mg : Str → Option Value) where
  a_wall : Addr
  e_wall : FuncData
  F_wall : Fun K "_wall" "_wall" s_wall a_wall e_wall
  g_wall : mg "_wall" = some (.ref a_wall)
  a_in_base : Addr
  e_in_base : FuncData
  F_in_base : Fun K "in_base" "in_base" s_in_base a_in_base e_in_base
  g_in_base : mg "in_base" = some (.ref a_in_base)
  a_stamp_of : Addr
  e_stamp_of : FuncData
  F_stamp_of : FunF K "stamp_of" "stamp_of" s_stamp_of [(.int 0), (.str "l")] a_stamp_of e_stamp_of
  g_stamp_of : mg "stamp_of" = some (.ref a_stamp_of)
  a_ident_of : Addr
  e_ident_of : FuncData
  F_ident_of : Fun K "ident_of" "ident_of" s_ident_of a_ident_of e_ident_of
  g_ident_of : mg "ident_of" = some (.ref a_ident_of)
  a_can_have_one : Addr
  e_can_have_one : FuncData
  F_can_have_one : Fun K "can_have_one" "can_have_one" s_can_have_one a_can_have_one e_can_have_one
  g_can_have_one : mg "can_have_one" = some (.ref a_can_have_one)
  a_do_match : Addr
  e_do_match : FuncData
  F_do_match : Fun K "do_match" "do_match" s_do_match a_do_match e_do_match
  g_do_match : mg "do_match" = some (.ref a_do_match)
  a_of_side : Addr
  e_of_side : FuncData
  F_of_side : Fun K "of_side" "of_side" s_of_side a_of_side e_of_side
  g_of_side : mg "of_side" = some (.ref a_of_side)
  a_rights_near : Addr
  e_rights_near : FuncData
  F_rights_near : Fun K "rights_near" "rights_near" s_rights_near a_rights_near e_rights_near
  g_rights_near : mg "rights_near" = some (.ref a_rights_near)
  a_gets_one : Addr
  e_gets_one : FuncData
  F_gets_one : Fun K "gets_one" "gets_one" s_gets_one a_gets_one e_gets_one
  g_gets_one : mg "gets_one" = some (.ref a_gets_one)
  a_most_taken : Addr
  e_most_taken : FuncData
  F_most_taken : Fun K "most_taken" "most_taken" s_most_taken a_most_taken e_most_taken
  g_most_taken : mg "most_taken" = some (.ref a_most_taken)
  a_lefts_come_to : Addr
  e_lefts_come_to : FuncData
  F_lefts_come_to : Fun K "lefts_come_to" "lefts_come_to" s_lefts_come_to a_lefts_come_to e_lefts_come_to
  g_lefts_come_to : mg "lefts_come_to" = some (.ref a_lefts_come_to)
  a_matched : Addr
  e_matched : FuncData
  F_matched : Fun K "matched" "matched" s_matched a_matched e_matched
  g_matched : mg "matched" = some (.ref a_matched)
  a_deck : Addr
  e_deck : FuncData
  F_deck : Fun K "_law_deck" "_law_deck" s_deck a_deck e_deck
  g_deck : mg "_law_deck" = some (.ref a_deck)
  a_draw : Addr
  e_draw : FuncData
  F_draw : Fun K "_law_draw" "_law_draw" s_draw a_draw e_draw
  g_draw : mg "_law_draw" = some (.ref a_draw)
  a_styles : Addr
  e_styles : FuncData
  F_styles : Fun K "_law_styles" "_law_styles" s_styles a_styles e_styles
  g_styles : mg "_law_styles" = some (.ref a_styles)
  a_gloves : Addr
  e_gloves : FuncData
  F_gloves : Fun K "_law_gloves" "_law_gloves" s_gloves a_gloves e_gloves
  g_gloves : mg "_law_gloves" = some (.ref a_gloves)
  a_l_do_match : Addr
  e_l_do_match : FuncData
  F_l_do_match : Fun K "_law_do_match" "_law_do_match" s_l_do_match a_l_do_match e_l_do_match
  g_l_do_match : mg "_law_do_match" = some (.ref a_l_do_match)
  a_l_of_side : Addr
  e_l_of_side : FuncData
  F_l_of_side : Fun K "_law_of_side" "_law_of_side" s_l_of_side a_l_of_side e_l_of_side
  g_l_of_side : mg "_law_of_side" = some (.ref a_l_of_side)
  a_choices : Addr
  e_choices : FuncData
  F_choices : Fun K "_law_choices" "_law_choices" s_choices a_choices e_choices
  g_choices : mg "_law_choices" = some (.ref a_choices)
  a_most : Addr
  e_most : FuncData
  F_most : Fun K "_law_most" "_law_most" s_most a_most e_most
  g_most : mg "_law_most" = some (.ref a_most)
  a_Lot_init : Addr
  e_Lot_init : FuncData
  F_Lot_init : FunF K "__init__" "Lot.__init__" s_Lot_init [.non] a_Lot_init e_Lot_init
  a_told : Addr
  e_told : FuncData
  F_told : Fun K "_law_told" "_law_told" s_told a_told e_told
  g_told : mg "_law_told" = some (.ref a_told)
  a_exchanged : Addr
  e_exchanged : FuncData
  F_exchanged : Fun K "_law_exchanged" "_law_exchanged" s_exchanged a_exchanged e_exchanged
  g_exchanged : mg "_law_exchanged" = some (.ref a_exchanged)
  a_law : Addr
  e_law : FuncData
  F_law : Fun K "law" "law" s_law a_law e_law
  g_law : mg "law" = some (.ref a_law)
  C_Lot : Addr
  iC_Lot : IsC K "Lot" C_Lot
  gC_Lot : mg "Lot" = some (.ref C_Lot)
  cl_Lot : L2.Cls K C_Lot
  mk_Lot : Mk K C_Lot a_Lot_init
  fl_gloves : Flds K ["Lot"] "gloves"
  n_dict : mg "dict" = none
  n_enumerate : mg "enumerate" = none
  n_int : mg "int" = none
  n_len : mg "len" = none
  n_list : mg "list" = none
  n_max : mg "max" = none
  n_min : mg "min" = none
  n_range : mg "range" = none
  n_sorted : mg "sorted" = none
  n_sum : mg "sum" = none
  n_tuple : mg "tuple" = none
  v_BASE : V
  u_BASE : Value
  m_BASE : mg "BASE" = some u_BASE
  r_BASE : RelV v_BASE u_BASE
  d_BASE : ∀ mu H, RD K mu H k_BASE v_BASE
  v_FIGURES : V
  u_FIGURES : Value
  m_FIGURES : mg "FIGURES" = some u_FIGURES
  r_FIGURES : RelV v_FIGURES u_FIGURES
  d_FIGURES : ∀ mu H, RD K mu H k_FIGURES v_FIGURES
section
variable {P : Program} {w : World} {K : PySem.W.Frag} {mg : Str → Option Value} {base : Heap}
theorem b_can_have_one_2 (T : Tx K mg) : BindK K T.e_can_have_one ["one", "other"] 2 [] [0, 1] [] := bindK_of T.F_can_have_one fun _ _ _ _ _ _ us ws h1 h2 => match us, ws, h1, h2 with | [_, _], [], _, _ => rfl
theorem b_do_match_2 (T : Tx K mg) : BindK K T.e_do_match ["one", "other"] 2 [] [0, 1] [] := bindK_of T.F_do_match fun _ _ _ _ _ _ us ws h1 h2 => match us, ws, h1, h2 with | [_, _], [], _, _ => rfl
theorem b_gets_one_4 (T : Tx K mg) : BindK K T.e_gets_one ["near", "taken", "left", "seen"] 4 [] [0, 1, 2, 3] [] := bindK_of T.F_gets_one fun _ _ _ _ _ _ us ws h1 h2 => match us, ws, h1, h2 with | [_, _, _, _], [], _, _ => rfl
theorem b_of_side_2 (T : Tx K mg) : BindK K T.e_of_side ["lot", "side"] 2 [] [0, 1] [] := bindK_of T.F_of_side fun _ _ _ _ _ _ us ws h1 h2 => match us, ws, h1, h2 with | [_, _], [], _, _ => rfl
theorem b_rights_near_2 (T : Tx K mg) : BindK K T.e_rights_near ["lefts", "rights"] 2 [] [0, 1] [] := bindK_of T.F_rights_near fun _ _ _ _ _ _ us ws h1 h2 => match us, ws, h1, h2 with | [_, _], [], _, _ => rfl
theorem b_most_taken_1 (T : Tx K mg) : BindK K T.e_most_taken ["near"] 1 [] [0] [] := bindK_of T.F_most_taken fun _ _ _ _ _ _ us ws h1 h2 => match us, ws, h1, h2 with | [_], [], _, _ => rfl
theorem b_ident_of_1 (T : Tx K mg) : BindK K T.e_ident_of ["glove"] 1 [] [0] [] := bindK_of T.F_ident_of fun _ _ _ _ _ _ us ws h1 h2 => match us, ws, h1, h2 with | [_], [], _, _ => rfl
theorem b_lefts_come_to_2 (T : Tx K mg) : BindK K T.e_lefts_come_to ["near", "taken"] 2 [] [0, 1] [] := bindK_of T.F_lefts_come_to fun _ _ _ _ _ _ us ws h1 h2 => match us, ws, h1, h2 with | [_, _], [], _, _ => rfl
theorem b_draw_2 (T : Tx K mg) : BindK K T.e_draw ["_law_deck_here", "_law_most_here"] 2 [] [0, 1] [] := bindK_of T.F_draw fun _ _ _ _ _ _ us ws h1 h2 => match us, ws, h1, h2 with | [_, _], [], _, _ => rfl
theorem b_styles_1 (T : Tx K mg) : BindK K T.e_styles ["_law_deck_here"] 1 [] [0] [] := bindK_of T.F_styles fun _ _ _ _ _ _ us ws h1 h2 => match us, ws, h1, h2 with | [_], [], _, _ => rfl
theorem b_l_of_side_2 (T : Tx K mg) : BindK K T.e_l_of_side ["_law_gloves_here", "_law_side"] 2 [] [0, 1] [] := bindK_of T.F_l_of_side fun _ _ _ _ _ _ us ws h1 h2 => match us, ws, h1, h2 with | [_, _], [], _, _ => rfl
theorem b_l_do_match_2 (T : Tx K mg) : BindK K T.e_l_do_match ["_law_one", "_law_other"] 2 [] [0, 1] [] := bindK_of T.F_l_do_match fun _ _ _ _ _ _ us ws h1 h2 => match us, ws, h1, h2 with | [_, _], [], _, _ => rfl
theorem b_choices_1 (T : Tx K mg) : BindK K T.e_choices ["_law_many"] 1 [] [0] [] := bindK_of T.F_choices fun _ _ _ _ _ _ us ws h1 h2 => match us, ws, h1, h2 with | [_], [], _, _ => rfl
theorem b_Lot_init_2 (T : Tx K mg) : ∃ its, Vals [.non] its ∧ BindK K T.e_Lot_init ["self", "gloves"] 2 [] [0, 1] its := by
  first
    | exact bindKD_of T.F_Lot_init (List.cons_ne_nil _ _) fun _ _ _ _ _ _ _ us its ws h1 h2 h3 => match us, its, ws, h1, h2, h3 with | [_, _], [_], [], _, _, _ => ⟨_, rfl, rfl⟩
    | exact bindKN_of T.F_Lot_init (List.cons_ne_nil _ _) fun _ _ _ _ _ _ _ us its ws h1 h2 h3 => match us, its, ws, h1, h2, h3 with | [_, _], [_], [], _, _, _ => rfl
theorem b_matched_1 (T : Tx K mg) : BindK K T.e_matched ["lot"] 1 [] [0] [] := bindK_of T.F_matched fun _ _ _ _ _ _ us ws h1 h2 => match us, ws, h1, h2 with | [_], [], _, _ => rfl
theorem b_deck_1 (T : Tx K mg) : BindK K T.e_deck ["_law_script"] 1 [] [0] [] := bindK_of T.F_deck fun _ _ _ _ _ _ us ws h1 h2 => match us, ws, h1, h2 with | [_], [], _, _ => rfl
theorem b_gloves_2 (T : Tx K mg) : BindK K T.e_gloves ["_law_deck_here", "_law_many"] 2 [] [0, 1] [] := bindK_of T.F_gloves fun _ _ _ _ _ _ us ws h1 h2 => match us, ws, h1, h2 with | [_, _], [], _, _ => rfl
theorem b_most_1 (T : Tx K mg) : BindK K T.e_most ["_law_gloves_here"] 1 [] [0] [] := bindK_of T.F_most fun _ _ _ _ _ _ us ws h1 h2 => match us, ws, h1, h2 with | [_], [], _, _ => rfl
theorem b_told_1 (T : Tx K mg) : BindK K T.e_told ["_law_gloves_here"] 1 [] [0] [] := bindK_of T.F_told fun _ _ _ _ _ _ us ws h1 h2 => match us, ws, h1, h2 with | [_], [], _, _ => rfl
theorem b_exchanged_1 (T : Tx K mg) : BindK K T.e_exchanged ["_law_gloves_here"] 1 [] [0] [] := bindK_of T.F_exchanged fun _ _ _ _ _ _ us ws h1 h2 => match us, ws, h1, h2 with | [_], [], _, _ => rfl
theorem ok_ident_of (T : Tx K mg) (sm : ∃ o, base.get? sysModules = some o) : FnG P w K mg base 1 T.a_ident_of T.e_ident_of ["glove"] (spU K mg 1 c_ident_of) := by
  refine (fun_ok T.F_ident_of sm sc_ident_of f_ident_of fun cdv A outer s H E B => ?_)
  exact (us_one (us_ret (ue_sl (ue_name 0) uo_none (uo_some ue_int))))
theorem ok_can_have_one (T : Tx K mg) (sm : ∃ o, base.get? sysModules = some o) : FnG P w K mg base 1 T.a_can_have_one T.e_can_have_one ["one", "other"] (spU K mg 2 c_can_have_one) := by
  refine (fun_ok T.F_can_have_one sm sc_can_have_one f_can_have_one fun cdv A outer s H E B => ?_)
  exact (us_one (us_ret (ue_cmp og_le (ue_callB (cg_max2 B.calm) (by rfl) T.n_max boot_max (ua_cons (ue_ix (ue_name 0) ue_int) (ua_cons (ue_ix (ue_name 1) ue_int) ua_nil))) (ue_callB (cg_min2 B.calm) (by rfl) T.n_min boot_min (ua_cons (ue_ix (ue_name 0) ue_int) (ua_cons (ue_ix (ue_name 1) ue_int) ua_nil))))))
theorem ok_do_match (T : Tx K mg) (sm : ∃ o, base.get? sysModules = some o) : FnG P w K mg base 2 T.a_do_match T.e_do_match ["one", "other"] (spU K mg 2 c_do_match) := by
  refine (fun_ok T.F_do_match sm sc_do_match f_do_match fun cdv A outer s H E B => ?_)
  exact (us_cons (us_if (ut_w (uw_or (ut_cmp (og_eq B.room.units) (ue_ix (ue_name 0) ue_int) (ue_ix (ue_name 1) ue_int)) (uw_or (ut_cmp (og_ne B.room.units) (ue_ix (ue_name 0) ue_int) (ue_ix (ue_name 1) ue_int)) (uw_or1 (ut_cmp (og_ne B.room.units) (ue_ix (ue_name 0) ue_int) (ue_ix (ue_name 1) ue_int)))))) (us_one (us_ret ue_bl)) us_nil)
    (us_one (us_ret (ue_fn B (ok_can_have_one T B.sm) (by decide) T.g_can_have_one T.F_can_have_one.kp (b_can_have_one_2 T) (ua_cons (ue_name 0) (ua_cons (ue_name 1) ua_nil)) (len_cons (len_cons len_nil))))))
theorem ok_of_side (T : Tx K mg) (sm : ∃ o, base.get? sysModules = some o) : FnG P w K mg base 1 T.a_of_side T.e_of_side ["lot", "side"] (spU K mg 2 c_of_side) := by
  refine (fun_ok T.F_of_side sm sc_of_side f_of_side fun cdv A outer s H E B => ?_)
  exact (us_one (us_ret (ue_v (uf_comp (own := [("glove", 2)]) B.calm sc_of_side.nd (ui_any (ue_fld T.fl_gloves (ue_name 0))) (blkOk_by (N := N_of_side) (sc := defScope s_of_side) (by decide +kernel)) (fun _ _ _ _ _ => (ug_name (i := 2) sc_of_side.nd (by decide))) (fun _ _ _ _ _ => (uts_one (ut_cmp (og_eq B.blk.room.units) (ue_ix (ue_name 2) ue_int) (ue_name 1)))) (fun _ _ _ _ _ => (ue_name 2))))))
theorem ok_rights_near (T : Tx K mg) (sm : ∃ o, base.get? sysModules = some o) : FnG P w K mg base 3 T.a_rights_near T.e_rights_near ["lefts", "rights"] (spU K mg 2 c_rights_near) := by
  refine (fun_ok T.F_rights_near sm sc_rights_near f_rights_near fun cdv A outer s H E B => ?_)
  exact (us_one (us_ret (ue_v (uf_comp (own := [("left", 2)]) B.calm sc_rights_near.nd (ui_any (ue_name 0)) (blkOk_by (N := N_rights_near) (sc := defScope s_rights_near) (by decide +kernel)) (fun _ _ _ _ _ => (ug_name (i := 2) sc_rights_near.nd (by decide))) (fun _ _ _ _ _ => uts_nil) (fun _ _ _ _ _ => (ue_v (uf_comp (own := [("k", 3), ("right", 4)]) B.blk.calm sc_rights_near.nd (ui_enum (by rfl) T.n_enumerate (ua_cons (ue_name 1) ua_nil)) (blkOk_n (N := N_rights_near) (by decide +kernel)) (fun _ _ _ _ _ => (ug_tup B.calm (ugs_cons (ug_name (i := 3) sc_rights_near.nd (by decide)) (ugs_cons (ug_name (i := 4) sc_rights_near.nd (by decide)) ugs_nil)))) (fun _ _ _ _ _ => (uts_one (ut_truth (ue_fn B.blk.blk (ok_do_match T B.sm) (by decide) T.g_do_match T.F_do_match.kp (b_do_match_2 T) (ua_cons (ue_name 2) (ua_cons (ue_name 4) ua_nil)) (len_cons (len_cons len_nil)))))) (fun _ _ _ _ _ => (ue_name 3)))))))))
theorem rk_gets_one (T : Tx K mg) (sm : ∃ o, base.get? sysModules = some o) : ∀ n, FnG P w K mg base (0 + n) T.a_gets_one T.e_gets_one ["near", "taken", "left", "seen"] (spU K mg 4 (r_gets_one n))
  | 0 => fnG_bad
  | n + 1 => by
    have ih := rk_gets_one T sm n
    refine (fun_ok T.F_gets_one sm sc_gets_one (f_gets_one (r_gets_one n)) fun cdv A outer s H E B => ?_)
    exact (us_cons (us_for (vs := [4]) B.po B.calm (ui_any (ue_ix (ue_name 0) (ue_name 2))) (ug_name (i := 4) (vs := [4]) sc_gets_one.nd (by decide))
    (us_one (us_if (ut_cmp (og_notinA (u65 B.room)) (ue_name 4) (ue_name 3)) (us_cons (us_sub (sg_any (u1 B.room)) ue_bl (ue_name 3) (ue_name 4))
    (us_one (us_if (ut_w (uw_or (ut_cmp (og_notinA (u65 B.room)) (ue_name 4) (ue_name 1)) (uw_or1 (ut_truth (ue_fn B ih (Nat.le_refl _) T.g_gets_one T.F_gets_one.kp (b_gets_one_4 T) (ua_cons (ue_name 0) (ua_cons (ue_name 1) (ua_cons (ue_dget (u1 B.room) (ue_name 1) (ue_name 4)) (ua_cons (ue_name 3) ua_nil)))) (len_cons (len_cons (len_cons (len_cons len_nil))))))))) (us_cons (us_sub (sg_any (u1 B.room)) (ue_name 2) (ue_name 1) (ue_name 4))
    (us_one (us_ret ue_bl))) us_nil))) us_nil)))
    (us_one (us_ret ue_bl)))
theorem ok_gets_one (T : Tx K mg) (sm : ∃ o, base.get? sysModules = some o) : FnG P w K mg base 40 T.a_gets_one T.e_gets_one ["near", "taken", "left", "seen"] (spU K mg 4 c_gets_one) := rk_gets_one T sm 40
theorem ok_most_taken (T : Tx K mg) (sm : ∃ o, base.get? sysModules = some o) : FnG P w K mg base 41 T.a_most_taken T.e_most_taken ["near"] (spU K mg 1 c_most_taken) := by
  refine FnG.gc (fun_ok T.F_most_taken sm sc_most_taken f_most_taken fun cdv A outer s H E B => ?_)
  exact (us_cons (us_set (i := 1) sc_most_taken.nd ue_d0k)
    (us_cons (us_for (vs := [2]) B.po B.calm (ui_range1 (by rfl) T.n_range (ua_cons (ue_callB cg_len (by rfl) T.n_len PySem.boot_len (ua_cons (ue_name 0) ua_nil)) ua_nil)) (ug_name (i := 2) (vs := [2]) sc_most_taken.nd (by decide))
    (us_one (us_expr (ue_fn B (ok_gets_one T B.sm) (by decide) T.g_gets_one T.F_gets_one.kp (b_gets_one_4 T) (ua_cons (ue_name 0) (ua_cons (ue_name 1) (ua_cons (ue_name 2) (ua_cons ue_d0k ua_nil)))) (len_cons (len_cons (len_cons (len_cons len_nil))))))))
    (us_one (us_ret (ue_lk (ue_name 1))))))
theorem ok_lefts_come_to (T : Tx K mg) (sm : ∃ o, base.get? sysModules = some o) : FnG P w K mg base 1 T.a_lefts_come_to T.e_lefts_come_to ["near", "taken"] (spU K mg 2 c_lefts_come_to) := by
  refine FnG.gc (fun_ok T.F_lefts_come_to sm sc_lefts_come_to f_lefts_come_to fun cdv A outer s H E B => ?_)
  exact (us_cons (us_set (i := 2) sc_lefts_come_to.nd (ue_dictP B.calm (by rfl) T.n_dict (uf_comp (own := [("left", 6)]) B.calm sc_lefts_come_to.nd (ui_vals (ue_name 1)) (blkOk_by (N := N_lefts_come_to) (sc := defScope s_lefts_come_to) (by decide +kernel)) (fun _ _ _ _ _ => (ug_name (i := 6) sc_lefts_come_to.nd (by decide))) (fun _ _ _ _ _ => uts_nil) (fun _ _ _ _ _ => (ue_tup (ua_cons (ue_name 6) (ua_cons ue_bl ua_nil)) (few (Nat.le_of_ble_eq_true rfl)) (len_cons (len_cons len_nil)))))))
    (us_cons (us_set (i := 3) sc_lefts_come_to.nd (ue_dictPM B.calm (by rfl) T.n_dict (uf_comp (own := [("left", 6)]) B.calm sc_lefts_come_to.nd (ui_range1 (by rfl) T.n_range (ua_cons (ue_callB cg_len (by rfl) T.n_len PySem.boot_len (ua_cons (ue_name 0) ua_nil)) ua_nil)) (blkOk_by (N := N_lefts_come_to) (sc := defScope s_lefts_come_to) (by decide +kernel)) (fun _ _ _ _ _ => (ug_name (i := 6) sc_lefts_come_to.nd (by decide))) (fun _ _ _ _ _ => (uts_one (ut_cmp (og_notinA (u65 B.blk.room)) (ue_name 6) (ue_name 2)))) (fun _ _ _ _ _ => (ue_tup (ua_cons (ue_name 6) (ua_cons ue_bl ua_nil)) (few (Nat.le_of_ble_eq_true rfl)) (len_cons (len_cons len_nil)))))))
    (us_cons (us_set (i := 4) sc_lefts_come_to.nd (ue_m (uf_listD B.calm (by rfl) T.n_list (ue_name 3))))
    (us_cons (us_while B.po (ut_cmp (og_neL B.room.units) (ue_name 4) (ue_v (uf_lst ua_nil (few (Nat.le_of_ble_eq_true rfl)) len_nil))) (us_one (us_for (vs := [5]) B.po B.calm (ui_any (ue_ix (ue_name 0) (ue_mt0 isL_ty PySem.F.plainAttrs_list PySem.F.slot_list_pop PySem.F.type_list_pop mg_pop (ue_name 4)))) (ug_name (i := 5) (vs := [5]) sc_lefts_come_to.nd (by decide))
    (us_cons (us_set (i := 6) sc_lefts_come_to.nd (ue_dget (u1 B.room) (ue_name 1) (ue_name 5)))
    (us_one (us_if (ut_cmp (og_notinA (u65 B.room)) (ue_name 6) (ue_name 3)) (us_cons (us_sub (sg_any (u1 B.room)) ue_bl (ue_name 3) (ue_name 6))
    (us_one (us_expr (ue_mt isL_ty PySem.F.plainAttrs_list PySem.F.slot_list_append PySem.F.type_list_append mg_append (ue_name 4) (ua_cons (ue_name 6) ua_nil))))) us_nil))))))
    (us_one (us_ret (ue_v (uf_sortZ B.calm (by rfl) T.n_sorted (ue_name 3)))))))))
theorem ok_matched (T : Tx K mg) (sm : ∃ o, base.get? sysModules = some o) : FnG P w K mg base 42 T.a_matched T.e_matched ["lot"] (spU K mg 1 c_matched) := by
  refine (fun_ok T.F_matched sm sc_matched f_matched fun cdv A outer s H E B => ?_)
  exact (us_cons (us_asg (ue_tup (ua_cons (ue_fn B (ok_of_side T B.sm) (by decide) T.g_of_side T.F_of_side.kp (b_of_side_2 T) (ua_cons (ue_name 0) (ua_cons ue_str ua_nil)) (len_cons (len_cons len_nil))) (ua_cons (ue_fn B (ok_of_side T B.sm) (by decide) T.g_of_side T.F_of_side.kp (b_of_side_2 T) (ua_cons (ue_name 0) (ua_cons ue_str ua_nil)) (len_cons (len_cons len_nil))) ua_nil)) (few (Nat.le_of_ble_eq_true rfl)) (len_cons (len_cons len_nil))) (ug_tup B.calm (ugs_cons (ug_name (i := 1) (vs := [1, 2]) sc_matched.nd (by decide)) (ugs_cons (ug_name (i := 2) (vs := [1, 2]) sc_matched.nd (by decide)) ugs_nil))))
    (us_cons (us_set (i := 3) sc_matched.nd (ue_fn B (ok_rights_near T B.sm) (by decide) T.g_rights_near T.F_rights_near.kp (b_rights_near_2 T) (ua_cons (ue_name 1) (ua_cons (ue_name 2) ua_nil)) (len_cons (len_cons len_nil))))
    (us_cons (us_set (i := 4) sc_matched.nd (ue_fn B (ok_most_taken T B.sm) (by decide) T.g_most_taken T.F_most_taken.kp (b_most_taken_1 T) (ua_cons (ue_name 3) ua_nil) (len_cons len_nil)))
    (us_cons (us_set (i := 5) sc_matched.nd (ue_v (uf_sortP B.sm (u65 B.room) (by rfl) T.n_sorted (ue_v (uf_comp (own := [("right", 6)]) B.calm sc_matched.nd (ui_keys (ue_name 4)) (blkOk_by (N := N_matched) (sc := defScope s_matched) (by decide +kernel)) (fun _ _ _ _ _ => (ug_name (i := 6) sc_matched.nd (by decide))) (fun _ _ _ _ _ => uts_nil) (fun _ _ _ _ _ => (ue_tup (ua_cons (ue_fn B.blk (ok_ident_of T B.sm) (by decide) T.g_ident_of T.F_ident_of.kp (b_ident_of_1 T) (ua_cons (ue_ix (ue_name 1) (ue_dget (u1 B.blk.room) (ue_name 4) (ue_name 6))) ua_nil) (len_cons len_nil)) (ua_cons (ue_fn B.blk (ok_ident_of T B.sm) (by decide) T.g_ident_of T.F_ident_of.kp (b_ident_of_1 T) (ua_cons (ue_ix (ue_name 2) (ue_name 6)) ua_nil) (len_cons len_nil)) ua_nil)) (few (Nat.le_of_ble_eq_true rfl)) (len_cons (len_cons len_nil)))))))))
    (us_one (us_ret (ue_tup (ua_cons (ue_callTy cg_tuple (by rfl) T.n_tuple PyProof.Rows.boot_tuple (ua_cons (ue_name 5) ua_nil)) (ua_cons (ue_callTy cg_tuple (by rfl) T.n_tuple PyProof.Rows.boot_tuple (ua_cons (ue_v (uf_comp (own := [("left", 7)]) B.calm sc_matched.nd (ui_any (ue_fn B (ok_lefts_come_to T B.sm) (by decide) T.g_lefts_come_to T.F_lefts_come_to.kp (b_lefts_come_to_2 T) (ua_cons (ue_name 3) (ua_cons (ue_name 4) ua_nil)) (len_cons (len_cons len_nil)))) (blkOk_by (N := N_matched) (sc := defScope s_matched) (by decide +kernel)) (fun _ _ _ _ _ => (ug_name (i := 7) sc_matched.nd (by decide))) (fun _ _ _ _ _ => uts_nil) (fun _ _ _ _ _ => (ue_fn B.blk (ok_ident_of T B.sm) (by decide) T.g_ident_of T.F_ident_of.kp (b_ident_of_1 T) (ua_cons (ue_ix (ue_name 1) (ue_name 7)) ua_nil) (len_cons len_nil))))) ua_nil)) ua_nil)) (few (Nat.le_of_ble_eq_true rfl)) (len_cons (len_cons len_nil)))))))))
theorem ok_deck (T : Tx K mg) (sm : ∃ o, base.get? sysModules = some o) : FnG P w K mg base 1 T.a_deck T.e_deck ["_law_script"] (spU K mg 1 c_deck) := by
  refine (fun_ok T.F_deck sm sc_deck f_deck fun cdv A outer s H E B => ?_)
  exact (us_cons (us_set (i := 1) sc_deck.nd (ue_m (uf_list (by rfl) T.n_list (ue_sl (ue_name 0) uo_none (uo_some ue_int)))))
    (us_one (us_ret (ue_m (uf_lst (ua_cons (ue_m (uf_rev (ue_name 1))) (ua_cons (ue_bin og_add (ue_callB (cg_sum B.calm) (by rfl) T.n_sum boot_sum (ua_cons (ue_v (uf_comp (own := [("_law_cell", 2)]) B.calm sc_deck.nd (ui_any (ue_name 1)) (blkOk_by (N := N_deck) (sc := defScope s_deck) (by decide +kernel)) (fun _ _ _ _ _ => (ug_name (i := 2) sc_deck.nd (by decide))) (fun _ _ _ _ _ => uts_nil) (fun _ _ _ _ _ => (ue_bin og_mod (ue_name 2) ue_int)))) ua_nil)) (ue_bin og_mul ue_int (ue_callB cg_len (by rfl) T.n_len PySem.boot_len (ua_cons (ue_name 1) ua_nil)))) (ua_cons ue_int ua_nil))) (few (Nat.le_of_ble_eq_true rfl)) (len_cons (len_cons (len_cons len_nil))))))))
theorem ok_draw (T : Tx K mg) (sm : ∃ o, base.get? sysModules = some o) : FnG P w K mg base 1 T.a_draw T.e_draw ["_law_deck_here", "_law_most_here"] (spU K mg 2 c_draw) := by
  refine (fun_ok T.F_draw sm sc_draw f_draw fun cdv A outer s H E B => ?_)
  exact (us_cons (us_sub sg_list (ue_bin og_add (ue_ix (ue_name 0) ue_int) ue_int) (ue_name 0) ue_int)
    (us_cons (us_set (i := 2) sc_draw.nd (ue_ix (ue_name 0) ue_int))
    (us_cons (us_if (ut_cmp (og_ne B.room.units) (ue_ix (ue_name 0) ue_int) (ue_v (uf_lst ua_nil (few (Nat.le_of_ble_eq_true rfl)) len_nil))) (us_cons (us_set (i := 2) sc_draw.nd (ue_mt0 isL_ty PySem.F.plainAttrs_list PySem.F.slot_list_pop PySem.F.type_list_pop mg_pop (ue_ix (ue_name 0) ue_int)))
    (us_one (us_if (ut_cmp og_ge (ue_name 2) (ue_bin og_pow ue_int ue_int)) (us_cons (us_expr (ue_mt isL_ty PySem.F.plainAttrs_list PySem.F.slot_list_append PySem.F.type_list_append mg_append (ue_ix (ue_name 0) ue_int) (ua_cons (ue_bin og_div (ue_name 2) (ue_name 1)) ua_nil)))
    (us_one (us_ret (ue_bin og_mod (ue_name 2) (ue_name 1))))) us_nil))) us_nil)
    (us_cons (us_set (i := 3) sc_draw.nd (ue_bin og_mod (ue_bin og_mul (ue_bin og_add (ue_bin og_add (ue_bin og_mod (ue_name 2) ue_int) (ue_bin og_mul ue_int (ue_ix (ue_name 0) ue_int))) ue_int) ue_int) ue_int))
    (us_cons (us_set (i := 3) sc_draw.nd (ue_bin og_mod (ue_bin og_add (ue_bin og_add (ue_bin og_mul (ue_name 3) (ue_name 3)) (ue_bin og_mul ue_int (ue_ix (ue_name 0) ue_int))) ue_int) ue_int))
    (us_one (us_ret (ue_bin og_mod (ue_bin og_div (ue_bin og_mod (ue_bin og_add (ue_bin og_mul (ue_name 3) (ue_name 3)) (ue_bin og_mul ue_int (ue_name 3))) ue_int) ue_int) (ue_name 1)))))))))
theorem ok_styles (T : Tx K mg) (sm : ∃ o, base.get? sysModules = some o) : FnG P w K mg base 2 T.a_styles T.e_styles ["_law_deck_here"] (spU K mg 1 c_styles) := by
  refine (fun_ok T.F_styles sm sc_styles f_styles fun cdv A outer s H E B => ?_)
  exact (us_cons (us_set (i := 1) sc_styles.nd ue_str)
    (us_cons (us_set (i := 2) sc_styles.nd (ue_fn B (ok_draw T B.sm) (by decide) T.g_draw T.F_draw.kp (b_draw_2 T) (ua_cons (ue_name 0) (ua_cons ue_int ua_nil)) (len_cons (len_cons len_nil))))
    (us_cons (us_set (i := 3) sc_styles.nd (ue_mt isS_ty PySem.F.plainAttrs_str PySem.F.slot_str_join PySem.F.type_str_join mg_join ue_str (ua_cons (ue_v (uf_comp (own := [("_law_k", 6)]) B.calm sc_styles.nd (ui_range1 (by rfl) T.n_range (ua_cons (ue_bin og_add ue_int (ue_fn B (ok_draw T B.sm) (by decide) T.g_draw T.F_draw.kp (b_draw_2 T) (ua_cons (ue_name 0) (ua_cons ue_int ua_nil)) (len_cons (len_cons len_nil)))) ua_nil)) (blkOk_by (N := N_styles) (sc := defScope s_styles) (by decide +kernel)) (fun _ _ _ _ _ => (ug_name (i := 6) sc_styles.nd (by decide))) (fun _ _ _ _ _ => uts_nil) (fun _ _ _ _ _ => (ue_ix (ue_name 1) (ue_fn B.blk (ok_draw T B.sm) (by decide) T.g_draw T.F_draw.kp (b_draw_2 T) (ua_cons (ue_name 0) (ua_cons ue_int ua_nil)) (len_cons (len_cons len_nil))))))) ua_nil)))
    (us_cons (us_set (i := 4) sc_styles.nd (ue_fn B (ok_draw T B.sm) (by decide) T.g_draw T.F_draw.kp (b_draw_2 T) (ua_cons (ue_name 0) (ua_cons (ue_callB cg_len (by rfl) T.n_len PySem.boot_len (ua_cons (ue_name 3) ua_nil)) ua_nil)) (len_cons (len_cons len_nil))))
    (us_cons (us_set (i := 5) sc_styles.nd (ue_ix (ue_name 1) (ue_bin og_mod (ue_bin og_add (ue_mt isS_ty PySem.F.plainAttrs_str PySem.F.slot_str_index PySem.F.type_str_index mg_sindex (ue_name 1) (ua_cons (ue_ix (ue_name 3) (ue_name 4)) ua_nil)) ue_int) ue_int)))
    (us_cons (us_if (ut_cmp (og_eq B.room.units) (ue_name 2) ue_int) (us_one (us_ret (ue_v (uf_lst (ua_cons (ue_name 3) (ua_cons (ue_sl (ue_name 3) uo_none (uo_some (ue_bin og_add ue_int (ue_fn B (ok_draw T B.sm) (by decide) T.g_draw T.F_draw.kp (b_draw_2 T) (ua_cons (ue_name 0) (ua_cons (ue_bin og_sub (ue_callB cg_len (by rfl) T.n_len PySem.boot_len (ua_cons (ue_name 3) ua_nil)) ue_int) ua_nil)) (len_cons (len_cons len_nil)))))) ua_nil)) (few (Nat.le_of_ble_eq_true rfl)) (len_cons (len_cons len_nil)))))) us_nil)
    (us_one (us_ret (ue_ix (ue_v (uf_lst (ua_cons (ue_v (uf_lst (ua_cons (ue_name 3) (ua_cons (ue_bin og_add (ue_bin og_add (ue_sl (ue_name 3) uo_none (uo_some (ue_name 4))) (ue_name 5)) (ue_sl (ue_name 3) (uo_some (ue_bin og_add (ue_name 4) ue_int)) uo_none)) ua_nil)) (few (Nat.le_of_ble_eq_true rfl)) (len_cons (len_cons len_nil)))) (ua_cons (ue_v (uf_lst (ua_cons (ue_ix (ue_name 3) (ue_name 4)) (ua_cons (ue_name 5) ua_nil)) (few (Nat.le_of_ble_eq_true rfl)) (len_cons (len_cons len_nil)))) ua_nil)) (few (Nat.le_of_ble_eq_true rfl)) (len_cons (len_cons len_nil)))) (ue_bin og_sub (ue_name 2) ue_int))))))))))
theorem ok_gloves (T : Tx K mg) (sm : ∃ o, base.get? sysModules = some o) : FnG P w K mg base 3 T.a_gloves T.e_gloves ["_law_deck_here", "_law_many"] (spU K mg 2 c_gloves) := by
  refine FnG.gc (fun_ok T.F_gloves sm sc_gloves f_gloves fun cdv A outer s H E B => ?_)
  exact (us_cons (us_set (i := 2) sc_gloves.nd (ue_fn B (ok_draw T B.sm) (by decide) T.g_draw T.F_draw.kp (b_draw_2 T) (ua_cons (ue_name 0) (ua_cons ue_int ua_nil)) (len_cons (len_cons len_nil))))
    (us_cons (us_set (i := 3) sc_gloves.nd (ue_ix (ue_v (uf_lst (ua_cons ue_int (ua_cons ue_int (ua_cons ue_int (ua_cons ue_int ua_nil)))) (few (Nat.le_of_ble_eq_true rfl)) (len_cons (len_cons (len_cons (len_cons len_nil)))))) (ue_fn B (ok_draw T B.sm) (by decide) T.g_draw T.F_draw.kp (b_draw_2 T) (ua_cons (ue_name 0) (ua_cons ue_int ua_nil)) (len_cons (len_cons len_nil)))))
    (us_cons (us_set (i := 4) sc_gloves.nd (ue_fn B (ok_styles T B.sm) (by decide) T.g_styles T.F_styles.kp (b_styles_1 T) (ua_cons (ue_name 0) ua_nil) (len_cons len_nil)))
    (us_cons (us_set (i := 5) sc_gloves.nd ue_d0t)
    (us_cons (us_for (vs := [6]) B.po B.calm (ui_range1 (by rfl) T.n_range (ua_cons (ue_name 1) ua_nil)) (ug_name (i := 6) (vs := [6]) sc_gloves.nd (by decide))
    (us_cons (us_set (i := 7) sc_gloves.nd (ue_ix (ue_v (uf_lst (ua_cons ue_str (ua_cons ue_str (ua_cons (ue_ix (ue_v (uf_lst (ua_cons ue_str (ua_cons ue_str ua_nil)) (few (Nat.le_of_ble_eq_true rfl)) (len_cons (len_cons len_nil)))) (ue_bin og_mod (ue_name 6) ue_int)) (ua_cons (ue_ix (ue_v (uf_lst (ua_cons ue_str (ua_cons ue_str ua_nil)) (few (Nat.le_of_ble_eq_true rfl)) (len_cons (len_cons len_nil)))) (ue_callTy cg_int (by rfl) T.n_int PyProof.Rows.boot_int (ua_cons (ue_cmp (og_eq B.room.units) (ue_name 2) ue_int) ua_nil))) ua_nil)))) (few (Nat.le_of_ble_eq_true rfl)) (len_cons (len_cons (len_cons (len_cons len_nil)))))) (ue_fn B (ok_draw T B.sm) (by decide) T.g_draw T.F_draw.kp (b_draw_2 T) (ua_cons (ue_name 0) (ua_cons ue_int ua_nil)) (len_cons (len_cons len_nil)))))
    (us_cons (us_par (i := 8) (j := 9) B.calm sc_gloves.nd (by decide) (ua_cons (ue_fn B (ok_draw T B.sm) (by decide) T.g_draw T.F_draw.kp (b_draw_2 T) (ua_cons (ue_name 0) (ua_cons (ue_ix (ue_v (uf_lst (ua_cons ue_int (ua_cons ue_int (ua_cons ue_int (ua_cons ue_int (ua_cons ue_int (ua_cons ue_int ua_nil)))))) (few (Nat.le_of_ble_eq_true rfl)) (len_cons (len_cons (len_cons (len_cons (len_cons (len_cons len_nil)))))))) (ue_name 2)) ua_nil)) (len_cons (len_cons len_nil))) (ua_cons (ue_fn B (ok_draw T B.sm) (by decide) T.g_draw T.F_draw.kp (b_draw_2 T) (ua_cons (ue_name 0) (ua_cons (ue_ix (ue_v (uf_lst (ua_cons ue_int (ua_cons ue_int (ua_cons ue_int (ua_cons ue_int (ua_cons ue_int (ua_cons ue_int ua_nil)))))) (few (Nat.le_of_ble_eq_true rfl)) (len_cons (len_cons (len_cons (len_cons (len_cons (len_cons len_nil)))))))) (ue_name 2)) ua_nil)) (len_cons (len_cons len_nil))) ua_nil)) (by rfl))
    (us_cons (us_set (i := 10) sc_gloves.nd (ue_bin og_add (ue_bin og_add (ue_name 3) (ue_name 8)) (ue_bin og_mul (ue_bin og_div (ue_name 6) ue_int) (ue_callTy cg_int (by rfl) T.n_int PyProof.Rows.boot_int (ua_cons (ue_cmp (og_eq B.room.units) (ue_name 2) ue_int) ua_nil)))))
    (us_cons (us_set (i := 11) sc_gloves.nd (ue_bin og_add (ue_bin og_add (ue_name 10) (ue_name 9)) (ue_callTy cg_int (by rfl) T.n_int PyProof.Rows.boot_int (ua_cons (ue_and (ue_cmp (og_eq B.room.units) (ue_name 2) ue_int) (ue_one (ue_cmp (og_eq B.room.units) (ue_name 7) ue_str))) ua_nil))))
    (us_cons (us_set (i := 12) sc_gloves.nd (ue_ix (ue_name 4) (ue_callTy cg_int (by rfl) T.n_int PyProof.Rows.boot_int (ua_cons (ue_cmp (og_eq B.room.units) (ue_fn B (ok_draw T B.sm) (by decide) T.g_draw T.F_draw.kp (b_draw_2 T) (ua_cons (ue_name 0) (ua_cons ue_int ua_nil)) (len_cons (len_cons len_nil))) ue_int) ua_nil))))
    (us_cons (us_set (i := 13) sc_gloves.nd (ue_bin og_mul (ue_ix (ue_v (uf_lst (ua_cons ue_int (ua_cons ue_int (ua_cons ue_int (ua_cons ue_int (ua_cons ue_int (ua_cons ue_int ua_nil)))))) (few (Nat.le_of_ble_eq_true rfl)) (len_cons (len_cons (len_cons (len_cons (len_cons (len_cons len_nil)))))))) (ue_fn B (ok_draw T B.sm) (by decide) T.g_draw T.F_draw.kp (b_draw_2 T) (ua_cons (ue_name 0) (ua_cons ue_int ua_nil)) (len_cons (len_cons len_nil)))) (ue_callTy cg_int (by rfl) T.n_int PyProof.Rows.boot_int (ua_cons (ue_cmp (og_ne B.room.units) (ue_name 2) ue_int) ua_nil))))
    (us_cons (us_set (i := 14) sc_gloves.nd (ue_tup (ua_cons (ue_ix (ue_v (uf_lst (ua_cons ue_int (ua_cons ue_int (ua_cons ue_int (ua_cons ue_int (ua_cons ue_int ua_nil))))) (few (Nat.le_of_ble_eq_true rfl)) (len_cons (len_cons (len_cons (len_cons (len_cons len_nil))))))) (ue_fn B (ok_draw T B.sm) (by decide) T.g_draw T.F_draw.kp (b_draw_2 T) (ua_cons (ue_name 0) (ua_cons ue_int ua_nil)) (len_cons (len_cons len_nil)))) (ua_cons (ue_fn B (ok_draw T B.sm) (by decide) T.g_draw T.F_draw.kp (b_draw_2 T) (ua_cons (ue_name 0) (ua_cons ue_int ua_nil)) (len_cons (len_cons len_nil))) (ua_cons (ue_name 7) ua_nil))) (few (Nat.le_of_ble_eq_true rfl)) (len_cons (len_cons (len_cons len_nil)))))
    (us_one (us_sub (sg_any (u1 B.room)) (ue_bin og_add (ue_name 14) (ue_tup (ua_cons (ue_name 12) (ua_cons (ue_callB (cg_min2 B.calm) (by rfl) T.n_min boot_min (ua_cons ue_int (ua_cons (ue_name 10) ua_nil))) (ua_cons (ue_callB (cg_min2 B.calm) (by rfl) T.n_min boot_min (ua_cons ue_int (ua_cons (ue_callB (cg_max2 B.calm) (by rfl) T.n_max boot_max (ua_cons (ue_callB (cg_min2 B.calm) (by rfl) T.n_min boot_min (ua_cons ue_int (ua_cons (ue_name 10) ua_nil))) (ua_cons (ue_name 11) ua_nil))) ua_nil))) (ua_cons (ue_name 13) ua_nil)))) (few (Nat.le_of_ble_eq_true rfl)) (len_cons (len_cons (len_cons (len_cons len_nil)))))) (ue_name 5) (ue_name 14)))))))))))
    (us_one (us_ret (ue_callTy cg_tuple (by rfl) T.n_tuple PyProof.Rows.boot_tuple (ua_cons (ue_v (uf_valsT B.calm (by rfl) T.n_list (ue_name 5))) ua_nil)))))))))
theorem ok_l_do_match (T : Tx K mg) (sm : ∃ o, base.get? sysModules = some o) : FnG P w K mg base 1 T.a_l_do_match T.e_l_do_match ["_law_one", "_law_other"] (spU K mg 2 c_l_do_match) := by
  refine (fun_ok T.F_l_do_match sm sc_l_do_match f_l_do_match fun cdv A outer s H E B => ?_)
  exact (us_cons (us_if (ut_w (uw_or (ut_cmp (og_notinT (u65 B.room)) (ue_tup (ua_cons (ue_ix (ue_name 0) ue_int) (ua_cons (ue_ix (ue_name 1) ue_int) ua_nil)) (few (Nat.le_of_ble_eq_true rfl)) (len_cons (len_cons len_nil))) (ue_tup (ua_cons (ue_tup (ua_cons ue_str (ua_cons ue_str ua_nil)) (few (Nat.le_of_ble_eq_true rfl)) (len_cons (len_cons len_nil))) (ua_cons (ue_tup (ua_cons ue_str (ua_cons ue_str ua_nil)) (few (Nat.le_of_ble_eq_true rfl)) (len_cons (len_cons len_nil))) ua_nil)) (few (Nat.le_of_ble_eq_true rfl)) (len_cons (len_cons len_nil)))) (uw_or (ut_cmp (og_ne B.room.units) (ue_ix (ue_name 0) ue_int) (ue_ix (ue_name 1) ue_int)) (uw_or1 (ut_cmp (og_ne B.room.units) (ue_ix (ue_name 0) ue_int) (ue_ix (ue_name 1) ue_int)))))) (us_one (us_ret ue_bl)) us_nil)
    (us_one (us_ret (ue_and (ue_cmp og_le (ue_ix (ue_name 0) ue_int) (ue_ix (ue_name 1) ue_int)) (ue_one (ue_cmp og_le (ue_ix (ue_name 1) ue_int) (ue_ix (ue_name 0) ue_int)))))))
theorem ok_l_of_side (T : Tx K mg) (sm : ∃ o, base.get? sysModules = some o) : FnG P w K mg base 1 T.a_l_of_side T.e_l_of_side ["_law_gloves_here", "_law_side"] (spU K mg 2 c_l_of_side) := by
  refine (fun_ok T.F_l_of_side sm sc_l_of_side f_l_of_side fun cdv A outer s H E B => ?_)
  exact (us_one (us_ret (ue_v (uf_comp (own := [("_law_glove", 2)]) B.calm sc_l_of_side.nd (ui_any (ue_v (uf_sortA B.calm (by rfl) T.n_sorted (ue_name 0)))) (blkOk_by (N := N_l_of_side) (sc := defScope s_l_of_side) (by decide +kernel)) (fun _ _ _ _ _ => (ug_name (i := 2) sc_l_of_side.nd (by decide))) (fun _ _ _ _ _ => (uts_one (ut_cmp (og_eq B.blk.room.units) (ue_ix (ue_name 2) ue_int) (ue_name 1)))) (fun _ _ _ _ _ => (ue_name 2))))))
theorem ok_choices (T : Tx K mg) (sm : ∃ o, base.get? sysModules = some o) : FnG P w K mg base 1 T.a_choices T.e_choices ["_law_many"] (spU K mg 1 c_choices) := by
  refine (fun_ok T.F_choices sm sc_choices f_choices fun cdv A outer s H E B => ?_)
  exact (us_cons (us_set (i := 1) sc_choices.nd (ue_v (uf_lst (ua_cons (ue_tup ua_nil (few (Nat.le_of_ble_eq_true rfl)) len_nil) ua_nil) (few (Nat.le_of_ble_eq_true rfl)) (len_cons len_nil))))
    (us_cons (us_for (vs := [2]) B.po B.calm (ui_range1 (by rfl) T.n_range (ua_cons (ue_name 0) ua_nil)) (ug_name (i := 2) (vs := [2]) sc_choices.nd (by decide))
    (us_one (us_set (i := 1) sc_choices.nd (ue_bin og_add (ue_name 1) (ue_v (uf_comp (own := [("_law_some", 3)]) B.calm sc_choices.nd (ui_any (ue_name 1)) (blkOk_by (N := N_choices) (sc := defScope s_choices) (by decide +kernel)) (fun _ _ _ _ _ => (ug_name (i := 3) sc_choices.nd (by decide))) (fun _ _ _ _ _ => uts_nil) (fun _ _ _ _ _ => (ue_bin og_add (ue_name 3) (ue_tup (ua_cons (ue_name 2) ua_nil) (few (Nat.le_of_ble_eq_true rfl)) (len_cons len_nil))))))))))
    (us_one (us_ret (ue_name 1)))))
theorem ok_most (T : Tx K mg) (sm : ∃ o, base.get? sysModules = some o) : FnG P w K mg base 2 T.a_most T.e_most ["_law_gloves_here"] (spU K mg 1 c_most) := by
  refine FnG.gc (fun_ok T.F_most sm sc_most f_most fun cdv A outer s H E B => ?_)
  exact (us_cons (us_par (i := 1) (j := 2) B.calm sc_most.nd (by decide) (ua_cons (ue_fn B (ok_l_of_side T B.sm) (by decide) T.g_l_of_side T.F_l_of_side.kp (b_l_of_side_2 T) (ua_cons (ue_name 0) (ua_cons ue_str ua_nil)) (len_cons (len_cons len_nil))) (ua_cons (ue_fn B (ok_l_of_side T B.sm) (by decide) T.g_l_of_side T.F_l_of_side.kp (b_l_of_side_2 T) (ua_cons (ue_name 0) (ua_cons ue_str ua_nil)) (len_cons (len_cons len_nil))) ua_nil)) (by rfl))
    (us_cons (us_asg (ue_ix (ue_v (uf_lst (ua_cons (ue_tup (ua_cons (ue_name 1) (ua_cons (ue_name 2) ua_nil)) (few (Nat.le_of_ble_eq_true rfl)) (len_cons (len_cons len_nil))) (ua_cons (ue_tup (ua_cons (ue_name 2) (ua_cons (ue_name 1) ua_nil)) (few (Nat.le_of_ble_eq_true rfl)) (len_cons (len_cons len_nil))) ua_nil)) (few (Nat.le_of_ble_eq_true rfl)) (len_cons (len_cons len_nil)))) (ue_callTy cg_int (by rfl) T.n_int PyProof.Rows.boot_int (ua_cons (ue_cmp og_lt (ue_callB cg_lenA (by rfl) T.n_len PySem.boot_len (ua_cons (ue_name 2) ua_nil)) (ue_callB cg_lenA (by rfl) T.n_len PySem.boot_len (ua_cons (ue_name 1) ua_nil))) ua_nil))) (ug_tup B.calm (ugs_cons (ug_name (i := 3) (vs := [3, 4]) sc_most.nd (by decide)) (ugs_cons (ug_name (i := 4) (vs := [3, 4]) sc_most.nd (by decide)) ugs_nil))))
    (us_cons (us_setC (own := [("_law_one", 9)]) (i := 5) false B.calm sc_most.nd (ui_any (ue_name 3)) (blkOk_by (N := N_most) (sc := defScope s_most) (by decide +kernel)) (sw_true rfl rfl rfl (by decide +kernel)) (fun _ _ _ _ _ => (ug_name (i := 9) sc_most.nd (by decide))) (fun _ _ _ _ _ => uts_nil) (fun _ _ _ _ _ => (ue_v (uf_comp (own := [("_law_k", 10), ("_law_other", 11)]) B.blk.calm sc_most.nd (ui_enum (by rfl) T.n_enumerate (ua_cons (ue_name 4) ua_nil)) (blkOk_n (N := N_most) (by decide +kernel)) (fun _ _ _ _ _ => (ug_tup B.calm (ugs_cons (ug_name (i := 10) sc_most.nd (by decide)) (ugs_cons (ug_name (i := 11) sc_most.nd (by decide)) ugs_nil)))) (fun _ _ _ _ _ => (uts_one (ut_truth (ue_fn B.blk.blk (ok_l_do_match T B.sm) (by decide) T.g_l_do_match T.F_l_do_match.kp (b_l_do_match_2 T) (ua_cons (ue_name 9) (ua_cons (ue_name 11) ua_nil)) (len_cons (len_cons len_nil)))))) (fun _ _ _ _ _ => (ue_name 10))))))
    (us_cons (us_set (i := 6) sc_most.nd (ue_callB cg_lenA (by rfl) T.n_len PySem.boot_len (ua_cons (ue_name 3) ua_nil)))
    (us_cons (us_for (vs := [7]) B.po B.calm (ui_any (ue_fn B (ok_choices T B.sm) (by decide) T.g_choices T.F_choices.kp (b_choices_1 T) (ua_cons (ue_callB cg_lenA (by rfl) T.n_len PySem.boot_len (ua_cons (ue_name 3) ua_nil)) ua_nil) (len_cons len_nil))) (ug_name (i := 7) (vs := [7]) sc_most.nd (by decide))
    (us_cons (us_set (i := 8) sc_most.nd ue_d0k)
    (us_cons (us_for (vs := [9]) B.po B.calm (ui_any (ue_name 7)) (ug_name (i := 9) (vs := [9]) sc_most.nd (by decide))
    (us_one (us_expr (ue_mt isDm_ty PySem.F.plainAttrs_dict PySem.F.slot_dict_update PySem.F.type_dict_update mg_update (ue_name 8) (ua_cons (ue_dictP B.calm (by rfl) T.n_dict (uf_comp (own := [("_law_k", 10)]) B.calm sc_most.nd (ui_any (ue_ix (ue_name 5) (ue_name 9))) (blkOk_by (N := N_most) (sc := defScope s_most) (by decide +kernel)) (fun _ _ _ _ _ => (ug_name (i := 10) sc_most.nd (by decide))) (fun _ _ _ _ _ => uts_nil) (fun _ _ _ _ _ => (ue_tup (ua_cons (ue_name 10) (ua_cons ue_bl ua_nil)) (few (Nat.le_of_ble_eq_true rfl)) (len_cons (len_cons len_nil)))))) ua_nil)))))
    (us_one (us_set (i := 6) sc_most.nd (ue_callB (cg_min2 B.calm) (by rfl) T.n_min boot_min (ua_cons (ue_name 6) (ua_cons (ue_bin og_add (ue_bin og_sub (ue_callB cg_lenA (by rfl) T.n_len PySem.boot_len (ua_cons (ue_name 3) ua_nil)) (ue_callB cg_lenA (by rfl) T.n_len PySem.boot_len (ua_cons (ue_name 7) ua_nil))) (ue_callB cg_lenA (by rfl) T.n_len PySem.boot_len (ua_cons (ue_name 8) ua_nil))) ua_nil))))))))
    (us_one (us_ret (ue_name 6))))))))
theorem ok_Lot_init (T : Tx K mg) (sm : ∃ o, base.get? sysModules = some o) : FnG P w K mg base 1 T.a_Lot_init T.e_Lot_init ["self", "gloves"] (spU K mg 2 c_Lot_init) := by
  refine (funF_ok T.F_Lot_init sm sc_Lot_init f_Lot_init fun cdv A outer s H E B => ?_)
  exact (us_cons (us_fld T.fl_gloves (ue_name 0) (ue_tup ua_nil (few (Nat.le_of_ble_eq_true rfl)) len_nil))
    (us_one (us_if (ut_cmp og_isN (ue_name 1) ue_non) (us_one (us_fld T.fl_gloves (ue_name 0) (ue_callTy cg_tuple (by rfl) T.n_tuple PyProof.Rows.boot_tuple (ua_cons (ue_v (uf_sortA B.calm (by rfl) T.n_sorted (ue_name 1))) ua_nil)))) us_nil)))
theorem ok_told (T : Tx K mg) (sm : ∃ o, base.get? sysModules = some o) : FnG P w K mg base 43 T.a_told T.e_told ["_law_gloves_here"] (spU K mg 1 c_told) := by
  refine (fun_ok T.F_told sm sc_told f_told fun cdv A outer s H E B => ?_)
  exact (us_one (us_ret (ue_callB cg_len (by rfl) T.n_len PySem.boot_len (ua_cons (ue_ix (ue_fn B (ok_matched T B.sm) (by decide) T.g_matched T.F_matched.kp (b_matched_1 T) (ua_cons (ue_gc (ue_mkD B T.mk_Lot T.iC_Lot (ok_Lot_init T B.sm) (by decide) T.gC_Lot (b_Lot_init_2 T) (fun _ _ => (.cons .non .nil)) (ua_cons (ue_name 0) ua_nil) uk_nil (by exact (len_cons len_nil)) (by exact len_nil))) ua_nil) (len_cons len_nil)) ue_int) ua_nil))))
theorem ok_exchanged (T : Tx K mg) (sm : ∃ o, base.get? sysModules = some o) : FnG P w K mg base 1 T.a_exchanged T.e_exchanged ["_law_gloves_here"] (spU K mg 1 c_exchanged) := by
  refine (fun_ok T.F_exchanged sm sc_exchanged f_exchanged fun cdv A outer s H E B => ?_)
  exact (us_one (us_ret (ue_callTy cg_tuple (by rfl) T.n_tuple PyProof.Rows.boot_tuple (ua_cons (ue_v (uf_comp (own := [("_law_glove", 1)]) B.calm sc_exchanged.nd (ui_any (ue_name 0)) (blkOk_by (N := N_exchanged) (sc := defScope s_exchanged) (by decide +kernel)) (fun _ _ _ _ _ => (ug_name (i := 1) sc_exchanged.nd (by decide))) (fun _ _ _ _ _ => uts_nil) (fun _ _ _ _ _ => (ue_bin og_add (ue_bin og_add (ue_sl (ue_name 1) uo_none (uo_some ue_int)) (ue_tup (ua_cons (ue_dget (u1 B.blk.room) (ue_disp (ups_cons ue_str ue_str (ups_cons ue_str ue_str ups_nil))) (ue_ix (ue_name 1) ue_int)) ua_nil) (few (Nat.le_of_ble_eq_true rfl)) (len_cons len_nil))) (ue_sl (ue_name 1) (uo_some ue_int) uo_none))))) ua_nil))))
theorem ok_law (T : Tx K mg) (sm : ∃ o, base.get? sysModules = some o) : FnG P w K mg base 44 T.a_law T.e_law ["_law_script"] (spU K mg 1 c_law) := by
  refine (fun_ok T.F_law sm sc_law f_law fun cdv A outer s H E B => ?_)
  exact (us_cons (us_set (i := 1) sc_law.nd (ue_fn B (ok_deck T B.sm) (by decide) T.g_deck T.F_deck.kp (b_deck_1 T) (ua_cons (ue_name 0) ua_nil) (len_cons len_nil)))
    (us_cons (us_for (vs := [2]) B.po B.calm (ui_range1 (by rfl) T.n_range (ua_cons ue_int ua_nil)) (ug_name (i := 2) (vs := [2]) sc_law.nd (by decide))
    (us_cons (us_set (i := 3) sc_law.nd (ue_fn B (ok_gloves T B.sm) (by decide) T.g_gloves T.F_gloves.kp (b_gloves_2 T) (ua_cons (ue_name 1) (ua_cons (ue_fn B (ok_draw T B.sm) (by decide) T.g_draw T.F_draw.kp (b_draw_2 T) (ua_cons (ue_name 1) (ua_cons ue_int ua_nil)) (len_cons (len_cons len_nil))) ua_nil)) (len_cons (len_cons len_nil))))
    (us_cons (us_set (i := 4) sc_law.nd (ue_fn B (ok_most T B.sm) (by decide) T.g_most T.F_most.kp (b_most_1 T) (ua_cons (ue_name 3) ua_nil) (len_cons len_nil)))
    (us_cons (us_if (ut_w (uw_or (ut_cmp (og_ne B.room.units) (ue_fn B (ok_told T B.sm) (by decide) T.g_told T.F_told.kp (b_told_1 T) (ua_cons (ue_name 3) ua_nil) (len_cons len_nil)) (ue_name 4)) (uw_or1 (ut_cmp (og_ne B.room.units) (ue_fn B (ok_told T B.sm) (by decide) T.g_told T.F_told.kp (b_told_1 T) (ua_cons (ue_fn B (ok_exchanged T B.sm) (by decide) T.g_exchanged T.F_exchanged.kp (b_exchanged_1 T) (ua_cons (ue_name 3) ua_nil) (len_cons len_nil)) ua_nil) (len_cons len_nil)) (ue_name 4))))) (us_one (us_ret ue_bl)) us_nil)
    (us_one (us_if (ut_cmp (og_neT B.room.units) (ue_name 3) (ue_tup ua_nil (few (Nat.le_of_ble_eq_true rfl)) len_nil)) (us_cons (us_set (i := 5) sc_law.nd (ue_fn B (ok_draw T B.sm) (by decide) T.g_draw T.F_draw.kp (b_draw_2 T) (ua_cons (ue_name 1) (ua_cons (ue_callB cg_len (by rfl) T.n_len PySem.boot_len (ua_cons (ue_name 3) ua_nil)) ua_nil)) (len_cons (len_cons len_nil))))
    (us_cons (us_set (i := 6) sc_law.nd (ue_bin og_add (ue_sl (ue_name 3) uo_none (uo_some (ue_name 5))) (ue_sl (ue_name 3) (uo_some (ue_bin og_add (ue_name 5) ue_int)) uo_none)))
    (us_one (us_if (ut_w (uw_or (ut_cmp (og_ne B.room.units) (ue_fn B (ok_told T B.sm) (by decide) T.g_told T.F_told.kp (b_told_1 T) (ua_cons (ue_name 6) ua_nil) (len_cons len_nil)) (ue_fn B (ok_most T B.sm) (by decide) T.g_most T.F_most.kp (b_most_1 T) (ua_cons (ue_name 6) ua_nil) (len_cons len_nil))) (uw_or1 (ut_not (ut_chain og_le og_le (ue_bin og_sub (ue_name 4) ue_int) (ue_fn B (ok_told T B.sm) (by decide) T.g_told T.F_told.kp (b_told_1 T) (ua_cons (ue_name 6) ua_nil) (len_cons len_nil)) (ue_name 4)))))) (us_one (us_ret ue_bl)) us_nil)))) us_nil))))))
    (us_one (us_ret (ue_cmp (og_eq B.room.units) (ue_fn B (ok_told T B.sm) (by decide) T.g_told T.F_told.kp (b_told_1 T) (ua_cons (ue_tup ua_nil (few (Nat.le_of_ble_eq_true rfl)) len_nil) ua_nil) (len_cons len_nil)) ue_int)))))
end
theorem all_mk {P : Program} {w : World} {K : PySem.W.Frag} {h : Heap} {mg : Str → Option Value} {fa : Addr} (X : K.In h) (Gn : h.Ns mainGlobals mg) (hfa : mg "law" = some (.ref fa))
    {C_Lot : Addr}
    {p_wall : Addr} {o1_wall o2_wall : Option Addr} {o3_wall : Array (Option Value)} {w1_wall w2_wall w3_wall w4_wall w5_wall w6_wall : Value}
    {p_in_base : Addr} {o1_in_base o2_in_base : Option Addr} {o3_in_base : Array (Option Value)} {w1_in_base w2_in_base w3_in_base w4_in_base w5_in_base w6_in_base : Value}
    {p_stamp_of : Addr} {o1_stamp_of o2_stamp_of : Option Addr} {o3_stamp_of : Array (Option Value)} {w1_stamp_of w2_stamp_of w3_stamp_of w4_stamp_of w5_stamp_of w6_stamp_of : Value}
    {q_stamp_of : Addr} {r1_stamp_of : Option Addr} {r2_stamp_of : Array (Option Value)} {r3_stamp_of : Nat} {t0_stamp_of t1_stamp_of : Tok}
    {p_ident_of : Addr} {o1_ident_of o2_ident_of : Option Addr} {o3_ident_of : Array (Option Value)} {w1_ident_of w2_ident_of w3_ident_of w4_ident_of w5_ident_of w6_ident_of : Value}
    {p_can_have_one : Addr} {o1_can_have_one o2_can_have_one : Option Addr} {o3_can_have_one : Array (Option Value)} {w1_can_have_one w2_can_have_one w3_can_have_one w4_can_have_one w5_can_have_one w6_can_have_one : Value}
    {p_do_match : Addr} {o1_do_match o2_do_match : Option Addr} {o3_do_match : Array (Option Value)} {w1_do_match w2_do_match w3_do_match w4_do_match w5_do_match w6_do_match : Value}
    {p_of_side : Addr} {o1_of_side o2_of_side : Option Addr} {o3_of_side : Array (Option Value)} {w1_of_side w2_of_side w3_of_side w4_of_side w5_of_side w6_of_side : Value}
    {p_rights_near : Addr} {o1_rights_near o2_rights_near : Option Addr} {o3_rights_near : Array (Option Value)} {w1_rights_near w2_rights_near w3_rights_near w4_rights_near w5_rights_near w6_rights_near : Value}
    {p_gets_one : Addr} {o1_gets_one o2_gets_one : Option Addr} {o3_gets_one : Array (Option Value)} {w1_gets_one w2_gets_one w3_gets_one w4_gets_one w5_gets_one w6_gets_one : Value}
    {p_most_taken : Addr} {o1_most_taken o2_most_taken : Option Addr} {o3_most_taken : Array (Option Value)} {w1_most_taken w2_most_taken w3_most_taken w4_most_taken w5_most_taken w6_most_taken : Value}
    {p_lefts_come_to : Addr} {o1_lefts_come_to o2_lefts_come_to : Option Addr} {o3_lefts_come_to : Array (Option Value)} {w1_lefts_come_to w2_lefts_come_to w3_lefts_come_to w4_lefts_come_to w5_lefts_come_to w6_lefts_come_to : Value}
    {p_matched : Addr} {o1_matched o2_matched : Option Addr} {o3_matched : Array (Option Value)} {w1_matched w2_matched w3_matched w4_matched w5_matched w6_matched : Value}
    {p_deck : Addr} {o1_deck o2_deck : Option Addr} {o3_deck : Array (Option Value)} {w1_deck w2_deck w3_deck w4_deck w5_deck w6_deck : Value}
    {p_draw : Addr} {o1_draw o2_draw : Option Addr} {o3_draw : Array (Option Value)} {w1_draw w2_draw w3_draw w4_draw w5_draw w6_draw : Value}
    {p_styles : Addr} {o1_styles o2_styles : Option Addr} {o3_styles : Array (Option Value)} {w1_styles w2_styles w3_styles w4_styles w5_styles w6_styles : Value}
    {p_gloves : Addr} {o1_gloves o2_gloves : Option Addr} {o3_gloves : Array (Option Value)} {w1_gloves w2_gloves w3_gloves w4_gloves w5_gloves w6_gloves : Value}
    {p_l_do_match : Addr} {o1_l_do_match o2_l_do_match : Option Addr} {o3_l_do_match : Array (Option Value)} {w1_l_do_match w2_l_do_match w3_l_do_match w4_l_do_match w5_l_do_match w6_l_do_match : Value}
    {p_l_of_side : Addr} {o1_l_of_side o2_l_of_side : Option Addr} {o3_l_of_side : Array (Option Value)} {w1_l_of_side w2_l_of_side w3_l_of_side w4_l_of_side w5_l_of_side w6_l_of_side : Value}
    {p_choices : Addr} {o1_choices o2_choices : Option Addr} {o3_choices : Array (Option Value)} {w1_choices w2_choices w3_choices w4_choices w5_choices w6_choices : Value}
    {p_most : Addr} {o1_most o2_most : Option Addr} {o3_most : Array (Option Value)} {w1_most w2_most w3_most w4_most w5_most w6_most : Value}
    {p_Lot_init : Addr} {o1_Lot_init o2_Lot_init : Option Addr} {o3_Lot_init : Array (Option Value)} {w1_Lot_init w2_Lot_init w3_Lot_init w4_Lot_init w5_Lot_init w6_Lot_init : Value}
    {q_Lot_init : Addr} {r1_Lot_init : Option Addr} {r2_Lot_init : Array (Option Value)} {r3_Lot_init : Nat}
    {p_told : Addr} {o1_told o2_told : Option Addr} {o3_told : Array (Option Value)} {w1_told w2_told w3_told w4_told w5_told w6_told : Value}
    {p_exchanged : Addr} {o1_exchanged o2_exchanged : Option Addr} {o3_exchanged : Array (Option Value)} {w1_exchanged w2_exchanged w3_exchanged w4_exchanged w5_exchanged w6_exchanged : Value}
    {p_law : Addr} {o1_law o2_law : Option Addr} {o3_law : Array (Option Value)} {w1_law w2_law w3_law w4_law w5_law w6_law : Value}
    {t_BASE : Tok}
    {t_FIGURES : Tok}
    (haC_Lot : PySem.W.nsIn K mainGlobals "Lot" = some (some (.ref C_Lot)))
    (hpg_Lot : PySem.W.plainGet K C_Lot Str.empty = true)
    (hhd_Lot : PySem.W.hasDictIn K C_Lot = true)
    (hpo_Lot : PySem.W.plainOver K C_Lot = true)
    (hsa_Lot : PySem.W.findIn K (.ref C_Lot) "__setattr__" = some (some (.builtin "object.__setattr__")))
    (hmk_Lot : PySem.W.makesIn K C_Lot = true)
    (hkC_Lot : PySem.W.keepIn K (.ref C_Lot) = true)
    (hnf_Lot_gloves : PySem.W.findIn K (.ref C_Lot) "gloves" = some none)
    (ha_wall : PySem.W.nsIn K mainGlobals "_wall" = some (some (.ref p_wall)))
    (hl_wall : K.lookup p_wall = some ⟨w1_wall, o1_wall, .func (PySem.W.fnOf "_wall" "_wall" (defArgs s_wall) (defBody s_wall) (defScope s_wall) .none w2_wall w3_wall w4_wall o2_wall w5_wall w6_wall), o3_wall⟩)
    (hc_wall : PySem.W.codeIn K w5_wall "_wall" = true)
    (hk_wall : PySem.W.keepIn K (.ref p_wall) = true)
    (ha_in_base : PySem.W.nsIn K mainGlobals "in_base" = some (some (.ref p_in_base)))
    (hl_in_base : K.lookup p_in_base = some ⟨w1_in_base, o1_in_base, .func (PySem.W.fnOf "in_base" "in_base" (defArgs s_in_base) (defBody s_in_base) (defScope s_in_base) .none w2_in_base w3_in_base w4_in_base o2_in_base w5_in_base w6_in_base), o3_in_base⟩)
    (hc_in_base : PySem.W.codeIn K w5_in_base "in_base" = true)
    (hk_in_base : PySem.W.keepIn K (.ref p_in_base) = true)
    (ha_stamp_of : PySem.W.nsIn K mainGlobals "stamp_of" = some (some (.ref p_stamp_of)))
    (hl_stamp_of : K.lookup p_stamp_of = some ⟨w1_stamp_of, o1_stamp_of, .func (PySem.W.fnOf "stamp_of" "stamp_of" (defArgs s_stamp_of) (defBody s_stamp_of) (defScope s_stamp_of) (.ref q_stamp_of) w2_stamp_of w3_stamp_of w4_stamp_of o2_stamp_of w5_stamp_of w6_stamp_of), o3_stamp_of⟩)
    (hd_stamp_of : K.lookup q_stamp_of = some ⟨.type "tuple", r1_stamp_of, .seq #[(.int 0 t0_stamp_of), (.str "l" t1_stamp_of)] r3_stamp_of, r2_stamp_of⟩)
    (hc_stamp_of : PySem.W.codeIn K w5_stamp_of "stamp_of" = true)
    (hk_stamp_of : PySem.W.keepIn K (.ref p_stamp_of) = true)
    (ha_ident_of : PySem.W.nsIn K mainGlobals "ident_of" = some (some (.ref p_ident_of)))
    (hl_ident_of : K.lookup p_ident_of = some ⟨w1_ident_of, o1_ident_of, .func (PySem.W.fnOf "ident_of" "ident_of" (defArgs s_ident_of) (defBody s_ident_of) (defScope s_ident_of) .none w2_ident_of w3_ident_of w4_ident_of o2_ident_of w5_ident_of w6_ident_of), o3_ident_of⟩)
    (hc_ident_of : PySem.W.codeIn K w5_ident_of "ident_of" = true)
    (hk_ident_of : PySem.W.keepIn K (.ref p_ident_of) = true)
    (ha_can_have_one : PySem.W.nsIn K mainGlobals "can_have_one" = some (some (.ref p_can_have_one)))
    (hl_can_have_one : K.lookup p_can_have_one = some ⟨w1_can_have_one, o1_can_have_one, .func (PySem.W.fnOf "can_have_one" "can_have_one" (defArgs s_can_have_one) (defBody s_can_have_one) (defScope s_can_have_one) .none w2_can_have_one w3_can_have_one w4_can_have_one o2_can_have_one w5_can_have_one w6_can_have_one), o3_can_have_one⟩)
    (hc_can_have_one : PySem.W.codeIn K w5_can_have_one "can_have_one" = true)
    (hk_can_have_one : PySem.W.keepIn K (.ref p_can_have_one) = true)
    (ha_do_match : PySem.W.nsIn K mainGlobals "do_match" = some (some (.ref p_do_match)))
    (hl_do_match : K.lookup p_do_match = some ⟨w1_do_match, o1_do_match, .func (PySem.W.fnOf "do_match" "do_match" (defArgs s_do_match) (defBody s_do_match) (defScope s_do_match) .none w2_do_match w3_do_match w4_do_match o2_do_match w5_do_match w6_do_match), o3_do_match⟩)
    (hc_do_match : PySem.W.codeIn K w5_do_match "do_match" = true)
    (hk_do_match : PySem.W.keepIn K (.ref p_do_match) = true)
    (ha_of_side : PySem.W.nsIn K mainGlobals "of_side" = some (some (.ref p_of_side)))
    (hl_of_side : K.lookup p_of_side = some ⟨w1_of_side, o1_of_side, .func (PySem.W.fnOf "of_side" "of_side" (defArgs s_of_side) (defBody s_of_side) (defScope s_of_side) .none w2_of_side w3_of_side w4_of_side o2_of_side w5_of_side w6_of_side), o3_of_side⟩)
    (hc_of_side : PySem.W.codeIn K w5_of_side "of_side" = true)
    (hk_of_side : PySem.W.keepIn K (.ref p_of_side) = true)
    (ha_rights_near : PySem.W.nsIn K mainGlobals "rights_near" = some (some (.ref p_rights_near)))
    (hl_rights_near : K.lookup p_rights_near = some ⟨w1_rights_near, o1_rights_near, .func (PySem.W.fnOf "rights_near" "rights_near" (defArgs s_rights_near) (defBody s_rights_near) (defScope s_rights_near) .none w2_rights_near w3_rights_near w4_rights_near o2_rights_near w5_rights_near w6_rights_near), o3_rights_near⟩)
    (hc_rights_near : PySem.W.codeIn K w5_rights_near "rights_near" = true)
    (hk_rights_near : PySem.W.keepIn K (.ref p_rights_near) = true)
    (ha_gets_one : PySem.W.nsIn K mainGlobals "gets_one" = some (some (.ref p_gets_one)))
    (hl_gets_one : K.lookup p_gets_one = some ⟨w1_gets_one, o1_gets_one, .func (PySem.W.fnOf "gets_one" "gets_one" (defArgs s_gets_one) (defBody s_gets_one) (defScope s_gets_one) .none w2_gets_one w3_gets_one w4_gets_one o2_gets_one w5_gets_one w6_gets_one), o3_gets_one⟩)
    (hc_gets_one : PySem.W.codeIn K w5_gets_one "gets_one" = true)
    (hk_gets_one : PySem.W.keepIn K (.ref p_gets_one) = true)
    (ha_most_taken : PySem.W.nsIn K mainGlobals "most_taken" = some (some (.ref p_most_taken)))
    (hl_most_taken : K.lookup p_most_taken = some ⟨w1_most_taken, o1_most_taken, .func (PySem.W.fnOf "most_taken" "most_taken" (defArgs s_most_taken) (defBody s_most_taken) (defScope s_most_taken) .none w2_most_taken w3_most_taken w4_most_taken o2_most_taken w5_most_taken w6_most_taken), o3_most_taken⟩)
    (hc_most_taken : PySem.W.codeIn K w5_most_taken "most_taken" = true)
    (hk_most_taken : PySem.W.keepIn K (.ref p_most_taken) = true)
    (ha_lefts_come_to : PySem.W.nsIn K mainGlobals "lefts_come_to" = some (some (.ref p_lefts_come_to)))
    (hl_lefts_come_to : K.lookup p_lefts_come_to = some ⟨w1_lefts_come_to, o1_lefts_come_to, .func (PySem.W.fnOf "lefts_come_to" "lefts_come_to" (defArgs s_lefts_come_to) (defBody s_lefts_come_to) (defScope s_lefts_come_to) .none w2_lefts_come_to w3_lefts_come_to w4_lefts_come_to o2_lefts_come_to w5_lefts_come_to w6_lefts_come_to), o3_lefts_come_to⟩)
    (hc_lefts_come_to : PySem.W.codeIn K w5_lefts_come_to "lefts_come_to" = true)
    (hk_lefts_come_to : PySem.W.keepIn K (.ref p_lefts_come_to) = true)
    (ha_matched : PySem.W.nsIn K mainGlobals "matched" = some (some (.ref p_matched)))
    (hl_matched : K.lookup p_matched = some ⟨w1_matched, o1_matched, .func (PySem.W.fnOf "matched" "matched" (defArgs s_matched) (defBody s_matched) (defScope s_matched) .none w2_matched w3_matched w4_matched o2_matched w5_matched w6_matched), o3_matched⟩)
    (hc_matched : PySem.W.codeIn K w5_matched "matched" = true)
    (hk_matched : PySem.W.keepIn K (.ref p_matched) = true)
    (ha_deck : PySem.W.nsIn K mainGlobals "_law_deck" = some (some (.ref p_deck)))
    (hl_deck : K.lookup p_deck = some ⟨w1_deck, o1_deck, .func (PySem.W.fnOf "_law_deck" "_law_deck" (defArgs s_deck) (defBody s_deck) (defScope s_deck) .none w2_deck w3_deck w4_deck o2_deck w5_deck w6_deck), o3_deck⟩)
    (hc_deck : PySem.W.codeIn K w5_deck "_law_deck" = true)
    (hk_deck : PySem.W.keepIn K (.ref p_deck) = true)
    (ha_draw : PySem.W.nsIn K mainGlobals "_law_draw" = some (some (.ref p_draw)))
    (hl_draw : K.lookup p_draw = some ⟨w1_draw, o1_draw, .func (PySem.W.fnOf "_law_draw" "_law_draw" (defArgs s_draw) (defBody s_draw) (defScope s_draw) .none w2_draw w3_draw w4_draw o2_draw w5_draw w6_draw), o3_draw⟩)
    (hc_draw : PySem.W.codeIn K w5_draw "_law_draw" = true)
    (hk_draw : PySem.W.keepIn K (.ref p_draw) = true)
    (ha_styles : PySem.W.nsIn K mainGlobals "_law_styles" = some (some (.ref p_styles)))
    (hl_styles : K.lookup p_styles = some ⟨w1_styles, o1_styles, .func (PySem.W.fnOf "_law_styles" "_law_styles" (defArgs s_styles) (defBody s_styles) (defScope s_styles) .none w2_styles w3_styles w4_styles o2_styles w5_styles w6_styles), o3_styles⟩)
    (hc_styles : PySem.W.codeIn K w5_styles "_law_styles" = true)
    (hk_styles : PySem.W.keepIn K (.ref p_styles) = true)
    (ha_gloves : PySem.W.nsIn K mainGlobals "_law_gloves" = some (some (.ref p_gloves)))
    (hl_gloves : K.lookup p_gloves = some ⟨w1_gloves, o1_gloves, .func (PySem.W.fnOf "_law_gloves" "_law_gloves" (defArgs s_gloves) (defBody s_gloves) (defScope s_gloves) .none w2_gloves w3_gloves w4_gloves o2_gloves w5_gloves w6_gloves), o3_gloves⟩)
    (hc_gloves : PySem.W.codeIn K w5_gloves "_law_gloves" = true)
    (hk_gloves : PySem.W.keepIn K (.ref p_gloves) = true)
    (ha_l_do_match : PySem.W.nsIn K mainGlobals "_law_do_match" = some (some (.ref p_l_do_match)))
    (hl_l_do_match : K.lookup p_l_do_match = some ⟨w1_l_do_match, o1_l_do_match, .func (PySem.W.fnOf "_law_do_match" "_law_do_match" (defArgs s_l_do_match) (defBody s_l_do_match) (defScope s_l_do_match) .none w2_l_do_match w3_l_do_match w4_l_do_match o2_l_do_match w5_l_do_match w6_l_do_match), o3_l_do_match⟩)
    (hc_l_do_match : PySem.W.codeIn K w5_l_do_match "_law_do_match" = true)
    (hk_l_do_match : PySem.W.keepIn K (.ref p_l_do_match) = true)
    (ha_l_of_side : PySem.W.nsIn K mainGlobals "_law_of_side" = some (some (.ref p_l_of_side)))
    (hl_l_of_side : K.lookup p_l_of_side = some ⟨w1_l_of_side, o1_l_of_side, .func (PySem.W.fnOf "_law_of_side" "_law_of_side" (defArgs s_l_of_side) (defBody s_l_of_side) (defScope s_l_of_side) .none w2_l_of_side w3_l_of_side w4_l_of_side o2_l_of_side w5_l_of_side w6_l_of_side), o3_l_of_side⟩)
    (hc_l_of_side : PySem.W.codeIn K w5_l_of_side "_law_of_side" = true)
    (hk_l_of_side : PySem.W.keepIn K (.ref p_l_of_side) = true)
    (ha_choices : PySem.W.nsIn K mainGlobals "_law_choices" = some (some (.ref p_choices)))
    (hl_choices : K.lookup p_choices = some ⟨w1_choices, o1_choices, .func (PySem.W.fnOf "_law_choices" "_law_choices" (defArgs s_choices) (defBody s_choices) (defScope s_choices) .none w2_choices w3_choices w4_choices o2_choices w5_choices w6_choices), o3_choices⟩)
    (hc_choices : PySem.W.codeIn K w5_choices "_law_choices" = true)
    (hk_choices : PySem.W.keepIn K (.ref p_choices) = true)
    (ha_most : PySem.W.nsIn K mainGlobals "_law_most" = some (some (.ref p_most)))
    (hl_most : K.lookup p_most = some ⟨w1_most, o1_most, .func (PySem.W.fnOf "_law_most" "_law_most" (defArgs s_most) (defBody s_most) (defScope s_most) .none w2_most w3_most w4_most o2_most w5_most w6_most), o3_most⟩)
    (hc_most : PySem.W.codeIn K w5_most "_law_most" = true)
    (hk_most : PySem.W.keepIn K (.ref p_most) = true)
    (ha_Lot_init : PySem.W.findIn K (.ref C_Lot) "__init__" = some (some (.ref p_Lot_init)))
    (hi_Lot_init : PySem.W.isFn K (.ref p_Lot_init) = true)
    (hl_Lot_init : K.lookup p_Lot_init = some ⟨w1_Lot_init, o1_Lot_init, .func (PySem.W.fnOf "__init__" "Lot.__init__" (defArgs s_Lot_init) (defBody s_Lot_init) (defScope s_Lot_init) (.ref q_Lot_init) w2_Lot_init w3_Lot_init w4_Lot_init o2_Lot_init w5_Lot_init w6_Lot_init), o3_Lot_init⟩)
    (hd_Lot_init : K.lookup q_Lot_init = some ⟨.type "tuple", r1_Lot_init, .seq #[.none] r3_Lot_init, r2_Lot_init⟩)
    (hc_Lot_init : PySem.W.codeIn K w5_Lot_init "Lot.__init__" = true)
    (hk_Lot_init : PySem.W.keepIn K (.ref p_Lot_init) = true)
    (ha_told : PySem.W.nsIn K mainGlobals "_law_told" = some (some (.ref p_told)))
    (hl_told : K.lookup p_told = some ⟨w1_told, o1_told, .func (PySem.W.fnOf "_law_told" "_law_told" (defArgs s_told) (defBody s_told) (defScope s_told) .none w2_told w3_told w4_told o2_told w5_told w6_told), o3_told⟩)
    (hc_told : PySem.W.codeIn K w5_told "_law_told" = true)
    (hk_told : PySem.W.keepIn K (.ref p_told) = true)
    (ha_exchanged : PySem.W.nsIn K mainGlobals "_law_exchanged" = some (some (.ref p_exchanged)))
    (hl_exchanged : K.lookup p_exchanged = some ⟨w1_exchanged, o1_exchanged, .func (PySem.W.fnOf "_law_exchanged" "_law_exchanged" (defArgs s_exchanged) (defBody s_exchanged) (defScope s_exchanged) .none w2_exchanged w3_exchanged w4_exchanged o2_exchanged w5_exchanged w6_exchanged), o3_exchanged⟩)
    (hc_exchanged : PySem.W.codeIn K w5_exchanged "_law_exchanged" = true)
    (hk_exchanged : PySem.W.keepIn K (.ref p_exchanged) = true)
    (ha_law : PySem.W.nsIn K mainGlobals "law" = some (some (.ref p_law)))
    (hl_law : K.lookup p_law = some ⟨w1_law, o1_law, .func (PySem.W.fnOf "law" "law" (defArgs s_law) (defBody s_law) (defScope s_law) .none w2_law w3_law w4_law o2_law w5_law w6_law), o3_law⟩)
    (hc_law : PySem.W.codeIn K w5_law "law" = true)
    (hk_law : PySem.W.keepIn K (.ref p_law) = true)
    (hz_dict : PySem.W.nsIn K mainGlobals "dict" = some none)
    (hz_enumerate : PySem.W.nsIn K mainGlobals "enumerate" = some none)
    (hz_int : PySem.W.nsIn K mainGlobals "int" = some none)
    (hz_len : PySem.W.nsIn K mainGlobals "len" = some none)
    (hz_list : PySem.W.nsIn K mainGlobals "list" = some none)
    (hz_max : PySem.W.nsIn K mainGlobals "max" = some none)
    (hz_min : PySem.W.nsIn K mainGlobals "min" = some none)
    (hz_range : PySem.W.nsIn K mainGlobals "range" = some none)
    (hz_sorted : PySem.W.nsIn K mainGlobals "sorted" = some none)
    (hz_sum : PySem.W.nsIn K mainGlobals "sum" = some none)
    (hz_tuple : PySem.W.nsIn K mainGlobals "tuple" = some none)
    (hm_BASE : PySem.W.nsIn K mainGlobals "BASE" = some (some (.int 36 t_BASE)))
    (hm_FIGURES : PySem.W.nsIn K mainGlobals "FIGURES" = some (some (.str "0123456789abcdefghijklmnopqrstuvwxyz" t_FIGURES)))
    : ∃ fd : FuncData, (∀ (s : Shared) (v : Value), BindsTo s fd ⟨[v], []⟩ [("_law_script", v)]) ∧ ∀ base : Heap, K.In base → base.Ns mainGlobals mg → (∃ o, base.get? sysModules = some o) → FnG P w K mg base 44 fa fd ["_law_script"] (spU K mg 1 c_law) := by
  have e := hfa.symm.trans (PySem.W.mg_of X Gn ha_law)
  cases e
  let T : Tx K mg := {
    a_wall := p_wall
    e_wall := _
    F_wall := fun_mk (st := s_wall) hl_wall hc_wall hk_wall
    g_wall := PySem.W.mg_of X Gn ha_wall
    a_in_base := p_in_base
    e_in_base := _
    F_in_base := fun_mk (st := s_in_base) hl_in_base hc_in_base hk_in_base
    g_in_base := PySem.W.mg_of X Gn ha_in_base
    a_stamp_of := p_stamp_of
    e_stamp_of := _
    F_stamp_of := funF_mk (st := s_stamp_of) hl_stamp_of hc_stamp_of hk_stamp_of (.inr ⟨List.cons_ne_nil _ _, _, _, _, _, rfl, hd_stamp_of, rfl, (.cons ⟨_, rfl⟩ (.cons ⟨_, rfl⟩ .nil))⟩)
    g_stamp_of := PySem.W.mg_of X Gn ha_stamp_of
    a_ident_of := p_ident_of
    e_ident_of := _
    F_ident_of := fun_mk (st := s_ident_of) hl_ident_of hc_ident_of hk_ident_of
    g_ident_of := PySem.W.mg_of X Gn ha_ident_of
    a_can_have_one := p_can_have_one
    e_can_have_one := _
    F_can_have_one := fun_mk (st := s_can_have_one) hl_can_have_one hc_can_have_one hk_can_have_one
    g_can_have_one := PySem.W.mg_of X Gn ha_can_have_one
    a_do_match := p_do_match
    e_do_match := _
    F_do_match := fun_mk (st := s_do_match) hl_do_match hc_do_match hk_do_match
    g_do_match := PySem.W.mg_of X Gn ha_do_match
    a_of_side := p_of_side
    e_of_side := _
    F_of_side := fun_mk (st := s_of_side) hl_of_side hc_of_side hk_of_side
    g_of_side := PySem.W.mg_of X Gn ha_of_side
    a_rights_near := p_rights_near
    e_rights_near := _
    F_rights_near := fun_mk (st := s_rights_near) hl_rights_near hc_rights_near hk_rights_near
    g_rights_near := PySem.W.mg_of X Gn ha_rights_near
    a_gets_one := p_gets_one
    e_gets_one := _
    F_gets_one := fun_mk (st := s_gets_one) hl_gets_one hc_gets_one hk_gets_one
    g_gets_one := PySem.W.mg_of X Gn ha_gets_one
    a_most_taken := p_most_taken
    e_most_taken := _
    F_most_taken := fun_mk (st := s_most_taken) hl_most_taken hc_most_taken hk_most_taken
    g_most_taken := PySem.W.mg_of X Gn ha_most_taken
    a_lefts_come_to := p_lefts_come_to
    e_lefts_come_to := _
    F_lefts_come_to := fun_mk (st := s_lefts_come_to) hl_lefts_come_to hc_lefts_come_to hk_lefts_come_to
    g_lefts_come_to := PySem.W.mg_of X Gn ha_lefts_come_to
    a_matched := p_matched
    e_matched := _
    F_matched := fun_mk (st := s_matched) hl_matched hc_matched hk_matched
    g_matched := PySem.W.mg_of X Gn ha_matched
    a_deck := p_deck
    e_deck := _
    F_deck := fun_mk (st := s_deck) hl_deck hc_deck hk_deck
    g_deck := PySem.W.mg_of X Gn ha_deck
    a_draw := p_draw
    e_draw := _
    F_draw := fun_mk (st := s_draw) hl_draw hc_draw hk_draw
    g_draw := PySem.W.mg_of X Gn ha_draw
    a_styles := p_styles
    e_styles := _
    F_styles := fun_mk (st := s_styles) hl_styles hc_styles hk_styles
    g_styles := PySem.W.mg_of X Gn ha_styles
    a_gloves := p_gloves
    e_gloves := _
    F_gloves := fun_mk (st := s_gloves) hl_gloves hc_gloves hk_gloves
    g_gloves := PySem.W.mg_of X Gn ha_gloves
    a_l_do_match := p_l_do_match
    e_l_do_match := _
    F_l_do_match := fun_mk (st := s_l_do_match) hl_l_do_match hc_l_do_match hk_l_do_match
    g_l_do_match := PySem.W.mg_of X Gn ha_l_do_match
    a_l_of_side := p_l_of_side
    e_l_of_side := _
    F_l_of_side := fun_mk (st := s_l_of_side) hl_l_of_side hc_l_of_side hk_l_of_side
    g_l_of_side := PySem.W.mg_of X Gn ha_l_of_side
    a_choices := p_choices
    e_choices := _
    F_choices := fun_mk (st := s_choices) hl_choices hc_choices hk_choices
    g_choices := PySem.W.mg_of X Gn ha_choices
    a_most := p_most
    e_most := _
    F_most := fun_mk (st := s_most) hl_most hc_most hk_most
    g_most := PySem.W.mg_of X Gn ha_most
    a_Lot_init := p_Lot_init
    e_Lot_init := _
    F_Lot_init := funF_mk (st := s_Lot_init) hl_Lot_init hc_Lot_init hk_Lot_init (.inr ⟨List.cons_ne_nil _ _, _, _, _, _, rfl, hd_Lot_init, rfl, (.cons rfl .nil)⟩)
    a_told := p_told
    e_told := _
    F_told := fun_mk (st := s_told) hl_told hc_told hk_told
    g_told := PySem.W.mg_of X Gn ha_told
    a_exchanged := p_exchanged
    e_exchanged := _
    F_exchanged := fun_mk (st := s_exchanged) hl_exchanged hc_exchanged hk_exchanged
    g_exchanged := PySem.W.mg_of X Gn ha_exchanged
    a_law := fa
    e_law := _
    F_law := fun_mk (st := s_law) hl_law hc_law hk_law
    g_law := PySem.W.mg_of X Gn ha_law
    C_Lot := C_Lot
    iC_Lot := haC_Lot
    gC_Lot := PySem.W.mg_of X Gn haC_Lot
    cl_Lot := ⟨hpg_Lot, hhd_Lot, hpo_Lot, hsa_Lot⟩
    mk_Lot := ⟨hmk_Lot, ha_Lot_init, hi_Lot_init, hkC_Lot⟩
    fl_gloves := (.cons haC_Lot ⟨hpg_Lot, hhd_Lot, hpo_Lot, hsa_Lot⟩ hnf_Lot_gloves .nil)
    n_dict := PySem.W.mg_none_of X Gn hz_dict
    n_enumerate := PySem.W.mg_none_of X Gn hz_enumerate
    n_int := PySem.W.mg_none_of X Gn hz_int
    n_len := PySem.W.mg_none_of X Gn hz_len
    n_list := PySem.W.mg_none_of X Gn hz_list
    n_max := PySem.W.mg_none_of X Gn hz_max
    n_min := PySem.W.mg_none_of X Gn hz_min
    n_range := PySem.W.mg_none_of X Gn hz_range
    n_sorted := PySem.W.mg_none_of X Gn hz_sorted
    n_sum := PySem.W.mg_none_of X Gn hz_sum
    n_tuple := PySem.W.mg_none_of X Gn hz_tuple
    v_BASE := (.int 36)
    u_BASE := _
    m_BASE := PySem.W.mg_of X Gn hm_BASE
    r_BASE := ⟨_, rfl⟩
    d_BASE := fun _ _ => .int _
    v_FIGURES := (.str "0123456789abcdefghijklmnopqrstuvwxyz")
    u_FIGURES := _
    m_FIGURES := PySem.W.mg_of X Gn hm_FIGURES
    r_FIGURES := ⟨_, rfl⟩
    d_FIGURES := fun _ _ => .str _
  }
  exact ⟨_, fun s v => .of_eq rfl, fun base _ _ sm => ok_law T sm⟩
end K28

open PySem PySem.W PyProof.Rows
set_option maxHeartbeats 0 in
theorem PySem.Challenge.cw_glovepairs_k28_as_many_as_can_be_holds : PySem.Challenge.rw_glovepairs_k28_as_many_as_can_be.Holds := by
  w_on; o_law; k_head; (case hw => w_witness2)
  k_fill
  refine G.walk_G (l := PySem.Challenge.rw_glovepairs_k28_as_many_as_can_be) (n := 63) (k := 44) (x := "_law_script") (fn := K28.c_law) (by decide +kernel) rfl (by decide) rfl ⟨rfl, by decide, by decide⟩ (fun w h Y => PySem.W.kIn_of Y) ?F K28.law_true
  case F =>
    intro w mg fa h KX Gn hmg
    refine' K28.all_mk KX Gn hmg ?haC_Lot ?hpg_Lot ?hhd_Lot ?hpo_Lot ?hsa_Lot ?hmk_Lot ?hkC_Lot ?hnf_Lot_gloves ?ha_wall ?hl_wall ?hc_wall ?hk_wall ?ha_in_base ?hl_in_base ?hc_in_base ?hk_in_base ?ha_stamp_of ?hl_stamp_of ?hd_stamp_of ?hc_stamp_of ?hk_stamp_of ?ha_ident_of ?hl_ident_of ?hc_ident_of ?hk_ident_of ?ha_can_have_one ?hl_can_have_one ?hc_can_have_one ?hk_can_have_one ?ha_do_match ?hl_do_match ?hc_do_match ?hk_do_match ?ha_of_side ?hl_of_side ?hc_of_side ?hk_of_side ?ha_rights_near ?hl_rights_near ?hc_rights_near ?hk_rights_near ?ha_gets_one ?hl_gets_one ?hc_gets_one ?hk_gets_one ?ha_most_taken ?hl_most_taken ?hc_most_taken ?hk_most_taken ?ha_lefts_come_to ?hl_lefts_come_to ?hc_lefts_come_to ?hk_lefts_come_to ?ha_matched ?hl_matched ?hc_matched ?hk_matched ?ha_deck ?hl_deck ?hc_deck ?hk_deck ?ha_draw ?hl_draw ?hc_draw ?hk_draw ?ha_styles ?hl_styles ?hc_styles ?hk_styles ?ha_gloves ?hl_gloves ?hc_gloves ?hk_gloves ?ha_l_do_match ?hl_l_do_match ?hc_l_do_match ?hk_l_do_match ?ha_l_of_side ?hl_l_of_side ?hc_l_of_side ?hk_l_of_side ?ha_choices ?hl_choices ?hc_choices ?hk_choices ?ha_most ?hl_most ?hc_most ?hk_most ?ha_Lot_init ?hi_Lot_init ?hl_Lot_init ?hd_Lot_init ?hc_Lot_init ?hk_Lot_init ?ha_told ?hl_told ?hc_told ?hk_told ?ha_exchanged ?hl_exchanged ?hc_exchanged ?hk_exchanged ?ha_law ?hl_law ?hc_law ?hk_law ?hz_dict ?hz_enumerate ?hz_int ?hz_len ?hz_list ?hz_max ?hz_min ?hz_range ?hz_sorted ?hz_sum ?hz_tuple ?hm_BASE ?hm_FIGURES
    (case haC_Lot => k_is); (case hpg_Lot => k_is); (case hhd_Lot => k_is); (case hpo_Lot => k_is); (case hsa_Lot => k_is); (case hmk_Lot => k_is); (case hkC_Lot => k_is); (case hnf_Lot_gloves => k_is); (case ha_wall => k_is); (case hl_wall => k_is); (case hc_wall => k_is); (case hk_wall => k_is); (case ha_in_base => k_is); (case hl_in_base => k_is); (case hc_in_base => k_is); (case hk_in_base => k_is); (case ha_stamp_of => k_is); (case hl_stamp_of => k_is); (case hd_stamp_of => k_is); (case hc_stamp_of => k_is); (case hk_stamp_of => k_is); (case ha_ident_of => k_is); (case hl_ident_of => k_is); (case hc_ident_of => k_is); (case hk_ident_of => k_is); (case ha_can_have_one => k_is); (case hl_can_have_one => k_is); (case hc_can_have_one => k_is); (case hk_can_have_one => k_is); (case ha_do_match => k_is); (case hl_do_match => k_is); (case hc_do_match => k_is); (case hk_do_match => k_is); (case ha_of_side => k_is); (case hl_of_side => k_is); (case hc_of_side => k_is); (case hk_of_side => k_is); (case ha_rights_near => k_is); (case hl_rights_near => k_is); (case hc_rights_near => k_is); (case hk_rights_near => k_is); (case ha_gets_one => k_is); (case hl_gets_one => k_is); (case hc_gets_one => k_is); (case hk_gets_one => k_is); (case ha_most_taken => k_is); (case hl_most_taken => k_is); (case hc_most_taken => k_is); (case hk_most_taken => k_is); (case ha_lefts_come_to => k_is); (case hl_lefts_come_to => k_is); (case hc_lefts_come_to => k_is); (case hk_lefts_come_to => k_is); (case ha_matched => k_is); (case hl_matched => k_is); (case hc_matched => k_is); (case hk_matched => k_is); (case ha_deck => k_is); (case hl_deck => k_is); (case hc_deck => k_is); (case hk_deck => k_is); (case ha_draw => k_is); (case hl_draw => k_is); (case hc_draw => k_is); (case hk_draw => k_is); (case ha_styles => k_is); (case hl_styles => k_is); (case hc_styles => k_is); (case hk_styles => k_is); (case ha_gloves => k_is); (case hl_gloves => k_is); (case hc_gloves => k_is); (case hk_gloves => k_is); (case ha_l_do_match => k_is); (case hl_l_do_match => k_is); (case hc_l_do_match => k_is); (case hk_l_do_match => k_is); (case ha_l_of_side => k_is); (case hl_l_of_side => k_is); (case hc_l_of_side => k_is); (case hk_l_of_side => k_is); (case ha_choices => k_is); (case hl_choices => k_is); (case hc_choices => k_is); (case hk_choices => k_is); (case ha_most => k_is); (case hl_most => k_is); (case hc_most => k_is); (case hk_most => k_is); (case ha_Lot_init => k_is); (case hi_Lot_init => k_is); (case hl_Lot_init => k_is); (case hd_Lot_init => k_is); (case hc_Lot_init => k_is); (case hk_Lot_init => k_is); (case ha_told => k_is); (case hl_told => k_is); (case hc_told => k_is); (case hk_told => k_is); (case ha_exchanged => k_is); (case hl_exchanged => k_is); (case hc_exchanged => k_is); (case hk_exchanged => k_is); (case ha_law => k_is); (case hl_law => k_is); (case hc_law => k_is); (case hk_law => k_is); (case hz_dict => k_is); (case hz_enumerate => k_is); (case hz_int => k_is); (case hz_len => k_is); (case hz_list => k_is); (case hz_max => k_is); (case hz_min => k_is); (case hz_range => k_is); (case hz_sorted => k_is); (case hz_sum => k_is); (case hz_tuple => k_is); (case hm_BASE => k_is); (case hm_FIGURES => k_is)

