import PyProof.Rows.All
import Wide.All
import OpenK.AllK
import Wide.FinOn
import HandS.ForMost
import HandS.Exc
import HandS.TryOnly
import HandS.ExcOwn
import HandS.WordsExc
import HandS.TupAny
import HandS.Style
import HandS.TupMul
import PyProof.Rows.IntBool
import HandS.Replace
import HandS.Walk
import HandS.CallSlots
import HandS.IsInst
import HandS.Conv
import HandS.DictTup
import KE.KDictCopyH
import HandS.Deep
import HandS.Text
import KE.KRevSl
import HandS.Codes
import HandS.Zip
import KE.GoesMore
import HandS.MakeKw
import KE.KCallOwn
import HandS.FStr
import KE.KxMul
import HandS.Flow
import HandS.Dict
import HandS.IntHex
import HandS.More
import HandS.SortOrd
import HandS.SortRule
import HandS.ExcValue
import HandS.ExcIs
import HandS.ExcField
import KE.KExcIs
import HandS.OwnEq
import HandS.ReplaceLit
import HandS.ReplaceList
import PyProof.Rows.StrSplitCount
import HandS.ExcInit
import KE.KExcInit
import KE.KDictPairs
import KE.KDictKeyed
import PyProof.EqKinds
import HandS.Small
import HandS.Records
import KE.GoesZip
import KE.KTupSum
import HandS.SortInts
import KE.SortData
import HandS.TupSets
import KE.DataFind
import KE.KDictWalk
import PyProof.SeqIndex
import HandS.WideBits
import HandS.SortKw
import KE.KDictZip
import KE.KDictItemsList
import KE.KMinKey
import KE.DataCmp
import PyProof.ReprRoads
import PyProof.FString2
import HandS.RaiseMore
import HandS.Rev
import HandS.HotCalls
import HandS.ExcInitHot
import PySem.Challenge.RW_glovepairs_k15_no_cut_gives_more
set_option Elab.async false
set_option autoImplicit false
set_option linter.all false
set_option maxRecDepth 100000
set_option maxHeartbeats 0
/-! # G1: values, heaps, results of the functional layer; how they stand for the hand layer's -/
namespace G
open PySem PySem.Spec PyProof.Rows L2

/-- a value: lists that nobody changes stand by themselves (lst; the script: scr), those that are changed by their number in the heap (ref) -/
inductive Tn where
  | int | str | bool | tup | lst | dct
  deriving DecidableEq
def Tn.nm : Tn → String
  | .int => "int" | .str => "str" | .bool => "bool" | .tup => "tuple" | .lst => "list" | .dct => "dict"
inductive D where
  | non | bl (b : Bool) | int (i : Int) | str (s : Str) | tup (ds : List D) | lst (ds : List D) | scr (ds : List D) | ref (n : Nat) | ty (t : Tn) | ctp (ds : List D) | dct (ks : List Key) (ds : List D) | dtp (ks : List (List Key)) (ds : List D) | dlk (ks : List Key) (ds : List D) | dlt (ks : List (List Key)) (ds : List D) | ins (c : Str) (ks : List Str) (ds : List D) | glb (x : Str) | exn (c : Str) (ks : List Str) (ds : List D)
inductive O where
  | lst (ds : List D) | dk (kvs : List (Key × D)) | dt (kvs : List (List Key × D)) | ins (c : Str) (fs : List (Str × D)) | lkd (o : O)
abbrev Hs := List O
inductive R (α : Type) where
  | ok (a : α) (h : Hs) | exc (c : Str) (fs : List (Str × D)) (h : Hs) | bad
abbrev Ev := List (Option D)
inductive SR where
  | nx (e : Ev) (h : Hs) | ret (d : D) (h : Hs) | brk (e : Ev) (h : Hs) | cnt (e : Ev) (h : Hs) | exc (c : Str) (fs : List (Str × D)) (e : Ev) (h : Hs) | bad
abbrev FE := Ev → Hs → R D
abbrev FS := Ev → Hs → SR
/-- a test -/
abbrev FT := Ev → Hs → R Bool
abbrev FA := Ev → Hs → R (List D)

def R.bind {α β : Type} (r : R α) (k : α → Hs → R β) : R β := match r with
  | .ok a h => k a h
  | .exc c fs h => .exc c fs h
  | .bad => .bad
@[simp] theorem R.bind_ok {α β : Type} (a : α) (h : Hs) (k : α → Hs → R β) : (R.ok a h).bind k = k a h := rfl
@[simp] theorem R.bind_exc {α β : Type} (c : Str) (fs : List (Str × D)) (h : Hs) (k : α → Hs → R β) : (R.exc c fs h).bind k = .exc c fs h := rfl
@[simp] theorem R.bind_bad {α β : Type} (k : α → Hs → R β) : (R.bad).bind k = .bad := rfl

/-! ### how they stand for the hand layer's -/
/-- where our objects stand; which lists stand still from now on -/
structure Mp where
  l : List Addr
  fz : Addr → Prop
/-- a tuple, the script: tracked and not ours, or an object of the module -/
def StT (K : PySem.W.Frag) (mu : Mp) (H : Hp) (a : Addr) (vs : List V) : Prop := H a = some (.tup vs) ∧ a ∉ mu.l
def StL (K : PySem.W.Frag) (mu : Mp) (H : Hp) (a : Addr) (vs : List V) : Prop := ((∃ o, H a = some (.frz o (.lst vs))) ∧ a ∉ mu.l) ∨ SqL K (fun _ => none) a vs
theorem StT.sq {K : PySem.W.Frag} {mu : Mp} {H : Hp} {a : Addr} {vs : List V} (h : StT K mu H a vs) : SqT K H a vs := .inl (.inl h.1)
theorem sqT_c {K : PySem.W.Frag} {H : Hp} {a : Addr} {vs : List V} (h : SqT K (fun _ => none) a vs) : SqT K H a vs := by
  rcases h with (h | ⟨o, h⟩) | h
  · cases h
  · cases h
  · exact .inr h
theorem StL.sq {K : PySem.W.Frag} {mu : Mp} {H : Hp} {a : Addr} {vs : List V} (h : StL K mu H a vs) : SqL K H a vs := by
  rcases h with ⟨⟨o, h⟩, _⟩ | (h | ⟨o, h⟩) | h
  · exact .inl (.inr ⟨o, h⟩)
  · cases h
  · cases h
  · exact .inr h
/-- an exception's object of the class C at a, with that dict -/
def ExPl (C : Addr) (d : Option Addr) (a : Addr) (h : Heap) : Prop := ∃ (oe : Obj) (us : Array Value), h.get? a = some oe ∧ Zc (.ref C) d oe ∧ oe.data = .fields us
def StE (mu : Mp) (H : Hp) (C : Addr) (d : Option Addr) (a : Addr) : Prop := a ∉ mu.l ∧ ∃ φ, H a = some (.ext φ) ∧ ∀ h, φ h → ExPl C d a h
/-- locked, not ours -/
def StF (mu : Mp) (H : Hp) (a : Addr) (u : HO) : Prop := (∃ o, H a = some (.frz o u)) ∧ a ∉ mu.l
def StX (mu : Mp) (H : Hp) (b : Addr) (kvs : List (Str × V)) : Prop := H b = some (.xd kvs) ∧ b ∉ mu.l
mutual
inductive RD (K : PySem.W.Frag) (mu : Mp) (H : Hp) : D → V → Prop
  | non : RD K mu H .non .non
  | bl (b : Bool) : RD K mu H (.bl b) (.bl b)
  | int (i : Int) : RD K mu H (.int i) (.int i)
  | str (s : Str) : RD K mu H (.str s) (.str s)
  | tup {a : Addr} {vs : List V} {ds : List D} : StT K mu H a vs → RDs K mu H ds vs → RD K mu H (.tup ds) (.ref a)
  | lst {a : Addr} {vs : List V} {ds : List D} : H a = some (.lst vs) → mu.fz a → RDs K mu H ds vs → RD K mu H (.lst ds) (.ref a)
  | scr {a : Addr} {vs : List V} {ds : List D} : StL K mu H a vs → RDs K mu H ds vs → RD K mu H (.scr ds) (.ref a)
  | ref {n : Nat} {a : Addr} : mu.l[n]? = some a → RD K mu H (.ref n) (.ref a)
  | ty (t : Tn) : RD K mu H (.ty t) (.ty t.nm)
  | ctp {a : Addr} {vs : List V} {ds : List D} : SqT K (fun _ => none) a vs → RDs K mu H ds vs → RD K mu H (.ctp ds) (.ref a)
  | dct {a : Addr} {ks : List Key} {vs : List V} {ds : List D} : H a = some (.dK (ks.zip vs)) → mu.fz a → ks.length = ds.length → RDs K mu H ds vs → RD K mu H (.dct ks ds) (.ref a)
  | dtp {a : Addr} {ks : List (List Key)} {vs : List V} {ds : List D} : H a = some (.dT (ks.zip vs)) → mu.fz a → ks.length = ds.length → RDs K mu H ds vs → RD K mu H (.dtp ks ds) (.ref a)
  | dlk {a : Addr} {ks : List Key} {vs : List V} {ds : List D} : StF mu H a (.dK (ks.zip vs)) → ks.length = ds.length → RDs K mu H ds vs → RD K mu H (.dlk ks ds) (.ref a)
  | dlt {a : Addr} {ks : List (List Key)} {vs : List V} {ds : List D} : StF mu H a (.dT (ks.zip vs)) → ks.length = ds.length → RDs K mu H ds vs → RD K mu H (.dlt ks ds) (.ref a)
  | ins {a C dx : Addr} {c : Str} {ks : List Str} {vs : List V} {ds : List D} : PySem.W.nsIn K mainGlobals c = some (some (.ref C)) → H a = some (.ins C dx (ks.zip vs)) → mu.fz a → ks.length = ds.length → RDs K mu H ds vs → RD K mu H (.ins c ks ds) (.ref a)
  | glb {x : Str} {C : Addr} : PySem.W.nsIn K mainGlobals x = some (some (.ref C)) → RD K mu H (.glb x) (.ref C)
  | exn0 {a C : Addr} {c : Str} : PySem.W.nsIn K mainGlobals c = some (some (.ref C)) → StE mu H C none a → RD K mu H (.exn c [] []) (.ref a)
  | exnd {a C b : Addr} {c : Str} {ks : List Str} {vs : List V} {ds : List D} : PySem.W.nsIn K mainGlobals c = some (some (.ref C)) → StE mu H C (some b) a → StX mu H b (ks.zip vs) → ks.length = ds.length → RDs K mu H ds vs → RD K mu H (.exn c ks ds) (.ref a)
inductive RDs (K : PySem.W.Frag) (mu : Mp) (H : Hp) : List D → List V → Prop
  | nil : RDs K mu H [] []
  | cons {d : D} {v : V} {ds : List D} {vs : List V} : RD K mu H d v → RDs K mu H ds vs → RDs K mu H (d :: ds) (v :: vs)
end

/-- what never changes -/
def Imm : HO → Prop
  | .tup _ => True
  | .frz _ _ => True
  | .ext _ => True
  | .xd _ => True
  | _ => False
/-- enough is as it was for all values to stand -/
structure Agr (mu : Mp) (H : Hp) (mu' : Mp) (H' : Hp) : Prop where
  pre : mu.l <+: mu'.l
  sub : ∀ a, mu.fz a → mu'.fz a
  lst : ∀ a o, H a = some o → mu.fz a → H' a = some o
  imm : ∀ a o, H a = some o → Imm o → a ∉ mu.l → H' a = some o ∧ a ∉ mu'.l
/-- later: what was not ours stands as it was, and does not become ours, nor one of those that stand still -/
structure Lat (mu : Mp) (H : Hp) (mu' : Mp) (H' : Hp) : Prop where
  pre : mu.l <+: mu'.l
  sub : ∀ a, mu.fz a → mu'.fz a
  ext : ∀ a o, H a = some o → a ∉ mu.l → H' a = some o ∧ a ∉ mu'.l ∧ (mu'.fz a → mu.fz a)
  frz : ∀ a o u, H a = some (.frz o u) → H' a = some (.frz o u)
theorem Lat.refl {mu : Mp} {H : Hp} : Lat mu H mu H := ⟨List.prefix_rfl, fun _ h => h, fun _ _ h n => ⟨h, n, fun z => z⟩, fun _ _ _ h => h⟩
theorem Lat.trans {m0 m1 m2 : Mp} {H0 H1 H2 : Hp} (a : Lat m0 H0 m1 H1) (b : Lat m1 H1 m2 H2) : Lat m0 H0 m2 H2 :=
  ⟨a.pre.trans b.pre, fun x h => b.sub x (a.sub x h), fun x o h n => let ⟨h1, n1, z1⟩ := a.ext x o h n; let ⟨h2, n2, z2⟩ := b.ext x o h1 n1; ⟨h2, n2, fun z => z1 (z2 z)⟩, fun x o u h => b.frz x o u (a.frz x o u h)⟩
theorem Agr.get {mu mu' : Mp} {H H' : Hp} (l : Agr mu H mu' H') {n : Nat} {a : Addr} (e : mu.l[n]? = some a) : mu'.l[n]? = some a := by
  obtain ⟨t, e2⟩ := l.pre
  rw [← e2, List.getElem?_append_left (List.getElem?_eq_some_iff.mp e).1]
  exact e
/-- what is new later was new ahead -/
theorem Lat.back {mu mu' : Mp} {H H' : Hp} (l : Lat mu H mu' H') {a : Addr} (h : H' a = none) (n : a ∉ mu.l) : H a = none := by
  cases q : H a with
  | none => rfl
  | some o => rw [(l.ext a o q n).1] at h; cases h
theorem Agr.stT {K : PySem.W.Frag} {mu mu' : Mp} {H H' : Hp} (l : Agr mu H mu' H') {a : Addr} {vs : List V} (q : StT K mu H a vs) : StT K mu' H' a vs :=
  ⟨(l.imm _ _ q.1 trivial q.2).1, (l.imm _ _ q.1 trivial q.2).2⟩
theorem Agr.stL {K : PySem.W.Frag} {mu mu' : Mp} {H H' : Hp} (l : Agr mu H mu' H') {a : Addr} {vs : List V} (q : StL K mu H a vs) : StL K mu' H' a vs := by
  rcases q with ⟨⟨o, h⟩, n⟩ | q
  · exact .inl ⟨⟨o, (l.imm _ _ h trivial n).1⟩, (l.imm _ _ h trivial n).2⟩
  · exact .inr q
theorem Agr.stE {mu mu' : Mp} {H H' : Hp} (l : Agr mu H mu' H') {C : Addr} {d : Option Addr} {a : Addr} (q : StE mu H C d a) : StE mu' H' C d a := by
  obtain ⟨n, φ, h, i⟩ := q
  exact ⟨(l.imm _ _ h trivial n).2, φ, (l.imm _ _ h trivial n).1, i⟩
theorem Agr.stF {mu mu' : Mp} {H H' : Hp} (l : Agr mu H mu' H') {a : Addr} {u : HO} (q : StF mu H a u) : StF mu' H' a u := by
  obtain ⟨⟨o, h⟩, n⟩ := q
  exact ⟨⟨o, (l.imm _ _ h trivial n).1⟩, (l.imm _ _ h trivial n).2⟩
theorem Agr.stX {mu mu' : Mp} {H H' : Hp} (l : Agr mu H mu' H') {b : Addr} {kvs : List (Str × V)} (q : StX mu H b kvs) : StX mu' H' b kvs :=
  ⟨(l.imm _ _ q.1 trivial q.2).1, (l.imm _ _ q.1 trivial q.2).2⟩

section
variable {K : PySem.W.Frag} {mu mu' : Mp} {H H' : Hp}
mutual
theorem RD.agr (l : Agr mu H mu' H') : ∀ {d : D} {v : V}, RD K mu H d v → RD K mu' H' d v
  | _, _, .non => .non
  | _, _, .bl b => .bl b
  | _, _, .int i => .int i
  | _, _, .str s => .str s
  | _, _, .tup q r => .tup (l.stT q) (RDs.agr l r)
  | _, _, .lst q n r => .lst (l.lst _ _ q n) (l.sub _ n) (RDs.agr l r)
  | _, _, .scr q r => .scr (l.stL q) (RDs.agr l r)
  | _, _, .ref e => .ref (l.get e)
  | _, _, .ty t => .ty t
  | _, _, .ctp q r => .ctp q (RDs.agr l r)
  | _, _, .dct q n z r => .dct (l.lst _ _ q n) (l.sub _ n) z (RDs.agr l r)
  | _, _, .dtp q n z r => .dtp (l.lst _ _ q n) (l.sub _ n) z (RDs.agr l r)
  | _, _, .ins g q n z r => .ins g (l.lst _ _ q n) (l.sub _ n) z (RDs.agr l r)
  | _, _, .glb g => .glb g
  | _, _, .dlk q z r => .dlk (l.stF q) z (RDs.agr l r)
  | _, _, .dlt q z r => .dlt (l.stF q) z (RDs.agr l r)
  | _, _, .exn0 g q => .exn0 g (l.stE q)
  | _, _, .exnd g q x z r => .exnd g (l.stE q) (l.stX x) z (RDs.agr l r)
theorem RDs.agr (l : Agr mu H mu' H') : ∀ {ds : List D} {vs : List V}, RDs K mu H ds vs → RDs K mu' H' ds vs
  | _, _, .nil => .nil
  | _, _, .cons r t => .cons (RD.agr l r) (RDs.agr l t)
end
theorem RDs.length : ∀ {ds : List D} {vs : List V}, RDs K mu H ds vs → ds.length = vs.length
  | _, _, .nil => rfl
  | _, _, .cons _ t => by simp [RDs.length t]
theorem RDs.get : ∀ {ds : List D} {vs : List V} {i : Nat} {d : D}, RDs K mu H ds vs → ds[i]? = some d → ∃ v, vs[i]? = some v ∧ RD K mu H d v
  | _, _, _, _, .nil, e => by simp at e
  | _, _, 0, _, .cons r _, e => by simp at e; subst e; exact ⟨_, rfl, r⟩
  | _, _, i + 1, d, .cons _ t, e => by
    obtain ⟨v, h1, h2⟩ := RDs.get (i := i) (d := d) t (by simpa using e)
    exact ⟨v, by simpa using h1, h2⟩
theorem RDs.append : ∀ {ds es : List D} {vs us : List V}, RDs K mu H ds vs → RDs K mu H es us → RDs K mu H (ds ++ es) (vs ++ us)
  | _, _, _, _, .nil, s => s
  | _, _, _, _, .cons r t, s => .cons r (RDs.append t s)
theorem RDs.snoc {ds : List D} {vs : List V} {d : D} {v : V} (a : RDs K mu H ds vs) (b : RD K mu H d v) : RDs K mu H (ds ++ [d]) (vs ++ [v]) := a.append (.cons b .nil)
theorem RDs.take : ∀ (n : Nat) {ds : List D} {vs : List V}, RDs K mu H ds vs → RDs K mu H (ds.take n) (vs.take n)
  | 0, _, _, _ => .nil
  | _ + 1, _, _, .nil => .nil
  | n + 1, _, _, .cons r t => .cons r (RDs.take n t)
theorem RDs.drop : ∀ (n : Nat) {ds : List D} {vs : List V}, RDs K mu H ds vs → RDs K mu H (ds.drop n) (vs.drop n)
  | 0, _, _, r => r
  | _ + 1, _, _, .nil => .nil
  | n + 1, _, _, .cons _ t => RDs.drop n t
theorem RDs.set {d : D} {v : V} (r : RD K mu H d v) : ∀ (n : Nat) {ds : List D} {vs : List V}, RDs K mu H ds vs → RDs K mu H (ds.set n d) (vs.set n v)
  | _, _, _, .nil => .nil
  | 0, _, _, .cons _ t => .cons r t
  | n + 1, _, _, .cons q t => .cons q (RDs.set r n t)
theorem RDs.reverse : ∀ {ds : List D} {vs : List V}, RDs K mu H ds vs → RDs K mu H ds.reverse vs.reverse
  | _, _, .nil => .nil
  | _, _, .cons r t => by rw [List.reverse_cons, List.reverse_cons]; exact (RDs.reverse t).snoc r
theorem RDs.ints : ∀ (ns : List Int), RDs K mu H (ns.map D.int) (ns.map V.int)
  | [] => .nil
  | n :: r => .cons (.int n) (RDs.ints r)
end

/-- pairs of a key and a value -/
inductive RKs {k : Type} (K : PySem.W.Frag) (mu : Mp) (H : Hp) : List (k × D) → List (k × V) → Prop
  | nil : RKs K mu H [] []
  | cons {x : k} {d : D} {v : V} {ds : List (k × D)} {vs : List (k × V)} : RD K mu H d v → RKs K mu H ds vs → RKs K mu H ((x, d) :: ds) ((x, v) :: vs)
section
variable {K : PySem.W.Frag} {mu mu' : Mp} {H H' : Hp} {k : Type}
theorem RKs.agr (l : Agr mu H mu' H') : ∀ {ds : List (k × D)} {vs : List (k × V)}, RKs K mu H ds vs → RKs K mu' H' ds vs
  | _, _, .nil => .nil
  | _, _, .cons r t => .cons (RD.agr l r) (RKs.agr l t)
theorem RKs.length : ∀ {ds : List (k × D)} {vs : List (k × V)}, RKs K mu H ds vs → ds.length = vs.length
  | _, _, .nil => rfl
  | _, _, .cons _ t => by simp [RKs.length t]
theorem RKs.lookup [BEq k] {x : k} : ∀ {ds : List (k × D)} {vs : List (k × V)}, RKs K mu H ds vs → ∀ {d : D}, ds.lookup x = some d → ∃ v, vs.lookup x = some v ∧ RD K mu H d v
  | _, _, .nil, d, e => by simp at e
  | _, _, .cons (x := y) r t, d, e => by
    rw [List.lookup_cons] at e ⊢
    cases q : (x == y) with
    | true => rw [q] at e; simp at e; subst e; exact ⟨_, by simp, r⟩
    | false =>
      rw [q] at e
      obtain ⟨v, h1, h2⟩ := RKs.lookup (x := x) t e
      exact ⟨v, by simpa using h1, h2⟩
end

/-- an object of ours at what the hand layer tracks -/
def RO (K : PySem.W.Frag) (mg : Str → Option Value) (mu : Mp) (H : Hp) : O → HO → Prop
  | .lst ds, .lst vs => RDs K mu H ds vs
  | .dk ds, .dK vs => RKs K mu H ds vs
  | .dt ds, .dT vs => RKs K mu H ds vs
  | .ins c ds, .ins C _ vs => PySem.W.nsIn K mainGlobals c = some (some (.ref C)) ∧ RKs K mu H ds vs
  | .lkd o, .frz _ u => RO K mg mu H o u
  | _, _ => False
theorem RO.agr {K : PySem.W.Frag} {mg : Str → Option Value} {mu mu' : Mp} {H H' : Hp} (l : Agr mu H mu' H') : ∀ {o : O} {u : HO}, RO K mg mu H o u → RO K mg mu' H' o u := by
  intro o
  induction o with
  | lst ds => intro u h; cases u <;> first | exact RDs.agr l h | exact h
  | dk ds => intro u h; cases u <;> first | exact RKs.agr l h | exact h
  | dt ds => intro u h; cases u <;> first | exact RKs.agr l h | exact h
  | ins c ds => intro u h; cases u <;> first | exact ⟨h.1, RKs.agr l h.2⟩ | exact h
  | lkd o ih => intro u h; cases u <;> first | exact ih h | exact h
theorem RO.notTup {K : PySem.W.Frag} {mg : Str → Option Value} {mu : Mp} {H : Hp} {o : O} {vs : List V} : ¬ RO K mg mu H o (.tup vs) := by
  intro h; cases o <;> exact h

/-- our heap stands for the hand layer's -/
structure Sim (K : PySem.W.Frag) (mg : Str → Option Value) (mu : Mp) (hs : Hs) (H : Hp) : Prop where
  len : mu.l.length = hs.length
  nd : mu.l.Nodup
  dj : ∀ a ∈ mu.l, ¬ mu.fz a
  fzl : ∀ a, mu.fz a → ∃ u, H a = some u
  obj : ∀ (n : Nat) (o : O), hs[n]? = some o → ∃ a u, mu.l[n]? = some a ∧ H a = some u ∧ RO K mg mu H o u
section
variable {K : PySem.W.Frag} {mg : Str → Option Value} {mu mu' : Mp} {hs : Hs} {H H' : Hp}
theorem Sim.there (S : Sim K mg mu hs H) {a : Addr} (h : a ∈ mu.l) : ∃ u, H a = some u := by
  obtain ⟨n, hn, e⟩ := List.getElem_of_mem h
  have hn' : n < hs.length := by rw [← S.len]; exact hn
  obtain ⟨b, u, e1, e2, _⟩ := S.obj n hs[n] (List.getElem?_eq_getElem hn')
  rw [List.getElem?_eq_getElem hn] at e1
  cases e1
  rw [← e]
  exact ⟨u, e2⟩
theorem Sim.fresh (S : Sim K mg mu hs H) {a : Addr} (h : H a = none) : a ∉ mu.l := fun m => by
  obtain ⟨u, e⟩ := S.there m
  rw [h] at e; cases e
theorem Sim.freshz (S : Sim K mg mu hs H) {a : Addr} (h : H a = none) : ¬ mu.fz a := fun m => by
  obtain ⟨u, e⟩ := S.fzl a m
  rw [h] at e; cases e
/-- with Sim ahead, later is enough -/
theorem Lat.agr (l : Lat mu H mu' H') (S : Sim K mg mu hs H) : Agr mu H mu' H' :=
  ⟨l.pre, l.sub, fun a vs h z => (l.ext a _ h fun m => S.dj a m z).1, fun a o h _ n => ⟨(l.ext a o h n).1, (l.ext a o h n).2.1⟩⟩
theorem Sim.at (S : Sim K mg mu hs H) {n : Nat} {a : Addr} {o : O} (e : mu.l[n]? = some a) (h : hs[n]? = some o) : ∃ u, H a = some u ∧ RO K mg mu H o u := by
  obtain ⟨b, u, e1, e2, e3⟩ := S.obj n o h
  rw [e] at e1; cases e1
  exact ⟨u, e2, e3⟩
/-- a new thing that isn't ours -/
theorem Lat.new {p : Addr} {o : HO} (hp : H p = none) : Lat mu H mu (upd H p o) :=
  ⟨List.prefix_rfl, fun _ h => h, fun a u h n => ⟨by rw [upd_ne (ne_of_none h hp)]; exact h, n, fun z => z⟩, fun a _ _ h => by rw [upd_ne (ne_of_none h hp)]; exact h⟩
theorem Sim.mono (S : Sim K mg mu hs H) (l : Lat mu H mu H') (k : ∀ a ∈ mu.l, ∀ u, H a = some u → H' a = some u) : Sim K mg mu hs H' :=
  ⟨S.len, S.nd, S.dj, fun a z => by
    obtain ⟨u, e⟩ := S.fzl a z
    exact ⟨u, (l.ext a u e fun m => S.dj a m z).1⟩, fun n o h => by
    obtain ⟨a, u, e1, e2, e3⟩ := S.obj n o h
    exact ⟨a, u, e1, k a (List.mem_of_getElem? e1) u e2, RO.agr (l.agr S) e3⟩⟩
theorem Sim.new (S : Sim K mg mu hs H) {p : Addr} {o : HO} (hp : H p = none) : Sim K mg mu hs (upd H p o) :=
  S.mono (.new hp) fun a h u e => by rw [upd_ne (ne_of_none e hp)]; exact e
/-- p stands still from now on -/
def Mp.still (mu : Mp) (p : Addr) : Mp := ⟨mu.l, fun a => a = p ∨ mu.fz a⟩
/-- p is ours from now on -/
def Mp.own (mu : Mp) (p : Addr) : Mp := ⟨mu.l ++ [p], mu.fz⟩
theorem Agr.still {p : Addr} : Agr mu H (mu.still p) H := ⟨List.prefix_rfl, fun _ h => .inr h, fun _ _ h _ => h, fun _ _ h _ n => ⟨h, n⟩⟩
theorem Sim.still (S : Sim K mg mu hs H) {p : Addr} {u : HO} (h : H p = some u) (n : p ∉ mu.l) : Sim K mg (mu.still p) hs H :=
  ⟨S.len, S.nd, fun a m z => z.elim (fun e => n (e ▸ m)) (S.dj a m), fun a z => z.elim (fun e => ⟨u, e ▸ h⟩) (S.fzl a), fun k o h => by
    obtain ⟨a, u, e1, e2, e3⟩ := S.obj k o h
    exact ⟨a, u, e1, e2, RO.agr .still e3⟩⟩
/-- a new list that stands still -/
theorem Lat.newStill {p : Addr} {o : HO} (hp : H p = none) : Lat mu H (mu.still p) (upd H p o) :=
  ⟨List.prefix_rfl, fun _ h => .inr h, fun a u h n => ⟨by rw [upd_ne (ne_of_none h hp)]; exact h, n, fun z => z.elim (fun e => absurd e (ne_of_none h hp)) fun z => z⟩, fun a _ _ h => by rw [upd_ne (ne_of_none h hp)]; exact h⟩
theorem Sim.newStill (S : Sim K mg mu hs H) {p : Addr} {o : HO} (hp : H p = none) : Sim K mg (mu.still p) hs (upd H p o) := (S.new hp).still upd_same (S.fresh hp)
theorem Agr.own {p : Addr} {vs : List V} (h : H p = some (.lst vs)) : Agr mu H (mu.own p) H :=
  ⟨List.prefix_append _ _, fun _ h => h, fun _ _ h _ => h, fun a o e i n => ⟨e, by
    show a ∉ mu.l ++ [p]
    simp only [List.mem_append, List.mem_singleton, not_or]
    exact ⟨n, fun z => by rw [z, h] at e; cases e; exact i⟩⟩⟩
theorem getElem?_own {m : List Addr} {hs : Hs} {p : Addr} (h : m.length = hs.length) : (m ++ [p])[hs.length]? = some p := by
  rw [List.getElem?_append_right (by omega), h, Nat.sub_self]
  rfl
/-- what was just made becomes ours -/
theorem Sim.adopt {p : Addr} {o : O} {u : HO} (S : Sim K mg mu hs H) (h : H p = some u) (n : p ∉ mu.l) (nz : ¬ mu.fz p) (g : Agr mu H (mu.own p) H) (r : RO K mg mu H o u) : Sim K mg (mu.own p) (hs ++ [o]) H := by
  refine ⟨by simp [Mp.own, S.len], ?_, fun a m => ?_, S.fzl, fun k q hq => ?_⟩
  · show (mu.l ++ [p]).Nodup
    rw [List.nodup_append]
    exact ⟨S.nd, by simp, fun b hb c hc => by simp at hc; subst hc; exact fun z => n (z ▸ hb)⟩
  · rcases List.mem_append.mp (show a ∈ mu.l ++ [p] from m) with m | m
    · exact S.dj a m
    · rw [List.mem_singleton.mp m]; exact nz
  · by_cases hm : k < hs.length
    · rw [List.getElem?_append_left hm] at hq
      obtain ⟨b, w, e1, e2, e3⟩ := S.obj k q hq
      exact ⟨b, w, g.get e1, e2, RO.agr g e3⟩
    · rw [List.getElem?_append_right (by omega)] at hq
      have hm' : k = hs.length := by
        have := (List.getElem?_eq_some_iff.mp hq).1
        simp at this
        omega
      subst hm'
      rw [Nat.sub_self] at hq
      simp at hq
      subst hq
      exact ⟨p, u, getElem?_own S.len, h, RO.agr g r⟩
/-- an object of ours is changed -/
theorem Lat.write {n : Nat} {a : Addr} {u : HO} (e : mu.l[n]? = some a) (nf : ∀ o v, H a ≠ some (.frz o v)) : Lat mu H mu (upd H a u) :=
  ⟨List.prefix_rfl, fun _ h => h, fun b o h nm => ⟨by rw [upd_ne (fun z => nm (by rw [z]; exact List.mem_of_getElem? e))]; exact h, nm, fun z => z⟩, fun b o v h => by rw [upd_ne (fun z : b = a => nf o v (by rw [← z]; exact h))]; exact h⟩
theorem nfL {a : Addr} {vs : List V} (h : H a = some (.lst vs)) : ∀ o v, H a ≠ some (.frz o v) := fun o v z => by rw [h] at z; cases z
theorem nfK {a : Addr} {vs : List (Key × V)} (h : H a = some (.dK vs)) : ∀ o v, H a ≠ some (.frz o v) := fun o v z => by rw [h] at z; cases z
theorem nfT {a : Addr} {vs : List (List Key × V)} (h : H a = some (.dT vs)) : ∀ o v, H a ≠ some (.frz o v) := fun o v z => by rw [h] at z; cases z
theorem nfI {a C dx : Addr} {vs : List (Str × V)} (h : H a = some (.ins C dx vs)) : ∀ o v, H a ≠ some (.frz o v) := fun o v z => by rw [h] at z; cases z
theorem Agr.write (S : Sim K mg mu hs H) {n : Nat} {a : Addr} {u : HO} (e : mu.l[n]? = some a) : Agr mu H mu (upd H a u) :=
  ⟨List.prefix_rfl, fun _ h => h, fun b o h z => by rw [upd_ne (fun q : b = a => S.dj a (List.mem_of_getElem? e) (by rw [← q]; exact z))]; exact h, fun b o h _ nm => ⟨by rw [upd_ne (fun z => nm (by rw [z]; exact List.mem_of_getElem? e))]; exact h, nm⟩⟩
theorem Sim.write (S : Sim K mg mu hs H) {n : Nat} {a : Addr} {o : O} {u : HO} (e : mu.l[n]? = some a) (h : RO K mg mu H o u) : Sim K mg mu (hs.set n o) (upd H a u) := by
  have L : Agr mu H mu (upd H a u) := Agr.write S e
  have hn : n < mu.l.length := (List.getElem?_eq_some_iff.mp e).1
  refine ⟨by rw [List.length_set]; exact S.len, S.nd, S.dj, fun b z => ?_, fun m q hq => ?_⟩
  · obtain ⟨w, ew⟩ := S.fzl b z
    by_cases hb : b = a
    · exact ⟨u, by rw [hb, upd_same]⟩
    · exact ⟨w, by rw [upd_ne hb]; exact ew⟩
  by_cases hm : n = m
  · subst hm
    rw [List.getElem?_set_self (by rw [← S.len]; exact hn)] at hq
    cases hq
    exact ⟨a, u, e, upd_same, RO.agr L h⟩
  · rw [List.getElem?_set_ne hm] at hq
    obtain ⟨b, w, e1, e2, e3⟩ := S.obj m q hq
    refine ⟨b, w, e1, ?_, RO.agr L e3⟩
    rw [upd_ne]
    · exact e2
    · intro z
      rw [z] at e1
      obtain ⟨h1, g1⟩ := List.getElem?_eq_some_iff.mp e
      obtain ⟨h2, g2⟩ := List.getElem?_eq_some_iff.mp e1
      exact hm ((List.getElem_inj S.nd).mp (g1.trans g2.symm))
/-- a new thing that is ours -/
theorem Lat.newOwn (S : Sim K mg mu hs H) {p : Addr} {u : HO} (hp : H p = none) : Lat mu H (mu.own p) (upd H p u) :=
  ⟨List.prefix_append _ _, fun _ h => h, fun a o h n => by
    have ne := ne_of_none h hp
    refine ⟨by rw [upd_ne ne]; exact h, ?_, fun z => z⟩
    show a ∉ mu.l ++ [p]
    simp [n, ne], fun a _ _ h => by rw [upd_ne (ne_of_none h hp)]; exact h⟩
theorem Sim.newOwn (S : Sim K mg mu hs H) {p : Addr} {o : O} {u : HO} (hp : H p = none) (h : RO K mg mu H o u) : Sim K mg (mu.own p) (hs ++ [o]) (upd H p u) := by
  have L : Agr mu H (mu.own p) (upd H p u) := Lat.agr (.newOwn S hp) S
  have S2 := S.new (o := u) hp
  refine ⟨by simp [Mp.own, S.len], ?_, fun a m => ?_, S2.fzl, fun k q hq => ?_⟩
  · show (mu.l ++ [p]).Nodup
    rw [List.nodup_append]
    exact ⟨S.nd, by simp, fun b hb c hc => by simp at hc; subst hc; exact fun z => S.fresh hp (z ▸ hb)⟩
  · rcases List.mem_append.mp (show a ∈ mu.l ++ [p] from m) with m | m
    · exact S.dj a m
    · rw [List.mem_singleton.mp m]; exact S.freshz hp
  · by_cases hm : k < hs.length
    · rw [List.getElem?_append_left hm] at hq
      obtain ⟨b, w, e1, e2, e3⟩ := S.obj k q hq
      exact ⟨b, w, L.get e1, by rw [upd_ne (ne_of_none e2 hp)]; exact e2, RO.agr L e3⟩
    · rw [List.getElem?_append_right (by omega)] at hq
      have hm' : k = hs.length := by
        have := (List.getElem?_eq_some_iff.mp hq).1
        simp at this
        omega
      subst hm'
      rw [Nat.sub_self] at hq
      simp at hq
      subst hq
      exact ⟨p, u, getElem?_own S.len, upd_same, RO.agr L h⟩
/-- a thing that is neither ours nor stands still is changed: nothing of ours leans on it -/
theorem Agr.priv {p : Addr} {vs : List V} {o : HO} (h : H p = some (.lst vs)) (nz : ¬ mu.fz p) : Agr mu H mu (upd H p o) :=
  ⟨List.prefix_rfl, fun _ h => h, fun a us e z => by rw [upd_ne (show a ≠ p from fun q => nz (q ▸ z))]; exact e, fun a u e i n => ⟨by
    rw [upd_ne]
    · exact e
    · intro z; rw [z, h] at e; cases e; exact i, n⟩⟩
theorem Sim.priv {p : Addr} {vs : List V} {o : HO} (S : Sim K mg mu hs H) (h : H p = some (.lst vs)) (n : p ∉ mu.l) (nz : ¬ mu.fz p) : Sim K mg mu hs (upd H p o) :=
  ⟨S.len, S.nd, S.dj, fun a z => by
    obtain ⟨u, e⟩ := S.fzl a z
    exact ⟨u, by rw [upd_ne (show a ≠ p from fun q => nz (q ▸ z))]; exact e⟩, fun k q hq => by
    obtain ⟨a, u, e1, e2, e3⟩ := S.obj k q hq
    exact ⟨a, u, e1, by rw [upd_ne (fun z => n (by rw [← z]; exact List.mem_of_getElem? e1))]; exact e2, RO.agr (.priv h nz) e3⟩⟩
end
/-! # G2: what a function of ours says of a piece of the text; sequences -/
/-- an exception that leaves -/
def RX (K : PySem.W.Frag) (mg : Str → Option Value) (mu : Mp) (H : Hp) (c : Str) (fs : List (Str × D)) (cls : Value) (dx : Option Addr) : Prop :=
  ∃ C, cls = .ref C ∧ PySem.W.nsIn K mainGlobals c = some (some (.ref C)) ∧ ((fs = [] ∧ dx = none) ∨ ∃ a vs, dx = some a ∧ H a = some (.xd vs) ∧ a ∉ mu.l ∧ RKs K mu H fs vs)
theorem RX.mono {K : PySem.W.Frag} {mg : Str → Option Value} {mu mu' : Mp} {hs : Hs} {H H' : Hp} {c : Str} {fs : List (Str × D)} {cls : Value} {dx : Option Addr} (l : Lat mu H mu' H') (S : Sim K mg mu hs H) (h : RX K mg mu H c fs cls dx) : RX K mg mu' H' c fs cls dx := by
  obtain ⟨C, e1, e2, h | ⟨a, vs, h1, h2, h3, h4⟩⟩ := h
  · exact ⟨C, e1, e2, .inl h⟩
  · exact ⟨C, e1, e2, .inr ⟨a, vs, h1, (l.ext a _ h2 h3).1, (l.ext a _ h2 h3).2.1, RKs.agr (l.agr S) h4⟩⟩

/-- what stands for what, by the heap at the start -/
abbrev Rel (a b : Type) := Hp → Mp → Hs → Hp → a → b → Prop
def Rel.Ok {a b : Type} (r : Rel a b) : Prop := ∀ (m0 m1 m2 : Mp) (hs : Hs) (H0 H1 H2 : Hp) (x : a) (y : b), Lat m0 H0 m1 H1 → Lat m1 H1 m2 H2 → r H1 m2 hs H2 x y → r H0 m2 hs H2 x y
def relD (K : PySem.W.Frag) : Rel D V := fun _ mu _ H d v => RD K mu H d v
def relB : Rel Bool Bool := fun _ _ _ _ a b => a = b
def relA (K : PySem.W.Frag) : Rel (List D) (List V) := fun _ mu _ H d v => RDs K mu H d v
/-- a list just made -/
def relF (K : PySem.W.Frag) (mg : Str → Option Value) : Rel (List D) V := fun H0 mu hs H ds v => ∃ a vs, v = .ref a ∧ H a = some (.lst vs) ∧ a ∉ mu.l ∧ ¬ mu.fz a ∧ H0 a = none ∧ RDs K mu H ds vs
theorem relD_ok {K : PySem.W.Frag} : (relD K).Ok := fun _ _ _ _ _ _ _ _ _ _ _ h => h
theorem relB_ok : relB.Ok := fun _ _ _ _ _ _ _ _ _ _ _ h => h
theorem relA_ok {K : PySem.W.Frag} : (relA K).Ok := fun _ _ _ _ _ _ _ _ _ _ _ h => h
theorem relF_ok {K : PySem.W.Frag} {mg : Str → Option Value} : (relF K mg).Ok := fun m0 m1 m2 hs H0 H1 H2 ds v l l2 ⟨a, vs, e, h, n, nz, f, r⟩ =>
  ⟨a, vs, e, h, n, nz, l.back f fun z => n (l2.pre.subset (l.pre.subset z)), r⟩

/-- a result, begun at mu, H: what is wanted of it -/
def Gd {a b : Type} (r : Rel a b) (K : PySem.W.Frag) (mg : Str → Option Value) (Wd : WX) (σ : L2.St) (mu : Mp) (H : Hp) (Q : b → Hp → Prop) : R a → Prop
  | .ok x hs' => ∀ mu' H' y, Lat mu H mu' H' → Sim K mg mu' hs' H' → r H mu' hs' H' x y → Q y H'
  | .exc c fs hs' => ∀ mu' H' cls dx, Lat mu H mu' H' → Sim K mg mu' hs' H' → RX K mg mu' H' c fs cls dx → Wd cls dx σ H'
  | .bad => False
section
variable {a b a' b' : Type} {r : Rel a b} {r' : Rel a' b'} {K : PySem.W.Frag} {mg : Str → Option Value} {Wd : WX} {σ : L2.St} {mu mu1 : Mp} {H H1 : Hp}
theorem Gd.later (ok : r.Ok) (l : Lat mu H mu1 H1) {Q : b → Hp → Prop} {x : R a} (h : Gd r K mg Wd σ mu H Q x) : Gd r K mg Wd σ mu1 H1 Q x := by
  cases x with
  | ok x hs' => exact fun mu' H' y l' s' q => h mu' H' y (l.trans l') s' (ok _ _ _ _ _ _ _ _ _ l l' q)
  | exc c fs hs' => exact fun mu' H' cls dx l' s' q => h mu' H' cls dx (l.trans l') s' q
  | bad => exact h
theorem Gd.imp {Q Q' : b → Hp → Prop} {x : R a} (h : Gd r K mg Wd σ mu H Q x) (i : ∀ y H', Q y H' → Q' y H') : Gd r K mg Wd σ mu H Q' x := by
  cases x with
  | ok x hs' => exact fun mu' H' y l' s' q => i _ _ (h mu' H' y l' s' q)
  | exc c fs hs' => exact h
  | bad => exact h
/-- one behind the other -/
theorem Gd.bind (ok : r'.Ok) {Q : b' → Hp → Prop} {x : R a} {k : a → Hs → R a'} (h : Gd r' K mg Wd σ mu H Q (x.bind k)) :
    Gd r K mg Wd σ mu H (fun y H1 => ∃ mu1 hs1 x, Lat mu H mu1 H1 ∧ Sim K mg mu1 hs1 H1 ∧ r H mu1 hs1 H1 x y ∧ Gd r' K mg Wd σ mu1 H1 Q (k x hs1)) x := by
  cases x with
  | ok x hs' => exact fun mu' H' y l s q => ⟨mu', hs', x, l, s, q, Gd.later ok l h⟩
  | exc c fs hs' => exact h
  | bad => exact h
end

/-- the slots -/
structure RE (K : PySem.W.Frag) (mu : Mp) (H : Hp) (e : Ev) (σ : L2.St) : Prop where
  len : e.length = σ.length
  at_ : ∀ (i : Nat) (d : D), e[i]? = some (some d) → ∃ v, σ[i]? = some (some v) ∧ RD K mu H d v
theorem RE.agr {K : PySem.W.Frag} {mu mu' : Mp} {H H' : Hp} {e : Ev} {σ : L2.St} (l : Agr mu H mu' H') (h : RE K mu H e σ) : RE K mu' H' e σ :=
  ⟨h.len, fun i d q => let ⟨v, h1, h2⟩ := h.at_ i d q; ⟨v, h1, RD.agr l h2⟩⟩
theorem RE.set {K : PySem.W.Frag} {mu : Mp} {H : Hp} {e : Ev} {σ : L2.St} {d : D} {v : V} (h : RE K mu H e σ) (i : Nat) (r : RD K mu H d v) : RE K mu H (e.set i (some d)) (σ.set i (some v)) := by
  refine ⟨by rw [List.length_set, List.length_set]; exact h.len, fun j x q => ?_⟩
  by_cases hj : i = j
  · subst hj
    by_cases hi : i < e.length
    · rw [List.getElem?_set_self hi] at q
      cases q
      exact ⟨v, List.getElem?_set_self (by rw [← h.len]; exact hi), r⟩
    · rw [List.getElem?_eq_none (by simpa using hi)] at q; cases q
  · rw [List.getElem?_set_ne hj] at q
    rw [List.getElem?_set_ne hj]
    exact h.at_ j x q

/-- readings by our functions -/
def tG {a b : Type} (r : Rel a b) (K : PySem.W.Frag) (mg : Str → Option Value) (Wd : WX) (f : Ev → Hs → R a) : L2.St → Hp → (b → Hp → Prop) → Prop :=
  fun σ H Q => ∃ e mu hs, Sim K mg mu hs H ∧ RE K mu H e σ ∧ Gd r K mg Wd σ mu H Q (f e hs)

theorem PE.imp {X : Cx} {e : Expr} {t t' : TE} (h : PE X e t) (i : ∀ σ H Q, t' σ H Q → t σ H Q) : PE X e t' := ⟨fun pins s σ H Q I q => h.run pins s σ H Q I (i σ H Q q)⟩
theorem PT.imp {X : Cx} {e : Expr} {t t' : TT} (h : PT X e t) (i : ∀ σ H Q, t' σ H Q → t σ H Q) : PT X e t' := ⟨fun pins s σ H Q I q => h.run pins s σ H Q I (i σ H Q q)⟩
theorem PW.imp {X : Cx} {e : Expr} {t t' : TT} (h : PW X e t) (i : ∀ σ H Q, t' σ H Q → t σ H Q) : PW X e t' := ⟨fun wh pins s σ H Q I q => h.run wh pins s σ H Q I (i σ H Q q)⟩
theorem PA.imp {X : Cx} {e : List Expr} {t t' : TA} (h : PA X e t) (i : ∀ σ H Q, t' σ H Q → t σ H Q) : PA X e t' := ⟨fun pos pins s σ H Q I q => h.run pos pins s σ H Q I (i σ H Q q)⟩

/-- an expression; one whose list is new; a test; arguments -/
abbrev UE (X : Cx) (Wd : WX) (e : Expr) (f : FE) : Prop := PE X e (tG (relD X.K) X.K X.mg Wd f)
abbrev FL := Ev → Hs → R (List D)
abbrev UF (X : Cx) (Wd : WX) (e : Expr) (f : FL) : Prop := PE X e (tG (relF X.K X.mg) X.K X.mg Wd f)
abbrev UT (X : Cx) (Wd : WX) (e : Expr) (f : FT) : Prop := PT X e (tG relB X.K X.mg Wd f)
abbrev UW (X : Cx) (Wd : WX) (e : Expr) (f : FT) : Prop := PW X e (tG relB X.K X.mg Wd f)
abbrev UA (X : Cx) (Wd : WX) (es : List Expr) (f : FA) : Prop := PA X es (tG (relA X.K) X.K X.mg Wd f)

section
variable {X : Cx} {Wd : WX} {a b : Type} {r : Rel a b}
/-- from a reading of ours to the hand layer's, the first part run -/
theorem tG_seq {K : PySem.W.Frag} {mg : Str → Option Value} {a' b' : Type} {r' : Rel a' b'} (ok : r'.Ok) {f : Ev → Hs → R a} {k : Ev → a → Hs → R a'} {σ : L2.St} {H : Hp} {Q : b' → Hp → Prop}
    (h : tG r' K mg Wd (fun e hs => (f e hs).bind (k e)) σ H Q) :
    tG r K mg Wd f σ H (fun y H1 => ∃ e mu1 hs1 x, Sim K mg mu1 hs1 H1 ∧ RE K mu1 H1 e σ ∧ r H mu1 hs1 H1 x y ∧ Gd r' K mg Wd σ mu1 H1 Q (k e x hs1)) := by
  obtain ⟨e, mu, hs, S, E, g⟩ := h
  refine ⟨e, mu, hs, S, E, (Gd.bind (r := r) ok g).imp fun y H' ⟨mu1, hs1, x, l, s, q, g'⟩ => ⟨e, mu1, hs1, x, s, E.agr (l.agr S), q, g'⟩⟩

/-! ### names, constants -/
def eName (i : Nat) : FE := fun e hs => match e[i]? with
  | some (some d) => .ok d hs
  | _ => .bad
theorem ue_name (i : Nat) {x : Str} {pos : Pos} (hN : X.N[i]? = some x := by rfl) (hv : Vis X.env.scope x := by first | exact Or.inl rfl | exact Or.inr (Or.inl rfl) | exact Or.inr (Or.inr rfl)) (hd : (x == ("__debug__" : Str)) = false := by decide)
    (hcd : (x == ("__classdict__" : Str)) = false := by decide) : UE X Wd (.Name x pos) (eName i) := by
  refine PE.imp (pe_var hN hv hd hcd) fun σ H Q h => ?_
  obtain ⟨e, mu, hs, S, E, g⟩ := h
  unfold eName at g
  split at g
  · rename_i d q
    obtain ⟨v, h1, h2⟩ := E.at_ i d q
    exact ⟨v, h1, g mu H v .refl S h2⟩
  · exact g.elim
def eC (d : D) : FE := fun _ hs => .ok d hs
theorem uC {e : Expr} {v : V} {d : D} (h : PE X e (tC v)) (r : ∀ mu H, RD X.K mu H d v) : UE X Wd e (eC d) := by
  refine PE.imp h fun σ H Q h => ?_
  obtain ⟨e, mu, hs, S, E, g⟩ := h
  exact g mu H v .refl S (r mu H)
theorem ue_int {i : Int} {j : Nat} {pos : Pos} : UE X Wd (.Constant (.int i) j pos) (eC (.int i)) := uC pe_int fun _ _ => .int i
theorem ue_bl {i : Bool} {j : Nat} {pos : Pos} : UE X Wd (.Constant (.bool i) j pos) (eC (.bl i)) := uC pe_bl fun _ _ => .bl i
theorem ue_non {j : Nat} {pos : Pos} : UE X Wd (.Constant .none j pos) (eC .non) := uC pe_non fun _ _ => .non
theorem ue_str {i : Str} {j : Nat} {pos : Pos} : UE X Wd (.Constant (.str i) j pos) (eC (.str i)) := uC pe_str fun _ _ => .str i
/-! ### arguments -/
def aNil : FA := fun _ hs => .ok [] hs
def aCons (f : FE) (g : FA) : FA := fun e hs => (f e hs).bind fun d hs => (g e hs).bind fun ds hs => .ok (d :: ds) hs
theorem ua_nil : UA X Wd [] aNil := by
  refine PA.imp pa_nil fun σ H Q h => ?_
  obtain ⟨e, mu, hs, S, E, g⟩ := h
  exact g mu H [] .refl S .nil
theorem ua_cons {e : Expr} {es : List Expr} {f : FE} {g : FA} (ha : UE X Wd e f) (hr : UA X Wd es g) (hs : starEach (e :: es) X.env = (false, eval e X.env) :: starEach es X.env := by rfl) : UA X Wd (e :: es) (aCons f g) := by
  refine PA.imp (pa_cons ha hr hs) fun σ H Q h => ?_
  obtain ⟨e, mu, hs, S, E, q⟩ := tG_seq (r := relD X.K) relA_ok h
  refine ⟨e, mu, hs, S, E, q.imp fun x H1 ⟨e, mu1, hs1, d, S1, E1, r1, g1⟩ => ?_⟩
  refine ⟨e, mu1, hs1, S1, E1, (Gd.bind (r := relA X.K) relA_ok g1).imp fun xs H2 ⟨mu2, hs2, ds, l2, S2, r2, g2⟩ => ?_⟩
  exact g2 mu2 H2 _ .refl S2 (.cons (RD.agr (l2.agr S1) r1) r2)

/-! ### new lists -/
/-- as a value: it stands still from now on -/
def eV (f : FL) : FE := fun e hs => (f e hs).bind fun ds hs => .ok (.lst ds) hs
theorem ue_v {e : Expr} {f : FL} (h : UF X Wd e f) : UE X Wd e (eV f) := by
  refine PE.imp h fun σ H Q h => ?_
  obtain ⟨e, mu, hs, S, E, g⟩ := h
  refine ⟨e, mu, hs, S, E, ?_⟩
  unfold eV at g
  cases q : f e hs with
  | ok ds hs' =>
    rw [q] at g
    intro mu' H' y l s ⟨a, vs, h1, h2, h3, h4, h5, h6⟩
    subst h1
    refine g (mu'.still a) H' _ ⟨l.pre, fun b z => .inr (l.sub b z), fun b o hb nb => ?_, l.frz⟩ (s.still h2 h3) (.lst h2 (.inl rfl) (RDs.agr .still h6))
    have := l.ext b o hb nb
    exact ⟨this.1, this.2.1, fun z => z.elim (fun e => absurd e (ne_of_none hb h5)) this.2.2⟩
  | exc c fs hs' => rw [q] at g; exact g
  | bad => rw [q] at g; exact g
/-- as an object that may change: it is ours from now on -/
def eM (f : FL) : FE := fun e hs => (f e hs).bind fun ds hs => .ok (.ref hs.length) (hs ++ [.lst ds])
theorem ue_m {e : Expr} {f : FL} (h : UF X Wd e f) : UE X Wd e (eM f) := by
  refine PE.imp h fun σ H Q h => ?_
  obtain ⟨e, mu, hs, S, E, g⟩ := h
  refine ⟨e, mu, hs, S, E, ?_⟩
  unfold eM at g
  cases q : f e hs with
  | ok ds hs' =>
    rw [q] at g
    intro mu' H' y l s ⟨a, vs, h1, h2, h3, h4, h5, h6⟩
    subst h1
    refine g (mu'.own a) H' _ ⟨l.pre.trans (List.prefix_append _ _), l.sub, fun b o hb nb => ?_, l.frz⟩ (s.adopt h2 h3 h4 (.own h2) h6) (.ref (getElem?_own s.len))
    have := l.ext b o hb nb
    refine ⟨this.1, ?_, this.2.2⟩
    show b ∉ mu'.l ++ [a]
    simp only [List.mem_append, List.mem_singleton, not_or]
    exact ⟨this.2.1, ne_of_none hb h5⟩
  | exc c fs hs' => rw [q] at g; exact g
  | bad => rw [q] at g; exact g
/-- [a, b, ..] -/
theorem uf_lst {es : List Expr} {pos : Pos} {f : FA} (h : UA X Wd es f) (hz : es.length ≤ sizeLine) (hl : ∀ e hs ds hs', f e hs = .ok ds hs' → ds.length = es.length) : UF X Wd (.List es pos) f := by
  refine PE.imp (pe_lst h) fun σ H Q h => ?_
  obtain ⟨e, mu, hs, S, E, g⟩ := h
  refine ⟨e, mu, hs, S, E, ?_⟩
  cases q : f e hs with
  | ok ds hs' =>
    rw [q] at g
    intro mu' H' y l s r
    refine ⟨by rw [← RDs.length r, hl _ _ _ _ q]; exact hz, fun p hp => ?_⟩
    exact g mu' _ _ (l.trans (.new hp)) (s.new hp) ⟨p, y, rfl, upd_same, s.fresh hp, s.freshz hp, l.back hp fun z => s.fresh hp (l.pre.subset z), RDs.agr (Lat.agr (.new hp) s) r⟩
  | exc c fs hs' => rw [q] at g; exact g
  | bad => rw [q] at g; exact g
/-- (a, b, ..) -/
def eTup (f : FA) : FE := fun e hs => (f e hs).bind fun ds hs => .ok (.tup ds) hs
theorem ue_tup {es : List Expr} {k : Nat} {pos : Pos} {f : FA} (h : UA X Wd es f) (hz : es.length ≤ sizeLine) (hl : ∀ e hs ds hs', f e hs = .ok ds hs' → ds.length = es.length) : UE X Wd (.Tuple es k pos) (eTup f) := by
  refine PE.imp (pe_tup h) fun σ H Q h => ?_
  obtain ⟨e, mu, hs, S, E, g⟩ := h
  refine ⟨e, mu, hs, S, E, ?_⟩
  unfold eTup at g
  cases q : f e hs with
  | ok ds hs' =>
    rw [q] at g
    intro mu' H' y l s r
    refine ⟨by rw [← RDs.length r, hl _ _ _ _ q]; exact hz, fun p hp => ?_⟩
    exact g mu' _ _ (l.trans (.new hp)) (s.new hp) (.tup ⟨upd_same, s.fresh hp⟩ (RDs.agr (Lat.agr (.new hp) s) r))
  | exc c fs hs' => rw [q] at g; exact g
  | bad => rw [q] at g; exact g
/-- as many as are written -/
theorem len_nil : ∀ e hs ds hs', aNil e hs = .ok ds hs' → ds.length = 0 := fun e hs ds hs' h => by cases h; rfl
theorem len_cons {f : FE} {g : FA} {n : Nat} (h : ∀ e hs ds hs', g e hs = .ok ds hs' → ds.length = n) : ∀ e hs ds hs', aCons f g e hs = .ok ds hs' → ds.length = n + 1 := fun e hs ds hs' q => by
  unfold aCons at q
  cases q1 : f e hs with
  | ok d h1 =>
    rw [q1] at q
    rw [R.bind_ok] at q
    cases q2 : g e h1 with
    | ok es h2 =>
      rw [q2] at q
      cases q
      rw [List.length_cons, h _ _ _ _ q2]
    | exc c fs h2 => rw [q2] at q; cases q
    | bad => rw [q2] at q; cases q
  | exc c fs h2 => rw [q1] at q; cases q
  | bad => rw [q1] at q; cases q
end
/-! # G3: operators, comparisons, subscripts, truth -/
/-- a list's items, where it may be changed or is new; of any list that may be read; a tuple's -/
def lstOf (hs : Hs) : D → Option (List D)
  | .lst ds => some ds
  | .ref n => match hs[n]? with | some (.lst ds) => some ds | _ => none
  | _ => none
def rdOf (hs : Hs) : D → Option (List D)
  | .scr ds => some ds
  | d => lstOf hs d
def tupOf : D → Option (List D)
  | .tup ds => some ds
  | .ctp ds => some ds
  | _ => none
section
variable {K : PySem.W.Frag} {mg : Str → Option Value} {mu : Mp} {hs : Hs} {H : Hp} {d : D} {v : V} {ds : List D}
theorem lstOf_at (S : Sim K mg mu hs H) (r : RD K mu H d v) (e : lstOf hs d = some ds) : ∃ a vs, v = .ref a ∧ H a = some (.lst vs) ∧ RDs K mu H ds vs := by
  cases r with
  | lst q n r => cases e; exact ⟨_, _, rfl, q, r⟩
  | ref q =>
    unfold lstOf at e
    dsimp only at e
    split at e
    · rename_i ds' he
      cases e
      obtain ⟨u, h1, h2⟩ := S.at q he
      cases u <;> first | exact ⟨_, _, rfl, h1, h2⟩ | exact h2.elim
    · cases e
  | _ => cases e
theorem rdOf_at (S : Sim K mg mu hs H) (r : RD K mu H d v) (e : rdOf hs d = some ds) : ∃ a vs, v = .ref a ∧ SqL K H a vs ∧ RDs K mu H ds vs := by
  cases r with
  | scr q r => cases e; exact ⟨_, _, rfl, q.sq, r⟩
  | lst q n r => cases e; exact ⟨_, _, rfl, .of q, r⟩
  | ref q =>
    obtain ⟨a, vs, h1, h2, h3⟩ := lstOf_at (d := .ref _) S (.ref q) e
    exact ⟨a, vs, h1, .of h2, h3⟩
  | _ => cases e
theorem tupOf_at (r : RD K mu H d v) (e : tupOf d = some ds) : ∃ a vs, v = .ref a ∧ SqT K H a vs ∧ RDs K mu H ds vs := by
  cases r with
  | tup q r => cases e; exact ⟨_, _, rfl, q.sq, r⟩
  | ctp q r => cases e; exact ⟨_, _, rfl, sqT_c q, r⟩
  | _ => cases e
end

/-! ### by values -/
/-- an operator by values: our heap stays as it is -/
def rB (K : PySem.W.Frag) (mg : Str → Option Value) (g : Hs → D → D → Option D) : R2 := fun x y H Q => ∃ mu hs d e w, Sim K mg mu hs H ∧ RD K mu H d x ∧ RD K mu H e y ∧ g hs d e = some w ∧
  ∀ mu' H' v, Lat mu H mu' H' → Sim K mg mu' hs H' → RD K mu' H' w v → Q v H'
def rU1 (K : PySem.W.Frag) (mg : Str → Option Value) (g : Hs → D → Option D) : V → Hp → VK → Prop := fun x H Q => ∃ mu hs d w, Sim K mg mu hs H ∧ RD K mu H d x ∧ g hs d = some w ∧
  ∀ mu' H' v, Lat mu H mu' H' → Sim K mg mu' hs H' → RD K mu' H' w v → Q v H'
def R.ofO {a : Type} (o : Option a) (hs : Hs) : R a := match o with | some x => .ok x hs | none => .bad
def eBin (g : Hs → D → D → Option D) (f1 f2 : FE) : FE := fun e hs => (f1 e hs).bind fun x hs => (f2 e hs).bind fun y hs => R.ofO (g hs x y) hs
def eUn (g : Hs → D → Option D) (f1 : FE) : FE := fun e hs => (f1 e hs).bind fun x hs => R.ofO (g hs x) hs
section
variable {X : Cx} {Wd : WX} {a b : Expr} {f1 f2 : FE} {pos : Pos} {g : Hs → D → D → Option D} {g1 : Hs → D → Option D}
theorem tG_bin {K : PySem.W.Frag} {mg : Str → Option Value} {σ : L2.St} {H : Hp} {Q : VK} (h : tG (relD K) K mg Wd (eBin g f1 f2) σ H Q) :
    tOp (rB K mg g) (tG (relD K) K mg Wd f1) (tG (relD K) K mg Wd f2) σ H Q := by
  obtain ⟨e, mu, hs, S, E, q⟩ := tG_seq (r := relD K) relD_ok h
  refine ⟨e, mu, hs, S, E, q.imp fun x H1 ⟨e, mu1, hs1, d, S1, E1, r1, g1⟩ => ?_⟩
  refine ⟨e, mu1, hs1, S1, E1, (Gd.bind (r := relD K) relD_ok g1).imp fun y H2 ⟨mu2, hs2, d2, l2, S2, r2, g2⟩ => ?_⟩
  cases q : g hs2 d d2 with
  | none => rw [q] at g2; exact g2.elim
  | some w => rw [q] at g2; exact ⟨mu2, hs2, d, d2, w, S2, RD.agr (l2.agr S1) r1, r2, q, g2⟩
theorem tG_un {K : PySem.W.Frag} {mg : Str → Option Value} {σ : L2.St} {H : Hp} {Q : VK} (h : tG (relD K) K mg Wd (eUn g1 f1) σ H Q) :
    tG (relD K) K mg Wd f1 σ H (fun x H1 => rU1 K mg g1 x H1 Q) := by
  obtain ⟨e, mu, hs, S, E, q⟩ := tG_seq (r := relD K) relD_ok h
  refine ⟨e, mu, hs, S, E, q.imp fun x H1 ⟨e, mu1, hs1, d, S1, E1, r1, g2⟩ => ?_⟩
  cases q : g1 hs1 d with
  | none => rw [q] at g2; exact g2.elim
  | some w => rw [q] at g2; exact ⟨mu1, hs1, d, w, S1, r1, q, g2⟩
theorem ue_bin {op : Operator} (ho : OpR X (binaryOp op) (rB X.K X.mg g)) (ha : UE X Wd a f1) (hb : UE X Wd b f2) : UE X Wd (.BinOp a op b pos) (eBin g f1 f2) := PE.imp (pe_op ho ha hb) fun _ _ _ h => tG_bin h
theorem ue_cmp {op : CmpOp} (ho : OpR X (compareOp op) (rB X.K X.mg g)) (ha : UE X Wd a f1) (hb : UE X Wd b f2) (hm : behindInMarks op b = false := by first | exact nomark _ | rfl) : UE X Wd (.Compare a [op] [b] pos) (eBin g f1 f2) := PE.imp (pe_cmpR ho ha hb hm) fun _ _ _ h => tG_bin h
/-- a value that is a bool, as a test -/
def eB (f : FE) : FT := fun e hs => (f e hs).bind fun d hs => match d with | .bl b => .ok b hs | _ => .bad
theorem tG_bool {K : PySem.W.Frag} {mg : Str → Option Value} {σ : L2.St} {H : Hp} {f : FE} {Q : Bool → Hp → Prop} (h : tG relB K mg Wd (eB f) σ H Q) : tG (relD K) K mg Wd f σ H (fun x H1 => ∃ k, x = .bl k ∧ Q k H1) := by
  obtain ⟨e, mu, hs, S, E, q⟩ := tG_seq (r := relD K) relB_ok h
  refine ⟨e, mu, hs, S, E, q.imp fun x H1 ⟨e, mu1, hs1, d, S1, E1, r1, g2⟩ => ?_⟩
  cases r1 <;> first | exact ⟨_, rfl, g2 mu1 H1 _ .refl S1 rfl⟩ | exact g2.elim
theorem ut_cmp {op : CmpOp} (ho : OpR X (compareOp op) (rB X.K X.mg g)) (ha : UE X Wd a f1) (hb : UE X Wd b f2) (hm : behindInMarks op b = false := by first | exact nomark _ | rfl) : UT X Wd (.Compare a [op] [b] pos) (eB (eBin g f1 f2)) :=
  PT.imp (pt_cmpR ho ha hb hm) fun σ H Q h => tG_bin_t h
where tG_bin_t {σ : L2.St} {H : Hp} {Q : Bool → Hp → Prop} (h : tG relB X.K X.mg Wd (eB (eBin g f1 f2)) σ H Q) : tTest (tOp (rB X.K X.mg g) (tG (relD X.K) X.K X.mg Wd f1) (tG (relD X.K) X.K X.mg Wd f2)) σ H Q := tG_bin (tG_bool h)
/-- a < b < c -/
def eChain (g g' : Hs → D → D → Option D) (f1 f2 f3 : FE) : FE := fun e hs => (f1 e hs).bind fun x hs => (f2 e hs).bind fun y hs => (R.ofO (g hs x y) hs).bind fun k hs => match k with
  | .bl true => (f3 e hs).bind fun z hs => R.ofO (g' hs y z) hs
  | .bl false => .ok (.bl false) hs
  | _ => .bad
/-! ### truth, and, or, not -/
def tru (hs : Hs) : D → Option Bool
  | .non => some false
  | .bl b => some b
  | .int i => some (i != 0)
  | .str s => if s.length ≤ sizeLine then some ((s.length : Int) != 0) else none
  | .tup ds => some (!ds.isEmpty)
  | .ctp ds => some (!ds.isEmpty)
  | .dct ks ds => some (!(ks.zip ds).isEmpty)
  | .dtp _ _ => none
  | .dlk _ _ => none
  | .dlt _ _ => none
  | .ins _ _ _ => none
  | .glb _ => none
  | .exn _ _ _ => none
  | .ref n => (match hs[n]? with | some (.lst ds) => some (!ds.isEmpty) | some (.dk kvs) => some (!kvs.isEmpty) | _ => none)
  | d => (rdOf hs d).map fun ds => !ds.isEmpty
def eT (f : FE) : FT := fun e hs => (f e hs).bind fun d hs => R.ofO (tru hs d) hs
theorem isEmpty_of {K : PySem.W.Frag} {mu : Mp} {H : Hp} {ds : List D} {vs : List V} (r : RDs K mu H ds vs) : ds.isEmpty = vs.isEmpty := by cases r <;> rfl
theorem isEmpty_zip {K : PySem.W.Frag} {mu : Mp} {H : Hp} {ds : List D} {vs : List V} (r : RDs K mu H ds vs) {ks : List Key} : (ks.zip ds).isEmpty = (ks.zip vs).isEmpty := by
  cases r <;> cases ks <;> rfl
theorem ut_truth (ha : UE X Wd a f1) (he : ∀ whole, isTrue a X.env whole = (do let v ← whole; standAt a.pos; holding [v] (truthy v)) := by intro _; rfl) : UT X Wd a (eT f1) := by
  refine PT.imp (pt_truth ha he) fun σ H Q h => ?_
  obtain ⟨e, mu, hs, S, E, q⟩ := tG_seq (r := relD X.K) relB_ok h
  refine ⟨e, mu, hs, S, E, q.imp fun x H1 ⟨e, mu1, hs1, d, S1, E1, r1, g2⟩ => ?_⟩
  cases q : tru hs1 d with
  | none => rw [q] at g2; exact g2.elim
  | some k =>
    rw [q] at g2
    refine ⟨k, ?_, g2 mu1 H1 k .refl S1 rfl⟩
    cases r1 with
    | non => cases q; rfl
    | bl b => cases q; rfl
    | int i => cases q; rfl
    | str s =>
      unfold tru at q
      dsimp only at q
      split at q
      · cases q; exact ⟨by assumption, rfl⟩
      · cases q
    | tup h r => cases q; exact .inr (.inl ⟨_, h.sq, by rw [isEmpty_of r]⟩)
    | lst h n r => cases q; exact .inl ⟨_, .of h, by show (!List.isEmpty _) = _; rw [isEmpty_of r]⟩
    | scr h r => cases q; exact .inl ⟨_, h.sq, by show (!List.isEmpty _) = _; rw [isEmpty_of r]⟩
    | ref h =>
      unfold tru at q
      dsimp only at q
      split at q
      · rename_i ds hd
        cases q
        obtain ⟨u, e2, e3⟩ := S1.at h hd
        cases u with
        | lst vs => exact .inl ⟨vs, .of e2, by rw [isEmpty_of (show RDs _ _ _ ds vs from e3)]⟩
        | _ => exact e3.elim
      · rename_i kvs hd
        cases q
        obtain ⟨u, e2, e3⟩ := S1.at h hd
        cases u with
        | dK vs =>
          refine .inr (.inr ⟨vs, e2, ?_⟩)
          cases (show RKs _ _ _ kvs vs from e3) <;> rfl
        | _ => exact e3.elim
      · cases q
    | ty t => cases q
    | dtp _ _ _ _ => cases q
    | ins _ _ _ _ _ => cases q
    | glb _ => cases q
    | dlk _ _ _ => cases q
    | dlt _ _ _ => cases q
    | exn0 _ _ => cases q
    | exnd _ _ _ _ _ => cases q
    | ctp h r => cases q; exact .inr (.inl ⟨_, sqT_c h, by rw [isEmpty_of r]⟩)
    | dct h n z r =>
      cases q
      refine .inr (.inr ⟨_, h, ?_⟩)
      show (!List.isEmpty _) = !List.isEmpty _
      congr 1
      exact isEmpty_zip r
def tAndF (f g : FT) : FT := fun e hs => (f e hs).bind fun c hs => if c = true then g e hs else .ok false hs
def tOrF (f g : FT) : FT := fun e hs => (f e hs).bind fun c hs => if c = true then .ok true hs else g e hs
def tNotF (f : FT) : FT := fun e hs => (f e hs).bind fun c hs => .ok (!c) hs
variable {t1 t2 : FT} {rest : List Expr}
theorem uw_and1 (ha : UT X Wd a t1) : UW X Wd (.BoolOp .And [a] pos) t1 := pw_and1 ha
theorem uw_or1 (ha : UT X Wd a t1) : UW X Wd (.BoolOp .Or [a] pos) t1 := pw_or1 ha
theorem uw_and (ha : UT X Wd a t1) (hb : UW X Wd (.BoolOp .And (b :: rest) pos) t2) : UW X Wd (.BoolOp .And (a :: b :: rest) pos) (tAndF t1 t2) := by
  refine PW.imp (pw_and ha hb) fun σ H Q h => ?_
  obtain ⟨e, mu, hs, S, E, q⟩ := tG_seq (r := relB) relB_ok h
  refine ⟨e, mu, hs, S, E, q.imp fun c H1 ⟨e, mu1, hs1, d, S1, E1, r1, g2⟩ => ?_⟩
  have r1 : d = c := r1
  subst r1
  cases d with
  | true => rw [if_pos rfl] at g2 ⊢; exact ⟨e, mu1, hs1, S1, E1, g2⟩
  | false => rw [if_neg Bool.false_ne_true] at g2 ⊢; exact g2 mu1 H1 _ .refl S1 rfl
theorem uw_or (ha : UT X Wd a t1) (hb : UW X Wd (.BoolOp .Or (b :: rest) pos) t2) : UW X Wd (.BoolOp .Or (a :: b :: rest) pos) (tOrF t1 t2) := by
  refine PW.imp (pw_or ha hb) fun σ H Q h => ?_
  obtain ⟨e, mu, hs, S, E, q⟩ := tG_seq (r := relB) relB_ok h
  refine ⟨e, mu, hs, S, E, q.imp fun c H1 ⟨e, mu1, hs1, d, S1, E1, r1, g2⟩ => ?_⟩
  have r1 : d = c := r1
  subst r1
  cases d with
  | true => rw [if_pos rfl] at g2 ⊢; exact g2 mu1 H1 _ .refl S1 rfl
  | false => rw [if_neg Bool.false_ne_true] at g2 ⊢; exact ⟨e, mu1, hs1, S1, E1, g2⟩
theorem ut_w {e : Expr} (h : UW X Wd e t1) : UT X Wd e t1 := PW.pt h
theorem ut_not (ha : UT X Wd a t1) : UT X Wd (.UnaryOp .Not a pos) (tNotF t1) := by
  refine PT.imp (pt_not ha) fun σ H Q h => ?_
  obtain ⟨e, mu, hs, S, E, q⟩ := tG_seq (r := relB) relB_ok h
  refine ⟨e, mu, hs, S, E, q.imp fun c H1 ⟨e, mu1, hs1, d, S1, E1, r1, g2⟩ => ?_⟩
  have r1 : d = c := r1
  subst r1
  exact g2 mu1 H1 _ .refl S1 rfl
/-- .. as values (bools) -/
def eAnd (f g : FE) : FE := fun e hs => (f e hs).bind fun d hs => match d with | .bl true => g e hs | .bl false => .ok (.bl false) hs | _ => .bad
def eOr (f g : FE) : FE := fun e hs => (f e hs).bind fun d hs => match d with | .bl true => .ok (.bl true) hs | .bl false => g e hs | _ => .bad
def eNot (f : FE) : FE := fun e hs => (f e hs).bind fun d hs => match d with | .bl b => .ok (.bl (!b)) hs | _ => .bad
theorem ue_one {op : BoolOp} (ha : UE X Wd a f1) : UE X Wd (.BoolOp op [a] pos) f1 := pe_one ha
theorem ue_and (ha : UE X Wd a f1) (hb : UE X Wd (.BoolOp .And (b :: rest) pos) f2) : UE X Wd (.BoolOp .And (a :: b :: rest) pos) (eAnd f1 f2) := by
  refine PE.imp (pe_and ha hb) fun σ H Q h => ?_
  obtain ⟨e, mu, hs, S, E, q⟩ := tG_seq (r := relD X.K) relD_ok h
  refine ⟨e, mu, hs, S, E, q.imp fun c H1 ⟨e, mu1, hs1, d, S1, E1, r1, g2⟩ => ?_⟩
  cases r1 with
  | bl k =>
    refine ⟨k, rfl, ?_⟩
    cases k with
    | true => rw [if_pos rfl]; exact ⟨e, mu1, hs1, S1, E1, g2⟩
    | false => rw [if_neg Bool.false_ne_true]; exact g2 mu1 H1 _ .refl S1 (.bl false)
  | _ => exact g2.elim
def eIf (t : FT) (f g : FE) : FE := fun e hs => (t e hs).bind fun c hs => if c = true then f e hs else g e hs
end
/-! # G4: the operators one by one -/
section
variable {K : PySem.W.Frag} {mg : Str → Option Value} {mu : Mp} {hs : Hs} {H : Hp} {Q : VK} {w : D}
theorem fin0 {v : V} (S : Sim K mg mu hs H) (q : ∀ mu' H' v, Lat mu H mu' H' → Sim K mg mu' hs H' → RD K mu' H' w v → Q v H') (r : RD K mu H w v) : Q v H := q mu H v .refl S r
theorem finL {p : Addr} {vs : List V} {ds : List D} (S : Sim K mg mu hs H) (q : ∀ mu' H' v, Lat mu H mu' H' → Sim K mg mu' hs H' → RD K mu' H' (.lst ds) v → Q v H') (hp : H p = none) (r : RDs K mu H ds vs) : Q (.ref p) (upd H p (.lst vs)) :=
  q (mu.still p) _ _ (.newStill hp) (S.newStill hp) (.lst upd_same (.inl rfl) (RDs.agr (Lat.agr (.newStill hp) S) r))
theorem finT {p : Addr} {vs : List V} {ds : List D} (S : Sim K mg mu hs H) (q : ∀ mu' H' v, Lat mu H mu' H' → Sim K mg mu' hs H' → RD K mu' H' (.tup ds) v → Q v H') (hp : H p = none) (r : RDs K mu H ds vs) : Q (.ref p) (upd H p (.tup vs)) :=
  q mu _ _ (.new hp) (S.new hp) (.tup ⟨upd_same, S.fresh hp⟩ (RDs.agr (Lat.agr (.new hp) S) r))
end

section
variable {X : Cx}
/-! ### arithmetic -/
def gAddL (hs : Hs) (d e : D) : Option D := match lstOf hs d with
  | some xs => match lstOf hs e with
    | some ys => if xs.length + ys.length ≤ sizeLine then some (.lst (xs ++ ys)) else none
    | none => none
  | none => none
/-- a truth as a number -/
def bI (b : Bool) : Int := if b = true then 1 else 0
def gAdd (hs : Hs) (d e : D) : Option D := match d with
  | .int i => match e with | .int j => some (.int (i + j)) | .bl q => some (.int (i + bI q)) | _ => none
  | .bl p => match e with | .int j => some (.int (bI p + j)) | _ => none
  | .str x => match e with | .str y => if x.length + y.length ≤ sizeLine then some (.str (x ++ y)) else none | _ => none
  | .tup xs => match e with | .tup ys => if xs.length + ys.length ≤ sizeLine then some (.tup (xs ++ ys)) else none | _ => none
  | d => gAddL hs d e
theorem og_add_lst {op : OpR X (binaryOp .Add) rCat} {pins : List (Addr × Obj)} {s : Shared} {σ : L2.St} {H : Hp} {x y : V} {v u : Value} {Q : VK} (I : Inv X pins σ H s) (rx : RelV x v) (ry : RelV y u) {mu : Mp} {hs : Hs} {d e w : D}
    (S : Sim X.K X.mg mu hs H) (r1 : RD X.K mu H d x) (r2 : RD X.K mu H e y) (hg : gAddL hs d e = some w) (q : ∀ mu' H' v, Lat mu H mu' H' → Sim X.K X.mg mu' hs H' → RD X.K mu' H' w v → Q v H') : wpAny (model X.prog X.w) X.A (binaryOp .Add v u) (EP X pins σ Q) X.xe s := by
  unfold gAddL at hg
  split at hg
  · rename_i xs hx
    split at hg
    · rename_i ys hy
      split at hg
      · rename_i hz
        cases hg
        obtain ⟨a, vs, rfl, ha, ra⟩ := lstOf_at S r1 hx
        obtain ⟨b, us, rfl, hb, rb⟩ := lstOf_at S r2 hy
        exact op pins s σ H _ _ v u Q I rx ry ⟨a, b, vs, us, rfl, rfl, ha, hb, by rw [← ra.length, ← rb.length]; exact hz, fun p hp => finL S q hp (ra.append rb)⟩
      · cases hg
    · cases hg
  · cases hg
theorem og_add : OpR X (binaryOp .Add) (rB X.K X.mg gAdd) := by
  rintro pins s σ H x y v u Q I rx ry ⟨mu, hs, d, e, w, S, r1, r2, hg, q⟩
  cases d with
  | int i =>
    unfold gAdd at hg; dsimp only at hg
    split at hg
    · cases hg; cases r1; cases r2
      exact op_add pins s σ H _ _ v u Q I rx ry ⟨_, _, rfl, rfl, fin0 S q (.int _)⟩
    · cases hg; cases r1; cases r2
      obtain ⟨t, rfl⟩ := rx
      cases ry
      exact add_int_bool ⟨.int _, H, I.tok _, ⟨_, rfl⟩, fin0 S q (.int _)⟩
    · cases hg
  | bl p =>
    unfold gAdd at hg; dsimp only at hg
    split at hg
    · cases hg; cases r1; cases r2
      obtain ⟨t, rfl⟩ := ry
      cases rx
      exact PySem.IntBool.add_bool_int ⟨.int _, H, I.tok _, ⟨_, rfl⟩, fin0 S q (.int _)⟩
    · cases hg
  | str a =>
    unfold gAdd at hg; dsimp only at hg
    split at hg
    · split at hg
      · rename_i hz; cases hg; cases r1; cases r2
        exact op_add_str pins s σ H _ _ v u Q I rx ry ⟨_, _, rfl, rfl, hz, fin0 S q (.str _)⟩
      · cases hg
    · cases hg
  | tup xs =>
    unfold gAdd at hg; dsimp only at hg
    split at hg
    · rename_i ys
      split at hg
      · rename_i hz
        cases hg
        obtain ⟨a, vs, rfl, ha, ra⟩ := tupOf_at r1 rfl
        obtain ⟨b, us, rfl, hb, rb⟩ := tupOf_at r2 rfl
        refine op_catA pins s σ H _ _ v u Q I rx ry ⟨a, b, vs, us, rfl, rfl, ha, hb, by rw [← ra.length, ← rb.length]; exact hz, fun e => ?_, fun _ e => ?_, fun _ _ p hp => finT S q hp (ra.append rb)⟩
        · subst e; cases ra; exact fin0 S q (by simpa using r2)
        · subst e; cases rb; exact fin0 S q (by simpa using r1)
      · cases hg
    · cases hg
  | lst ds => exact og_add_lst (op := op_cat) I rx ry S r1 r2 hg q
  | ref n => exact og_add_lst (op := op_cat) I rx ry S r1 r2 hg q
  | _ => cases hg
def gSub (hs : Hs) (d e : D) : Option D := match d with
  | .int i => (match e with | .int j => some (.int (i - j)) | .bl q => some (.int (i - bI q)) | _ => none)
  | .bl p => (match e with | .int j => some (.int (bI p - j)) | _ => none)
  | _ => none
theorem og_sub : OpR X (binaryOp .Sub) (rB X.K X.mg gSub) := by
  rintro pins s σ H x y v u Q I rx ry ⟨mu, hs, d, e, w, S, r1, r2, hg, q⟩
  unfold gSub at hg
  split at hg
  · split at hg
    · cases hg; cases r1; cases r2
      exact op_sub pins s σ H _ _ v u Q I rx ry ⟨_, _, rfl, rfl, fin0 S q (.int _)⟩
    · cases hg; cases r1; cases r2
      obtain ⟨t, rfl⟩ := rx
      cases ry
      exact PySem.IntBool.sub_int_bool ⟨.int _, H, I.tok _, ⟨_, rfl⟩, fin0 S q (.int _)⟩
    · cases hg
  · split at hg
    · cases hg; cases r1; cases r2
      obtain ⟨t, rfl⟩ := ry
      cases rx
      exact PySem.IntBool.sub_bool_int ⟨.int _, H, I.tok _, ⟨_, rfl⟩, fin0 S q (.int _)⟩
    · cases hg
  · cases hg
def small64 (i : Int) : Bool := decide (-18446744073709551616 < i) && decide (i < 18446744073709551616)
theorem small64_ok {i : Int} (h : small64 i = true) : -(2 ^ 64) < i ∧ i < 2 ^ 64 := by
  unfold small64 at h
  simp only [Bool.and_eq_true, decide_eq_true_eq] at h
  exact ⟨by have := h.1; omega, by have := h.2; omega⟩
def gMulL (hs : Hs) (d e : D) : Option D := match lstOf hs d with
  | some xs => (match e with | .int k => if 0 ≤ k ∧ k ≤ 4000 ∧ xs.length ≤ 4000 then some (.lst (List.replicate k.toNat xs).flatten) else none | _ => none)
  | none => none
def gMul (hs : Hs) (d e : D) : Option D := match d with
  | .int i => (match e with | .int j => if (small64 i || small64 j) = true then some (.int (i * j)) else none | _ => none)
  | .str x => (match e with | .int n => if 0 ≤ n ∧ n ≤ 5000 ∧ x.length ≤ 3000 then some (.str (Txt.mul x n)) else none | _ => none)
  | d => gMulL hs d e
theorem rep_rds {K : PySem.W.Frag} {mu : Mp} {H : Hp} {ds : List D} {vs : List V} (r : RDs K mu H ds vs) : ∀ n : Nat, RDs K mu H (List.replicate n ds).flatten (List.replicate n vs).flatten
  | 0 => .nil
  | n + 1 => by rw [List.replicate_succ, List.replicate_succ, List.flatten_cons, List.flatten_cons]; exact r.append (rep_rds r n)
theorem mulOk_of {x : Str} {n : Int} (h1 : 0 ≤ n) (h2 : n ≤ 5000) (h3 : x.length ≤ 3000) : MulOk x n := by
  refine ⟨?_, fun hn _ => ?_, fun _ _ => ?_⟩
  · rw [decide_eq_false (by omega), decide_eq_false (by omega)]; rfl
  · have : (2 ^ 63 - 1 : Int) / n ≥ (2 ^ 63 - 1 : Int) / 5000 := by
      apply Int.le_ediv_of_mul_le (by omega)
      have : (2 ^ 63 - 1 : Int) / 5000 * n ≤ (2 ^ 63 - 1 : Int) / 5000 * 5000 := Int.mul_le_mul_of_nonneg_left h2 (by decide)
      omega
    omega
  · unfold Builtin.Str.tooLong
    have h4 : x.length * n.toNat ≤ 3000 * 5000 := Nat.mul_le_mul h3 (by omega)
    have hs : sizeLine = 16777216 := sizeLine_eq
    simp only [decide_eq_false_iff_not]
    omega
theorem og_mul_lst {pins : List (Addr × Obj)} {s : Shared} {σ : L2.St} {H : Hp} {x y : V} {v u : Value} {Q : VK} (I : Inv X pins σ H s) (rx : RelV x v) (ry : RelV y u) {mu : Mp} {hs : Hs} {d e w : D}
    (S : Sim X.K X.mg mu hs H) (r1 : RD X.K mu H d x) (r2 : RD X.K mu H e y) (hg : gMulL hs d e = some w) (q : ∀ mu' H' v, Lat mu H mu' H' → Sim X.K X.mg mu' hs H' → RD X.K mu' H' w v → Q v H') : wpAny (model X.prog X.w) X.A (binaryOp .Mult v u) (EP X pins σ Q) X.xe s := by
  unfold gMulL at hg
  split at hg
  · rename_i xs hx
    split at hg
    · rename_i k
      split at hg
      · rename_i hz
        cases hg
        obtain ⟨a, vs, rfl, ha, ra⟩ := lstOf_at S r1 hx
        cases r2
        have hlen := ra.length
        refine op_rep pins s σ H _ _ v u Q I rx ry ⟨a, k, vs, rfl, rfl, ha, by omega, by omega, ?_, fun p hp => finL S q hp (rep_rds ra _)⟩
        have h4 : vs.length * k.toNat ≤ 4000 * 4000 := Nat.mul_le_mul (by omega) (by omega)
        have hs : sizeLine = 16777216 := sizeLine_eq
        omega
      · cases hg
    · cases hg
  · cases hg
theorem og_mul : OpR X (binaryOp .Mult) (rB X.K X.mg gMul) := by
  rintro pins s σ H x y v u Q I rx ry ⟨mu, hs, d, e, w, S, r1, r2, hg, q⟩
  cases d with
  | int i =>
    unfold gMul at hg; dsimp only at hg
    split at hg
    · split at hg
      · rename_i hz
        cases hg; cases r1; cases r2
        simp only [Bool.or_eq_true] at hz
        exact op_mul pins s σ H _ _ v u Q I rx ry ⟨_, _, rfl, rfl, hz.elim (fun z => .inl (small64_ok z)) (fun z => .inr (small64_ok z)), fin0 S q (.int _)⟩
      · cases hg
    · cases hg
  | str z =>
    unfold gMul at hg; dsimp only at hg
    split at hg
    · split at hg
      · rename_i n hz
        cases hg; cases r1; cases r2
        obtain ⟨t, rfl⟩ := rx
        obtain ⟨t', rfl⟩ := ry
        exact SB.mul (mulOk_of hz.1 hz.2.1 hz.2.2) fun t2 k => ⟨.str _, H, I.tok _, ⟨_, rfl⟩, fin0 S q (.str _)⟩
      · cases hg
    · cases hg
  | lst ds => exact og_mul_lst I rx ry S r1 r2 hg q
  | ref n => exact og_mul_lst I rx ry S r1 r2 hg q
  | _ => cases hg
def gDiv (hs : Hs) (d e : D) : Option D := match d with | .int i => (match e with | .int j => if 0 < j ∧ j < 1073741824 then some (.int (i / j)) else none | _ => none) | _ => none
theorem og_div : OpR X (binaryOp .FloorDiv) (rB X.K X.mg gDiv) := by
  rintro pins s σ H x y v u Q I rx ry ⟨mu, hs, d, e, w, S, r1, r2, hg, q⟩
  unfold gDiv at hg
  split at hg
  · split at hg
    · split at hg
      · rename_i hz; cases hg; cases r1; cases r2
        exact op_fdiv pins s σ H _ _ v u Q I rx ry ⟨_, _, rfl, rfl, hz, fin0 S q (.int _)⟩
      · cases hg
    · cases hg
  · cases hg
def gMod (hs : Hs) (d e : D) : Option D := match d with | .int i => (match e with | .int j => if 0 < j then some (.int (i % j)) else none | _ => none) | _ => none
theorem og_mod : OpR X (binaryOp .Mod) (rB X.K X.mg gMod) := by
  rintro pins s σ H x y v u Q I rx ry ⟨mu, hs, d, e, w, S, r1, r2, hg, q⟩
  unfold gMod at hg
  split at hg
  · split at hg
    · split at hg
      · rename_i hz; cases hg; cases r1; cases r2
        exact op_mod pins s σ H _ _ v u Q I rx ry ⟨_, _, rfl, rfl, hz, fin0 S q (.int _)⟩
      · cases hg
    · cases hg
  · cases hg
def gPow (hs : Hs) (d e : D) : Option D := match d with | .int i => (match e with | .int j => if 0 ≤ j ∧ j ≤ 1000 ∧ i.natAbs < 2 ^ 64 then some (.int (i ^ j.toNat)) else none | _ => none) | _ => none
theorem og_pow : OpR X (binaryOp .Pow) (rB X.K X.mg gPow) := by
  rintro pins s σ H x y v u Q I rx ry ⟨mu, hs, d, e, w, S, r1, r2, hg, q⟩
  unfold gPow at hg
  split at hg
  · split at hg
    · split at hg
      · rename_i hz; cases hg; cases r1; cases r2
        exact op_pow pins s σ H _ _ v u Q I rx ry ⟨_, _, rfl, rfl, ⟨hz.1, by omega, hz.2.2⟩, fin0 S q (.int _)⟩
      · cases hg
    · cases hg
  · cases hg
/-- -a -/
def gNeg (hs : Hs) (d : D) : Option D := match d with | .int i => some (.int (-i)) | _ => none
theorem ue_neg {Wd : WX} {a : Expr} {f : FE} {pos : Pos} (ha : UE X Wd a f) : UE X Wd (.UnaryOp .USub a pos) (eUn gNeg f) := by
  refine PE.imp (pe_un un_neg ha) fun σ H Q h => ?_
  obtain ⟨e, mu, hs, S, E, q⟩ := tG_un h
  refine ⟨e, mu, hs, S, E, q.imp fun x H1 ⟨mu, hs, d, w, S, r, hg, q⟩ => ?_⟩
  unfold gNeg at hg
  split at hg
  · cases hg; cases r; exact ⟨_, rfl, fin0 S q (.int _)⟩
  · cases hg

/-! ### data -/
mutual
def pdW (r : Nat → Option PyData) : D → Option PyData
  | .non => some .none
  | .bl b => some (.bool b)
  | .int i => some (.int i)
  | .str s => some (.str s)
  | .tup ds => (pdWs r ds).map .tuple
  | .lst ds => (pdWs r ds).map .list
  | .scr ds => (pdWs r ds).map .list
  | .ref n => r n
  | .ty _ => none
  | .ctp ds => (pdWs r ds).map .tuple
  | .dct _ _ => none
  | .dtp _ _ => none
  | .dlk _ _ => none
  | .dlt _ _ => none
  | .ins _ _ _ => none
  | .glb _ => none
  | .exn _ _ _ => none
def pdWs (r : Nat → Option PyData) : List D → Option (List PyData)
  | [] => some []
  | d :: ds => match pdW r d with
    | some p => match pdWs r ds with | some ps => some (p :: ps) | none => none
    | none => none
end
/-- the lists of the heap, so deep -/
def pdH (hs : Hs) : Nat → Nat → Option PyData
  | 0, _ => none
  | k + 1, n => match hs[n]? with
    | some (.lst ds) => (pdWs (pdH hs k) ds).map .list
    | _ => none
def pd (hs : Hs) (d : D) : Option PyData := pdW (pdH hs 40) d
section
variable {K : PySem.W.Frag} {mg : Str → Option Value} {mu : Mp} {hs : Hs} {H : Hp}
mutual
theorem pdW_dp {r : Nat → Option PyData} (hr : ∀ n a p, mu.l[n]? = some a → r n = some p → Dp K H (.ref a) p) : ∀ (d : D) (v : V) (p : PyData), RD K mu H d v → pdW r d = some p → Dp K H v p
  | .non, _, _, h, e => by cases h; cases e; exact .non
  | .bl b, _, _, h, e => by cases h; cases e; exact .bl b
  | .int i, _, _, h, e => by cases h; cases e; exact .int i
  | .str s, _, _, h, e => by cases h; cases e; exact .str s
  | .tup ds, _, _, h, e => by
    cases h with
    | tup q r =>
      obtain ⟨ps, h1, h2⟩ := Option.map_eq_some_iff.mp (show (pdWs _ ds).map PyData.tuple = some _ from e)
      subst h2
      exact .tup q.sq (pdWs_dp hr ds _ ps r h1)
  | .lst ds, _, _, h, e => by
    cases h with
    | lst q n r =>
      obtain ⟨ps, h1, h2⟩ := Option.map_eq_some_iff.mp (show (pdWs _ ds).map PyData.list = some _ from e)
      subst h2
      exact .lst (.of q) (pdWs_dp hr ds _ ps r h1)
  | .ty _, _, _, _, e => nomatch e
  | .ctp ds, _, _, h, e => by
    cases h with
    | ctp q r =>
      obtain ⟨ps, h1, h2⟩ := Option.map_eq_some_iff.mp (show (pdWs _ ds).map PyData.tuple = some _ from e)
      subst h2
      exact .tup (sqT_c q) (pdWs_dp hr ds _ ps r h1)
  | .dct _ _, _, _, _, e => nomatch e
  | .dtp _ _, _, _, _, e => nomatch e
  | .dlk _ _, _, _, _, e => nomatch e
  | .dlt _ _, _, _, _, e => nomatch e
  | .ins _ _ _, _, _, _, e => nomatch e
  | .glb _, _, _, _, e => nomatch e
  | .exn _ _ _, _, _, _, e => nomatch e
  | .scr ds, _, _, h, e => by
    cases h with
    | scr q r =>
      obtain ⟨ps, h1, h2⟩ := Option.map_eq_some_iff.mp (show (pdWs _ ds).map PyData.list = some _ from e)
      subst h2
      exact .lst q.sq (pdWs_dp hr ds _ ps r h1)
  | .ref n, _, _, h, e => by cases h with | ref q => exact hr _ _ _ q e
theorem pdWs_dp {r : Nat → Option PyData} (hr : ∀ n a p, mu.l[n]? = some a → r n = some p → Dp K H (.ref a) p) : ∀ (ds : List D) (vs : List V) (ps : List PyData), RDs K mu H ds vs → pdWs r ds = some ps → DpAll K H vs ps
  | [], _, _, h, e => by cases h; cases e; exact .nil
  | d :: ds, _, _, h, e => by
    cases h with
    | cons r1 r2 =>
      unfold pdWs at e
      split at e
      · rename_i p hp
        split at e
        · rename_i ps hps
          cases e
          exact .cons (pdW_dp hr d _ p r1 hp) (pdWs_dp hr ds _ ps r2 hps)
        · cases e
      · cases e
end
theorem pdH_dp (S : Sim K mg mu hs H) : ∀ (k n : Nat) (a : Addr) (p : PyData), mu.l[n]? = some a → pdH hs k n = some p → Dp K H (.ref a) p
  | 0, _, _, _, _, e => by cases e
  | k + 1, n, a, p, hn, e => by
    unfold pdH at e
    split at e
    · rename_i ds hd
      obtain ⟨ps, h1, h2⟩ := Option.map_eq_some_iff.mp e
      subst h2
      obtain ⟨u, e1, e2⟩ := S.at hn hd
      cases u <;> first
        | exact .lst (.of e1) (pdWs_dp (fun n a p h q => pdH_dp S k n a p h q) ds _ ps e2 h1)
        | exact e2.elim
    · cases e
theorem pd_dp (S : Sim K mg mu hs H) {d : D} {v : V} {p : PyData} (r : RD K mu H d v) (e : pd hs d = some p) : Dp K H v p := pdW_dp (fun n a p h q => pdH_dp S 40 n a p h q) d v p r e
end

/-! ### comparisons -/
def gEqD (hs : Hs) (d e : D) : Option Bool := match pd hs d with
  | some p => match pd hs e with
    | some q => if (SeqAt.shaped p && SeqAt.shaped q) = true then some (PyData.eqv p q) else none
    | none => none
  | none => none
/-- texts by themselves, other data by what is read -/
def gEqB (hs : Hs) (d e : D) : Option Bool := match d with
  | .str x => (match e with | .str y => some (x == y) | e => gEqD hs (.str x) e)
  | d => gEqD hs d e
theorem gEqB_cases {hs : Hs} {d e : D} {b : Bool} (h : gEqB hs d e = some b) : (∃ x y, d = .str x ∧ e = .str y ∧ b = (x == y)) ∨ gEqD hs d e = some b := by
  unfold gEqB at h
  split at h
  · split at h
    · cases h; exact .inl ⟨_, _, rfl, rfl, rfl⟩
    · exact .inr h
  · exact .inr h
def gEq (hs : Hs) (d e : D) : Option D := (gEqB hs d e).map .bl
def gNe (hs : Hs) (d e : D) : Option D := (gEqB hs d e).map fun b => .bl (!b)
theorem gEqD_at {K : PySem.W.Frag} {mg : Str → Option Value} {mu : Mp} {hs : Hs} {H : Hp} (S : Sim K mg mu hs H) {d e : D} {x y : V} {b : Bool} (r1 : RD K mu H d x) (r2 : RD K mu H e y) (h : gEqD hs d e = some b) :
    ∃ p q, Dp K H x p ∧ Dp K H y q ∧ SeqAt.shaped p = true ∧ SeqAt.shaped q = true ∧ PyData.eqv p q = b := by
  unfold gEqD at h
  split at h
  · rename_i p hp
    split at h
    · rename_i q hq
      split at h
      · rename_i hz
        cases h
        simp only [Bool.and_eq_true] at hz
        exact ⟨p, q, pd_dp S r1 hp, pd_dp S r2 hq, hz.1, hz.2, rfl⟩
      · cases h
    · cases h
  · cases h
theorem og_eq (hu : X.A.units + 64 < cLine) : OpR X (compareOp .Eq) (rB X.K X.mg gEq) := by
  rintro pins s σ H x y v u Q I rx ry ⟨mu, hs, d, e, w, S, r1, r2, hg, q⟩
  obtain ⟨b, h1, h2⟩ := Option.map_eq_some_iff.mp (show (gEqB hs d e).map D.bl = some w from hg)
  subst h2
  rcases gEqB_cases h1 with ⟨z, z', rfl, rfl, rfl⟩ | h1
  · cases r1; cases r2
    exact op_eq pins s σ H _ _ v u Q I rx ry ⟨rfl, by rw [dec_str]; exact fin0 S q (.bl _)⟩
  obtain ⟨p, p', d1, d2, z1, z2, h3⟩ := gEqD_at S r1 r2 h1
  subst h3
  exact op_eqD hu pins s σ H x y v u Q I rx ry ⟨p, p', d1, d2, z1, z2, fin0 S q (.bl _)⟩
theorem og_ne (hu : X.A.units + 64 < cLine) : OpR X (compareOp .NotEq) (rB X.K X.mg gNe) := by
  rintro pins s σ H x y v u Q I rx ry ⟨mu, hs, d, e, w, S, r1, r2, hg, q⟩
  obtain ⟨b, h1, h2⟩ := Option.map_eq_some_iff.mp (show (gEqB hs d e).map (fun b => D.bl (!b)) = some w from hg)
  subst h2
  rcases gEqB_cases h1 with ⟨z, z', rfl, rfl, rfl⟩ | h1
  · cases r1; cases r2
    exact op_ne pins s σ H _ _ v u Q I rx ry ⟨rfl, by rw [dec_str]; exact fin0 S q (.bl _)⟩
  obtain ⟨p, p', d1, d2, z1, z2, h3⟩ := gEqD_at S r1 r2 h1
  subst h3
  exact op_neD hu pins s σ H x y v u Q I rx ry ⟨p, p', d1, d2, z1, z2, fin0 S q (.bl _)⟩
def gLt (hs : Hs) (d e : D) : Option D := match d with
  | .int i => (match e with | .int j => some (.bl (decide (i < j))) | _ => none)
  | .str x => (match e with | .str y => some (.bl (decide (x.cps.toList < y.cps.toList))) | _ => none)
  | _ => none
theorem og_lt : OpR X (compareOp .Lt) (rB X.K X.mg gLt) := by
  rintro pins s σ H x y v u Q I rx ry ⟨mu, hs, d, e, w, S, r1, r2, hg, q⟩
  unfold gLt at hg
  split at hg
  · split at hg
    · cases hg; cases r1; cases r2; exact op_lt pins s σ H _ _ v u Q I rx ry ⟨_, _, rfl, rfl, fin0 S q (.bl _)⟩
    · cases hg
  · split at hg
    · cases hg; cases r1; cases r2; exact op_lt_str pins s σ H _ _ v u Q I rx ry ⟨_, _, rfl, rfl, fin0 S q (.bl _)⟩
    · cases hg
  · cases hg
def gLe (hs : Hs) (d e : D) : Option D := match d with
  | .int i => (match e with | .int j => some (.bl (decide (i ≤ j))) | _ => none)
  | .str x => (match e with | .str y => some (.bl (!decide (y.cps.toList < x.cps.toList))) | _ => none)
  | _ => none
def gGt (hs : Hs) (d e : D) : Option D := match d with
  | .int i => (match e with | .int j => some (.bl (decide (j < i))) | _ => none)
  | .str x => (match e with | .str y => some (.bl (decide (y.cps.toList < x.cps.toList))) | _ => none)
  | _ => none
def gGe (hs : Hs) (d e : D) : Option D := match d with
  | .int i => (match e with | .int j => some (.bl (decide (j ≤ i))) | _ => none)
  | .str x => (match e with | .str y => some (.bl (!decide (x.cps.toList < y.cps.toList))) | _ => none)
  | _ => none
theorem og_le : OpR X (compareOp .LtE) (rB X.K X.mg gLe) := by
  rintro pins s σ H x y v u Q I rx ry ⟨mu, hs, d, e, w, S, r1, r2, hg, q⟩
  unfold gLe at hg
  split at hg
  · split at hg
    · cases hg; cases r1; cases r2; exact op_le pins s σ H _ _ v u Q I rx ry ⟨_, _, rfl, rfl, fin0 S q (.bl _)⟩
    · cases hg
  · split at hg
    · cases hg; cases r1; cases r2; exact op_le_str pins s σ H _ _ v u Q I rx ry ⟨_, _, rfl, rfl, fin0 S q (.bl _)⟩
    · cases hg
  · cases hg
theorem og_gt : OpR X (compareOp .Gt) (rB X.K X.mg gGt) := by
  rintro pins s σ H x y v u Q I rx ry ⟨mu, hs, d, e, w, S, r1, r2, hg, q⟩
  unfold gGt at hg
  split at hg
  · split at hg
    · cases hg; cases r1; cases r2; exact op_gt pins s σ H _ _ v u Q I rx ry ⟨_, _, rfl, rfl, fin0 S q (.bl _)⟩
    · cases hg
  · split at hg
    · cases hg; cases r1; cases r2; exact op_gt_str pins s σ H _ _ v u Q I rx ry ⟨_, _, rfl, rfl, fin0 S q (.bl _)⟩
    · cases hg
  · cases hg
theorem og_ge : OpR X (compareOp .GtE) (rB X.K X.mg gGe) := by
  rintro pins s σ H x y v u Q I rx ry ⟨mu, hs, d, e, w, S, r1, r2, hg, q⟩
  unfold gGe at hg
  split at hg
  · split at hg
    · cases hg; cases r1; cases r2; exact op_ge pins s σ H _ _ v u Q I rx ry ⟨_, _, rfl, rfl, fin0 S q (.bl _)⟩
    · cases hg
  · split at hg
    · cases hg; cases r1; cases r2; exact op_ge_str pins s σ H _ _ v u Q I rx ry ⟨_, _, rfl, rfl, fin0 S q (.bl _)⟩
    · cases hg
  · cases hg
/-! ### is -/
def gIs (hs : Hs) (d e : D) : Option D := match e with
  | .non => (match d with | .non => some (.bl true) | .ref _ => some (.bl false) | .bl _ => some (.bl false) | .int _ => some (.bl false) | .str _ => some (.bl false) | .tup _ => some (.bl false) | .lst _ => some (.bl false) | .scr _ => some (.bl false) | .ty _ => some (.bl false) | .ctp _ => some (.bl false) | .dct _ _ => some (.bl false) | .dtp _ _ => some (.bl false) | .dlk _ _ => some (.bl false) | .dlt _ _ => some (.bl false) | .exn _ _ _ => some (.bl false) | .ins _ _ _ => some (.bl false) | .glb _ => some (.bl false))
  | .bl b => (match d with | .bl a => some (.bl (decide (a = b))) | _ => none)
  | _ => none
def gIsN (hs : Hs) (d e : D) : Option D := match gIs hs d e with | some (.bl b) => some (.bl (!b)) | _ => none
theorem og_is : OpR X (compareOp .Is) (rB X.K X.mg gIs) := by
  rintro pins s σ H x y v u Q I rx ry ⟨mu, hs, d, e, w, S, r1, r2, hg, q⟩
  unfold gIs at hg
  split at hg
  · cases r2
    refine op_isN pins s σ H _ _ v u Q I rx ry ⟨rfl, ?_⟩
    cases r1 <;> (cases hg; exact fin0 S q (.bl _))
  · split at hg
    · cases hg; cases r1; cases r2; exact op_isBl pins s σ H _ _ v u Q I rx ry ⟨_, _, rfl, rfl, fin0 S q (.bl _)⟩
    · cases hg
  · cases hg
/-! ### in -/
def flatD : D → Bool
  | .non => true | .bl _ => true | .int _ => true | .str _ => true | _ => false
/-- == of two flat ones -/
def eqF : D → D → Bool
  | .non, .non => true
  | .bl a, .bl b => a == b
  | .bl a, .int b => (if a then 1 else 0) == b
  | .int a, .bl b => a == (if b then 1 else 0)
  | .int a, .int b => a == b
  | .str a, .str b => a == b
  | _, _ => false
/-- one sign -/
def sign1 (x : Str) : Option Nat := match x.cps.toList with | [c] => some c | _ => none
def seqOf (hs : Hs) (d : D) : Option (List D) := match rdOf hs d with | some ds => some ds | none => tupOf d
def gInB (hs : Hs) (d e : D) : Option Bool := match e with
  | .str z => (match d with | .str x => (match sign1 x with | some c => some (decide (c ∈ z.cps.toList)) | none => none) | _ => none)
  | e => match seqOf hs e with
    | some ds => if (flatD d && ds.all flatD) = true then some (ds.any fun e => eqF e d) else none
    | none => none
theorem seqOf_at {K : PySem.W.Frag} {mg : Str → Option Value} {mu : Mp} {hs : Hs} {H : Hp} {d : D} {v : V} {ds : List D} (S : Sim K mg mu hs H) (r : RD K mu H d v) (e : seqOf hs d = some ds) : ∃ a vs, v = .ref a ∧ (SqL K H a vs ∨ SqT K H a vs) ∧ RDs K mu H ds vs := by
  unfold seqOf at e
  split at e
  · rename_i h
    cases e
    obtain ⟨a, vs, h1, h2, h3⟩ := rdOf_at S r h
    exact ⟨a, vs, h1, .inl h2, h3⟩
  · obtain ⟨a, vs, h1, h2, h3⟩ := tupOf_at r e
    exact ⟨a, vs, h1, .inr h2, h3⟩
end
/-! # G5: subscripts, slices, calls of built-ins, methods of built-ins -/
theorem RDs.at_ {K : PySem.W.Frag} {mu : Mp} {H : Hp} {ds : List D} {vs : List V} (r : RDs K mu H ds vs) {i : Int} {d : D} (h : atI ds i = some d) : ∃ v, atI vs i = some v ∧ RD K mu H d v := by
  unfold atI at h ⊢
  rw [← r.length]
  cases e : ixN ds.length i with
  | none => rw [e] at h; cases h
  | some j =>
    rw [e] at h
    obtain ⟨v, h1, h2⟩ := r.get (show ds[j]? = some d from h)
    exact ⟨v, h1, h2⟩
/-! ### a[i] -/
def gIx (hs : Hs) (d e : D) : Option D := match e with
  | .int i => (match d with
    | .str z => if z.length ≤ sizeLine then (match atI z.cps.toList i with | some c => some (.str ⟨#[c]⟩) | none => none) else none
    | d => match seqOf hs d with | some ds => atI ds i | none => none)
  | _ => none
section
variable {X : Cx} {Wd : WX} {a b : Expr} {f1 f2 : FE} {pos : Pos}
theorem ix_g : IxR X (rB X.K X.mg gIx) := by
  rintro value slice pins s σ H x y v u Q I rx ry ⟨mu, hs, d, e, w, S, r1, r2, hg, q⟩ hsl
  have seq : (∃ i, e = .int i ∧ (match seqOf hs d with | some ds => atI ds i | none => none) = some w) → wpAny (model X.prog X.w) X.A (subscriptTail value slice v u) (EP X pins σ Q) X.xe s := by
    rintro ⟨i, rfl, h⟩
    split at h
    · rename_i ds hds
      obtain ⟨p, vs, rfl, h1, h2⟩ := seqOf_at S r1 hds
      obtain ⟨z, h3, h4⟩ := h2.at_ h
      cases r2
      refine ix_seq value slice pins s σ H _ _ v u Q I rx ry ?_ hsl
      rcases h1 with h1 | h1
      · exact .inl ⟨p, vs, i, z, rfl, rfl, h1, h3, fin0 S q h4⟩
      · exact .inr (.inl ⟨p, vs, i, z, rfl, rfl, h1, h3, fin0 S q h4⟩)
    · cases h
  unfold gIx at hg
  split at hg
  · rename_i i
    cases d with
    | str z =>
      dsimp only at hg
      split at hg
      · rename_i hz
        split at hg
        · rename_i c hc
          cases hg; cases r1; cases r2
          exact ix_seq value slice pins s σ H _ _ v u Q I rx ry (.inr (.inr ⟨z, i, c, rfl, rfl, hz, hc, fin0 S q (.str _)⟩)) hsl
        · cases hg
      · cases hg
    | _ => exact seq ⟨i, rfl, hg⟩
  · cases hg
theorem ue_ix (ha : UE X Wd a f1) (hb : UE X Wd b f2) (hs : PlainIx b := by exact fun _ _ => rfl) : UE X Wd (.Subscript a b pos) (eBin gIx f1 f2) := PE.imp (pe_ix ix_g ha hb hs) fun _ _ _ h => tG_bin h

/-! ### slices -/
def cutX {t : Type} (xs : List t) (lo hi : Option Int) : List t := (xs.drop (HT.sIx xs.length 0 lo)).take (HT.sIx xs.length xs.length hi - HT.sIx xs.length 0 lo)
theorem RDs.cut {K : PySem.W.Frag} {mu : Mp} {H : Hp} {ds : List D} {vs : List V} (r : RDs K mu H ds vs) (lo hi : Option Int) : RDs K mu H (cutX ds lo hi) (cutV vs lo hi) := by
  unfold cutX cutV
  rw [r.length]
  exact (r.drop _).take _
def relO : Rel (Option Int) (Option Int) := fun _ _ _ _ a b => a = b
theorem relO_ok : relO.Ok := fun _ _ _ _ _ _ _ _ _ _ _ h => h
abbrev FO := Ev → Hs → R (Option Int)
abbrev UO (X : Cx) (Wd : WX) (o : Option Expr) (f : FO) : Prop := PO X o (tG relO X.K X.mg Wd f)
def oNone : FO := fun _ hs => .ok none hs
def oSome (f : FE) : FO := fun e hs => (f e hs).bind fun d hs => match d with | .int i => .ok (some i) hs | _ => .bad
theorem PO.imp {o : Option Expr} {t t' : TO} (h : PO X o t) (i : ∀ σ H Q, t' σ H Q → t σ H Q) : PO X o t' := ⟨fun pins s σ H Q I q => h.run pins s σ H Q I (i σ H Q q)⟩
theorem uo_none : UO X Wd none oNone := by
  refine PO.imp po_none fun σ H Q h => ?_
  obtain ⟨e, mu, hs, S, E, g⟩ := h
  exact g mu H none .refl S rfl
theorem uo_some (ha : UE X Wd a f1) : UO X Wd (some a) (oSome f1) := by
  refine PO.imp (po_some ha) fun σ H Q h => ?_
  obtain ⟨e, mu, hs, S, E, q⟩ := tG_seq (r := relD X.K) relO_ok h
  refine ⟨e, mu, hs, S, E, q.imp fun x H1 ⟨e, mu1, hs1, d, S1, E1, r1, g2⟩ => ?_⟩
  cases r1 with
  | int i => exact ⟨i, rfl, g2 mu1 H1 _ .refl S1 rfl⟩
  | _ => exact g2.elim
def gSl (hs : Hs) (d : D) (lo hi : Option Int) : Option D := match d with
  | .str z => if z.length ≤ sizeLine then some (.str (cutS z lo hi)) else none
  | .tup ds => some (.tup (cutX ds lo hi))
  | d => match rdOf hs d with | some ds => some (.lst (cutX ds lo hi)) | none => none
def rSlG (K : PySem.W.Frag) (mg : Str → Option Value) (g : Hs → D → Option Int → Option Int → Option D) : V → Option Int → Option Int → Hp → VK → Prop := fun x lo hi H Q => ∃ mu hs d w, Sim K mg mu hs H ∧ RD K mu H d x ∧ g hs d lo hi = some w ∧
  ∀ mu' H' v, Lat mu H mu' H' → Sim K mg mu' hs H' → RD K mu' H' w v → Q v H'
theorem cut_whole {t : Type} (xs : List t) {lo hi : Option Int} (h1 : HT.sIx xs.length 0 lo = 0) (h2 : HT.sIx xs.length xs.length hi = xs.length) : cutX xs lo hi = xs := by
  unfold cutX
  rw [h1, h2, List.drop_zero, Nat.sub_zero, List.take_length]
theorem sl_g : SlR X (rSlG X.K X.mg gSl) := by
  rintro pins s σ H x v vl vu lo hi sl Q I rx hs pl pu ⟨mu, hs', d, w, S, r1, hg, q⟩
  have lst : (match rdOf hs' d with | some ds => some (D.lst (cutX ds lo hi)) | none => none) = some w → ∃ T id, typeLookup (.type T) "__getitem__" = pure (some (.builtin id)) ∧ s.TypeIs v T ∧ wpAny (model X.prog X.w) X.A (getItem v (.ref sl)) (EP X pins σ Q) X.xe s := by
    intro h
    split at h
    · rename_i ds hds
      cases h
      obtain ⟨p, vs, rfl, h1, h2⟩ := rdOf_at S r1 hds
      exact sl_list pins s σ H _ v vl vu lo hi sl Q I rx hs pl pu ⟨p, vs, rfl, h1, fun p hp => finL S q hp (h2.cut lo hi)⟩
    · cases h
  unfold gSl at hg
  cases d with
  | str z =>
    dsimp only at hg
    split at hg
    · rename_i hz
      cases hg; cases r1
      exact sl_str pins s σ H _ v vl vu lo hi sl Q I rx hs pl pu ⟨z, rfl, hz, fin0 S q (.str _)⟩
    · cases hg
  | tup ds =>
    cases hg
    obtain ⟨p, vs, rfl, h1, h2⟩ := tupOf_at r1 rfl
    refine sl_tupA pins s σ H _ v vl vu lo hi sl Q I rx hs pl pu ⟨p, vs, rfl, h1, fun ⟨e1, e2⟩ => ?_, fun _ p hp => finT S q hp (h2.cut lo hi)⟩
    rw [← h2.length] at e1 e2
    exact fin0 S q (by rw [cut_whole ds e1 e2]; exact r1)
  | _ => exact lst hg
def eSl (f : FE) (lo hi : FO) : FE := fun e hs => (f e hs).bind fun d hs => (lo e hs).bind fun l hs => (hi e hs).bind fun h hs => R.ofO (gSl hs d l h) hs
theorem ue_sl {lo hi : Option Expr} {p2 : Pos} {fl fh : FO} (ha : UE X Wd a f1) (hl : UO X Wd lo fl) (hh : UO X Wd hi fh) : UE X Wd (.Subscript a (.Slice lo hi none p2) pos) (eSl f1 fl fh) := by
  refine PE.imp (pe_slice sl_g ha hl hh) fun σ H Q h => ?_
  obtain ⟨e, mu, hs, S, E, q⟩ := tG_seq (r := relD X.K) relD_ok h
  refine ⟨e, mu, hs, S, E, q.imp fun x H1 ⟨e, mu1, hs1, d, S1, E1, r1, g1⟩ => ?_⟩
  refine ⟨e, mu1, hs1, S1, E1, (Gd.bind (r := relO) relD_ok g1).imp fun lo H2 ⟨mu2, hs2, lo', l2, S2, r2, g2⟩ => ?_⟩
  have r2 : lo' = lo := r2
  subst r2
  refine ⟨e, mu2, hs2, S2, E1.agr (l2.agr S1), (Gd.bind (r := relO) relD_ok g2).imp fun hi H3 ⟨mu3, hs3, hi', l3, S3, r3, g3⟩ => ?_⟩
  have r3 : hi' = hi := r3
  subst r3
  cases q : gSl hs3 d lo' hi' with
  | none => rw [q] at g3; exact g3.elim
  | some w => rw [q] at g3; exact ⟨mu3, hs3, d, w, S3, RD.agr (l3.agr S2) (RD.agr (l2.agr S1) r1), q, g3⟩
/-- xs[::-1], a new list -/
def lRev (f : FE) : FL := fun e hs => (f e hs).bind fun d hs => R.ofO ((rdOf hs d).map List.reverse) hs
theorem relF_new {K : PySem.W.Frag} {mg : Str → Option Value} {mu : Mp} {hs : Hs} {H : Hp} {Q : VK} {ds : List D} {vs : List V} {p : Addr} (S : Sim K mg mu hs H) (q : ∀ mu' H' v, Lat mu H mu' H' → Sim K mg mu' hs H' → relF K mg H mu' hs H' ds v → Q v H') (hp : H p = none) (r : RDs K mu H ds vs) : Q (.ref p) (upd H p (.lst vs)) :=
  q mu _ _ (.new hp) (S.new hp) ⟨p, vs, rfl, upd_same, S.fresh hp, S.freshz hp, hp, RDs.agr (Lat.agr (.new hp) S) r⟩
theorem uf_rev {k : Nat} {p1 p2 p3 : Pos} (ha : UE X Wd a f1) : UF X Wd (.Subscript a (.Slice none none (some (.UnaryOp .USub (.Constant (.int 1) k p1) p2)) p3) pos) (lRev f1) := by
  refine PE.imp (pe_revL ha) fun σ H Q h => ?_
  obtain ⟨e, mu, hs, S, E, q⟩ := tG_seq (r := relD X.K) relF_ok h
  refine ⟨e, mu, hs, S, E, q.imp fun x H1 ⟨e, mu1, hs1, d, S1, E1, r1, g1⟩ => ?_⟩
  cases q : rdOf hs1 d with
  | none => rw [q] at g1; exact g1.elim
  | some ds =>
    rw [q] at g1
    obtain ⟨p, vs, rfl, h1, h2⟩ := rdOf_at S1 r1 q
    exact ⟨p, vs, rfl, h1, fun p hp => relF_new S1 g1 hp h2.reverse⟩

/-! ### calls by values -/
def rC (K : PySem.W.Frag) (mg : Str → Option Value) (g : Hs → List D → Option D) : List V → Hp → VK → Prop := fun xs H Q => ∃ mu hs ds w, Sim K mg mu hs H ∧ RDs K mu H ds xs ∧ g hs ds = some w ∧
  ∀ mu' H' v, Lat mu H mu' H' → Sim K mg mu' hs H' → RD K mu' H' w v → Q v H'
def eCall (g : Hs → List D → Option D) (f : FA) : FE := fun e hs => (f e hs).bind fun ds hs => R.ofO (g hs ds) hs
theorem tG_call {K : PySem.W.Frag} {mg : Str → Option Value} {g : Hs → List D → Option D} {f : FA} {σ : L2.St} {H : Hp} {Q : VK} (h : tG (relD K) K mg Wd (eCall g f) σ H Q) : tG (relA K) K mg Wd f σ H (fun xs H1 => rC K mg g xs H1 Q) := by
  obtain ⟨e, mu, hs, S, E, q⟩ := tG_seq (r := relA K) relD_ok h
  refine ⟨e, mu, hs, S, E, q.imp fun x H1 ⟨e, mu1, hs1, d, S1, E1, r1, g2⟩ => ?_⟩
  cases q : g hs1 d with
  | none => rw [q] at g2; exact g2.elim
  | some w => rw [q] at g2; exact ⟨mu1, hs1, d, w, S1, r1, q, g2⟩
variable {g : Hs → List D → Option D} {f : FA} {x : Str} {p : Pos} {e : Expr} {es : List Expr} {mid T : String}
theorem ue_callB (hc : CallR X (.builtin mid) (rC X.K X.mg g)) (hg : Gl X x) (hm : X.mg x = none) (hv : bootBuiltins x = some (.builtin mid)) (ha : UA X Wd (e :: es) f) (hn : x ≠ "__name__" := by decide) (hdb : (x == ("__debug__" : Str)) = false := by decide)
    (he : starEach (e :: es) X.env = (false, eval e X.env) :: starEach es X.env := by rfl) (hpl : (backTo pos (starEach es X.env)).any (·.1) = false := by rfl) : UE X Wd (.Call (.Name x p) (e :: es) [] pos) (eCall g f) :=
  PE.imp (pe_callB hc hg hm hv ha hn hdb he hpl) fun _ _ _ h => tG_call h
theorem ue_callTy (hc : CallR X (.type T) (rC X.K X.mg g)) (hg : Gl X x) (hm : X.mg x = none) (hv : bootBuiltins x = some (.type T)) (ha : UA X Wd (e :: es) f) (hn : x ≠ "__name__" := by decide) (hdb : (x == ("__debug__" : Str)) = false := by decide)
    (he : starEach (e :: es) X.env = (false, eval e X.env) :: starEach es X.env := by rfl) (hpl : (backTo pos (starEach es X.env)).any (·.1) = false := by rfl) : UE X Wd (.Call (.Name x p) (e :: es) [] pos) (eCall g f) :=
  PE.imp (pe_callTy hc hg hm hv ha hn hdb he hpl) fun _ _ _ h => tG_call h
/-- len -/
def gLen (hs : Hs) (ds : List D) : Option D := match ds with
  | [d] => (match d with
    | .str y => if y.length ≤ sizeLine then some (.int y.length) else none
    | d => match seqOf hs d with | some ds => some (.int ds.length) | none => none)
  | _ => none
theorem cg_len : CallR X (.builtin "len") (rC X.K X.mg gLen) := by
  rintro pins s σ H xs us Q I r ⟨mu, hs, ds, w, S, rs, hg, q⟩
  unfold gLen at hg
  split at hg
  · rename_i d
    cases rs with
    | cons r1 r2 =>
      cases r2
      cases d with
      | str y =>
        dsimp only at hg
        split at hg
        · rename_i hz
          cases hg; cases r1
          exact call_len pins s σ H _ us Q I r ⟨_, _, rfl, ⟨hz, rfl⟩, fin0 S q (.int _)⟩
        · cases hg
      | _ =>
        dsimp only at hg
        split at hg
        · rename_i ds hds
          cases hg
          obtain ⟨p, vs, rfl, h1, h2⟩ := seqOf_at S r1 hds
          exact call_len pins s σ H _ us Q I r ⟨_, _, rfl, h1.elim (fun z => .inl ⟨vs, z, h2.length⟩) (fun z => .inr ⟨vs, z, h2.length⟩), fin0 S q (.int _)⟩
        · cases hg
  · cases hg
/-- min, max of two ints -/
def gMin2 (hs : Hs) (ds : List D) : Option D := match ds with | [.int i, .int j] => some (.int (if j < i then j else i)) | _ => none
def gMax2 (hs : Hs) (ds : List D) : Option D := match ds with | [.int i, .int j] => some (.int (if j > i then j else i)) | _ => none
theorem cg_min2 (hc : X.calm = true) : CallR X (.builtin "min") (rC X.K X.mg gMin2) := by
  rintro pins s σ H xs us Q I r ⟨mu, hs, ds, w, S, rs, hg, q⟩
  unfold gMin2 at hg
  split at hg
  · cases hg
    cases rs with
    | cons r1 r2 => cases r1; cases r2 with
      | cons r3 r4 => cases r3; cases r4; exact call_min2 hc pins s σ H _ us Q I r ⟨_, _, rfl, fin0 S q (.int _)⟩
  · cases hg
/-- ints of a list -/
def intsOf : List D → Option (List Int)
  | [] => some []
  | .int i :: ds => (intsOf ds).map (i :: ·)
  | _ :: _ => none
theorem intsOf_eq : ∀ {ds : List D} {ns : List Int}, intsOf ds = some ns → ds = ns.map D.int
  | [], ns, h => by cases h; rfl
  | d :: ds, ns, h => by
    cases d with
    | int i =>
      obtain ⟨m, h1, h2⟩ := Option.map_eq_some_iff.mp (show (intsOf ds).map (i :: ·) = some ns from h)
      subst h2
      rw [intsOf_eq h1]; rfl
    | _ => cases h
theorem intsOf_map : ∀ ns : List Int, intsOf (ns.map D.int) = some ns
  | [] => rfl
  | n :: ns => by show (intsOf (ns.map D.int)).map (n :: ·) = _; rw [intsOf_map ns]; rfl
theorem RDs.of_ints {K : PySem.W.Frag} {mu : Mp} {H : Hp} : ∀ {ns : List Int} {vs : List V}, RDs K mu H (ns.map D.int) vs → vs = ns.map V.int
  | [], _, h => by cases h; rfl
  | n :: ns, _, h => by cases h with | cons r t => cases r; rw [RDs.of_ints t]; rfl
def gSum (hs : Hs) (ds : List D) : Option D := match ds with
  | [d] => (match rdOf hs d with | some xs => (match intsOf xs with | some ns => some (.int ns.sum) | none => none) | none => none)
  | _ => none
theorem cg_sum (hc : X.calm = true) : CallR X (.builtin "sum") (rC X.K X.mg gSum) := by
  rintro pins s σ H xs us Q I r ⟨mu, hs, ds, w, S, rs, hg, q⟩
  unfold gSum at hg
  split at hg
  · split at hg
    · rename_i ds hds
      split at hg
      · rename_i ns hns
        cases hg
        cases rs with
        | cons r1 r2 =>
          cases r2
          obtain ⟨p, vs, rfl, h1, h2⟩ := rdOf_at S r1 hds
          rw [intsOf_eq hns] at h2
          rw [h2.of_ints] at h1
          exact cr_sum hc pins s σ H _ us Q I r ⟨p, ns, rfl, h1, fin0 S q (.int _)⟩
      · cases hg
    · cases hg
  · cases hg
/-- bools of a list -/
def blsOf : List D → Option (List Bool)
  | [] => some []
  | .bl i :: ds => (blsOf ds).map (i :: ·)
  | _ :: _ => none
theorem blsOf_eq : ∀ {ds : List D} {ns : List Bool}, blsOf ds = some ns → ds = ns.map D.bl
  | [], ns, h => by cases h; rfl
  | d :: ds, ns, h => by
    cases d with
    | bl i =>
      obtain ⟨m, h1, h2⟩ := Option.map_eq_some_iff.mp (show (blsOf ds).map (i :: ·) = some ns from h)
      subst h2
      rw [blsOf_eq h1]; rfl
    | _ => cases h
theorem blsOf_map : ∀ ns : List Bool, blsOf (ns.map D.bl) = some ns
  | [] => rfl
  | n :: ns => by show (blsOf (ns.map D.bl)).map (n :: ·) = _; rw [blsOf_map ns]; rfl
theorem RDs.of_bls {K : PySem.W.Frag} {mu : Mp} {H : Hp} : ∀ {ns : List Bool} {vs : List V}, RDs K mu H (ns.map D.bl) vs → vs = ns.map V.bl
  | [], _, h => by cases h; rfl
  | n :: ns, _, h => by cases h with | cons r t => cases r; rw [RDs.of_bls t]; rfl
def gAll (hs : Hs) (ds : List D) : Option D := match ds with
  | [d] => (match rdOf hs d with | some xs => (match blsOf xs with | some ns => some (.bl (ns.all id)) | none => none) | none => none)
  | _ => none
theorem cg_all (hc : X.calm = true) : CallR X (.builtin "all") (rC X.K X.mg gAll) := by
  rintro pins s σ H xs us Q I r ⟨mu, hs, ds, w, S, rs, hg, q⟩
  unfold gAll at hg
  split at hg
  · split at hg
    · rename_i ds hds
      split at hg
      · rename_i ns hns
        cases hg
        cases rs with
        | cons r1 r2 =>
          cases r2
          obtain ⟨p, vs, rfl, h1, h2⟩ := rdOf_at S r1 hds
          rw [blsOf_eq hns] at h2
          rw [h2.of_bls] at h1
          exact cr_all hc pins s σ H _ us Q I r ⟨p, ns, rfl, h1, fin0 S q (.bl _)⟩
      · cases hg
    · cases hg
  · cases hg
/-- int of an int, a bool; str of an int, a text -/
def gInt (hs : Hs) (ds : List D) : Option D := match ds with
  | [.int i] => some (.int i)
  | [.bl k] => some (.int (if k then 1 else 0))
  | _ => none
theorem cg_int : CallR X (.type "int") (rC X.K X.mg gInt) := by
  rintro pins s σ H xs us Q I r ⟨mu, hs, ds, w, S, rs, hg, q⟩
  unfold gInt at hg
  split at hg
  · cases hg
    cases rs with
    | cons r1 r2 => cases r1; cases r2; exact call_int1 pins s σ H _ us Q I r (.inl ⟨_, rfl, fin0 S q (.int _)⟩)
  · cases hg
    cases rs with
    | cons r1 r2 => cases r1; cases r2; exact call_int1 pins s σ H _ us Q I r (.inr ⟨_, rfl, fin0 S q (.int _)⟩)
  · cases hg
def gStr (hs : Hs) (ds : List D) : Option D := match ds with
  | [.int i] => if i.natAbs.log2 < 1920 then some (.str (toString i)) else none
  | [.bl b] => some (.str (if b then "True" else "False"))
  | _ => none
/-- list(x), tuple(x) -/
def lList (f : FE) : FL := fun e hs => (f e hs).bind fun d hs => R.ofO (seqOf hs d) hs
theorem uf_list (hg : Gl X "list") (hm : X.mg "list" = none) (ha : UE X Wd a f1)
    (hs1 : starEach [a] X.env = [(false, eval a X.env)] := by rfl) : UF X Wd (.Call (.Name "list" p) [a] [] pos) (lList f1) := by
  refine PE.imp (pe_callTy call_list_of hg hm boot_list (pa_cons ha pa_nil hs1) (by decide) (by decide) hs1 rfl) fun σ H Q h => ?_
  obtain ⟨e, mu, hs, S, E, q⟩ := tG_seq (r := relD X.K) relF_ok h
  refine ⟨e, mu, hs, S, E, q.imp fun x H1 ⟨e, mu1, hs1, d, S1, E1, r1, g1⟩ => ?_⟩
  cases q : seqOf hs1 d with
  | none => rw [q] at g1; exact g1.elim
  | some ds =>
    rw [q] at g1
    obtain ⟨p, vs, rfl, h1, h2⟩ := seqOf_at S1 r1 q
    exact ⟨p, vs, rfl, h1, fun p hp => relF_new S1 g1 hp h2⟩
def gTuple (hs : Hs) (ds : List D) : Option D := match ds with
  | [d] => (match d with
    | .tup xs => some (.tup xs)
    | d => match rdOf hs d with | some xs => some (.tup xs) | none => none)
  | _ => none
theorem cg_tuple : CallR X (.type "tuple") (rC X.K X.mg gTuple) := by
  rintro pins s σ H xs us Q I r ⟨mu, hs, ds, w, S, rs, hg, q⟩
  cases rs with
  | nil => cases hg
  | cons r1 r2 =>
    cases r2 with
    | cons _ _ => cases hg
    | nil =>
      rename_i d v
      have lst : (match rdOf hs d with | some xs => some (D.tup xs) | none => none) = some w → wpAny (model X.prog X.w) X.A (call (.type "tuple") us) (EP X pins σ Q) X.xe s := by
        intro h
        split at h
        · rename_i ds hds
          cases h
          obtain ⟨p, vs, rfl, h1, h2⟩ := rdOf_at S r1 hds
          exact call_tuple_of pins s σ H _ us Q I r ⟨p, vs, rfl, .inl ⟨h1, fun l hl => finT S q hl h2⟩⟩
        · cases h
      cases d with
      | tup ds =>
        cases hg
        obtain ⟨p, vs, rfl, h1, h2⟩ := tupOf_at r1 rfl
        exact call_tuple_of pins s σ H _ us Q I r ⟨p, vs, rfl, .inr ⟨h1, fin0 S q r1⟩⟩
      | _ => exact lst hg
/-- repr of data -/
def smallText (p : PyData) : Bool := p.showable && decide (p.depth ≤ 60) && decide (p.shown.length ≤ sizeLine) && !p.hasDict
def gRepr (hs : Hs) (ds : List D) : Option D := match ds with
  | [d] => (match pd hs d with | some p => if smallText p = true then some (.str p.shown) else none | none => none)
  | _ => none
/-! ### methods -/
/-- a method by values: our heap may change -/
def rMd (K : PySem.W.Frag) (mg : Str → Option Value) (g : Hs → D → List D → Option (D × Hs)) : V → List V → Hp → VK → Prop := fun x xs H Q => ∃ mu hs d ds w hs', Sim K mg mu hs H ∧ RD K mu H d x ∧ RDs K mu H ds xs ∧ g hs d ds = some (w, hs') ∧
  ∀ mu' H' v, Lat mu H mu' H' → Sim K mg mu' hs' H' → RD K mu' H' w v → Q v H'
def isL (hs : Hs) (d : D) : Bool := (lstOf hs d).isSome
def R.ofP {t : Type} (o : Option (t × Hs)) : R t := match o with | some (x, hs) => .ok x hs | none => .bad
def eMt (c : Hs → D → Bool) (g : Hs → D → List D → Option (D × Hs)) (f1 : FE) (f : FA) : FE := fun e hs => (f1 e hs).bind fun d hs => if c hs d = true then (f e hs).bind fun ds hs => R.ofP (g hs d ds) else .bad
theorem tG_mt {K : PySem.W.Frag} {mg : Str → Option Value} {T : String} {c : Hs → D → Bool} {g : Hs → D → List D → Option (D × Hs)} (hc : ∀ mu hs H d x, Sim K mg mu hs H → RD K mu H d x → c hs d = true → tyV K T x H) {f : FA} {σ : L2.St} {H : Hp} {Q : VK} (h : tG (relD K) K mg Wd (eMt c g f1 f) σ H Q) :
    tBM K T (rMd K mg g) (tG (relD K) K mg Wd f1) (tG (relA K) K mg Wd f) σ H Q := by
  obtain ⟨e, mu, hs, S, E, q⟩ := tG_seq (r := relD K) relD_ok h
  refine ⟨e, mu, hs, S, E, q.imp fun x H1 ⟨e, mu1, hs1, d, S1, E1, r1, g1⟩ => ?_⟩
  split at g1
  · rename_i hcd
    refine ⟨hc _ _ _ _ _ S1 r1 hcd, e, mu1, hs1, S1, E1, (Gd.bind (r := relA K) relD_ok g1).imp fun xs H2 ⟨mu2, hs2, ds, l2, S2, r2, g2⟩ => ?_⟩
    cases q : g hs2 d ds with
    | none => rw [q] at g2; exact g2.elim
    | some w => rw [q] at g2; exact ⟨mu2, hs2, d, ds, w.1, w.2, S2, RD.agr (l2.agr S1) r1, r2, q, g2⟩
  · exact g1.elim
theorem tG_mt0 {K : PySem.W.Frag} {mg : Str → Option Value} {T : String} {c : Hs → D → Bool} {g : Hs → D → List D → Option (D × Hs)} (hc : ∀ mu hs H d x, Sim K mg mu hs H → RD K mu H d x → c hs d = true → tyV K T x H) {σ : L2.St} {H : Hp} {Q : VK} (h : tG (relD K) K mg Wd (eMt c g f1 aNil) σ H Q) :
    tBM0 K T (rMd K mg g) (tG (relD K) K mg Wd f1) σ H Q := by
  obtain ⟨e, mu, hs, S, E, q⟩ := tG_seq (r := relD K) relD_ok h
  refine ⟨e, mu, hs, S, E, q.imp fun x H1 ⟨e, mu1, hs1, d, S1, E1, r1, g1⟩ => ?_⟩
  split at g1
  · rename_i hcd
    refine ⟨hc _ _ _ _ _ S1 r1 hcd, ?_⟩
    have g1 : Gd (relD K) K mg Wd σ mu1 H1 Q (R.ofP (g hs1 d [])) := g1
    cases q : g hs1 d [] with
    | none => rw [q] at g1; exact g1.elim
    | some w => rw [q] at g1; exact ⟨mu1, hs1, d, [], w.1, w.2, S1, r1, .nil, q, g1⟩
  · exact g1.elim
theorem isL_ty {K : PySem.W.Frag} {mg : Str → Option Value} : ∀ mu hs H d x, Sim K mg mu hs H → RD K mu H d x → isL hs d = true → tyV K "list" x H := fun mu hs H d x S r h => by
  unfold isL at h
  cases e : lstOf hs d with
  | none => rw [e] at h; cases h
  | some ds =>
    obtain ⟨a, vs, rfl, h1, _⟩ := lstOf_at S r e
    exact .inl ⟨rfl, vs, .of h1⟩
variable {o : Expr} {name : Str} {apos cpos : Pos} {c : Hs → D → Bool} {g' : Hs → D → List D → Option (D × Hs)}
theorem ue_mt (hc : ∀ mu hs H d x, Sim X.K X.mg mu hs H → RD X.K mu H d x → c hs d = true → tyV X.K T x H) (pa : PlainAttrs T) (slot : Slot T name mid) (hty : typeOf (.builtin mid) = pure (.type "method_descriptor")) (hm : MtR X mid (rMd X.K X.mg g')) (ho : UE X Wd o f1) (ha : UA X Wd (e :: es) f)
    (hbase : attributeBase o name X.env (eval o X.env) = eval o X.env := by rfl)
    (hfew : ((backTo cpos (starEach (e :: es) X.env)).all (fun x => !x.1) && (backToKw cpos (keywordEach [] X.env)).all (fun x => x.1.isSome)
      && decide ((e :: es).length + ([] : List Keyword).length + (if ([] : List Keyword).isEmpty then 0 else 1) < 30)) = true := by rfl)
    (hline : (apos.endLine == cpos.line) = true := by rfl) (hs : starEach (e :: es) X.env = (false, eval e X.env) :: starEach es X.env := by rfl) (hplain : (backTo cpos (starEach es X.env)).any (·.1) = false := by rfl) :
    UE X Wd (.Call (.Attribute o name apos) (e :: es) [] cpos) (eMt c g' f1 f) := PE.imp (pe_bm pa slot hty hm ho ha hbase hfew hline hs hplain) fun _ _ _ h => tG_mt hc h
theorem ue_mt0 (hc : ∀ mu hs H d x, Sim X.K X.mg mu hs H → RD X.K mu H d x → c hs d = true → tyV X.K T x H) (pa : PlainAttrs T) (slot : Slot T name mid) (hty : typeOf (.builtin mid) = pure (.type "method_descriptor")) (hm : MtR X mid (rMd X.K X.mg g')) (ho : UE X Wd o f1)
    (hbase : attributeBase o name X.env (eval o X.env) = eval o X.env := by rfl) (hline : (apos.endLine == cpos.line) = true := by rfl) :
    UE X Wd (.Call (.Attribute o name apos) [] [] cpos) (eMt c g' f1 aNil) := PE.imp (pe_bm0 pa slot hty hm ho hbase hline) fun _ _ _ h => tG_mt0 hc h
/-- a list of the heap -/
def refOf (hs : Hs) : D → Option (Nat × List D)
  | .ref n => match hs[n]? with | some (.lst ds) => some (n, ds) | _ => none
  | _ => none
theorem refOf_at {K : PySem.W.Frag} {mg : Str → Option Value} {mu : Mp} {hs : Hs} {H : Hp} {d : D} {v : V} {n : Nat} {ds : List D} (S : Sim K mg mu hs H) (r : RD K mu H d v) (e : refOf hs d = some (n, ds)) : ∃ a vs, v = .ref a ∧ mu.l[n]? = some a ∧ H a = some (.lst vs) ∧ RDs K mu H ds vs := by
  cases r with
  | ref q =>
    unfold refOf at e
    dsimp only at e
    split at e
    · rename_i ds' he
      cases e
      obtain ⟨u, h1, h2⟩ := S.at q he
      cases u <;> first | exact ⟨_, _, rfl, q, h1, h2⟩ | exact h2.elim
    · cases e
  | _ => cases e
def mAppend (hs : Hs) (d : D) (ds : List D) : Option (D × Hs) := match ds with
  | [y] => (match refOf hs d with | some (n, xs) => if xs.length < sizeLine then some (.non, hs.set n (.lst (xs ++ [y]))) else none | none => none)
  | _ => none
theorem mg_append : MtR X "list.append" (rMd X.K X.mg mAppend) := by
  rintro pins s σ H x xs v us Q I rx rxs ⟨mu, hs, d, ds, w, hs', S, r1, r2, hg, q⟩
  unfold mAppend at hg
  split at hg
  · split at hg
    · rename_i n xs hx
      split at hg
      · rename_i hz
        cases hg
        cases r2 with
        | cons r3 r4 =>
          cases r4
          obtain ⟨a, vs, rfl, h1, h2, h3⟩ := refOf_at S r1 hx
          refine mt_append pins s σ H _ _ v us Q I rx rxs ⟨a, vs, _, rfl, rfl, h2, by rw [← h3.length]; exact hz, ?_⟩
          exact q mu _ _ (.write h1 (nfL h2)) (S.write h1 (RDs.snoc h3 r3)) .non
      · cases hg
    · cases hg
  · cases hg
def mPop (hs : Hs) (d : D) (ds : List D) : Option (D × Hs) := match ds with
  | [] => (match refOf hs d with | some (n, xs) => (match xs[xs.length - 1]? with | some y => some (y, hs.set n (.lst xs.dropLast)) | none => none) | none => none)
  | _ => none
theorem RDs.dropLast {K : PySem.W.Frag} {mu : Mp} {H : Hp} {ds : List D} {vs : List V} (r : RDs K mu H ds vs) : RDs K mu H ds.dropLast vs.dropLast := by
  rw [List.dropLast_eq_take, List.dropLast_eq_take, r.length]
  exact r.take _
theorem mg_pop : MtR X "list.pop" (rMd X.K X.mg mPop) := by
  rintro pins s σ H x xs v us Q I rx rxs ⟨mu, hs, d, ds, w, hs', S, r1, r2, hg, q⟩
  unfold mPop at hg
  split at hg
  · split at hg
    · rename_i n xs hx
      split at hg
      · rename_i y hy
        cases hg
        cases r2
        obtain ⟨a, vs, rfl, h1, h2, h3⟩ := refOf_at S r1 hx
        rw [h3.length] at hy
        obtain ⟨z, h4, h5⟩ := h3.get hy
        refine mt_pop pins s σ H _ _ v us Q I rx rxs ⟨a, vs, z, rfl, rfl, h2, h4, ?_⟩
        exact q mu _ _ (.write h1 (nfL h2)) (S.write h1 h3.dropLast) (RD.agr (Lat.agr (.write h1 (nfL h2)) S) h5)
      · cases hg
    · cases hg
  · cases hg
end
/-! # G6: statements, targets, what is walked, loops, comprehensions -/
/-- what is wanted of a statement's end -/
def GdS (K : PySem.W.Frag) (mg : Str → Option Value) (Wd : WX) (D : Ends) (mu : Mp) (H : Hp) : SR → Prop
  | .nx e hs' => ∀ mu' H' σ', Lat mu H mu' H' → Sim K mg mu' hs' H' → RE K mu' H' e σ' → D.nx σ' H'
  | .brk e hs' => ∀ mu' H' σ', Lat mu H mu' H' → Sim K mg mu' hs' H' → RE K mu' H' e σ' → D.bk σ' H'
  | .cnt e hs' => ∀ mu' H' σ', Lat mu H mu' H' → Sim K mg mu' hs' H' → RE K mu' H' e σ' → D.ct σ' H'
  | .ret d hs' => ∀ mu' H' v, Lat mu H mu' H' → Sim K mg mu' hs' H' → RD K mu' H' d v → D.rt v H'
  | .exc c fs e hs' => ∀ mu' H' σ' cls dx, Lat mu H mu' H' → Sim K mg mu' hs' H' → RE K mu' H' e σ' → RX K mg mu' H' c fs cls dx → Wd cls dx σ' H'
  | .bad => False
def tS (K : PySem.W.Frag) (mg : Str → Option Value) (Wd : WX) (f : FS) : TS := fun D σ H => ∃ e mu hs, Sim K mg mu hs H ∧ RE K mu H e σ ∧ GdS K mg Wd D mu H (f e hs)
section
variable {K : PySem.W.Frag} {mg : Str → Option Value} {Wd : WX} {mu mu1 : Mp} {H H1 : Hp} {D : Ends}
theorem GdS.later (l : Lat mu H mu1 H1) {x : SR} (h : GdS K mg Wd D mu H x) : GdS K mg Wd D mu1 H1 x := by
  cases x with
  | nx e hs' => exact fun mu' H' σ' l' s' q => h mu' H' σ' (l.trans l') s' q
  | brk e hs' => exact fun mu' H' σ' l' s' q => h mu' H' σ' (l.trans l') s' q
  | cnt e hs' => exact fun mu' H' σ' l' s' q => h mu' H' σ' (l.trans l') s' q
  | ret d hs' => exact fun mu' H' v l' s' q => h mu' H' v (l.trans l') s' q
  | exc c fs e hs' => exact fun mu' H' σ' cls dx l' s' q => h mu' H' σ' cls dx (l.trans l') s' q
  | bad => exact h
end
/-- an expression ahead of a statement -/
def sBind {a : Type} (f : Ev → Hs → R a) (k : a → FS) : FS := fun e hs => match f e hs with
  | .ok x hs' => k x e hs'
  | .exc c fs hs' => .exc c fs e hs'
  | .bad => .bad
theorem tS_bind {K : PySem.W.Frag} {mg : Str → Option Value} {Wd : WX} {a b : Type} {r : Rel a b} {f : Ev → Hs → R a} {k : a → FS} {D : Ends} {σ : L2.St} {H : Hp} (h : tS K mg Wd (sBind f k) D σ H) :
    tG r K mg Wd f σ H (fun y H1 => ∃ e mu1 hs1 x, Sim K mg mu1 hs1 H1 ∧ RE K mu1 H1 e σ ∧ r H mu1 hs1 H1 x y ∧ GdS K mg Wd D mu1 H1 (k x e hs1)) := by
  obtain ⟨e, mu, hs, S, E, g⟩ := h
  refine ⟨e, mu, hs, S, E, ?_⟩
  unfold sBind at g
  cases q : f e hs with
  | ok x hs' => rw [q] at g; exact fun mu' H' y l s rr => ⟨e, mu', hs', x, s, E.agr (l.agr S), rr, GdS.later l g⟩
  | exc c fs hs' => rw [q] at g; exact fun mu' H' cls dx l s rr => g mu' H' σ cls dx l s (E.agr (l.agr S)) rr
  | bad => rw [q] at g; exact g
theorem PS.imp {X : Cx} {st : Stmt} {t t' : TS} (h : PS X st t) (i : ∀ D σ H, t' D σ H → t D σ H) : PS X st t' := ⟨fun pins s σ H D I q => h.run pins s σ H D I (i D σ H q)⟩
theorem PSs.imp {X : Cx} {st : List Stmt} {t t' : TS} (h : PSs X st t) (i : ∀ D σ H, t' D σ H → t D σ H) : PSs X st t' := ⟨fun pins s σ H D I q => h.run pins s σ H D I (i D σ H q)⟩
abbrev US (X : Cx) (Wd : WX) (st : Stmt) (f : FS) : Prop := PS X st (tS X.K X.mg Wd f)
abbrev USs (X : Cx) (Wd : WX) (st : List Stmt) (f : FS) : Prop := PSs X st (tS X.K X.mg Wd f)

def sSkip : FS := fun e hs => .nx e hs
def sSeq (f g : FS) : FS := fun e hs => match f e hs with
  | .nx e' hs' => g e' hs'
  | .brk e' hs' => .brk e' hs'
  | .cnt e' hs' => .cnt e' hs'
  | .ret d hs' => .ret d hs'
  | .exc c fs e' hs' => .exc c fs e' hs'
  | .bad => .bad
section
variable {X : Cx} {Wd : WX} {st : Stmt} {rest : List Stmt} {f g : FS} {a b : Expr} {f1 f2 : FE} {t1 : FT} {pos : Pos}
theorem us_nil : USs X Wd [] sSkip := by
  refine PSs.imp pss_nil fun D σ H ⟨e, mu, hs, S, E, g⟩ => g mu H σ .refl S E
theorem us_cons (h1 : US X Wd st f) (h2 : USs X Wd rest g) : USs X Wd (st :: rest) (sSeq f g) := by
  refine PSs.imp (pss_cons h1 h2) fun D σ H ⟨e, mu, hs, S, E, q⟩ => ⟨e, mu, hs, S, E, ?_⟩
  unfold sSeq at q
  cases r : f e hs with
  | nx e' hs' => rw [r] at q; exact fun mu' H' σ' l s rr => ⟨e', mu', hs', s, rr, GdS.later l q⟩
  | brk e' hs' => rw [r] at q; exact q
  | cnt e' hs' => rw [r] at q; exact q
  | ret d hs' => rw [r] at q; exact q
  | exc c fs e' hs' => rw [r] at q; exact q
  | bad => rw [r] at q; exact q
theorem us_one (h1 : US X Wd st f) : USs X Wd [st] f := PSs.imp (pss_one h1) fun _ _ _ h => h
def sDrop (f1 : FE) : FS := sBind f1 fun _ e hs => .nx e hs
theorem us_expr (ha : UE X Wd a f1) (hs : swapsWith a none pos.line X.env = pure false := by rfl) : US X Wd (.Expr a pos) (sDrop f1) := by
  refine PS.imp (ps_expr ha hs) fun D σ H h => ?_
  obtain ⟨e, mu, hs, S, E, q⟩ := tS_bind (r := relD X.K) h
  exact ⟨e, mu, hs, S, E, q.imp fun v H1 ⟨e, mu1, hs1, d, S1, E1, r1, g1⟩ => g1 mu1 H1 σ .refl S1 E1⟩
def sRet (f1 : FE) : FS := sBind f1 fun d _ hs => .ret d hs
theorem us_ret (ha : UE X Wd a f1) : US X Wd (.Return (some a) pos) (sRet f1) := by
  refine PS.imp (ps_ret ha) fun D σ H h => ?_
  obtain ⟨e, mu, hs, S, E, q⟩ := tS_bind (r := relD X.K) h
  exact ⟨e, mu, hs, S, E, q.imp fun v H1 ⟨e, mu1, hs1, d, S1, E1, r1, g1⟩ => g1 mu1 H1 v .refl S1 r1⟩
def sRetN : FS := fun _ hs => .ret .non hs
def sIf (t : FT) (f g : FS) : FS := sBind t fun c => if c = true then f else g
theorem us_if {c : Expr} {sa sb : List Stmt} (hc : UT X Wd c t1) (ha : USs X Wd sa f) (hb : USs X Wd sb g) : US X Wd (.If c sa sb pos) (sIf t1 f g) := by
  refine PS.imp (ps_if hc ha hb) fun D σ H h => ?_
  obtain ⟨e, mu, hs, S, E, q⟩ := tS_bind (r := relB) h
  refine ⟨e, mu, hs, S, E, q.imp fun v H1 ⟨e, mu1, hs1, d, S1, E1, r1, g1⟩ => ?_⟩
  have r1 : d = v := r1
  subst r1
  cases d with
  | true => exact ⟨e, mu1, hs1, S1, E1, g1⟩
  | false => exact ⟨e, mu1, hs1, S1, E1, g1⟩
/-! ### targets -/
abbrev FG := D → Ev → Option Ev
def tGt (K : PySem.W.Frag) (mg : Str → Option Value) (vs : List Nat) (g : FG) : TG := fun v σ H Q => ∃ e mu hs d e', Sim K mg mu hs H ∧ RE K mu H e σ ∧ RD K mu H d v ∧ g d e = some e' ∧
  ∀ σ', RE K mu H e' σ' → wipe σ' vs = wipe σ vs → Q σ' H
abbrev FGs := List D → Ev → Option Ev
def tGts (K : PySem.W.Frag) (mg : Str → Option Value) (vs : List Nat) (g : FGs) : TGs := fun us σ H Q => ∃ e mu hs ds e', Sim K mg mu hs H ∧ RE K mu H e σ ∧ RDs K mu H ds us ∧ g ds e = some e' ∧
  ∀ σ', RE K mu H e' σ' → wipe σ' vs = wipe σ vs → Q σ' H
theorem PG.imp {tg : Expr} {t t' : TG} (h : PG X tg t) (i : ∀ v σ H Q, t' v σ H Q → t v σ H Q) : PG X tg t' := ⟨fun pins s σ H v u Q I r q => h.run pins s σ H v u Q I r (i v σ H Q q)⟩
theorem PGs.imp {tg : List Expr} {t t' : TGs} (h : PGs X tg t) (i : ∀ v σ H Q, t' v σ H Q → t v σ H Q) : PGs X tg t' := ⟨fun pins s σ H v u Q I r q => h.run pins s σ H v u Q I r (i v σ H Q q)⟩
theorem PG.or {tg : Expr} {t t' : TG} (h : PG X tg t) (h' : PG X tg t') : PG X tg (fun v σ H Q => t v σ H Q ∨ t' v σ H Q) := ⟨fun pins s σ H v u Q I r q => q.elim (h.run pins s σ H v u Q I r) (h'.run pins s σ H v u Q I r)⟩
abbrev UG (X : Cx) (vs : List Nat) (tg : Expr) (g : FG) : Prop := PG X tg (tGt X.K X.mg vs g)
abbrev UGs (X : Cx) (vs : List Nat) (tg : List Expr) (g : FGs) : Prop := PGs X tg (tGts X.K X.mg vs g)
theorem wipe_set {σ : L2.St} {i : Nat} {x : Option V} : ∀ {vs : List Nat}, i ∈ vs → wipe (σ.set i x) vs = wipe σ vs
  | v :: vs, h => by
    unfold wipe
    by_cases hv : i ∈ vs
    · rw [wipe_set hv]
    · have e : v = i := by
        rcases List.mem_cons.mp h with h | h
        · exact h.symm
        · exact absurd h hv
      subst e
      clear h
      have out : ∀ (vs : List Nat), v ∉ vs → wipe (σ.set v x) vs = (wipe σ vs).set v x := by
        intro vs
        induction vs with
        | nil => intro _; rfl
        | cons w vs ih =>
          intro hn
          unfold wipe
          rw [ih (fun z => hn (List.mem_cons_of_mem _ z)), List.set_comm _ _ (fun z => hn (by rw [z]; exact List.mem_cons_self))]
      rw [out vs hv, List.set_set]
def nSet (i : Nat) : FG := fun d e => some (e.set i (some d))
theorem ug_name {i : Nat} {x : Str} {vs : List Nat} (hN : X.N.Nodup) (hm : i ∈ vs) (hi : X.N[i]? = some x := by rfl) (hx : Loc X.env.scope x := by first | exact Or.inl rfl | exact Or.inr rfl) (hf : X.fn x = true ∨ X.env.scope.names.lookup x = some .local := by first | exact .inl rfl | exact .inr rfl) : UG X vs (.Name x pos) (nSet i) := by
  refine PG.imp (pg_name hN hi hx hf) fun v σ H Q ⟨e, mu, hs, d, e', S, E, r, q, k⟩ => ?_
  cases q
  exact k _ (E.set i r) (wipe_set hm)
def nNil : FGs := fun ds e => match ds with | [] => some e | _ => none
def nCons (g : FG) (gs : FGs) : FGs := fun ds e => match ds with | d :: ds => (match g d e with | some e' => gs ds e' | none => none) | [] => none
theorem ugs_nil {vs : List Nat} : UGs X vs [] nNil := by
  refine PGs.imp pgs_nil fun us σ H Q ⟨e, mu, hs, ds, e', S, E, r, q, k⟩ => ?_
  unfold nNil at q
  split at q
  · cases q; cases r; exact ⟨rfl, k σ E rfl⟩
  · cases q
theorem ugs_cons {vs : List Nat} {tg : Expr} {tgs : List Expr} {g : FG} {gs : FGs} (h1 : UG X vs tg g) (h2 : UGs X vs tgs gs)
    (hs : (assignEach (tg :: tgs) X.env).map (·.2) = assign tg X.env :: (assignEach tgs X.env).map (·.2) := by rfl) : UGs X vs (tg :: tgs) (nCons g gs) := by
  refine PGs.imp (pgs_cons h1 h2 hs) fun us σ H Q ⟨e, mu, hs, ds, e', S, E, r, q, k⟩ => ?_
  unfold nCons at q
  split at q
  · split at q
    · rename_i e1 q1
      cases r with
      | cons r1 r2 =>
        exact ⟨_, _, rfl, e, mu, hs, _, e1, S, E, r1, q1, fun σ1 E1 w1 => ⟨e1, mu, hs, _, e', S, E1, r2, q, fun σ2 E2 w2 => k σ2 E2 (w2.trans w1)⟩⟩
    · cases q
  · cases q
/-- (a, b, ..) = a tuple, a list -/
def nTup (n : Nat) (gs : FGs) : FG := fun d e => match d with
  | .tup ds => if ds.length = n then gs ds e else none
  | .lst ds => if ds.length = n then gs ds e else none
  | _ => none
theorem ug_tup {vs : List Nat} {es : List Expr} {k : Nat} {gs : FGs} {n : Nat} (hc : X.calm = true) (h : UGs X vs es gs)
    (hn : (assignEach es X.env).length = n := by rfl) (hst : (assignEach es X.env).findIdx? (·.1) = none := by rfl) : UG X vs (.Tuple es k pos) (nTup n gs) := by
  refine PG.imp (PG.or (pg_tup (k := k) hc h hn hst) (pg_lst (k := k) hc h hn hst)) fun v σ H Q ⟨e, mu, hs, d, e', S, E, r, q, kk⟩ => ?_
  cases r with
  | tup q1 r1 =>
    unfold nTup at q; dsimp only at q
    split at q
    · rename_i hl; exact .inl ⟨_, _, rfl, q1.sq, by rw [← r1.length]; exact hl, e, mu, hs, _, e', S, E, r1, q, kk⟩
    · cases q
  | lst q1 q2 r1 =>
    unfold nTup at q; dsimp only at q
    split at q
    · rename_i hl; exact .inr ⟨_, _, rfl, .of q1, by rw [← r1.length]; exact hl, e, mu, hs, _, e', S, E, r1, q, kk⟩
    · cases q
  | _ => cases q

/-! ### assignments -/
def sSet (i : Nat) (f1 : FE) : FS := sBind f1 fun d e hs => .nx (e.set i (some d)) hs
theorem us_set {i : Nat} {x : Str} {pos' : Pos} (hN : X.N.Nodup) (ha : UE X Wd a f1) (hi : X.N[i]? = some x := by rfl) (hx : Loc X.env.scope x := by first | exact Or.inl rfl | exact Or.inr rfl) (hs : swapsWith a (some (.Name x pos')) pos.line X.env = pure false := by rfl)
    (hf : X.fn x = true ∨ X.env.scope.names.lookup x = some .local := by first | exact .inl rfl | exact .inr rfl) : US X Wd (.Assign [.Name x pos'] a pos) (sSet i f1) := by
  refine PS.imp (ps_set hN hi hx ha hs hf) fun D σ H h => ?_
  obtain ⟨e, mu, hs, S, E, q⟩ := tS_bind (r := relD X.K) h
  exact ⟨e, mu, hs, S, E, q.imp fun v H1 ⟨e, mu1, hs1, d, S1, E1, r1, g1⟩ => g1 mu1 H1 _ .refl S1 (E1.set i r1)⟩
/-- target = value -/
def sAsg (g : FG) (f1 : FE) : FS := sBind f1 fun d e hs => match g d e with | some e' => .nx e' hs | none => .bad
theorem us_asg {vs : List Nat} {tg : Expr} {g : FG} (ha : UE X Wd a f1) (hg : UG X vs tg g) (hs : swapsWithSole [tg] a pos.line X.env = pure false := by rfl) (hw : swappedStores [tg] a X.env = pure none := by rfl)
    (h1 : (assignEach [tg] X.env).map (·.2) = [assign tg X.env] := by rfl) : US X Wd (.Assign [tg] a pos) (sAsg g f1) := by
  refine PS.imp (ps_asg ha hg hs hw h1) fun D σ H h => ?_
  obtain ⟨e, mu, hs, S, E, q⟩ := tS_bind (r := relD X.K) h
  refine ⟨e, mu, hs, S, E, q.imp fun v H1 ⟨e, mu1, hs1, d, S1, E1, r1, g1⟩ => ?_⟩
  cases q : g d e with
  | none => rw [q] at g1; exact g1.elim
  | some e' => rw [q] at g1; exact ⟨e, mu1, hs1, d, e', S1, E1, r1, q, fun σ' E' _ => g1 mu1 H1 σ' .refl S1 E'⟩
/-- a, b = x, y: two plain names -/
def sPar (i j : Nat) (f : FA) : FS := sBind f fun ds e hs => match ds with | [d1, d2] => .nx ((e.set i (some d1)).set j (some d2)) hs | _ => .bad
theorem us_par {i j : Nat} {x y : Str} {fa : FA} {px py pt : Pos} {kt k2 pt2} (hc : X.calm = true) (hN : X.N.Nodup) (hij : i ≠ j) (ha : UA X Wd [a, b] fa)
    (hw : swappedStores [.Tuple [.Name x px, .Name y py] kt pt] (.Tuple [a, b] k2 pt2) X.env = pure (some [x, y]))
    (hi : X.N[i]? = some x := by rfl) (hj : X.N[j]? = some y := by rfl) (hx : X.env.scope.names.lookup x = some .local := by rfl) (hy : X.env.scope.names.lookup y = some .local := by rfl)
    (hs : swapsWithSole [.Tuple [.Name x px, .Name y py] kt pt] (.Tuple [a, b] k2 pt2) pos.line X.env = pure false := by rfl) :
    US X Wd (.Assign [.Tuple [.Name x px, .Name y py] kt pt] (.Tuple [a, b] k2 pt2) pos) (sPar i j fa) := by
  refine PS.imp (ps_par hc hN hi hj hij hx hy ha hw hs) fun D σ H h => ?_
  obtain ⟨e, mu, hs, S, E, q⟩ := tS_bind (r := relA X.K) h
  refine ⟨e, mu, hs, S, E, q.imp fun v H1 ⟨e, mu1, hs1, d, S1, E1, r1, g1⟩ => ?_⟩
  split at g1
  · cases r1 with
    | cons r1 r2 => cases r2 with
      | cons r2 r3 => cases r3; exact ⟨_, _, rfl, g1 mu1 H1 _ .refl S1 ((E1.set i r1).set j r2)⟩
  · exact g1.elim
/-- o[i] = e -/
def rSet (K : PySem.W.Frag) (mg : Str → Option Value) (g : Hs → D → D → D → Option Hs) : TSet := fun o i v H Q => ∃ mu hs d1 d2 d3 hs', Sim K mg mu hs H ∧ RD K mu H d1 o ∧ RD K mu H d2 i ∧ RD K mu H d3 v ∧ g hs d1 d2 d3 = some hs' ∧ ∀ mu' H', Lat mu H mu' H' → Sim K mg mu' hs' H' → Q H'
def sSub (g : Hs → D → D → D → Option Hs) (fv fo fi : FE) : FS := sBind fv fun v => sBind fo fun o => sBind fi fun i e hs => match g hs o i v with | some hs' => .nx e hs' | none => .bad
theorem us_sub {v o i : Expr} {fv fo fi : FE} {g : Hs → D → D → D → Option Hs} {pos' : Pos} (hg : PSet X (rSet X.K X.mg g)) (hv : UE X Wd v fv) (ho : UE X Wd o fo) (hi : UE X Wd i fi)
    (ha : ∀ v, assign (.Subscript o i pos') X.env v = (do
      let ov ← holding [v] (eval o X.env)
      let iv ← holding [v, ov] (eval i X.env)
      standAt pos'
      holding [v, ov, iv] (setItem ov iv v)
      release [v, ov, iv] []) := by intro _; rfl)
    (hs : swapsWithSole [.Subscript o i pos'] v pos.line X.env = pure false := by rfl) (hw : swappedStores [.Subscript o i pos'] v X.env = pure none := by rfl)
    (h1 : (assignEach [.Subscript o i pos'] X.env).map (·.2) = [assign (.Subscript o i pos') X.env] := by rfl) : US X Wd (.Assign [.Subscript o i pos'] v pos) (sSub g fv fo fi) := by
  refine PS.imp (ps_asg hv (pg_sub ho hi hg ha) hs hw h1) fun D σ H h => ?_
  obtain ⟨e, mu, hs, S, E, q⟩ := tS_bind (r := relD X.K) h
  refine ⟨e, mu, hs, S, E, q.imp fun x H1 ⟨e, mu1, hs1, d, S1, E1, r1, g1⟩ => ?_⟩
  refine ⟨e, mu1, hs1, S1, E1, ?_⟩
  unfold sBind at g1
  cases q2 : fo e hs1 with
  | ok d2 hs2 =>
    rw [q2] at g1
    intro mu2 H2 y2 l2 S2 r2
    refine ⟨e, mu2, hs2, S2, E1.agr (l2.agr S1), ?_⟩
    dsimp only at g1
    cases q3 : fi e hs2 with
    | ok d3 hs3 =>
      rw [q3] at g1
      intro mu3 H3 y3 l3 S3 r3
      dsimp only at g1
      cases q4 : g hs3 d2 d3 d with
      | none => rw [q4] at g1; exact g1.elim
      | some hs4 =>
        rw [q4] at g1
        exact ⟨mu3, hs3, d2, d3, d, hs4, S3, RD.agr (l3.agr S2) r2, r3, RD.agr (l3.agr S2) (RD.agr (l2.agr S1) r1), q4, fun mu4 H4 l4 S4 => g1 mu4 H4 σ (l2.trans (l3.trans l4)) S4 (((E1.agr (l2.agr S1)).agr (l3.agr S2)).agr (l4.agr S3))⟩
    | exc c fs hs' => rw [q3] at g1; exact fun mu' H' cls dx l s rr => g1 mu' H' σ cls dx (l2.trans l) s ((E1.agr (l2.agr S1)).agr (l.agr S2)) rr
    | bad => rw [q3] at g1; exact g1
  | exc c fs hs' => rw [q2] at g1; exact fun mu' H' cls dx l s rr => g1 mu' H' σ cls dx l s (E1.agr (l.agr S1)) rr
  | bad => rw [q2] at g1; exact g1
def mSetL (hs : Hs) (o i v : D) : Option Hs := match i with
  | .int k => (match refOf hs o with | some (n, xs) => (match ixN xs.length k with | some j => some (hs.set n (.lst (xs.set j v))) | none => none) | none => none)
  | _ => none
theorem sg_list : PSet X (rSet X.K X.mg mSetL) := by
  rintro pins s σ H o i v ov iv u Q I r1 r2 r3 ⟨mu, hs, d1, d2, d3, hs', S, e1, e2, e3, hg, q⟩
  unfold mSetL at hg
  split at hg
  · split at hg
    · rename_i n xs hx
      split at hg
      · rename_i j hj
        cases hg; cases e2
        obtain ⟨a, vs, rfl, h1, h2, h3⟩ := refOf_at S e1 hx
        refine set_list pins s σ H _ _ v ov iv u Q I r1 r2 r3 ⟨a, vs, _, j, rfl, rfl, h2, by rw [← h3.length]; exact hj, ?_⟩
        exact q mu _ (.write h1 (nfL h2)) (S.write h1 (RDs.set e3 j h3))
      · cases hg
    · cases hg
  · cases hg
end
/-! # G7: what is walked; for, while, comprehensions -/
/-- at turn i in this heap: none: amiss; some none: at its end; some (some d): d comes -/
abbrev Nx := Hs → Nat → Option (Option D)
def RI (K : PySem.W.Frag) (mg : Str → Option Value) (mu : Mp) (H : Hp) (nx : Nx) (J : It) : Prop := ∀ mu' H' hs', Lat mu H mu' H' → Sim K mg mu' hs' H' → ∀ i,
  (nx hs' i = some none → J.stop i H') ∧ (∀ d, nx hs' i = some (some d) → J.go i H' ∧ ∀ x H2, J.yld i H' x H2 → Lat mu' H' mu' H2 ∧ Sim K mg mu' hs' H2 ∧ RD K mu' H2 d x)
def relI (K : PySem.W.Frag) (mg : Str → Option Value) : Rel Nx It := fun _ mu _ H nx J => RI K mg mu H nx J
theorem relI_ok {K : PySem.W.Frag} {mg : Str → Option Value} : (relI K mg).Ok := fun _ _ _ _ _ _ _ _ _ _ _ h => h
abbrev FI := Ev → Hs → R Nx
abbrev UI (X : Cx) (Wd : WX) (tg iter : Expr) (f : FI) : Prop := PI X tg iter (tG (relI X.K X.mg) X.K X.mg Wd f)
theorem PI.imp {X : Cx} {tg iter : Expr} {t t' : TI} (h : PI X tg iter t) (i : ∀ σ H Q, t' σ H Q → t σ H Q) : PI X tg iter t' := ⟨fun pins s σ H R I q => h.run pins s σ H R I (i σ H R q)⟩
/-- items that stand by themselves -/
def nxL (ds : List D) : Nx := fun _ i => some ds[i]?
/-- a list of the heap, as it is at each turn -/
def nxR (n : Nat) : Nx := fun hs i => match hs[n]? with | some (.lst ds) => some ds[i]? | _ => none
/-- range -/
def nxN (lo : Int) (n : Nat) : Nx := fun _ i => some (if i < n then some (.int (lo + i)) else none)
section
variable {X : Cx} {Wd : WX} {tg a b : Expr} {f1 f2 : FE}
def iSeq (f : FE) : FI := fun e hs => (f e hs).bind fun d hs => match d with
  | .lst ds => .ok (nxL ds) hs
  | .scr ds => .ok (nxL ds) hs
  | .ref n => (match hs[n]? with | some (.lst _) => .ok (nxR n) hs | _ => .bad)
  | _ => .bad
theorem nxL_list {K : PySem.W.Frag} {mg : Str → Option Value} {mu : Mp} {H : Hp} {ds : List D} {a : Addr} {vs : List V} (h : ∀ mu' H', Lat mu H mu' H' → ∀ hs', Sim K mg mu' hs' H' → SqL K H' a vs ∧ RDs K mu' H' ds vs) : RI K mg mu H (nxL ds) (Itl K a) := by
  intro mu' H' hs' l s i
  obtain ⟨h1, h2⟩ := h mu' H' l hs' s
  refine ⟨fun q => ⟨vs, h1, ?_⟩, fun d q => ?_⟩
  · have q : ds[i]? = none := Option.some.inj q
    rw [← h2.length]
    exact List.getElem?_eq_none_iff.mp q
  · have q : ds[i]? = some d := Option.some.inj q
    obtain ⟨v, e1, e2⟩ := h2.get q
    refine ⟨⟨vs, v, h1, e1⟩, fun x H2 y => ?_⟩
    obtain ⟨rfl, y⟩ := y
    have := y vs h1
    rw [e1] at this; cases this
    exact ⟨.refl, s, e2⟩
theorem ui_seq (ha : UE X Wd a f1) : UI X Wd tg a (iSeq f1) := by
  refine PI.imp (pi_list ha) fun σ H Q h => ?_
  obtain ⟨e, mu, hs, S, E, q⟩ := tG_seq (r := relD X.K) relI_ok h
  refine ⟨e, mu, hs, S, E, q.imp fun x H1 ⟨e, mu1, hs1, d, S1, E1, r1, g1⟩ => ?_⟩
  cases r1 with
  | lst h1 h2 h3 =>
    refine ⟨_, rfl, ⟨_, .of h1⟩, g1 mu1 H1 _ .refl S1 (nxL_list fun mu' H' l hs' s' => ⟨.of ((l.agr S1).lst _ _ h1 h2), RDs.agr (l.agr S1) h3⟩)⟩
  | scr h1 h3 =>
    refine ⟨_, rfl, ⟨_, h1.sq⟩, g1 mu1 H1 _ .refl S1 (nxL_list fun mu' H' l hs' s' => ⟨((l.agr S1).stL h1).sq, RDs.agr (l.agr S1) h3⟩)⟩
  | ref hn =>
    dsimp only at g1
    split at g1
    · rename_i ds hd
      obtain ⟨u, e1, e2⟩ := S1.at hn hd
      cases u <;> first
        | (rename_i vs
           refine ⟨_, rfl, ⟨vs, .of e1⟩, g1 mu1 H1 _ .refl S1 ?_⟩
           intro mu' H' hs' l s i
           have hn' := (l.agr S1).get hn
           refine ⟨fun q => ?_, fun d q => ?_⟩
           · unfold nxR at q
             split at q
             · rename_i ds' hd'
               obtain ⟨u', f1, f2⟩ := s.at hn' hd'
               cases u' <;> first
                 | (rename_i vs'
                    refine ⟨vs', .of f1, ?_⟩
                    have q : ds'[i]? = none := Option.some.inj q
                    have f2 : RDs _ _ _ _ _ := f2
                    rw [← f2.length]
                    exact List.getElem?_eq_none_iff.mp q)
                 | exact f2.elim
             · cases q
           · unfold nxR at q
             split at q
             · rename_i ds' hd'
               obtain ⟨u', f1, f2⟩ := s.at hn' hd'
               cases u' <;> first
                 | (rename_i vs'
                    have q : ds'[i]? = some d := Option.some.inj q
                    obtain ⟨v, g1, g2⟩ := RDs.get f2 q
                    refine ⟨⟨vs', v, .of f1, g1⟩, fun x H2 y => ?_⟩
                    obtain ⟨rfl, y⟩ := y
                    have := y vs' (.of f1)
                    rw [g1] at this; cases this
                    exact ⟨.refl, s, g2⟩)
                 | exact f2.elim
             · cases q)
        | exact e2.elim
    · exact g1.elim
  | _ => exact g1.elim
/-- a tuple -/
def iTp (f : FE) : FI := fun e hs => (f e hs).bind fun d hs => match d with | .tup ds => .ok (nxL ds) hs | .ctp ds => .ok (nxL ds) hs | _ => .bad
theorem ui_tup (ha : UE X Wd a f1) : UI X Wd tg a (iTp f1) := by
  refine PI.imp (pi_tup ha) fun σ H Q h => ?_
  obtain ⟨e, mu, hs, S, E, q⟩ := tG_seq (r := relD X.K) relI_ok h
  refine ⟨e, mu, hs, S, E, q.imp fun x H1 ⟨e, mu1, hs1, d, S1, E1, r1, g1⟩ => ?_⟩
  cases r1 with
  | tup h1 h3 =>
    refine ⟨_, rfl, ⟨_, h1.sq⟩, g1 mu1 H1 _ .refl S1 ?_⟩
    intro mu' H' hs' l s i
    have k1 := ((l.agr S1).stT h1).sq
    have k2 := RDs.agr (l.agr S1) h3
    refine ⟨fun q => ⟨_, k1, ?_⟩, fun d q => ?_⟩
    · have q : _ = none := Option.some.inj q
      rw [← k2.length]
      exact List.getElem?_eq_none_iff.mp q
    · obtain ⟨v, e1, e2⟩ := k2.get (Option.some.inj q)
      refine ⟨⟨_, v, k1, e1⟩, fun x H2 y => ?_⟩
      obtain ⟨rfl, y⟩ := y
      have := y _ k1
      rw [e1] at this; cases this
      exact ⟨.refl, s, e2⟩
  | ctp h1 h3 =>
    refine ⟨_, rfl, ⟨_, sqT_c h1⟩, g1 mu1 H1 _ .refl S1 ?_⟩
    intro mu' H' hs' l s i
    have k1 : SqT X.K H' _ _ := sqT_c h1
    have k2 := RDs.agr (l.agr S1) h3
    refine ⟨fun q => ⟨_, k1, ?_⟩, fun d q => ?_⟩
    · have q : _ = none := Option.some.inj q
      rw [← k2.length]
      exact List.getElem?_eq_none_iff.mp q
    · obtain ⟨v, e1, e2⟩ := k2.get (Option.some.inj q)
      refine ⟨⟨_, v, k1, e1⟩, fun x H2 y => ?_⟩
      obtain ⟨rfl, y⟩ := y
      have := y _ k1
      rw [e1] at this; cases this
      exact ⟨.refl, s, e2⟩
  | _ => exact g1.elim
/-- range(n), range(a, b) -/
def okR (i : Int) : Bool := decide (-4611686018427387904 ≤ i) && decide (i < 4611686018427387904)
theorem okR_of {i : Int} (h : okR i = true) : -(2 ^ 62) ≤ i ∧ i < 2 ^ 62 := by
  unfold okR at h
  simp only [Bool.and_eq_true, decide_eq_true_eq] at h
  exact ⟨by have := h.1; omega, by have := h.2; omega⟩
theorem nxN_ri {K : PySem.W.Frag} {mg : Str → Option Value} {mu : Mp} {H : Hp} {lo : Int} {n : Nat} : RI K mg mu H (nxN lo n) (Itr lo n) := by
  intro mu' H' hs' l s i
  unfold nxN
  refine ⟨fun q => ?_, fun d q => ?_⟩
  · split at q
    · cases q
    · rename_i h; exact Nat.le_of_not_lt h
  · split at q
    · rename_i h
      cases q
      refine ⟨h, fun x H2 y => ?_⟩
      obtain ⟨rfl, rfl⟩ := y
      exact ⟨.refl, s, .int _⟩
    · cases q
def iR1 (f : FA) : FI := fun e hs => (f e hs).bind fun ds hs => match ds with | [.int j] => if okR j = true then .ok (nxN 0 j.toNat) hs else .bad | _ => .bad
theorem ui_range1 {p pos : Pos} {fa : FA} (hg : Gl X "range") (hm : X.mg "range" = none) (ha : UA X Wd [a] fa) (hs : starEach [a] X.env = [(false, eval a X.env)] := by rfl) : UI X Wd tg (.Call (.Name "range" p) [a] [] pos) (iR1 fa) := by
  refine PI.imp (pi_range1 hg hm ha hs) fun σ H Q h => ?_
  obtain ⟨e, mu, hs, S, E, q⟩ := tG_seq (r := relA X.K) relI_ok h
  refine ⟨e, mu, hs, S, E, q.imp fun x H1 ⟨e, mu1, hs1, d, S1, E1, r1, g1⟩ => ?_⟩
  split at g1
  · split at g1
    · rename_i j hj
      cases r1 with
      | cons r1 r2 => cases r1; cases r2; exact ⟨j, rfl, (okR_of hj).1, (okR_of hj).2, g1 mu1 H1 _ .refl S1 nxN_ri⟩
    · exact g1.elim
  · exact g1.elim
def iR2 (f : FA) : FI := fun e hs => (f e hs).bind fun ds hs => match ds with | [.int i, .int j] => if (okR i && okR j) = true then .ok (nxN i (j - i).toNat) hs else .bad | _ => .bad
/-- a text, sign by sign -/
def signs (x : Str) : List D := x.cps.toList.map fun c => .str ⟨#[c]⟩
def iStrG (f : FE) : FI := fun e hs => (f e hs).bind fun d hs => match d with | .str x => .ok (nxL (signs x)) hs | _ => .bad
theorem ui_str (ha : UE X Wd a f1) : UI X Wd tg a (iStrG f1) := by
  refine PI.imp (pi_str ha) fun σ H Q h => ?_
  obtain ⟨e, mu, hs, S, E, q⟩ := tG_seq (r := relD X.K) relI_ok h
  refine ⟨e, mu, hs, S, E, q.imp fun x H1 ⟨e, mu1, hs1, d, S1, E1, r1, g1⟩ => ?_⟩
  cases r1 with
  | str x =>
    refine ⟨x, rfl, g1 mu1 H1 _ .refl S1 ?_⟩
    intro mu' H' hs' l s i
    refine ⟨fun q => ?_, fun d q => ?_⟩
    · have q : (signs x)[i]? = none := Option.some.inj q
      unfold signs at q
      have := List.getElem?_eq_none_iff.mp q
      show x.cps.size ≤ i
      simpa using this
    · have q : (signs x)[i]? = some d := Option.some.inj q
      unfold signs at q
      rw [List.getElem?_map] at q
      obtain ⟨c, hc, rfl⟩ := Option.map_eq_some_iff.mp q
      have hc' : x.cps[i]? = some c := by rw [← Array.getElem?_toList]; exact hc
      refine ⟨(Array.getElem?_eq_some_iff.mp hc').1, fun y H2 z => ?_⟩
      obtain ⟨rfl, c', z1, rfl⟩ := z
      rw [hc'] at z1; cases z1
      exact ⟨.refl, s, .str _⟩
  | _ => exact g1.elim
end

/-! ### for -/
def forF (nx : Nx) (g : FG) (body : FS) : Nat → Nat → Ev → Hs → SR
  | fuel, i, e, hs => match nx hs i with
    | none => .bad
    | some none => .nx e hs
    | some (some d) => match fuel with
      | 0 => .bad
      | k + 1 => match g d e with
        | none => .bad
        | some e' => match body e' hs with
          | .nx e2 hs2 => forF nx g body k (i + 1) e2 hs2
          | .cnt e2 hs2 => forF nx g body k (i + 1) e2 hs2
          | .brk e2 hs2 => .nx e2 hs2
          | .ret d hs2 => .ret d hs2
          | .exc c fs e2 hs2 => .exc c fs e2 hs2
          | .bad => .bad
def fuel : Nat := 100000
def sFor (f : FI) (g : FG) (body : FS) : FS := sBind f fun nx e hs => forF nx g body fuel 0 e hs
section
variable {X : Cx} {Wd : WX} {tg iter : Expr} {f : FI} {g : FG} {body : FS} {sb : List Stmt} {pos : Pos} {vs : List Nat}
theorem us_for (hp : PassesOwn (model X.prog X.w) X.A X.env X.xe) (hc : X.calm = true) (hi : UI X Wd tg iter f) (hg : UG X vs tg g) (hb : USs X Wd sb body)
    (hs : ∀ x, foldedSetIterable iter X.env x = pure x := by intro _; rfl) : US X Wd (.For tg iter sb [] pos) (sFor f g body) := by
  refine PS.imp (ps_for hp hc hi hg hb hs) fun D σ H h => ?_
  obtain ⟨e, mu, hs, S, E, q⟩ := tS_bind (r := relI X.K X.mg) h
  refine ⟨e, mu, hs, S, E, q.imp fun J H1 ⟨e, mu1, hs1, nx, S1, E1, r1, g1⟩ => ?_⟩
  refine ⟨fun i m σ H => ∃ mu hs e, Lat mu1 H1 mu H ∧ Sim X.K X.mg mu hs H ∧ RE X.K mu H e σ ∧ GdS X.K X.mg Wd D mu H (forF nx g body m i e hs), ⟨fuel, mu1, hs1, e, .refl, S1, E1, g1⟩, ?_⟩
  rintro i m σ2 H2 ⟨mu2, hs2, e2, l2, S2, E2, q2⟩
  have ri := r1 mu2 H2 hs2 l2 S2 i
  unfold forF at q2
  split at q2
  · exact q2.elim
  · rename_i hn
    exact .inl ⟨ri.1 hn, q2 mu2 H2 σ2 .refl S2 E2⟩
  · rename_i d hd
    obtain ⟨go, yl⟩ := ri.2 d hd
    refine .inr ⟨go, ?_⟩
    split at q2
    · exact q2.elim
    · rename_i k
      split at q2
      · exact q2.elim
      · rename_i e' he'
        refine ⟨fun σ3 H3 => ∃ mu hs e, Lat mu1 H1 mu H3 ∧ Sim X.K X.mg mu hs H3 ∧ RE X.K mu H3 e σ3 ∧ GdS X.K X.mg Wd D mu H3 (forF nx g body k (i + 1) e hs), fun σ' H' h => ⟨k, Nat.lt_succ_self k, h⟩, fun x H' y => ?_⟩
        obtain ⟨l3, S3, r3⟩ := yl x H' y
        refine ⟨e2, mu2, hs2, d, e', S3, E2.agr (l3.agr S2), r3, he', fun σ' E' _ => ⟨e', mu2, hs2, S3, E', ?_⟩⟩
        have q3 := GdS.later l3 q2
        have lx := l2.trans l3
        cases r : body e' hs2 with
        | nx e4 hs4 => rw [r] at q3; exact fun mu' H' σ' l s rr => ⟨mu', hs4, e4, lx.trans l, s, rr, GdS.later l q3⟩
        | cnt e4 hs4 => rw [r] at q3; exact fun mu' H' σ' l s rr => ⟨mu', hs4, e4, lx.trans l, s, rr, GdS.later l q3⟩
        | brk e4 hs4 => rw [r] at q3; exact q3
        | ret d hs4 => rw [r] at q3; exact q3
        | exc c fs e4 hs4 => rw [r] at q3; exact q3
        | bad => rw [r] at q3; exact q3

/-! ### while -/
end

/-! ### comprehensions -/
def wipeE (e : Ev) : List Nat → Ev
  | [] => e
  | v :: vs => (wipeE e vs).set v none
theorem RE.wipe {K : PySem.W.Frag} {mu : Mp} {H : Hp} {e : Ev} {σ : L2.St} (h : RE K mu H e σ) : ∀ vs, RE K mu H (wipeE e vs) (L2.wipe σ vs)
  | [] => h
  | v :: vs => by
    have ih := RE.wipe h vs
    unfold wipeE L2.wipe
    refine ⟨by rw [List.length_set, List.length_set]; exact ih.len, fun j x q => ?_⟩
    by_cases hj : v = j
    · subst hj
      by_cases hi : v < (wipeE e vs).length
      · rw [List.getElem?_set_self hi] at q; cases q
      · rw [List.getElem?_eq_none (by simpa using hi)] at q; cases q
    · rw [List.getElem?_set_ne hj] at q
      rw [List.getElem?_set_ne hj]
      exact ih.at_ j x q
def compF (nx : Nx) (g : FG) (t : FT) (el : FE) (e : Ev) : Nat → Nat → List D → Hs → R (List D)
  | fuel, i, acc, hs => match nx hs i with
    | none => .bad
    | some none => .ok acc hs
    | some (some d) => match fuel with
      | 0 => .bad
      | k + 1 => match g d e with
        | none => .bad
        | some e' => match t e' hs with
          | .ok b hs2 => if b = true then (match el e' hs2 with
              | .ok y hs3 => if acc.length < sizeLine then compF nx g t el e k (i + 1) (acc ++ [y]) hs3 else .bad
              | _ => .bad) else compF nx g t el e k (i + 1) acc hs2
          | _ => .bad
def lComp (f : FI) (g : FG) (t : FT) (el : FE) (vs : List Nat) : FL := fun e hs => (f e hs).bind fun nx hs => compF nx g t el (wipeE e vs) fuel 0 [] hs
/-- no exception leaves -/
abbrev W0 : WX := fun _ _ _ _ => False
def tYesF : FT := fun _ hs => .ok true hs
abbrev UTs (X : Cx) (Wd : WX) (ifs : List Expr) (t : FT) : Prop := PTs X ifs (tG relB X.K X.mg Wd t)
theorem PTs.imp {X : Cx} {ifs : List Expr} {t t' : TT} (h : PTs X ifs t) (i : ∀ σ H Q, t' σ H Q → t σ H Q) : PTs X ifs t' := ⟨fun pins s σ H Q I q => h.run pins s σ H Q I (i σ H Q q)⟩
theorem wipe_idem (σ : L2.St) (vs : List Nat) : wipe (wipe σ vs) vs = wipe σ vs := by
  have one : ∀ (ws vs : List Nat), (∀ w ∈ ws, w ∈ vs) → ∀ σ, wipe (wipe σ vs) ws = wipe σ vs := by
    intro ws
    induction ws with
    | nil => intro vs _ σ; rfl
    | cons w ws ih =>
      intro vs hs σ
      have : wipe (wipe σ vs) ws = wipe σ vs := ih vs (fun z hz => hs z (List.mem_cons_of_mem _ hz)) σ
      show (wipe (wipe σ vs) ws).set w none = wipe σ vs
      rw [this]
      have gone : ∀ (vs : List Nat), w ∈ vs → ∀ σ, (wipe σ vs).set w none = wipe σ vs := by
        intro vs
        induction vs with
        | nil => intro h; cases h
        | cons v vs ih2 =>
          intro h σ
          unfold wipe
          by_cases e : w = v
          · subst e; rw [List.set_set]
          · rcases List.mem_cons.mp h with h | h
            · exact absurd h e
            · rw [List.set_comm _ _ (fun z => e z.symm), ih2 h]
      exact gone vs (hs w List.mem_cons_self) σ
  exact one vs vs (fun _ h => h) σ
section
variable {X : Cx} {Wd : WX} {elt tg iter : Expr} {ifs : List Expr} {scope : Scope} {own : List (Str × Nat)} {pos : Pos} {f : FI} {g : FG} {t : FT} {el : FE}
theorem uts_nil : UTs X Wd [] tYesF := PTs.imp pts_nil fun σ H Q ⟨e, mu, hs, S, E, q⟩ => q mu H true .refl S rfl
theorem uts_one {c : Expr} (h : UT X Wd c t) : UTs X Wd [c] t := pts_one h
theorem tG_comp {K : PySem.W.Frag} {mg : Str → Option Value} {vs : List Nat} {σ : L2.St} {H : Hp} {Q : VK} (h : tG (relF K mg) K mg Wd (lComp f g t el vs) σ H Q) :
    tLc (tG (relI K mg) K mg Wd f) (tGt K mg vs g) (tG relB K mg W0 t) (tG (relD K) K mg W0 el) vs σ H Q := by
  obtain ⟨e, mu, hs, S, E, q⟩ := h
  refine ⟨e, mu, hs, S, E, ?_⟩
  unfold lComp at q
  cases r : f e hs with
  | bad => rw [r] at q; exact q
  | exc c fs hs' => rw [r] at q; exact q
  | ok nx hs1 =>
    rw [r] at q
    rw [R.bind_ok] at q
    intro mu1 H1 J l1 S1 ri Dd hD
    have E1 := (E.agr (l1.agr S)).wipe vs
    -- the list that is made stands apart
    refine ⟨fun i m H2 => ∃ mu2 hs2 acc vacc, Lat mu1 H1 mu2 H2 ∧ Lat mu H mu2 H2 ∧ Sim K mg mu2 hs2 H2 ∧ H2 Dd = some (.lst vacc) ∧ Dd ∉ mu2.l ∧ ¬ mu2.fz Dd ∧ RDs K mu2 H2 acc vacc ∧
        Gd (relF K mg) K mg Wd σ mu H Q (compF nx g t el (wipeE e vs) m i acc hs2),
      ⟨fuel, mu1, hs1, [], [], .new hD, l1.trans (.new hD), S1.new hD, upd_same, S1.fresh hD, S1.freshz hD, .nil, q⟩, ?_⟩
    rintro i m H2 ⟨mu2, hs2, acc, vacc, l2, l02, S2, hD2, nD, nz, ra, q2⟩
    have hD0 : H Dd = none := l1.back hD fun z => nD (l2.pre.subset (l1.pre.subset z))
    have r2 := ri mu2 H2 hs2 l2 S2 i
    unfold compF at q2
    split at q2
    · exact q2.elim
    · rename_i hn
      exact .inl ⟨r2.1 hn, q2 mu2 H2 _ l02 S2 ⟨Dd, vacc, rfl, hD2, nD, nz, hD0, ra⟩⟩
    · rename_i d hd
      obtain ⟨go, yl⟩ := r2.2 d hd
      refine .inr ⟨go, ?_⟩
      split at q2
      · exact q2.elim
      · rename_i k
        split at q2
        · exact q2.elim
        · rename_i e' he'
          refine ⟨fun H3 => ∃ mu2 hs2 acc vacc, Lat mu1 H1 mu2 H3 ∧ Lat mu H mu2 H3 ∧ Sim K mg mu2 hs2 H3 ∧ H3 Dd = some (.lst vacc) ∧ Dd ∉ mu2.l ∧ ¬ mu2.fz Dd ∧ RDs K mu2 H3 acc vacc ∧
              Gd (relF K mg) K mg Wd σ mu H Q (compF nx g t el (wipeE e vs) k (i + 1) acc hs2), fun H' h => ⟨k, Nat.lt_succ_self k, h⟩, fun x H3 y => ?_⟩
          obtain ⟨l3, S3, r3⟩ := yl x H3 y
          have E3 : RE K mu2 H3 (wipeE e vs) (wipe σ vs) := (E1.agr (l2.agr S1)).agr (l3.agr S2)
          refine ⟨wipeE e vs, mu2, hs2, d, e', S3, E3, r3, he', fun σ3 E4 w3 => ⟨w3.trans (wipe_idem σ vs), e', mu2, hs2, S3, E4, ?_⟩⟩
          cases rt : t e' hs2 with
          | bad => rw [rt] at q2; exact q2
          | exc c fs hs' => rw [rt] at q2; exact q2.elim
          | ok b hs4 =>
            rw [rt] at q2
            intro mu4 H4 b' l4 S4 rb
            have rb : b = b' := rb
            subst rb
            dsimp only at q2
            have lD3 := l3.ext Dd _ hD2 nD
            have lD4 := l4.ext Dd _ lD3.1 nD
            cases b with
            | false =>
              rw [if_neg Bool.false_ne_true] at q2 ⊢
              exact ⟨mu4, hs4, acc, vacc, l2.trans (l3.trans l4), l02.trans (l3.trans l4), S4, lD4.1, lD4.2.1, fun z => nz (lD4.2.2 z), RDs.agr (l4.agr S3) (RDs.agr (l3.agr S2) ra), q2⟩
            | true =>
              rw [if_pos rfl] at q2 ⊢
              refine ⟨e', mu4, hs4, S4, E4.agr (l4.agr S3), ?_⟩
              cases re : el e' hs4 with
              | bad => rw [re] at q2; exact q2
              | exc c fs hs' => rw [re] at q2; exact q2.elim
              | ok y hs5 =>
                rw [re] at q2
                intro mu5 H5 yv l5 S5 ry
                dsimp only at q2
                split at q2
                · rename_i hz
                  have nz4 : ¬ mu4.fz Dd := fun z => nz (lD4.2.2 z)
                  have lD5 := l5.ext Dd _ lD4.1 lD4.2.1
                  have nz5 : ¬ mu5.fz Dd := fun z => nz4 (lD5.2.2 z)
                  have ra5 : RDs K mu5 H5 acc vacc := RDs.agr (l5.agr S4) (RDs.agr (l4.agr S3) (RDs.agr (l3.agr S2) ra))
                  have pv : Agr mu5 H5 mu5 (upd H5 Dd (.lst (vacc ++ [yv]))) := .priv lD5.1 nz5
                  have lall : ∀ {m0 : Mp} {H0 : Hp}, H0 Dd = none → Lat m0 H0 mu5 H5 → Lat m0 H0 mu5 (upd H5 Dd (.lst (vacc ++ [yv]))) := fun {m0 H0} h0 l => ⟨l.pre, l.sub, fun b o hb nb => by
                    have := l.ext b o hb nb
                    exact ⟨by rw [upd_ne (ne_of_none hb h0)]; exact this.1, this.2⟩, fun b o v hb => by rw [upd_ne (ne_of_none hb h0)]; exact l.frz b o v hb⟩
                  exact ⟨vacc, lD5.1, by rw [← ra.length]; exact hz, mu5, hs5, acc ++ [y], vacc ++ [yv], lall hD (l2.trans (l3.trans (l4.trans l5))), lall hD0 (l02.trans (l3.trans (l4.trans l5))), S5.priv lD5.1 lD5.2.1 nz5, upd_same, lD5.2.1, nz5, RDs.agr pv (ra5.snoc ry), q2⟩
                · exact q2.elim
theorem uf_comp (hc : X.calm = true) (hN : X.N.Nodup) (hi : UI X Wd tg iter f) (ok : BlkOk X.N X.env.scope scope own)
    (hg : ∀ (s : Shared) (H : Hp) (C : Addr) (cl : List (Str × Addr)) (fp : List Addr), UG (X.blk s H scope (compEnvC scope cl C X.env) fp) (own.map (·.2)) tg g)
    (ht : ∀ (s : Shared) (H : Hp) (C : Addr) (cl : List (Str × Addr)) (fp : List Addr), UTs (X.blk s H scope (compEnvC scope cl C X.env) fp) W0 ifs t)
    (he : ∀ (s : Shared) (H : Hp) (C : Addr) (cl : List (Str × Addr)) (fp : List Addr), UE (X.blk s H scope (compEnvC scope cl C X.env) fp) W0 elt el) (hs : ∀ x, foldedSetIterable iter X.env x = pure x := by intro _; rfl) :
    UF X Wd (.ListComp elt [⟨tg, iter, ifs, 0⟩] scope pos) (lComp f g t el (own.map (·.2))) := PE.imp (pe_lc hc hN hi ok hg ht he hs) fun σ H Q h => tG_comp h
/-- name = [..] -/
def sSetC (i : Nat) (m : Bool) (l : FL) : FS := sSet i (if m then eM l else eV l)
theorem tG_v {K : PySem.W.Frag} {mg : Str → Option Value} {l : FL} {σ : L2.St} {H : Hp} {Q : VK} (h : tG (relD K) K mg Wd (eV l) σ H Q) : tG (relF K mg) K mg Wd l σ H Q := by
  obtain ⟨e, mu, hs, S, E, g⟩ := h
  refine ⟨e, mu, hs, S, E, ?_⟩
  unfold eV at g
  cases q : l e hs with
  | ok ds hs' =>
    rw [q] at g
    intro mu' H' y l s ⟨a, vs, h1, h2, h3, h4, h5, h6⟩
    subst h1
    refine g (mu'.still a) H' _ ⟨l.pre, fun b z => .inr (l.sub b z), fun b o hb nb => ?_, l.frz⟩ (s.still h2 h3) (.lst h2 (.inl rfl) (RDs.agr .still h6))
    have := l.ext b o hb nb
    exact ⟨this.1, this.2.1, fun z => z.elim (fun e => absurd e (ne_of_none hb h5)) this.2.2⟩
  | exc c fs hs' => rw [q] at g; exact g
  | bad => rw [q] at g; exact g
theorem tG_m {K : PySem.W.Frag} {mg : Str → Option Value} {l : FL} {σ : L2.St} {H : Hp} {Q : VK} (h : tG (relD K) K mg Wd (eM l) σ H Q) : tG (relF K mg) K mg Wd l σ H Q := by
  obtain ⟨e, mu, hs, S, E, g⟩ := h
  refine ⟨e, mu, hs, S, E, ?_⟩
  unfold eM at g
  cases q : l e hs with
  | ok ds hs' =>
    rw [q] at g
    intro mu' H' y l s ⟨a, vs, h1, h2, h3, h4, h5, h6⟩
    subst h1
    refine g (mu'.own a) H' _ ⟨l.pre.trans (List.prefix_append _ _), l.sub, fun b o hb nb => ?_, l.frz⟩ (s.adopt h2 h3 h4 (.own h2) h6) (.ref (getElem?_own s.len))
    have := l.ext b o hb nb
    refine ⟨this.1, ?_, this.2.2⟩
    show b ∉ mu'.l ++ [a]
    simp only [List.mem_append, List.mem_singleton, not_or]
    exact ⟨this.2.1, ne_of_none hb h5⟩
  | exc c fs hs' => rw [q] at g; exact g
  | bad => rw [q] at g; exact g
theorem us_setC {i : Nat} {y : Str} {py spos : Pos} (m : Bool) (hc : X.calm = true) (hN : X.N.Nodup) (hi : UI X Wd tg iter f) (ok : BlkOk X.N X.env.scope scope own)
    (hsw : swapsWith (.ListComp elt [⟨tg, iter, ifs, 0⟩] scope pos) (some (.Name y py)) spos.line X.env = pure true)
    (hg : ∀ (s : Shared) (H : Hp) (C : Addr) (cl : List (Str × Addr)) (fp : List Addr), UG (X.blk s H scope (compEnvC scope cl C X.env) fp) (own.map (·.2)) tg g)
    (ht : ∀ (s : Shared) (H : Hp) (C : Addr) (cl : List (Str × Addr)) (fp : List Addr), UTs (X.blk s H scope (compEnvC scope cl C X.env) fp) W0 ifs t)
    (he : ∀ (s : Shared) (H : Hp) (C : Addr) (cl : List (Str × Addr)) (fp : List Addr), UE (X.blk s H scope (compEnvC scope cl C X.env) fp) W0 elt el)
    (hy : X.N[i]? = some y := by rfl) (hyl : X.env.scope.names.lookup y = some .local := by rfl) (hs : ∀ x, foldedSetIterable iter X.env x = pure x := by intro _; rfl) :
    US X Wd (.Assign [.Name y py] (.ListComp elt [⟨tg, iter, ifs, 0⟩] scope pos) spos) (sSetC i m (lComp f g t el (own.map (·.2)))) := by
  refine PS.imp (ps_setLc (te := tG (relD X.K) X.K X.mg W0 el) (g := tGt X.K X.mg (own.map (·.2)) g) (tt := tG relB X.K X.mg W0 t) hc hN hy hyl hsw hi ok hg ht he hs) fun D σ H h => ?_
  have hh : tG (relD X.K) X.K X.mg Wd (if m then eM (lComp f g t el (own.map (·.2))) else eV (lComp f g t el (own.map (·.2)))) σ H (fun v H1 => gName i v σ H1 D.nx) := by
    obtain ⟨e, mu, hs, S, E, q⟩ := tS_bind (r := relD X.K) h
    exact ⟨e, mu, hs, S, E, q.imp fun v H1 ⟨e, mu1, hs1, d, S1, E1, r1, g1⟩ => g1 mu1 H1 _ .refl S1 (E1.set i r1)⟩
  cases m with
  | true => exact tG_comp (tG_m hh)
  | false => exact tG_comp (tG_v hh)
end
/-! # G8: defs of the text, their calls, the law's end -/
/-- a def's promise where no repr is under way -/
structure FnG (P : Program) (w : World) (K : PySem.W.Frag) (mg : Str → Option Value) (base : Heap) (k : Nat) (f : Addr) (fd : FuncData) (ps : List Str) (sp : Sp) : Prop where
  len : ∀ vs H Q E, sp vs H Q E → vs.length = ps.length
  run : ∀ (A : Around) (outer : List Env) (s : Shared) (H : Hp) (args : Args) (us : List Value) (vs : List V) (Q : VK) (E : XK), Room k A → A.guards = some [] → Env0 P w K mg base A outer s H →
    BindsTo s fd args (ps.zip us) → Vals vs us → sp vs H Q E → codeAny (model P w) A (.call (.ref f) args) (CR (L2.CX P w) outer P w H s Q E) s
/-- the promise that a function of ours says -/
def spU (K : PySem.W.Frag) (mg : Str → Option Value) (n : Nat) (fn : List D → Hs → R D) : Sp := fun vs H Q E => ∃ mu hs ds, Sim K mg mu hs H ∧ RDs K mu H ds vs ∧ ds.length = n ∧ Gd (relD K) K mg (fun cls dx _ H' => E cls dx H') [] mu H Q (fn ds hs)
/-- a body as a function -/
def fnBody (N : Nat) (b : FS) : List D → Hs → R D := fun ds hs => match b (ds.map some ++ List.replicate (N - ds.length) none) hs with
  | .nx _ hs' => .ok .non hs'
  | .ret d hs' => .ok d hs'
  | .exc c fs _ hs' => .exc c fs hs'
  | .brk _ _ => .bad
  | .cnt _ _ => .bad
  | .bad => .bad
theorem RE.start {K : PySem.W.Frag} {mu : Mp} {H : Hp} {ds : List D} {vs : List V} (r : RDs K mu H ds vs) (N : List Str) : RE K mu H (ds.map some ++ List.replicate (N.length - ds.length) none) (start N vs) := by
  have hl := r.length
  refine ⟨by unfold L2.start; simp [hl], fun i d q => ?_⟩
  by_cases hi : i < ds.length
  · rw [List.getElem?_append_left (by simpa using hi), List.getElem?_map] at q
    cases e : ds[i]? with
    | none => rw [e] at q; cases q
    | some d' =>
      rw [e] at q; cases q
      obtain ⟨v, h1, h2⟩ := r.get e
      refine ⟨v, ?_, h2⟩
      unfold L2.start
      rw [List.getElem?_append_left (by rw [List.length_map, ← hl]; exact hi), List.getElem?_map, h1]
      rfl
  · rw [List.getElem?_append_right (by simpa using hi), List.getElem?_replicate] at q
    split at q <;> cases q
section
variable {P : Program} {w : World} {K : PySem.W.Frag} {mg : Str → Option Value} {base : Heap}
/-- what a body may lean on -/
structure Bd (X : Cx) (Wd : WX) (k : Nat) : Prop where
  calm : X.calm = true
  room : Room k X.A
  gd : X.A.guards = some []
  tk : Takes X Wd
  po : PassesOwn (model X.prog X.w) X.A X.env X.xe
  sm : ∃ o, X.base.get? sysModules = some o
theorem fnG_of {qual : Str} {f : Addr} {N ps : List Str} {k : Nat} {params : Arguments} {body : List Stmt} {scope : Scope} {x : Str} {oc dV kV doc pm cdv ct : Value} {od an : Option Addr} {osl : Array (Option Value)}
    (hsm : ∃ o, base.get? sysModules = some o) (lk : K.lookup f = some ⟨oc, od, .func (PySem.W.fnOf x qual params body scope dV kV doc pm an cdv ct), osl⟩) (hcd : PySem.W.codeIn K cdv qual = true) (S : FnScope N ps scope) (b : FS)
    (hb : ∀ (A : Around) (outer : List Env) (s : Shared) (H : Hp) (E : XK), Bd (cxOf (L2.CX P w) P w K mg base N qual scope f cdv A outer s H E) (fun cls dx _ H' => E cls dx H') k →
      USs (cxOf (L2.CX P w) P w K mg base N qual scope f cdv A outer s H E) (fun cls dx _ H' => E cls dx H') body b) :
    FnG P w K mg base (k + 1) f (PySem.W.fnOf x qual params body scope dV kV doc pm an cdv ct) ps (spU K mg ps.length (fnBody N.length b)) := by
  have len : ∀ vs H Q E, spU K mg ps.length (fnBody N.length b) vs H Q E → vs.length = ps.length := fun vs H Q E ⟨mu, hs, ds, _, r, l, _⟩ => by rw [← r.length, l]
  refine ⟨len, fun A outer s H args us vs Q E hr hgd e0 hbi r hsp => ?_⟩
  have hl := len _ _ _ _ hsp
  have KX : K.In s.heap := e0.mod.kin.keeps fun b o e => (e0.bs b o e).1
  have lim : s.heap.NoLimit := e0.mod.nolimit.keeps fun b o e => (e0.bs b o e).1
  have hkind : ∀ y ∈ ps.zip us, scope.names.lookup y.1 = some .local ∨ (scope.names.lookup y.1 = some .cell ∧ ((cellsFrom (s.heap.objs.size + 1) scope.names []).lookup y.1).isSome = true) := by
    rintro ⟨n, v⟩ hy
    exact (S.par n (List.of_mem_zip hy).1).elim .inl fun q => .inr ⟨q, PySem.W.cellsFrom_some _ _ _ (.inl q)⟩
  apply codeAny_call_function hr.depth (KX _ _ lk) rfl S.co S.gen rfl (PySem.W.codeRec_of KX hcd)
  apply hbi
  apply wpAny_newFunctionEnv_cells S.kind hkind
  rintro env rfl s1 x1
  refine ⟨lim.keeps x1.toInCall.keep, codeAny_func ?_⟩
  have I : Inv (cxOf (L2.CX P w) P w K mg base N qual scope f cdv A outer s H E) [] (start N vs) H s1 := inv_start S hr.hd e0 hl r x1
  have B : Bd (cxOf (L2.CX P w) P w K mg base N qual scope f cdv A outer s H E) (fun cls dx _ H' => E cls dx H') k := ⟨rfl, hr.deeper _, hgd, takes_of rfl rfl rfl rfl, passes_of rfl, hsm⟩
  obtain ⟨mu, hs, ds, Sm, rd, ld, g⟩ := hsp
  have hq : tS K mg (fun cls dx _ H' => E cls dx H') b { nx := fun _ H' => Q .non H', rt := Q } (start N vs) H := by
    refine ⟨_, mu, hs, Sm, RE.start rd N, ?_⟩
    unfold fnBody at g
    cases q : b (ds.map some ++ List.replicate (N.length - ds.length) none) hs with
    | nx e hs' => rw [q] at g; exact fun mu' H' σ' l s' _ => g mu' H' .non l s' .non
    | ret d hs' => rw [q] at g; exact fun mu' H' v l s' rv => g mu' H' v l s' rv
    | exc c fs e hs' => rw [q] at g; exact fun mu' H' σ' cls dx l s' _ rx => g mu' H' cls dx l s' rx
    | brk e hs' => rw [q] at g; exact g.elim
    | cnt e hs' => rw [q] at g; exact g.elim
    | bad => rw [q] at g; exact g.elim
  refine wpAny_mono ((hb A outer s H E B).run [] s1 (start N vs) H _ I hq) (fun fl s' h => ?_) fun _ _ h => h
  cases fl with
  | ret u => obtain ⟨v, σ', H', J, rv, q⟩ := h; exact ⟨v, H', J.os, J.bare, J.base, J.hok, rv, q⟩
  | next => obtain ⟨σ', H', J, q⟩ := h; exact ⟨.non, H', J.os, J.bare, J.base, J.hok, rfl, q⟩
  | brk => obtain ⟨_, _, _, z⟩ := h; exact z.elim
  | cont => obtain ⟨_, _, _, z⟩ := h; exact z.elim
theorem FnG.mono {j k : Nat} {f : Addr} {fd : FuncData} {ps : List Str} {sp : Sp} (F : FnG P w K mg base j f fd ps sp) (h : j ≤ k) : FnG P w K mg base k f fd ps sp :=
  ⟨F.len, fun A outer s H args us vs Q E hr hg => F.run A outer s H args us vs Q E (hr.mono h) hg⟩
end

/-! ### calls -/
/-- positional, keyword and default values in the parameters' order, by places -/
def selL {t : Type} (is : List Nat) (us ws dv : List t) : List t := is.filterMap fun i => (us ++ ws ++ dv)[i]?
theorem Vals.sel {vs zs dvs : List V} {us ws ds : List Value} (a : Vals vs us) (b : Vals zs ws) (c : Vals dvs ds) : ∀ is : List Nat, Vals (selL is vs zs dvs) (selL is us ws ds)
  | [] => .nil
  | i :: is => by
    have ih := Vals.sel a b c is
    have abc := Vals.append (Vals.append a b) c
    unfold selL at ih ⊢
    rw [List.filterMap_cons, List.filterMap_cons]
    cases e : (vs ++ zs ++ dvs)[i]? with
    | none => rw [Vals.none_of abc e]; exact ih
    | some x =>
      obtain ⟨u, h1, h2⟩ := Vals.get abc e
      rw [h1]
      exact .cons h2 ih
theorem RDs.none_of {K : PySem.W.Frag} {mu : Mp} {H : Hp} {ds : List D} {vs : List V} (r : RDs K mu H ds vs) {i : Nat} (e : ds[i]? = none) : vs[i]? = none := by
  rw [List.getElem?_eq_none_iff] at e ⊢
  rw [← r.length]; exact e
theorem RDs.sel {K : PySem.W.Frag} {mu : Mp} {H : Hp} {ds es dds : List D} {vs zs dvs : List V} (a : RDs K mu H ds vs) (b : RDs K mu H es zs) (c : RDs K mu H dds dvs) : ∀ is : List Nat, RDs K mu H (selL is ds es dds) (selL is vs zs dvs)
  | [] => .nil
  | i :: is => by
    have ih := RDs.sel a b c is
    have abc := (a.append b).append c
    unfold selL at ih ⊢
    rw [List.filterMap_cons, List.filterMap_cons]
    cases e : (ds ++ es ++ dds)[i]? with
    | none => rw [abc.none_of e]; exact ih
    | some x =>
      obtain ⟨u, h1, h2⟩ := abc.get e
      rw [h1]
      exact .cons h2 ih
/-- how a call binds: n positional values, keywords ks, the defaults ds; is: which value goes to each parameter -/
def BindK (K : PySem.W.Frag) (fd : FuncData) (ps : List Str) (n : Nat) (ks : List Str) (is : List Nat) (ds : List Value) : Prop :=
  ∀ (s : Shared) (us ws : List Value), K.In s.heap → us.length = n → ws.length = ks.length → BindsTo s fd ⟨us, ks.zip ws⟩ (ps.zip (selL is us ws ds))
/-- all positional -/
def eFn (fn : List D → Hs → R D) (is : List Nat) (dds : List D) (fa : FA) : FE := fun e hs => (fa e hs).bind fun ds hs => fn (selL is ds [] dds) hs
def eFnK (fn : List D → Hs → R D) (is : List Nat) (dds : List D) (fa fk : FA) : FE := fun e hs => (fa e hs).bind fun ds hs => (fk e hs).bind fun zs hs => fn (selL is ds zs dds) hs
section
variable {X : Cx} {Wd : WX} {k n : Nat} {f : Addr} {fd : FuncData} {ps ks : List Str} {fn : List D → Hs → R D} {dds : List D} {dvs : List V} {ds : List Value} {is : List Nat} {x : Str} {p pos kpos : Pos} {e : Expr} {es : List Expr} {fa fk : FA} {kws : List Keyword}
/-- the callee runs -/
theorem runG {pins : List (Addr × Obj)} {σ : L2.St} {H : Hp} {s : Shared} {Q : VK} {us ws : List Value} {vs zs : List V} (F : FnG X.prog X.w X.K X.mg X.base k f fd ps (spU X.K X.mg ps.length fn)) (hr : Room k X.A) (hgd : X.A.guards = some []) (tk : Takes X Wd)
    (hb : BindK X.K fd ps n ks is ds) (hd : Vals dvs ds) (hdd : ∀ mu H, RDs X.K mu H dds dvs) (I : Inv X pins σ H s) (r : Vals vs us) (rz : Vals zs ws) (hn : us.length = n) (hks : ws.length = ks.length)
    (h : ∃ mu hs es qs, Sim X.K X.mg mu hs H ∧ RDs X.K mu H es vs ∧ RDs X.K mu H qs zs ∧ (selL is es qs dds).length = ps.length ∧ Gd (relD X.K) X.K X.mg Wd σ mu H Q (fn (selL is es qs dds) hs)) :
    wpAny (model X.prog X.w) X.A (call (.ref f) us (ks.zip ws)) (EP X pins σ Q) X.xe s := by
  obtain ⟨mu, hs, es, qs, S, r1, r2, hl, g⟩ := h
  have hsp : spU X.K X.mg ps.length fn (selL is vs zs dvs) H Q (WE Wd σ) := by
    refine ⟨mu, hs, _, S, RDs.sel r1 r2 (hdd mu H) is, hl, ?_⟩
    cases q : fn (selL is es qs dds) hs with
    | ok d hs' => rw [q] at g; exact g
    | exc c fs hs' => rw [q] at g; exact g
    | bad => rw [q] at g; exact g
  have c := F.run X.A X.stack s H ⟨us, ks.zip ws⟩ (selL is us ws ds) (selL is vs zs dvs) Q (WE Wd σ) hr hgd I.env0 (hb s us ws I.kIn hn hks) (Vals.sel r rz hd is) hsp
  refine wpAny_call (codeAny_mono c fun rr s' hq => ?_)
  cases rr with
  | error x => exact passAt tk σ pins H s x s' I hq
  | ok fl =>
    cases fl with
    | ret u => exact I.after hq
    | _ => exact False.elim hq
theorem ue_call (F : FnG X.prog X.w X.K X.mg X.base k f fd ps (spU X.K X.mg ps.length fn)) (hr : Room k X.A) (hgd : X.A.guards = some []) (tk : Takes X Wd) (hg : Gl X x) (hm : X.mg x = some (.ref f)) (hk : PySem.W.keepIn X.K (.ref f) = true)
    (hb : BindK X.K fd ps (e :: es).length [] is ds) (hd : Vals dvs ds) (hdd : ∀ mu H, RDs X.K mu H dds dvs) (ha : UA X Wd (e :: es) fa) (hla : ∀ ev hs qs hs', fa ev hs = .ok qs hs' → (selL is qs [] dds).length = ps.length ∧ qs.length = (e :: es).length)
    (hdb : (x == ("__debug__" : Str)) = false := by decide) (he : starEach (e :: es) X.env = (false, eval e X.env) :: starEach es X.env := by rfl) (hpl : (backTo pos (starEach es X.env)).any (·.1) = false := by rfl) :
    UE X Wd (.Call (.Name x p) (e :: es) [] pos) (eFn fn is dds fa) := by
  refine ⟨fun pins s σ H Q I h => ?_⟩
  obtain ⟨ev, mu, hs, S, E, g⟩ := h
  unfold eFn at g
  refine wpAny_Call_Name_kw (ld_glob I hg hm ?_ hdb)
  refine PySem.W.callWith_K (h₀ := X.base) I.ok.mod.kin hk (thn (ha.run pos pins s σ H (fun vs H1 => ∃ mu hs es, Sim X.K X.mg mu hs H1 ∧ RDs X.K mu H1 es vs ∧ (∃ ev h0, fa ev h0 = .ok es hs) ∧ Gd (relD X.K) X.K X.mg Wd σ mu H1 Q (fn (selL is es [] dds) hs)) I ⟨ev, mu, hs, S, E, ?_⟩) fun us s1 ⟨vs, H1, I1, r, mu1, hs1, es1, S1, r1, ⟨ev1, h01, q1⟩, g1⟩ => ⟨I1.kIn, ?_⟩) he hpl
  · cases q : fa ev hs with
    | ok qs hs' => rw [q] at g; exact fun mu' H' y l s rr => ⟨mu', hs', qs, s, rr, ⟨ev, hs, q⟩, Gd.later relD_ok l g⟩
    | exc c fs hs' => rw [q] at g; exact g
    | bad => rw [q] at g; exact g
  · obtain ⟨l1, l2⟩ := hla _ _ _ _ q1
    exact runG (us := us) (ws := []) (vs := vs) (zs := []) (ks := []) F hr hgd tk hb hd hdd I1 r .nil (by rw [← r.length, ← r1.length, l2]) rfl ⟨mu1, hs1, es1, [], S1, r1, .nil, l1, g1⟩
/-- keywords -/
abbrev UK (X : Cx) (Wd : WX) (kws : List Keyword) (f : FA) : Prop := PK X kws (tG (relA X.K) X.K X.mg Wd f)
theorem PK.imp {kws : List Keyword} {t t' : TA} (h : PK X kws t) (i : ∀ σ H Q, t' σ H Q → t σ H Q) : PK X kws t' := ⟨fun pos pins s σ H Q I q => h.run pos pins s σ H Q I (i σ H Q q)⟩
theorem uk_nil : UK X Wd [] aNil := PK.imp pk_nil fun σ H Q ⟨e, mu, hs, S, E, g⟩ => g mu H [] .refl S .nil
theorem uk_cons {nm : Option Str} {e : Expr} {f : FE} {g : FA} (ha : UE X Wd e f) (hr : UK X Wd kws g) : UK X Wd (⟨nm, e, kpos⟩ :: kws) (aCons f g) := by
  refine PK.imp (pk_cons ha hr) fun σ H Q h => ?_
  obtain ⟨e, mu, hs, S, E, q⟩ := tG_seq (r := relD X.K) relA_ok h
  refine ⟨e, mu, hs, S, E, q.imp fun x H1 ⟨e, mu1, hs1, d, S1, E1, r1, g1⟩ => ?_⟩
  refine ⟨e, mu1, hs1, S1, E1, (Gd.bind (r := relA X.K) relA_ok g1).imp fun xs H2 ⟨mu2, hs2, ds, l2, S2, r2, g2⟩ => ?_⟩
  exact g2 mu2 H2 _ .refl S2 (.cons (RD.agr (l2.agr S1) r1) r2)
/-- what arguments and keywords gave -/
theorem tG_args {σ : L2.St} {H : Hp} {Q : VK} (h : tG (relD X.K) X.K X.mg Wd (eFnK fn is dds fa fk) σ H Q) :
    tG (relA X.K) X.K X.mg Wd fa σ H (fun vs H1 => tG (relA X.K) X.K X.mg Wd fk σ H1 (fun zs H2 => ∃ mu hs es qs, Sim X.K X.mg mu hs H2 ∧ RDs X.K mu H2 es vs ∧ RDs X.K mu H2 qs zs ∧ (∃ ev h0 h1, fa ev h0 = .ok es h1) ∧ (∃ ev h0 h1, fk ev h0 = .ok qs h1) ∧ Gd (relD X.K) X.K X.mg Wd σ mu H2 Q (fn (selL is es qs dds) hs))) := by
  obtain ⟨ev, mu, hs, S, E, g⟩ := h
  refine ⟨ev, mu, hs, S, E, ?_⟩
  unfold eFnK at g
  cases q : fa ev hs with
  | ok es hs1 =>
    rw [q] at g
    rw [R.bind_ok] at g
    intro mu1 H1 vs l1 S1 r1
    refine ⟨ev, mu1, hs1, S1, E.agr (l1.agr S), ?_⟩
    cases q2 : fk ev hs1 with
    | ok qs hs2 =>
      rw [q2] at g
      rw [R.bind_ok] at g
      exact fun mu2 H2 zs l2 S2 r2 => ⟨mu2, hs2, es, qs, S2, RDs.agr (l2.agr S1) r1, r2, ⟨ev, hs, _, q⟩, ⟨ev, hs1, _, q2⟩, Gd.later relD_ok (l1.trans l2) g⟩
    | exc c fs hs' => rw [q2] at g; exact fun mu' H' cls dx l s rr => g mu' H' cls dx (l1.trans l) s rr
    | bad => rw [q2] at g; exact g
  | exc c fs hs' => rw [q] at g; exact g
  | bad => rw [q] at g; exact g
end

/-! ### the law's end -/
/-- where the law is entered: the heap, with the script locked where it isn't the module's own -/
def H0of (K : PySem.W.Frag) (a : Addr) (o : Obj) (xs : List V) : Hp := fun b => if b = a ∧ K.lookup a = none then some (.frz o (.lst xs)) else none
theorem law_enter {P : Program} {w : World} {K : PySem.W.Frag} {mg mb : Str → Option Value} {k : Nat} {fa a : Addr} {fd : FuncData} {x : Str} {fn : List D → Hs → R D} {s1 : Shared} {vs : List Value} {ns : List Int}
    (KX : K.In s1.heap) (hns : s1.heap.Ns mainGlobals mg) (hsm : ∃ m, s1.heap.Ns sysModules m) (hb : s1.heap.Ns builtinsNs mb) (hbb : ∀ x : Str, x ≠ "__name__" → mb x = bootBuiltins x) (hlim : s1.heap.NoLimit) (hg : s1.gens = #[])
    (ha : s1.heap.get? a = some { cls := .type "list", data := .seq vs.toArray }) (hi : IntsAre vs ns) (hl : ns.length ≤ sizeLine) (hr : Room k callerA)
    (F : ∀ base : Heap, K.In base → base.Ns mainGlobals mg → (∃ o, base.get? sysModules = some o) → FnG P w K mg base k fa fd [x] (spU K mg 1 fn)) (hbind : ∀ (s : Shared) (u : Value), BindsTo s fd ⟨[u], []⟩ [(x, u)])
    (hok : ∃ hs', fn [.scr (ns.map D.int)] [] = .ok (.bl true) hs') :
    codeAny (model P w) callerA (.call (.ref fa) ⟨[.ref a], []⟩) (fun r s' => r = .ok (.ret (.bool true)) ∧ OldK s1.heap s'.heap ∧ s'.os = s1.os ∧ AllBare s'.gens) s1 := by
  have rv := vals_ints hi
  generalize hH : H0of K a { cls := .type "list", data := .seq vs.toArray } (ns.map V.int) = H
  have Hat : ∀ b u, H b = some u → b = a ∧ K.lookup a = none ∧ u = .frz { cls := .type "list", data := .seq vs.toArray } (.lst (ns.map V.int)) := by
    intro b u e
    rw [← hH] at e
    unfold H0of at e
    split at e
    · rename_i h; cases e; exact ⟨h.1, h.2, rfl⟩
    · cases e
  have frees : ∀ {b : Addr} {o : Obj}, s1.heap.get? b = some o → (∀ q n, o.data ≠ .seq q n) ∨ K.lookup b ≠ none → H b = none := by
    intro b o e h
    cases q : H b with
    | none => rfl
    | some u =>
      obtain ⟨rfl, hk, _⟩ := Hat b u q
      rw [ha] at e; cases e
      rcases h with h | h
      · exact absurd rfl (h _ _)
      · exact absurd hk h
  have keepNs : ∀ {b : Addr} {m : Str → Option Value}, s1.heap.Ns b m → (hidT s1.heap H).Ns b m := by
    rintro b m ⟨o, es, ep, e, d, r⟩
    exact ⟨o, es, ep, hidT_get e (frees e (.inl fun q n z => by rw [d] at z; cases z)), d, r⟩
  have kin : K.In (hidT s1.heap H) := fun b o e => hidT_get (KX b o e) (frees (KX b o e) (.inr (by rw [e]; simp)))
  have hokH : HOk P w H s1.heap := by
    intro b u e
    obtain ⟨rfl, hk, rfl⟩ := Hat b u e
    exact ⟨ha, by rw [List.length_map]; exact hl, vs, _, rv, ha⟩
  have md : Mod K mg (hidT s1.heap H) := by
    obtain ⟨mc, c1, c2⟩ := hlim
    exact ⟨kin, keepNs hns, ⟨mb, keepNs hb, hbb⟩, ⟨mc, keepNs c1, c2⟩⟩
  have e0 : Env0 P w K mg (hidT s1.heap H) callerA [] s1 H :=
    { frames := rfl, mod := md, bs := fun b o e => of_hidT e, bsz := Nat.le_of_eq (hidT_size _ _), funs := trivial, frf := fun b z => absurd (show b ∈ ([] : List Addr) from z) (by simp), hok := hokH, bare := .of_eq hg }
  have scr : RD K ⟨[], fun _ => False⟩ H (.scr (ns.map D.int)) (.ref a) := by
    refine .scr ?_ (RDs.ints ns)
    cases hk : K.lookup a with
    | none =>
      refine .inl ⟨⟨{ cls := .type "list", data := .seq vs.toArray }, ?_⟩, by simp⟩
      rw [← hH]
      exact if_pos ⟨rfl, hk⟩
    | some o =>
      have e := KX a o hk
      rw [ha] at e; cases e
      exact .inr (.inr ⟨_, vs.toArray, _, hk, rfl, rfl, rfl, by rw [List.size_toArray, hi.length]; exact hl, by simpa using rv⟩)
  obtain ⟨hs', hfn⟩ := hok
  have sp : spU K mg 1 fn [.ref a] H (fun v _ => v = .bl true) (fun _ _ _ => False) := by
    refine ⟨⟨[], fun _ => False⟩, [], [.scr (ns.map D.int)], ⟨rfl, .nil, fun b z => by simp at z, fun b z => z.elim, fun n o h => by simp at h⟩, .cons scr .nil, rfl, ?_⟩
    rw [hfn]
    intro mu' H' v l s r
    cases r; rfl
  refine codeAny_mono ((F _ kin (keepNs hns) (let ⟨_, o, _, _, e, _⟩ := hsm.elim fun m h => (⟨m, keepNs h⟩ : ∃ m, (hidT s1.heap H).Ns sysModules m); ⟨o, e⟩)).run callerA [] s1 H ⟨[.ref a], []⟩ [.ref a] [.ref a] _ _ hr rfl e0 (hbind s1 (.ref a)) (.cons rfl .nil) sp) fun r s' h => ?_
  cases r with
  | error e =>
    obtain ⟨_, _, _, _, _, _, _, _, _, _, _, _, z⟩ := h
    exact z.elim
  | ok fl =>
    cases fl with
    | ret u =>
      obtain ⟨v, H', os, bare, un, hok', rr, rfl⟩ := h
      obtain rfl : u = Value.bool true := rr
      refine ⟨rfl, OldK.of_keep fun b o e => ?_, os, bare⟩
      cases q : H b with
      | none => exact un.keep b o e q (by intro z; exact absurd (show b ∈ ([] : List Addr) from z) (by simp)) (by simp)
      | some u =>
        obtain ⟨rfl, hk, rfl⟩ := Hat b u q
        have z1 := (hokH b _ q).1
        have z2 := (hok' b _ (un.frzs b _ _ q)).1
        rw [e] at z1; cases z1
        exact z2
    | _ => exact False.elim h
/-- the goal that the head leaves -/
theorem walk_G {l : PySem.W.OpenLaw} {n k : Nat} {q : Program} {loose : List Str} {XP : (Str → Option Value) → Heap → Prop} {YP : World → Heap → Prop} {d : DefRec} {K : Params → PySem.W.Frag} {fn : List D → Hs → R D} {x : Str}
    (himp : importsNone q = true) (hn : l.most = some n) (hn2 : n ≤ sizeLine) (hdf : d.params.defaults = []) (hr : Room k callerA) (hY : ∀ (w : World) (h : Heap), YP w h → (K w.params).In h)
    (F : ∀ (w : World) (mg : Str → Option Value) (fa : Addr) (h : Heap), (K w.params).In h → h.Ns mainGlobals mg → mg d.name = some (.ref fa) →
      ∃ fd : FuncData, (∀ (s : Shared) (u : Value), BindsTo s fd ⟨[u], []⟩ [(x, u)]) ∧ ∀ base : Heap, (K w.params).In base → base.Ns mainGlobals mg → (∃ o, base.get? sysModules = some o) → FnG l.prog w (K w.params) mg base k fa fd [x] (spU (K w.params) mg 1 fn))
    (hok : ∀ ns : List Int, ns.length ≤ n → ∃ hs', fn [.scr (ns.map D.int)] [] = .ok (.bl true) hs') : PySem.W.WalkO q loose XP YP l.row.toRowW d [] (fun f vs => PySem.call f vs) := by
  refine Att.attach_call hn hdf fun w s0 s1 mg mb fa o pm cd doc a vs ns Gt Y ho hd hcd hmg hobj hints hlen hg => ?_
  obtain ⟨fd, hb, hF⟩ := F w mg fa _ (hY w _ Y) Gt.T.g hmg
  exact law_enter (hY w _ Y) Gt.T.g (let ⟨m, h, _⟩ := (Gt.T.seer himp).mods; ⟨m, h⟩) Gt.T.b Gt.T.builtins Gt.T.nolimit hg hobj hints (Nat.le_trans hlen hn2) hr hF hb (hok ns hlen)
/-! # G9: short forms for the printer -/
theorem few {n : Nat} (h : n ≤ 1000) : n ≤ sizeLine := Nat.le_trans h (by decide)
theorem selL_len {t : Type} (us ws dv : List t) : ∀ (is : List Nat), (∀ i ∈ is, i < us.length + ws.length + dv.length) → (selL is us ws dv).length = is.length
  | [], _ => rfl
  | i :: is, h => by
    have ih := selL_len us ws dv is fun j hj => h j (List.mem_cons_of_mem _ hj)
    have hi : i < (us ++ ws ++ dv).length := by simp only [List.length_append]; exact h i List.mem_cons_self
    unfold selL at ih ⊢
    rw [List.filterMap_cons, List.getElem?_eq_getElem hi, List.length_cons, ih, List.length_cons]
theorem all_lt {is : List Nat} {n : Nat} (h : is.all (fun i => decide (i < n)) = true) : ∀ i ∈ is, i < n := fun i hi => of_decide_eq_true (List.all_eq_true.mp h i hi)
section
variable {K : PySem.W.Frag} {x qual : Str} {st : Stmt} {f : Addr} {fd : FuncData} {ps ks : List Str} {n : Nat} {is : List Nat}
theorem bindK_of (F : Fun K x qual st f fd) (h : ∀ (kV doc pm : Value) (an : Option Addr) (cdv ct : Value) (us ws : List Value), us.length = n → ws.length = ks.length →
    bindArgs (PySem.W.fnOf x qual (defArgs st) (defBody st) (defScope st) .none kV doc pm an cdv ct) ⟨us, ks.zip ws⟩ = pure (ps.zip (selL is us ws []))) : BindK K fd ps n ks is [] := by
  obtain ⟨oc, od, kV, doc, pm, an, cdv, ct, osl, rfl, lk, hcd⟩ := F.ex
  exact fun s us ws _ h1 h2 => .of_eq (h kV doc pm an cdv ct us ws h1 h2)
theorem fun_ok {P : Program} {w : World} {mg : Str → Option Value} {base : Heap} {N : List Str} {k : Nat} (F : Fun K x qual st f fd) (hsm : ∃ o, base.get? sysModules = some o) (S : FnScope N ps (defScope st)) (b : FS)
    (hb : ∀ (cdv : Value) (A : Around) (outer : List Env) (s : Shared) (H : Hp) (E : XK), Bd (cxOf (L2.CX P w) P w K mg base N qual (defScope st) f cdv A outer s H E) (fun cls dx _ H' => E cls dx H') k →
      USs (cxOf (L2.CX P w) P w K mg base N qual (defScope st) f cdv A outer s H E) (fun cls dx _ H' => E cls dx H') (defBody st) b) : FnG P w K mg base (k + 1) f fd ps (spU K mg ps.length (fnBody N.length b)) := by
  obtain ⟨oc, od, kV, doc, pm, an, cdv, ct, osl, rfl, lk, hcd⟩ := F.ex
  exact fnG_of hsm lk hcd S b fun A outer s H E B => hb cdv A outer s H E B
end
section
variable {X : Cx} {Wd : WX} {k k' n : Nat} {f : Addr} {fd : FuncData} {ps ks : List Str} {fn : List D → Hs → R D} {is : List Nat} {x : Str} {p pos : Pos} {e : Expr} {es : List Expr} {fa fk : FA} {kws : List Keyword}
theorem Bd.blk {s : Shared} {H : Hp} {scope : Scope} {cenv : Env} {fp : List Addr} (B : Bd X Wd k) : Bd (X.blk s H scope cenv fp) W0 k := ⟨B.calm, B.room, B.gd, takes0, PassesOwn.never, B.sm⟩
/-- f(e, ..), no defaults -/
theorem ue_fn (B : Bd X Wd k') (F : FnG X.prog X.w X.K X.mg X.base k f fd ps (spU X.K X.mg ps.length fn)) (hr : k ≤ k') (hm : X.mg x = some (.ref f)) (hk : PySem.W.keepIn X.K (.ref f) = true)
    (hb : BindK X.K fd ps (e :: es).length [] is []) (ha : UA X Wd (e :: es) fa) (hla : ∀ ev hs qs hs', fa ev hs = .ok qs hs' → qs.length = (e :: es).length) (hi : is.all (fun i => decide (i < (e :: es).length)) = true := by decide) (hl : is.length = ps.length := by rfl) (hg : Gl X x := by rfl)
    (hdb : (x == ("__debug__" : Str)) = false := by decide) (he : starEach (e :: es) X.env = (false, eval e X.env) :: starEach es X.env := by rfl) (hpl : (backTo pos (starEach es X.env)).any (·.1) = false := by rfl) :
    UE X Wd (.Call (.Name x p) (e :: es) [] pos) (eFn fn is [] fa) :=
  ue_call F (B.room.mono hr) B.gd B.tk hg hm hk hb .nil (fun _ _ => .nil) ha (fun ev hs qs hs' h => by
    have h1 := hla ev hs qs hs' h
    exact ⟨by rw [selL_len _ _ _ _ (by rw [h1]; exact all_lt hi), hl], h1⟩) hdb he hpl
/-- what is walked, of any kind -/
theorem PI.or {tg iter : Expr} {t t' : TI} (h : PI X tg iter t) (h' : PI X tg iter t') : PI X tg iter (fun σ H R => t σ H R ∨ t' σ H R) := ⟨fun pins s σ H R I q => q.elim (h.run pins s σ H R I) (h'.run pins s σ H R I)⟩
def iAny (f : FE) : FI := fun e hs => match f e hs with
  | .ok d hs' => (match d with
    | .tup ds => .ok (nxL ds) hs'
    | .ctp ds => .ok (nxL ds) hs'
    | .lst ds => .ok (nxL ds) hs'
    | .scr ds => .ok (nxL ds) hs'
    | .ref n => (match hs'[n]? with | some (.lst _) => .ok (nxR n) hs' | _ => .bad)
    | .str x => .ok (nxL (signs x)) hs'
    | _ => .bad)
  | .exc c fs hs' => .exc c fs hs'
  | .bad => .bad
theorem ui_any {tg a : Expr} {f1 : FE} (ha : UE X Wd a f1) : UI X Wd tg a (iAny f1) := by
  refine PI.imp (PI.or (ui_seq ha) (PI.or (ui_tup ha) (ui_str ha))) fun σ H Q ⟨e, mu, hs, S, E, g⟩ => ?_
  unfold iAny at g
  cases q : f1 e hs with
  | ok d hs' =>
    rw [q] at g
    cases d with
    | tup ds => refine .inr (.inl ⟨e, mu, hs, S, E, ?_⟩); unfold iTp; rw [q]; exact g
    | ctp ds => refine .inr (.inl ⟨e, mu, hs, S, E, ?_⟩); unfold iTp; rw [q]; exact g
    | str x => refine .inr (.inr ⟨e, mu, hs, S, E, ?_⟩); unfold iStrG; rw [q]; exact g
    | lst ds => refine .inl ⟨e, mu, hs, S, E, ?_⟩; unfold iSeq; rw [q]; exact g
    | scr ds => refine .inl ⟨e, mu, hs, S, E, ?_⟩; unfold iSeq; rw [q]; exact g
    | ref n => refine .inl ⟨e, mu, hs, S, E, ?_⟩; unfold iSeq; rw [q]; exact g
    | _ => exact g.elim
  | exc c fs hs' => rw [q] at g; refine .inl ⟨e, mu, hs, S, E, ?_⟩; unfold iSeq; rw [q]; exact g
  | bad => rw [q] at g; exact g.elim
end

/-! ### what a part has made and nobody else knows is forgotten -/
mutual
/-- no number from n on -/
def bel (n : Nat) : D → Bool
  | .ref m => decide (m < n)
  | .tup ds => bels n ds
  | .lst ds => bels n ds
  | .scr ds => bels n ds
  | .ctp ds => bels n ds
  | .dct _ ds => bels n ds
  | .dtp _ ds => bels n ds
  | .dlk _ ds => bels n ds
  | .dlt _ ds => bels n ds
  | .ins _ _ ds => bels n ds
  | .exn _ _ ds => bels n ds
  | _ => true
def bels (n : Nat) : List D → Bool
  | [] => true
  | d :: ds => bel n d && bels n ds
end
def obel (n : Nat) : O → Bool
  | .lst ds => bels n ds
  | .dk kvs => bels n (kvs.map (·.2))
  | .dt kvs => bels n (kvs.map (·.2))
  | .ins _ kvs => bels n (kvs.map (·.2))
  | .lkd o => obel n o
mutual
/-- what numbers stand for, by value -/
def dW (r : Nat → Option D) : D → Option D
  | .ref m => r m
  | .tup ds => (dWs r ds).map .tup
  | .lst ds => (dWs r ds).map .lst
  | .scr ds => (dWs r ds).map .scr
  | .ctp ds => (dWs r ds).map .ctp
  | .dct ks ds => (dWs r ds).map (.dct ks)
  | .dtp ks ds => (dWs r ds).map (.dtp ks)
  | .dlk ks ds => (dWs r ds).map (.dlk ks)
  | .dlt ks ds => (dWs r ds).map (.dlt ks)
  | .ins c ks ds => (dWs r ds).map (.ins c ks)
  | .exn c ks ds => (dWs r ds).map (.exn c ks)
  | .non => some .non
  | .bl b => some (.bl b)
  | .int i => some (.int i)
  | .str s => some (.str s)
  | .ty t => some (.ty t)
  | .glb x => some (.glb x)
def dWs (r : Nat → Option D) : List D → Option (List D)
  | [] => some []
  | d :: ds => match dW r d with
    | some p => match dWs r ds with | some ps => some (p :: ps) | none => none
    | none => none
end
def dH (hs : Hs) (n : Nat) : Nat → Nat → Option D
  | 0, m => if m < n then some (.ref m) else none
  | k + 1, m => if m < n then some (.ref m) else match hs[m]? with
    | some (.lst ds) => (dWs (dH hs n k) ds).map .lst
    | some (.dk kvs) => (dWs (dH hs n k) (kvs.map (·.2))).map (.dct (kvs.map (·.1)))
    | some (.dt kvs) => (dWs (dH hs n k) (kvs.map (·.2))).map (.dtp (kvs.map (·.1)))
    | some (.ins c kvs) => (dWs (dH hs n k) (kvs.map (·.2))).map (.ins c (kvs.map (·.1)))
    | some (.lkd (.dk kvs)) => (dWs (dH hs n k) (kvs.map (·.2))).map (.dlk (kvs.map (·.1)))
    | some (.lkd (.dt kvs)) => (dWs (dH hs n k) (kvs.map (·.2))).map (.dlt (kvs.map (·.1)))
    | _ => none
/-- what stood stands, or knows nothing of what is new -/
def Cls (hs h1 : Hs) : Prop := ∀ k, k < hs.length → h1[k]? = hs[k]? ∨ ∃ o, h1[k]? = some o ∧ obel hs.length o = true
open Classical in
noncomputable def gcR (hs : Hs) : R D → R D
  | .ok d h1 => match dW (dH h1 hs.length 50) d with
    | some d' => if Cls hs h1 then .ok d' (h1.take hs.length) else .bad
    | none => .bad
  | .exc c fs h1 => match dWs (dH h1 hs.length 50) (fs.map (·.2)) with
    | some ds => if Cls hs h1 then .exc c ((fs.map (·.1)).zip ds) (h1.take hs.length) else .bad
    | none => .bad
  | .bad => .bad
noncomputable def eGc (f : FE) : FE := fun e hs => gcR hs (f e hs)
noncomputable def gcF (fn : List D → Hs → R D) : List D → Hs → R D := fun ds hs => gcR hs (fn ds hs)
/-- the numbers from n on stand still by themselves -/
def Mp.cut (mu : Mp) (n : Nat) : Mp := ⟨mu.l.take n, fun a => mu.fz a ∨ a ∈ mu.l.drop n⟩
section
variable {K : PySem.W.Frag} {mg : Str → Option Value} {mu mu1 : Mp} {hs h1 : Hs} {H H1 : Hp} {n : Nat}
theorem cut_not {a : Addr} (h : a ∉ mu.l) : a ∉ (mu.cut n).l := fun z => h (List.mem_of_mem_take z)
theorem cut_get {m : Nat} {a : Addr} (e : mu.l[m]? = some a) (h : m < n) : (mu.cut n).l[m]? = some a := by
  show (mu.l.take n)[m]? = some a
  rw [List.getElem?_take_of_lt h]; exact e
theorem cut_fz {m : Nat} {a : Addr} (e : mu.l[m]? = some a) (h : ¬ m < n) : (mu.cut n).fz a := by
  refine .inr (List.mem_of_getElem? (i := m - n) ?_)
  rw [List.getElem?_drop, show n + (m - n) = m by omega]; exact e
theorem StT.cut {a : Addr} {vs : List V} (h : StT K mu H a vs) : StT K (mu.cut n) H a vs := ⟨h.1, cut_not h.2⟩
theorem StF.cut {a : Addr} {u : HO} (h : StF mu H a u) : StF (mu.cut n) H a u := ⟨h.1, cut_not h.2⟩
theorem StE.cut {C a : Addr} {d : Option Addr} (h : StE mu H C d a) : StE (mu.cut n) H C d a := ⟨cut_not h.1, h.2⟩
theorem StX.cut {a : Addr} {kvs : List (Str × V)} (h : StX mu H a kvs) : StX (mu.cut n) H a kvs := ⟨h.1, cut_not h.2⟩
theorem StL.cut {a : Addr} {vs : List V} (h : StL K mu H a vs) : StL K (mu.cut n) H a vs := h.elim (fun h => .inl ⟨h.1, cut_not h.2⟩) .inr
mutual
theorem RD.cut0 : ∀ {d : D} {v : V}, RD K mu H d v → bel n d = true → RD K (mu.cut n) H d v
  | _, _, .non, _ => .non
  | _, _, .bl b, _ => .bl b
  | _, _, .int i, _ => .int i
  | _, _, .str s, _ => .str s
  | _, _, .tup q r, h => .tup q.cut (RDs.cut0 r h)
  | _, _, .lst q z r, h => .lst q (.inl z) (RDs.cut0 r h)
  | _, _, .scr q r, h => .scr q.cut (RDs.cut0 r h)
  | _, _, .ref e, h => .ref (cut_get e (of_decide_eq_true h))
  | _, _, .ty t, _ => .ty t
  | _, _, .ctp q r, h => .ctp q (RDs.cut0 r h)
  | _, _, .dct q z l r, h => .dct q (.inl z) l (RDs.cut0 r h)
  | _, _, .dtp q z l r, h => .dtp q (.inl z) l (RDs.cut0 r h)
  | _, _, .ins g q z l r, h => .ins g q (.inl z) l (RDs.cut0 r h)
  | _, _, .dlk q l r, h => .dlk q.cut l (RDs.cut0 r h)
  | _, _, .dlt q l r, h => .dlt q.cut l (RDs.cut0 r h)
  | _, _, .exn0 g q, _ => .exn0 g q.cut
  | _, _, .exnd g q x z r, h => .exnd g q.cut x.cut z (RDs.cut0 r h)
  | _, _, .glb g, _ => .glb g
theorem RDs.cut0 : ∀ {ds : List D} {vs : List V}, RDs K mu H ds vs → bels n ds = true → RDs K (mu.cut n) H ds vs
  | _, _, .nil, _ => .nil
  | _, _, .cons r t, h => by
    have h := (Bool.and_eq_true _ _).mp (show (bel n _ && bels n _) = true from h)
    exact .cons (RD.cut0 r h.1) (RDs.cut0 t h.2)
end
theorem RKs.cut0 {k : Type} : ∀ {ds : List (k × D)} {vs : List (k × V)}, RKs K mu H ds vs → bels n (ds.map (·.2)) = true → RKs K (mu.cut n) H ds vs
  | _, _, .nil, _ => .nil
  | _, _, .cons r t, h => by
    have h := (Bool.and_eq_true _ _).mp (show (bel n _ && bels n _) = true from h)
    exact .cons (RD.cut0 r h.1) (RKs.cut0 t h.2)
theorem RO.cut0 : ∀ {o : O} {u : HO}, RO K mg mu H o u → obel n o = true → RO K mg (mu.cut n) H o u := by
  intro o
  induction o with
  | lst ds => intro u h b; cases u <;> first | exact RDs.cut0 h b | exact h
  | dk ds => intro u h b; cases u <;> first | exact RKs.cut0 h b | exact h
  | dt ds => intro u h b; cases u <;> first | exact RKs.cut0 h b | exact h
  | ins c ds => intro u h b; cases u <;> first | exact ⟨h.1, RKs.cut0 h.2 b⟩ | exact h
  | lkd o ih => intro u h b; cases u <;> first | exact ih h b | exact h
/-! all numbers that are told are there -/
mutual
theorem RD.bel : ∀ {d : D} {v : V}, RD K mu H d v → bel mu.l.length d = true
  | _, _, .non => rfl
  | _, _, .bl b => rfl
  | _, _, .int i => rfl
  | _, _, .str s => rfl
  | _, _, .tup q r => RDs.bel r
  | _, _, .lst q z r => RDs.bel r
  | _, _, .scr q r => RDs.bel r
  | _, _, .ref e => decide_eq_true (List.getElem?_eq_some_iff.mp e).1
  | _, _, .ty t => rfl
  | _, _, .ctp q r => RDs.bel r
  | _, _, .dct q z l r => RDs.bel r
  | _, _, .dtp q z l r => RDs.bel r
  | _, _, .ins g q z l r => RDs.bel r
  | _, _, .dlk q l r => RDs.bel r
  | _, _, .dlt q l r => RDs.bel r
  | _, _, .exn0 g q => rfl
  | _, _, .exnd g q x z r => RDs.bel r
  | _, _, .glb g => rfl
theorem RDs.bel : ∀ {ds : List D} {vs : List V}, RDs K mu H ds vs → bels mu.l.length ds = true
  | _, _, .nil => rfl
  | _, _, .cons r t => (Bool.and_eq_true _ _).mpr ⟨RD.bel r, RDs.bel t⟩
end
theorem RKs.bel {k : Type} : ∀ {ds : List (k × D)} {vs : List (k × V)}, RKs K mu H ds vs → bels mu.l.length (ds.map (·.2)) = true
  | _, _, .nil => rfl
  | _, _, .cons r t => (Bool.and_eq_true _ _).mpr ⟨RD.bel r, RKs.bel t⟩
theorem RO.bel : ∀ {o : O} {u : HO}, RO K mg mu H o u → obel mu.l.length o = true := by
  intro o
  induction o with
  | lst ds => intro u h; cases u <;> first | exact RDs.bel h | exact h.elim
  | dk ds => intro u h; cases u <;> first | exact RKs.bel h | exact h.elim
  | dt ds => intro u h; cases u <;> first | exact RKs.bel h | exact h.elim
  | ins c ds => intro u h; cases u <;> first | exact RKs.bel h.2 | exact h.elim
  | lkd o ih => intro u h; cases u <;> first | exact ih h | exact h.elim
theorem dWs_len {r : Nat → Option D} : ∀ (ds ps : List D), dWs r ds = some ps → ps.length = ds.length
  | [], ps, e => by unfold dWs at e; cases e; rfl
  | d :: ds, ps, e => by
    unfold dWs at e
    split at e
    · split at e
      · rename_i qs hq
        cases e
        rw [List.length_cons, List.length_cons, dWs_len ds _ hq]
      · cases e
    · cases e
/-! by value -/
mutual
theorem RD.cutW {r : Nat → Option D} (hr : ∀ m a d, mu.l[m]? = some a → r m = some d → RD K (mu.cut n) H d (.ref a)) : ∀ (d : D) (v : V) (d' : D), RD K mu H d v → dW r d = some d' → RD K (mu.cut n) H d' v
  | .non, _, _, h, e => by cases h; cases e; exact .non
  | .bl b, _, _, h, e => by cases h; cases e; exact .bl b
  | .int i, _, _, h, e => by cases h; cases e; exact .int i
  | .str s, _, _, h, e => by cases h; cases e; exact .str s
  | .ty t, _, _, h, e => by cases h; cases e; exact .ty t
  | .glb x, _, _, h, e => by cases h with | glb g => cases e; exact .glb g
  | .ref m, _, _, h, e => by cases h with | ref q => exact hr _ _ _ q e
  | .tup ds, _, _, h, e => by
    cases h with
    | tup q r =>
      obtain ⟨ps, e1, rfl⟩ := Option.map_eq_some_iff.mp (show (dWs _ ds).map D.tup = some _ from e)
      exact .tup q.cut (RDs.cutW hr ds _ ps r e1)
  | .lst ds, _, _, h, e => by
    cases h with
    | lst q z r =>
      obtain ⟨ps, e1, rfl⟩ := Option.map_eq_some_iff.mp (show (dWs _ ds).map D.lst = some _ from e)
      exact .lst q (.inl z) (RDs.cutW hr ds _ ps r e1)
  | .scr ds, _, _, h, e => by
    cases h with
    | scr q r =>
      obtain ⟨ps, e1, rfl⟩ := Option.map_eq_some_iff.mp (show (dWs _ ds).map D.scr = some _ from e)
      exact .scr q.cut (RDs.cutW hr ds _ ps r e1)
  | .ctp ds, _, _, h, e => by
    cases h with
    | ctp q r =>
      obtain ⟨ps, e1, rfl⟩ := Option.map_eq_some_iff.mp (show (dWs _ ds).map D.ctp = some _ from e)
      exact .ctp q (RDs.cutW hr ds _ ps r e1)
  | .dct ks ds, _, _, h, e => by
    cases h with
    | dct q z l r =>
      obtain ⟨ps, e1, rfl⟩ := Option.map_eq_some_iff.mp (show (dWs _ ds).map (D.dct ks) = some _ from e)
      exact .dct q (.inl z) (l.trans (dWs_len ds ps e1).symm) (RDs.cutW hr ds _ ps r e1)
  | .dtp ks ds, _, _, h, e => by
    cases h with
    | dtp q z l r =>
      obtain ⟨ps, e1, rfl⟩ := Option.map_eq_some_iff.mp (show (dWs _ ds).map (D.dtp ks) = some _ from e)
      exact .dtp q (.inl z) (l.trans (dWs_len ds ps e1).symm) (RDs.cutW hr ds _ ps r e1)
  | .ins c ks ds, _, _, h, e => by
    cases h with
    | ins g q z l r =>
      obtain ⟨ps, e1, rfl⟩ := Option.map_eq_some_iff.mp (show (dWs _ ds).map (D.ins c ks) = some _ from e)
      exact .ins g q (.inl z) (l.trans (dWs_len ds ps e1).symm) (RDs.cutW hr ds _ ps r e1)
  | .dlk ks ds, _, _, h, e => by
    cases h with
    | dlk q l r =>
      obtain ⟨ps, e1, rfl⟩ := Option.map_eq_some_iff.mp (show (dWs _ ds).map (D.dlk ks) = some _ from e)
      exact .dlk q.cut (l.trans (dWs_len ds ps e1).symm) (RDs.cutW hr ds _ ps r e1)
  | .dlt ks ds, _, _, h, e => by
    cases h with
    | dlt q l r =>
      obtain ⟨ps, e1, rfl⟩ := Option.map_eq_some_iff.mp (show (dWs _ ds).map (D.dlt ks) = some _ from e)
      exact .dlt q.cut (l.trans (dWs_len ds ps e1).symm) (RDs.cutW hr ds _ ps r e1)
  | .exn c ks ds, _, _, h, e => by
    obtain ⟨ps, e1, rfl⟩ := Option.map_eq_some_iff.mp (show (dWs _ ds).map (D.exn c ks) = some _ from e)
    cases h with
    | exn0 g q =>
      have e2 := dWs_len _ ps e1
      obtain rfl : ps = [] := List.eq_nil_of_length_eq_zero e2
      exact .exn0 g q.cut
    | exnd g q x z r => exact .exnd g q.cut x.cut (z.trans (dWs_len ds ps e1).symm) (RDs.cutW hr ds _ ps r e1)
theorem RDs.cutW {r : Nat → Option D} (hr : ∀ m a d, mu.l[m]? = some a → r m = some d → RD K (mu.cut n) H d (.ref a)) : ∀ (ds : List D) (vs : List V) (ds' : List D), RDs K mu H ds vs → dWs r ds = some ds' → RDs K (mu.cut n) H ds' vs
  | [], _, _, h, e => by cases h; cases e; exact .nil
  | d :: ds, _, _, h, e => by
    cases h with
    | cons r1 r2 =>
      unfold dWs at e
      split at e
      · rename_i p hp
        split at e
        · rename_i ps hps
          cases e
          exact .cons (RD.cutW hr d _ p r1 hp) (RDs.cutW hr ds _ ps r2 hps)
        · cases e
      · cases e
end
theorem RKs.keys {k : Type} : ∀ {ds : List (k × D)} {vs : List (k × V)}, RKs K mu H ds vs → vs.map (·.1) = ds.map (·.1)
  | _, _, .nil => rfl
  | _, _, .cons _ t => by rw [List.map_cons, List.map_cons, RKs.keys t]
theorem RKs.vals {k : Type} : ∀ {ds : List (k × D)} {vs : List (k × V)}, RKs K mu H ds vs → RDs K mu H (ds.map (·.2)) (vs.map (·.2))
  | _, _, .nil => .nil
  | _, _, .cons r t => .cons r (RKs.vals t)
theorem zip_back {k t : Type} (vs : List (k × t)) : (vs.map (·.1)).zip (vs.map (·.2)) = vs := by
  induction vs with
  | nil => rfl
  | cons p vs ih => simp only [List.map_cons, List.zip_cons_cons, ih]
theorem dH_at (S : Sim K mg mu hs H) : ∀ (k m : Nat) (a : Addr) (d : D), mu.l[m]? = some a → dH hs n k m = some d → RD K (mu.cut n) H d (.ref a)
  | 0, m, a, d, hm, e => by
    unfold dH at e
    split at e
    · rename_i h; cases e; exact .ref (cut_get hm h)
    · cases e
  | k + 1, m, a, d, hm, e => by
    unfold dH at e
    split at e
    · rename_i h; cases e; exact .ref (cut_get hm h)
    · rename_i h
      have fz := cut_fz (n := n) hm h
      split at e
      · rename_i ds hd
        obtain ⟨ps, e1, rfl⟩ := Option.map_eq_some_iff.mp e
        obtain ⟨u, h1, h2⟩ := S.at hm hd
        cases u <;> first
          | exact .lst h1 fz (RDs.cutW (fun m a d q1 q2 => dH_at S k m a d q1 q2) ds _ ps h2 e1)
          | exact h2.elim
      · rename_i kvs hd
        obtain ⟨ps, e1, rfl⟩ := Option.map_eq_some_iff.mp e
        obtain ⟨u, h1, h2⟩ := S.at hm hd
        cases u <;> first
          | (rename_i vs
             have h2 : RKs K mu H kvs vs := h2
             refine .dct (vs := vs.map (·.2)) ?_ fz ?_ (RDs.cutW (fun m a d q1 q2 => dH_at S k m a d q1 q2) _ _ ps h2.vals e1)
             · rw [← h2.keys, zip_back]; exact h1
             · rw [dWs_len _ _ e1, List.length_map, List.length_map])
          | exact h2.elim
      · rename_i kvs hd
        obtain ⟨ps, e1, rfl⟩ := Option.map_eq_some_iff.mp e
        obtain ⟨u, h1, h2⟩ := S.at hm hd
        cases u <;> first
          | (rename_i vs
             have h2 : RKs K mu H kvs vs := h2
             refine .dtp (vs := vs.map (·.2)) ?_ fz ?_ (RDs.cutW (fun m a d q1 q2 => dH_at S k m a d q1 q2) _ _ ps h2.vals e1)
             · rw [← h2.keys, zip_back]; exact h1
             · rw [dWs_len _ _ e1, List.length_map, List.length_map])
          | exact h2.elim
      · rename_i c kvs hd
        obtain ⟨ps, e1, rfl⟩ := Option.map_eq_some_iff.mp e
        obtain ⟨u, h1, h2⟩ := S.at hm hd
        cases u <;> first
          | (rename_i C dx vs
             obtain ⟨hg, h2⟩ : PySem.W.nsIn K mainGlobals c = some (some (.ref C)) ∧ RKs K mu H kvs vs := h2
             refine .ins (C := C) (dx := dx) (vs := vs.map (·.2)) hg ?_ fz ?_ (RDs.cutW (fun m a d q1 q2 => dH_at S k m a d q1 q2) _ _ ps h2.vals e1)
             · rw [← h2.keys, zip_back]; exact h1
             · rw [dWs_len _ _ e1, List.length_map, List.length_map])
          | exact h2.elim
      · rename_i kvs hd
        obtain ⟨ps, e1, rfl⟩ := Option.map_eq_some_iff.mp e
        obtain ⟨u, h1, h2⟩ := S.at hm hd
        cases u with
        | frz o u =>
          have h2 : RO K mg mu H (.dk kvs) u := h2
          cases u with
          | dK vs =>
            have h2 : RKs K mu H kvs vs := h2
            have hb : (n ≤ m) := Nat.le_of_not_lt h
            refine .dlk (vs := vs.map (·.2)) ⟨⟨o, ?_⟩, fun z => ?_⟩ ?_ (RDs.cutW (fun m a d q1 q2 => dH_at S k m a d q1 q2) _ _ ps h2.vals e1)
            · rw [← h2.keys, zip_back]; exact h1
            · have nd := S.nd
              rw [← List.take_append_drop n mu.l, List.nodup_append] at nd
              refine nd.2.2 a z a ?_ rfl
              refine List.mem_of_getElem? (i := m - n) ?_
              rw [List.getElem?_drop, show n + (m - n) = m by omega]; exact hm
            · rw [dWs_len _ _ e1, List.length_map, List.length_map]
          | _ => exact h2.elim
        | _ => exact h2.elim
      · rename_i kvs hd
        obtain ⟨ps, e1, rfl⟩ := Option.map_eq_some_iff.mp e
        obtain ⟨u, h1, h2⟩ := S.at hm hd
        cases u with
        | frz o u =>
          have h2 : RO K mg mu H (.dt kvs) u := h2
          cases u with
          | dT vs =>
            have h2 : RKs K mu H kvs vs := h2
            have hb : (n ≤ m) := Nat.le_of_not_lt h
            refine .dlt (vs := vs.map (·.2)) ⟨⟨o, ?_⟩, fun z => ?_⟩ ?_ (RDs.cutW (fun m a d q1 q2 => dH_at S k m a d q1 q2) _ _ ps h2.vals e1)
            · rw [← h2.keys, zip_back]; exact h1
            · have nd := S.nd
              rw [← List.take_append_drop n mu.l, List.nodup_append] at nd
              refine nd.2.2 a z a ?_ rfl
              refine List.mem_of_getElem? (i := m - n) ?_
              rw [List.getElem?_drop, show n + (m - n) = m by omega]; exact hm
            · rw [dWs_len _ _ e1, List.length_map, List.length_map]
          | _ => exact h2.elim
        | _ => exact h2.elim
      · cases e
theorem Sim.le (S : Sim K mg mu hs H) (S1 : Sim K mg mu1 h1 H1) (l : Lat mu H mu1 H1) : hs.length ≤ h1.length := by
  rw [← S.len, ← S1.len]; exact l.pre.length_le
theorem Sim.cut (S : Sim K mg mu hs H) (S1 : Sim K mg mu1 h1 H1) (l : Lat mu H mu1 H1) (c : Cls hs h1) : Sim K mg (mu1.cut hs.length) (h1.take hs.length) H1 := by
  have hle := S.le S1 l
  refine ⟨?_, ?_, ?_, ?_, ?_⟩
  · show (mu1.l.take hs.length).length = _
    rw [List.length_take, List.length_take, S1.len]
  · exact S1.nd.sublist (List.take_sublist ..)
  · rintro a m (z | z)
    · exact S1.dj a (List.mem_of_mem_take m) z
    · have nd := S1.nd
      rw [← List.take_append_drop hs.length mu1.l, List.nodup_append] at nd
      exact nd.2.2 a m a z rfl
  · rintro a (z | z)
    · exact S1.fzl a z
    · exact S1.there (List.mem_of_mem_drop z)
  · intro k o hk
    have hlt : k < hs.length := by
      have := (List.getElem?_eq_some_iff.mp hk).1
      rw [List.length_take] at this
      omega
    rw [List.getElem?_take_of_lt hlt] at hk
    obtain ⟨a, u, e1, e2, e3⟩ := S1.obj k o hk
    refine ⟨a, u, cut_get e1 hlt, e2, RO.cut0 e3 ?_⟩
    rcases c k hlt with q | ⟨o', q1, q2⟩
    · rw [hk] at q
      obtain ⟨b, w, _, _, f3⟩ := S.obj k o q.symm
      rw [← S.len]; exact RO.bel f3
    · rw [hk] at q1; cases q1; exact q2
theorem Lat.cut (S : Sim K mg mu hs H) (l : Lat mu H mu1 H1) : Lat mu H (mu1.cut hs.length) H1 := by
  refine ⟨?_, fun a z => .inl (l.sub a z), fun a o h m => ?_, l.frz⟩
  · obtain ⟨t, e⟩ := l.pre
    show mu.l <+: mu1.l.take hs.length
    rw [← e, ← S.len, List.take_left]
    exact List.prefix_rfl
  · obtain ⟨q1, q2, q3⟩ := l.ext a o h m
    exact ⟨q1, cut_not q2, fun z => z.elim q3 fun z => absurd (List.mem_of_mem_drop z) q2⟩
theorem RKs.zipW {ks : List Str} : ∀ {fs : List (Str × D)} {vs : List (Str × V)} {ds : List D}, RKs K mu H fs vs → RDs K (mu.cut n) H ds (vs.map (·.2)) → RKs K (mu.cut n) H ((fs.map (·.1)).zip ds) vs
  | _, _, _, .nil, _ => .nil
  | _, _, _, .cons r t, h => by
    cases h with
    | cons h1 h2 => exact .cons h1 (RKs.zipW (ks := ks) t h2)
/-- a result with what is new forgotten -/
theorem Gd.gc {Wd : WX} {σ : L2.St} {Q : V → Hp → Prop} {x : R D} (S : Sim K mg mu hs H) (g : Gd (relD K) K mg Wd σ mu H Q (gcR hs x)) : Gd (relD K) K mg Wd σ mu H Q x := by
  cases x with
  | bad => exact g
  | ok d h1 =>
    unfold gcR at g
    dsimp only at g
    split at g
    · rename_i d' hd
      split at g
      · rename_i hc
        intro mu1 H1 y l S1 r
        exact g _ _ y (Lat.cut S l) (S.cut S1 l hc) (RD.cutW (fun m a d q1 q2 => dH_at S1 50 m a d q1 q2) d y d' r hd)
      · exact g.elim
    · exact g.elim
  | exc c fs h1 =>
    unfold gcR at g
    dsimp only at g
    split at g
    · rename_i ds hd
      split at g
      · rename_i hc
        intro mu1 H1 cls dx l S1 ⟨C, r1, r2, r3⟩
        refine g _ _ cls dx (Lat.cut S l) (S.cut S1 l hc) ⟨C, r1, r2, ?_⟩
        rcases r3 with ⟨rfl, r3⟩ | ⟨a, vs, r3, r4, r5, r6⟩
        · exact .inl ⟨rfl, r3⟩
        · exact .inr ⟨a, vs, r3, r4, cut_not r5, RKs.zipW (ks := []) r6 (RDs.cutW (fun m a d q1 q2 => dH_at S1 50 m a d q1 q2) _ _ ds r6.vals hd)⟩
      · exact g.elim
    · exact g.elim
end
theorem ue_gc {X : Cx} {Wd : WX} {a : Expr} {f : FE} (h : UE X Wd a f) : UE X Wd a (eGc f) :=
  PE.imp h fun σ H Q ⟨e, mu, hs, S, E, g⟩ => ⟨e, mu, hs, S, E, Gd.gc S g⟩
theorem FnG.gc {P : Program} {w : World} {K : PySem.W.Frag} {mg : Str → Option Value} {base : Heap} {k n : Nat} {f : Addr} {fd : FuncData} {ps : List Str} {fn : List D → Hs → R D} (F : FnG P w K mg base k f fd ps (spU K mg n fn)) : FnG P w K mg base k f fd ps (spU K mg n (gcF fn)) :=
  ⟨fun vs H Q E ⟨mu, hs, ds, S, r, l, g⟩ => F.len vs H Q E ⟨mu, hs, ds, S, r, l, Gd.gc S g⟩, fun A outer s H args us vs Q E hr hg he hb hv ⟨mu, hs, ds, S, r, l, g⟩ => F.run A outer s H args us vs Q E hr hg he hb hv ⟨mu, hs, ds, S, r, l, Gd.gc S g⟩⟩
/-! # G10: plain laws of the functions of the layer -/
/-! ### heaps of ours -/
theorem get_set_eq {hs : Hs} {n : Nat} {o p : O} (h : hs[n]? = some p) : (hs.set n o)[n]? = some o := by
  rw [List.getElem?_set_self]; exact (List.getElem?_eq_some_iff.mp h).1
theorem get_set_ne {hs : Hs} {n m : Nat} {o : O} (h : n ≠ m) : (hs.set n o)[m]? = hs[m]? := List.getElem?_set_ne h
theorem get_app {hs : Hs} {n : Nat} {o p : O} (h : hs[n]? = some p) : (hs ++ [o])[n]? = some p := by
  rw [List.getElem?_append_left (List.getElem?_eq_some_iff.mp h).1]; exact h
theorem get_new {hs : Hs} {o : O} : (hs ++ [o])[hs.length]? = some o := by simp
theorem lt_of_get {hs : Hs} {n : Nat} {p : O} (h : hs[n]? = some p) : n < hs.length := (List.getElem?_eq_some_iff.mp h).1
/-- all but what is told stands -/
def Frm (S : Nat → Prop) (hs hs' : Hs) : Prop := hs.length ≤ hs'.length ∧ ∀ n, n < hs.length → ¬ S n → hs'[n]? = hs[n]?
theorem Frm.refl {S : Nat → Prop} {hs : Hs} : Frm S hs hs := ⟨Nat.le_refl _, fun _ _ _ => rfl⟩
theorem Frm.trans {S : Nat → Prop} {h0 h1 h2 : Hs} (a : Frm S h0 h1) (b : Frm S h1 h2) : Frm S h0 h2 :=
  ⟨Nat.le_trans a.1 b.1, fun n hn s => (b.2 n (Nat.lt_of_lt_of_le hn a.1) s).trans (a.2 n hn s)⟩
theorem Frm.get {S : Nat → Prop} {hs hs' : Hs} (f : Frm S hs hs') {n : Nat} {o : O} (h : hs[n]? = some o) (s : ¬ S n) : hs'[n]? = some o := (f.2 n (lt_of_get h) s).trans h
theorem Frm.app {S : Nat → Prop} {hs : Hs} {o : O} : Frm S hs (hs ++ [o]) := ⟨by simp, fun n hn _ => by rw [List.getElem?_append_left hn]⟩
theorem Frm.set {S : Nat → Prop} {hs : Hs} {n : Nat} {o : O} (s : S n) : Frm S hs (hs.set n o) := ⟨by simp, fun m _ ns => List.getElem?_set_ne (show n ≠ m from fun e => ns (e ▸ s))⟩
theorem Frm.mono {S T : Nat → Prop} {hs hs' : Hs} (f : Frm S hs hs') (h : ∀ n, n < hs.length → S n → T n) : Frm T hs hs' := ⟨f.1, fun n hn t => f.2 n hn fun s => t (h n hn s)⟩

/-! ### data -/
@[simp] theorem pd_non {hs : Hs} : pd hs .non = some .none := rfl
@[simp] theorem pd_bl {hs : Hs} {b : Bool} : pd hs (.bl b) = some (.bool b) := rfl
@[simp] theorem pd_int {hs : Hs} {i : Int} : pd hs (.int i) = some (.int i) := rfl
@[simp] theorem pd_str {hs : Hs} {s : Str} : pd hs (.str s) = some (.str s) := rfl
/-- signs that are signs -/
def okS (x : Str) : Bool := x.cps.all (· < 0x110000)
theorem gEqB_str {hs : Hs} {x y : Str} (hx : okS x = true) (hy : okS y = true) : gEqB hs (.str x) (.str y) = some (x == y) := rfl
theorem eq_str {hs : Hs} {x y : Str} : gEqB hs (.str x) (.str y) = some (x == y) := rfl

/-! ### loops -/
/-! # G11: what holds behind a function's run -/
abbrev XQ := Str → List (Str × D) → Hs → Prop
/-- r ends so -/
@[irreducible] def Wp {a : Type} (r : R a) (Q : a → Hs → Prop) (X : XQ) : Prop := match r with
  | .ok x h => Q x h
  | .exc c fs h => X c fs h
  | .bad => False
abbrev nX : XQ := fun _ _ _ => False
structure Po where
  nx : Ev → Hs → Prop
  rt : D → Hs → Prop := fun _ _ => False
  bk : Ev → Hs → Prop := fun _ _ => False
  ct : Ev → Hs → Prop := fun _ _ => False
  ex : Str → List (Str × D) → Ev → Hs → Prop := fun _ _ _ _ => False
/-- the same, but for what comes next; the same within a loop -/
@[reducible] def Po.wnx (P : Po) (N : Ev → Hs → Prop) : Po := { P with nx := N }
@[reducible] def Po.lp (P : Po) (I : Ev → Hs → Prop) : Po := { nx := I, ct := I, bk := P.nx, rt := P.rt, ex := P.ex }
@[irreducible] def Ws (r : SR) (P : Po) : Prop := match r with
  | .nx e h => P.nx e h
  | .ret d h => P.rt d h
  | .brk e h => P.bk e h
  | .cnt e h => P.ct e h
  | .exc c fs e h => P.ex c fs e h
  | .bad => False
section
variable {a b : Type} {Q : D → Hs → Prop} {X : XQ} {e : Ev} {hs : Hs}
theorem wp_bind {r : R a} {k : a → Hs → R b} {Q : b → Hs → Prop} (h : Wp r (fun x h => Wp (k x h) Q X) X) : Wp (r.bind k) Q X := by with_unfolding_all (cases r <;> exact h)
theorem wp_ok {x : a} {Q : a → Hs → Prop} (h : Q x hs) : Wp (.ok x hs) Q X := by with_unfolding_all exact h
theorem wp_some {x : a} {Q : a → Hs → Prop} {o : Option a} (e : o = some x) (h : Q x hs) : Wp (R.ofO o hs) Q X := by with_unfolding_all (subst e; exact h)
theorem wp_someP {x : a} {Q : a → Hs → Prop} {o : Option (a × Hs)} {hs' : Hs} (e : o = some (x, hs')) (h : Q x hs') : Wp (R.ofP o) Q X := by with_unfolding_all (subst e; exact h)
theorem wp_mono {r : R a} {Q Q' : a → Hs → Prop} {X X' : XQ} (h : Wp r Q X) (i : ∀ x h, Q x h → Q' x h) (j : ∀ c fs h, X c fs h → X' c fs h) : Wp r Q' X' := by
  with_unfolding_all
  cases r with
  | ok x h' => exact i _ _ h
  | exc c fs h' => exact j _ _ _ h
  | bad => exact h
theorem wp_of {r : R a} {Q : a → Hs → Prop} {x : a} {hs' : Hs} (e : r = .ok x hs') (h : Q x hs') : Wp r Q X := by with_unfolding_all (subst e; exact h)
theorem wp_get {r : R a} {Q : a → Hs → Prop} (h : Wp r Q nX) : ∃ x hs', r = .ok x hs' ∧ Q x hs' := by
  with_unfolding_all
  cases r with
  | ok x h' => exact ⟨x, h', rfl, h⟩
  | exc c fs h' => exact h.elim
  | bad => exact h.elim
theorem wp_name {i : Nat} {d : D} (q : e[i]? = some (some d)) (h : Q d hs) : Wp (eName i e hs) Q X := by with_unfolding_all (unfold eName; rw [q]; exact h)
theorem wp_c {d : D} (h : Q d hs) : Wp (eC d e hs) Q X := by with_unfolding_all exact h
theorem wp_anil {Q : List D → Hs → Prop} (h : Q [] hs) : Wp (aNil e hs) Q X := by with_unfolding_all exact h
theorem wp_acons {f : FE} {g : FA} {Q : List D → Hs → Prop} (h : Wp (f e hs) (fun d h => Wp (g e h) (fun ds h => Q (d :: ds) h) X) X) : Wp (aCons f g e hs) Q X := by
  with_unfolding_all
  refine wp_bind (wp_mono h (fun d h' q => wp_bind (wp_mono q (fun _ _ q => q) fun _ _ _ x => x)) fun _ _ _ x => x)
theorem wp_ev {f : FL} (h : Wp (f e hs) (fun ds h => Q (.lst ds) h) X) : Wp (eV f e hs) Q X := by with_unfolding_all exact wp_bind (wp_mono h (fun _ _ q => q) fun _ _ _ x => x)
theorem wp_em {f : FL} (h : Wp (f e hs) (fun ds h => Q (.ref h.length) (h ++ [.lst ds])) X) : Wp (eM f e hs) Q X := by with_unfolding_all exact wp_bind (wp_mono h (fun _ _ q => q) fun _ _ _ x => x)
theorem wp_tup {f : FA} (h : Wp (f e hs) (fun ds h => Q (.tup ds) h) X) : Wp (eTup f e hs) Q X := by with_unfolding_all exact wp_bind (wp_mono h (fun _ _ q => q) fun _ _ _ x => x)
theorem wp_bin {g : Hs → D → D → Option D} {f1 f2 : FE} (h : Wp (f1 e hs) (fun x h1 => Wp (f2 e h1) (fun y h2 => Wp (R.ofO (g h2 x y) h2) Q X) X) X) : Wp (eBin g f1 f2 e hs) Q X := by with_unfolding_all exact wp_bind (wp_mono h (fun _ _ q => wp_bind q) fun _ _ _ x => x)
theorem wp_un {g : Hs → D → Option D} {f1 : FE} (h : Wp (f1 e hs) (fun x h1 => Wp (R.ofO (g h1 x) h1) Q X) X) : Wp (eUn g f1 e hs) Q X := by with_unfolding_all exact wp_bind h
theorem wp_chain {g g' : Hs → D → D → Option D} {f1 f2 f3 : FE} (h : Wp (f1 e hs) (fun x h1 => Wp (f2 e h1) (fun y h2 => Wp (R.ofO (g h2 x y) h2) (fun k h3 => ∃ c, k = .bl c ∧ (c = true → Wp (f3 e h3) (fun z h4 => Wp (R.ofO (g' h4 y z) h4) Q X) X) ∧ (c = false → Q (.bl false) h3)) X) X) X) : Wp (eChain g g' f1 f2 f3 e hs) Q X := by
  with_unfolding_all
  refine wp_bind (wp_mono h (fun x h1 q => wp_bind (wp_mono q (fun y h2 q => wp_bind (wp_mono q (fun k h3 q => ?_) fun _ _ _ x => x)) fun _ _ _ x => x)) fun _ _ _ x => x)
  obtain ⟨c, rfl, q1, q2⟩ := q
  cases c with
  | true => exact wp_bind (q1 rfl)
  | false => exact q2 rfl
theorem wp_eb {f : FE} {Q : Bool → Hs → Prop} (h : Wp (f e hs) (fun d h => ∃ c, d = .bl c ∧ Q c h) X) : Wp (eB f e hs) Q X := by
  with_unfolding_all
  refine wp_bind (wp_mono h (fun d h' q => ?_) fun _ _ _ x => x)
  obtain ⟨c, rfl, q⟩ := q
  exact q
theorem wp_et {f : FE} {Q : Bool → Hs → Prop} (h : Wp (f e hs) (fun d h => Wp (R.ofO (tru h d) h) Q X) X) : Wp (eT f e hs) Q X := by with_unfolding_all exact wp_bind h
theorem wp_andF {f g : FT} {Q : Bool → Hs → Prop} (h : Wp (f e hs) (fun c h => (c = true → Wp (g e h) Q X) ∧ (c = false → Q false h)) X) : Wp (tAndF f g e hs) Q X := by
  with_unfolding_all
  refine wp_bind (wp_mono h (fun c h' q => ?_) fun _ _ _ x => x)
  cases c with
  | true => exact q.1 rfl
  | false => exact q.2 rfl
theorem wp_orF {f g : FT} {Q : Bool → Hs → Prop} (h : Wp (f e hs) (fun c h => (c = true → Q true h) ∧ (c = false → Wp (g e h) Q X)) X) : Wp (tOrF f g e hs) Q X := by
  with_unfolding_all
  refine wp_bind (wp_mono h (fun c h' q => ?_) fun _ _ _ x => x)
  cases c with
  | true => exact q.1 rfl
  | false => exact q.2 rfl
theorem wp_notF {f : FT} {Q : Bool → Hs → Prop} (h : Wp (f e hs) (fun c h => Q (!c) h) X) : Wp (tNotF f e hs) Q X := by with_unfolding_all exact wp_bind (wp_mono h (fun _ _ q => q) fun _ _ _ x => x)
theorem wp_yes {Q : Bool → Hs → Prop} (h : Q true hs) : Wp (tYesF e hs) Q X := by with_unfolding_all exact h
theorem wp_and {f g : FE} (h : Wp (f e hs) (fun d h => ∃ c, d = .bl c ∧ (c = true → Wp (g e h) Q X) ∧ (c = false → Q (.bl false) h)) X) : Wp (eAnd f g e hs) Q X := by
  with_unfolding_all
  refine wp_bind (wp_mono h (fun d h' q => ?_) fun _ _ _ x => x)
  obtain ⟨c, rfl, q1, q2⟩ := q
  cases c with
  | true => exact q1 rfl
  | false => exact q2 rfl
theorem wp_or {f g : FE} (h : Wp (f e hs) (fun d h => ∃ c, d = .bl c ∧ (c = true → Q (.bl true) h) ∧ (c = false → Wp (g e h) Q X)) X) : Wp (eOr f g e hs) Q X := by
  with_unfolding_all
  refine wp_bind (wp_mono h (fun d h' q => ?_) fun _ _ _ x => x)
  obtain ⟨c, rfl, q1, q2⟩ := q
  cases c with
  | true => exact q1 rfl
  | false => exact q2 rfl
theorem wp_not {f : FE} (h : Wp (f e hs) (fun d h => ∃ c, d = .bl c ∧ Q (.bl (!c)) h) X) : Wp (eNot f e hs) Q X := by
  with_unfolding_all
  refine wp_bind (wp_mono h (fun d h' q => ?_) fun _ _ _ x => x)
  obtain ⟨c, rfl, q⟩ := q
  exact q
theorem wp_if {t : FT} {f g : FE} (h : Wp (t e hs) (fun c h => (c = true → Wp (f e h) Q X) ∧ (c = false → Wp (g e h) Q X)) X) : Wp (eIf t f g e hs) Q X := by
  with_unfolding_all
  refine wp_bind (wp_mono h (fun c h' q => ?_) fun _ _ _ x => x)
  cases c with
  | true => exact q.1 rfl
  | false => exact q.2 rfl
theorem wp_onone {Q : Option Int → Hs → Prop} (h : Q none hs) : Wp (oNone e hs) Q X := by with_unfolding_all exact h
theorem wp_osome {f : FE} {Q : Option Int → Hs → Prop} (h : Wp (f e hs) (fun d h => ∃ i, d = .int i ∧ Q (some i) h) X) : Wp (oSome f e hs) Q X := by
  with_unfolding_all
  refine wp_bind (wp_mono h (fun d h' q => ?_) fun _ _ _ x => x)
  obtain ⟨i, rfl, q⟩ := q
  exact q
theorem wp_sl {f : FE} {lo hi : FO} (h : Wp (f e hs) (fun d h => Wp (lo e h) (fun l h => Wp (hi e h) (fun u h => Wp (R.ofO (gSl h d l u) h) Q X) X) X) X) : Wp (eSl f lo hi e hs) Q X := by with_unfolding_all exact wp_bind (wp_mono h (fun _ _ q => wp_bind (wp_mono q (fun _ _ q => wp_bind q) fun _ _ _ x => x)) fun _ _ _ x => x)
theorem wp_rev {f : FE} {Q : List D → Hs → Prop} (h : Wp (f e hs) (fun d h => Wp (R.ofO ((rdOf h d).map List.reverse) h) Q X) X) : Wp (lRev f e hs) Q X := by with_unfolding_all exact wp_bind h
theorem wp_list {f : FE} {Q : List D → Hs → Prop} (h : Wp (f e hs) (fun d h => Wp (R.ofO (seqOf h d) h) Q X) X) : Wp (lList f e hs) Q X := by with_unfolding_all exact wp_bind h
theorem wp_call {g : Hs → List D → Option D} {f : FA} (h : Wp (f e hs) (fun ds h => Wp (R.ofO (g h ds) h) Q X) X) : Wp (eCall g f e hs) Q X := by with_unfolding_all exact wp_bind h
theorem wp_mt {c : Hs → D → Bool} {g : Hs → D → List D → Option (D × Hs)} {f1 : FE} {f : FA} (h : Wp (f1 e hs) (fun d h => c h d = true ∧ Wp (f e h) (fun ds h => Wp (R.ofP (g h d ds)) Q X) X) X) : Wp (eMt c g f1 f e hs) Q X := by
  with_unfolding_all
  refine wp_bind (wp_mono h (fun d h' q => ?_) fun _ _ _ x => x)
  rw [if_pos q.1]
  exact wp_bind q.2
theorem wp_fn {fn : List D → Hs → R D} {is : List Nat} {dds : List D} {fa : FA} (h : Wp (fa e hs) (fun ds h => Wp (fn (selL is ds [] dds) h) Q X) X) : Wp (eFn fn is dds fa e hs) Q X := by with_unfolding_all exact wp_bind h
theorem wp_fnK {fn : List D → Hs → R D} {is : List Nat} {dds : List D} {fa fk : FA} (h : Wp (fa e hs) (fun ds h => Wp (fk e h) (fun zs h => Wp (fn (selL is ds zs dds) h) Q X) X) X) : Wp (eFnK fn is dds fa fk e hs) Q X := by with_unfolding_all exact wp_bind (wp_mono h (fun _ _ q => wp_bind q) fun _ _ _ x => x)
/-- a body -/
theorem wp_body {N : Nat} {b : FS} {ds : List D} (h : Ws (b (ds.map some ++ List.replicate (N - ds.length) none) hs) { nx := fun _ h => Q .non h, rt := Q, ex := fun c fs _ h => X c fs h }) : Wp (fnBody N b ds hs) Q X := by
  with_unfolding_all
  unfold fnBody
  cases q : b (ds.map some ++ List.replicate (N - ds.length) none) hs <;> rw [q] at h <;> exact h

theorem wp_bodyE {N : Nat} {b : FS} {ds : List D} (e0 : Ev) (he : ds.map some ++ List.replicate (N - ds.length) none = e0) (h : Ws (b e0 hs) { nx := fun _ h => Q .non h, rt := Q, ex := fun c fs _ h => X c fs h }) : Wp (fnBody N b ds hs) Q X := by with_unfolding_all (subst he; exact wp_body h)
/-! ### statements -/
variable {P : Po}
theorem ws_skip (h : P.nx e hs) : Ws (sSkip e hs) P := by with_unfolding_all exact h
theorem ws_mono {r : SR} {P P' : Po} (h : Ws r P) (h1 : ∀ e h, P.nx e h → P'.nx e h) (h2 : ∀ d h, P.rt d h → P'.rt d h) (h3 : ∀ e h, P.bk e h → P'.bk e h) (h4 : ∀ e h, P.ct e h → P'.ct e h) (h5 : ∀ c fs e h, P.ex c fs e h → P'.ex c fs e h) : Ws r P' := by
  with_unfolding_all
  cases r with
  | nx e h' => exact h1 _ _ h
  | ret d h' => exact h2 _ _ h
  | brk e h' => exact h3 _ _ h
  | cnt e h' => exact h4 _ _ h
  | exc c fs e h' => exact h5 _ _ _ _ h
  | bad => exact h
theorem ws_seq {f g : FS} (h : Ws (f e hs) (P.wnx fun e' h' => Ws (g e' h') P)) : Ws (sSeq f g e hs) P := by
  with_unfolding_all
  unfold sSeq
  cases q : f e hs <;> rw [q] at h <;> exact h
theorem ws_bind {f : Ev → Hs → R a} {k : a → FS} (h : Wp (f e hs) (fun x h => Ws (k x e h) P) (fun c fs h => P.ex c fs e h)) : Ws (sBind f k e hs) P := by
  with_unfolding_all
  unfold sBind
  cases q : f e hs <;> rw [q] at h <;> exact h
theorem ws_drop {f : FE} (h : Wp (f e hs) (fun _ h => P.nx e h) (fun c fs h => P.ex c fs e h)) : Ws (sDrop f e hs) P := by with_unfolding_all exact ws_bind h
theorem ws_ret {f : FE} (h : Wp (f e hs) (fun d h => P.rt d h) (fun c fs h => P.ex c fs e h)) : Ws (sRet f e hs) P := by with_unfolding_all exact ws_bind h
theorem ws_retN (h : P.rt .non hs) : Ws (sRetN e hs) P := by with_unfolding_all exact h
theorem ws_set {i : Nat} {f : FE} (h : Wp (f e hs) (fun d h => P.nx (e.set i (some d)) h) (fun c fs h => P.ex c fs e h)) : Ws (sSet i f e hs) P := by with_unfolding_all exact ws_bind h
theorem ws_setC {i : Nat} {f : FL} (h : Wp (f e hs) (fun ds h => P.nx (e.set i (some (.lst ds))) h) (fun c fs h => P.ex c fs e h)) : Ws (sSetC i false f e hs) P := by with_unfolding_all exact ws_set (wp_ev h)
theorem ws_setCM {i : Nat} {f : FL} (h : Wp (f e hs) (fun ds h => P.nx (e.set i (some (.ref h.length))) (h ++ [.lst ds])) (fun c fs h => P.ex c fs e h)) : Ws (sSetC i true f e hs) P := by with_unfolding_all exact ws_set (wp_em h)
theorem ws_if {t : FT} {f g : FS} (h : Wp (t e hs) (fun c h => (c = true → Ws (f e h) P) ∧ (c = false → Ws (g e h) P)) (fun c fs h => P.ex c fs e h)) : Ws (sIf t f g e hs) P := by
  with_unfolding_all
  refine ws_bind (wp_mono h (fun c h' q => ?_) fun _ _ _ x => x)
  cases c with
  | true => exact q.1 rfl
  | false => exact q.2 rfl
theorem ws_asg {g : FG} {f : FE} (h : Wp (f e hs) (fun d h => ∃ e', g d e = some e' ∧ P.nx e' h) (fun c fs h => P.ex c fs e h)) : Ws (sAsg g f e hs) P := by
  with_unfolding_all
  refine ws_bind (wp_mono h (fun d h' q => ?_) fun _ _ _ x => x)
  obtain ⟨e', h1, h2⟩ := q
  rw [h1]; exact h2
theorem ws_par {i j : Nat} {f : FA} (h : Wp (f e hs) (fun ds h => ∃ d1 d2, ds = [d1, d2] ∧ P.nx ((e.set i (some d1)).set j (some d2)) h) (fun c fs h => P.ex c fs e h)) : Ws (sPar i j f e hs) P := by
  with_unfolding_all
  refine ws_bind (wp_mono h (fun d h' q => ?_) fun _ _ _ x => x)
  obtain ⟨d1, d2, rfl, h2⟩ := q
  exact h2
theorem ws_sub {g : Hs → D → D → D → Option Hs} {fv fo fi : FE} (h : Wp (fv e hs) (fun v h => Wp (fo e h) (fun o h => Wp (fi e h) (fun i h => ∃ h', g h o i v = some h' ∧ P.nx e h') (fun c fs h => P.ex c fs e h)) (fun c fs h => P.ex c fs e h)) (fun c fs h => P.ex c fs e h)) : Ws (sSub g fv fo fi e hs) P := by
  with_unfolding_all
  refine ws_bind (wp_mono h (fun v h' q => ws_bind (wp_mono q (fun o h' q => ws_bind (wp_mono q (fun i h' q => ?_) fun _ _ _ x => x)) fun _ _ _ x => x)) fun _ _ _ x => x)
  obtain ⟨h2, h3, h4⟩ := q
  rw [h3]; exact h4
/-- loops -/
theorem ws_forF {nx : Nx} {g : FG} {body : FS} {n : Nat} (I : Nat → Ev → Hs → Prop)
    (step : ∀ i e hs, i < n → I i e hs → ∃ d e', nx hs i = some (some d) ∧ g d e = some e' ∧ Ws (body e' hs) (P.lp (I (i + 1))))
    (stop : ∀ e hs, I n e hs → nx hs n = some none ∧ P.nx e hs) : ∀ (k i : Nat) (e : Ev) (hs : Hs), n - i ≤ k → i ≤ n → I i e hs → Ws (forF nx g body k i e hs) P
  | k, i, e, hs, hk, hi, h => by
    with_unfolding_all
    by_cases hlt : i < n
    · obtain ⟨d, e', h1, h2, h3⟩ := step i e hs hlt h
      cases k with
      | zero => omega
      | succ k =>
        unfold forF
        rw [h1]
        dsimp only
        rw [h2]
        dsimp only
        cases q : body e' hs with
        | nx e2 hs2 => rw [q] at h3; exact ws_forF I step stop k (i + 1) e2 hs2 (by omega) (by omega) h3
        | cnt e2 hs2 => rw [q] at h3; exact ws_forF I step stop k (i + 1) e2 hs2 (by omega) (by omega) h3
        | brk e2 hs2 => rw [q] at h3; exact h3
        | ret d hs2 => rw [q] at h3; exact h3
        | exc c fs e2 hs2 => rw [q] at h3; exact h3
        | bad => rw [q] at h3; exact h3
    · have e1 : i = n := by omega
      subst e1
      obtain ⟨s1, s2⟩ := stop e hs h
      cases k <;> (unfold forF; rw [s1]; exact s2)
theorem ws_for {f : FI} {g : FG} {body : FS} (h : Wp (f e hs) (fun nx h => ∃ (n : Nat) (I : Nat → Ev → Hs → Prop), n ≤ 100000 ∧ I 0 e h ∧
    (∀ i e hs, i < n → I i e hs → ∃ d e', nx hs i = some (some d) ∧ g d e = some e' ∧ Ws (body e' hs) (P.lp (I (i + 1)))) ∧
    (∀ e hs, I n e hs → nx hs n = some none ∧ P.nx e hs)) (fun c fs h => P.ex c fs e h)) : Ws (sFor f g body e hs) P := by
  with_unfolding_all
  refine ws_bind (wp_mono h (fun nx h' q => ?_) fun _ _ _ x => x)
  obtain ⟨n, I, hn, h0, hs, hd⟩ := q
  exact ws_forF I hs hd fuel 0 e h' (by unfold fuel; omega) (Nat.zero_le _) h0
/-- a comprehension -/
theorem wp_compF {nx : Nx} {g : FG} {t : FT} {el : FE} {e : Ev} {n : Nat} {Q : List D → Hs → Prop} (I : Nat → List D → Hs → Prop)
    (step : ∀ i acc hs, i < n → I i acc hs → ∃ d e', nx hs i = some (some d) ∧ g d e = some e' ∧ Wp (t e' hs) (fun c h => (c = true → acc.length < sizeLine ∧ Wp (el e' h) (fun y h => I (i + 1) (acc ++ [y]) h) nX) ∧ (c = false → I (i + 1) acc h)) nX)
    (stop : ∀ acc hs, I n acc hs → nx hs n = some none ∧ Q acc hs) : ∀ (k i : Nat) (acc : List D) (hs : Hs), n - i ≤ k → i ≤ n → I i acc hs → Wp (compF nx g t el e k i acc hs) Q X
  | k, i, acc, hs, hk, hi, h => by
    with_unfolding_all
    by_cases hlt : i < n
    · obtain ⟨d, e', h1, h2, h3⟩ := step i acc hs hlt h
      cases k with
      | zero => omega
      | succ k =>
        unfold compF
        rw [h1]
        dsimp only
        rw [h2]
        dsimp only
        cases q : t e' hs with
        | bad => rw [q] at h3; exact h3
        | exc c fs h' => rw [q] at h3; exact h3.elim
        | ok c hs2 =>
          rw [q] at h3
          dsimp only
          cases c with
          | false => rw [if_neg Bool.false_ne_true]; exact wp_compF I step stop k (i + 1) acc hs2 (by omega) (by omega) (h3.2 rfl)
          | true =>
            rw [if_pos rfl]
            obtain ⟨hz, h4⟩ := h3.1 rfl
            cases q2 : el e' hs2 with
            | bad => rw [q2] at h4; exact h4
            | exc c fs h' => rw [q2] at h4; exact h4.elim
            | ok y hs3 =>
              rw [q2] at h4
              dsimp only
              rw [if_pos hz]
              exact wp_compF I step stop k (i + 1) (acc ++ [y]) hs3 (by omega) (by omega) h4
    · have e1 : i = n := by omega
      subst e1
      obtain ⟨s1, s2⟩ := stop acc hs h
      cases k <;> (unfold compF; rw [s1]; exact s2)
theorem wp_comp {f : FI} {g : FG} {t : FT} {el : FE} {vs : List Nat} {Q : List D → Hs → Prop} (h : Wp (f e hs) (fun nx h => ∃ (n : Nat) (I : Nat → List D → Hs → Prop), n ≤ 100000 ∧ I 0 [] h ∧
    (∀ i acc hs, i < n → I i acc hs → ∃ d e', nx hs i = some (some d) ∧ g d (wipeE e vs) = some e' ∧ Wp (t e' hs) (fun c h => (c = true → acc.length < sizeLine ∧ Wp (el e' h) (fun y h => I (i + 1) (acc ++ [y]) h) nX) ∧ (c = false → I (i + 1) acc h)) nX) ∧
    (∀ acc hs, I n acc hs → nx hs n = some none ∧ Q acc hs)) X) : Wp (lComp f g t el vs e hs) Q X := by
  with_unfolding_all
  refine wp_bind (wp_mono h (fun nx h' q => ?_) fun _ _ _ x => x)
  obtain ⟨n, I, hn, h0, hs, hd⟩ := q
  exact wp_compF I hs hd fuel 0 [] h' (by unfold fuel; omega) (Nat.zero_le _) h0
/-- a comprehension that maps, the heap as it is -/
theorem wp_cmap {f : FI} {g : FG} {el : FE} {vs : List Nat} {Q : List D → Hs → Prop} (F : D → D) (h : Wp (f e hs) (fun nx h => ∃ ds, nx = nxL ds ∧ ds.length ≤ 100000 ∧ (∀ d ∈ ds, ∃ e', g d (wipeE e vs) = some e' ∧ Wp (el e' h) (fun y h' => y = F d ∧ h' = h) nX) ∧ Q (ds.map F) h) X) : Wp (lComp f g tYesF el vs e hs) Q X := by
  with_unfolding_all
  refine wp_comp (wp_mono h (fun nx h' q => ?_) fun _ _ _ x => x)
  obtain ⟨ds, rfl, hl, hd, q⟩ := q
  refine ⟨ds.length, fun i acc h => h = h' ∧ acc = (ds.take i).map F, hl, ⟨rfl, rfl⟩, fun i acc h hi ⟨e1, e2⟩ => ?_, fun acc h ⟨e1, e2⟩ => ?_⟩
  · subst e1 e2
    obtain ⟨e', h1, h2⟩ := hd ds[i] (List.getElem_mem hi)
    refine ⟨ds[i], e', by unfold nxL; rw [List.getElem?_eq_getElem hi], h1, wp_yes ⟨fun _ => ⟨?_, wp_mono h2 (fun y h3 ⟨e1, e2⟩ => ⟨e2, ?_⟩) fun _ _ _ x => x⟩, fun z => by cases z⟩⟩
    · rw [List.length_map, List.length_take]
      have : sizeLine = 16777216 := sizeLine_eq
      omega
    · rw [e1, List.take_add_one, List.getElem?_eq_getElem hi, List.map_append]
      rfl
  · subst e1 e2
    exact ⟨by unfold nxL; rw [List.getElem?_eq_none (Nat.le_refl _)], by rw [List.take_length]; exact q⟩
/-- what is walked -/
theorem wp_r1 {f : FA} {Q : Nx → Hs → Prop} (h : Wp (f e hs) (fun ds h => ∃ j, ds = [.int j] ∧ okR j = true ∧ Q (nxN 0 j.toNat) h) X) : Wp (iR1 f e hs) Q X := by
  with_unfolding_all
  refine wp_bind (wp_mono h (fun d h' q => ?_) fun _ _ _ x => x)
  obtain ⟨j, rfl, h1, h2⟩ := q
  dsimp only
  rw [if_pos h1]; exact h2
theorem wp_r2 {f : FA} {Q : Nx → Hs → Prop} (h : Wp (f e hs) (fun ds h => ∃ i j, ds = [.int i, .int j] ∧ okR i = true ∧ okR j = true ∧ Q (nxN i (j - i).toNat) h) X) : Wp (iR2 f e hs) Q X := by
  with_unfolding_all
  refine wp_bind (wp_mono h (fun d h' q => ?_) fun _ _ _ x => x)
  obtain ⟨i, j, rfl, h1, h2, h3⟩ := q
  dsimp only
  rw [if_pos (by rw [h1, h2]; rfl)]; exact h3
def itOf (h : Hs) (d : D) : Option Nx := match d with
  | .tup ds => some (nxL ds)
  | .ctp ds => some (nxL ds)
  | .lst ds => some (nxL ds)
  | .scr ds => some (nxL ds)
  | .ref n => (match h[n]? with | some (.lst _) => some (nxR n) | _ => none)
  | .str x => some (nxL (signs x))
  | _ => none
theorem wp_any {f : FE} {Q : Nx → Hs → Prop} (h : Wp (f e hs) (fun d h => ∃ nx, itOf h d = some nx ∧ Q nx h) X) : Wp (iAny f e hs) Q X := by
  with_unfolding_all
  unfold iAny
  cases q : f e hs with
  | bad => rw [q] at h; exact h
  | exc c fs h' => rw [q] at h; exact h
  | ok d h' =>
    rw [q] at h; unfold Wp at h
    obtain ⟨nx, h1, h2⟩ := h
    unfold itOf at h1
    cases d with
    | ref n =>
      dsimp only at h1 ⊢
      split at h1
      · rename_i ds hd; cases h1; first | exact h2 | (rw [hd]; exact h2)
      · cases h1
    | _ => first | (cases h1; exact h2) | cases h1
end

/-! ### what is new forgotten -/
theorem wp_gcR {hs : Hs} {r : R D} {Q : D → Hs → Prop} {X : XQ} (h : Wp r (fun d h1 => ∃ d', dW (dH h1 hs.length 50) d = some d' ∧ Cls hs h1 ∧ Q d' (h1.take hs.length))
    (fun c fs h1 => ∃ ds, dWs (dH h1 hs.length 50) (fs.map (·.2)) = some ds ∧ Cls hs h1 ∧ X c ((fs.map (·.1)).zip ds) (h1.take hs.length))) : Wp (gcR hs r) Q X := by
  with_unfolding_all
  unfold Wp at h
  cases r with
  | bad => exact h.elim
  | ok d h1 =>
    obtain ⟨d', e1, e2, q⟩ := h
    unfold gcR
    dsimp only
    rw [e1]
    dsimp only
    rw [if_pos e2]
    exact q
  | exc c fs h1 =>
    obtain ⟨d', e1, e2, q⟩ := h
    unfold gcR
    dsimp only
    rw [e1]
    dsimp only
    rw [if_pos e2]
    exact q
theorem wp_gcF {fn : List D → Hs → R D} {ds : List D} {hs : Hs} {Q : D → Hs → Prop} {X : XQ} (h : Wp (fn ds hs) (fun d h1 => ∃ d', dW (dH h1 hs.length 50) d = some d' ∧ Cls hs h1 ∧ Q d' (h1.take hs.length))
    (fun c fs h1 => ∃ ds, dWs (dH h1 hs.length 50) (fs.map (·.2)) = some ds ∧ Cls hs h1 ∧ X c ((fs.map (·.1)).zip ds) (h1.take hs.length))) : Wp (gcF fn ds hs) Q X := wp_gcR h
mutual
/-- no numbers in it -/
def val : D → Bool
  | .ref _ => false
  | .tup ds => vals ds
  | .lst ds => vals ds
  | .scr ds => vals ds
  | .ctp ds => vals ds
  | .dct _ ds => vals ds
  | .dtp _ ds => vals ds
  | .dlk _ ds => vals ds
  | .dlt _ ds => vals ds
  | .ins _ _ ds => vals ds
  | .exn _ _ ds => vals ds
  | _ => true
def vals : List D → Bool
  | [] => true
  | d :: ds => val d && vals ds
end
mutual
theorem dW_val {r : Nat → Option D} : ∀ {d : D}, val d = true → dW r d = some d
  | .non, _ => rfl
  | .bl _, _ => rfl
  | .int _, _ => rfl
  | .str _, _ => rfl
  | .ty _, _ => rfl
  | .glb _, _ => rfl
  | .ref _, h => nomatch h
  | .tup ds, h => by show (dWs r ds).map D.tup = _; rw [dWs_val (ds := ds) h]; rfl
  | .lst ds, h => by show (dWs r ds).map D.lst = _; rw [dWs_val (ds := ds) h]; rfl
  | .scr ds, h => by show (dWs r ds).map D.scr = _; rw [dWs_val (ds := ds) h]; rfl
  | .ctp ds, h => by show (dWs r ds).map D.ctp = _; rw [dWs_val (ds := ds) h]; rfl
  | .dct ks ds, h => by show (dWs r ds).map (D.dct ks) = _; rw [dWs_val (ds := ds) h]; rfl
  | .dtp ks ds, h => by show (dWs r ds).map (D.dtp ks) = _; rw [dWs_val (ds := ds) h]; rfl
  | .dlk ks ds, h => by show (dWs r ds).map (D.dlk ks) = _; rw [dWs_val (ds := ds) h]; rfl
  | .dlt ks ds, h => by show (dWs r ds).map (D.dlt ks) = _; rw [dWs_val (ds := ds) h]; rfl
  | .ins c ks ds, h => by show (dWs r ds).map (D.ins c ks) = _; rw [dWs_val (ds := ds) h]; rfl
  | .exn c ks ds, h => by show (dWs r ds).map (D.exn c ks) = _; rw [dWs_val (ds := ds) h]; rfl
theorem dWs_val {r : Nat → Option D} : ∀ {ds : List D}, vals ds = true → dWs r ds = some ds
  | [], _ => rfl
  | d :: ds, h => by
    have h := (Bool.and_eq_true _ _).mp (show (val d && vals ds) = true from h)
    show (match dW r d with | some p => (match dWs r ds with | some ps => some (p :: ps) | none => none) | none => none) = _
    rw [dW_val h.1, dWs_val h.2]
end
theorem vals_all : ∀ {ds : List D}, (∀ x ∈ ds, val x = true) → vals ds = true
  | [], _ => rfl
  | d :: ds, h => (Bool.and_eq_true _ _).mpr ⟨h d List.mem_cons_self, vals_all fun x hx => h x (List.mem_cons_of_mem _ hx)⟩
theorem dH_lst {hs : Hs} {n m k : Nat} {ds : List D} (h : hs[m]? = some (.lst ds)) (l : n ≤ m) (v : vals ds = true) : dH hs n (k + 1) m = some (.lst ds) := by
  unfold dH
  rw [if_neg (by omega), h]
  show (dWs _ ds).map D.lst = _
  rw [dWs_val v]; rfl
theorem dH_ins {hs : Hs} {n m k : Nat} {c : Str} {kvs : List (Str × D)} (h : hs[m]? = some (.ins c kvs)) (l : n ≤ m) (v : vals (kvs.map (·.2)) = true) : dH hs n (k + 1) m = some (.ins c (kvs.map (·.1)) (kvs.map (·.2))) := by
  unfold dH
  rw [if_neg (by omega), h]
  show (dWs _ (kvs.map (·.2))).map (D.ins c _) = _
  rw [dWs_val v]; rfl
/-! # G12: the deck that all laws draw from -/
theorem ix_ref {h : Hs} {n : Nat} {ds : List D} {i : Int} {d : D} (e : h[n]? = some (.lst ds)) (q : atI ds i = some d) : gIx h (.ref n) (.int i) = some d := by
  unfold gIx
  show (match seqOf h (.ref n) with | some ds => atI ds i | none => none) = some d
  have : seqOf h (.ref n) = some ds := by unfold seqOf rdOf lstOf; dsimp only; rw [e]
  rw [this]; exact q
theorem ix_lst {h : Hs} {ds : List D} {i : Int} {d : D} (q : atI ds i = some d) : gIx h (.lst ds) (.int i) = some d := q
theorem ix_tup {h : Hs} {ds : List D} {i : Int} {d : D} (q : atI ds i = some d) : gIx h (.tup ds) (.int i) = some d := q
theorem set_ref {h : Hs} {n : Nat} {ds : List D} {i : Int} {j : Nat} {v : D} (e : h[n]? = some (.lst ds)) (q : ixN ds.length i = some j) : mSetL h (.ref n) (.int i) v = some (h.set n (.lst (ds.set j v))) := by
  unfold mSetL refOf
  dsimp only
  rw [e]
  dsimp only
  rw [q]
theorem pop_ref {h : Hs} {n : Nat} {ds : List D} {d : D} (e : h[n]? = some (.lst ds)) (q : ds[ds.length - 1]? = some d) : mPop h (.ref n) [] = some (d, h.set n (.lst ds.dropLast)) := by
  unfold mPop refOf
  dsimp only
  rw [e]
  dsimp only
  rw [q]
theorem app_ref {h : Hs} {n : Nat} {ds : List D} {d : D} (e : h[n]? = some (.lst ds)) (q : ds.length < sizeLine) : mAppend h (.ref n) [d] = some (.non, h.set n (.lst (ds ++ [d]))) := by
  unfold mAppend refOf
  dsimp only
  rw [e]
  dsimp only
  rw [if_pos q]
theorem isL_ref {h : Hs} {n : Nat} {ds : List D} (e : h[n]? = some (.lst ds)) : isL h (.ref n) = true := by
  unfold isL lstOf
  dsimp only
  rw [e]; rfl
theorem mod_int {h : Hs} {i j : Int} (q : 0 < j) : gMod h (.int i) (.int j) = some (.int (i % j)) := by unfold gMod; exact if_pos q
theorem div_int {h : Hs} {i j : Int} (q : 0 < j) (q2 : j < 1073741824) : gDiv h (.int i) (.int j) = some (.int (i / j)) := by unfold gDiv; exact if_pos ⟨q, q2⟩
theorem mul_int {h : Hs} {i j : Int} (q : (small64 i || small64 j) = true) : gMul h (.int i) (.int j) = some (.int (i * j)) := by unfold gMul; exact if_pos q
theorem small_of {i : Int} (a : 0 ≤ i) (b : i < 4294967296) : small64 i = true := by
  unfold small64
  rw [decide_eq_true (by omega), decide_eq_true (by omega)]; rfl
theorem pow18 {h : Hs} : gPow h (.int 10) (.int 18) = some (.int 1000000000000000000) := rfl
theorem pow6 {h : Hs} : gPow h (.int 10) (.int 6) = some (.int 1000000) := rfl

end G
section
open PySem PySem.Spec L2 G
local macro_rules | `(tactic| fail "s1") => `(tactic| first
  | ((with_reducible apply wp_name); (case q => rfl))
  | with_reducible (first | refine wp_c ?_ | refine wp_bin ?_ | refine wp_acons ?_ | refine wp_anil ?_ | refine wp_call ?_ | refine wp_fn ?_ | refine wp_fnK ?_ | refine wp_ev ?_ | refine wp_em ?_ | refine wp_tup ?_ | refine wp_eb ?_ | refine wp_et ?_ | refine wp_un ?_ | refine wp_chain ?_ | refine wp_and ?_ | refine wp_or ?_ | refine wp_not ?_ | refine wp_andF ?_ | refine wp_orF ?_ | refine wp_notF ?_ | refine wp_yes ?_ | refine wp_if ?_ | refine wp_sl ?_ | refine wp_onone ?_ | refine wp_osome ?_ | refine wp_rev ?_ | refine wp_list ?_ | refine wp_mt ?_ | refine wp_any ?_ | refine wp_r1 ?_ | refine wp_r2 ?_ | refine ws_seq ?_ | refine ws_set ?_ | refine ws_setC ?_ | refine ws_setCM ?_ | refine ws_if ?_ | refine ws_ret ?_ | refine ws_retN ?_ | refine ws_drop ?_ | refine ws_skip ?_ | refine ws_asg ?_ | refine ws_par ?_ | refine ws_sub ?_ | refine wp_body ?_))
local macro_rules | `(tactic| fail "s") => `(tactic| repeat (fail "s1"))
namespace G
open PySem PySem.Spec PyProof.Rows L2
/-- the deck at a, its cells at b -/
structure Deck (a b : Nat) (hs : Hs) : Prop where
  ne : a ≠ b
  at_ : ∃ s c : Int, hs[a]? = some (.lst [.ref b, .int s, .int c])
  cells : ∃ ns : List Int, ns.length ≤ 100 ∧ hs[b]? = some (.lst (ns.map .int))
def Two (a b : Nat) : Nat → Prop := fun n => n = a ∨ n = b
theorem Deck.frm {a b : Nat} {hs hs' : Hs} {S : Nat → Prop} (h : Deck a b hs) (f : Frm S hs hs') (ha : ¬ S a) (hb : ¬ S b) : Deck a b hs' := by
  obtain ⟨ne, ⟨s, c, h1⟩, ⟨ns, hl, h2⟩⟩ := h
  exact ⟨ne, ⟨s, c, f.get h1 ha⟩, ⟨ns, hl, f.get h2 hb⟩⟩
theorem Deck.app {a b : Nat} {hs : Hs} {o : O} (h : Deck a b hs) : Deck a b (hs ++ [o]) := by
  obtain ⟨ne, ⟨s, c, h1⟩, ⟨ns, hl, h2⟩⟩ := h
  exact ⟨ne, ⟨s, c, get_app h1⟩, ⟨ns, hl, get_app h2⟩⟩
theorem Deck.lt {a b : Nat} {hs : Hs} (h : Deck a b hs) : a < hs.length ∧ b < hs.length := by
  obtain ⟨ne, ⟨s, c, h1⟩, ⟨ns, hl, h2⟩⟩ := h
  exact ⟨lt_of_get h1, lt_of_get h2⟩
theorem pdWs_ints {r : Nat → Option PyData} : ∀ ns : List Int, pdWs r (ns.map D.int) = some (ns.map PyData.int)
  | [] => rfl
  | n :: ns => by
    show (match pdW r (.int n) with | some p => (match pdWs r (ns.map D.int) with | some ps => some (p :: ps) | none => none) | none => none) = _
    rw [pdWs_ints ns]; rfl
theorem shaped_ints (ns : List Int) : SeqAt.shaped (.list (ns.map PyData.int)) = true := by
  unfold SeqAt.shaped
  have h1 : ∀ ns : List Int, PyData.canLayAll0 (ns.map PyData.int) = true := fun ns => by
    induction ns with
    | nil => rfl
    | cons n ns ih => show (PyData.canLay0 (.int n) && PyData.canLayAll0 (ns.map PyData.int)) = true; rw [ih]; rfl
  have h2 : ∀ ns : List Int, PyData.depthAll (ns.map PyData.int) = 0 := fun ns => by
    induction ns with
    | nil => rfl
    | cons n ns ih => show max (PyData.depth (.int n)) (PyData.depthAll (ns.map PyData.int)) = 0; rw [ih]; rfl
  show (PyData.canLayAll0 (ns.map PyData.int) && decide (PyData.depthAll (ns.map PyData.int) + 1 ≤ 64)) = true
  rw [h1, h2]; rfl
theorem gEqB_cells {hs : Hs} {b : Nat} {ns : List Int} (h : hs[b]? = some (.lst (ns.map .int))) : gEqB hs (.ref b) (.lst []) = some ns.isEmpty := by
  have e : pd hs (.ref b) = some (.list (ns.map PyData.int)) := by
    show pdH hs 40 b = _
    unfold pdH
    rw [h]
    dsimp only
    rw [pdWs_ints]; rfl
  show gEqD hs (.ref b) (.lst []) = _
  unfold gEqD
  rw [e]
  show (if (SeqAt.shaped (.list (ns.map PyData.int)) && SeqAt.shaped (.list [])) = true then _ else none) = _
  rw [shaped_ints ns]
  cases ns <;> rfl
theorem ne_cells {hs : Hs} {b : Nat} {ns : List Int} (h : hs[b]? = some (.lst (ns.map .int))) : gNe hs (.ref b) (.lst []) = some (.bl (!ns.isEmpty)) := by unfold gNe; rw [gEqB_cells h]; rfl

/-- the drawing's function, as it stands in every law -/
def f_draw : FS := (sSeq (sSub mSetL (eBin gAdd (eBin gIx (eName 0) (eC (.int 2))) (eC (.int 1))) (eName 0) (eC (.int 2)))
  (sSeq (sSet 2 (eBin gIx (eName 0) (eC (.int 1))))
  (sSeq (sIf (eB (eBin gNe (eBin gIx (eName 0) (eC (.int 0))) (eV aNil))) (sSeq (sSet 2 (eMt isL mPop (eBin gIx (eName 0) (eC (.int 0))) aNil))
  (sIf (eB (eBin gGe (eName 2) (eBin gPow (eC (.int 10)) (eC (.int 18))))) (sSeq (sDrop (eMt isL mAppend (eBin gIx (eName 0) (eC (.int 0))) (aCons (eBin gDiv (eName 2) (eName 1)) aNil)))
  (sRet (eBin gMod (eName 2) (eName 1)))) sSkip)) sSkip)
  (sSeq (sSet 3 (eBin gMod (eBin gMul (eBin gAdd (eBin gAdd (eBin gMod (eName 2) (eC (.int 2147483629))) (eBin gMul (eC (.int 65537)) (eBin gIx (eName 0) (eC (.int 2))))) (eC (.int 3))) (eC (.int 48271))) (eC (.int 2147483647))))
  (sSeq (sSet 3 (eBin gMod (eBin gAdd (eBin gAdd (eBin gMul (eName 3) (eName 3)) (eBin gMul (eC (.int 69621)) (eBin gIx (eName 0) (eC (.int 2))))) (eC (.int 17))) (eC (.int 2147483587))))
  (sRet (eBin gMod (eBin gDiv (eBin gMod (eBin gAdd (eBin gMul (eName 3) (eName 3)) (eC (.int 39373))) (eC (.int 2147483563))) (eC (.int 64))) (eName 1))))))))
def c_draw : List D → Hs → R D := fnBody 4 f_draw
def Drawn (a b : Nat) (m : Int) (hs : Hs) (d : D) (hs' : Hs) : Prop := ∃ r : Int, d = .int r ∧ 0 ≤ r ∧ r < m ∧ Deck a b hs' ∧ Frm (Two a b) hs hs' ∧ hs'.length = hs.length
theorem draw_tail {a b : Nat} {hs h : Hs} {m s c cell : Int} {ns : List Int} (ne : a ≠ b) (ha : h[a]? = some (.lst [.ref b, .int s, .int c])) (hl : ns.length ≤ 100) (hb : h[b]? = some (.lst (ns.map .int))) (h0 : 0 < m) (fr : Frm (Two a b) hs h) (ln : h.length = hs.length) :
    Ws ((sSeq (sSet 3 (eBin gMod (eBin gMul (eBin gAdd (eBin gAdd (eBin gMod (eName 2) (eC (.int 2147483629))) (eBin gMul (eC (.int 65537)) (eBin gIx (eName 0) (eC (.int 2))))) (eC (.int 3))) (eC (.int 48271))) (eC (.int 2147483647))))
  (sSeq (sSet 3 (eBin gMod (eBin gAdd (eBin gAdd (eBin gMul (eName 3) (eName 3)) (eBin gMul (eC (.int 69621)) (eBin gIx (eName 0) (eC (.int 2))))) (eC (.int 17))) (eC (.int 2147483587))))
  (sRet (eBin gMod (eBin gDiv (eBin gMod (eBin gAdd (eBin gMul (eName 3) (eName 3)) (eC (.int 39373))) (eC (.int 2147483563))) (eC (.int 64))) (eName 1))))) [some (.ref a), some (.int m), some (.int cell), none] h)
      { nx := fun _ h => Drawn a b m hs .non h, rt := Drawn a b m hs } := by
  have gx : gIx h (.ref a) (.int 2) = some (.int c) := ix_ref ha rfl
  have b1 : ∀ x : Int, 0 ≤ x % 2147483647 ∧ x % 2147483647 < 2147483647 := fun x => ⟨Int.emod_nonneg _ (by decide), Int.emod_lt_of_pos _ (by decide)⟩
  have b2 : ∀ x : Int, 0 ≤ x % 2147483587 ∧ x % 2147483587 < 2147483587 := fun x => ⟨Int.emod_nonneg _ (by decide), Int.emod_lt_of_pos _ (by decide)⟩
  have q1 : small64 65537 = true := by decide
  have q2 : small64 69621 = true := by decide
  have q3 : small64 48271 = true := by decide
  fail "s"
  refine wp_some (mod_int (by decide)) ?_
  fail "s"
  refine wp_some gx ?_
  refine wp_some (mul_int (by rw [q1]; rfl)) ?_
  refine wp_some rfl ?_
  fail "s"
  refine wp_some rfl ?_
  fail "s"
  refine wp_some (mul_int (by rw [q3, Bool.or_true])) ?_
  fail "s"
  refine wp_some (mod_int (by decide)) ?_
  generalize hx : (cell % 2147483629 + 65537 * c + 3) * 48271 % 2147483647 = x
  have hx' := b1 ((cell % 2147483629 + 65537 * c + 3) * 48271)
  rw [hx] at hx'
  have sx : small64 x = true := small_of hx'.1 (by omega)
  show Ws (sSeq _ _ [some (.ref a), some (.int m), some (.int cell), some (.int x)] h) _
  fail "s"
  refine wp_some (mul_int (by rw [sx]; rfl)) ?_
  fail "s"
  refine wp_some gx ?_
  refine wp_some (mul_int (by rw [q2]; rfl)) ?_
  refine wp_some rfl ?_
  fail "s"
  refine wp_some rfl ?_
  fail "s"
  refine wp_some (mod_int (by decide)) ?_
  generalize hy : (x * x + 69621 * c + 17) % 2147483587 = y
  have hy' := b2 (x * x + 69621 * c + 17)
  rw [hy] at hy'
  have sy : small64 y = true := small_of hy'.1 (by omega)
  show Ws (sRet _ [some (.ref a), some (.int m), some (.int cell), some (.int y)] h) _
  fail "s"
  refine wp_some (mul_int (by rw [sy]; rfl)) ?_
  fail "s"
  refine wp_some rfl ?_
  fail "s"
  refine wp_some (mod_int (by decide)) ?_
  fail "s"
  refine wp_some (div_int (by decide) (by decide)) ?_
  fail "s"
  refine wp_some (mod_int h0) ?_
  exact ⟨_, rfl, Int.emod_nonneg _ (by omega), Int.emod_lt_of_pos _ h0, ⟨ne, ⟨s, c, ha⟩, ⟨ns, hl, hb⟩⟩, fr, ln⟩
theorem draw_wp {a b : Nat} {hs : Hs} {m : Int} (h : Deck a b hs) (h0 : 0 < m) (h1 : m < 1073741824) : Wp (c_draw [.ref a, .int m] hs) (Drawn a b m hs) nX := by
  obtain ⟨ne, ⟨s, c, ha⟩, ⟨ns, hl, hb⟩⟩ := h
  unfold c_draw f_draw
  refine wp_bodyE [some (.ref a), some (.int m), none, none] rfl ?_
  fail "s"
  refine wp_some (ix_ref ha rfl) ?_
  fail "s"
  refine wp_some rfl ?_
  fail "s"
  refine ⟨_, set_ref ha rfl, ?_⟩
  have ha1 : (hs.set a (.lst [.ref b, .int s, .int (c + 1)]))[a]? = some (.lst [.ref b, .int s, .int (c + 1)]) := get_set_eq ha
  have hb1 : (hs.set a (.lst [.ref b, .int s, .int (c + 1)]))[b]? = some (.lst (ns.map .int)) := by rw [get_set_ne ne]; exact hb
  have f1 : Frm (Two a b) hs (hs.set a (.lst [.ref b, .int s, .int (c + 1)])) := .set (.inl rfl)
  have l1 : (hs.set a (.lst [.ref b, .int s, .int (c + 1)])).length = hs.length := List.length_set
  show Ws (sSeq _ _ _ (hs.set a (.lst [.ref b, .int s, .int (c + 1)]))) _
  generalize hs.set a (.lst [.ref b, .int s, .int (c + 1)]) = g at ha1 hb1 f1 l1 ⊢
  fail "s"
  refine wp_some (ix_ref ha1 rfl) ?_
  fail "s"
  refine wp_some (ix_ref ha1 rfl) ?_
  fail "s"
  refine wp_some (ne_cells hb1) ⟨_, rfl, fun hne => ?_, fun _ => ?_⟩
  · -- a cell is popped
    have hn : ns ≠ [] := by rintro rfl; cases hne
    obtain ⟨ini, z, rfl⟩ : ∃ ini z, ns = ini ++ [z] := ⟨ns.dropLast, ns.getLast hn, (List.dropLast_concat_getLast hn).symm⟩
    have hl' : ini.length ≤ 99 := by rw [List.length_append] at hl; simp at hl; omega
    fail "s"
    refine wp_some (ix_ref ha1 rfl) ⟨isL_ref hb1, wp_anil ?_⟩
    have hp : (List.map D.int (ini ++ [z]))[(List.map D.int (ini ++ [z])).length - 1]? = some (.int z) := by simp
    refine wp_someP (pop_ref hb1 hp) ?_
    have hd : (List.map D.int (ini ++ [z])).dropLast = ini.map D.int := by simp
    rw [hd]
    have ha2 : (g.set b (.lst (ini.map D.int)))[a]? = some (.lst [.ref b, .int s, .int (c + 1)]) := by rw [get_set_ne ne.symm]; exact ha1
    have hb2 : (g.set b (.lst (ini.map D.int)))[b]? = some (.lst (ini.map D.int)) := get_set_eq hb1
    have f2 : Frm (Two a b) hs (g.set b (.lst (ini.map D.int))) := f1.trans (.set (.inr rfl))
    have l2 : (g.set b (.lst (ini.map D.int))).length = hs.length := by rw [List.length_set]; exact l1
    show Ws (sIf _ _ _ _ (g.set b (.lst (ini.map D.int)))) _
    generalize g.set b (.lst (ini.map D.int)) = k at ha2 hb2 f2 l2 ⊢
    fail "s"
    refine wp_some pow18 ?_
    refine wp_some rfl ⟨_, rfl, fun _ => ?_, fun _ => ?_⟩
    · fail "s"
      refine wp_some (ix_ref ha2 rfl) ⟨isL_ref hb2, ?_⟩
      fail "s"
      refine wp_some (div_int h0 h1) (wp_anil ?_)
      refine wp_someP (app_ref hb2 (by rw [List.length_map]; exact small1000 (by omega))) ?_
      have ha3 : (k.set b (.lst ((ini ++ [z / m]).map D.int)))[a]? = some (.lst [.ref b, .int s, .int (c + 1)]) := by rw [get_set_ne ne.symm]; exact ha2
      have hb3 : (k.set b (.lst ((ini ++ [z / m]).map D.int)))[b]? = some (.lst ((ini ++ [z / m]).map D.int)) := get_set_eq hb2
      have e3 : ini.map D.int ++ [D.int (z / m)] = (ini ++ [z / m]).map D.int := by simp
      rw [e3]
      fail "s"
      refine wp_some (mod_int h0) ?_
      exact ⟨_, rfl, Int.emod_nonneg _ (by omega), Int.emod_lt_of_pos _ h0, ⟨ne, ⟨s, c + 1, ha3⟩, ⟨ini ++ [z / m], by rw [List.length_append]; simp; omega, hb3⟩⟩, f2.trans (.set (.inr rfl)), by rw [List.length_set]; exact l2⟩
    · (repeat with_reducible refine ws_skip ?_)
      exact draw_tail ne ha2 (by omega) hb2 h0 f2 l2
  · (repeat with_reducible refine ws_skip ?_)
    exact draw_tail ne ha1 hl hb1 h0 f1 l1
/-! # G13: the deck made, a thing picked, names drawn; texts by their signs -/
noncomputable section

/-! ### texts by their signs -/
def T (cs : List Nat) : Str := ⟨cs.toArray⟩
theorem T_len (a : List Nat) : (T a).length = a.length := by show a.toArray.size = _; rw [List.size_toArray]
theorem T_cps (a : List Nat) : (T a).cps.toList = a := rfl
theorem T_of (z : Str) : z = T z.cps.toList := by cases z with | mk c => show (⟨c⟩ : Str) = ⟨c.toList.toArray⟩; rw [Array.toArray_toList]
theorem T_cut (a : List Nat) (lo hi : Option Int) : cutS (T a) lo hi = T (cutX a lo hi) := by
  unfold cutS cutX
  rw [T_len]
  rfl
theorem le_line {n : Nat} (h : n ≤ 100000) : n ≤ sizeLine := by have := sizeLine_eq; omega
theorem ix_seq {h : Hs} {d x : D} {ds : List D} {i : Int} (e : seqOf h d = some ds) (q : atI ds i = some x) : gIx h d (.int i) = some x := by
  unfold gIx
  cases d with
  | str z => cases e
  | _ => dsimp only; rw [e]; exact q
theorem len_seq {h : Hs} {d : D} {ds : List D} (e : seqOf h d = some ds) : gLen h [d] = some (.int ds.length) := by
  unfold gLen
  cases d with
  | str z => cases e
  | _ => dsimp only; rw [e]
theorem atI_nat {t : Type} {ds : List t} {i : Int} {x : t} (h0 : 0 ≤ i) (h : ds[i.toNat]? = some x) : atI ds i = some x := by
  have hl : i.toNat < ds.length := (List.getElem?_eq_some_iff.mp h).1
  unfold atI ixN
  rw [if_pos h0, if_pos (by omega)]
  exact h
theorem atI_mem {t : Type} {ds : List t} {i : Int} (h0 : 0 ≤ i) (h1 : i < ds.length) : ∃ x, atI ds i = some x ∧ x ∈ ds ∧ ds[i.toNat]? = some x := by
  have hl : i.toNat < ds.length := by omega
  exact ⟨ds[i.toNat], atI_nat h0 (List.getElem?_eq_getElem hl), List.getElem_mem hl, List.getElem?_eq_getElem hl⟩
theorem seq_lst {h : Hs} {ds : List D} : seqOf h (.lst ds) = some ds := rfl
theorem seq_tup {h : Hs} {ds : List D} : seqOf h (.tup ds) = some ds := rfl
theorem seq_ref {h : Hs} {n : Nat} {ds : List D} (e : h[n]? = some (.lst ds)) : seqOf h (.ref n) = some ds := by unfold seqOf rdOf lstOf; dsimp only; rw [e]
theorem rd_ref {h : Hs} {n : Nat} {ds : List D} (e : h[n]? = some (.lst ds)) : rdOf h (.ref n) = some ds := by unfold rdOf lstOf; dsimp only; rw [e]
theorem seq_frm {h h' : Hs} {S : Nat → Prop} {d : D} {ds : List D} (e : seqOf h d = some ds) (f : Frm S h h') (q : ∀ n, d = .ref n → ¬ S n) : seqOf h' d = some ds := by
  cases d with
  | ref n =>
    have : h[n]? = some (.lst ds) := by
      unfold seqOf rdOf lstOf at e
      dsimp only at e
      cases h1 : h[n]? with
      | none => rw [h1] at e; cases e
      | some o =>
        rw [h1] at e
        cases o with
        | lst xs => cases e; rfl
        | _ => cases e
    exact seq_ref (f.get this (q n rfl))
  | _ => exact e
theorem sIx_none (n d : Nat) : HT.sIx n d none = d := rfl
theorem sIx_pos {n d : Nat} {v : Int} (h : 0 ≤ v) : HT.sIx n d (some v) = min v.toNat n := by
  show (if v < 0 then (v + (n : Int)).toNat else min v.toNat n) = _
  rw [if_neg (by omega)]
theorem cutX_to {t : Type} (xs : List t) {v : Int} (h : 0 ≤ v) : cutX xs none (some v) = xs.take v.toNat := by
  unfold cutX
  rw [sIx_none, sIx_pos h, List.drop_zero, Nat.sub_zero]
  by_cases q : v.toNat ≤ xs.length
  · rw [Nat.min_eq_left q]
  · rw [Nat.min_eq_right (by omega), List.take_length, List.take_of_length_le (by omega)]
theorem cutX_from {t : Type} (xs : List t) {v : Int} (h : 0 ≤ v) : cutX xs (some v) none = xs.drop v.toNat := by
  unfold cutX
  rw [sIx_none, sIx_pos h]
  by_cases q : v.toNat ≤ xs.length
  · rw [Nat.min_eq_left q, List.take_of_length_le (by rw [List.length_drop]; omega)]
  · rw [Nat.min_eq_right (by omega), List.drop_length, List.drop_of_length_le (by omega)]; simp
theorem cutX_all {t : Type} (xs : List t) {v : Int} (h : (xs.length : Int) ≤ v) : cutX xs none (some v) = xs := by
  rw [cutX_to xs (by omega), List.take_of_length_le (by omega)]
theorem nxN_some {h : Hs} {lo : Int} {n i : Nat} (q : i < n) : nxN lo n h i = some (some (.int (lo + i))) := by unfold nxN; rw [if_pos q]
theorem nxN_stop {h : Hs} {lo : Int} {n : Nat} : nxN lo n h n = some none := by unfold nxN; rw [if_neg (Nat.lt_irrefl n)]
theorem nxL_some {h : Hs} {ds : List D} {i : Nat} (q : i < ds.length) : nxL ds h i = some (some ds[i]) := by unfold nxL; rw [List.getElem?_eq_getElem q]
theorem nxL_stop {h : Hs} {ds : List D} : nxL ds h ds.length = some none := by unfold nxL; rw [List.getElem?_eq_none (Nat.le_refl _)]
theorem mem_cutX {t : Type} {xs : List t} {lo hi : Option Int} {x : t} (h : x ∈ cutX xs lo hi) : x ∈ xs := List.mem_of_mem_drop (List.mem_of_mem_take h)

/-! ### the deck -/
def f_deck : FS := (sRet (eM (aCons (eM (lRev (eM (lList (eSl (eName 0) oNone (oSome (eC (.int 63)))))))) (aCons (eBin gAdd (eCall gSum (aCons (eV (lComp (iAny (eSl (eName 0) oNone (oSome (eC (.int 63))))) (nSet 1) tYesF (eBin gMod (eName 1) (eC (.int 1000003))) [1])) aNil)) (eBin gMul (eC (.int 7919)) (eCall gLen (aCons (eSl (eName 0) oNone (oSome (eC (.int 63)))) aNil)))) (aCons (eC (.int 0)) aNil)))))
def c_deck : List D → Hs → R D := fnBody 2 f_deck
def f_pick : FS := (sRet (eBin gIx (eName 1) (eFn c_draw [0, 1] [] (aCons (eName 0) (aCons (eCall gLen (aCons (eName 1) aNil)) aNil)))))
def c_pick : List D → Hs → R D := fnBody 2 f_pick
local macro_rules | `(tactic| fail "s1") => `(tactic| first
  | ((with_reducible apply wp_name); (case q => rfl))
  | with_reducible (first | refine wp_c ?_ | refine wp_bin ?_ | refine wp_acons ?_ | refine wp_anil ?_ | refine wp_call ?_ | refine wp_fn ?_ | refine wp_fnK ?_ | refine wp_ev ?_ | refine wp_em ?_ | refine wp_tup ?_ | refine wp_eb ?_ | refine wp_et ?_ | refine wp_un ?_ | refine wp_chain ?_ | refine wp_and ?_ | refine wp_or ?_ | refine wp_not ?_ | refine wp_andF ?_ | refine wp_orF ?_ | refine wp_notF ?_ | refine wp_yes ?_ | refine wp_if ?_ | refine wp_sl ?_ | refine wp_onone ?_ | refine wp_osome ?_ | refine wp_rev ?_ | refine wp_list ?_ | refine wp_mt ?_ | refine wp_any ?_ | refine wp_r1 ?_ | refine wp_r2 ?_ | refine ws_seq ?_ | refine ws_set ?_ | refine ws_setC ?_ | refine ws_setCM ?_ | refine ws_if ?_ | refine ws_ret ?_ | refine ws_retN ?_ | refine ws_drop ?_ | refine ws_skip ?_ | refine ws_asg ?_ | refine ws_par ?_ | refine ws_sub ?_ | refine wp_body ?_))
local macro_rules | `(tactic| fail "s") => `(tactic| repeat (fail "s1"))
def modD (n : Int) (d : D) : D := match d with | .int i => .int (i % n) | d => d
theorem intsOf_mod (n : Int) (ns : List Int) : intsOf ((ns.map D.int).map (modD n)) = some (ns.map (· % n)) := by
  have : (ns.map D.int).map (modD n) = (ns.map (· % n)).map D.int := by rw [List.map_map, List.map_map]; rfl
  rw [this]; exact intsOf_map _
theorem deck_wp {ns : List Int} (hl : ns.length ≤ 63) {hs : Hs} : Wp (c_deck [.scr (ns.map .int)] hs) (fun d h => d = .ref (hs.length + 2) ∧ Deck (hs.length + 2) (hs.length + 1) h ∧ Frm (fun _ => False) hs h ∧ h.length = hs.length + 3) nX := by
  unfold c_deck f_deck
  refine wp_bodyE [some (.scr (ns.map .int)), none] rfl ?_
  have cut : ∀ h : Hs, gSl h (.scr (ns.map .int)) none (some 63) = some (.lst (ns.map .int)) := fun h => by
    show some (D.lst (cutX (ns.map D.int) none (some 63))) = _
    rw [cutX_all _ (by rw [List.length_map]; omega)]
  fail "s"
  refine ⟨_, rfl, ?_⟩
  refine wp_some (cut _) ?_
  refine wp_some seq_lst ?_
  refine wp_some (x := (ns.map D.int).reverse) (by rw [rd_ref get_new]; rfl) ?_
  fail "s"
  refine wp_cmap (modD 1000003) ?_
  fail "s"
  refine ⟨_, rfl, ?_⟩
  refine wp_some (cut _) ?_
  refine ⟨_, rfl, _, rfl, by rw [List.length_map]; omega, fun d hd => ?_, ?_⟩
  · obtain ⟨i, _, rfl⟩ := List.mem_map.mp hd
    refine ⟨_, rfl, ?_⟩
    show Wp (eBin gMod (eName 1) (eC (.int 1000003)) [some (.scr (ns.map .int)), some (.int i)] _) _ _
    fail "s"
    exact wp_some (mod_int (by decide)) ⟨rfl, rfl⟩
  fail "s"
  refine wp_some (x := .int (ns.map (· % 1000003)).sum) ?_ ?_
  · show (match intsOf ((ns.map D.int).map (modD 1000003)) with | some ns => some (D.int ns.sum) | none => none) = _
    rw [intsOf_mod]
  fail "s"
  refine ⟨_, rfl, ?_⟩
  refine wp_some (cut _) ?_
  fail "s"
  refine wp_some (len_seq seq_lst) ?_
  refine wp_some (mul_int rfl) ?_
  refine wp_some rfl ?_
  fail "s"
  rw [List.length_append, List.length_append]
  refine ⟨rfl, ⟨by simp, ⟨(ns.map (· % 1000003)).sum + 7919 * ((ns.map D.int).length : Nat), 0, ?_⟩, ⟨ns.reverse, by rw [List.length_reverse]; omega, ?_⟩⟩, (Frm.app.trans Frm.app).trans Frm.app, by simp⟩
  · have := get_new (hs := hs ++ [O.lst (ns.map D.int)] ++ [O.lst (ns.map D.int).reverse]) (o := .lst [.ref (hs.length + 1), .int ((ns.map (· % 1000003)).sum + 7919 * ((ns.map D.int).length : Nat)), .int 0])
    simpa using this
  · have := get_app (o := .lst [.ref (hs.length + 1), .int ((ns.map (· % 1000003)).sum + 7919 * ((ns.map D.int).length : Nat)), .int 0]) (get_new (hs := hs ++ [O.lst (ns.map D.int)]) (o := O.lst (ns.map D.int).reverse))
    simpa using this
theorem pick_wp {a b : Nat} {hs : Hs} {d : D} {ds : List D} (hD : Deck a b hs) (hd : seqOf hs d = some ds) (hn : ∀ n, d = .ref n → ¬ Two a b n) (h0 : 0 < ds.length) (h1 : ds.length < 1073741824) :
    Wp (c_pick [.ref a, d] hs) (fun x h => x ∈ ds ∧ Deck a b h ∧ Frm (Two a b) hs h ∧ h.length = hs.length) nX := by
  unfold c_pick f_pick
  refine wp_bodyE [some (.ref a), some d] rfl ?_
  fail "s"
  refine wp_some (len_seq hd) ?_
  fail "s"
  refine wp_mono (draw_wp hD (by omega) (by omega)) ?_ fun _ _ _ x => x
  rintro x h ⟨r, rfl, r0, r1, D1, F1, L1⟩
  obtain ⟨x, hx, hm, _⟩ := atI_mem r0 (show r < ds.length by omega)
  exact wp_some (ix_seq (seq_frm hd F1 hn) hx) ⟨hm, D1, F1, L1⟩

/-! ### names -/
def Lw (cs : List Nat) : Prop := ∀ c ∈ cs, 97 ≤ c ∧ c < 123
def abc : List Nat := (List.range 26).map (· + 97)
theorem abc_T : ("abcdefghijklmnopqrstuvwxyz" : Str) = T abc := by decide +kernel
theorem Lw.app {a b : List Nat} (x : Lw a) (y : Lw b) : Lw (a ++ b) := fun c h => (List.mem_append.mp h).elim (x c) (y c)
theorem Lw.cut {a : List Nat} (x : Lw a) (lo hi : Option Int) : Lw (cutX a lo hi) := fun c h => x c (mem_cutX h)
end
/-! # G14: what the operators answer, for the stepper -/
section
variable {h : Hs} {i j : Int} {p q : Bool} {xs ys : List D}
theorem nof {r : Prop} (h : false = true) : r := by cases h
theorem tnof {r : Prop} (h : true = false) : r := by cases h
theorem add_i : gAdd h (.int i) (.int j) = some (.int (i + j)) := rfl
theorem sub_i : gSub h (.int i) (.int j) = some (.int (i - j)) := rfl
theorem lt_i : gLt h (.int i) (.int j) = some (.bl (decide (i < j))) := rfl
theorem le_i : gLe h (.int i) (.int j) = some (.bl (decide (i ≤ j))) := rfl
theorem gt_i : gGt h (.int i) (.int j) = some (.bl (decide (j < i))) := rfl
theorem ge_i : gGe h (.int i) (.int j) = some (.bl (decide (j ≤ i))) := rfl
theorem eq_i : gEq h (.int i) (.int j) = some (.bl (i == j)) := rfl
theorem ne_i : gNe h (.int i) (.int j) = some (.bl (!(i == j))) := rfl
theorem eq_s {x y : Str} : gEq h (.str x) (.str y) = some (.bl (x == y)) := rfl
theorem ne_s {x y : Str} : gNe h (.str x) (.str y) = some (.bl (!(x == y))) := rfl
theorem eq_b : gEq h (.bl p) (.bl q) = some (.bl (p == q)) := rfl
theorem max_i : gMax2 h [.int i, .int j] = some (.int (if j > i then j else i)) := rfl
theorem min_i : gMin2 h [.int i, .int j] = some (.int (if j < i then j else i)) := rfl
theorem add_tup (e : xs.length + ys.length ≤ 100000) : gAdd h (.tup xs) (.tup ys) = some (.tup (xs ++ ys)) := by
  unfold gAdd
  dsimp only
  rw [if_pos (le_line e)]
theorem add_lst (e : xs.length + ys.length ≤ 100000) : gAdd h (.lst xs) (.lst ys) = some (.lst (xs ++ ys)) := by
  unfold gAdd gAddL lstOf
  dsimp only
  rw [if_pos (le_line e)]
theorem sl_tup {lo hi : Option Int} : gSl h (.tup xs) lo hi = some (.tup (cutX xs lo hi)) := rfl
theorem sl_lst {lo hi : Option Int} : gSl h (.lst xs) lo hi = some (.lst (cutX xs lo hi)) := rfl
theorem tup_tup : gTuple h [.tup xs] = some (.tup xs) := rfl
theorem tup_lst : gTuple h [.lst xs] = some (.tup xs) := rfl
theorem len_tup : gLen h [.tup xs] = some (.int xs.length) := rfl
theorem len_lst : gLen h [.lst xs] = some (.int xs.length) := rfl
theorem tru_b : tru h (.bl p) = some p := rfl
theorem lw_ok {cs : List Nat} (h : Lw cs) : okS (T cs) = true := by
  unfold okS
  show (T cs).cps.all (· < 0x110000) = true
  rw [Array.all_eq_true']
  intro c hc
  have := h c (by simpa [T] using hc)
  exact decide_eq_true (by omega)
@[irreducible] def sB (p : Bool) : Str := (PyData.bool p).shown
theorem repr_b : gRepr h [.bl p] = some (.str (sB p)) := by
  unfold gRepr
  show (if smallText (.bool p) = true then some (D.str (PyData.bool p).shown) else none) = _
  rw [if_pos (by cases p <;> decide +kernel)]; unfold sB; rfl
theorem eq_sb : gEq h (.str (sB p)) (.str (sB p)) = some (.bl true) := by
  unfold gEq sB
  rw [gEqB_str (by cases p <;> decide +kernel) (by cases p <;> decide +kernel)]
  show some (D.bl _) = _
  rw [beq_self_eq_true]
variable {Q : D → Hs → Prop} {X : XQ} {d : D} {n : Nat} {o : O}
theorem wp_ix_tup (q : atI xs i = some d) (g : Q d h) : Wp (R.ofO (gIx h (.tup xs) (.int i)) h) Q X := wp_some (ix_tup q) g
theorem wp_ix_lst (q : atI xs i = some d) (g : Q d h) : Wp (R.ofO (gIx h (.lst xs) (.int i)) h) Q X := wp_some (ix_lst q) g
theorem wp_ix_ref (p : h[n]? = some (.lst xs)) (q : atI xs i = some d) (g : Q d h) : Wp (R.ofO (gIx h (.ref n) (.int i)) h) Q X := wp_some (ix_ref p q) g
end
/-! # G15: loops over lists that stand still -/
section
end
/-! # G16: isinstance of built-in types -/
section
variable {X : Cx} {Wd : WX}
/-- what a thing is; an instance of a class is none of them -/
def tnOf (hs : Hs) : D → Option Tn
  | .bl _ => some .bool
  | .int _ => some .int
  | .str _ => some .str
  | .tup _ => some .tup
  | .ctp _ => some .tup
  | .lst _ => some .lst
  | .scr _ => some .lst
  | .dct _ _ => some .dct
  | .dtp _ _ => some .dct
  | .ref n => match hs[n]? with | some (.lst _) => some .lst | some (.dk _) => some .dct | some (.dt _) => some .dct | _ => none
  | _ => none
def isTn (t u : Tn) : Bool := decide (t = u) || (decide (t = .bool) && decide (u = .int))
def gIsi (hs : Hs) (ds : List D) : Option D := match ds with
  | [d, .ty u] => (match d with
    | .non => some (.bl false)
    | d => (match tnOf hs d with | some t => some (.bl (isTn t u)) | none => none))
  | _ => none
variable {h : Hs} {i : Int} {b : Bool} {z : Str} {ds : List D} {ks : List Key} {u : Tn} {n : Nat}
theorem isi_non : gIsi h [.non, .ty u] = some (.bl false) := rfl
theorem isi_bl : gIsi h [.bl b, .ty u] = some (.bl (isTn .bool u)) := rfl
theorem isi_int : gIsi h [.int i, .ty u] = some (.bl (isTn .int u)) := rfl
theorem isi_str : gIsi h [.str z, .ty u] = some (.bl (isTn .str u)) := rfl
theorem isi_tup : gIsi h [.tup ds, .ty u] = some (.bl (isTn .tup u)) := rfl
theorem isi_lst : gIsi h [.lst ds, .ty u] = some (.bl (isTn .lst u)) := rfl
theorem isi_dct : gIsi h [.dct ks ds, .ty u] = some (.bl (isTn .dct u)) := rfl
end
/-! # G17: dicts -/
/-! ### keys -/
def keyD : D → Option Key
  | .int i => some (.inl i)
  | .str s => some (.inr s)
  | _ => none
def keysD : List D → Option (List Key)
  | [] => some []
  | d :: ds => match keyD d with | some k => (match keysD ds with | some ks => some (k :: ks) | none => none) | none => none
def putG {k : Type} [DecidableEq k] (kvs : List (k × D)) (x : k) (v : D) : List (k × D) :=
  if (kvs.any fun kv => decide (kv.1 = x)) = true then kvs.map (fun kv => if kv.1 = x then (kv.1, v) else kv) else kvs ++ [(x, v)]
def valG {k : Type} [DecidableEq k] (kvs : List (k × D)) (x : k) : Option D := (kvs.find? fun kv => decide (kv.1 = x)).map (·.2)
section
variable {K : PySem.W.Frag} {mu : Mp} {H : Hp}
theorem RD.ref_inv {n : Nat} {v : V} (h : RD K mu H (.ref n) v) : ∃ a, v = .ref a ∧ mu.l[n]? = some a := by
  cases h with
  | ref e => exact ⟨_, rfl, e⟩
theorem keyD_at {d : D} {v : V} {k : Key} (r : RD K mu H d v) (e : keyD d = some k) : v = kV k := by
  cases r <;> first | (cases e; rfl) | cases e
theorem keysD_at : ∀ {ds : List D} {vs : List V} {ks : List Key}, RDs K mu H ds vs → keysD ds = some ks → vs = ks.map kV
  | _, _, _, .nil, e => by cases e; rfl
  | d :: ds, _, ks, .cons r t, e => by
    unfold keysD at e
    split at e
    · rename_i k hk
      split at e
      · rename_i ks' hks
        cases e
        rw [keyD_at r hk, keysD_at t hks]; rfl
      · cases e
    · cases e
variable {k : Type} [DecidableEq k]
theorem RKs.any {x : k} : ∀ {ds : List (k × D)} {vs : List (k × V)}, RKs K mu H ds vs → (ds.any fun kv => decide (kv.1 = x)) = (vs.any fun kv => decide (kv.1 = x))
  | _, _, .nil => rfl
  | _, _, .cons _ t => by simp only [List.any_cons]; rw [RKs.any t]
theorem RKs.snoc {x : k} {d : D} {v : V} (r : RD K mu H d v) : ∀ {ds : List (k × D)} {vs : List (k × V)}, RKs K mu H ds vs → RKs K mu H (ds ++ [(x, d)]) (vs ++ [(x, v)])
  | _, _, .nil => .cons r .nil
  | _, _, .cons q t => .cons q (RKs.snoc r t)
theorem RKs.over {x : k} {d : D} {v : V} (r : RD K mu H d v) : ∀ {ds : List (k × D)} {vs : List (k × V)}, RKs K mu H ds vs → RKs K mu H (ds.map fun kv => if kv.1 = x then (kv.1, d) else kv) (vs.map fun kv => if kv.1 = x then (kv.1, v) else kv)
  | _, _, .nil => .nil
  | _, _, .cons (x := y) q t => by
    rw [List.map_cons, List.map_cons]
    dsimp only
    by_cases e : y = x
    · rw [if_pos e, if_pos e]; exact .cons r (RKs.over r t)
    · rw [if_neg e, if_neg e]; exact .cons q (RKs.over r t)
theorem RKs.put {x : k} {d : D} {v : V} {ds : List (k × D)} {vs : List (k × V)} (q : RKs K mu H ds vs) (r : RD K mu H d v) : RKs K mu H (putG ds x d) (putK vs x v) := by
  unfold putG putK
  rw [RKs.any q]
  split
  · exact RKs.over r q
  · exact RKs.snoc r q
theorem RKs.val {x : k} : ∀ {ds : List (k × D)} {vs : List (k × V)}, RKs K mu H ds vs → (∀ d, valG ds x = some d → ∃ v, valV vs x = some v ∧ RD K mu H d v) ∧ (valG ds x = none → valV vs x = none)
  | _, _, .nil => ⟨(fun d e => nomatch e), fun _ => rfl⟩
  | _, _, .cons (x := y) (d := d0) (v := v0) (ds := ds) (vs := vs) q t => by
    obtain ⟨h1, h2⟩ := RKs.val (x := x) t
    unfold valG valV at h1 h2 ⊢
    rw [List.find?_cons, List.find?_cons]
    by_cases e : y = x
    · rw [decide_eq_true e]
      exact ⟨fun d e => (by cases e; exact ⟨_, rfl, q⟩), fun e => nomatch e⟩
    · rw [decide_eq_false e]
      exact ⟨h1, h2⟩
theorem RKs.snds : ∀ {ds : List (k × D)} {vs : List (k × V)}, RKs K mu H ds vs → RDs K mu H (ds.map (·.2)) (vs.map (·.2))
  | _, _, .nil => .nil
  | _, _, .cons q t => .cons q (RKs.snds t)
end
section
variable {X : Cx} {Wd : WX} {pos : Pos}
/-! ### {} -/
def eD0K : FE := fun _ hs => .ok (.ref hs.length) (hs ++ [.dk []])
def eD0T : FE := fun _ hs => .ok (.ref hs.length) (hs ++ [.dt []])
def eD0 : FE := fun _ hs => .ok (.dct [] []) hs
theorem ue_d0t : UE X Wd (.Dict [] [] pos) eD0T := by
  refine PE.imp pe_dnewT fun σ H Q h p hp => ?_
  obtain ⟨e, mu, hs, S, E, g⟩ := h
  exact g (mu.own p) _ (.ref p) (.newOwn S hp) (S.newOwn hp (show RO X.K X.mg mu H (.dt []) (.dT []) from .nil)) (.ref (getElem?_own S.len))
/-! ### d[k] = v, of dicts and lists -/
def mSetA (hs : Hs) (o i v : D) : Option Hs := match o with
  | .ref n => (match hs[n]? with
    | some (.dk kvs) => (match keyD i with | some k => if kvs.length < sizeLine then some (hs.set n (.dk (putG kvs k v))) else none | none => none)
    | some (.dt kvs) => (match i with
      | .tup ds => (match keysD ds with | some k => if kvs.length < sizeLine then some (hs.set n (.dt (putG kvs k v))) else none | none => none)
      | _ => none)
    | _ => mSetL hs o i v)
  | _ => none
theorem sg_any (hu : X.A.units + 1 < cLine) : PSet X (rSet X.K X.mg mSetA) := by
  rintro pins s σ H o i v ov iv u Q I r1 r2 r3 ⟨mu, hs, d1, d2, d3, hs', S, e1, e2, e3, hg, q⟩
  unfold mSetA at hg
  split at hg
  · rename_i n
    split at hg
    · rename_i kvs hn
      split at hg
      · rename_i k hk
        split at hg
        · rename_i hz
          cases hg
          cases e1 with
          | ref ea =>
            rename_i a
            obtain ⟨w, h1, h2⟩ := S.at ea hn
            cases w with
            | dK vs =>
              have h2 : RKs X.K mu H kvs vs := h2
              obtain rfl : ov = Value.ref a := r1
              have ei := keyD_at e2 hk
              subst ei
              refine d_setItem hu I (.k h1 (by rw [← h2.length]; exact hz)) r2 r3 fun s' I' => ⟨_, I', ?_⟩
              exact q mu _ (.write ea (nfK h1)) (S.write ea (show RO X.K X.mg mu H (.dk _) (.dK _) from h2.put e3))
            | _ => exact h2.elim
        · cases hg
      · cases hg
    · rename_i kvs hn
      split at hg
      · split at hg
        · rename_i k hk
          split at hg
          · rename_i hz
            cases hg
            cases e1 with
            | ref ea =>
              rename_i a
              obtain ⟨w, h1, h2⟩ := S.at ea hn
              cases w with
              | dT vs =>
                have h2 : RKs X.K mu H kvs vs := h2
                obtain rfl : ov = Value.ref a := r1
                cases e2 with
                | tup ht hr =>
                  have ei := keysD_at hr hk
                  subst ei
                  refine d_setItem hu I (.t h1 ht.1 (by rw [← h2.length]; exact hz)) r2 r3 fun s' I' => ⟨_, I', ?_⟩
                  exact q mu _ (.write ea (nfT h1)) (S.write ea (show RO X.K X.mg mu H (.dt _) (.dT _) from h2.put e3))
              | _ => exact h2.elim
          · cases hg
        · cases hg
      · cases hg
    · exact sg_list pins s σ H o i v ov iv u Q I r1 r2 r3 ⟨mu, hs, _, d2, d3, hs', S, e1, e2, e3, hg, q⟩
  · cases hg
/-! ### list(d.values()) -/
/-- list(d.values()) of a dict with tuples as keys -/
def lValsT (f : FE) : FL := fun e hs => (f e hs).bind fun d hs => match d with
  | .ref n => (match hs[n]? with | some (.dt kvs) => .ok (kvs.map (·.2)) hs | _ => .bad)
  | _ => .bad
end
/-! # G18: in, of texts, dicts, deep lists -/
theorem u65 {k : Nat} {A : Around} (r : Room k A) : A.units + 65 < cLine := by have := r.un; omega
theorem u1 {k : Nat} {A : Around} (r : Room k A) : A.units + 1 < cLine := by have := r.un; omega
def inD (hs : Hs) (d e : D) : Option Bool := match pd hs d with
  | some p => (match pd hs e with
    | some (.list ps) => if (SeqAt.shaped p && SeqAt.shaped (.list ps)) = true then some (ps.any fun z => PyData.eqv z p) else none
    | _ => none)
  | none => none
/-- the entry of a dict, whatever its keys -/
def atD (hs : Hs) (e d : D) : Option (Option D) := match e with
  | .ref n => (match hs[n]? with
    | some (.dk kvs) => (match keyD d with | some k => some (valG kvs k) | none => none)
    | some (.dt kvs) => (match d with | .tup ds => (match keysD ds with | some k => some (valG kvs k) | none => none) | _ => none)
    | _ => none)
  | .dct ks ds => (match keyD d with | some k => some (valG (ks.zip ds) k) | none => none)
  | .dtp ks ds => (match d with | .tup es => (match keysD es with | some k => some (valG (ks.zip ds) k) | none => none) | _ => none)
  | .dlk ks ds => (match keyD d with | some k => some (valG (ks.zip ds) k) | none => none)
  | .dlt ks ds => (match d with | .tup es => (match keysD es with | some k => some (valG (ks.zip ds) k) | none => none) | _ => none)
  | _ => none
def inAB (hs : Hs) (d e : D) : Option Bool := match atD hs e d with
  | some o => some o.isSome
  | none => (match gInB hs d e with
    | some b => some b
    | none => (match e with
      | .str z => (match d with | .str x => some (!(Builtin.Str.occurrences z x 0 z.length 1).isEmpty) | _ => none)
      | e => inD hs d e))
def gInA (hs : Hs) (d e : D) : Option D := (inAB hs d e).map .bl
section
variable {K : PySem.W.Frag} {mg : Str → Option Value} {mu : Mp} {hs : Hs} {H : Hp}
theorem RKs.zip : ∀ {ks : List Key} {ds : List D} {vs : List V}, RDs K mu H ds vs → RKs K mu H (ks.zip ds) (ks.zip vs)
  | [], _, _, _ => .nil
  | _ :: _, _, _, .nil => .nil
  | _ :: ks, _, _, .cons r t => .cons r (RKs.zip t)
theorem RKs.zipT : ∀ {ks : List (List Key)} {ds : List D} {vs : List V}, RDs K mu H ds vs → RKs K mu H (ks.zip ds) (ks.zip vs)
  | [], _, _, _ => .nil
  | _ :: _, _, _, .nil => .nil
  | _ :: ks, _, _, .cons r t => .cons r (RKs.zipT t)
theorem optVal {k : Type} [DecidableEq k] {x : k} {ds : List (k × D)} {vs : List (k × V)} (r : RKs K mu H ds vs) : (valG ds x).isSome = (valV vs x).isSome ∧ ∀ d, valG ds x = some d → ∃ v, valV vs x = some v ∧ RD K mu H d v := by
  obtain ⟨h1, h2⟩ := RKs.val (x := x) r
  refine ⟨?_, h1⟩
  cases q : valG ds x with
  | none => rw [h2 q]; rfl
  | some d => obtain ⟨v, e, _⟩ := h1 d q; rw [e]; rfl
theorem atD_at (S : Sim K mg mu hs H) {d e : D} {x y : V} {o : Option D} (r1 : RD K mu H d x) (r2 : RD K mu H e y) (h : atD hs e d = some o) :
    ∃ a ov, y = .ref a ∧ DGet H a x ov ∧ o.isSome = ov.isSome ∧ ∀ w, o = some w → ∃ v, ov = some v ∧ RD K mu H w v := by
  unfold atD at h
  split at h
  · rename_i n
    obtain ⟨a, rfl, ea⟩ := r2.ref_inv
    split at h
    · rename_i kvs hn
      obtain ⟨w, h1, h2⟩ := S.at ea hn
      cases w with
      | dK vs =>
        have h2 : RKs K mu H kvs vs := h2
        split at h
        · rename_i k hk
          cases h
          have ei := keyD_at r1 hk
          subst ei
          obtain ⟨q1, q2⟩ := optVal (x := k) h2
          exact ⟨a, _, rfl, .k h1, q1, q2⟩
        · cases h
      | _ => exact h2.elim
    · rename_i kvs hn
      obtain ⟨w, h1, h2⟩ := S.at ea hn
      cases w with
      | dT vs =>
        have h2 : RKs K mu H kvs vs := h2
        split at h
        · split at h
          · rename_i k hk
            cases h
            cases r1 with
            | tup ht hr =>
              have ei := keysD_at hr hk
              subst ei
              obtain ⟨q1, q2⟩ := optVal (x := k) h2
              exact ⟨a, _, rfl, .t h1 ht.1, q1, q2⟩
          · cases h
        · cases h
      | _ => exact h2.elim
    · cases h
  · split at h
    · rename_i k hk
      cases h
      cases r2 with
      | dct h1 _ _ hr =>
        have ei := keyD_at r1 hk
        subst ei
        obtain ⟨q1, q2⟩ := optVal (x := k) (RKs.zip hr)
        exact ⟨_, _, rfl, .k h1, q1, q2⟩
    · cases h
  · split at h
    · split at h
      · rename_i k hk
        cases h
        cases r1 with
        | tup ht hrk =>
          have ei := keysD_at hrk hk
          subst ei
          cases r2 with
          | dtp h1 _ _ hr =>
            obtain ⟨q1, q2⟩ := optVal (x := k) (RKs.zipT hr)
            exact ⟨_, _, rfl, .t h1 ht.1, q1, q2⟩
      · cases h
    · cases h
  · split at h
    · rename_i k hk
      cases h
      cases r2 with
      | dlk h1 _ hr =>
        have ei := keyD_at r1 hk
        subst ei
        obtain ⟨q1, q2⟩ := optVal (x := k) (RKs.zip hr)
        exact ⟨_, _, rfl, .inl ⟨_, _, .inr h1.1, rfl, rfl⟩, q1, q2⟩
    · cases h
  · split at h
    · split at h
      · rename_i k hk
        cases h
        cases r1 with
        | tup ht hrk =>
          have ei := keysD_at hrk hk
          subst ei
          cases r2 with
          | dlt h1 _ hr =>
            obtain ⟨q1, q2⟩ := optVal (x := k) (RKs.zipT hr)
            exact ⟨_, _, rfl, .inr ⟨_, _, _, .inr h1.1, rfl, ht.1, rfl⟩, q1, q2⟩
      · cases h
    · cases h
  · cases h
end
section
variable {X : Cx} {Wd : WX} {k : Nat} {f : Addr} {fd : FuncData} {ps ks : List Str} {fn : List D → Hs → R D} {x : Str} {p pos : Pos} {is : List Nat} {ds : List Value} {dvs : List V} {dds : List D} {kws : List Keyword} {fk : FA}
/-- f(k = v, ..), keywords alone -/
theorem ue_callK0 (F : FnG X.prog X.w X.K X.mg X.base k f fd ps (spU X.K X.mg ps.length fn)) (hr : Room k X.A) (hgd : X.A.guards = some []) (tk : Takes X Wd) (hg : Gl X x) (hm : X.mg x = some (.ref f)) (hk : PySem.W.keepIn X.K (.ref f) = true)
    (hb : BindK X.K fd ps 0 ks is ds) (hd : Vals dvs ds) (hdd : ∀ mu H, RDs X.K mu H dds dvs) (hkw : UK X Wd kws fk)
    (hlk : ∀ ev hs qs hs', fk ev hs = .ok qs hs' → qs.length = ks.length) (hl : ∀ zs : List D, zs.length = ks.length → (selL is [] zs dds).length = ps.length)
    (hall : (backToKw pos (keywordEach kws X.env)).all (·.1.isSome) = true := by rfl) (hks : (backToKw pos (keywordEach kws X.env)).filterMap (·.1) = ks := by rfl)
    (hdb : (x == ("__debug__" : Str)) = false := by decide)
    (hpl : ((backTo pos (starEach [] X.env)).any (·.1) || (backToKw pos (keywordEach kws X.env)).any (·.1.isNone)) = false := by rfl) :
    UE X Wd (.Call (.Name x p) [] kws pos) (eFnK fn is dds aNil fk) := by
  refine ⟨fun pins s σ H Q I h => ?_⟩
  refine wpAny_Call_Name_kw (ld_glob I hg hm ?_ hdb)
  refine PySem.W.callWith_KW0 (h₀ := X.base) I.ok.mod.kin hk hall ?_ hpl
  obtain ⟨ev, mu, hs, S, E, g⟩ := tG_args h
  have q := g mu H [] .refl S .nil
  refine thn (hkw.run pos pins s σ H _ I q) fun ws s2 ⟨zs, H2, I2, rz, mu2, hs2, es2, qs2, S2, r1, r2, ⟨_, _, _, q1⟩, ⟨_, _, _, q2⟩, g2⟩ => ⟨I2.kIn, ?_⟩
  rw [hks]
  cases r1
  exact runG (us := []) (vs := []) F hr hgd tk hb hd hdd I2 .nil rz rfl (by rw [← rz.length, ← r2.length, hlk _ _ _ _ q2]) ⟨mu2, hs2, [], qs2, S2, .nil, r2, hl _ (hlk _ _ _ _ q2), g2⟩
theorem ue_fnK0 {k' : Nat} (B : Bd X Wd k') (F : FnG X.prog X.w X.K X.mg X.base k f fd ps (spU X.K X.mg ps.length fn)) (hr : k ≤ k') (hm : X.mg x = some (.ref f)) (hk : PySem.W.keepIn X.K (.ref f) = true)
    (hb : BindK X.K fd ps 0 ks is []) (hkw : UK X Wd kws fk) (hlk : ∀ ev hs qs hs', fk ev hs = .ok qs hs' → qs.length = ks.length)
    (hi : is.all (fun i => decide (i < ks.length)) = true := by decide) (hl : is.length = ps.length := by rfl) (hg : Gl X x := by rfl)
    (hall : (backToKw pos (keywordEach kws X.env)).all (·.1.isSome) = true := by rfl) (hks : (backToKw pos (keywordEach kws X.env)).filterMap (·.1) = ks := by rfl)
    (hdb : (x == ("__debug__" : Str)) = false := by decide)
    (hpl : ((backTo pos (starEach [] X.env)).any (·.1) || (backToKw pos (keywordEach kws X.env)).any (·.1.isNone)) = false := by rfl) : UE X Wd (.Call (.Name x p) [] kws pos) (eFnK fn is [] aNil fk) :=
  ue_callK0 F (B.room.mono hr) B.gd B.tk hg hm hk hb .nil (fun _ _ => .nil) hkw hlk (fun zs h => by rw [selL_len _ _ _ _ (by rw [h, List.length_nil, Nat.zero_add]; exact all_lt hi), hl]) hall hks hdb hpl
end
/-! # G19: what stands while things are drawn -/
/-- a fact about what stands below L, but for the deck -/
def Stb (L : Nat) (K : Hs → Prop) : Prop := ∀ h h', K h → L ≤ h.length → (∀ n, n < L → n ≠ 1 → n ≠ 2 → h'[n]? = h[n]?) → K h'
theorem stb_get {L n : Nat} {o : O} (hn : 2 < n) (hl : n < L) : Stb L (fun h => h[n]? = some o) := fun h h' k _ f => (f n hl (by omega) (by omega)).trans k
theorem Stb.and {L : Nat} {K K' : Hs → Prop} (a : Stb L K) (b : Stb L K') : Stb L (fun h => K h ∧ K' h) := fun h h' k l f => ⟨a h h' k.1 l f, b h h' k.2 l f⟩
theorem Stb.mono {L L' : Nat} {K : Hs → Prop} (a : Stb L K) (l : L ≤ L') : Stb L' K := fun h h' k z f => a h h' k (by omega) fun n hn => f n (by omega)
theorem stb_true {L : Nat} : Stb L (fun _ => True) := fun _ _ _ _ _ => trivial
structure St (L : Nat) (K : Hs → Prop) (h : Hs) : Prop where
  deck : Deck 2 1 h
  keep : K h
  len : L ≤ h.length
theorem St.lt {L : Nat} {K : Hs → Prop} {h : Hs} (S : St L K h) : 2 < h.length := S.deck.lt.1
section
variable {L : Nat} {K : Hs → Prop} {h : Hs} {m : Int} {Q : D → Hs → Prop} {X : XQ} {d : D} {ds : List D}
theorem St.frm {h' : Hs} (S : St L K h) (sK : Stb L K) (D : Deck 2 1 h') (F : Frm (Two 2 1) h h') : St L K h' :=
  ⟨D, sK _ _ S.keep S.len fun n hn h1 h2 => F.2 n (Nat.lt_of_lt_of_le hn S.len) (by unfold Two; omega), Nat.le_trans S.len F.1⟩
theorem dr (S : St L K h) (sK : Stb L K) (m0 : 0 < m) (m1 : m < 1073741824) (c : ∀ r h', 0 ≤ r → r < m → St L K h' → Q (.int r) h') : Wp (c_draw [.ref 2, .int m] h) Q X := by
  refine wp_mono (draw_wp S.deck m0 m1) ?_ fun _ _ _ x => x.elim
  rintro d h' ⟨r, rfl, r0, r1, D, F, _⟩
  exact c r h' r0 r1 (S.frm sK D F)
theorem pk (S : St L K h) (sK : Stb L K) (hd : seqOf h d = some ds) (hn : ∀ n, d = .ref n → 2 < n) (h0 : 0 < ds.length) (h1 : ds.length < 1073741824) (c : ∀ x h', x ∈ ds → St L K h' → Q x h') : Wp (c_pick [.ref 2, d] h) Q X := by
  refine wp_mono (pick_wp S.deck hd (fun n e => by have := hn n e; unfold Two; omega) h0 h1) ?_ fun _ _ _ x => x.elim
  rintro d h' ⟨hm, D, F, _⟩
  exact c d h' hm (S.frm sK D F)
theorem pkl (S : St L K h) (sK : Stb L K) (h0 : 0 < ds.length) (h1 : ds.length < 1073741824) (c : ∀ x h', x ∈ ds → St L K h' → Q x h') : Wp (c_pick [.ref 2, .lst ds] h) Q X :=
  pk S sK seq_lst (fun n e => by cases e) h0 h1 c
theorem St.on {N : Nat} {o : O} {h' : Hs} (S : St L K h) (sK : Stb L K) (e : N = h.length) (D : Deck 2 1 h') (F : Frm (Two 2 1) h h') (l : N < h'.length) (g : h'[N]? = some o) : St (N + 1) (fun h' => K h' ∧ h'[N]? = some o) h' :=
  ⟨D, ⟨sK _ _ S.keep S.len fun n hn h1 h2 => F.2 n (Nat.lt_of_lt_of_le hn S.len) (by unfold Two; omega), g⟩, l⟩
/-! ### what is new forgotten -/
/-- all that stood but the deck stands -/
def Old (h g : Hs) : Prop := ∀ n, n < h.length → n ≠ 1 → n ≠ 2 → g[n]? = h[n]?
theorem stb_old {h : Hs} : Stb h.length (Old h) := fun _ _ k l f n hn h1 h2 => (f n hn h1 h2).trans (k n hn h1 h2)
theorem St.mark (S : St L K h) (sK : Stb L K) : St h.length (fun g => K g ∧ Old h g) h ∧ Stb h.length (fun g => K g ∧ Old h g) :=
  ⟨⟨S.deck, ⟨S.keep, fun _ _ _ _ => rfl⟩, Nat.le_refl _⟩, (sK.mono S.len).and stb_old⟩
theorem St.weak {L1 : Nat} {K1 K2 : Hs → Prop} (S : St L1 K1 h) (l : L ≤ L1) (k : K1 h → K2 h) : St L K2 h := ⟨S.deck, k S.keep, Nat.le_trans l S.len⟩
theorem St.cut {h1 : Hs} (S : St L K h) (sK : Stb L K) (S1 : St h.length (fun g => K g ∧ Old h g) h1) : Cls h h1 ∧ St L K (h1.take h.length) := by
  obtain ⟨ne, ⟨s, c, d1⟩, ⟨ns, dl, d2⟩⟩ := S1.deck
  have hl := S1.len
  have hd := S.lt
  constructor
  · intro k hk
    by_cases k1 : k = 1
    · subst k1
      refine .inr ⟨_, d2, ?_⟩
      show bels _ (ns.map D.int) = true
      clear d2 dl
      induction ns with
      | nil => rfl
      | cons n ns ih => exact ih
    · by_cases k2 : k = 2
      · subst k2
        refine .inr ⟨_, d1, ?_⟩
        show (decide (1 < h.length) && (true && (true && true))) = true
        rw [decide_eq_true (by omega)]; rfl
      · exact .inl (S1.keep.2 k hk k1 k2)
  · have g : ∀ n o, n < h.length → h1[n]? = some o → (h1.take h.length)[n]? = some o := fun n o hn e => by rw [List.getElem?_take_of_lt hn]; exact e
    refine ⟨⟨ne, ⟨s, c, g 2 _ (by omega) d1⟩, ⟨ns, dl, g 1 _ (by omega) d2⟩⟩, ?_, ?_⟩
    · refine sK h _ S.keep S.len fun n hn n1 n2 => ?_
      have hn' : n < h.length := Nat.lt_of_lt_of_le hn S.len
      rw [List.getElem?_take_of_lt hn']
      exact S1.keep.2 n hn' n1 n2
    · rw [List.length_take]; have := S.len; omega
/-- a function whose new things nobody else knows -/
theorem wp_gcS {fn : List D → Hs → R D} {as : List D} (S : St L K h) (sK : Stb L K)
    (g : St h.length (fun g => K g ∧ Old h g) h → Stb h.length (fun g => K g ∧ Old h g) → Wp (fn as h) (fun d h1 => ∃ d', dW (dH h1 h.length 50) d = some d' ∧ St h.length (fun g => K g ∧ Old h g) h1 ∧ ∀ h2, St L K h2 → Q d' h2) nX) : Wp (gcF fn as h) Q X := by
  refine wp_gcF (wp_mono (g (S.mark sK).1 (S.mark sK).2) ?_ fun _ _ _ x => x.elim)
  rintro d h1 ⟨d', e, S1, q⟩
  obtain ⟨c, S2⟩ := S.cut sK S1
  exact ⟨d', e, c, q _ S2⟩
/-- a thing is put into the heap behind -/
theorem St.app {o : O} (S : St L K h) (sK : Stb L K) : St (h.length + 1) (fun h' => K h' ∧ h'[h.length]? = some o) (h ++ [o]) := S.on sK rfl S.deck.app .app (by simp) get_new
/-- the thing behind is put otherwise -/
theorem St.put {N : Nat} {o o' : O} (S : St (N + 1) (fun h => K h ∧ h[N]? = some o) h) (hN : 2 < N) (sK : Stb N K) : St (N + 1) (fun h => K h ∧ h[N]? = some o') (h.set N o') := by
  obtain ⟨ne, ⟨s, k, h1⟩, ⟨ns, hl, h2⟩⟩ := S.deck
  refine ⟨⟨ne, ⟨s, k, by rw [get_set_ne (by omega)]; exact h1⟩, ⟨ns, hl, by rw [get_set_ne (by omega)]; exact h2⟩⟩, ⟨sK _ _ S.keep.1 (by have := S.len; omega) fun n hn _ _ => get_set_ne (by omega), get_set_eq S.keep.2⟩, ?_⟩
  rw [List.length_set]; exact S.len
/-- what stands behind is let go -/
theorem St.off {N : Nat} {o : O} (S : St (N + 1) (fun h => K h ∧ h[N]? = some o) h) (l : L ≤ N) : St L K h := ⟨S.deck, S.keep.1, by have := S.len; omega⟩
end
theorem deck_st {ns : List Int} (hl : ns.length ≤ 63) {Q : D → Hs → Prop} {X : XQ} (c : ∀ h, St 3 (fun _ => True) h → Q (.ref 2) h) : Wp (c_deck [.scr (ns.map .int)] []) Q X := by
  refine wp_mono (deck_wp hl) ?_ fun _ _ _ x => x.elim
  rintro d h ⟨rfl, D, F, L⟩
  exact c h ⟨D, trivial, by rw [L]; simp⟩
theorem ne_sb {h : Hs} {p : Bool} : gNe h (.str (sB p)) (.str (sB p)) = some (.bl false) := by
  have := eq_sb (h := h) (p := p)
  unfold gEq at this
  unfold gNe
  cases q : gEqB h (.str (sB p)) (.str (sB p)) with
  | none => rw [q] at this; cases this
  | some b => rw [q] at this; cases this; rfl
theorem ne_b {h : Hs} {p q : Bool} : gNe h (.bl p) (.bl q) = some (.bl (!(p == q))) := rfl
/-- one of a list, by a number that is not known -/
theorem wp_ixP {h : Hs} {ds : List D} {i : Int} {Q : D → Hs → Prop} {X : XQ} (P : D → Prop) (i0 : 0 ≤ i) (i1 : i < ds.length) (hP : ∀ x ∈ ds, P x) (c : ∀ x, P x → Q x h) : Wp (R.ofO (gIx h (.lst ds) (.int i)) h) Q X := by
  obtain ⟨x, hx, hm, _⟩ := atI_mem i0 i1
  exact wp_some (ix_lst hx) (c x (hP x hm))
def IntIn (a b : Int) (d : D) : Prop := ∃ i, d = .int i ∧ a ≤ i ∧ i ≤ b
theorem intIn {a b i : Int} (h : a ≤ i) (h' : i ≤ b) : IntIn a b (.int i) := ⟨i, rfl, h, h'⟩
theorem all_nil {P : D → Prop} : ∀ x ∈ ([] : List D), P x := fun _ h => by cases h
theorem all_cons {P : D → Prop} {d : D} {ds : List D} (a : P d) (b : ∀ x ∈ ds, P x) : ∀ x ∈ d :: ds, P x := fun x h => by
  rcases List.mem_cons.mp h with e | h
  · rw [e]; exact a
  · exact b x h
theorem tl : ("l" : Str) = T [108] := by decide +kernel
/-- a side -/
def IsSide (cs : List Nat) : Prop := cs = [108] ∨ cs = [114]
theorem wp_ne_sb {h : Hs} {p : Bool} {Q : D → Hs → Prop} {X : XQ} (g : Q (.bl false) h) : Wp (R.ofO (gNe h (.str (sB p)) (.str (sB p))) h) Q X := wp_some ne_sb g
theorem wp_eq_sb {h : Hs} {p : Bool} {Q : D → Hs → Prop} {X : XQ} (g : Q (.bl true) h) : Wp (R.ofO (gEq h (.str (sB p)) (.str (sB p))) h) Q X := wp_some eq_sb g
/-! ### dicts -/
theorem wp_d0t {e : Ev} {h : Hs} {Q : D → Hs → Prop} {X : XQ} (g : Q (.ref h.length) (h ++ [.dt []])) : Wp (eD0T e h) Q X := wp_ok g
theorem wp_d0k {e : Ev} {h : Hs} {Q : D → Hs → Prop} {X : XQ} (g : Q (.ref h.length) (h ++ [.dk []])) : Wp (eD0K e h) Q X := wp_ok g
theorem wp_d0 {e : Ev} {h : Hs} {Q : D → Hs → Prop} {X : XQ} (g : Q (.dct [] []) h) : Wp (eD0 e h) Q X := wp_ok g
theorem wp_valsT {f : FE} {e : Ev} {h : Hs} {Q : List D → Hs → Prop} {X : XQ} (g : Wp (f e h) (fun d h => ∃ n kvs, d = .ref n ∧ h[n]? = some (.dt kvs) ∧ Q (kvs.map (·.2)) h) X) : Wp (lValsT f e h) Q X := by
  refine wp_bind (wp_mono g (fun d h' q => ?_) fun _ _ _ x => x)
  obtain ⟨n, kvs, rfl, hn, q⟩ := q
  dsimp only
  rw [hn]
  exact wp_ok q
theorem set_dt {h : Hs} {n : Nat} {kvs : List (List Key × D)} {ds : List D} {k : List Key} {v : D} (hn : h[n]? = some (.dt kvs)) (hk : keysD ds = some k) (hz : kvs.length < sizeLine) : mSetA h (.ref n) (.tup ds) v = some (h.set n (.dt (putG kvs k v))) := by
  unfold mSetA
  dsimp only
  rw [hn]
  dsimp only
  rw [hk]
  dsimp only
  rw [if_pos hz]
/-! # G20: data with dicts and lists: repr -/
def kP : Key → PyData
  | .inl i => .int i
  | .inr s => .str s
mutual
/-- data with dicts; what numbers stand for: r -/
def pdX (r : Nat → Option PyData) : D → Option PyData
  | .non => some .none
  | .bl b => some (.bool b)
  | .int i => some (.int i)
  | .str s => some (.str s)
  | .tup ds => (pdXs r ds).map .tuple
  | .lst ds => (pdXs r ds).map .list
  | .scr _ => none
  | .ref n => r n
  | .ty _ => none
  | .ctp _ => none
  | .dct ks ds => (pdXs r ds).map fun ps => .dict ((ks.map kP).zip ps)
  | .dtp ks ds => (pdXs r ds).map fun ps => .dict ((ks.map fun k => .tuple (k.map kP)).zip ps)
  | .dlk _ _ => none
  | .dlt _ _ => none
  | .ins _ _ _ => none
  | .glb _ => none
  | .exn _ _ _ => none
def pdXs (r : Nat → Option PyData) : List D → Option (List PyData)
  | [] => some []
  | d :: ds => match pdX r d with
    | some p => match pdXs r ds with | some ps => some (p :: ps) | none => none
    | none => none
end
def pdXH (hs : Hs) : Nat → Nat → Option PyData
  | 0, _ => none
  | k + 1, n => match hs[n]? with
    | some (.lst ds) => (pdXs (pdXH hs k) ds).map .list
    | _ => none
section
end
/-- repr of data, with dicts -/
def okX (p : PyData) : Bool := p.showable && decide (p.depth ≤ 60) && decide (p.shown.length ≤ sizeLine)
def isComp : D → Bool
  | .tup _ => true
  | .lst _ => true
  | .dct _ _ => true
  | .ref _ => true
  | _ => false
def gReprA (hs : Hs) (ds : List D) : Option D := match gRepr hs ds with
  | some w => some w
  | none => (match ds with
    | [d] => if isComp d = true then (match pdX (pdXH hs 40) d with | some p => if okX p = true then some (.str p.shown) else none | none => none) else none
    | _ => none)
/-! # G21: tuples and lists times a number; upper -/
def gMulA (hs : Hs) (d e : D) : Option D := match d with
  | .tup xs => (match e with | .int k => if (!xs.isEmpty && decide (2 ≤ k) && decide (k ≤ 1000) && decide (xs.length ≤ 1000)) = true then some (.tup (List.replicate k.toNat xs).flatten) else none | _ => none)
  | .lst xs => (match e with | .int k => if (decide (-1000 ≤ k) && decide (k ≤ 1000) && decide (xs.length ≤ 1000)) = true then some (.lst (List.replicate k.toNat xs).flatten) else none | _ => none)
  | d => gMul hs d e
section
variable {X : Cx}
/-- text.upper() -/
def mUpper (hs : Hs) (d : D) (ds : List D) : Option (D × Hs) := match ds with
  | [] => (match d with | .str a => if a.length ≤ 5592405 then some (.str (Txt.upper a), hs) else none | _ => none)
  | _ => none
end
/-! # G22: {k: v} by value, one entry with a fixed key -/
section
variable {K : PySem.W.Frag} {mg : Str → Option Value} {mu mu' : Mp} {hs hs' : Hs} {H H' : Hp}
theorem Agr.privI {p : Addr} {u : HO} {o : HO} (h : H p = some u) (i : ¬ Imm u) (nz : ¬ mu.fz p) : Agr mu H mu (upd H p o) :=
  ⟨List.prefix_rfl, fun _ h => h, fun a us e z => by rw [upd_ne (show a ≠ p from fun q => nz (q ▸ z))]; exact e, fun a w e im n => ⟨by
    rw [upd_ne]
    · exact e
    · intro z; rw [z, h] at e; cases e; exact i im, n⟩⟩
theorem Sim.privI {p : Addr} {u : HO} {o : HO} (S : Sim K mg mu hs H) (h : H p = some u) (i : ¬ Imm u) (n : p ∉ mu.l) (nz : ¬ mu.fz p) : Sim K mg mu hs (upd H p o) :=
  ⟨S.len, S.nd, S.dj, fun a z => by
    obtain ⟨u, e⟩ := S.fzl a z
    exact ⟨u, by rw [upd_ne (show a ≠ p from fun q => nz (q ▸ z))]; exact e⟩, fun k q hq => by
    obtain ⟨a, w, e1, e2, e3⟩ := S.obj k q hq
    exact ⟨a, w, e1, by rw [upd_ne (fun z => n (by rw [← z]; exact List.mem_of_getElem? e1))]; exact e2, RO.agr (.privI h i nz) e3⟩⟩
variable {X : Cx} {Wd : WX} {pos p1 : Pos} {i : Int} {j : Nat} {v : Expr} {f : FE}
def eD1 (k : Key) (f : FE) : FE := fun e hs => (f e hs).bind fun d hs => .ok (.dct [k] [d]) hs
end
/-! # G23: a text times a number -/
def repS (x : Str) (n : Int) : Str := ⟨(List.replicate n.toNat x.cps).foldl (· ++ ·) #[]⟩
def gMulS (hs : Hs) (d e : D) : Option D := match d with
  | .str x => (match e with | .int n => if (decide (2 ≤ n) && decide (n ≤ 10000) && decide (x.length ≤ 1000)) = true then some (.str (repS x n)) else none | _ => none)
  | d => gMulA hs d e
/-! # G24: WP rules of what came later -/
section
variable {h hs : Hs} {e : Ev} {Q : D → Hs → Prop} {X : XQ} {p : Bool} {i j : Int} {z : Str} {a : List Nat} {xs : List D}
theorem reprA_b : gReprA h [.bl p] = some (.str (sB p)) := by unfold gReprA; rw [repr_b]
theorem wp_d1 {k : Key} {f : FE} (g : Wp (f e hs) (fun d h => Q (.dct [k] [d]) h) X) : Wp (eD1 k f e hs) Q X := wp_bind (wp_mono g (fun _ _ q => wp_ok q) fun _ _ _ x => x)
theorem mulS_tup {n : Int} (h1 : 2 ≤ n) (h2 : n ≤ 1000) (h3 : xs.isEmpty = false) (h4 : xs.length ≤ 1000) : gMulS h (.tup xs) (.int n) = some (.tup (List.replicate n.toNat xs).flatten) := by
  show gMulA h (.tup xs) (.int n) = _
  unfold gMulA
  dsimp only
  rw [h3, decide_eq_true h1, decide_eq_true h2, decide_eq_true h4]
  rfl
end
end G

/-! # G25: t[::-1] of a tuple -/
namespace G
open PySem PySem.Spec PyProof.Rows L2 HT
section
theorem adjust_rev (n : Nat) : Builtin.Slice.sliceAdjust none none (-1) (n : Int) = ((n : Int) - 1, -1) := by
  unfold Builtin.Slice.sliceAdjust
  simp
theorem places_rev (n : Nat) : Builtin.Slice.slicePlaces ((n : Int) - 1) (-1) (-1) = n := by
  unfold Builtin.Slice.slicePlaces
  simp
  omega
theorem fm_congr {a b : Type} {f g : a → Option b} : ∀ l : List a, (∀ m ∈ l, f m = g m) → l.filterMap f = l.filterMap g
  | [], _ => rfl
  | x :: l, h => by
    rw [List.filterMap_cons, List.filterMap_cons, h x List.mem_cons_self, fm_congr l fun m hm => h m (List.mem_cons_of_mem _ hm)]
theorem pick_rev (xs : Array Value) : ((List.range xs.size).filterMap fun (m : Nat) => xs[(((xs.size : Int) - 1) + (m : Int) * -1).toNat]?).toArray = xs.toList.reverse.toArray := by
  have e : (fun (m : Nat) => xs[(((xs.size : Int) - 1) + (m : Int) * -1).toNat]?) = fun (m : Nat) => xs[((xs.size : Int) - 1 - (m : Int)).toNat]? := by
    funext m
    have : ((xs.size : Int) - 1) + (m : Int) * -1 = (xs.size : Int) - 1 - m := by omega
    rw [this]
  rw [e]
  have h1 : (List.range xs.size).filterMap (fun (m : Nat) => xs[((xs.size : Int) - 1 - (m : Int)).toNat]?) = ((List.range xs.size).map fun k => xs.size - 1 - k).filterMap (xs[·]?) := by
    rw [List.filterMap_map]
    refine fm_congr _ fun m hm => ?_
    have : ((xs.size : Int) - 1 - m).toNat = xs.size - 1 - m := by have := List.mem_range.mp hm; omega
    rw [this]; rfl
  rw [h1, PySem.W.krv_range, List.filterMap_reverse, PySem.W.krv_all]
end
section
variable {prog : Program} {w : World} {A : Around} {E : Value → Shared → Prop} {s : Shared}
/-- what a slice without ends and with the step -1 comes to -/
theorem applied_rev {sl : Addr} {vs : Value} {n : Nat} {Q : Int × Int × Nat → Shared → Prop} (hs : s.heap.IsSliceOf sl .none .none vs) (ps : IsPart vs (some (-1))) (h : Q ((n : Int) - 1, -1, n) s) :
    wpAny (model prog w) A (Builtin.Slice.sliceApplied (.ref sl) (pure (n : Int))) Q E s := by
  cases ps with
  | int i tk =>
    rcases hs with ⟨o, ho, hc, hd⟩
    have f0 : ∀ R : Value → Shared → Prop, R .none s → wpAny (model prog w) A (field (.ref sl) 0) R E s := fun R q => wpAny_field ho hd rfl q
    have f1 : ∀ R : Value → Shared → Prop, R .none s → wpAny (model prog w) A (field (.ref sl) 1) R E s := fun R q => wpAny_field ho hd rfl q
    have f2 : ∀ R : Value → Shared → Prop, R (.int (-1) tk) s → wpAny (model prog w) A (field (.ref sl) 2) R E s := fun R q => wpAny_field ho hd rfl q
    delta Builtin.Slice.sliceApplied Builtin.Slice.sliceFields
    wp_walk using f0, f1, f2, slicePart_none, slicePart_int
    show Q ((Builtin.Slice.sliceAdjust none none (-1) (n : Int)).1, -1, Builtin.Slice.slicePlaces (Builtin.Slice.sliceAdjust none none (-1) (n : Int)).1 (Builtin.Slice.sliceAdjust none none (-1) (n : Int)).2 (-1)) s
    rw [adjust_rev, places_rev]
    exact h
theorem get_rev {t sl : Addr} {items : Array Value} {vs : Value} {Q : Value → Shared → Prop} (ht : IsTup s.heap t items) (hs : s.heap.IsSliceOf sl .none .none vs) (ps : IsPart vs (some (-1))) (hz : items.size ≤ sizeLine)
    (h : Q (.ref s.heap.objs.size) { s with heap := s.heap.push { cls := .type "tuple", data := .seq items.toList.reverse.toArray } }) : wpAny (model prog w) A (getItem (.ref t) (.ref sl)) Q E s := by
  have ap : ∀ R : Int × Int × Nat → Shared → Prop, R ((items.size : Int) - 1, -1, items.size) s → wpAny (model prog w) A.in1 (Builtin.Slice.sliceApplied (.ref sl) (pure (items.size : Int))) R E s := fun R q => applied_rev hs ps q
  have ty : s.TypeIs (.ref sl) "slice" := hs.imp fun o q => ⟨q.1, q.2.1⟩
  have items_ : ∀ R : Array Value → Shared → Prop, R items s → wpAny (model prog w) A.in1 (Builtin.Tuple.tupleItemsOf (.ref t)) R E s := fun R q => tupleItemsOf_ ht q
  have pk := pick_rev items
  have nz : (((items.size : Int) - 1 == 0 && (-1 : Int) == 1) && (items.size == items.size)) = false := by rw [show ((-1 : Int) == 1) = false from rfl, Bool.and_false]; rfl
  delta getItem
  first | refine wpAny_holding ?_ | skip
  refine wpAny_bind (wpAny_sequenceKey ht.typeIs (by decide) (wpAny_bind (wpAny_callSpecial?_slot (name := Str.ofString "__getitem__") ht.typeIs PyProof.Rows.slot_tuple_getitem (wpAny_call_entry PyProof.Rows.slot_tuple_getitem ht.typeIs entry_tuple_getitem ?_ (args_tuple_getitem _ _)))))
  wp_walk using items_, ap, wpAny_typeOf ty
  rw [pk, if_neg (by rw [List.size_toArray, List.length_reverse, Array.length_toList]; omega)]
  wp_walk
  exact ⟨_, rfl, wpAny_pure h⟩
end
section
variable {X : Cx} {Wd : WX} {a : Expr} {f1 : FE} {pos : Pos}
/-- t[::-1], a tuple or a list that is read, as a value -/
def gRev (hs : Hs) (d : D) : Option D := match d with
  | .tup ds => some (.tup ds.reverse)
  | .ctp ds => some (.tup ds.reverse)
  | .str z => if z.length ≤ sizeLine then some (.str (T z.cps.toList.reverse)) else none
  | d => (rdOf hs d).map fun ds => .lst ds.reverse
def tRevA (K : PySem.W.Frag) (te : TE) : TE := fun σ H Q => te σ H fun x H1 => (∃ z : Str, x = .str z ∧ z.length ≤ sizeLine ∧ Q (.str (T z.cps.toList.reverse)) H1) ∨ ∃ a xs, x = .ref a ∧ ((SqL K H1 a xs ∧ ∀ p, H1 p = none → Q (.ref p) (upd H1 p (.lst xs.reverse))) ∨ (SqT K H1 a xs ∧ ∀ p, H1 p = none → Q (.ref p) (upd H1 p (.tup xs.reverse))))
theorem pickS_rev (z : Str) : (((slicePicked z none none (some (-1, (default : Tok)))).filterMap (z.cps[·]?)).toArray) = z.cps.toList.reverse.toArray := by
  have e : slicePicked z none none (some (-1, (default : Tok))) = (List.range z.cps.size).map fun k => z.cps.size - 1 - k := PySem.W.krv_sliceRange z.cps.size
  rw [e, PySem.W.krv_range, List.filterMap_reverse, PySem.W.krv_all]
theorem pe_revA {e : Expr} {te : TE} {k : Nat} {p1 p2 p3 pos : Pos} (he : PE X e te) : PE X (.Subscript e (.Slice none none (some (.UnaryOp .USub (.Constant (.int 1) k p1) p2)) p3) pos) (tRevA X.K te) := by
  refine ⟨fun pins s σ H Q I h => Subscript_ (thn (he.run pins s σ H _ I h) fun v s1 ⟨x, H1, I1, r1, q⟩ => ?_)⟩
  have step : PO X (some (.UnaryOp .USub (.Constant (.int 1) k p1) p2)) (tPart (tUn (rU fun i => .int (-i)) (tC (.int 1)))) := po_some (pe_un un_neg pe_int)
  refine wpAny_Slice (thn (po_none.run pins s1 σ H1 (fun o G => o = none ∧ G = H1) I1 ⟨rfl, rfl⟩) fun vl s2 ⟨_, _, I2, pl, rfl, rfl⟩ => thn (po_none.run pins s2 σ _ (fun o G => o = none ∧ G = H1) I2 ⟨rfl, rfl⟩) fun vu s3 ⟨_, _, I3, pu, rfl, rfl⟩ => thn (step.run pins s3 σ _ (fun o G => o = some (-1) ∧ G = H1) I3 ⟨1, rfl, -1, rfl, rfl, rfl⟩) fun vs s4 ⟨_, _, I4, ps, rfl, rfl⟩ => ?_)
  have kp : ∀ b ob, s4.heap.get? b = some ob → (s4.heap.push { cls := .type "slice", data := .fields #[vl, vu, vs] }).get? b = some ob := fun b ob q => Heap.get?_push_of_some _ q
  have J := I4.kept (t' := s4.toks) kp
  rcases q with ⟨z, rfl, hz, q⟩ | ⟨a, xs, hx, q⟩
  · obtain ⟨tz, rfl⟩ := r1
    cases pl
    cases pu
    cases ps with
    | int i tk =>
      refine tail_any (ops := [.str z tz, .ref s4.heap.objs.size]) (typeIs_str _ z tz) PySem.F.slot_str_getitem.lookup (wpAny_getItem_str_slice (l := none) (u := none) (st := some (-1, tk)) ⟨_, Heap.get?_push_size _ rfl, rfl, rfl⟩ rfl ?_) (by with_unfolding_all rfl)
      have e : sliceMade z tz none none (some (-1, tk)) = .str (T z.cps.toList.reverse) := congrArg (fun a => Made.str (Str.mk a)) (pickS_rev z)
      rw [e]
      refine ⟨?_, ⟨.str _, _, J.tok _, ⟨_, rfl⟩, q⟩⟩
      rw [T_len, List.length_reverse]
      exact hz
  subst hx
  cases r1
  rcases q with ⟨hq, q⟩ | ⟨hq, q⟩
  · obtain ⟨its, r, ht, hz⟩ := J.list hq
    have hl := r.length
    refine tail_any (ops := [.ref a, .ref s4.heap.objs.size]) ht.isList.typeIs PySem.slot_list_getitem.lookup (wpAny_getItem_list_slice ht.isList (.new _ vl vu vs) pl pu ps (by decide) ?_ (by rw [List.size_toArray]; omega)) (by with_unfolding_all rfl)
    rw [PySem.W.krv_pick]
    exact ⟨.ref _, _, J.laid (t' := s4.toks) (o := .lst xs.reverse) (fun b ob q => Heap.get?_push_of_some _ q) (Nat.le_refl _) ⟨by rw [List.length_reverse]; exact hz, _, 0, r.reverse, Heap.get?_push_size _ rfl⟩, rfl, q _ (J.hok.fresh (Nat.le_refl _))⟩
  · obtain ⟨its, r, ht, hz⟩ := J.tuple hq
    cases pl
    cases pu
    have hl := r.length
    refine tail_any (ops := [.ref a, .ref s4.heap.objs.size]) ht.typeIs PyProof.Rows.slot_tuple_getitem.lookup (get_rev ht (.new _ .none .none vs) ps (by rw [List.size_toArray]; omega) ?_) (by with_unfolding_all rfl)
    exact ⟨.ref _, _, J.laid (t' := s4.toks) (o := .tup xs.reverse) (fun b ob q => Heap.get?_push_of_some _ q) (Nat.le_refl _) ⟨by rw [List.length_reverse]; exact hz, _, r.reverse, ⟨_, Heap.get?_push_size _ rfl, rfl, 0, rfl⟩⟩, rfl, q _ (J.hok.fresh (Nat.le_refl _))⟩
theorem ue_revA {k : Nat} {p1 p2 p3 : Pos} (ha : UE X Wd a f1) : UE X Wd (.Subscript a (.Slice none none (some (.UnaryOp .USub (.Constant (.int 1) k p1) p2)) p3) pos) (eUn gRev f1) := by
  refine PE.imp (pe_revA ha) fun σ H Q h => ?_
  obtain ⟨e, mu, hs, S, E, q⟩ := tG_un h
  refine ⟨e, mu, hs, S, E, q.imp fun x H1 ⟨mu, hs, d, w, S, r, hg, q⟩ => ?_⟩
  unfold gRev at hg
  have lst : (rdOf hs d).map (fun ds => D.lst ds.reverse) = some w → ∃ a xs, x = .ref a ∧ ((SqL X.K H1 a xs ∧ ∀ p, H1 p = none → Q (.ref p) (upd H1 p (.lst xs.reverse))) ∨ (SqT X.K H1 a xs ∧ ∀ p, H1 p = none → Q (.ref p) (upd H1 p (.tup xs.reverse)))) := by
    intro e
    obtain ⟨ds, e1, rfl⟩ := Option.map_eq_some_iff.mp e
    obtain ⟨p, vs, rfl, h1, h2⟩ := rdOf_at S r e1
    exact ⟨p, vs, rfl, .inl ⟨h1, fun p hp => finL S q hp h2.reverse⟩⟩
  have tup : ∀ ds, tupOf d = some ds → w = .tup ds.reverse → ∃ a xs, x = .ref a ∧ ((SqL X.K H1 a xs ∧ ∀ p, H1 p = none → Q (.ref p) (upd H1 p (.lst xs.reverse))) ∨ (SqT X.K H1 a xs ∧ ∀ p, H1 p = none → Q (.ref p) (upd H1 p (.tup xs.reverse)))) := by
    intro ds e e2
    subst e2
    obtain ⟨p, vs, rfl, h1, h2⟩ := tupOf_at r e
    exact ⟨p, vs, rfl, .inr ⟨h1, fun p hp => finT S q hp h2.reverse⟩⟩
  cases d with
  | str z =>
    dsimp only at hg
    split at hg
    · rename_i hz
      cases hg
      cases r
      exact .inl ⟨z, rfl, hz, fin0 S q (.str _)⟩
    · cases hg
  | tup ds => cases hg; exact .inr (tup ds rfl rfl)
  | ctp ds => cases hg; exact .inr (tup ds rfl rfl)
  | _ => exact .inr (lst hg)
/-- a + b of lists, a new list -/
def lAdd (f1 f2 : FE) : FL := fun e hs => (f1 e hs).bind fun x hs => (f2 e hs).bind fun y hs => match lstOf hs x with
  | some xs => (match lstOf hs y with
    | some ys => if xs.length + ys.length ≤ sizeLine then .ok (xs ++ ys) hs else .bad
    | none => .bad)
  | none => .bad
end
end G

/-! # G26: small data: its repr is a text -/
namespace G
open PySem PySem.Spec PyProof.Rows L2
mutual
def dep : D → Nat
  | .tup ds => deps ds + 1
  | .lst ds => deps ds + 1
  | .dct _ ds => deps ds + 1
  | _ => 0
def deps : List D → Nat
  | [] => 0
  | d :: ds => max (dep d) (deps ds)
end
def kblk : Key → Nat
  | .inl _ => 0
  | .inr s => s.length
mutual
def blk : D → Nat
  | .str s => s.length
  | .tup ds => blks ds
  | .lst ds => blks ds
  | .dct ks ds => (ks.map kblk).sum + ks.length + blks ds
  | _ => 0
def blks : List D → Nat
  | [] => 0
  | d :: ds => blk d + 1 + blks ds
end
def klf : Key → Bool
  | .inl i => decide (i.natAbs < 10 ^ 60)
  | .inr s => okS s
mutual
/-- plain data, whole numbers of at most sixty figures -/
def lf : D → Bool
  | .non => true
  | .bl _ => true
  | .int i => decide (i.natAbs < 10 ^ 60)
  | .str s => okS s
  | .tup ds => lfs ds
  | .lst ds => lfs ds
  | .dct ks ds => ks.all klf && decide (ks.length = ds.length) && lfs ds
  | _ => false
def lfs : List D → Bool
  | [] => true
  | d :: ds => lf d && lfs ds
end
theorem lfs_cons {d : D} {ds : List D} : lfs (d :: ds) = true ↔ lf d = true ∧ lfs ds = true := Bool.and_eq_true _ _ ▸ Iff.rfl
theorem lfs_iff {ds : List D} : lfs ds = true ↔ ∀ x ∈ ds, lf x = true := by
  induction ds with
  | nil => exact ⟨fun _ x h => (nomatch h), fun _ => rfl⟩
  | cons d ds ih => rw [lfs_cons, ih]; simp
theorem lfs_app {xs ys : List D} : lfs (xs ++ ys) = true ↔ lfs xs = true ∧ lfs ys = true := by
  rw [lfs_iff, lfs_iff, lfs_iff]
  simp only [List.mem_append]
  exact ⟨fun h => ⟨fun x hx => h x (.inl hx), fun x hx => h x (.inr hx)⟩, fun h x hx => hx.elim (h.1 x) (h.2 x)⟩
theorem blks_app (xs ys : List D) : blks (xs ++ ys) = blks xs + blks ys := by
  induction xs with
  | nil => exact (Nat.zero_add _).symm
  | cons d ds ih => show blk d + 1 + blks (ds ++ ys) = blk d + 1 + blks ds + blks ys; rw [ih]; omega
theorem blks_mem {xs : List D} {x : D} (h : x ∈ xs) : blk x + 1 ≤ blks xs := by
  induction xs with
  | nil => cases h
  | cons d ds ih =>
    show _ ≤ blk d + 1 + blks ds
    rcases List.mem_cons.mp h with rfl | h
    · omega
    · have := ih h; omega
theorem deps_iff {xs : List D} {k : Nat} : deps xs ≤ k ↔ ∀ x ∈ xs, dep x ≤ k := by
  induction xs with
  | nil => exact ⟨fun _ x h => (nomatch h), fun _ => Nat.zero_le _⟩
  | cons d ds ih =>
    show max (dep d) (deps ds) ≤ k ↔ _
    rw [Nat.max_le, ih]; simp
theorem blks_sub {xs ys : List D} (h : xs.Sublist ys) : blks xs ≤ blks ys := by
  induction h with
  | slnil => exact Nat.le_refl _
  | cons a _ ih => exact Nat.le_trans ih (Nat.le_add_left _ _)
  | cons_cons a _ ih => exact Nat.add_le_add_left ih _
theorem blks_rev (xs : List D) : blks xs.reverse = blks xs := by
  induction xs with
  | nil => rfl
  | cons d ds ih => rw [List.reverse_cons, blks_app, ih]; show _ + (blk d + 1 + 0) = blk d + 1 + _; omega
theorem blks_len {xs : List D} : xs.length ≤ blks xs := by
  induction xs with
  | nil => exact Nat.le_refl _
  | cons d ds ih => show ds.length + 1 ≤ blk d + 1 + blks ds; omega

theorem okS_lt {s : Str} (h : okS s = true) : ∀ c ∈ s.cps.toList, c < 0x110000 := by
  intro c hc
  unfold okS at h
  rw [Array.all_eq_true'] at h
  exact of_decide_eq_true (h c (by simpa using hc))
theorem int_lf {i : Int} (h : i.natAbs < 10 ^ 60) : i.natAbs.log2 < 1920 := by
  by_cases z : i.natAbs = 0
  · rw [z]; decide
  · rw [Nat.log2_lt z]
    exact Nat.lt_trans h (by decide +kernel)
/-- its repr -/
@[irreducible] def rT (d : D) : Str := match pdX (fun _ => none) d with
  | some p => p.shown
  | none => Str.ofString ""
/-- plain data, not too deep, not too great -/
structure Sm (k n : Nat) (d : D) : Prop where
  lf_ : lf d = true
  dep_ : dep d ≤ k
  blk_ : blk d ≤ n
theorem Sm.mono {k n k' n' : Nat} {d : D} (s : Sm k n d) (hk : k ≤ k') (hn : n ≤ n') : Sm k' n' d := ⟨s.lf_, Nat.le_trans s.dep_ hk, Nat.le_trans s.blk_ hn⟩
/-- many of them: all together no greater than n -/
structure Sms (k n : Nat) (ds : List D) : Prop where
  lf_ : lfs ds = true
  dep_ : deps ds ≤ k
  blk_ : blks ds ≤ n
theorem sms_nil {k : Nat} : Sms k 0 [] := ⟨rfl, Nat.zero_le _, Nat.le_refl _⟩
theorem sms_cons {k n m : Nat} {d : D} {ds : List D} (a : Sm k n d) (b : Sms k m ds) : Sms k (n + 1 + m) (d :: ds) :=
  ⟨lfs_cons.mpr ⟨a.lf_, b.lf_⟩, Nat.max_le.mpr ⟨a.dep_, b.dep_⟩, Nat.add_le_add (Nat.add_le_add_right a.blk_ 1) b.blk_⟩
theorem Sms.app {k n m : Nat} {xs ys : List D} (a : Sms k n xs) (b : Sms k m ys) : Sms k (n + m) (xs ++ ys) :=
  ⟨lfs_app.mpr ⟨a.lf_, b.lf_⟩, deps_iff.mpr fun x hx => (List.mem_append.mp hx).elim (deps_iff.mp a.dep_ x) (deps_iff.mp b.dep_ x), by rw [blks_app]; exact Nat.add_le_add a.blk_ b.blk_⟩
theorem Sms.sub {k n : Nat} {xs ys : List D} (a : Sms k n ys) (h : xs.Sublist ys) : Sms k n xs :=
  ⟨lfs_iff.mpr fun x hx => lfs_iff.mp a.lf_ x (h.subset hx), deps_iff.mpr fun x hx => deps_iff.mp a.dep_ x (h.subset hx), Nat.le_trans (blks_sub h) a.blk_⟩
theorem Sms.rev {k n : Nat} {xs : List D} (a : Sms k n xs) : Sms k n xs.reverse :=
  ⟨lfs_iff.mpr fun x hx => lfs_iff.mp a.lf_ x (List.mem_reverse.mp hx), deps_iff.mpr fun x hx => deps_iff.mp a.dep_ x (List.mem_reverse.mp hx), by rw [blks_rev]; exact a.blk_⟩
theorem Sms.mono {k n k' n' : Nat} {d : List D} (s : Sms k n d) (hk : k ≤ k') (hn : n ≤ n') : Sms k' n' d := ⟨s.lf_, Nat.le_trans s.dep_ hk, Nat.le_trans s.blk_ hn⟩
theorem Sms.len {k n : Nat} {d : List D} (s : Sms k n d) : d.length ≤ n := Nat.le_trans blks_len s.blk_
theorem sm_tup {k n : Nat} {ds : List D} (a : Sms k n ds) : Sm (k + 1) n (.tup ds) := ⟨a.lf_, Nat.succ_le_succ a.dep_, a.blk_⟩
theorem sm_int {k n : Nat} {i : Int} (h : i.natAbs < 10 ^ 60) : Sm k n (.int i) := ⟨decide_eq_true h, Nat.zero_le _, Nat.zero_le _⟩
theorem sm_str {k n : Nat} {s : Str} (h : okS s = true) (l : s.length ≤ n) : Sm k n (.str s) := ⟨h, Nat.zero_le _, l⟩
theorem Sm.tup {k n : Nat} {ds : List D} (s : Sm k n (.tup ds)) : Sms (k - 1) n ds := ⟨s.lf_, by have := s.dep_; have h : dep (.tup ds) = deps ds + 1 := rfl; omega, s.blk_⟩
theorem Sm.lst {k n : Nat} {ds : List D} (s : Sm k n (.lst ds)) : Sms (k - 1) n ds := ⟨s.lf_, by have := s.dep_; have h : dep (.lst ds) = deps ds + 1 := rfl; omega, s.blk_⟩
theorem Sm.int {k n : Nat} {i : Int} (s : Sm k n (.int i)) : i.natAbs < 10 ^ 60 := of_decide_eq_true s.lf_
theorem Sm.str {k n : Nat} {z : Str} (s : Sm k n (.str z)) : okS z = true ∧ z.length ≤ n := ⟨s.lf_, s.blk_⟩
/-- plain -/
inductive Pln : D → Prop where
  | non : Pln .non
  | bl (b : Bool) : Pln (.bl b)
  | int (i : Int) : Pln (.int i)
  | str (z : Str) : Pln (.str z)
  | tup (ds : List D) : Pln (.tup ds)
  | lst (ds : List D) : Pln (.lst ds)
  | dct (ks : List Key) (ds : List D) : Pln (.dct ks ds)
theorem Sm.pln {k n : Nat} {d : D} (s : Sm k n d) : Pln d := by
  have := s.lf_
  cases d <;> first | constructor | exact absurd this Bool.false_ne_true
theorem okS_app {a b : Str} (ha : okS a = true) (hb : okS b = true) : okS (a ++ b) = true := by
  unfold okS at *
  show (a.cps ++ b.cps).all _ = true
  rw [Array.all_append, ha, hb]; rfl
/-! # G27: what is a number, a name, an ident, a glove: the program's own looks -/
noncomputable section
abbrev k_LAST_MOMENT : D := (.int 999999)
abbrev k_LAST_NUMBER : D := (.int 99)
abbrev k_LETTERS : D := (.str "abcdefghijklmnopqrstuvwxyz")
abbrev k_LONGEST : D := (.int 8)
abbrev k_MOST_GRADE : D := (.int 2)
abbrev k_MOST_HIGH : D := (.int 138)
abbrev k_MOST_QUARTERS : D := (.int 99)
abbrev k_SIDES : D := (.ctp [(.str "l"), (.str "r")])
def f_is_whole : FS := (sRet (eAnd (eCall gIsi (aCons (eName 0) (aCons (eC (.ty .int)) aNil))) (eNot (eCall gIsi (aCons (eName 0) (aCons (eC (.ty .bool)) aNil))))))
def c_is_whole : List D → Hs → R D := fnBody 1 f_is_whole
def f_is_between : FS := (sRet (eAnd (eFn c_is_whole [0] [] (aCons (eName 0) aNil)) (eChain gLe gLe (eName 1) (eName 0) (eName 2))))
def c_is_between : List D → Hs → R D := fnBody 3 f_is_between
def f_is_name : FS := (sSeq (sIf (tOrF (tNotF (eT (eCall gIsi (aCons (eName 0) (aCons (eC (.ty .str)) aNil))))) (tNotF (eB (eChain gLe gLe (eC (.int 1)) (eCall gLen (aCons (eName 0) aNil)) (eC k_LONGEST))))) (sRet (eC (.bl false))) sSkip)
  (sRet (eCall gAll (aCons (eV (lComp (iAny (eName 0)) (nSet 1) tYesF (eBin gInA (eName 1) (eC k_LETTERS)) [1])) aNil))))
def c_is_name : List D → Hs → R D := fnBody 2 f_is_name
def f_is_size : FS := (sRet (eFn c_is_between [0, 1, 2] [] (aCons (eName 0) (aCons (eC (.int 1)) (aCons (eC k_MOST_QUARTERS) aNil)))))
def c_is_size : List D → Hs → R D := fnBody 1 f_is_size
def f_is_moment : FS := (sRet (eFn c_is_between [0, 1, 2] [] (aCons (eName 0) (aCons (eC (.int 0)) (aCons (eC k_LAST_MOMENT) aNil)))))
def c_is_moment : List D → Hs → R D := fnBody 1 f_is_moment
def f_is_side : FS := (sRet (eAnd (eCall gIsi (aCons (eName 0) (aCons (eC (.ty .str)) aNil))) (eBin gInA (eName 0) (eC k_SIDES))))
def c_is_side : List D → Hs → R D := fnBody 1 f_is_side
def f_is_ident : FS := (sSeq (sIf (tOrF (tNotF (eT (eCall gIsi (aCons (eName 0) (aCons (eC (.ty .tup)) aNil))))) (eB (eBin gNe (eCall gLen (aCons (eName 0) aNil)) (eC (.int 3))))) (sRet (eC (.bl false))) sSkip)
  (sRet (eAnd (eFn c_is_moment [0] [] (aCons (eBin gIx (eName 0) (eC (.int 0))) aNil)) (eAnd (eFn c_is_between [0, 1, 2] [] (aCons (eBin gIx (eName 0) (eC (.int 1))) (aCons (eC (.int 0)) (aCons (eC k_LAST_NUMBER) aNil)))) (eFn c_is_side [0] [] (aCons (eBin gIx (eName 0) (eC (.int 2))) aNil))))))
def c_is_ident : List D → Hs → R D := fnBody 1 f_is_ident
def f_is_grade : FS := (sRet (eAnd (eFn c_is_whole [0] [] (aCons (eName 0) aNil)) (eChain gLe gLe (eC (.int 0)) (eName 0) (eC k_MOST_GRADE))))
def c_is_grade : List D → Hs → R D := fnBody 1 f_is_grade
def f_is_glove : FS := (sSeq (sIf (tOrF (tNotF (eT (eCall gIsi (aCons (eName 0) (aCons (eC (.ty .tup)) aNil))))) (tOrF (eB (eBin gNe (eCall gLen (aCons (eName 0) aNil)) (eC (.int 7)))) (tOrF (tNotF (eT (eFn c_is_ident [0] [] (aCons (eSl (eName 0) oNone (oSome (eC (.int 3)))) aNil)))) (tNotF (eT (eFn c_is_name [0] [] (aCons (eBin gIx (eName 0) (eC (.int 3))) aNil))))))) (sRet (eC (.bl false))) sSkip)
  (sSeq (sAsg (nTup 3 (nCons (nSet 1) (nCons (nSet 2) (nCons (nSet 3) nNil)))) (eSl (eName 0) (oSome (eC (.int 4))) oNone))
  (sSeq (sIf (tOrF (tNotF (eT (eFn c_is_size [0] [] (aCons (eName 1) aNil)))) (tOrF (tNotF (eT (eFn c_is_whole [0] [] (aCons (eName 2) aNil)))) (tNotF (eT (eFn c_is_grade [0] [] (aCons (eName 3) aNil)))))) (sRet (eC (.bl false))) sSkip)
  (sRet (eChain gLe gLe (eName 1) (eName 2) (eC k_MOST_HIGH))))))
def c_is_glove : List D → Hs → R D := fnBody 4 f_is_glove
end
section
variable {e : Ev} {hs h : Hs} {Q : D → Hs → Prop} {X : XQ}
/-- a comprehension that filters and maps, the heap as it is -/
theorem wp_cfm {f : FI} {g : FG} {t : FT} {el : FE} {vs : List Nat} {Q : List D → Hs → Prop} (p : D → Bool) (F : D → D) (h : Wp (f e hs) (fun nx h => ∃ ds, nx = nxL ds ∧ ds.length ≤ 100000 ∧
    (∀ d ∈ ds, ∃ e', g d (wipeE e vs) = some e' ∧ Wp (t e' h) (fun c h1 => h1 = h ∧ c = p d ∧ (c = true → Wp (el e' h) (fun y h' => y = F d ∧ h' = h) nX)) nX) ∧ Q ((ds.filter p).map F) h) X) : Wp (lComp f g t el vs e hs) Q X := by
  refine wp_comp (wp_mono h (fun nx h' q => ?_) fun _ _ _ x => x)
  obtain ⟨ds, rfl, hl, hd, q⟩ := q
  refine ⟨ds.length, fun i acc h => h = h' ∧ acc = ((ds.take i).filter p).map F, hl, ⟨rfl, rfl⟩, fun i acc h hi ⟨e1, e2⟩ => ?_, fun acc h ⟨e1, e2⟩ => ?_⟩
  · subst e1 e2
    obtain ⟨e', h1, h2⟩ := hd ds[i] (List.getElem_mem hi)
    refine ⟨ds[i], e', nxL_some hi, h1, wp_mono h2 (fun c h3 ⟨z1, z2, z3⟩ => ?_) fun _ _ _ x => x⟩
    subst z1
    have ht : ds.take (i + 1) = ds.take i ++ [ds[i]] := by rw [List.take_add_one, List.getElem?_eq_getElem hi]; rfl
    have hl2 : (((ds.take i).filter p).map F).length ≤ i := by
      rw [List.length_map]
      exact Nat.le_trans (List.length_filter_le _ _) (by rw [List.length_take]; omega)
    refine ⟨fun hc => ⟨by rw [sizeLine_eq]; omega, wp_mono (z3 hc) (fun y h4 ⟨r, z4⟩ => ⟨z4, ?_⟩) fun _ _ _ x => x⟩, fun hc => ⟨rfl, ?_⟩⟩
    · rw [ht, List.filter_append, List.map_append, r]
      congr 1
      rw [List.filter_cons_of_pos (by rw [← z2]; exact hc)]; rfl
    · rw [ht, List.filter_append, List.filter_cons_of_neg (by rw [← z2, hc]; exact Bool.false_ne_true), List.filter_nil, List.append_nil]
  · subst e1 e2
    rw [List.take_length]
    exact ⟨nxL_stop, q⟩
end
@[simp] def isW : D → Bool
  | .int _ => true
  | _ => false
@[simp] def isB (a b : Int) : D → Bool
  | .int i => decide (a ≤ i) && decide (i ≤ b)
  | _ => false
def isC (c : Nat) : Bool := decide (97 ≤ c) && decide (c ≤ 122)
@[simp] def isNa : D → Bool
  | .str z => (decide ((1 : Int) ≤ z.length) && decide ((z.length : Int) ≤ 8)) && z.cps.toList.all isC
  | _ => false
@[simp] def isSd : D → Bool
  | .str z => (("l" : Str) == z) || (("r" : Str) == z)
  | _ => false
@[simp] def isId : D → Bool
  | .tup [a, b, c] => isB 0 999999 a && (isB 0 99 b && isSd c)
  | _ => false
@[simp] def leD : D → D → Bool
  | .int i, .int j => decide (i ≤ j)
  | _, _ => false
@[simp] def isGv : D → Bool
  | .tup [a, b, c, s, lo, hi, g] => isId (.tup [a, b, c]) && (isNa s && (isB 1 99 lo && (isW hi && (isB 0 2 g && (leD lo hi && leD hi (.int 138))))))
  | _ => false
end G
local macro_rules | `(tactic| fail "q") => `(tactic| first | assumption | decide | omega | rfl)
local macro_rules | `(tactic| fail "e1") => `(tactic| first
  | with_reducible (first | refine wp_some add_i ?_ | refine wp_some sub_i ?_ | refine wp_some lt_i ?_ | refine wp_some le_i ?_ | refine wp_some gt_i ?_ | refine wp_some ge_i ?_ | refine wp_some eq_i ?_ | refine wp_some ne_i ?_ | refine wp_some eq_b ?_ | refine wp_some max_i ?_ | refine wp_some min_i ?_ | refine wp_some tup_tup ?_ | refine wp_some tup_lst ?_ | refine wp_some len_tup ?_ | refine wp_some len_lst ?_ | refine wp_some sl_tup ?_ | refine wp_some sl_lst ?_ | refine wp_some tru_b ?_ | refine wp_some repr_b ?_ | refine wp_eq_sb ?_ | refine wp_some seq_lst ?_ | refine wp_some seq_tup ?_)
  | ((with_reducible apply wp_ix_tup); (case q => rfl))
  | ((with_reducible apply wp_ix_lst); (case q => rfl))
  | ((with_reducible apply wp_ix_ref); (case p => assumption); (case q => rfl))
  | with_reducible refine wp_some eq_s ?_
  | ((with_reducible refine wp_some (mod_int ?q) ?_); (case q => fail "q"))
  | ((with_reducible refine wp_some (div_int ?p ?q) ?_); (case p => fail "q"); (case q => fail "q"))
  | ((with_reducible refine wp_some (mul_int ?q) ?_); (case q => fail "q"))
  | ((with_reducible refine wp_some (add_tup ?q) ?_); (case q => first | omega | exact Nat.le_of_ble_eq_true rfl | (simp; done) | (simp; omega)))
  | ((with_reducible refine wp_some (add_lst ?q) ?_); (case q => first | omega | exact Nat.le_of_ble_eq_true rfl | (simp; done) | (simp; omega)))
  | with_reducible (first | refine Exists.intro _ (And.intro rfl ?_) | refine Exists.intro _ (Exists.intro _ (And.intro rfl ?_))))
local macro_rules | `(tactic| fail "g") => `(tactic| repeat (first | fail "s1" | fail "e1"))
local macro_rules | `(tactic| fail "h1") => `(tactic| first
  | with_reducible (first | refine wp_some ne_b ?_ | refine wp_ne_sb ?_ | refine wp_d0t ?_ | refine wp_d0k ?_ | refine wp_d0 ?_ | refine wp_valsT ?_ | refine wp_some ne_s ?_ | refine wp_some reprA_b ?_ | refine wp_d1 ?_ | refine wp_some isi_non ?_ | refine wp_some isi_bl ?_ | refine wp_some isi_int ?_ | refine wp_some isi_str ?_ | refine wp_some isi_tup ?_ | refine wp_some isi_lst ?_ | refine wp_some isi_dct ?_))
local macro_rules | `(tactic| fail "k") => `(tactic| repeat (first | fail "s1" | fail "e1" | fail "h1"))
namespace G
open PySem PySem.Spec PyProof.Rows L2
theorem pln_of {d : D} (l : lf d = true) : Pln d := by
  cases d <;> first | constructor | exact absurd l Bool.false_ne_true
theorem eq_of_wp {r : R D} {x : D} {h : Hs} (w : Wp r (fun d h' => d = x ∧ h' = h) nX) : r = .ok x h := by
  obtain ⟨d, h', e, rfl, rfl⟩ := wp_get w
  exact e
section
variable {h : Hs} {d : D} {k n : Nat}
theorem whole_eq (p : Pln d) : c_is_whole [d] h = .ok (.bl (isW d)) h := by cases p <;> rfl
theorem between_eq {a b : Int} (p : Pln d) : c_is_between [d, .int a, .int b] h = .ok (.bl (isB a b d)) h := by
  cases p with
  | int i =>
    refine eq_of_wp ?_
    unfold c_is_between f_is_between
    refine wp_bodyE [some (.int i), some (.int a), some (.int b)] rfl ?_
    fail "k"
    refine wp_of (whole_eq (.int i)) ?_
    fail "k"
    refine ⟨fun _ => ?_, tnof⟩
    fail "k"
    refine ⟨fun q => ?_, fun q => ⟨?_, rfl⟩⟩
    · fail "k"
      refine ⟨?_, rfl⟩
      simp [isB, q]
    · simp [isB, q]
  | _ => rfl
end
end G
local macro_rules | `(tactic| fail "p") => `(tactic| first | assumption | (constructor; done) | exact pln_of (by assumption) | exact Sm.pln (by assumption))
local macro_rules | `(tactic| fail "b1") => `(tactic| first
  | exact nof
  | exact tnof
  | (refine And.intro ?_ tnof; intro _)
  | (refine And.intro nof ?_; intro _)
  | (refine And.intro ?_ ?_ <;> intro _))
local macro_rules | `(tactic| fail "P1") => `(tactic| first
  | ((with_reducible show Wp (c_is_whole _ _) _ _); refine wp_of (whole_eq ?p) ?_; (case p => fail "p"))
  | ((with_reducible show Wp (c_is_between _ _) _ _); refine wp_of (between_eq ?p) ?_; (case p => fail "p")))
local macro_rules | `(tactic| fail "b") => `(tactic| repeat' (first | fail "s1" | fail "e1" | fail "h1" | fail "P1" | fail "b1"))
local macro_rules | `(tactic| fail "z") => `(tactic| first
  | exact (show _ ∧ _ from ⟨rfl, rfl⟩)
  | (refine (show _ ∧ _ from ⟨?_, rfl⟩); first | (simp_all; done) | (simp_all <;> omega)))
local macro_rules | `(tactic| fail "bz") => `(tactic| (fail "b" <;> try fail "z"))
namespace G
open PySem PySem.Spec PyProof.Rows L2
section
variable {h : Hs} {d : D} {k n : Nat}
/-! ### texts -/
theorem signs_len (z : Str) : (signs z).length = z.length := by unfold signs; rw [List.length_map]; exact Array.length_toList
theorem letters_in (c : Nat) : decide (c ∈ ("abcdefghijklmnopqrstuvwxyz" : Str).cps.toList) = isC c := by
  rw [abc_T, T_cps]
  unfold isC
  rw [Bool.eq_iff_iff, decide_eq_true_iff, Bool.and_eq_true, decide_eq_true_iff, decide_eq_true_iff]
  constructor
  · intro h
    have : ∀ x ∈ abc, 97 ≤ x ∧ x ≤ 122 := by decide +kernel
    exact this c h
  · rintro ⟨h1, h2⟩
    have : ∀ i, i < 26 → i + 97 ∈ abc := by decide +kernel
    have := this (c - 97) (by omega)
    rwa [show c - 97 + 97 = c by omega] at this
def sgC (p : Nat → Bool) : D → D
  | .str x => (match sign1 x with | some c => .bl (p c) | none => .non)
  | _ => .non
theorem sgC_map (p : Nat → Bool) (z : Str) : (signs z).map (sgC p) = (z.cps.toList.map p).map D.bl := by
  unfold signs
  rw [List.map_map, List.map_map]; rfl
theorem gAll_bls {bs : List Bool} : gAll h [.lst (bs.map D.bl)] = some (.bl (bs.all id)) := by
  unfold gAll
  show (match rdOf h (.lst (bs.map D.bl)) with | some xs => (match blsOf xs with | some ns => some (D.bl (ns.all id)) | none => none) | none => none) = _
  show (match blsOf (bs.map D.bl) with | some ns => some (D.bl (ns.all id)) | none => none) = _
  rw [blsOf_map]
theorem in_letters {c : Nat} : gInA h (.str ⟨#[c]⟩) (.str "abcdefghijklmnopqrstuvwxyz") = some (.bl (isC c)) := by
  show some (D.bl (decide (c ∈ ("abcdefghijklmnopqrstuvwxyz" : Str).cps.toList))) = _
  rw [letters_in]
theorem name_eq (p : Pln d) (hz : blk d ≤ 100000) : c_is_name [d] h = .ok (.bl (isNa d)) h := by
  cases p with
  | str z =>
    have hz : z.length ≤ 100000 := hz
    have hl : gLen h [.str z] = some (.int z.length) := if_pos (le_line hz)
    refine eq_of_wp ?_
    unfold c_is_name f_is_name
    refine wp_bodyE [some (.str z), none] rfl ?_
    fail "k"
    refine ⟨nof, fun _ => ?_⟩
    fail "k"
    refine wp_some hl ?_
    fail "bz"
    refine wp_cfm (fun _ => true) (sgC isC) ?_
    fail "k"
    refine ⟨by rw [signs_len]; exact hz, fun d hd => ?_, ?_⟩
    · unfold signs at hd
      obtain ⟨c, _, rfl⟩ := List.mem_map.mp hd
      refine ⟨_, rfl, ?_⟩
      fail "k"
      refine ⟨rfl, rfl, fun _ => ?_⟩
      fail "k"
      refine wp_some in_letters ⟨rfl, rfl⟩
    · rw [List.filter_eq_self.mpr (fun _ _ => rfl), sgC_map]
      fail "k"
      refine wp_some gAll_bls ?_
      refine (show _ ∧ _ from ⟨?_, rfl⟩)
      simp_all
  | _ => rfl
theorem size_eq (p : Pln d) : c_is_size [d] h = .ok (.bl (isB 1 99 d)) h := by
  refine eq_of_wp ?_
  unfold c_is_size f_is_size
  refine wp_bodyE [some d] rfl ?_
  fail "bz"
theorem moment_eq (p : Pln d) : c_is_moment [d] h = .ok (.bl (isB 0 999999 d)) h := by
  refine eq_of_wp ?_
  unfold c_is_moment f_is_moment
  refine wp_bodyE [some d] rfl ?_
  fail "bz"
theorem side_eq (p : Pln d) : c_is_side [d] h = .ok (.bl (isSd d)) h := by
  cases p with
  | str z =>
    refine eq_of_wp ?_
    unfold c_is_side f_is_side
    refine wp_bodyE [some (.str z)] rfl ?_
    fail "k"
    refine ⟨fun _ => ?_, tnof⟩
    fail "k"
    refine wp_some (show _ = some (D.bl (("l" : Str) == z || (("r" : Str) == z || false))) from rfl) ?_
    fail "z"
  | _ => rfl
theorem grade_eq (p : Pln d) : c_is_grade [d] h = .ok (.bl (isB 0 2 d)) h := by
  cases p with
  | int i =>
    refine eq_of_wp ?_
    unfold c_is_grade f_is_grade
    refine wp_bodyE [some (.int i)] rfl ?_
    fail "bz"
  | _ => rfl
end
/-! ### idents, gloves -/
theorem list3 {t : Type} {ds : List t} (h : ds.length = 3) : ∃ a b c, ds = [a, b, c] := by
  match ds, h with
  | [a, b, c], _ => exact ⟨a, b, c, rfl⟩
theorem list7 {t : Type} {ds : List t} (h : ds.length = 7) : ∃ a b c d e f g, ds = [a, b, c, d, e, f, g] := by
  match ds, h with
  | [a, b, c, d, e, f, g], _ => exact ⟨a, b, c, d, e, f, g, rfl⟩
theorem eqL {t : Type} {ds : List t} {n : Nat} {m : Int} (h : ¬ ds.length = n) (e : m = n) : ((ds.length : Int) == m) = false := by
  subst e
  rw [beq_eq_false_iff_ne]
  omega
theorem lfs3 {a b c : D} (l : lfs [a, b, c] = true) : lf a = true ∧ lf b = true ∧ lf c = true :=
  ⟨(lfs_cons.mp l).1, (lfs_cons.mp (lfs_cons.mp l).2).1, (lfs_cons.mp (lfs_cons.mp (lfs_cons.mp l).2).2).1⟩
section
variable {h : Hs} {d : D} {k n : Nat}
local macro_rules | `(tactic| fail "P1") => `(tactic| first
  | ((with_reducible show Wp (c_is_size _ _) _ _); refine wp_of (size_eq ?p) ?_; (case p => fail "p"))
  | ((with_reducible show Wp (c_is_moment _ _) _ _); refine wp_of (moment_eq ?p) ?_; (case p => fail "p"))
  | ((with_reducible show Wp (c_is_side _ _) _ _); refine wp_of (side_eq ?p) ?_; (case p => fail "p"))
  | ((with_reducible show Wp (c_is_grade _ _) _ _); refine wp_of (grade_eq ?p) ?_; (case p => fail "p"))
  | ((with_reducible show Wp (c_is_whole _ _) _ _); refine wp_of (whole_eq ?p) ?_; (case p => fail "p"))
  | ((with_reducible show Wp (c_is_between _ _) _ _); refine wp_of (between_eq ?p) ?_; (case p => fail "p")))
theorem isId_len {ds : List D} (h : ¬ ds.length = 3) : isId (.tup ds) = false := by
  match ds, h with
  | [], _ => rfl
  | [_], _ => rfl
  | [_, _], _ => rfl
  | [_, _, _], h => exact absurd rfl h
  | _ :: _ :: _ :: _ :: _, _ => rfl
theorem isGv_len {ds : List D} (h : ¬ ds.length = 7) : isGv (.tup ds) = false := by
  unfold isGv
  split
  · rename_i e
    cases e
    exact absurd rfl h
  · rfl
theorem ident_eq (l : lf d = true) : c_is_ident [d] h = .ok (.bl (isId d)) h := by
  cases pln_of l with
  | tup ds =>
    refine eq_of_wp ?_
    unfold c_is_ident f_is_ident
    by_cases hl : ds.length = 3
    · obtain ⟨a, b, c, rfl⟩ := list3 hl
      obtain ⟨la, lb, lc⟩ := lfs3 (show lfs [a, b, c] = true from l)
      refine wp_bodyE [some (.tup [a, b, c])] rfl ?_
      fail "bz"
    · refine wp_bodyE [some (.tup ds)] rfl ?_
      have e := eqL (m := 3) hl rfl
      have e2 := isId_len hl
      fail "k"
      refine ⟨nof, fun _ => ?_⟩
      fail "k"
      rw [e]
      fail "bz"
  | _ => rfl
local macro_rules | `(tactic| fail "P1") => `(tactic| first
  | ((with_reducible show Wp (c_is_name _ _) _ _); refine wp_of (name_eq ?p ?q) ?_; (case p => fail "p"); (case q => first | assumption | omega))
  | ((with_reducible show Wp (c_is_ident _ _) _ _); refine wp_of (ident_eq ?p) ?_; (case p => assumption)))
theorem glove_eq (l : lf d = true) (hz : blk d ≤ 100000) : c_is_glove [d] h = .ok (.bl (isGv d)) h := by
  cases pln_of l with
  | tup ds =>
    refine eq_of_wp ?_
    unfold c_is_glove f_is_glove
    by_cases hl : ds.length = 7
    · obtain ⟨a, b, c, s, lo, hi, g, rfl⟩ := list7 hl
      have l := lfs_iff.mp (show lfs [a, b, c, s, lo, hi, g] = true from l)
      have la := l a (by simp); have lb := l b (by simp); have lc := l c (by simp)
      have ls := pln_of (l s (by simp)); have l1 := pln_of (l lo (by simp)); have l2 := pln_of (l hi (by simp)); have l3 := pln_of (l g (by simp))
      have l0 : lf (.tup [a, b, c]) = true := lfs_iff.mpr fun x hx => l x (by simp only [List.mem_cons, List.not_mem_nil, or_false] at hx ⊢; rcases hx with q | q | q <;> simp [q])
      have sz : blk s ≤ 100000 := by
        have h1 : blks [a, b, c, s, lo, hi, g] ≤ 100000 := hz
        have h2 := blks_mem (x := s) (xs := [a, b, c, s, lo, hi, g]) (by simp)
        omega
      refine wp_bodyE [some (.tup [a, b, c, s, lo, hi, g]), none, none, none] rfl ?_
      fail "k"
      refine ⟨nof, fun _ => ?_⟩
      fail "k"
      refine ⟨nof, fun _ => ?_⟩
      fail "k"
      rw [show cutX [a, b, c, s, lo, hi, g] none (some 3) = [a, b, c] from rfl]
      clear l
      fail "b"
      · refine (show _ ∧ _ from ⟨?_, rfl⟩)
        rename_i q _
        rw [Bool.not_eq_true'] at q
        show D.bl false = D.bl (isId (.tup [a, b, c]) && _)
        rw [q]; rfl
      all_goals try fail "z"
      obtain ⟨i, rfl⟩ : ∃ i, lo = .int i := by cases l1 <;> simp_all
      obtain ⟨j, rfl⟩ : ∃ i, hi = .int i := by cases l2 <;> simp_all
      fail "bz"
    · refine wp_bodyE [some (.tup ds), none, none, none] rfl ?_
      have e := eqL (m := 7) hl rfl
      have e2 := isGv_len hl
      fail "k"
      refine ⟨nof, fun _ => ?_⟩
      fail "k"
      rw [e]
      fail "bz"
  | _ => rfl
end
/-! # G28: gloves drawn -/
noncomputable section
end
/-- a name by its signs -/
def NmT (cs : List Nat) : Prop := 1 ≤ cs.length ∧ cs.length ≤ 8 ∧ Lw cs
/-- a glove by its parts -/
abbrev gl (m n : Int) (sd st : List Nat) (lo hi gr : Int) : D := .tup [.int m, .int n, .str (T sd), .str (T st), .int lo, .int hi, .int gr]
structure Gl (d : D) : Prop where
  ex : ∃ m n sd st lo hi gr, d = gl m n sd st lo hi gr ∧ 0 ≤ m ∧ m ≤ 999999 ∧ 0 ≤ n ∧ n ≤ 99 ∧ IsSide sd ∧ NmT st ∧ 1 ≤ lo ∧ lo ≤ 99 ∧ lo ≤ hi ∧ hi ≤ 138 ∧ 0 ≤ gr ∧ gr ≤ 2
section
end
/-! # G29: short texts -/
/-- a text of at most so many signs -/
structure Tx (n : Nat) (z : Str) : Prop where
  ok : okS z = true
  len : z.length ≤ n
theorem str_len (a b : Str) : (a ++ b).length = a.length + b.length := by
  show (a.cps ++ b.cps).size = _
  rw [Array.size_append]; rfl
theorem len_half {a b : Str} {k : Nat} (x : a.length ≤ k / 2) (y : b.length ≤ k / 2) : (a ++ b).length ≤ k := by rw [str_len]; omega
theorem lit_half {s : String} {k : Nat} (h : s.length ≤ k) : (Str.ofString s).length ≤ k := by rw [PySem.ofString_length]; exact h
theorem T_half {cs : List Nat} {k : Nat} (h : cs.length ≤ k) : (T cs).length ≤ k := by rw [T_len]; exact h
theorem okS_iff {z : Str} : okS z = true ↔ ∀ c ∈ z.cps.toList, c < 0x110000 := by
  constructor
  · exact okS_lt
  · intro h
    unfold okS
    rw [Array.all_eq_true']
    intro c hc
    exact decide_eq_true (h c (by simpa using hc))
theorem Tx.mono {n m : Nat} {z : Str} (a : Tx n z) (h : n ≤ m) : Tx m z := ⟨a.ok, Nat.le_trans a.len h⟩
theorem Tx.app {n m : Nat} {a b : Str} (x : Tx n a) (y : Tx m b) : Tx (n + m) (a ++ b) := ⟨okS_app x.ok y.ok, by rw [str_len]; exact Nat.add_le_add x.len y.len⟩
theorem Tx.cut {n : Nat} {a : Str} (x : Tx n a) (lo hi : Option Int) : Tx n (cutS a lo hi) := by
  rw [T_of a, T_cut]
  refine ⟨okS_iff.mpr fun c hc => okS_lt x.ok c (mem_cutX hc), ?_⟩
  rw [T_len]
  unfold cutX
  rw [List.length_take, List.length_drop]
  have := x.len
  have e : a.cps.toList.length = a.length := Array.length_toList
  omega
theorem cut_half {a : Str} {k : Nat} {lo hi : Option Int} (h : a.length ≤ k) : (cutS a lo hi).length ≤ k := by
  rw [T_of a, T_cut, T_len]
  unfold cutX
  rw [List.length_take, List.length_drop]
  have e : a.cps.toList.length = a.length := Array.length_toList
  omega
theorem Tx.T {cs : List Nat} (h : Lw cs) {n : Nat} (l : cs.length ≤ n) : Tx n (T cs) := ⟨lw_ok h, by rw [T_len]; exact l⟩
/-- small letters, figures and the like -/
def Asc (z : Str) : Prop := z.cps.toList.all (· < 128) = true
theorem asc_T {cs : List Nat} (h : Lw cs) : Asc (G.T cs) := List.all_eq_true.mpr fun c hc => decide_eq_true (by have := h c hc; omega)
theorem upper_asc {z : Str} (a : Asc z) : Txt.upper z = G.T (z.cps.toList.map PyProof.Rows.up1) := by
  have := SX.upper_S (a := z.cps.toList) a
  have e : SX.S z.cps.toList = z := (T_of z).symm
  rw [e] at this
  exact this
theorem tx_upper {n : Nat} {z : Str} (a : Asc z) (l : z.length ≤ n) : Tx n (Txt.upper z) := by
  rw [upper_asc a]
  refine ⟨okS_iff.mpr fun c hc => ?_, ?_⟩
  · obtain ⟨b, hb, rfl⟩ := List.mem_map.mp (show c ∈ z.cps.toList.map PyProof.Rows.up1 from hc)
    have := of_decide_eq_true (List.all_eq_true.mp a b hb)
    unfold PyProof.Rows.up1
    split <;> omega
  · rw [T_len, List.length_map]
    have e : z.cps.toList.length = z.length := Array.length_toList
    omega
section
variable {h : Hs} {x y : Str} {i : Int} {xs ys : List D} {e : Ev} {Q : D → Hs → Prop} {X : XQ}
theorem add_str (q : x.length ≤ 50000) (r : y.length ≤ 50000) : gAdd h (.str x) (.str y) = some (.str (x ++ y)) := if_pos (le_line (by omega))
theorem sl_str {lo hi : Option Int} (q : x.length ≤ 100000) : gSl h (.str x) lo hi = some (.str (cutS x lo hi)) := if_pos (le_line q)
theorem len_str (q : x.length ≤ 100000) : gLen h [.str x] = some (.int x.length) := if_pos (le_line q)
theorem upper_str (q : x.length ≤ 100000) : mUpper h (.str x) [] = some (.str (Txt.upper x), h) := if_pos (by omega)
theorem str_int (q : i.natAbs < 10 ^ 60) : gStr h [.int i] = some (.str (toString i : String)) := by
  unfold gStr
  exact if_pos (int_lf q)
theorem eq_same : gEq h (.str x) (.str x) = some (.bl true) := by
  show some (D.bl (x == x)) = _
  rw [beq_self_eq_true]
theorem ne_same : gNe h (.str x) (.str x) = some (.bl false) := by
  show some (D.bl (!(x == x))) = _
  rw [beq_self_eq_true]; rfl
theorem rev_tup : gRev h (.tup xs) = some (.tup xs.reverse) := rfl
theorem rev_lst : gRev h (.lst xs) = some (.lst xs.reverse) := rfl
theorem is_bl {p q : Bool} : gIs h (.bl p) (.bl q) = some (.bl (decide (p = q))) := rfl
theorem isN_bl {p q : Bool} : gIsN h (.bl p) (.bl q) = some (.bl (!decide (p = q))) := rfl
theorem neg_i : gNeg h (.int i) = some (.int (-i)) := rfl
theorem wp_inv {a : Type} {o : Option a} {h : Hs} {Q : a → Hs → Prop} {X : XQ} (w : Wp (R.ofO o h) Q X) : ∃ x, o = some x ∧ Q x h := by
  with_unfolding_all
  cases o with
  | none => exact False.elim w
  | some x => exact ⟨x, rfl, w⟩
theorem wp_lAdd {f1 f2 : FE} {Q : List D → Hs → Prop} (g : Wp (f1 e h) (fun x h1 => Wp (f2 e h1) (fun y h2 => Wp (R.ofO (lstOf h2 x) h2) (fun xs h3 => Wp (R.ofO (lstOf h3 y) h3) (fun ys h4 => (xs.length ≤ 50000 ∧ ys.length ≤ 50000) ∧ Q (xs ++ ys) h4) X) X) X) X) : Wp (lAdd f1 f2 e h) Q X := by
  unfold lAdd
  refine wp_bind (wp_mono g (fun x h1 q => wp_bind (wp_mono q (fun y h2 q => ?_) fun _ _ _ x => x)) fun _ _ _ x => x)
  obtain ⟨xs, e1, q⟩ := wp_inv q
  obtain ⟨ys, e2, ⟨l1, l2⟩, q⟩ := wp_inv q
  rw [e1]
  dsimp only
  rw [e2]
  dsimp only
  rw [if_pos (le_line (by omega))]
  exact wp_ok q
theorem lst_lst : lstOf h (.lst xs) = some xs := rfl
end
section
end
/-! ### by any wish -/
theorem eq_any {r : R D} {x : D} {h : Hs} (w : ∀ (Q : D → Hs → Prop) (X : XQ), Q x h → Wp r Q X) : r = .ok x h := by
  obtain ⟨d, h', e, rfl, rfl⟩ := wp_get (w (fun d h' => d = x ∧ h' = h) nX ⟨rfl, rfl⟩)
  exact e
theorem closeB {Q : D → Hs → Prop} {b b' : Bool} {h : Hs} (c : Q (.bl b) h) (e : b = b') : Q (.bl b') h := e ▸ c
/-- of which kind -/
def tyIs (d : D) (u : Tn) : Bool := match d with
  | .bl _ => isTn .bool u
  | .int _ => isTn .int u
  | .str _ => isTn .str u
  | .tup _ => isTn .tup u
  | .lst _ => isTn .lst u
  | .dct _ _ => isTn .dct u
  | _ => false
theorem isi_pln {h : Hs} {d : D} {u : Tn} (p : Pln d) : gIsi h [d, .ty u] = some (.bl (tyIs d u)) := by cases p <;> rfl
section
variable {h : Hs} {x : Str} {i : Int} {xs : List D}
theorem mulS_str (a : 2 ≤ i) (b : i ≤ 10000) (d : x.length ≤ 1000) : gMulS h (.str x) (.int i) = some (.str (repS x i)) := by
  unfold gMulS
  dsimp only
  rw [decide_eq_true a, decide_eq_true b, decide_eq_true d]
  rfl
theorem mulS_tupA (a : 2 ≤ i) (b : i ≤ 1000) (c : xs.isEmpty = false) (d : xs.length ≤ 1000) : gMulS h (.tup xs) (.int i) = some (.tup (List.replicate i.toNat xs).flatten) := mulS_tup a b c d
theorem pow39 : gPow h (.int 10) (.int 39) = some (.int 1000000000000000000000000000000000000000) := rfl
theorem pow30 : gPow h (.int 10) (.int 30) = some (.int 1000000000000000000000000000000) := rfl
theorem pow40 : gPow h (.int 10) (.int 40) = some (.int 10000000000000000000000000000000000000000) := rfl
theorem tru_non : tru h .non = some false := rfl
theorem tru_int : tru h (.int i) = some (i != 0) := rfl
theorem tru_str (q : x.length ≤ 100000) : tru h (.str x) = some ((x.length : Int) != 0) := if_pos (le_line q)
theorem tru_tup : tru h (.tup xs) = some (!xs.isEmpty) := rfl
end
/-! ### lengths of lists, by halves -/
section
variable {t : Type} {xs ys : List t} {k : Nat} {h : Hs} {us vs : List D}
theorem app_half (x : xs.length ≤ k / 2) (y : ys.length ≤ k / 2) : (xs ++ ys).length ≤ k := by rw [List.length_append]; omega
theorem cutL_half {lo hi : Option Int} (x : xs.length ≤ k) : (cutX xs lo hi).length ≤ k := Nat.le_trans ((List.take_sublist ..).trans (List.drop_sublist ..)).length_le x
theorem rev_half (x : xs.length ≤ k) : xs.reverse.length ≤ k := by rw [List.length_reverse]; exact x
theorem cons_half {a : t} (x : xs.length ≤ k / 2) (k1 : 2 ≤ k) : (a :: xs).length ≤ k := by rw [List.length_cons]; omega
theorem map_half {u : Type} {f : t → u} (x : xs.length ≤ k) : (xs.map f).length ≤ k := by rw [List.length_map]; exact x
theorem add_tup2 (a : us.length ≤ 50000) (b : vs.length ≤ 50000) : gAdd h (.tup us) (.tup vs) = some (.tup (us ++ vs)) := add_tup (by omega)
theorem add_lst2 (a : us.length ≤ 50000) (b : vs.length ≤ 50000) : gAdd h (.lst us) (.lst vs) = some (.lst (us ++ vs)) := add_lst (by omega)
end
/-! ### things behind -/
section
variable {L n : Nat} {K : Hs → Prop} {h : Hs} {o : O} {ds : List D} {i : Int} {Q : D → Hs → Prop} {X : XQ}
theorem lst_ref (e : h[n]? = some (.lst ds)) : lstOf h (.ref n) = some ds := by
  unfold lstOf
  dsimp only
  rw [e]
theorem len_ref (e : h[n]? = some (.lst ds)) : gLen h [.ref n] = some (.int ds.length) := len_seq (seq_ref e)
theorem tup_ref (e : h[n]? = some (.lst ds)) : gTuple h [.ref n] = some (.tup ds) := by
  show (match rdOf h (.ref n) with | some xs => some (D.tup xs) | none => none) = _
  rw [rd_ref e]
theorem lt_line {m : Nat} (q : m ≤ 100000) : m < sizeLine := by rw [sizeLine_eq]; omega
theorem app_ref2 {d : D} (e : h[n]? = some (.lst ds)) (q : ds.length ≤ 50000) : mAppend h (.ref n) [d] = some (.non, h.set n (.lst (ds ++ [d]))) := app_ref e (lt_line (by omega))
theorem St.wapp (S : St L K h) (sK : Stb L K) : St L K (h ++ [o]) := (S.app (o := o) sK).weak (Nat.le_succ_of_le S.len) fun k => k.1
theorem St.wset (S : St L K h) (sK : Stb L K) (l : L ≤ n) (l2 : 2 < n) : St L K (h.set n o) := by
  obtain ⟨ne, ⟨s, k, h1⟩, ⟨ns, hl, h2⟩⟩ := S.deck
  refine ⟨⟨ne, ⟨s, k, by rw [get_set_ne (by omega)]; exact h1⟩, ⟨ns, hl, by rw [get_set_ne (by omega)]; exact h2⟩⟩, sK _ _ S.keep S.len fun m hm _ _ => get_set_ne (by omega), ?_⟩
  rw [List.length_set]; exact S.len
end
section
variable {n m : Nat} {h : Hs} {ds es : List D}
theorem addL_of {x y : D} (a : lstOf h x = some ds) (b : lstOf h y = some es) (l : ds.length ≤ 50000) (l2 : es.length ≤ 50000) : gAddL h x y = some (.lst (ds ++ es)) := by
  unfold gAddL
  rw [a]
  dsimp only
  rw [b]
  dsimp only
  rw [if_pos (le_line (by omega))]
theorem add_rl (a : h[n]? = some (.lst ds)) (l : ds.length ≤ 50000) (l2 : es.length ≤ 50000) : gAdd h (.ref n) (.lst es) = some (.lst (ds ++ es)) := show gAddL h (.ref n) (.lst es) = _ from addL_of (x := .ref n) (y := .lst es) (lst_ref a) rfl l l2
theorem add_lr (a : h[n]? = some (.lst es)) (l : ds.length ≤ 50000) (l2 : es.length ≤ 50000) : gAdd h (.lst ds) (.ref n) = some (.lst (ds ++ es)) := show gAddL h (.lst ds) (.ref n) = _ from addL_of (x := .lst ds) (y := .ref n) rfl (lst_ref a) l l2
theorem add_rr (a : h[n]? = some (.lst ds)) (b : h[m]? = some (.lst es)) (l : ds.length ≤ 50000) (l2 : es.length ≤ 50000) : gAdd h (.ref n) (.ref m) = some (.lst (ds ++ es)) := show gAddL h (.ref n) (.ref m) = _ from addL_of (x := .ref n) (y := .ref m) (lst_ref a) (lst_ref b) l l2
end
/-! # G30: plain data by bounds: whole numbers, depth, size; texts of plain signs -/
/-! ### plain texts -/
structure Tz (n : Nat) (z : Str) : Prop where
  asc : Asc z
  len : z.length ≤ n
theorem asc_iff {z : Str} : Asc z ↔ ∀ c ∈ z.cps.toList, c < 128 := by
  unfold Asc
  rw [List.all_eq_true]
  exact ⟨fun h c hc => of_decide_eq_true (h c hc), fun h c hc => decide_eq_true (h c hc)⟩
theorem cps_app (a b : Str) : (a ++ b).cps.toList = a.cps.toList ++ b.cps.toList := by
  show (a.cps ++ b.cps).toList = _
  rw [Array.toList_append]
theorem Tz.tx {n : Nat} {z : Str} (t : Tz n z) : Tx n z := ⟨okS_iff.mpr fun c hc => by have := asc_iff.mp t.asc c hc; omega, t.len⟩
theorem Tz.mono {n m : Nat} {z : Str} (a : Tz n z) (h : n ≤ m) : Tz m z := ⟨a.asc, Nat.le_trans a.len h⟩
theorem Tz.app {n m : Nat} {a b : Str} (x : Tz n a) (y : Tz m b) : Tz (n + m) (a ++ b) :=
  ⟨asc_iff.mpr fun c hc => by rw [cps_app] at hc; exact (List.mem_append.mp hc).elim (asc_iff.mp x.asc c) (asc_iff.mp y.asc c), (x.tx.app y.tx).len⟩
theorem Tz.cut {n : Nat} {a : Str} (x : Tz n a) (lo hi : Option Int) : Tz n (cutS a lo hi) :=
  ⟨asc_iff.mpr fun c hc => by rw [T_of a, T_cut] at hc; exact asc_iff.mp x.asc c (mem_cutX hc), (x.tx.cut lo hi).len⟩
theorem Tz.upper {n : Nat} {a : Str} (x : Tz n a) : Tz n (Txt.upper a) := by
  refine ⟨?_, (tx_upper x.asc x.len).len⟩
  rw [upper_asc x.asc, asc_iff]
  intro c hc
  obtain ⟨b, hb, rfl⟩ := List.mem_map.mp (show c ∈ a.cps.toList.map PyProof.Rows.up1 from hc)
  have := asc_iff.mp x.asc b hb
  unfold PyProof.Rows.up1
  split <;> omega
theorem Tz.rev {n : Nat} {z : Str} (a : Tz n z) : Tz n (G.T z.cps.toList.reverse) := by
  refine ⟨asc_iff.mpr fun c hc => asc_iff.mp a.asc c (List.mem_reverse.mp hc), ?_⟩
  rw [T_len, List.length_reverse]
  have e : z.cps.toList.length = z.length := Array.length_toList
  rw [e]; exact a.len
theorem Tz.T {cs : List Nat} (h : Lw cs) {n : Nat} (l : cs.length ≤ n) : Tz n (G.T cs) := ⟨asc_T h, by rw [T_len]; exact l⟩
theorem Tz.one {c n : Nat} (h : c < 128) : Tz (n + 1) ⟨#[c]⟩ := ⟨asc_iff.mpr fun b hb => by
  have : b = c := by simpa using hb
  omega, Nat.le_add_left 1 n⟩
/-! ### plain data, whole numbers up to B -/
def kdn (B : Nat) : Key → Bool
  | .inl i => decide (i.natAbs ≤ B)
  | .inr s => s.cps.toList.all (· < 128)
mutual
def dn (B : Nat) : D → Bool
  | .non => true
  | .bl _ => true
  | .int i => decide (i.natAbs ≤ B)
  | .str s => s.cps.toList.all (· < 128)
  | .tup ds => dns B ds
  | .lst ds => dns B ds
  | .dct ks ds => ks.all (kdn B) && decide (ks.length = ds.length) && dns B ds
  | _ => false
def dns (B : Nat) : List D → Bool
  | [] => true
  | d :: ds => dn B d && dns B ds
end
theorem dns_cons {B : Nat} {d : D} {ds : List D} : dns B (d :: ds) = true ↔ dn B d = true ∧ dns B ds = true := Bool.and_eq_true _ _ ▸ Iff.rfl
theorem dns_iff {B : Nat} {ds : List D} : dns B ds = true ↔ ∀ x ∈ ds, dn B x = true := by
  induction ds with
  | nil => exact ⟨fun _ x h => (nomatch h), fun _ => rfl⟩
  | cons d ds ih => rw [dns_cons, ih]; simp
theorem asc_ok {z : Str} (a : Asc z) : okS z = true := okS_iff.mpr fun c hc => by have := asc_iff.mp a c hc; omega
theorem kdn_lf {B : Nat} (hB : B < 10 ^ 60) {k : Key} (h : kdn B k = true) : klf k = true := by
  cases k with
  | inl i => exact decide_eq_true (Nat.lt_of_le_of_lt (of_decide_eq_true h) hB)
  | inr s => exact asc_ok h
theorem kdn_mono {B C : Nat} (hB : B ≤ C) {k : Key} (h : kdn B k = true) : kdn C k = true := by
  cases k with
  | inl i => exact decide_eq_true (Nat.le_trans (of_decide_eq_true h) hB)
  | inr s => exact h
theorem all_imp {t : Type} {p q : t → Bool} {xs : List t} (i : ∀ x, p x = true → q x = true) (h : xs.all p = true) : xs.all q = true := by
  rw [List.all_eq_true] at *
  exact fun x hx => i x (h x hx)
theorem dct_iff {B : Nat} {ks : List Key} {ds : List D} : dn B (.dct ks ds) = true ↔ (ks.all (kdn B) = true ∧ ks.length = ds.length) ∧ dns B ds = true := by
  show (ks.all (kdn B) && decide (ks.length = ds.length) && dns B ds) = true ↔ _
  rw [Bool.and_eq_true, Bool.and_eq_true, decide_eq_true_iff]
mutual
theorem dn_lf {B : Nat} (hB : B < 10 ^ 60) : ∀ {d : D}, dn B d = true → lf d = true
  | .non, _ => rfl
  | .bl _, _ => rfl
  | .int _, h => decide_eq_true (Nat.lt_of_le_of_lt (of_decide_eq_true h) hB)
  | .str _, h => asc_ok h
  | .tup ds, h => dns_lf hB (ds := ds) h
  | .lst ds, h => dns_lf hB (ds := ds) h
  | .dct ks ds, h => by
    obtain ⟨⟨a, b⟩, c⟩ := dct_iff.mp h
    show (ks.all klf && decide (ks.length = ds.length) && lfs ds) = true
    rw [all_imp (fun x => kdn_lf hB) a, decide_eq_true b, dns_lf hB c]; rfl
theorem dns_lf {B : Nat} (hB : B < 10 ^ 60) : ∀ {ds : List D}, dns B ds = true → lfs ds = true
  | [], _ => rfl
  | d :: ds, h => lfs_cons.mpr ⟨dn_lf hB (dns_cons.mp h).1, dns_lf hB (dns_cons.mp h).2⟩
end
mutual
theorem dn_mono {B C : Nat} (hB : B ≤ C) : ∀ {d : D}, dn B d = true → dn C d = true
  | .non, _ => rfl
  | .bl _, _ => rfl
  | .int _, h => decide_eq_true (Nat.le_trans (of_decide_eq_true h) hB)
  | .str _, h => h
  | .tup ds, h => dns_mono hB (ds := ds) h
  | .lst ds, h => dns_mono hB (ds := ds) h
  | .dct ks ds, h => by
    obtain ⟨⟨a, b⟩, c⟩ := dct_iff.mp h
    exact dct_iff.mpr ⟨⟨all_imp (fun x => kdn_mono hB) a, b⟩, dns_mono hB c⟩
theorem dns_mono {B C : Nat} (hB : B ≤ C) : ∀ {ds : List D}, dns B ds = true → dns C ds = true
  | [], _ => rfl
  | d :: ds, h => dns_cons.mpr ⟨dn_mono hB (dns_cons.mp h).1, dns_mono hB (dns_cons.mp h).2⟩
end
/-- plain data: whole numbers up to B, so deep, so great -/
structure Dd (B k n : Nat) (d : D) : Prop where
  dn_ : dn B d = true
  dep_ : dep d ≤ k
  blk_ : blk d ≤ n
structure Dds (B k n : Nat) (ds : List D) : Prop where
  dn_ : dns B ds = true
  dep_ : deps ds ≤ k
  blk_ : blks ds ≤ n
section
variable {B C k n m k' n' : Nat} {d : D} {ds xs ys : List D} {z : Str} {i : Int} {b : Bool}
theorem Dd.sm (a : Dd B k n d) (hB : B < 10 ^ 60) : Sm k n d := ⟨dn_lf hB a.dn_, a.dep_, a.blk_⟩
theorem Dd.mono (a : Dd B k n d) (hB : B ≤ C) (hk : k ≤ k') (hn : n ≤ n') : Dd C k' n' d := ⟨dn_mono hB a.dn_, Nat.le_trans a.dep_ hk, Nat.le_trans a.blk_ hn⟩
theorem Dds.mono (a : Dds B k n ds) (hB : B ≤ C) (hk : k ≤ k') (hn : n ≤ n') : Dds C k' n' ds := ⟨dns_mono hB a.dn_, Nat.le_trans a.dep_ hk, Nat.le_trans a.blk_ hn⟩
theorem Dd.pln (a : Dd B k n d) : Pln d := by
  have := a.dn_
  cases d <;> first | constructor | exact absurd this Bool.false_ne_true
theorem Dds.app (a : Dds B k n xs) (b : Dds B k m ys) : Dds B k (n + m) (xs ++ ys) :=
  ⟨dns_iff.mpr fun x hx => (List.mem_append.mp hx).elim (dns_iff.mp a.dn_ x) (dns_iff.mp b.dn_ x), deps_iff.mpr fun x hx => (List.mem_append.mp hx).elim (deps_iff.mp a.dep_ x) (deps_iff.mp b.dep_ x), by rw [blks_app]; exact Nat.add_le_add a.blk_ b.blk_⟩
theorem Dds.sub (a : Dds B k n ys) (h : xs.Sublist ys) : Dds B k n xs :=
  ⟨dns_iff.mpr fun x hx => dns_iff.mp a.dn_ x (h.subset hx), deps_iff.mpr fun x hx => deps_iff.mp a.dep_ x (h.subset hx), Nat.le_trans (blks_sub h) a.blk_⟩
theorem Dds.rev (a : Dds B k n xs) : Dds B k n xs.reverse :=
  ⟨dns_iff.mpr fun x hx => dns_iff.mp a.dn_ x (List.mem_reverse.mp hx), deps_iff.mpr fun x hx => deps_iff.mp a.dep_ x (List.mem_reverse.mp hx), by rw [blks_rev]; exact a.blk_⟩
theorem Dds.cut (a : Dds B k n xs) (lo hi : Option Int) : Dds B k n (cutX xs lo hi) := a.sub ((List.take_sublist ..).trans (List.drop_sublist ..))
theorem Dds.len (a : Dds B k n xs) : xs.length ≤ n := Nat.le_trans blks_len a.blk_
theorem Dd.int (s : Dd B k n (.int i)) : i.natAbs ≤ B := of_decide_eq_true s.dn_
theorem Dd.str (s : Dd B k n (.str z)) : Tz n z := ⟨s.dn_, s.blk_⟩
theorem Dd.tup (s : Dd B k n (.tup ds)) : Dds B (k - 1) n ds := ⟨s.dn_, by have := s.dep_; have h : dep (.tup ds) = deps ds + 1 := rfl; omega, s.blk_⟩
end
/-! ### repr of a list that one keeps -/
/-! ### == () -/
def gEqT (hs : Hs) (d e : D) : Option D := match d, e with
  | .tup ds, .tup [] => some (.bl ds.isEmpty)
  | d, e => gEq hs d e
theorem eqT_tup {h : Hs} {ds : List D} : gEqT h (.tup ds) (.tup []) = some (.bl ds.isEmpty) := rfl
theorem rev_str {h : Hs} {z : Str} (q : z.length ≤ 100000) : gRev h (.str z) = some (.str (G.T z.cps.toList.reverse)) := if_pos (le_line q)
theorem wp_ixD {ds : List D} {i : Int} {h : Hs} {Q : D → Hs → Prop} {X : XQ} (P : D → Prop) (i0 : 0 ≤ i) (i1 : i < ds.length) (hP : ∀ x ∈ ds, P x) (c : ∀ x, P x → Q x h) : Wp (R.ofO (gIx h (.lst ds) (.int i)) h) Q X := wp_ixP P i0 i1 hP c
/-! # G31: enumerate and zip of lists and tuples -/
open PySem.AutoSeq1 (wpAny_loadPart')

/-! ### as functions -/
/-- what is walked, numbered -/
def nxE (nx : Nx) : Nx := fun hs i => (nx hs i).map (Option.map fun d => .tup [.int i, d])
/-- two walked at once -/
def nxZ (nx1 nx2 : Nx) : Nx := fun hs i => match nx1 hs i, nx2 hs i with
  | some (some d), some (some e) => some (some (.tup [d, e]))
  | some none, some _ => some none
  | some _, some none => some none
  | _, _ => none
/-- a list here -/
def lsOf (h : Hs) (d : D) : Option (List D) := match d with
  | .lst ds => some ds
  | .scr ds => some ds
  | .ref n => (match h[n]? with | some (.lst ds) => some ds | _ => none)
  | _ => none
def nxS (d : D) : Nx := fun h i => match lsOf h d with
  | some ds => some ds[i]?
  | none => none
def tpOf (d : D) : Option (List D) := match d with
  | .tup ds => some ds
  | .ctp ds => some ds
  | _ => none
section
variable {K : PySem.W.Frag} {mg : Str → Option Value} {mu mu' : Mp} {H H' : Hp} {hs hs' : Hs} {d : D} {a : Addr} {v : V} {ds : List D}
/-- a list at its place, now and later -/
theorem ls_at (S : Sim K mg mu hs H) (r : RD K mu H d v) (e : lsOf hs d = some ds) : ∃ a vs, v = .ref a ∧ SqL K H a vs ∧ RDs K mu H ds vs := by
  cases r with
  | lst h1 h2 h3 => cases e; exact ⟨_, _, rfl, .of h1, h3⟩
  | scr h1 h3 => cases e; exact ⟨_, _, rfl, h1.sq, h3⟩
  | ref hn =>
    unfold lsOf at e
    dsimp only at e
    split at e
    · rename_i es hd
      cases e
      obtain ⟨u, e1, e2⟩ := S.at hn hd
      cases u <;> first
        | exact ⟨_, _, rfl, .of e1, e2⟩
        | exact e2.elim
    · cases e
  | _ => cases e
theorem tp_at (r : RD K mu H d v) (e : tpOf d = some ds) : ∃ a vs, v = .ref a ∧ SqT K H a vs ∧ RDs K mu H ds vs := by
  cases r with
  | tup h1 h3 => cases e; exact ⟨_, _, rfl, h1.sq, h3⟩
  | ctp h1 h3 => cases e; exact ⟨_, _, rfl, sqT_c h1, h3⟩
  | _ => cases e
theorem new_tup {T : Addr} {x y : V} {d e : D} (s : Sim K mg mu hs H) (n : H T = none) (r : RD K mu H d x) (q : RD K mu H e y) : Lat mu H mu (upd H T (.tup [x, y])) ∧ Sim K mg mu hs (upd H T (.tup [x, y])) ∧ RD K mu (upd H T (.tup [x, y])) (.tup [d, e]) (.ref T) :=
  have l : Lat mu H mu (upd H T (.tup [x, y])) := .new n
  ⟨l, s.new n, .tup ⟨upd_same, s.fresh n⟩ (.cons (RD.agr (l.agr s) r) (.cons (RD.agr (l.agr s) q) .nil))⟩
theorem zipL_ri {d2 : D} {b : Addr} (S : Sim K mg mu hs H) (r : RD K mu H d (.ref a)) (r2 : RD K mu H d2 (.ref b)) : RI K mg mu H (nxZ (nxS d) (nxS d2)) (Itz K a b) := by
  intro mu' H' hs' l s i
  have ra := RD.agr (l.agr S) r
  have rb := RD.agr (l.agr S) r2
  unfold nxZ nxS
  cases q : lsOf hs' d with
  | none => exact ⟨fun z => (by cases z), fun _ z => (by cases z)⟩
  | some ds =>
    cases q' : lsOf hs' d2 with
    | none => cases e : ds[i]? <;> exact ⟨fun z => (by simp [e] at z), fun _ z => (by simp [e] at z)⟩
    | some es =>
      obtain ⟨a', vs, ea, h1, h2⟩ := ls_at s ra q
      obtain ⟨b', us, eb, g1, g2⟩ := ls_at s rb q'
      cases ea; cases eb
      dsimp only
      cases q2 : ds[i]? with
      | none =>
        refine ⟨fun _ => ⟨vs, us, h1, g1, .inl (by rw [← h2.length]; exact List.getElem?_eq_none_iff.mp q2)⟩, fun _ z => (by simp at z)⟩
      | some x =>
        cases q3 : es[i]? with
        | none => exact ⟨fun _ => ⟨vs, us, h1, g1, .inr (by rw [← g2.length]; exact List.getElem?_eq_none_iff.mp q3)⟩, fun _ z => (by simp at z)⟩
        | some y =>
          obtain ⟨x', e1, e2⟩ := h2.get q2
          obtain ⟨y', f1, f2⟩ := g2.get q3
          refine ⟨fun z => (by cases z), fun _ z => ?_⟩
          cases z
          refine ⟨⟨vs, us, x', y', h1, g1, e1, f1⟩, ?_⟩
          rintro v H2 ⟨T, x2, y2, rfl, n, rfl, w, w2⟩
          have z1 := w vs h1
          rw [e1] at z1; cases z1
          have z2 := w2 us g1
          rw [f1] at z2; cases z2
          exact new_tup s n e2 f2
theorem zipT_ri {d2 : D} {b : Addr} {es : List D} (S : Sim K mg mu hs H) (r : RD K mu H d (.ref a)) (r2 : RD K mu H d2 (.ref b)) (t : tpOf d = some ds) (t2 : tpOf d2 = some es) : RI K mg mu H (nxZ (nxL ds) (nxL es)) (RZ.ItzT K a b) := by
  intro mu' H' hs' l s i
  obtain ⟨a', vs, ea, h1, h2⟩ := tp_at (RD.agr (l.agr S) r) t
  obtain ⟨b', us, eb, g1, g2⟩ := tp_at (RD.agr (l.agr S) r2) t2
  cases ea; cases eb
  unfold nxZ nxL
  cases q2 : ds[i]? with
  | none =>
    refine ⟨fun _ => ⟨vs, us, h1, g1, .inl (by rw [← h2.length]; exact List.getElem?_eq_none_iff.mp q2)⟩, fun _ z => (by simp at z)⟩
  | some x =>
    cases q3 : es[i]? with
    | none => exact ⟨fun _ => ⟨vs, us, h1, g1, .inr (by rw [← g2.length]; exact List.getElem?_eq_none_iff.mp q3)⟩, fun _ z => (by simp at z)⟩
    | some y =>
      obtain ⟨x', e1, e2⟩ := h2.get q2
      obtain ⟨y', f1, f2⟩ := g2.get q3
      refine ⟨fun z => (by cases z), fun _ z => ?_⟩
      cases z
      refine ⟨⟨vs, us, x', y', h1, g1, e1, f1⟩, ?_⟩
      rintro v H2 ⟨T, x2, y2, rfl, n, rfl, w, w2⟩
      have z1 := w vs h1
      rw [e1] at z1; cases z1
      have z2 := w2 us g1
      rw [f1] at z2; cases z2
      exact new_tup s n e2 f2
end
section
variable {X : Cx} {Wd : WX} {a b : Expr} {fa : FA}
def enOf (h : Hs) (ds : List D) : Option Nx := match ds with
  | [d] => (match tpOf d with
    | some es => some (nxE (nxL es))
    | none => (match lsOf h d with | some _ => some (nxE (nxS d)) | none => none))
  | _ => none
def zpOf (h : Hs) (ds : List D) : Option Nx := match ds with
  | [d, e] => (match tpOf d, tpOf e with
    | some xs, some ys => some (nxZ (nxL xs) (nxL ys))
    | _, _ => (match lsOf h d, lsOf h e with | some _, some _ => some (nxZ (nxS d) (nxS e)) | _, _ => none))
  | _ => none
def iOf (g : Hs → List D → Option Nx) (f : FA) : FI := fun e hs => (f e hs).bind fun ds hs => match g hs ds with | some nx => .ok nx hs | none => .bad
theorem ui_zip {p pos tpos : Pos} {elts : List Expr} {kk : Nat} (hg : L2.Gl X "zip") (hm : X.mg "zip" = none) (ha : UA X Wd [a, b] fa) (hs : starEach [a, b] X.env = (false, eval a X.env) :: starEach [b] X.env := by rfl) (hpl : (backTo pos (starEach [b] X.env)).any (·.1) = false := by rfl) :
    UI X Wd (.Tuple elts kk tpos) (.Call (.Name "zip" p) [a, b] [] pos) (iOf zpOf fa) := by
  refine PI.imp (RZ.pi_zipA hg hm ha hs hpl) fun σ H Q h => ?_
  obtain ⟨e, mu, hs, S, E, g⟩ := h
  unfold iOf at g
  refine ⟨e, mu, hs, S, E, ?_⟩
  cases q : fa e hs with
  | bad => rw [q] at g; exact g.elim
  | exc c fs hs' => rw [q] at g; exact g
  | ok ds hs' =>
    rw [q] at g
    dsimp only [R.bind_ok] at g
    cases z : zpOf hs' ds with
    | none => rw [z] at g; exact g.elim
    | some nx =>
      rw [z] at g
      unfold zpOf at z
      split at z
      · rename_i d d2
        split at z
        · rename_i xs ys z1 z2
          cases z
          rintro mu1 H1 vs l1 S1 (_ | ⟨r, _ | ⟨r2, _ | _⟩⟩)
          obtain ⟨a', us, rfl, h1, h2⟩ := tp_at r z1
          obtain ⟨b', us', rfl, g1, g2⟩ := tp_at r2 z2
          exact ⟨a', b', us, us', rfl, .inr ⟨h1, g1, g mu1 H1 _ l1 S1 (zipT_ri S1 r r2 z1 z2)⟩⟩
        · split at z
          · rename_i xs ys z1 z2
            cases z
            rintro mu1 H1 vs l1 S1 (_ | ⟨r, _ | ⟨r2, _ | _⟩⟩)
            obtain ⟨a', us, rfl, h1, h2⟩ := ls_at S1 r z1
            obtain ⟨b', us', rfl, g1, g2⟩ := ls_at S1 r2 z2
            exact ⟨a', b', us, us', rfl, .inl ⟨h1, g1, g mu1 H1 _ l1 S1 (zipL_ri S1 r r2)⟩⟩
          · cases z
      · cases z
end
/-! ### != () -/
def gNeT (hs : Hs) (d e : D) : Option D := match d, e with
  | .tup ds, .tup [] => some (.bl (!ds.isEmpty))
  | d, e => gNe hs d e
theorem neT_tup {h : Hs} {ds : List D} : gNeT h (.tup ds) (.tup []) = some (.bl (!ds.isEmpty)) := rfl
/-! # G32: enumerate, zip as lists; spots of nested tuples -/
def enumL (ds : List D) : List D := (List.range ds.length).zipWith (fun i d => .tup [.int (i : Nat), d]) ds
def zipL (ds es : List D) : List D := ds.zipWith (fun d e => .tup [d, e]) es
theorem enumL_at {ds : List D} {i : Nat} : (enumL ds)[i]? = ds[i]?.map fun d => .tup [.int i, d] := by
  unfold enumL
  rw [List.getElem?_zipWith]
  by_cases h : i < ds.length
  · rw [List.getElem?_range h, List.getElem?_eq_getElem h]; rfl
  · rw [List.getElem?_eq_none (Nat.le_of_not_lt h)]
    cases (List.range ds.length)[i]? <;> rfl
theorem nxE_L {ds : List D} : nxE (nxL ds) = nxL (enumL ds) := by
  funext h i
  show (some ds[i]?).map _ = some _
  rw [enumL_at]; rfl
theorem nxZ_L {ds es : List D} : nxZ (nxL ds) (nxL es) = nxL (zipL ds es) := by
  funext h i
  unfold nxZ nxL zipL
  rw [List.getElem?_zipWith]
  cases ds[i]? <;> cases es[i]? <;> rfl
section
variable {e : Ev} {h : Hs} {X : XQ} {ds es : List D} {d : D}
theorem wp_iOf {g : Hs → List D → Option Nx} {f : FA} {Q : Nx → Hs → Prop} (q : Wp (f e h) (fun ds h => ∃ nx, g h ds = some nx ∧ Q nx h) X) : Wp (iOf g f e h) Q X := by
  refine wp_bind (wp_mono q (fun ds h' ⟨nx, e1, e2⟩ => ?_) fun _ _ _ x => x)
  rw [e1]
  exact wp_ok e2
theorem en_tup : enOf h [.tup ds] = some (nxL (enumL ds)) := by
  show some (nxE (nxL ds)) = _
  rw [nxE_L]
theorem en_lst : enOf h [.lst ds] = some (nxL (enumL ds)) := by
  show some (nxE (nxL ds)) = _
  rw [nxE_L]
theorem zp_tup : zpOf h [.tup ds, .tup es] = some (nxL (zipL ds es)) := by
  show some (nxZ (nxL ds) (nxL es)) = _
  rw [nxZ_L]
theorem zp_lst : zpOf h [.lst ds, .lst es] = some (nxL (zipL ds es)) := by
  show some (nxZ (nxL ds) (nxL es)) = _
  rw [nxZ_L]
end
section
variable {h : Hs} {ds es : List D} {Q : Nx → Prop}
theorem ex_ent (q : Q (nxL (enumL ds))) : ∃ nx, enOf h [.tup ds] = some nx ∧ Q nx := ⟨_, en_tup, q⟩
theorem ex_enl (q : Q (nxL (enumL ds))) : ∃ nx, enOf h [.lst ds] = some nx ∧ Q nx := ⟨_, en_lst, q⟩
theorem ex_zpt (q : Q (nxL (zipL ds es))) : ∃ nx, zpOf h [.tup ds, .tup es] = some nx ∧ Q nx := ⟨_, zp_tup, q⟩
theorem ex_zpl (q : Q (nxL (zipL ds es))) : ∃ nx, zpOf h [.lst ds, .lst es] = some nx ∧ Q nx := ⟨_, zp_lst, q⟩
end
theorem St.k2 {L n : Nat} {K : Hs → Prop} {o : O} {h : Hs} (S : St L (fun g => K g ∧ g[n]? = some o) h) : h[n]? = some o := S.keep.2
/-! ### spots -/
/-- what stands in nested tuples at a path -/
def sub : D → List Nat → Option D
  | d, [] => some d
  | .tup ds, i :: is => (match ds[i]? with | some d => sub d is | none => none)
  | _, _ :: _ => none
noncomputable section
end
section
variable {h : Hs} {X : XQ} {B k n : Nat}
def pre (i : Nat) : D → D
  | .tup es => .tup (.int (i : Nat) :: es)
  | d => d
end
/-! # G33: a part of nested tuples put otherwise -/
section
end
/-! # G34: instances of the module's own classes -/
/-- the address of the module's class c -/
def IsC (K : PySem.W.Frag) (c : Str) (C : Addr) : Prop := PySem.W.nsIn K mainGlobals c = some (some (.ref C))
theorem IsC.inj {K : PySem.W.Frag} {c : Str} {C C' : Addr} (a : IsC K c C) (b : IsC K c C') : C = C' := by
  unfold IsC at a b
  rw [a] at b; cases b; rfl
/-- an instance's class and attributes -/
def insOf (h : Hs) (d : D) : Option (Str × List (Str × D)) := match d with
  | .ins c ks ds => some (c, ks.zip ds)
  | .ref n => (match h[n]? with | some (.ins c kvs) => some (c, kvs) | _ => none)
  | _ => none
section
variable {K : PySem.W.Frag} {mg : Str → Option Value} {mu mu' : Mp} {H H' : Hp} {hs hs' : Hs} {d : D} {a : Addr} {v : V} {c : Str} {kvs : List (Str × D)}
theorem RKs.zipL {k : Type} : ∀ {ks : List k} {ds : List D} {vs : List V}, ks.length = ds.length → RDs K mu H ds vs → RKs K mu H (ks.zip ds) (ks.zip vs)
  | [], [], _, _, .nil => .nil
  | k :: ks, d :: ds, _, h, .cons r t => .cons r (RKs.zipL (by simpa using h) t)
theorem ins_at (S : Sim K mg mu hs H) (r : RD K mu H d v) (e : insOf hs d = some (c, kvs)) : ∃ a C dx vs, v = .ref a ∧ IsC K c C ∧ H a = some (.ins C dx vs) ∧ RKs K mu H kvs vs := by
  cases r with
  | ins g h z l rr =>
    cases e
    exact ⟨_, _, _, _, rfl, g, h, RKs.zipL l rr⟩
  | ref hn =>
    unfold insOf at e
    dsimp only at e
    split at e
    · rename_i c' k' hd
      cases e
      obtain ⟨u, e1, e2⟩ := S.at hn hd
      cases u <;> first
        | exact ⟨_, _, _, _, rfl, e2.1, e1, e2.2⟩
        | exact e2.elim
    · cases e
  | _ => cases e
end
/-! ### made -/
/-- a new instance, begun by init -/
def mkR (c : Str) (fn : List D → Hs → R D) (ds : List D) (hs : Hs) : R D := match fn ds (hs ++ [.ins c []]) with
  | .ok .non hs' => .ok (.ref hs.length) hs'
  | .ok _ _ => .bad
  | .exc c fs hs' => .exc c fs hs'
  | .bad => .bad
/-- C(e, .., k = ..) -/
def eMk (c : Str) (fn : List D → Hs → R D) (is : List Nat) (dds : List D) (fa fk : FA) : FE := fun e hs => (fa e hs).bind fun ds hs => (fk e hs).bind fun zs hs => mkR c fn (selL is (.ref hs.length :: ds) zs dds) hs
section
variable {X : Cx} {Wd : WX} {k n : Nat} {f C : Addr} {fd : FuncData} {ps ks : List Str} {fn : List D → Hs → R D} {dds : List D} {dvs : List V} {ds : List Value} {is : List Nat} {x c : Str} {p pos kpos : Pos} {e : Expr} {es : List Expr} {fa fk : FA} {kws : List Keyword}
theorem runMk {pins : List (Addr × Obj)} {σ : L2.St} {H : Hp} {s : Shared} {Q : VK} {us ws : List Value} {vs zs : List V} (M : Mk X.K C f) (hC : IsC X.K c C) (F : FnG X.prog X.w X.K X.mg X.base k f fd ps (spU X.K X.mg ps.length fn)) (hr : Room (k + 1) X.A) (hgd : X.A.guards = some []) (tk : Takes X Wd)
    (hb : BindK X.K fd ps (n + 1) ks is ds) (hd : Vals dvs ds) (hdd : ∀ mu H, RDs X.K mu H dds dvs) (I : Inv X pins σ H s) (r : Vals vs us) (rz : Vals zs ws) (hn : us.length = n) (hks : ws.length = ks.length)
    (h : ∃ mu hs es qs, Sim X.K X.mg mu hs H ∧ RDs X.K mu H es vs ∧ RDs X.K mu H qs zs ∧ (selL is (.ref hs.length :: es) qs dds).length = ps.length ∧ Gd (relD X.K) X.K X.mg Wd σ mu H Q (mkR c fn (selL is (.ref hs.length :: es) qs dds) hs)) :
    wpAny (model X.prog X.w) X.A (call (.ref C) us (ks.zip ws)) (EP X pins σ Q) X.xe s := by
  obtain ⟨mu, hs, es, qs, S, r1, r2, hl, g⟩ := h
  have hx := I.hok.fresh (Nat.le_succ s.heap.objs.size)
  have hdx := I.hok.fresh (Nat.le_refl s.heap.objs.size)
  have hne : s.heap.objs.size ≠ s.heap.objs.size + 1 := Nat.ne_of_lt (Nat.lt_succ_self _)
  have I2 := Inv.made (C := C) I
  have S1 := S.new (o := .own (s.heap.objs.size + 1)) hdx
  have hx1 : upd H s.heap.objs.size (.own (s.heap.objs.size + 1)) (s.heap.objs.size + 1) = none := by rw [upd_ne hne.symm]; exact hx
  have ro : RO X.K X.mg mu (upd H s.heap.objs.size (.own (s.heap.objs.size + 1))) (.ins c []) (.ins C s.heap.objs.size []) := ⟨hC, .nil⟩
  have S2 := S1.newOwn hx1 ro
  have l2 : Lat mu H (mu.own (s.heap.objs.size + 1)) (upd (upd H s.heap.objs.size (.own (s.heap.objs.size + 1))) (s.heap.objs.size + 1) (.ins C s.heap.objs.size [])) := (Lat.new hdx).trans (Lat.newOwn S1 hx1)
  have a2 := l2.agr S
  have hsp : spU X.K X.mg ps.length fn (selL is (.ref (s.heap.objs.size + 1) :: vs) zs dvs) (upd (upd H s.heap.objs.size (.own (s.heap.objs.size + 1))) (s.heap.objs.size + 1) (.ins C s.heap.objs.size [])) (fun v H2 => v = .non ∧ Q (.ref (s.heap.objs.size + 1)) H2) (WE Wd σ) := by
    refine ⟨_, _, _, S2, RDs.sel (.cons (.ref (getElem?_own S.len)) (RDs.agr a2 r1)) (RDs.agr a2 r2) (hdd _ _) is, hl, ?_⟩
    unfold mkR at g
    cases q : fn (selL is (.ref hs.length :: es) qs dds) (hs ++ [.ins c []]) with
    | ok d hs' =>
      rw [q] at g
      cases d with
      | non =>
        rintro mu' H' y l s' (_ | _)
        refine ⟨rfl, g mu' H' _ (l2.trans l) s' (.ref ?_)⟩
        obtain ⟨t, e2⟩ := l.pre
        rw [← e2, List.getElem?_append_left (by show _ < (mu.l ++ [_]).length; rw [List.length_append, S.len]; exact Nat.lt_succ_self _)]
        exact getElem?_own S.len
      | _ => exact g.elim
    | exc c fs hs' => rw [q] at g; exact fun mu' H' cls dx l s' rx => g mu' H' cls dx (l2.trans l) s' rx
    | bad => rw [q] at g; exact g.elim
  have rv : Vals (V.ref (s.heap.objs.size + 1) :: vs) (Value.ref (s.heap.objs.size + 1) :: us) := .cons rfl r
  refine wpAny_call (make_map (f := f) I.kIn M.makes M.init (beq_iff_eq.mp M.fn) (codeAny_mono (F.run _ X.stack _ _ ⟨Value.ref (s.heap.objs.size + 1) :: us, ks.zip ws⟩ (selL is (Value.ref (s.heap.objs.size + 1) :: us) ws ds) _ _ (WE Wd σ) (hr.make C us (ks.zip ws)) hgd
    (I2.env0.make C us (ks.zip ws)) (hb _ (Value.ref (s.heap.objs.size + 1) :: us) ws I2.kIn (by rw [List.length_cons, hn]) hks) (Vals.sel rv rz hd is) hsp) fun r s' hq' => ?_))
  cases r with
  | error e => exact passAt tk σ pins _ _ e s' I2 hq'
  | ok fl =>
    cases fl with
    | ret u =>
      obtain ⟨v, H', I3, rv', ev, q3⟩ := I2.after hq'
      subst ev
      exact ⟨rv', ⟨V.ref (s.heap.objs.size + 1), H', I3, rfl, q3⟩⟩
    | next => exact False.elim hq'
    | brk => exact False.elim hq'
    | cont => exact False.elim hq'
/-- what arguments and keywords gave, for a step that takes both -/
theorem tG_argsM {σ : L2.St} {H : Hp} {Q : VK} (h : tG (relD X.K) X.K X.mg Wd (eMk c fn is dds fa fk) σ H Q) :
    tG (relA X.K) X.K X.mg Wd fa σ H (fun vs H1 => tG (relA X.K) X.K X.mg Wd fk σ H1 (fun zs H2 => ∃ mu hs es qs, Sim X.K X.mg mu hs H2 ∧ RDs X.K mu H2 es vs ∧ RDs X.K mu H2 qs zs ∧ (∃ ev h0 h1, fa ev h0 = .ok es h1) ∧ (∃ ev h0 h1, fk ev h0 = .ok qs h1) ∧ Gd (relD X.K) X.K X.mg Wd σ mu H2 Q (mkR c fn (selL is (.ref hs.length :: es) qs dds) hs))) := by
  obtain ⟨ev, mu, hs, S, E, g⟩ := h
  refine ⟨ev, mu, hs, S, E, ?_⟩
  unfold eMk at g
  cases q : fa ev hs with
  | ok es hs1 =>
    rw [q] at g
    rw [R.bind_ok] at g
    intro mu1 H1 vs l1 S1 r1
    refine ⟨ev, mu1, hs1, S1, E.agr (l1.agr S), ?_⟩
    cases q2 : fk ev hs1 with
    | ok qs hs2 =>
      rw [q2] at g
      rw [R.bind_ok] at g
      exact fun mu2 H2 zs l2 S2 r2 => ⟨mu2, hs2, es, qs, S2, RDs.agr (l2.agr S1) r1, r2, ⟨ev, hs, _, q⟩, ⟨ev, hs1, _, q2⟩, Gd.later relD_ok (l1.trans l2) g⟩
    | exc c fs hs' => rw [q2] at g; exact fun mu' H' cls dx l s rr => g mu' H' cls dx (l1.trans l) s rr
    | bad => rw [q2] at g; exact g
  | exc c fs hs' => rw [q] at g; exact g
  | bad => rw [q] at g; exact g
variable {k' : Nat}
/-- all that a call by values, keywords and defaults of a class asks -/
theorem ue_mk (B : Bd X Wd k') (M : Mk X.K C f) (hC : IsC X.K c C) (F : FnG X.prog X.w X.K X.mg X.base k f fd ps (spU X.K X.mg ps.length fn)) (hr : k + 1 ≤ k') (hm : X.mg x = some (.ref C))
    (hb : BindK X.K fd ps ((e :: es).length + 1) ks is ds) (hd : Vals dvs ds) (hdd : ∀ mu H, RDs X.K mu H dds dvs) (ha : UA X Wd (e :: es) fa) (hkw : UK X Wd kws fk)
    (hla : ∀ ev hs qs hs', fa ev hs = .ok qs hs' → qs.length = (e :: es).length) (hlk : ∀ ev hs qs hs', fk ev hs = .ok qs hs' → qs.length = ks.length)
    (hi : is.all (fun i => decide (i < (e :: es).length + 1 + ks.length + dds.length)) = true := by decide) (hl : is.length = ps.length := by rfl) (hg : L2.Gl X x := by rfl)
    (hall : (backToKw pos (keywordEach kws X.env)).all (·.1.isSome) = true := by rfl) (hks : (backToKw pos (keywordEach kws X.env)).filterMap (·.1) = ks := by rfl)
    (hdb : (x == ("__debug__" : Str)) = false := by decide) (he : starEach (e :: es) X.env = (false, eval e X.env) :: starEach es X.env := by rfl)
    (hpl : ((backTo pos (starEach (e :: es) X.env)).any (·.1) || (backToKw pos (keywordEach kws X.env)).any (·.1.isNone)) = false := by rfl) :
    UE X Wd (.Call (.Name x p) (e :: es) kws pos) (eMk c fn is dds fa fk) := by
  refine ⟨fun pins s σ H Q I h => ?_⟩
  refine wpAny_Call_Name_kw (ld_glob I hg hm ?_ hdb)
  refine PySem.W.callWith_KW (h₀ := X.base) I.ok.mod.kin M.kp hall (thn (ha.run pos pins s σ H _ I (tG_argsM h)) fun us s1 ⟨vs, H1, I1, r, q⟩ => ?_) hpl he
  refine thn (hkw.run pos pins s1 σ H1 _ I1 q) fun ws s2 ⟨zs, H2, I2, rz, mu2, hs2, es2, qs2, S2, r1, r2, ⟨_, _, _, q1⟩, ⟨_, _, _, q2⟩, g2⟩ => ⟨I2.kIn, ?_⟩
  rw [hks]
  have z1 := hla _ _ _ _ q1
  have z2 := hlk _ _ _ _ q2
  exact runMk (us := us) (n := (e :: es).length) M hC F (B.room.mono hr) B.gd B.tk hb hd hdd I2 r rz (by rw [← r.length, ← r1.length, z1]) (by rw [← rz.length, ← r2.length, z2])
    ⟨mu2, hs2, es2, qs2, S2, r1, r2, by rw [selL_len _ _ _ _ (by rw [List.length_cons, z1, z2]; exact all_lt hi), hl], g2⟩
end
/-! ### attributes -/
/-- e.f, of an instance of one of the classes cs -/
def gFld (cs : List Str) (f : Str) (h : Hs) (d : D) : Option D := match insOf h d with
  | some (c, kvs) => if cs.contains c then kvs.lookup f else none
  | none => none
/-- each of the classes cs lets its attribute f be -/
def Flds (K : PySem.W.Frag) (cs : List Str) (f : Str) : Prop := ∀ c ∈ cs, ∀ C, IsC K c C → L2.Cls K C ∧ NoAttr K C f
theorem Flds.one {K : PySem.W.Frag} {c f : Str} {C : Addr} (hC : IsC K c C) (a : L2.Cls K C) (b : NoAttr K C f) : Flds K [c] f := fun c' h C' h' => by
  rw [List.mem_singleton.mp h] at h'
  rw [h'.inj hC]
  exact ⟨a, b⟩
theorem contains_mem {cs : List Str} {c : Str} (h : cs.contains c = true) : c ∈ cs := by simpa using h
section
variable {X : Cx} {Wd : WX} {o e value : Expr} {f : Str} {pos pos' : Pos} {fe fv : FE} {cs : List Str}
theorem ue_fld (F : Flds X.K cs f) (he : UE X Wd e fe) (hb : attributeBase e f X.env (eval e X.env) = eval e X.env := by rfl) : UE X Wd (.Attribute e f pos) (eUn (gFld cs f) fe) := by
  refine PE.imp (pe_fld he hb) fun σ H Q h => ?_
  obtain ⟨ev, mu, hs, S, E, q⟩ := tG_seq (r := relD X.K) relD_ok h
  refine ⟨ev, mu, hs, S, E, q.imp fun x H1 ⟨e, mu1, hs1, d, S1, E1, r1, g1⟩ => ?_⟩
  unfold gFld at g1
  cases z : insOf hs1 d with
  | none => rw [z] at g1; exact g1.elim
  | some p =>
    obtain ⟨c, kvs⟩ := p
    rw [z] at g1
    dsimp only at g1
    by_cases hc : cs.contains c = true
    · rw [if_pos hc] at g1
      obtain ⟨a, C, dx, vs, rfl, hC, ha, rk⟩ := ins_at S1 r1 z
      obtain ⟨c1, c2⟩ := F c (contains_mem hc) C hC
      cases q2 : kvs.lookup f with
      | none => rw [q2] at g1; exact g1.elim
      | some w =>
        rw [q2] at g1
        obtain ⟨u, h1, h2⟩ := RKs.lookup rk q2
        exact ⟨a, C, dx, vs, u, rfl, ha, c1, c2, h1, g1 mu1 H1 u .refl S1 h2⟩
    · rw [if_neg hc] at g1; exact g1.elim
end
/-- an attribute put -/
def putD (f : Str) (v : D) : List (Str × D) → List (Str × D)
  | [] => [(f, v)]
  | (g, x) :: r => if g = f then (g, v) :: r else (g, x) :: putD f v r
theorem RKs.putF {K : PySem.W.Frag} {mu : Mp} {H : Hp} {f : Str} {d : D} {v : V} (r : RD K mu H d v) : ∀ {kvs : List (Str × D)} {vs : List (Str × V)}, RKs K mu H kvs vs → RKs K mu H (putD f d kvs) (L2.putF f v vs)
  | _, _, .nil => .cons r .nil
  | _, _, .cons (x := g) q t => by
    show RKs K mu H (if g = f then _ else _) (if g = f then _ else _)
    by_cases h : g = f
    · rw [if_pos h, if_pos h]; exact .cons r t
    · rw [if_neg h, if_neg h]; exact .cons q (RKs.putF r t)
/-- e.f = value -/
def sFld (cs : List Str) (f : Str) (fv fo : FE) : FS := sBind fv fun v => sBind fo fun o e hs => match o with
  | .ref n => (match hs[n]? with
    | some (.ins c kvs) => if cs.contains c = true ∧ kvs.length < 1000 then .nx e (hs.set n (.ins c (putD f v kvs))) else .bad
    | _ => .bad)
  | _ => .bad
section
variable {X : Cx} {Wd : WX} {o value : Expr} {f : Str} {pos pos' : Pos} {fo fv : FE} {cs : List Str}
theorem us_fld (F : Flds X.K cs f) (ho : UE X Wd o fo) (hv : UE X Wd value fv) (hs : swapsWith value (some (.Attribute o f pos')) pos.line X.env = pure false := by rfl) : US X Wd (.Assign [.Attribute o f pos'] value pos) (sFld cs f fv fo) := by
  refine PS.imp (ps_fld ho hv hs) fun D σ H h => ?_
  obtain ⟨e, mu, hs, S, E, q⟩ := tS_bind (r := relD X.K) h
  refine ⟨e, mu, hs, S, E, q.imp fun x H1 ⟨e, mu1, hs1, d, S1, E1, r1, g1⟩ => ?_⟩
  refine ⟨e, mu1, hs1, S1, E1, ?_⟩
  unfold sBind at g1
  cases q2 : fo e hs1 with
  | bad => rw [q2] at g1; exact g1.elim
  | exc c fs hs' => rw [q2] at g1; exact fun mu' H' cls dx l s rx => g1 mu' H' σ cls dx l s (E1.agr (l.agr S1)) rx
  | ok o2 hs2 =>
    rw [q2] at g1
    intro mu2 H2 y l2 S2 r2
    dsimp only at g1
    cases r2 with
    | ref hn =>
      dsimp only at g1
      split at g1
      · rename_i c kvs hd
        split at g1
        · rename_i hc
          obtain ⟨u, e1, e2⟩ := S2.at hn hd
          cases u <;> first
            | (rename_i C dx vs
               obtain ⟨c1, c2⟩ := F c (contains_mem hc.1) C e2.1
               have rk : RKs X.K mu2 H2 kvs vs := e2.2
               refine ⟨_, C, dx, vs, rfl, e1, c1, c2, by rw [← rk.length]; exact hc.2, ?_⟩
               have w := RKs.putF (f := f) (RD.agr (l2.agr S1) r1) rk
               have lw : Lat mu2 H2 mu2 (upd H2 _ (.ins C dx (L2.putF f x vs))) := .write hn (nfI e1)
               exact g1 mu2 _ σ (l2.trans lw) (S2.write hn ⟨e2.1, w⟩) ((E1.agr (l2.agr S1)).agr (lw.agr S2)))
            | exact e2.elim
        · exact g1.elim
      · exact g1.elim
    | _ => exact g1.elim
end
/-! ### methods -/
/-- o.m(e, .., k = ..), o an instance of c -/
def eMth (c m : Str) (fn : List D → Hs → R D) (is : List Nat) (dds : List D) (fo : FE) (fa fk : FA) : FE := fun e hs => (fo e hs).bind fun o hs => match insOf hs o with
  | some (c', kvs) => if c' = c ∧ kvs.lookup m = none then (fa e hs).bind fun ds hs => (fk e hs).bind fun zs hs => fn (selL is (o :: ds) zs dds) hs else .bad
  | none => .bad
section
end
/-! # G35: str, repr, len of own instances; f-strings -/
section
variable {X : Cx} {k : Nat} {f C : Addr} {fd : FuncData} {ps : List Str} {fn : List D → Hs → R D} {c : Str} {pins : List (Addr × Obj)} {σ : L2.St} {s : Shared} {H : Hp} {mu : Mp} {hs hs' : Hs}
def eOwn (g : Hs → List D → Option (D × Hs)) (fa : FA) : FE := fun e hs => (fa e hs).bind fun ds hs => R.ofP (g hs ds)
end
section
end
/-! # G36: f-strings; what holds behind the constructs of instances -/
/-! ### f-strings -/
def eJs : List FE → Str → FE
  | [], acc => fun _ hs => .ok (.str acc) hs
  | f :: fs, acc => fun e hs => (f e hs).bind fun d hs => match d with
    | .str y => if (acc ++ y).length ≤ sizeLine then eJs fs (acc ++ y) e hs else .bad
    | _ => .bad
section
end
/-! ### behind them -/
section
variable {a b : Type} {Q : D → Hs → Prop} {X : XQ} {e : Ev} {hs h : Hs} {c m f : Str} {fn : List D → Hs → R D} {is : List Nat} {dds : List D} {fo fv : FE} {fa fk : FA} {P : Po}
theorem wp_mk (q : Wp (fa e h) (fun ds h => Wp (fk e h) (fun zs h => Wp (fn (selL is (.ref h.length :: ds) zs dds) (h ++ [.ins c []])) (fun d h' => d = .non ∧ Q (.ref h.length) h') X) X) X) : Wp (eMk c fn is dds fa fk e h) Q X := by
  refine wp_bind (wp_mono q (fun ds h1 q => wp_bind (wp_mono q (fun zs h2 q => ?_) fun _ _ _ x => x)) fun _ _ _ x => x)
  unfold mkR
  with_unfolding_all
  unfold Wp at q ⊢
  cases z : fn (selL is (.ref h2.length :: ds) zs dds) (h2 ++ [.ins c []]) with
  | ok d h' =>
    rw [z] at q
    obtain ⟨rfl, q⟩ := q
    exact q
  | exc c fs h' => rw [z] at q; exact q
  | bad => rw [z] at q; exact q
theorem wp_mth (q : Wp (fo e h) (fun o h => ∃ kvs, insOf h o = some (c, kvs) ∧ kvs.lookup m = none ∧ Wp (fa e h) (fun ds h => Wp (fk e h) (fun zs h => Wp (fn (selL is (o :: ds) zs dds) h) Q X) X) X) X) : Wp (eMth c m fn is dds fo fa fk e h) Q X := by
  refine wp_bind (wp_mono q (fun o h1 q => ?_) fun _ _ _ x => x)
  obtain ⟨kvs, h2, h3, q⟩ := q
  rw [h2]
  dsimp only
  rw [if_pos ⟨rfl, h3⟩]
  exact wp_bind (wp_mono q (fun _ _ q => wp_bind q) fun _ _ _ x => x)
theorem wp_eown {g : Hs → List D → Option (D × Hs)} (q : Wp (fa e h) (fun ds h => Wp (R.ofP (g h ds)) Q X) X) : Wp (eOwn g fa e h) Q X := wp_bind q
theorem ws_fld {cs : List Str} (q : Wp (fv e h) (fun v h => Wp (fo e h) (fun o h => ∃ n c kvs, o = .ref n ∧ h[n]? = some (.ins c kvs) ∧ cs.contains c = true ∧ kvs.length < 1000 ∧ P.nx e (h.set n (.ins c (putD f v kvs)))) (fun c fs h => P.ex c fs e h)) (fun c fs h => P.ex c fs e h)) : Ws (sFld cs f fv fo e h) P := by
  refine ws_bind (wp_mono q (fun v h1 q => ws_bind (wp_mono q (fun o h2 q => ?_) fun _ _ _ x => x)) fun _ _ _ x => x)
  obtain ⟨n, c, kvs, rfl, h3, h4, h5, q⟩ := q
  dsimp only
  rw [h3]
  dsimp only
  rw [if_pos ⟨h4, h5⟩]
  with_unfolding_all exact q
theorem wp_js0 {acc : Str} (q : Q (.str acc) h) : Wp (eJs [] acc e h) Q X := wp_ok q
theorem wp_js1 {acc : Str} {f : FE} {fs : List FE} (q : Wp (f e h) (fun d h => ∃ y, d = .str y ∧ (acc ++ y).length ≤ sizeLine ∧ Wp (eJs fs (acc ++ y) e h) Q X) X) : Wp (eJs (f :: fs) acc e h) Q X := by
  refine wp_bind (wp_mono q (fun d h1 q => ?_) fun _ _ _ x => x)
  obtain ⟨y, rfl, h2, q⟩ := q
  dsimp only
  rw [if_pos h2]
  exact q
/-! values -/
end
/-! # G37: defs with defaults; short forms for the printer -/
/-- a def of the text with defaults dvs -/
abbrev FunF (K : PySem.W.Frag) (x qual : Str) (st : Stmt) (dvs : List V) (f : Addr) (fd : FuncData) : Prop := FunD K x qual (defArgs st) (defBody st) (defScope st) dvs [] f fd
section
variable {P : Program} {w : World} {K : PySem.W.Frag} {mg : Str → Option Value} {base : Heap} {x qual : Str} {st : Stmt} {f : Addr} {fd : FuncData} {ps ks : List Str} {n : Nat} {is : List Nat} {dvs : List V}
theorem funF_ok {N : List Str} {k : Nat} (F : FunF K x qual st dvs f fd) (hsm : ∃ o, base.get? sysModules = some o) (S : FnScope N ps (defScope st)) (b : FS)
    (hb : ∀ (cdv : Value) (A : Around) (outer : List Env) (s : Shared) (H : Hp) (E : XK), Bd (cxOf (L2.CX P w) P w K mg base N qual (defScope st) f cdv A outer s H E) (fun cls dx _ H' => E cls dx H') k →
      USs (cxOf (L2.CX P w) P w K mg base N qual (defScope st) f cdv A outer s H E) (fun cls dx _ H' => E cls dx H') (defBody st) b) : FnG P w K mg base (k + 1) f fd ps (spU K mg ps.length (fnBody N.length b)) := by
  obtain ⟨oc, od, dV, kV, doc, pm, an, cdv, ct, osl, rfl, lk, hcd, hD, hK⟩ := F.ex
  exact fnG_of hsm lk hcd S b fun A outer s H E B => hb cdv A outer s H E B
/-- some defaults are read -/
theorem bindKD_of (F : FunF K x qual st dvs f fd) (hd : dvs ≠ []) (h : ∀ (T : Addr) (kV doc pm : Value) (an : Option Addr) (cdv ct : Value) (us its ws : List Value), us.length = n → its.length = dvs.length → ws.length = ks.length →
      ∃ k, bindArgs (PySem.W.fnOf x qual (defArgs st) (defBody st) (defScope st) (.ref T) kV doc pm an cdv ct) ⟨us, ks.zip ws⟩ = seqItems? (.ref T) >>= k ∧ k (some its.toArray) = pure (ps.zip (selL is us ws its))) : ∃ its, Vals dvs its ∧ BindK K fd ps n ks is its := by
  obtain ⟨oc, od, dV, kV, doc, pm, an, cdv, ct, osl, rfl, lk, hcd, hD, hK⟩ := F.ex
  rcases hD with ⟨e, _⟩ | ⟨_, T, o, its, m, rfl, lT, oT, rT⟩
  · exact absurd e hd
  · refine ⟨its, rT, fun s us ws X l1 l2 => ?_⟩
    obtain ⟨k, e1, e2⟩ := h T kV doc pm an cdv ct us its ws l1 rT.length.symm l2
    refine BindsTo.of_looks fun M => ?_
    rw [e1]
    exact looks_items X lT oT (.of_pure e2)
/-- none is read -/
theorem bindKN_of (F : FunF K x qual st dvs f fd) (hd : dvs ≠ []) (h : ∀ (T : Addr) (kV doc pm : Value) (an : Option Addr) (cdv ct : Value) (us its ws : List Value), us.length = n → its.length = dvs.length → ws.length = ks.length →
      bindArgs (PySem.W.fnOf x qual (defArgs st) (defBody st) (defScope st) (.ref T) kV doc pm an cdv ct) ⟨us, ks.zip ws⟩ = pure (ps.zip (selL is us ws its))) : ∃ its, Vals dvs its ∧ BindK K fd ps n ks is its := by
  obtain ⟨oc, od, dV, kV, doc, pm, an, cdv, ct, osl, rfl, lk, hcd, hD, hK⟩ := F.ex
  rcases hD with ⟨e, _⟩ | ⟨_, T, o, its, m, rfl, lT, oT, rT⟩
  · exact absurd e hd
  · exact ⟨its, rT, fun s us ws X l1 l2 => .of_eq (h T kV doc pm an cdv ct us its ws l1 rT.length.symm l2)⟩
theorem funF_mk {oc : Value} {od an : Option Addr} {osl : Array (Option Value)} {dV kV doc pm cdv ct : Value} (l : K.lookup f = some ⟨oc, od, .func (PySem.W.fnOf x qual (defArgs st) (defBody st) (defScope st) dV kV doc pm an cdv ct), osl⟩)
    (c : PySem.W.codeIn K cdv qual = true) (k : PySem.W.keepIn K (.ref f) = true) (d : DflV K dV dvs) : FunF K x qual st dvs f (PySem.W.fnOf x qual (defArgs st) (defBody st) (defScope st) dV kV doc pm an cdv ct) :=
  ⟨⟨oc, od, dV, kV, doc, pm, an, cdv, ct, osl, rfl, l, c, d, .inl rfl⟩, k⟩
end
section
variable {X : Cx} {Wd : WX} {k k' n : Nat} {f C : Addr} {fd : FuncData} {ps ks : List Str} {fn : List D → Hs → R D} {dds : List D} {dvs : List V} {is : List Nat} {x : Str} {p pos kpos : Pos} {e : Expr} {es : List Expr} {fa fk : FA} {kws : List Keyword}
theorem ue_mkD {c : Str} (B : Bd X Wd k') (M : Mk X.K C f) (hC : IsC X.K c C) (F : FnG X.prog X.w X.K X.mg X.base k f fd ps (spU X.K X.mg ps.length fn)) (hr : k + 1 ≤ k') (hm : X.mg x = some (.ref C))
    (hbd : ∃ its, Vals dvs its ∧ BindK X.K fd ps ((e :: es).length + 1) ks is its) (hdd : ∀ mu H, RDs X.K mu H dds dvs) (ha : UA X Wd (e :: es) fa) (hkw : UK X Wd kws fk)
    (hla : ∀ ev hs qs hs', fa ev hs = .ok qs hs' → qs.length = (e :: es).length) (hlk : ∀ ev hs qs hs', fk ev hs = .ok qs hs' → qs.length = ks.length)
    (hi : is.all (fun i => decide (i < (e :: es).length + 1 + ks.length + dds.length)) = true := by decide) (hl : is.length = ps.length := by rfl) (hg : L2.Gl X x := by rfl)
    (hall : (backToKw pos (keywordEach kws X.env)).all (·.1.isSome) = true := by rfl) (hks : (backToKw pos (keywordEach kws X.env)).filterMap (·.1) = ks := by rfl)
    (hdb : (x == ("__debug__" : Str)) = false := by decide) (he : starEach (e :: es) X.env = (false, eval e X.env) :: starEach es X.env := by rfl)
    (hpl : ((backTo pos (starEach (e :: es) X.env)).any (·.1) || (backToKw pos (keywordEach kws X.env)).any (·.1.isNone)) = false := by rfl) :
    UE X Wd (.Call (.Name x p) (e :: es) kws pos) (eMk c fn is dds fa fk) := by
  obtain ⟨its, hd, hb⟩ := hbd
  exact ue_mk B M hC F hr hm hb hd hdd ha hkw hla hlk hi hl hg hall hks hdb he hpl
end
/-! attributes of several classes -/
theorem Flds.nil {K : PySem.W.Frag} {f : Str} : Flds K [] f := fun c h => by cases h
theorem Flds.cons {K : PySem.W.Frag} {c f : Str} {cs : List Str} {C : Addr} (hC : IsC K c C) (a : L2.Cls K C) (b : NoAttr K C f) (r : Flds K cs f) : Flds K (c :: cs) f := fun c' h C' h' => by
  rcases List.mem_cons.mp h with rfl | h
  · rw [h'.inj hC]; exact ⟨a, b⟩
  · exact r c' h C' h'
/-- a value made, by value -/
theorem wp_egc {f : FE} {e : Ev} {hs : Hs} {Q : D → Hs → Prop} {X : XQ} (h : Wp (f e hs) (fun d h1 => ∃ d', dW (dH h1 hs.length 50) d = some d' ∧ Cls hs h1 ∧ Q d' (h1.take hs.length))
    (fun c fs h1 => ∃ ds, dWs (dH h1 hs.length 50) (fs.map (·.2)) = some ds ∧ Cls hs h1 ∧ X c ((fs.map (·.1)).zip ds) (h1.take hs.length))) : Wp (eGc f e hs) Q X := wp_gcR h
/-- nothing below has changed -/
theorem cls_app {hs t : Hs} : Cls hs (hs ++ t) := fun k hk => .inl (List.getElem?_append_left hk)
theorem take_app {hs t : Hs} : (hs ++ t).take hs.length = hs := List.take_left
theorem set_app {hs : Hs} {o o' : O} : (hs ++ [o]).set hs.length o' = hs ++ [o'] := by
  rw [List.set_append_right _ _ (Nat.le_refl _), Nat.sub_self]; rfl
/-! # G38: Skins: made, their attributes, len and text -/
noncomputable section
abbrev k_ALONG : D := (.str "along")
def f_Skin_init : FS := (sSeq (sFld ["Skin"] "zones" (eName 1) (eName 0))
  (sSeq (sFld ["Skin"] "stretch" (eName 2) (eName 0))
  (sFld ["Skin"] "grade" (eName 3) (eName 0))))
def c_Skin_init : List D → Hs → R D := fnBody 4 f_Skin_init
end
end G
local macro_rules | `(tactic| fail "P1") => `(tactic| first
  | ((with_reducible show Wp (c_is_size _ _) _ _); refine wp_of (size_eq ?p) ?_; (case p => fail "p"))
  | ((with_reducible show Wp (c_is_moment _ _) _ _); refine wp_of (moment_eq ?p) ?_; (case p => fail "p"))
  | ((with_reducible show Wp (c_is_side _ _) _ _); refine wp_of (side_eq ?p) ?_; (case p => fail "p"))
  | ((with_reducible show Wp (c_is_grade _ _) _ _); refine wp_of (grade_eq ?p) ?_; (case p => fail "p"))
  | ((with_reducible show Wp (c_is_name _ _) _ _); refine wp_of (name_eq ?p ?q) ?_; (case p => fail "p"); (case q => first | assumption | omega))
  | ((with_reducible show Wp (c_is_ident _ _) _ _); refine wp_of (ident_eq ?p) ?_; (case p => assumption))
  | ((with_reducible show Wp (c_is_glove _ _) _ _); refine wp_of (glove_eq ?p ?q) ?_; (case p => assumption); (case q => first | assumption | omega)))
local macro_rules | `(tactic| fail "d1") => `(tactic| first
  | ((with_reducible show Wp (c_draw _ _) _ _); refine' dr ?s ?k ?a ?b ?_; (case s => assumption); (case k => assumption); (case a => first | decide | omega); (case b => first | decide | omega); intro _ _ _ _ _))
local macro_rules | `(tactic| fail "d") => `(tactic| repeat (first | fail "s1" | fail "e1" | fail "h1" | fail "P1" | fail "d1"))
local macro_rules | `(tactic| fail "db") => `(tactic| repeat' (first | fail "s1" | fail "e1" | fail "h1" | fail "P1" | fail "d1" | fail "b1"))
local macro_rules | `(tactic| fail "tl") => `(tactic| repeat' (first | assumption | omega | decide | (with_reducible refine len_half ?_ ?_) | (with_reducible refine lit_half ?_) | (with_reducible refine cut_half ?_) | (with_reducible refine T_half ?_)))
local macro_rules | `(tactic| fail "t1") => `(tactic| first
  | ((with_reducible refine wp_some (add_str ?q ?r) ?_); (case q => fail "tl"); (case r => fail "tl"))
  | ((with_reducible refine wp_some (sl_str ?q) ?_); (case q => fail "tl"))
  | ((with_reducible refine wp_some (len_str ?q) ?_); (case q => fail "tl"))
  | ((with_reducible refine wp_someP (upper_str ?q) ?_); (case q => fail "tl"))
  | ((with_reducible refine wp_some (str_int ?q) ?_); (case q => first | assumption | omega))
  | with_reducible (first | refine wp_some rev_tup ?_ | refine wp_some rev_lst ?_ | refine wp_some is_bl ?_ | refine wp_some isN_bl ?_ | refine wp_some neg_i ?_ | refine wp_lAdd ?_ | refine And.intro rfl ?_))
local macro_rules | `(tactic| fail "d") => `(tactic| repeat (first | fail "s1" | fail "e1" | fail "h1" | fail "t1" | fail "P1" | fail "d1"))
local macro_rules | `(tactic| fail "db") => `(tactic| repeat' (first | fail "s1" | fail "e1" | fail "h1" | fail "t1" | fail "P1" | fail "d1" | fail "b1"))
local macro_rules | `(tactic| fail "dz") => `(tactic| (fail "db" <;> try fail "z"))
local macro_rules | `(tactic| fail "hg") => `(tactic| first | assumption | exact get_new | (refine get_app ?_; fail "hg") | (refine' get_set_eq ?e; (case e => fail "hg")) | (refine (get_set_ne ?_).trans ?_; (first | omega | (simp only [List.length_append, List.length_set, List.length_cons, List.length_nil]; omega)); fail "hg"))
local macro_rules | `(tactic| fail "st") => `(tactic| repeat' (first | assumption | (with_reducible refine St.wapp ?_ ?_) | (with_reducible refine St.wset ?_ ?_ ?_ ?_) | (simp only [List.length_append, List.length_set, List.length_cons, List.length_nil]; omega) | omega))
local macro_rules | `(tactic| fail "ll") => `(tactic| repeat' (first | assumption | omega | exact Nat.le_of_ble_eq_true rfl | (with_reducible refine app_half ?_ ?_) | (with_reducible refine cutL_half ?_) | (with_reducible refine rev_half ?_) | (with_reducible refine map_half ?_) | (with_reducible refine cons_half ?_ ?_)))
local macro_rules | `(tactic| fail "n") => `(tactic| repeat (fail "n1"))
local macro_rules | `(tactic| fail "nb") => `(tactic| repeat' (first | fail "n1" | fail "b1"))
local macro_rules | `(tactic| fail "c") => `(tactic| first
  | assumption
  | (refine closeB (by assumption) ?_; first | rfl | (simp_all; done) | (simp_all <;> omega)))
local macro_rules | `(tactic| fail "nc") => `(tactic| (fail "nb" <;> try fail "c"))
local macro_rules | `(tactic| fail "q") => `(tactic| exact Int.natCast_pos.mpr (Nat.succ_pos _))
local macro_rules | `(tactic| fail "hg") => `(tactic| with_reducible exact St.k2 (by assumption))
namespace G
open PySem PySem.Spec PyProof.Rows L2
local macro_rules | `(tactic| fail "n1") => `(tactic| first
  | ((with_reducible show Wp (R.ofO _ _) _ _); first
    | with_reducible apply wp_some eq_same
    | with_reducible apply wp_some ne_same
    | with_reducible apply wp_some add_i
    | with_reducible apply wp_some sub_i
    | with_reducible apply wp_some lt_i
    | with_reducible apply wp_some le_i
    | with_reducible apply wp_some gt_i
    | with_reducible apply wp_some ge_i
    | with_reducible apply wp_some eq_i
    | with_reducible apply wp_some ne_i
    | with_reducible apply wp_some eq_b
    | with_reducible apply wp_some max_i
    | with_reducible apply wp_some min_i
    | with_reducible apply wp_some tup_tup
    | with_reducible apply wp_some tup_lst
    | with_reducible apply wp_some len_tup
    | with_reducible apply wp_some len_lst
    | with_reducible apply wp_some sl_tup
    | with_reducible apply wp_some sl_lst
    | with_reducible apply wp_some tru_b
    | with_reducible apply wp_some repr_b
    | with_reducible refine wp_eq_sb ?_
    | with_reducible apply wp_some seq_lst
    | with_reducible apply wp_some seq_tup
    | ((with_reducible apply wp_ix_tup); (case q => rfl))
    | ((with_reducible apply wp_ix_lst); (case q => rfl))
    | ((with_reducible apply wp_ix_ref); (case p => assumption); (case q => rfl))
    | with_reducible apply wp_some eq_s
    | ((with_reducible apply wp_some (mod_int ?q)); (case q => fail "q"))
    | ((with_reducible apply wp_some (div_int ?p ?q)); (case p => fail "q"); (case q => fail "q"))
    | ((with_reducible apply wp_some (mul_int ?q)); (case q => fail "q"))
    | ((with_reducible apply wp_some (add_tup2 ?a ?b)); (case a => fail "ll"); (case b => fail "ll"))
    | ((with_reducible apply wp_some (add_lst2 ?a ?b)); (case a => fail "ll"); (case b => fail "ll"))
    | with_reducible apply wp_some ne_b
    | with_reducible refine wp_ne_sb ?_
    | with_reducible apply wp_some ne_s
    | with_reducible apply wp_some reprA_b
    | with_reducible apply wp_some isi_non
    | with_reducible apply wp_some isi_bl
    | with_reducible apply wp_some isi_int
    | with_reducible apply wp_some isi_str
    | with_reducible apply wp_some isi_tup
    | with_reducible apply wp_some isi_lst
    | with_reducible apply wp_some isi_dct
    | ((with_reducible apply wp_some (add_str ?q ?r)); (case q => fail "tl"); (case r => fail "tl"))
    | ((with_reducible apply wp_some (sl_str ?q)); (case q => fail "tl"))
    | ((with_reducible apply wp_some (len_str ?q)); (case q => fail "tl"))
    | ((with_reducible apply wp_some (str_int ?q)); (case q => first | assumption | omega))
    | with_reducible apply wp_some rev_tup
    | with_reducible apply wp_some rev_lst
    | with_reducible apply wp_some is_bl
    | with_reducible apply wp_some isN_bl
    | with_reducible apply wp_some neg_i
    | ((with_reducible apply wp_some (isi_pln ?q)); (case q => fail "p"))
    | with_reducible apply wp_some pow6
    | with_reducible apply wp_some eqT_tup
    | ((with_reducible apply wp_some (rev_str ?q)); (case q => fail "tl"))
    | ((with_reducible apply wp_some (add_rl ?q ?a ?b)); (case q => fail "hg"); (case a => fail "ll"); (case b => fail "ll"))
    | ((with_reducible apply wp_some (add_lr ?q ?a ?b)); (case q => fail "hg"); (case a => fail "ll"); (case b => fail "ll"))
    | ((with_reducible apply wp_some (add_rr ?q ?r ?a ?b)); (case q => fail "hg"); (case r => fail "hg"); (case a => fail "ll"); (case b => fail "ll"))
    | with_reducible apply wp_some lst_lst
    | ((with_reducible apply wp_some (lst_ref ?q)); (case q => fail "hg"))
    | ((with_reducible apply wp_some (len_ref ?q)); (case q => fail "hg"))
    | ((with_reducible apply wp_some (tup_ref ?q)); (case q => fail "hg"))
    | with_reducible apply wp_some pow39
    | with_reducible apply wp_some pow30
    | with_reducible apply wp_some pow40
    | with_reducible apply wp_some tru_non
    | with_reducible apply wp_some tru_int
    | with_reducible apply wp_some tru_tup
    | ((with_reducible apply wp_some (tru_str ?q)); (case q => fail "tl"))
    | ((with_reducible apply wp_some (mulS_str ?a ?b ?d)); (case a => fail "tl"); (case b => fail "tl"); (case d => fail "tl"))
    | ((with_reducible apply wp_some (mulS_tupA ?a ?b ?c ?d)); (case a => fail "tl"); (case b => fail "tl"); (case c => first | rfl | assumption); (case d => fail "tl")))
  | ((with_reducible show Wp (R.ofP _) _ _); first
    | ((with_reducible apply wp_someP (app_ref2 ?e ?q)); (case e => fail "hg"); (case q => fail "ll"))
    | ((with_reducible apply wp_someP (upper_str ?q)); (case q => fail "tl")))
  | ((with_reducible show Ws _ _); first
    | with_reducible refine ws_seq ?_
    | with_reducible refine ws_set ?_
    | with_reducible refine ws_setC ?_
    | with_reducible refine ws_setCM ?_
    | with_reducible refine ws_if ?_
    | with_reducible refine ws_ret ?_
    | with_reducible refine ws_retN ?_
    | with_reducible refine ws_drop ?_
    | with_reducible refine ws_skip ?_
    | with_reducible refine ws_asg ?_
    | with_reducible refine ws_par ?_
    | with_reducible refine ws_sub ?_)
  | ((with_reducible refine' And.intro (isL_ref ?e) ?_); (case e => fail "hg"))
  | ((with_reducible refine And.intro (And.intro ?a ?b) ?_); (case a => fail "ll"); (case b => fail "ll"))
  | with_reducible (first | refine Exists.intro _ (And.intro rfl ?_) | refine Exists.intro _ (Exists.intro _ (And.intro rfl ?_)) | refine And.intro rfl ?_)
  | ((with_reducible show Wp _ _ _); first
    | ((with_reducible apply wp_name); (case q => rfl))
    | with_reducible refine wp_c ?_
    | with_reducible refine wp_bin ?_
    | with_reducible refine wp_acons ?_
    | with_reducible refine wp_anil ?_
    | with_reducible refine wp_call ?_
    | with_reducible refine wp_fn ?_
    | with_reducible refine wp_fnK ?_
    | with_reducible refine wp_ev ?_
    | with_reducible refine wp_em ?_
    | with_reducible refine wp_tup ?_
    | with_reducible refine wp_eb ?_
    | with_reducible refine wp_et ?_
    | with_reducible refine wp_un ?_
    | with_reducible refine wp_chain ?_
    | with_reducible refine wp_and ?_
    | with_reducible refine wp_or ?_
    | with_reducible refine wp_not ?_
    | with_reducible refine wp_andF ?_
    | with_reducible refine wp_orF ?_
    | with_reducible refine wp_notF ?_
    | with_reducible refine wp_yes ?_
    | with_reducible refine wp_if ?_
    | with_reducible refine wp_sl ?_
    | with_reducible refine wp_onone ?_
    | with_reducible refine wp_osome ?_
    | with_reducible refine wp_rev ?_
    | with_reducible refine wp_list ?_
    | with_reducible refine wp_mt ?_
    | with_reducible refine wp_any ?_
    | with_reducible refine wp_r1 ?_
    | with_reducible refine wp_r2 ?_
    | with_reducible refine wp_body ?_
    | with_reducible refine wp_d0t ?_
    | with_reducible refine wp_d0k ?_
    | with_reducible refine wp_d0 ?_
    | with_reducible refine wp_valsT ?_
    | with_reducible refine wp_d1 ?_
    | with_reducible refine wp_lAdd ?_
    | fail "P1"
    | fail "d1")
  | ((fail_if_success (with_reducible show Ws _ _)); (fail_if_success (with_reducible show Wp _ _ _)); show Ws _ _))
local macro_rules | `(tactic| fail "n1") => `(tactic| first
  | with_reducible refine wp_iOf ?_
  | with_reducible apply wp_some neT_tup
  | with_reducible (first | refine ex_ent ?_ | refine ex_enl ?_ | refine ex_zpt ?_ | refine ex_zpl ?_))
local macro_rules | `(tactic| fail "n1") => `(tactic| first
  | with_reducible (first | refine wp_mk ?_ | refine wp_mth ?_ | refine wp_eown ?_ | refine ws_fld ?_ | refine wp_js1 ?_ | refine wp_js0 ?_))
section
variable {h : Hs} {Q : D → Hs → Prop} {X : XQ} {z s g d : D}
/-- a Skin -/
def skD (z s g : D) : D := .ins "Skin" ["zones", "stretch", "grade"] [z, s, g]
def skF (z s g : D) : List (Str × D) := [("zones", z), ("stretch", s), ("grade", g)]
theorem sk_ins : insOf h (skD z s g) = some (Str.ofString "Skin", skF z s g) := rfl
theorem sk_sk : ([Str.ofString "Skin"].contains (Str.ofString "Skin")) = true := by decide +kernel
theorem sk_ne1 : (Str.ofString "stretch" == Str.ofString "zones") = false := by decide +kernel
theorem sk_ne2 : (Str.ofString "grade" == Str.ofString "zones") = false := by decide +kernel
theorem sk_ne3 : (Str.ofString "grade" == Str.ofString "stretch") = false := by decide +kernel
theorem lk_here {k : Str} {d : D} {r : List (Str × D)} : List.lookup k ((k, d) :: r) = some d := by rw [List.lookup_cons, beq_self_eq_true]
theorem lk_next {k k' : Str} {d : D} {r : List (Str × D)} (n : (k == k') = false) : List.lookup k ((k', d) :: r) = List.lookup k r := by rw [List.lookup_cons, n]
theorem fld_at {c f : Str} {kvs : List (Str × D)} {cs : List Str} {o : D} (hi : insOf h o = some (c, kvs)) (hc : cs.contains c = true) : gFld cs f h o = kvs.lookup f := by
  unfold gFld
  rw [hi]
  exact if_pos hc
theorem sk_zones : gFld ["Skin"] "zones" h (skD z s g) = some z := (fld_at sk_ins sk_sk).trans lk_here
theorem sk_stretch : gFld ["Skin"] "stretch" h (skD z s g) = some s := (fld_at sk_ins sk_sk).trans ((lk_next sk_ne1).trans lk_here)
theorem sk_grade : gFld ["Skin"] "grade" h (skD z s g) = some g := (fld_at sk_ins sk_sk).trans ((lk_next sk_ne2).trans ((lk_next sk_ne3).trans lk_here))
theorem nq {a b : String} (h : (Str.ofString a == Str.ofString b) = false) : Str.ofString a ≠ Str.ofString b := fun e => by rw [e, beq_self_eq_true] at h; cases h
/-- Skin(z, s, g) -/
theorem mk_skin {R : Hs → Prop} (q : R (h ++ [.ins "Skin" (skF z s g)])) : Wp (c_Skin_init [.ref h.length, z, s, g] (h ++ [.ins "Skin" []])) (fun d h' => d = .non ∧ R h') X := by
  unfold c_Skin_init f_Skin_init
  refine wp_bodyE [some (.ref h.length), some z, some s, some g] rfl ?_
  fail "n"
  refine ⟨_, _, _, rfl, get_new, sk_sk, by decide, ?_⟩
  rw [set_app]
  fail "n"
  refine ⟨_, _, _, rfl, get_new, sk_sk, by show 1 < 1000; decide, ?_⟩
  rw [set_app]
  fail "n"
  refine ⟨_, _, _, rfl, get_new, sk_sk, ?_, ?_⟩
  · show (if Str.ofString "zones" = Str.ofString "stretch" then _ else _ : List (Str × D)).length < 1000
    rw [if_neg (nq sk_ne1).symm]
    show 2 < 1000
    decide
  rw [set_app]
  have e : putD "grade" g (putD "stretch" s (putD "zones" z [])) = skF z s g := by
    show putD "grade" g (if Str.ofString "zones" = Str.ofString "stretch" then _ else _) = _
    rw [if_neg (nq sk_ne1).symm]
    show (if Str.ofString "zones" = Str.ofString "grade" then _ else _) = _
    rw [if_neg (nq sk_ne2).symm]
    show _ :: (if Str.ofString "stretch" = Str.ofString "grade" then _ else _) = _
    rw [if_neg (nq sk_ne3).symm]
    rfl
  rw [e]
  exact ⟨rfl, q⟩
/-! ### its text -/
end
/-! # G39: a list times a number; == of like data -/
section
end
section
/-! ### like data -/
end
/-! # G40: gloves: what they are, their measures -/
section
variable {h : Hs} {Q : D → Hs → Prop} {X : XQ} {d : D} {n k : Nat}
theorem int_bl {b : Bool} : gInt h [.bl b] = some (.int (if b then 1 else 0)) := by cases b <;> rfl
/-- the place of a three: by two truths -/
theorem at3 {b c : Bool} (hbc : ¬ (b = true ∧ c = true)) : 0 ≤ (if b = true then (1 : Int) else 0) + 2 * (if c = true then 1 else 0) ∧ (if b = true then (1 : Int) else 0) + 2 * (if c = true then 1 else 0) < 3 := by
  cases b <;> cases c <;> first | (constructor <;> decide) | exact absurd ⟨rfl, rfl⟩ hbc
theorem ne_ss {z : Str} : gNe h (.str z) (.str z) = some (.bl false) := by unfold gNe; rw [eq_str, beq_self_eq_true]; rfl
theorem okR_in {i : Int} (h : 0 ≤ i) (h' : i ≤ 1000000) : okR i = true := by
  unfold okR
  rw [decide_eq_true (by omega), decide_eq_true (by omega)]; rfl
theorem Gl.is {g : D} (hg : Gl g) : isGv g = true := by
  obtain ⟨m, n, sd, st, lo, hi, gr, rfl, m0, m1, n0, n1, hsd, ⟨s1, s8, lw⟩, a, b, c, d, e, f⟩ := hg.ex
  have hs : isSd (.str (T sd)) = true := by rcases hsd with rfl | rfl <;> decide +kernel
  have hn : isNa (.str (T st)) = true := by
    show ((decide ((1 : Int) ≤ (T st).length) && decide (((T st).length : Int) ≤ 8)) && (T st).cps.toList.all isC) = true
    rw [T_len, T_cps, decide_eq_true (by omega), decide_eq_true (by omega), List.all_eq_true.mpr fun c hc => by
      have := lw c hc
      unfold isC
      rw [decide_eq_true (by omega), decide_eq_true (by omega)]; rfl]
    rfl
  show ((isB 0 999999 (.int m) && (isB 0 99 (.int n) && isSd (.str (T sd)))) && (isNa (.str (T st)) && _)) = true
  rw [hs, hn]
  simp only [isB, isW, leD, decide_eq_true m0, decide_eq_true m1, decide_eq_true n0, decide_eq_true n1, decide_eq_true a, decide_eq_true b, decide_eq_true c, decide_eq_true d, decide_eq_true e, decide_eq_true f]
  rfl
theorem Gl.sm {g : D} (hg : Gl g) : Sm 1 40 g := by
  obtain ⟨m, n, sd, st, lo, hi, gr, rfl, m0, m1, n0, n1, hsd, ⟨s1, s8, lw⟩, a, b, c, d, e, f⟩ := hg.ex
  have hs : okS (T sd) = true ∧ (T sd).length ≤ 1 := by rcases hsd with rfl | rfl <;> exact ⟨by decide +kernel, Nat.le_refl _⟩
  have i : ∀ j : Int, -1000000 ≤ j → j ≤ 1000000 → Sm 0 0 (.int j) := fun j h1 h2 => sm_int (by
    have : (10 : Nat) ^ 60 ≥ 10000000 := by decide
    omega)
  refine (sm_tup (sms_cons (i m (by omega) (by omega)) (sms_cons (i n (by omega) (by omega)) (sms_cons (sm_str (k := 0) (n := 1) hs.1 hs.2) (sms_cons (sm_str (k := 0) (n := 8) (lw_ok lw) (by rw [T_len]; exact s8)) (sms_cons (i lo (by omega) (by omega)) (sms_cons (i hi (by omega) (by omega)) (sms_cons (i gr (by omega) (by omega)) sms_nil)))))))).mono (by decide) (by decide)
theorem Gl.val {g : D} (hg : Gl g) : val g = true := by
  obtain ⟨m, n, sd, st, lo, hi, gr, rfl, _⟩ := hg.ex
  rfl
end
/-! # G41: != [] of any list; loops over lists told part by part -/
def gNeL (hs : Hs) (d e : D) : Option D := match lstOf hs d with
  | some ds => (match e with | .lst [] => some (.bl (!ds.isEmpty)) | _ => none)
  | none => none
theorem og_neL {X : Cx} (hu : X.A.units + 64 < cLine) : OpR X (compareOp .NotEq) (rB X.K X.mg gNeL) := by
  rintro pins s σ H x y v u Q I rx ry ⟨mu, hs, d, e, w, S, r1, r2, hg, q⟩
  unfold gNeL at hg
  split at hg
  · rename_i ds hd
    split at hg
    · cases hg
      obtain ⟨a, vs, rfl, ha, ra⟩ := lstOf_at S r1 hd
      cases r2 with
      | lst h2 n2 rr2 =>
        cases rx; cases ry
        obtain ⟨its, rv, it, _⟩ := I.list (.of ha)
        obtain ⟨its2, rv2, it2, _⟩ := I.list (.of h2)
        have z2 : its2 = [] := by
          cases rr2
          cases rv2
          rfl
        subst z2
        have hl : its.length = ds.length := by rw [← rv.length, ← ra.length]
        by_cases hz : ds = []
        · subst hz
          have z1 : its = [] := List.eq_nil_of_length_eq_zero hl
          subst z1
          refine SeqAt.RcNeAt.lists (e := fun _ => true) it.isList it2.isList rfl (by omega) (fun j h1 h2 => by simp at h2) X.prog X.w X.xe _ ?_
          exact ⟨.bl false, H, I, rfl, fin0 S q (.bl false)⟩
        · have hn : its.length ≠ 0 := fun z => hz (List.eq_nil_of_length_eq_zero (by omega))
          refine SeqAt.RcNeAt.lists_lengths it.isList it2.isList (by simp; intro z; exact hn (by rw [z]; rfl)) (by omega) X.prog X.w X.xe _ ?_
          have e : (!ds.isEmpty) = true := by cases ds <;> first | exact absurd rfl hz | rfl
          rw [e] at q
          exact ⟨.bl true, H, I, rfl, fin0 S q (.bl true)⟩
    · cases hg
  · cases hg
theorem neL_lst {h : Hs} {ds : List D} : gNeL h (.lst ds) (.lst []) = some (.bl (!ds.isEmpty)) := rfl
/-! ### and, or as values, by truth -/
section
end
section
end
/-! # G42: a tuple times one -/
section
end
/-! # G43: partition -/
section
/-! ### dict.get(key, default) -/
end
section
end
/-! # G44: int(word, 36); a dict's entry read; sorted(dict) -/
namespace B36
open PySem.NumText PySem.Calls
end B36
section
variable {X : Cx} {Wd : WX}
/-! ### d[key] -/
def gDget (hs : Hs) (d k : D) : Option D := match atD hs d k with | some o => o | none => none
theorem ue_dget {o i : Expr} {fo fi : FE} {pos : Pos} (hu : X.A.units + 1 < cLine) (ho : UE X Wd o fo) (hi : UE X Wd i fi) (hs : NoSl i := by exact fun _ _ => rfl) : UE X Wd (.Subscript o i pos) (eBin gDget fo fi) := by
  refine PE.imp (pe_dget hu ho hi hs) fun σ H Q h => ?_
  obtain ⟨e, mu, hs, S, E, q⟩ := tG_seq (r := relD X.K) relD_ok h
  refine ⟨e, mu, hs, S, E, q.imp fun x H1 ⟨e, mu1, hs1, d, S1, E1, r1, g1⟩ => ?_⟩
  refine ⟨e, mu1, hs1, S1, E1, (Gd.bind (r := relD X.K) relD_ok g1).imp fun y H2 ⟨mu2, hs2, k, l2, S2, r2, g2⟩ => ?_⟩
  cases e1 : atD hs2 d k with
  | none => unfold gDget at g2; rw [e1] at g2; exact g2.elim
  | some o =>
    cases o with
    | none => unfold gDget at g2; rw [e1] at g2; exact g2.elim
    | some w =>
      unfold gDget at g2
      rw [e1] at g2
      obtain ⟨a, ov, rfl, hd, _, hw⟩ := atD_at S2 r2 (RD.agr (l2.agr S1) r1) e1
      obtain ⟨v, rfl, rv⟩ := hw w rfl
      exact ⟨a, v, rfl, hd, g2 mu2 H2 _ .refl S2 rv⟩
/-! ### sorted(dict), its keys texts -/
theorem uniq_sorted {t : Type} (le : t → t → Prop) (anti : ∀ a b, le a b → le b a → a = b) : ∀ {l m : List t}, l.Perm m → l.Pairwise le → m.Pairwise le → l = m
  | [], m, p, _, _ => (List.nil_perm.mp p).symm
  | a :: l, [], p, _, _ => (List.perm_nil.mp p)
  | a :: l, b :: m, p, h, g => by
    have e : a = b := by
      rcases List.mem_cons.mp (p.subset (List.mem_cons_self : a ∈ a :: l)) with q | q
      · exact q
      · rcases List.mem_cons.mp (p.symm.subset (List.mem_cons_self : b ∈ b :: m)) with q' | q'
        · exact q'.symm
        · exact anti a b (List.rel_of_pairwise_cons h q') (List.rel_of_pairwise_cons g q)
    subst e
    rw [uniq_sorted le anti (List.perm_cons a |>.mp p) h.of_cons g.of_cons]
end
section
end
end G

/-! # G45: numbers to the base 36, stamps -/
namespace G
open PySem PySem.Spec PyProof.Rows L2
noncomputable section
end
section
/-! ### words to the base 36 -/
end
/-! # G46: tuples of ints and texts: their order, sorted -/
/-! ### the order -/
def ltK : Key → Key → Bool
  | .inl i, .inl j => decide (i < j)
  | .inr x, .inr y => decide (x.cps.toList < y.cps.toList)
  | .inl _, .inr _ => true
  | .inr _, .inl _ => false
def sameK : Key → Key → Bool
  | .inl _, .inl _ => true
  | .inr _, .inr _ => true
  | _, _ => false
def lexK : List Key → List Key → Bool
  | [], [] => false
  | [], _ :: _ => true
  | _ :: _, [] => false
  | x :: xs, y :: ys => if x = y then lexK xs ys else ltK x y
/-- the parts side by side are of one sort -/
def cmpK : List Key → List Key → Bool
  | x :: xs, y :: ys => sameK x y && cmpK xs ys
  | _, _ => true
theorem ltK_asym {x y : Key} (h : ltK x y = true) : ltK y x = false := by
  rcases x with i | s <;> rcases y with j | t
  · exact decide_eq_false (by have := of_decide_eq_true h; omega)
  · rfl
  · exact absurd h Bool.false_ne_true
  · exact decide_eq_false (List.lt_asymm (of_decide_eq_true h))
theorem ltK_irr (x : Key) : ltK x x = false := by
  cases q : ltK x x with
  | false => rfl
  | true => rw [ltK_asym q] at q; exact q.symm
theorem ltK_conn {x y : Key} (h1 : ltK x y = false) (h2 : ltK y x = false) : x = y := by
  rcases x with i | s <;> rcases y with j | t
  · have a := of_decide_eq_false h1
    have b := of_decide_eq_false h2
    rw [show i = j by omega]
  · cases h1
  · cases h2
  · have a := of_decide_eq_false h1
    have b := of_decide_eq_false h2
    rw [show s = t from Str.ext' (Array.toList_inj.mp (List.le_antisymm (List.not_lt.mp b) (List.not_lt.mp a)))]
theorem ltK_tr {x y z : Key} (h1 : ltK x y = true) (h2 : ltK y z = true) : ltK x z = true := by
  rcases x with i | s <;> rcases y with j | t <;> rcases z with k | u <;> first | exact absurd h1 Bool.false_ne_true | exact absurd h2 Bool.false_ne_true | rfl | skip
  · have a := of_decide_eq_true h1
    have b := of_decide_eq_true h2
    exact decide_eq_true (by omega)
  · exact decide_eq_true (List.lt_trans (of_decide_eq_true h1) (of_decide_eq_true h2))
theorem lexK_asym : ∀ x y : List Key, lexK x y = true → lexK y x = false
  | [], [], h => nomatch h
  | [], _ :: _, _ => rfl
  | _ :: _, [], h => nomatch h
  | x :: xs, y :: ys, h => by
    unfold lexK at h ⊢
    by_cases e : x = y
    · rw [if_pos e] at h; rw [if_pos e.symm]; exact lexK_asym xs ys h
    · rw [if_neg e] at h; rw [if_neg (Ne.symm e)]; exact ltK_asym h
theorem lexK_conn : ∀ {x y : List Key}, lexK x y = false → lexK y x = false → x = y
  | [], [], _, _ => rfl
  | [], _ :: _, h, _ => nomatch h
  | _ :: _, [], _, h => nomatch h
  | x :: xs, y :: ys, h, g => by
    unfold lexK at h g
    by_cases e : x = y
    · rw [if_pos e] at h; rw [if_pos e.symm] at g; rw [e, lexK_conn h g]
    · rw [if_neg e] at h; rw [if_neg (Ne.symm e)] at g; exact absurd (ltK_conn h g) e
theorem lexK_tr : ∀ x y z : List Key, lexK x y = true → lexK y z = true → lexK x z = true
  | [], [], _, h, _ => nomatch h
  | [], _ :: _, [], _, h => nomatch h
  | [], _ :: _, _ :: _, _, _ => rfl
  | _ :: _, [], _, h, _ => nomatch h
  | _ :: _, _ :: _, [], _, h => nomatch h
  | x :: xs, y :: ys, z :: zs, h, g => by
    unfold lexK at h g ⊢
    by_cases e : x = y
    · subst e
      rw [if_pos rfl] at h
      by_cases e2 : x = z
      · rw [if_pos e2] at g ⊢; exact lexK_tr xs ys zs h g
      · rw [if_neg e2] at g ⊢; exact g
    · rw [if_neg e] at h
      by_cases e2 : y = z
      · subst e2; rw [if_neg e]; exact h
      · rw [if_neg e2] at g
        have t := ltK_tr h g
        have ne : x ≠ z := by rintro rfl; rw [ltK_irr] at t; cases t
        rw [if_neg ne]; exact t
theorem lexK_neg {x y z : List Key} (h1 : lexK y x = false) (h2 : lexK z y = false) : lexK z x = false := by
  cases q : lexK z x with
  | false => rfl
  | true =>
    cases p : lexK x y with
    | true => rw [lexK_tr z x y q p] at h2; exact h2
    | false => rw [lexK_conn p h1] at q; rw [q] at h2; exact h2
theorem swoK {t : Type} (k : t → List Key) : SrtO.Swo (fun v u : t => lexK (k v) (k u)) := ⟨fun x y h => lexK_asym _ _ h, fun x y z h1 h2 => lexK_neg h1 h2⟩
/-! ### as the model compares -/
section
variable {prog : Program} {w : World} {A : Around} {s : Shared}
theorem eqAt_key {k l : Key} {v u : Value} (rv : RelV (kV k) v) (ru : RelV (kV l) u) (h : sameK k l = true) : SeqAt.EqAt A s v u (decide (k = l)) := by
  rcases k with i | x <;> rcases l with j | y
  · obtain ⟨t1, rfl⟩ := rv
    obtain ⟨t2, rfl⟩ := ru
    have e : decide ((Sum.inl i : Key) = Sum.inl j) = (i == j) := by rw [Bool.eq_iff_iff, decide_eq_true_iff, beq_iff_eq]; exact ⟨Sum.inl.inj, congrArg _⟩
    rw [e]
    exact SeqAt.EqAt.int_int i t1 j t2
  · cases h
  · cases h
  · obtain ⟨t1, rfl⟩ := rv
    obtain ⟨t2, rfl⟩ := ru
    have e : decide ((Sum.inr x : Key) = Sum.inr y) = (x == y) := by rw [Bool.eq_iff_iff, decide_eq_true_iff, beq_iff_eq]; exact ⟨Sum.inr.inj, congrArg _⟩
    rw [e]
    exact SeqAt.EqAt.str_str x t1 y t2
theorem lt_key {k l : Key} {v u : Value} {E : Value → Shared → Prop} {Q : Value → Shared → Prop} (rv : RelV (kV k) v) (ru : RelV (kV l) u) (h : sameK k l = true) (q : Q (.bool (ltK k l)) s) : wpAny (model prog w) A (compareOp .Lt v u) Q E s := by
  rcases k with i | x <;> rcases l with j | y
  · obtain ⟨t1, rfl⟩ := rv
    obtain ⟨t2, rfl⟩ := ru
    exact PyProof.Rows.lt_int q
  · cases h
  · cases h
  · obtain ⟨t1, rfl⟩ := rv
    obtain ⟨t2, rfl⟩ := ru
    exact PyProof.Rows.lt_str q
theorem one_key {k l : Key} {v u : Value} {E : Value → Shared → Prop} {Q : Bool → Shared → Prop} (b : Bool) (rv : RelV (kV k) v) (ru : RelV (kV l) u) (h : sameK k l = true) (q : Q (ltK k l) s) : wpAny (model prog w) A (oneLt' b v u) Q E s := by
  cases b with
  | false => exact PySem.W.kat_one _ _ (lt_key rv ru h q)
  | true =>
    rcases k with i | x <;> rcases l with j | y
    · obtain ⟨t1, rfl⟩ := rv
      obtain ⟨t2, rfl⟩ := ru
      exact oneLt_int q
    · cases h
    · cases h
    · obtain ⟨t1, rfl⟩ := rv
      obtain ⟨t2, rfl⟩ := ru
      exact oneLt_str q
theorem lex_keys {b : Bool} {Q : Bool → Shared → Prop} : ∀ (ks ls : List Key) {vs us : List Value} (i : Nat) {fin : Bool}, Vals (ks.map kV) vs → Vals (ls.map kV) us → cmpK ks ls = true → fin = decide (ks.length < ls.length) → Q (lexK ks ls) s →
    PySem.W.KatLex prog w A b fin Q (vs.zip us) i s
  | [], [], _, _, i, _, .nil, .nil, _, hf, q => PySem.W.kat_nil (by rw [hf]; exact q)
  | [], l :: ls, _, _, i, _, .nil, .cons _ _, _, hf, q => PySem.W.kat_nil (by
    rw [hf]
    have e : decide (([] : List Key).length < (l :: ls).length) = lexK [] (l :: ls) := decide_eq_true (Nat.succ_pos _)
    rw [e]; exact q)
  | k :: ks, [], _, _, i, _, .cons _ _, .nil, _, hf, q => PySem.W.kat_nil (by
    rw [hf]
    have e : decide ((k :: ks).length < ([] : List Key).length) = lexK (k :: ks) [] := decide_eq_false (Nat.not_lt_zero _)
    rw [e]; exact q)
  | k :: ks, l :: ls, _, _, i, _, .cons rv tv, .cons ru tu, hc, hf, q => by
    have hc2 : sameK k l = true ∧ cmpK ks ls = true := by
      have : (sameK k l && cmpK ks ls) = true := hc
      rwa [Bool.and_eq_true] at this
    rw [List.zip_cons_cons]
    have q2 : Q (if k = l then lexK ks ls else ltK k l) s := q
    refine PySem.W.kat_cons (eqAt_key rv ru hc2.1 prog w _ _ ?_)
    refine PySem.W.kat_go (fun e => ?_) (fun e => ?_)
    · rw [if_pos (of_decide_eq_true e)] at q2
      refine PySem.W.kat_yes (lex_keys ks ls (i + 1) tv tu hc2.2 ?_ q2)
      rw [hf, List.length_cons, List.length_cons]
      exact decide_eq_decide.mpr (by omega)
    · rw [if_neg (of_decide_eq_false e)] at q2
      exact PySem.W.kat_no (one_key _ rv ru hc2.1 q2)
/-- a tuple of these keys -/
def IsKt (h : Heap) (v : Value) (ks : List Key) : Prop := ∃ a o us n, v = .ref a ∧ h.get? a = some o ∧ o.cls = .type "tuple" ∧ o.data = .seq us n ∧ Vals (ks.map kV) us.toList
theorem IsKt.keeps {h h' : Heap} {v : Value} {ks : List Key} (x : IsKt h v ks) (k : ∀ b o, v = .ref b → h.get? b = some o → h'.get? b = some o) : IsKt h' v ks := by
  obtain ⟨a, o, us, n, e, g, r⟩ := x
  exact ⟨a, o, us, n, e, k _ _ e g, r⟩
theorem kt_cmp {vs : List Value} {b : Bool} {k : Value → List Key} (hp : ∀ v ∈ vs, IsKt s.heap v (k v)) (hc : ∀ v ∈ vs, ∀ u ∈ vs, cmpK (k v) (k u) = true) : SrtO.Cmp prog w A s (tuples' b) (fun p => p.1 ∈ vs) (SrtO.lt2 fun v u => lexK (k v) (k u)) := by
  intro p q hm hm'
  obtain ⟨a, o, us, n, e, ho, _, hd, r⟩ := hp _ hm
  obtain ⟨a', o', us', n', e', ho', _, hd', r'⟩ := hp _ hm'
  show wpAny (model prog w) A (keyLt' (tuples' b) p.1 q.1) (fun r s' => s' = s ∧ r = lexK (k p.1) (k q.1)) (fun _ _ => False) s
  have hc' := hc _ hm _ hm'
  have hl : (k p.1).length = us.size := by have := r.length; simpa using this
  have hl' : (k q.1).length = us'.size := by have := r'.length; simpa using this
  generalize k p.1 = ks at r hc' hl ⊢
  generalize k q.1 = ls at r' hc' hl' ⊢
  rw [e, e']
  exact PySem.W.kat_lt ho hd ho' hd' (lex_keys _ _ 0 r r' hc' (by rw [hl, hl']) ⟨rfl, rfl⟩)
/-- the first parts, all of one sort -/
theorem kt_firsts {h : Heap} : ∀ {vs : List Value} {k : Value → List Key}, (∀ v ∈ vs, IsKt h v (k v)) → (∀ v ∈ vs, k v ≠ []) → ∃ fs, PySem.W.KatTups h vs fs ∧ fs.length = vs.length ∧ ∀ f ∈ fs, ∃ v ∈ vs, ∃ x r, k v = x :: r ∧ RelV (kV x) f
  | [], _, _, _ => ⟨[], .nil, rfl, fun _ z => nomatch z⟩
  | v :: vs, k, hp, hn => by
    obtain ⟨fs, h1, h2, h3⟩ := kt_firsts (vs := vs) (k := k) (fun u hu => hp u (List.mem_cons_of_mem v hu)) fun u hu => hn u (List.mem_cons_of_mem v hu)
    obtain ⟨a, o, us, n, rfl, ho, hc, hd, r⟩ := hp _ List.mem_cons_self
    have ne := hn _ List.mem_cons_self
    cases q : k (.ref a) with
    | nil => exact absurd q ne
    | cons x rest =>
      rw [q, List.map_cons] at r
      cases q2 : us.toList with
      | nil => rw [q2] at r; cases r
      | cons f fr =>
        rw [q2] at r
        cases r with
        | cons rf _ =>
          refine ⟨f :: fs, .cons ho hc hd ?_ h1, by rw [List.length_cons, List.length_cons, h2], fun g hg => ?_⟩
          · rw [← Array.getElem?_toList, q2]; rfl
          · rcases List.mem_cons.mp hg with rfl | hg
            · exact ⟨_, List.mem_cons_self, x, rest, q, rf⟩
            · obtain ⟨u, hu, z⟩ := h3 g hg
              exact ⟨u, List.mem_cons_of_mem _ hu, z⟩
def headK (b : Bool) : List Key → Bool
  | .inl _ :: _ => b
  | .inr _ :: _ => !b
  | [] => false
theorem kt_sortable {a : Addr} {vs : List Value} {k : Value → List Key} {b : Bool} (h0 : 0 < vs.length) (hp : ∀ v ∈ vs, IsKt s.heap v (k v)) (hh : ∀ v ∈ vs, headK b (k v) = true) (hc : ∀ v ∈ vs, ∀ u ∈ vs, cmpK (k v) (k u) = true)
    (ha : ∀ o, s.heap.get? a = some o → o.cls ≠ .type "tuple") : SrtO.SortableO prog w A s a vs fun v u => lexK (k v) (k u) := by
  intro h' keep
  have hp' : ∀ v ∈ vs, IsKt h' v (k v) := fun v hm => by
    obtain ⟨a1, o1, us1, n1, e1, g1, c1, r1⟩ := hp v hm
    exact ⟨a1, o1, us1, n1, e1, keep a1 o1 (fun z => by subst z; exact ha o1 g1 c1) g1, c1, r1⟩
  obtain ⟨fs, h1, h2, h3⟩ := kt_firsts hp' fun v hv => by intro e; have := hh v hv; rw [e] at this; cases this
  refine ⟨tuples' true, fun Q E hq => ?_, kt_cmp hp' hc⟩
  cases b with
  | true =>
    refine PySem.W.kat_kind (T := .type "int") h1 (by omega) (fun f hm => ?_) (by rfl) ?_
    · obtain ⟨v, hv, x, r, e, rf⟩ := h3 f hm
      have z := hh v hv
      rw [e] at z
      rcases x with i | t
      · obtain ⟨t1, rfl⟩ := rf
        exact PySem.W.Looks.now
      · cases z
    · have e : (Value.type "int" != Value.type "tuple") = true := by first | decide +kernel | rfl
      rw [e]
      exact hq
  | false =>
    refine PySem.W.kat_kind (T := .type "str") h1 (by omega) (fun f hm => ?_) (by rfl) ?_
    · obtain ⟨v, hv, x, r, e, rf⟩ := h3 f hm
      have z := hh v hv
      rw [e] at z
      rcases x with i | t
      · cases z
      · obtain ⟨t1, rfl⟩ := rf
        exact PySem.W.Looks.now
    · have e : (Value.type "str" != Value.type "tuple") = true := by first | decide +kernel | rfl
      rw [e]
      exact hq
end
/-! # G47: t < u of tuples of ints and texts; sorted of lists of them, of dicts with such keys -/
section
open PySem.SeqAt
open PySem.AutoSeq1 (wpAny_loadPart')
open PySem.MeetsSeq PySem.MeetsSeq2 PySem.MeetsSeq3
end
section
end
section
end
/-! # G48: sorted, of what holds tuples of ints and texts -/
section
variable {prog : Program} {w : World} {A : Around} {E : Value → Shared → Prop} {s : Shared}
/-- all items of a list or a tuple are taken into a new list -/
theorem collect_of {T : String} {l : Addr} {o : Obj} {vs : List Value} {n : Nat} {Q : List Value → Shared → Prop} (hT : (Value.type T == Value.type "list" || Value.type T == Value.type "tuple") = true) (h0 : s.heap.get? l = some o) (hc : o.cls = .type T) (hd : o.data = .seq vs.toArray n)
    (hz : vs.length ≤ sizeLine) (h : ∀ h', (∀ b u, s.heap.get? b = some u → h'.get? b = some u) → Q vs { s with heap := h' }) : wpAny (model prog w) A (collect (.ref l)) Q E s := by
  have keep : ∀ b u, s.heap.get? b = some u → ((s.heap.push (seqObj "list" #[] 0)).update s.heap.objs.size (Obj.mapSeq (· ++ vs.toArray))).get? b = some u := fun b u e => by
    rw [Heap.get?_update_ne _ _ _ _ (Nat.ne_of_lt (Heap.lt_size e))]
    exact Heap.get?_push_of_some _ e
  have h2 := h _ keep
  unfold collect
  refine wpAny_bind (wpAny_runValue (codeAny_builtin entry_proto_collect' ?_))
  show wpAny _ _ (do again (.builtin "list.__iadd__" ⟨[← newList [], .ref l], []⟩)) _ _ s
  refine wpAny_bind (wpAny_newList (wpAny_pure ⟨Code.quiet_builtin _ (by decide +kernel), codeAny_builtin entry_list_iadd' ?_⟩))
  have h3 : (s.heap.push (seqObj "list" #[] 0)).get? l = some o := Heap.get?_push_of_some _ h0
  have hn : (s.heap.push (seqObj "list" #[] 0)).get? s.heap.objs.size = some (seqObj "list" #[] 0) := Heap.get?_push_size _ rfl
  show wpAny _ _ (Builtin.List.listExtendWith (.ref s.heap.objs.size) (.ref l) (.ref s.heap.objs.size)) _ _ { s with heap := s.heap.push (seqObj "list" #[] 0) }
  unfold Builtin.List.listExtendWith
  refine wpAny_bind (wpAny_typeOf (T := T) ⟨o, h3, hc⟩ ?_)
  rw [if_pos (by rw [Bool.or_assoc, hT, Bool.or_true])]
  refine wpAny_bind (listItems_at h3 hd ?_)
  refine wpAny_bind (listItems_at hn rfl ?_)
  rw [if_neg (by simp)]
  refine wpAny_bind (listUpdate_at hn rfl ?_ (Nat.zero_le _) (by show (#[] ++ vs.toArray).size ≤ sizeLine + 1; simp only [Array.size_append, List.size_toArray, List.length_nil]; omega))
  refine wpAny_pure ?_
  show wpAny (model prog w) A (do
      let q ← load s.heap.objs.size
      match q.data with
      | .seq xs _ => pure xs.toList
      | _ => unsupported "internal:collect") Q E { s with heap := (s.heap.push (seqObj "list" #[] 0)).update s.heap.objs.size (Obj.mapSeq (· ++ vs.toArray)) }
  refine wpAny_bind (wpAny_load (get?_update_seq hn _) ?_)
  show wpAny _ _ (pure ((#[] : Array Value) ++ vs.toArray).toList) Q E _
  have e : ((#[] : Array Value) ++ vs.toArray).toList = vs := by simp
  rw [e]
  exact wpAny_pure h2
/-- sorted(x), x's items gathered anyhow -/
theorem sorted_of {x : Value} {vs : List Value} {ltv : Value → Value → Bool} {Q : Value → Shared → Prop} (O : SrtO.Swo ltv) (hz : vs.length ≤ sizeLine)
    (hcol : ∀ (Q' : List Value → Shared → Prop) (E' : Value → Shared → Prop), (∀ h' tk, (∀ b u, s.heap.get? b = some u → h'.get? b = some u) → Q' vs { s with heap := h', toks := tk }) → wpAny (model prog w) A.in1 (collect x) Q' E' s)
    (hS : 2 ≤ vs.length → ∀ (h1 : Heap) (tk : Nat) (a : Addr), h1.get? a = some (seqObj "list" vs.toArray 0) → (∀ b u, s.heap.get? b = some u → h1.get? b = some u) → SrtO.SortableO prog w A.in1.in1 { s with heap := h1, toks := tk } a vs ltv)
    (h : ∀ (out : List Value) (h1 h2 : Heap) (tk : Nat), SrtO.Srtd ltv out → SrtO.Stb ltv out vs → (∀ b u, s.heap.get? b = some u → h1.get? b = some u) → (∀ b u, h1.get? b = some u → h2.get? b = some u) → (∃ n, h2.get? h1.objs.size = some (seqObj "list" out.toArray n)) → Q (.ref h1.objs.size) { s with heap := h2, toks := tk }) :
    wpAny (model prog w) A (call (.builtin "sorted") [x]) Q E s := by
  refine Calls.call_function_entry kind_sorted plain_sorted entry_sorted (args_sorted1 _) ?_
  unfold Builtin.«sorted»
  refine wpAny_bind (m := checkCount "sorted" 1 1 _) (wpAny_pure ?_)
  refine wpAny_bind (hcol _ _ fun h' tk k1 => ?_)
  refine wpAny_bind (wpAny_newList ?_ hz)
  have hn : (h'.push (seqObj "list" vs.toArray 0)).get? h'.objs.size = some (seqObj "list" vs.toArray 0) := Heap.get?_push_size _ rfl
  have k2 : ∀ b u, h'.get? b = some u → (h'.push (seqObj "list" vs.toArray 0)).get? b = some u := fun b u e => Heap.get?_push_of_some _ e
  show wpAny _ _ _ _ _ { s with heap := h'.push (seqObj "list" vs.toArray 0), toks := tk }
  refine wpAny_bind (wpAny_holding (wpAny_call_entry slot_list_sort ⟨_, hn, rfl⟩ entry_list_sort (SrtO.list_sort_ord (s := { s with heap := h'.push (seqObj "list" vs.toArray 0), toks := tk }) O hn hz (fun g2 => hS g2 _ _ _ hn fun b u e => k2 b u (k1 b u e)) fun out hs hb => ⟨_, rfl, ?_⟩) (args_list_sort _)))
  obtain ⟨n, hd⟩ := sortedHeap_at (vs := vs) (out := out.toArray) hn
  refine wpAny_pure ⟨_, rfl, h out h' _ tk hs hb k1 (fun b u e => ?_) ⟨n, hd⟩⟩
  have hlt : b < h'.objs.size := Heap.lt_size e
  rw [sortedHeap_old (Nat.ne_of_lt hlt) (by rw [size_push']; exact Nat.lt_succ_of_lt hlt)]
  exact k2 b u e
end
/-! ### by the heap of the layer -/
def vK : V → Key
  | .int i => .inl i
  | .str z => .inr z
  | _ => .inl 0
theorem vK_kV (k : Key) : vK (kV k) = k := by cases k <;> rfl
def keyAt (H : Hp) : Value → List Key
  | .ref a => (match H a with | some (.tup vs) => vs.map vK | _ => [])
  | _ => []
theorem keyAt_of {H : Hp} {a : Addr} {ks : List Key} (e : H a = some (.tup (ks.map kV))) : keyAt H (.ref a) = ks := by
  unfold keyAt
  dsimp only
  rw [e]
  show (ks.map kV).map vK = ks
  rw [List.map_map]
  exact (List.map_congr_left fun k _ => vK_kV k).trans (List.map_id ks)
/-- the addresses hold these tuples of keys -/
def KtAt (H : Hp) (ts : List Addr) (kss : List (List Key)) : Prop := Paired (fun t ks => H t = some (.tup (ks.map kV))) ts kss
theorem KtAt.keys {H : Hp} : ∀ {ts : List Addr} {kss : List (List Key)}, KtAt H ts kss → (ts.map Value.ref).map (keyAt H) = kss ∧ ∀ t ∈ ts, ∃ ks ∈ kss, H t = some (.tup (ks.map kV))
  | _, _, .nil => ⟨rfl, fun _ z => nomatch z⟩
  | _, _, .cons e t => by
    obtain ⟨h1, h2⟩ := KtAt.keys t
    refine ⟨by rw [List.map_cons, List.map_cons, h1, keyAt_of e], fun u hu => ?_⟩
    rcases List.mem_cons.mp hu with rfl | hu
    · exact ⟨_, List.mem_cons_self, e⟩
    · obtain ⟨ks, hk, z⟩ := h2 u hu
      exact ⟨ks, List.mem_cons_of_mem _ hk, z⟩
def okKs (kss : List (List Key)) : Bool := (kss.all fun x => kss.all fun y => cmpK x y) && (kss.all (headK true) || kss.all (headK false)) && decide (kss.length ≤ 100000)
/-- in their order -/
def insK (x : List Key) : List (List Key) → List (List Key)
  | [] => [x]
  | y :: r => if lexK y x = true then y :: insK x r else x :: y :: r
def sortK : List (List Key) → List (List Key)
  | [] => []
  | x :: r => insK x (sortK r)
theorem insK_perm (x : List Key) : ∀ l : List (List Key), (insK x l).Perm (x :: l)
  | [] => .refl _
  | y :: r => by
    unfold insK
    split
    · exact ((insK_perm x r).cons y).trans (.swap x y r)
    · exact .refl _
theorem sortK_perm : ∀ l : List (List Key), (sortK l).Perm l
  | [] => .refl _
  | x :: r => (insK_perm x (sortK r)).trans ((sortK_perm r).cons x)
abbrev leK (x y : List Key) : Prop := lexK y x = false
theorem insK_pw {x : List Key} : ∀ {l : List (List Key)}, l.Pairwise leK → (insK x l).Pairwise leK
  | [], _ => List.pairwise_singleton _ _
  | y :: r, h => by
    unfold insK
    split
    · rename_i q
      refine List.pairwise_cons.mpr ⟨fun z hz => ?_, insK_pw h.of_cons⟩
      rcases List.mem_cons.mp ((insK_perm x r).subset hz) with rfl | hz
      · exact lexK_asym _ _ q
      · exact List.rel_of_pairwise_cons h hz
    · rename_i q
      have q : lexK y x = false := Bool.eq_false_iff.mpr q
      refine List.pairwise_cons.mpr ⟨fun z hz => ?_, h⟩
      rcases List.mem_cons.mp hz with rfl | hz
      · exact q
      · exact lexK_neg (x := x) (y := y) (z := z) q (List.rel_of_pairwise_cons h hz)
theorem sortK_pw : ∀ l : List (List Key), (sortK l).Pairwise leK
  | [] => .nil
  | x :: r => insK_pw (sortK_pw r)
theorem sortK_is {l m : List (List Key)} (p : m.Perm l) (h : m.Pairwise leK) : m = sortK l := uniq_sorted leK (fun _ _ a b => lexK_conn b a) (p.trans (sortK_perm l).symm) h (sortK_pw l)
/-- what sorted gives of such items -/
theorem sort_keys {X : Cx} {pins : List (Addr × Obj)} {σ : L2.St} {H : Hp} {s : Shared} {x : Value} {Q : VK} {ts : List Addr} {kss : List (List Key)} (I : Inv X pins σ H s) (hk : KtAt H ts kss) (ok : okKs kss = true)
    (hcol : ∀ (Q' : List Value → Shared → Prop) (E' : Value → Shared → Prop), (∀ h' tk, (∀ b u, s.heap.get? b = some u → h'.get? b = some u) → Q' (ts.map Value.ref) { s with heap := h', toks := tk }) → wpAny (model X.prog X.w) X.A.in1 (collect x) Q' E' s)
    (q : ∀ ts' p, KtAt H ts' (sortK kss) → (∀ t ∈ ts', t ∈ ts) → H p = none → Q (.ref p) (upd H p (.lst (ts'.map V.ref)))) : wpAny (model X.prog X.w) X.A (call (.builtin "sorted") [x]) (EP X pins σ Q) X.xe s := by
  unfold okKs at ok
  rw [Bool.and_eq_true, Bool.and_eq_true] at ok
  obtain ⟨⟨o1, o2⟩, o3⟩ := ok
  have cmp : ∀ a ∈ kss, ∀ b ∈ kss, cmpK a b = true := fun a ha b hb => List.all_eq_true.mp (List.all_eq_true.mp o1 a ha) b hb
  obtain ⟨b, hb⟩ : ∃ b, ∀ a ∈ kss, headK b a = true := by
    rcases Bool.or_eq_true_iff.mp o2 with h | h
    · exact ⟨true, List.all_eq_true.mp h⟩
    · exact ⟨false, List.all_eq_true.mp h⟩
  obtain ⟨hkeys, hat⟩ := hk.keys
  have hlen : ts.length = kss.length := by rw [← hkeys, List.length_map, List.length_map]
  have l3 := of_decide_eq_true o3
  have hm : ∀ v ∈ ts.map Value.ref, keyAt H v ∈ kss := fun v hv => by rw [← hkeys]; exact List.mem_map_of_mem hv
  have kt : ∀ h1 : Heap, (∀ b u, s.heap.get? b = some u → h1.get? b = some u) → ∀ v ∈ ts.map Value.ref, IsKt h1 v (keyAt H v) := fun h1 k v hv => by
    obtain ⟨t, ht, rfl⟩ := List.mem_map.mp hv
    obtain ⟨ks, _, e⟩ := hat t ht
    rw [keyAt_of e]
    obtain ⟨_, its, r, o, ho, hc, n, hd⟩ := I.hok _ _ e
    exact ⟨t, o, its.toArray, n, rfl, k _ _ ho, hc, hd, by simpa using r⟩
  refine sorted_of (swoK (keyAt H)) (by rw [List.length_map, sizeLine_eq]; omega) hcol (fun g2 h1 tk a ha k => ?_) fun out h1 h2 tk hs hst k1 k2 hd => ?_
  · refine kt_sortable (b := b) (by omega) (kt h1 k) (fun v hv => hb _ (hm v hv)) (fun v hv u hu => cmp _ (hm v hv) _ (hm u hu)) fun o e => ?_
    have e2 : some o = some (seqObj "list" (ts.map Value.ref).toArray 0) := e.symm.trans ha
    cases e2
    intro c
    exact absurd (Value.type.inj c) (by decide)
  · have hp := hst.perm
    have ho : ∀ v ∈ out, ∃ t ∈ ts, v = Value.ref t := fun v hv => by
      obtain ⟨t, ht, e⟩ := List.mem_map.mp (hp.subset hv)
      exact ⟨t, ht, e.symm⟩
    obtain ⟨ts', e1, e2⟩ : ∃ ts' : List Addr, out = ts'.map Value.ref ∧ ∀ t ∈ ts', t ∈ ts := by
      clear hs hst hd hp
      induction out with
      | nil => exact ⟨[], rfl, fun _ z => nomatch z⟩
      | cons v out ih =>
        obtain ⟨ts', e1, e2⟩ := ih fun u hu => ho u (List.mem_cons_of_mem _ hu)
        obtain ⟨t, ht, rfl⟩ := ho _ List.mem_cons_self
        refine ⟨t :: ts', by rw [e1]; rfl, fun u hu => ?_⟩
        rcases List.mem_cons.mp hu with rfl | hu
        · exact ht
        · exact e2 u hu
    subst e1
    have sk : (ts'.map Value.ref).map (keyAt H) = sortK kss := by
      refine sortK_is ?_ (List.pairwise_map.mpr hs)
      rw [← hkeys]
      exact hp.map _
    have kt' : KtAt H ts' (sortK kss) := by
      rw [← sk]
      clear sk hs hst hd hp ho
      induction ts' with
      | nil => exact .nil
      | cons t ts' ih =>
        obtain ⟨ks, _, e⟩ := hat t (e2 t List.mem_cons_self)
        refine .cons ?_ (ih fun u hu => e2 u (List.mem_cons_of_mem _ hu))
        rw [keyAt_of e]; exact e
    have I1 : Inv X pins σ H { s with heap := h1, toks := tk } := I.kept k1
    obtain ⟨n, hd⟩ := hd
    have hl : (ts'.map V.ref).length ≤ sizeLine := by
      have := hp.length_eq
      rw [List.length_map, List.length_map] at this
      rw [List.length_map, sizeLine_eq]; omega
    exact ⟨.ref h1.objs.size, upd H h1.objs.size (.lst (ts'.map V.ref)), I1.laid (t' := tk) k2 (Nat.le_refl _) ⟨hl, ts'.map Value.ref, n, vals_refs _, hd⟩, rfl, q ts' _ kt' e2 (I1.hok.fresh (Nat.le_refl _))⟩
/-! # G49: sorted(x) as a function of ours -/
def keyV : Key → D
  | .inl i => .int i
  | .inr z => .str z
def tupK (ks : List Key) : D := .tup (ks.map keyV)
def keyTs : List D → Option (List (List Key))
  | [] => some []
  | .tup ds :: r => (match keysD ds with | some ks => (match keyTs r with | some kss => some (ks :: kss) | none => none) | none => none)
  | _ :: _ => none
def sortKs (kss : List (List Key)) : Option (List D) := if okKs kss = true then some ((sortK kss).map tupK) else none
section
variable {K : PySem.W.Frag} {mg : Str → Option Value} {mu : Mp} {hs : Hs} {H : Hp}
theorem RKs.fsts {k : Type} : ∀ {ds : List (k × D)} {vs : List (k × V)}, RKs K mu H ds vs → ds.map (·.1) = vs.map (·.1)
  | _, _, .nil => rfl
  | _, _, .cons _ t => by rw [List.map_cons, List.map_cons, RKs.fsts t]
theorem Sim.tup_out (S : Sim K mg mu hs H) {a : Addr} {vs : List V} (e : H a = some (.tup vs)) : a ∉ mu.l := fun m => by
  obtain ⟨n, hn, q⟩ := List.getElem_of_mem m
  have hn' : n < hs.length := by rw [← S.len]; exact hn
  obtain ⟨b, u, e1, e2, e3⟩ := S.obj n hs[n] (List.getElem?_eq_getElem hn')
  rw [List.getElem?_eq_getElem hn] at e1
  cases e1
  rw [q, e] at e2
  cases e2
  exact RO.notTup e3
theorem keyTs_at : ∀ {ds : List D} {vs : List V} {kss : List (List Key)}, RDs K mu H ds vs → keyTs ds = some kss → ∃ ts, vs = ts.map V.ref ∧ KtAt H ts kss
  | [], _, _, .nil, e => by cases e; exact ⟨[], rfl, .nil⟩
  | d :: ds, _, _, .cons r t, e => by
    cases r with
    | tup q rs =>
      rename_i a us xs
      unfold keyTs at e
      split at e
      · rename_i ks hks
        split at e
        · rename_i kss' hk
          cases e
          obtain ⟨ts, e1, h⟩ := keyTs_at t hk
          have e2 := keysD_at rs hks
          subst e1 e2
          exact ⟨a :: ts, rfl, .cons q.1 h⟩
        · cases e
      · cases e
    | _ => cases e
theorem keys_rds : ∀ ks : List Key, RDs K mu H (ks.map keyV) (ks.map kV)
  | [] => .nil
  | .inl i :: ks => .cons (.int i) (keys_rds ks)
  | .inr z :: ks => .cons (.str z) (keys_rds ks)
theorem kt_rds (S : Sim K mg mu hs H) : ∀ {ts : List Addr} {kss : List (List Key)}, KtAt H ts kss → RDs K mu H (kss.map tupK) (ts.map V.ref)
  | _, _, .nil => .nil
  | _, _, .cons e t => .cons (.tup ⟨e, S.tup_out e⟩ (keys_rds _)) (kt_rds S t)
theorem refs_vals : ∀ {ts : List Addr} {us : List Value}, Vals (ts.map V.ref) us → us = ts.map Value.ref
  | [], _, .nil => rfl
  | t :: ts, _, .cons r q => by cases r; rw [refs_vals q]; rfl
end
section
end
section
end
/-! # G50: exceptions: raise, try .. except X as e, isinstance of what is caught, its fields -/
/-! ### the caught thing, tracked -/
section
end
section
end
/-! # G51: try, raise, isinstance and fields of exceptions as functions of ours -/
/-! ### try .. except X as e -/
theorem zip_map {k : Type} {a : Type} : ∀ (l : List (k × a)), (l.map (·.1)).zip (l.map (·.2)) = l
  | [] => rfl
  | (x, y) :: l => by simp [zip_map l]
section
/-! ### raise X('m') -/
end

/-! ### isinstance of an exception -/
section
end

/-! ### e.f -/
/-! # G52: own == and !=; isinstance of own instances; dict.get(key); what holds behind try -/
/-! ### own ==, != -/
section
end
open Classical in
/-- two instances of the class c, by its own __eq__ that changes nothing of ours -/
noncomputable def gOeq (c : Str) (fn : List D → Hs → R D) (hs : Hs) (d e : D) : Option D := match insOf hs d, insOf hs e with
  | some (c1, _), some (c2, _) => if c1 = c ∧ c2 = c then (match fn [d, e] hs with | .ok (.bl b) h' => if h' = hs then some (.bl b) else none | _ => none) else none
  | _, _ => none
section
end

/-! ### isinstance(x, C), x an instance -/
/-! ### d.get(k) -/
/-! ### what holds behind them -/
section
variable {Q : D → Hs → Prop} {X : XQ} {e : Ev} {hs : Hs} {P : Po}
@[reducible] def Po.tr (P : Po) (i : Nat) (T : List (Str × Bool)) (g : FS) : Po := { P with ex := fun c fs e h => match T.lookup c with
    | some true => Ws (g (e.set i (some (.exn c (fs.map (·.1)) (fs.map (·.2))))) h) { nx := fun e h => P.nx (e.set i none) h, rt := P.rt, bk := fun e h => P.bk (e.set i none) h, ct := fun e h => P.ct (e.set i none) h }
    | some false => P.ex c fs e h
    | none => False }
end
theorem Bd.tr {X : Cx} {Wd W : WX} {k : Nat} {pn : List (Addr × Obj)} {xe : Value → Shared → Prop} (B : Bd X Wd k) (tk : Takes (X.tr pn xe) W) (po : PassesOwn (model X.prog X.w) X.A X.env xe) : Bd (X.tr pn xe) W k :=
  ⟨B.calm, B.room, B.gd, tk, po, B.sm⟩
/-! # G53: sorted(dict) of text keys, however many -/
section
end
/-! ### as a function of ours -/
section
end
/-! # G54: text.count, text.split, text.replace (with a token given out ahead) -/
/-! ### count, split -/
section
end
/-! ### one token is out -/
section
end
section
end
section
end
/-! # G55: exceptions of own classes with their own __init__ -/
section
open Builtin Builtin.ObjectAttr PySem.W PySem.HandSPX
end
section
end
section
end
/-! ### the def __init__ -/
theorem upd_upd {H : Hp} {a : Addr} {o p : HO} : upd (upd H a o) a p = upd H a p := by
  funext b
  by_cases h : b = a
  · rw [h, upd_same, upd_same]
  · rw [upd_ne h, upd_ne h, upd_ne h]
section
end
section
end
/-! ### the body of such an __init__ -/
section
end

/-! ### X(e, ..) -/
section
variable {X : Cx} {e : Expr} {es : List Expr} {ta : TA} {p pos : Pos} {bmB : List Value} {B newId initId : String} {x : Str} {C fI : Addr} {k : Nat} {fd : FuncData} {ps fs : List Str} {Wd : WX}
theorem RKs.app {K : PySem.W.Frag} {mu : Mp} {H : Hp} {a b : List (Str × D)} {c d : List (Str × V)} (h : RKs K mu H a c) (g : RKs K mu H b d) : RKs K mu H (a ++ b) (c ++ d) := by
  induction h with
  | nil => exact g
  | cons r t ih => exact .cons r ih
theorem RKs.rev {K : PySem.W.Frag} {mu : Mp} {H : Hp} {a : List (Str × D)} {c : List (Str × V)} (h : RKs K mu H a c) : RKs K mu H a.reverse c.reverse := by
  induction h with
  | nil => exact .nil
  | cons r t ih => rw [List.reverse_cons, List.reverse_cons]; exact ih.app (.cons r .nil)
end
/-! ### short forms for the printer -/
section
end
section
variable {X : Cx} {Wd : WX} {i : Nat} {x : Str} {pos : Pos}
/-- a name's reading, short -/
theorem pv (i : Nat) {x : Str} {pos : Pos} (hN : X.N[i]? = some x := by rfl) (hv : Vis X.env.scope x := by first | exact Or.inl rfl | exact Or.inr (Or.inl rfl) | exact Or.inr (Or.inr rfl)) (hd : (x == ("__debug__" : Str)) = false := by decide)
    (hcd : (x == ("__classdict__" : Str)) = false := by decide) : PE X (.Name x pos) (tVar i) := pe_var hN hv hd hcd
end
/-! # G56: dict(a list of pairs) -/
def mrgG {k : Type} [DecidableEq k] (kvs more : List (k × D)) : List (k × D) := more.foldl (fun acc kv => putG acc kv.1 kv.2) kvs
def mrgV {k : Type} [DecidableEq k] (kvs more : List (k × V)) : List (k × V) := more.foldl (fun acc kv => putK acc kv.1 kv.2) kvs
theorem RKs.mrg {K : PySem.W.Frag} {mu : Mp} {H : Hp} {k : Type} [DecidableEq k] {more : List (k × D)} {moreV : List (k × V)} (h : RKs K mu H more moreV) : ∀ {kvs : List (k × D)} {vs : List (k × V)}, RKs K mu H kvs vs → RKs K mu H (mrgG kvs more) (mrgV vs moreV) := by
  induction h with
  | nil => exact fun q => q
  | cons r t ih => exact fun q => ih (q.put r)
section
end
section
end
/-! # G57: dict(a list of pairs), the keys tuples -/
/-- the pairs, told by their keys' addresses -/
abbrev PTs (K : PySem.W.Frag) (H : Hp) : List Addr → List (List Key × Addr × V) → Prop := Paired fun p x => SqT K H p [.ref x.2.1, x.2.2] ∧ H x.2.1 = some (.tup (x.1.map kV))
section
variable {X : Cx} {pins : List (Addr × Obj)} {σ : L2.St} {H : Hp} {s : Shared}
theorem pairsT_of (I : L2.Inv X pins σ H s) : ∀ {ps : List Addr} {kvs : List (List Key × Addr × V)}, PTs X.K H ps kvs →
    ∃ xs : List (List Key × Addr × Value), Paired (fun (x : List Key × Addr × V) (y : List Key × Addr × Value) => x.1 = y.1 ∧ x.2.1 = y.2.1 ∧ H y.2.1 = some (.tup (x.1.map kV)) ∧ RelV x.2.2 y.2.2) kvs xs ∧ xs.length = ps.length ∧
      ∀ (j : Nat) (y : List Key × Addr × Value), xs[j]? = some y → ∃ b, ps[j]? = some b ∧ IsTup s.heap b #[.ref y.2.1, y.2.2]
  | _, _, .nil => ⟨[], .nil, rfl, fun j q e => by simp at e⟩
  | _, _, .cons (a := p) (b := kv) h t => by
    obtain ⟨xs, r, hl, hp⟩ := pairsT_of I t
    obtain ⟨its, rv, ht, _⟩ := I.tuple h.1
    obtain ⟨u, y, ei, ru, ry⟩ := vals2 rv
    subst ei
    cases (show u = Value.ref kv.2.1 from ru)
    refine ⟨(kv.1, kv.2.1, y) :: xs, .cons ⟨rfl, rfl, h.2, ry⟩ r, by rw [List.length_cons, List.length_cons, hl], fun j q e => ?_⟩
    cases j with
    | zero =>
      have e' : (kv.1, kv.2.1, y) = q := Option.some.inj e
      subst e'
      exact ⟨p, rfl, ht⟩
    | succ j =>
      obtain ⟨b, e1, e2⟩ := hp j q (by simpa using e)
      exact ⟨b, by simpa using e1, e2⟩
theorem KT.all {kvs : List (List Key × Addr × V)} {xs : List (List Key × Addr × Value)} (r : Paired (fun (x : List Key × Addr × V) (y : List Key × Addr × Value) => x.1 = y.1 ∧ x.2.1 = y.2.1 ∧ H y.2.1 = some (.tup (x.1.map kV)) ∧ RelV x.2.2 y.2.2) kvs xs) :
    ∀ {acc : List (List Key × V)} {ys : List (List Key × Addr × Value)}, KT H acc ys → KT H (mrgV acc (kvs.map fun x => (x.1, x.2.2))) (storedAllH ys xs) := by
  induction r with
  | nil => exact fun q => q
  | @cons x y l m h t ih =>
    intro acc ys q
    obtain ⟨h1, h2, h3, h4⟩ := h
    have z := q.put x.1 h3 h4
    rw [h1] at z
    show KT H (mrgV (putK acc x.1 x.2.2) _) (storedAllH (storedH ys y.1 y.2.1 y.2.2) m)
    rw [h1]
    exact ih z
theorem mrgV_len {k : Type} [DecidableEq k] : ∀ (more kvs : List (k × V)), (mrgV kvs more).length ≤ kvs.length + more.length
  | [], kvs => by show kvs.length ≤ kvs.length + 0; omega
  | p :: r, kvs => by
    have h1 := mrgV_len r (putK kvs p.1 p.2)
    have h2 := length_putK kvs p.1 p.2
    show (mrgV (putK kvs p.1 p.2) r).length ≤ _
    rw [List.length_cons]; omega
/-- dict(xs), xs a list of pairs, the keys tuples of numbers and texts -/
theorem call_dictPT (hcalm : X.calm = true) (hu : X.A.units + 3 < cLine) : CallR X (.type "dict") (fun xs H Q => ∃ (a : Addr) (ps : List Addr) (kvs : List (List Key × Addr × V)), xs = [.ref a] ∧ SqL X.K H a (ps.map V.ref) ∧ PTs X.K H ps kvs ∧
    ∀ p od, H p = none → Q (.ref p) (upd H p (.frz od (.dT (mrgV [] (kvs.map fun x => (x.1, x.2.2))))))) := by
  intro pins s σ H xs us Q I r q
  obtain ⟨a, ps, kvs, ex, hq, hp, q⟩ := q
  subst ex
  obtain ⟨u, eu, rx⟩ := vals1 r
  subst eu
  cases rx
  obtain ⟨its, rv, pl, hz⟩ := I.list hq
  have ei := refs_at rv
  subst ei
  rw [List.length_map] at hz
  obtain ⟨ys, rel, hl, hpr⟩ := pairsT_of I hp
  obtain ⟨o, n, ho, hc, hd, hdat⟩ := pl
  have rl : kvs.length = ys.length := Paired.length rel
  have his : ∀ x ∈ ys, (tupleKind (mixKind X.prog X.w)).is s.heap x.1 x.2.1 := by
    have all : ∀ {l : List (List Key × Addr × V)} {m : List (List Key × Addr × Value)}, Paired (fun (x : List Key × Addr × V) (y : List Key × Addr × Value) => x.1 = y.1 ∧ x.2.1 = y.2.1 ∧ H y.2.1 = some (.tup (x.1.map kV)) ∧ RelV x.2.2 y.2.2) l m →
        ∀ x ∈ m, (tupleKind (mixKind X.prog X.w)).is s.heap x.1 x.2.1 := by
      intro l m q
      induction q with
      | nil => intro x hx; exact nomatch hx
      | @cons p q ps qs hq t ih =>
        intro x hx
        rcases List.mem_cons.mp hx with e | hx
        · subst e
          exact key_of I.hok (by rw [← hq.1]; exact hq.2.2.1)
        · exact ih x hx
    exact all rel
  have ok : PlainSeq "list" s.heap a (ps.map Value.ref).toArray ∧ PairItems s.heap (ps.map Value.ref).toArray (fun j => (ps[j]?).getD 0) (ys.map fun y => (Value.ref y.2.1, y.2.2)) := by
    refine ⟨⟨o, n, ho, hc, hd, hdat⟩, by simp [hl], fun j k v e => ?_⟩
    rw [List.getElem?_map] at e
    obtain ⟨y, hy, e2⟩ := Option.map_eq_some_iff.mp e
    cases e2
    obtain ⟨b, e3, e4⟩ := hpr j y hy
    exact ⟨by simp [e3], .inl (by dsimp only; rw [e3]; exact e4)⟩
  refine call_dict_pairsH (knd := tupleKind (mixKind X.prog X.w)) (ps := ys) (PairArg.list a (ps.map Value.ref).toArray (fun j => (ps[j]?).getD 0) (ys.map fun y => (Value.ref y.2.1, y.2.2))) (I.ok.hd hcalm) ?_ ok ⟨by simp, fun i key v e => ?_⟩ (fun h' hk x hx => ?_) (by rw [List.length_map, hl]; exact hz) fun h' tk hd' k => ?_
  · have h2 : X.A.in1.units + 1 < cLine := by show X.A.units + 1 + 1 < cLine; omega
    exact tupleKind_room_in1 h2
  · rw [show PairRel (ys.map fun y => (Value.ref y.2.1, y.2.2)) i key v = ((ys.map fun y => (Value.ref y.2.1, y.2.2))[i]? = some (key, v)) from rfl, List.getElem?_map] at e
    obtain ⟨y, hy, e2⟩ := Option.map_eq_some_iff.mp e
    cases e2
    exact ⟨y.1, y.2.1, hy, rfl⟩
  · refine tupleKind_stays.stays (fun b o vs n e _ => hk b o (Nat.ne_of_lt (Heap.lt_size e)) (by simp) e) (his x hx)
  · have hm : (s.heap.objs.size == sysModules) = false := beq_eq_false_iff_ne.mpr (Nat.ne_of_gt I.big)
    have hlen : (mrgV [] (kvs.map fun x => (x.1, x.2.2))).length ≤ sizeLine := by
      refine Nat.le_trans (mrgV_len _ []) ?_
      rw [List.length_nil, Nat.zero_add, List.length_map, rl, hl]
      exact hz
    have hnone : H s.heap.objs.size = none := I.hok.fresh (Nat.le_refl _)
    obtain ⟨q1, es, ep, hq1, h2, h3, h4, _, h5⟩ := hd'
    have kt : KT H (mrgV [] (kvs.map fun x => (x.1, x.2.2))) (storedAllH [] ys) := KT.all rel .nil
    have J := I.laid (t' := tk) (a := s.heap.objs.size) (o := .dT (mrgV [] (kvs.map fun x => (x.1, x.2.2)))) (fun b o e => k b o (by simp) e) (Nat.le_refl _) (show ObjOk X.prog X.w _ _ _ (.dT _) from ⟨hlen, hm, _, kt.keeps fun c zs ec => (by rw [upd_ne (ne_of_none ec hnone)]; exact ec), q1, es, ep, hq1, h2, h3, h4, h5⟩)
    obtain ⟨od, J2⟩ := J.lock upd_same trivial
    rw [upd_upd] at J2
    exact ⟨.ref s.heap.objs.size, _, J2, rfl, q _ od hnone⟩
end
def pairT : D → Option (List Key × D)
  | .tup [.tup ks, v] => (match keysD ks with | some x => some (x, v) | none => none)
  | _ => none
def pairsT : List D → Option (List (List Key × D))
  | [] => some []
  | d :: ds => match pairT d with | some kv => (match pairsT ds with | some r => some (kv :: r) | none => none) | none => none
def gDictPT (ds : List D) : Option D := match pairsT ds with
  | some kvs => some (.dlt ((mrgG [] kvs).map (·.1)) ((mrgG [] kvs).map (·.2)))
  | none => none
/-- dict(xs), the keys tuples: by value -/
def eDictPT (f : FL) : FE := fun e hs => (f e hs).bind fun ds hs => R.ofO (gDictPT ds) hs
theorem pairsT_at {K : PySem.W.Frag} {mu : Mp} {H : Hp} : ∀ {ds : List D} {vs : List V} {kvs : List (List Key × D)}, RDs K mu H ds vs → pairsT ds = some kvs →
    ∃ (ps : List Addr) (ws : List (List Key × Addr × V)), vs = ps.map V.ref ∧ PTs K H ps ws ∧ RKs K mu H kvs (ws.map fun x => (x.1, x.2.2))
  | _, _, _, .nil, e => by cases e; exact ⟨[], [], rfl, .nil, .nil⟩
  | d :: ds, v :: vs, kvs, .cons r t, e => by
    unfold pairsT at e
    split at e
    · rename_i kv hk
      split at e
      · rename_i rs hr
        cases e
        obtain ⟨ps, ws, e1, e2, e3⟩ := pairsT_at t hr
        unfold pairT at hk
        split at hk
        · rename_i k x
          split at hk
          · rename_i y hy
            cases hk
            cases r with
            | tup hst rr =>
              cases rr with
              | cons ra rb =>
                cases rb with
                | cons rc rd =>
                  cases rd
                  cases ra with
                  | tup hs2 r2 =>
                    have ek := keysD_at r2 hy
                    subst ek
                    subst e1
                    exact ⟨_ :: ps, (y, _, _) :: ws, rfl, .cons ⟨hst.sq, hs2.1⟩ e2, .cons rc e3⟩
          · cases hk
        · cases hk
      · cases e
    · cases e
section
variable {X : Cx} {Wd : WX} {a : Expr} {p pos : Pos} {f : FL}
theorem ue_dictPT (hc : X.calm = true) (hu : X.A.units + 65 < cLine) (hg : L2.Gl X "dict") (hm : X.mg "dict" = none) (ha : UF X Wd a f)
    (hs1 : starEach [a] X.env = [(false, eval a X.env)] := by rfl) : UE X Wd (.Call (.Name "dict" p) [a] [] pos) (eDictPT f) := by
  have hu3 : X.A.units + 3 < cLine := by omega
  refine PE.imp (pe_callTy (call_dictPT hc hu3) hg hm PyProof.Rows.boot_dict (pa_cons ha pa_nil hs1) (by decide) (by decide) hs1 rfl) fun σ H Q h => ?_
  obtain ⟨e, mu, hs, S, E, q⟩ := tG_seq (r := relF X.K X.mg) relD_ok h
  refine ⟨e, mu, hs, S, E, q.imp fun x H1 ⟨e, mu1, hs1, ds, S1, E1, r1, g1⟩ => ?_⟩
  obtain ⟨b, vs, rfl, hb, n1, n2, n3, rr⟩ := r1
  unfold gDictPT at g1
  cases q : pairsT ds with
  | none => rw [q] at g1; exact g1.elim
  | some kvs =>
    rw [q] at g1
    obtain ⟨ps, ws, e1, e2, e3⟩ := pairsT_at rr q
    subst e1
    refine ⟨b, ps, ws, rfl, .inl (.inl hb), e2, fun p od hp => ?_⟩
    have rk : RKs X.K mu1 H1 (mrgG [] kvs) (mrgV [] (ws.map fun x => (x.1, x.2.2))) := e3.mrg .nil
    have l : Lat mu1 H1 mu1 (upd H1 p (.frz od (.dT (mrgV [] (ws.map fun x => (x.1, x.2.2)))))) := .new hp
    have hu : StF mu1 (upd H1 p (.frz od (.dT (mrgV [] (ws.map fun x => (x.1, x.2.2)))))) p (.dT (((mrgG [] kvs).map (·.1)).zip ((mrgV [] (ws.map fun x => (x.1, x.2.2))).map (·.2)))) := by
      refine ⟨⟨od, ?_⟩, S1.fresh hp⟩
      rw [upd_same, rk.fsts, zip_map]
    exact g1 mu1 _ (.ref p) l (S1.new hp) (.dlt hu (by simp) (RDs.agr (l.agr S1) rk.snds))
end
section
variable {e : Ev} {hs : Hs} {X : XQ}
theorem wp_dictPT {f : FL} {Q : D → Hs → Prop} (h : Wp (f e hs) (fun ds h => Wp (R.ofO (gDictPT ds) h) Q X) X) : Wp (eDictPT f e hs) Q X := wp_bind h
end
/-! # G58: for k in d, d locked -/
def iKeysF (f : FE) : FI := fun e hs => (f e hs).bind fun d hs => match d with
  | .dlk ks _ => .ok (nxL (ks.map keyV)) hs
  | .dlt ks _ => .ok (nxL (ks.map tupK)) hs
  | _ => .bad
theorem rd_key {K : PySem.W.Frag} {mu : Mp} {H : Hp} : ∀ k : Key, RD K mu H (keyV k) (kV k)
  | .inl i => .int i
  | .inr s => .str s
theorem rds_keys {K : PySem.W.Frag} {mu : Mp} {H : Hp} : ∀ ks : List Key, RDs K mu H (ks.map keyV) (ks.map kV)
  | [] => .nil
  | k :: ks => .cons (rd_key k) (rds_keys ks)
section
variable {X : Cx} {Wd : WX} {tg a : Expr} {f1 : FE}
theorem ui_keys (ha : UE X Wd a f1) : UI X Wd tg a (iKeysF f1) := by
  refine PI.imp (pi_keys ha) fun σ H Q h => ?_
  obtain ⟨e, mu, hs, S, E, q⟩ := tG_seq (r := relD X.K) relI_ok h
  refine ⟨e, mu, hs, S, E, q.imp fun x H1 ⟨e, mu1, hs1, d, S1, E1, r1, g1⟩ => ?_⟩
  cases r1 with
  | dlk h1 hz h3 =>
    rename_i ks vs ds q0
    obtain ⟨⟨o, ho⟩, n1⟩ := h1
    have hl : (ks.zip vs).length = ks.length := by rw [List.length_zip, ← h3.length, ← hz, Nat.min_self]
    refine ⟨_, o, rfl, .inl ⟨_, ho, g1 mu1 H1 _ .refl S1 ?_⟩⟩
    intro mu' H' hs' l s i
    have k1 := (l.ext _ _ ho n1).1
    refine ⟨fun q => ⟨k1, ?_⟩, fun d q => ?_⟩
    · have q : (ks.map keyV)[i]? = none := Option.some.inj q
      have := List.getElem?_eq_none_iff.mp q
      rw [List.length_map] at this
      omega
    · have q : (ks.map keyV)[i]? = some d := Option.some.inj q
      rw [List.getElem?_map] at q
      obtain ⟨k, hk, rfl⟩ := Option.map_eq_some_iff.mp q
      have hi := (List.getElem?_eq_some_iff.mp hk).1
      refine ⟨⟨k1, by omega⟩, fun x H2 y => ?_⟩
      obtain ⟨rfl, k', v, y, rfl⟩ := y
      have e1 := (List.getElem?_zip_eq_some.mp y).1
      rw [hk] at e1; cases e1
      exact ⟨.refl, s, rd_key _⟩
  | dlt h1 hz h3 =>
    rename_i ks vs ds q0
    obtain ⟨⟨o, ho⟩, n1⟩ := h1
    have hl : (ks.zip vs).length = ks.length := by rw [List.length_zip, ← h3.length, ← hz, Nat.min_self]
    refine ⟨_, o, rfl, .inr ⟨_, ho, g1 mu1 H1 _ .refl S1 ?_⟩⟩
    intro mu' H' hs' l s i
    have k1 := (l.ext _ _ ho n1).1
    refine ⟨fun q => ⟨k1, ?_⟩, fun d q => ?_⟩
    · have q : (ks.map tupK)[i]? = none := Option.some.inj q
      have := List.getElem?_eq_none_iff.mp q
      rw [List.length_map] at this
      omega
    · have q : (ks.map tupK)[i]? = some d := Option.some.inj q
      rw [List.getElem?_map] at q
      obtain ⟨k, hk, rfl⟩ := Option.map_eq_some_iff.mp q
      have hi := (List.getElem?_eq_some_iff.mp hk).1
      refine ⟨⟨k1, by omega⟩, fun x H2 y => ?_⟩
      obtain ⟨rfl, k', v, b, y, rfl, hb⟩ := y
      have e1 := (List.getElem?_zip_eq_some.mp y).1
      rw [hk] at e1; cases e1
      exact ⟨.refl, s, .tup ⟨hb, s.tup_out hb⟩ (rds_keys _)⟩
  | _ => exact g1.elim
end
section
variable {e : Ev} {hs : Hs} {X : XQ}
theorem wp_keysF {f : FE} {Q : Nx → Hs → Prop} (h : Wp (f e hs) (fun d h => (∃ ks ds, d = .dlk ks ds ∧ Q (nxL (ks.map keyV)) h) ∨ ∃ ks ds, d = .dlt ks ds ∧ Q (nxL (ks.map tupK)) h) X) : Wp (iKeysF f e hs) Q X := by
  refine wp_bind (wp_mono h (fun d h' q => ?_) fun _ _ _ x => x)
  rcases q with ⟨ks, ds, rfl, q⟩ | ⟨ks, ds, rfl, q⟩ <;> exact wp_ok q
end
end G

/-! # G59: own == beside other kinds, in lists and tuples (the model's side) -/
namespace G
open PySem PySem.Spec PyProof.Rows
open PySem.SeqAt
open PySem.AutoSeq1 (wpAny_loadPart')
open MeetsSeq MeetsSeq2 MeetsSeq3 SeqRoads2
section
end
section
end
/-! # G60: == and != of other kinds beside an instance: they decline, the own one answers -/
open PySem.SeqAt
open PySem.AutoSeq1 (wpAny_loadPart')
open MeetsSeq MeetsSeq2 MeetsSeq3 SeqRoads2
section
variable {prog : Program} {w : World} {A : Around} {E : Value → Shared → Prop} {s : Shared} {x C dx : Addr} {K : PySem.W.Frag} {R : Result → Shared → Prop}
theorem str_dec (b : Str) (u : Tok) (hx : s.heap.get? x = some (PySem.W.instObj C dx)) (h : R (.ok (.ret .notImplemented)) s) :
    wpAny (model prog w) A.in1 (Builtin.«str.__eq__» ⟨[.str b u, .ref x], []⟩) (GQ.FinOf prog w A R) (fun e s' => R (.error e) s') s := by
  obtain ⟨hp, g, d, tk, os⟩ := s
  unfold PySem.W.instObj at hx
  wp_walk using wpAny_loadPart' hx, wpAny_load hx
  exact h
theorem str_ndec (b : Str) (u : Tok) (hx : s.heap.get? x = some (PySem.W.instObj C dx)) (h : R (.ok (.ret .notImplemented)) s) :
    wpAny (model prog w) A.in1 (Builtin.«str.__ne__» ⟨[.str b u, .ref x], []⟩) (GQ.FinOf prog w A R) (fun e s' => R (.error e) s') s := by
  obtain ⟨hp, g, d, tk, os⟩ := s
  unfold PySem.W.instObj at hx
  wp_walk using wpAny_loadPart' hx, wpAny_load hx
  exact h
end
/-- what == asks of a class beside other kinds -/
structure OthK (K : PySem.W.Frag) (C : Addr) : Prop where
  a1 : PySem.W.subIn K (.ref C) (.type "NoneType") = some false
  a2 : PySem.W.subIn K (.ref C) (.type "bool") = some false
  a3 : PySem.W.subIn K (.ref C) (.type "int") = some false
  a4 : PySem.W.subIn K (.ref C) (.type "str") = some false
  a5 : PySem.W.subIn K (.ref C) (.type "list") = some false
  a6 : PySem.W.subIn K (.ref C) (.type "tuple") = some false
  a7 : PySem.W.subIn K (.ref C) (.type "dict") = some false
  b1 : PySem.W.subIn K (.type "NoneType") (.ref C) = some false
  b2 : PySem.W.subIn K (.type "bool") (.ref C) = some false
  b3 : PySem.W.subIn K (.type "int") (.ref C) = some false
  b4 : PySem.W.subIn K (.type "str") (.ref C) = some false
  b5 : PySem.W.subIn K (.type "list") (.ref C) = some false
  b6 : PySem.W.subIn K (.type "tuple") (.ref C) = some false
  b7 : PySem.W.subIn K (.type "dict") (.ref C) = some false
/-- a value whose == and != decline beside an instance -/
structure Dec (prog : Program) (w : World) (K : PySem.W.Frag) (C : Addr) (s : Shared) (u : Value) (T : String) : Prop where
  ty : s.TypeIs u T
  fst : PySem.W.notFirst K C (.type T) = true
  sub : PySem.W.subIn K (.ref C) (.type T) = some false
  eq : ∀ (A : Around) (E : Value → Shared → Prop) (x dx : Addr) (Q : Option Value → Shared → Prop), s.heap.get? x = some (PySem.W.instObj C dx) → Q none s → wpAny (model prog w) A (tryCompare u "__eq__" (.ref x)) Q E s
  ne : ∀ (A : Around) (E : Value → Shared → Prop) (x dx : Addr) (Q : Option Value → Shared → Prop), s.heap.get? x = some (PySem.W.instObj C dx) → Q none s → wpAny (model prog w) A (tryCompare u "__ne__" (.ref x)) Q E s
section
variable {prog : Program} {w : World} {s : Shared} {C : Addr} {K : PySem.W.Frag}
theorem nf_of {K : PySem.W.Frag} {C : Addr} {T : String} (h : PySem.W.subIn K (.type T) (.ref C) = some false) : PySem.W.notFirst K C (.type T) = true := by
  unfold PySem.W.notFirst
  rw [h]
  simp
theorem dec_str (O : OthK K C) (b : Str) (u : Tok) : Dec prog w K C s (.str b u) "str" where
  ty := typeIs_str s b u
  fst := nf_of O.b4
  sub := O.a4
  eq := fun A E x dx Q hx q => wpAny_tryCompare_declines (typeIs_str s b u) F.slot_str_eq (GQ.call_here F.slot_str_eq (typeIs_str s b u) F.entry_str_eq (F.args_str_eq_2 _ _) (str_dec (R := wants (fun v s' => v = .notImplemented ∧ Q none s') E) b u hx ⟨rfl, q⟩))
  ne := fun A E x dx Q hx q => wpAny_tryCompare_declines (typeIs_str s b u) F.slot_str_ne (GQ.call_here F.slot_str_ne (typeIs_str s b u) F.entry_str_ne (F.args_str_ne_2 _ _) (str_ndec (R := wants (fun v s' => v = .notImplemented ∧ Q none s') E) b u hx ⟨rfl, q⟩))
end
section
end
end G

/-! # G61: == and != by an own __eq__, beside other kinds, in lists and tuples -/
namespace G
open PySem PySem.Spec PyProof.Rows L2
/-! ### what is surely not the same object -/
section
end
/-! ### what == answers -/
section
section
end
/-! ### plain data -/
/-! ### lists, tuples -/
section
end
end
/-! # G62: ==, != and in by an own __eq__: the rules -/
section
section
end
end
/-! # G63: isinstance(x, Own) of anything; what == by an own __eq__ answers -/
section
end
/-! ### answers -/
section
end
end G

/-! # G64: walks over a list of ours that stands still, its last item, its parts -/
namespace G
open PySem PySem.Spec L2
section
variable {h : Hs} {Q : D → Hs → Prop} {X : XQ} {e : Ev} {hs : Hs} {P : Po}
theorem it_ref {H : Hs} {n : Nat} {ds : List D} (e : H[n]? = some (.lst ds)) : itOf H (.ref n) = some (nxR n) := by
  show (match H[n]? with | some (.lst _) => some (nxR n) | _ => none) = _
  rw [e]
theorem ix_last {N : Nat} {as : List D} (e : h[N]? = some (.lst as)) (l : 0 < as.length) : gIx h (.ref N) (.int (-1)) = some (as[as.length - 1]'(by omega)) := by
  refine ix_ref e ?_
  unfold L2.atI L2.ixN
  rw [if_neg (by decide), if_pos (by omega)]
  have : ((-1 : Int) + as.length).toNat = as.length - 1 := by omega
  rw [this]
  exact List.getElem?_eq_getElem _
end
end G

/-! # G65: {k: v, ..} with keys numbers and texts, by value and as a thing of ours -/
namespace G
open PySem PySem.Spec PyProof.Rows L2
section
end
def relP (K : PySem.W.Frag) : Rel (List (D × D)) (List (V × V)) := fun _ mu _ H ds vs => RDs K mu H (ds.map (·.1)) (vs.map (·.1)) ∧ RDs K mu H (ds.map (·.2)) (vs.map (·.2)) ∧ ds.length = vs.length
theorem relP_ok {K : PySem.W.Frag} : (relP K).Ok := fun _ _ _ _ _ _ _ _ _ _ _ h => h
abbrev FPs := Ev → Hs → R (List (D × D))
def pNil : FPs := fun _ hs => .ok [] hs
def pCons (fk fv : FE) (g : FPs) : FPs := fun e hs => (fk e hs).bind fun k hs => (fv e hs).bind fun v hs => (g e hs).bind fun l hs => .ok ((k, v) :: l) hs
def dispD (l : List (D × D)) : Option (List (Key × D)) := match keysD (l.map (·.1)) with
  | some ks => if l.length ≤ 15 then some (mrgG [] (ks.zip (l.map (·.2)))) else none
  | none => none
/-- by value -/
def eDisp (g : FPs) : FE := fun e hs => (g e hs).bind fun l hs => match dispD l with
  | some m => .ok (.dct (m.map (·.1)) (m.map (·.2))) hs
  | none => .bad
def UPs (X : Cx) (Wd : WX) (pos : Pos) (keys : List (Option Expr)) (values : List Expr) (g : FPs) : Prop :=
  ∃ trs, PPs X pos keys values trs ∧ ∀ σ H Q, tG (relP X.K) X.K X.mg Wd g σ H Q → tPairs trs σ H Q
section
variable {X : Cx} {Wd : WX} {pos : Pos} {keys : List (Option Expr)} {values : List Expr} {g : FPs}
theorem ups_nil : UPs X Wd pos [] [] pNil := ⟨[], pps_nil, fun σ H Q h => by
  obtain ⟨e, mu, hs, S, E, q⟩ := h
  exact q mu H [] .refl S ⟨.nil, .nil, rfl⟩⟩
theorem ups_cons {k v : Expr} {fk fv : FE} (hk : UE X Wd k fk) (hv : UE X Wd v fv) (hr : UPs X Wd pos keys values g) : UPs X Wd pos (some k :: keys) (v :: values) (pCons fk fv g) := by
  obtain ⟨trs, P, i⟩ := hr
  refine ⟨_, pps_cons hk hv P, fun σ H Q h => ?_⟩
  obtain ⟨e, mu, hs, S, E, q⟩ := tG_seq (r := relD X.K) relP_ok h
  refine ⟨e, mu, hs, S, E, q.imp fun x H1 ⟨e, mu1, hs1, d, S1, E1, r1, g1⟩ => ?_⟩
  obtain ⟨e2, mu2, hs2, S2, E2, q2⟩ := tG_seq (r := relD X.K) (a' := List (D × D)) (b' := List (V × V)) relP_ok (f := fun e' hs' => fv e' hs') (k := fun e' v hs' => (g e' hs').bind fun l hs => .ok ((d, v) :: l) hs) (K := X.K) (mg := X.mg) (Wd := Wd) (σ := σ) (H := H1) (Q := Q) ⟨e, mu1, hs1, S1, E1, g1⟩
  refine ⟨e, mu1, hs1, S1, E1, (Gd.bind (r := relD X.K) relP_ok g1).imp fun y H2 ⟨mu2, hs2, d2, l2, S2, r2, g2⟩ => ?_⟩
  refine i σ H2 _ ⟨e, mu2, hs2, S2, E1.agr (l2.agr S1), (Gd.bind (r := relP X.K) relP_ok g2).imp fun ps H3 ⟨mu3, hs3, ds, l3, S3, ⟨r31, r32, r33⟩, g3⟩ => ?_⟩
  exact g3 mu3 H3 _ .refl S3 ⟨.cons (RD.agr (l3.agr S2) (RD.agr (l2.agr S1) r1)) r31, .cons (RD.agr (l3.agr S2) r2) r32, by rw [List.length_cons, List.length_cons, r33]⟩
theorem zip_self : ∀ {k a : Type} (l : List (k × a)), (l.map (·.1)).zip (l.map (·.2)) = l
  | _, _, [] => rfl
  | _, _, p :: l => by rw [List.map_cons, List.map_cons, List.zip_cons_cons, zip_self l]
theorem keysD_len : ∀ {ds : List D} {ks : List Key}, keysD ds = some ks → ks.length = ds.length
  | [], _, h => by cases h; rfl
  | d :: ds, ks, h => by
    unfold keysD at h
    split at h
    · split at h
      · rename_i k _ ks' h2
        cases h
        rw [List.length_cons, List.length_cons, keysD_len h2]
      · cases h
    · cases h
/-- what the display holds -/
theorem disp_at {mu : Mp} {H : Hp} {l : List (D × D)} {ps : List (V × V)} {m : List (Key × D)} (r : relP X.K H mu [] H l ps) (h : dispD l = some m) :
    ∃ kvs : List (Key × V), ps = kvs.map (fun kv => (kV kv.1, kv.2)) ∧ kvs.length ≤ 15 ∧ RKs X.K mu H m (mrgV [] kvs) := by
  obtain ⟨r1, r2, r3⟩ := r
  unfold dispD at h
  split at h
  · rename_i ks hk
    split at h
    · rename_i hl
      cases h
      have e1 := keysD_at r1 hk
      have lk := keysD_len hk
      rw [List.length_map] at lk
      have lv : ks.length = (ps.map (·.2)).length := by rw [List.length_map, lk, r3]
      refine ⟨ks.zip (ps.map (·.2)), ?_, by rw [List.length_zip, lk]; omega, (RKs.zip r2).mrg .nil⟩
      rw [← zip_self ps, e1]
      clear e1 r1 r2 hk hl lk r3
      induction ks generalizing ps with
      | nil => simp
      | cons k ks ih =>
        cases ps with
        | nil => simp at lv
        | cons p ps =>
          simp only [List.map_cons, List.zip_cons_cons, List.cons.injEq, true_and]
          have := ih (ps := ps) (by simpa using lv)
          simpa [zip_self] using this
    · cases h
  · cases h
theorem ue_disp (h : UPs X Wd pos keys values g) (hall : keys.all (·.isSome) = true := by rfl) (hl : keys.length = values.length := by rfl) (h0 : keys ≠ [] := by exact List.cons_ne_nil _ _) (h15 : keys.length ≤ 15 := by exact Nat.le_of_ble_eq_true rfl) : UE X Wd (.Dict keys values pos) (eDisp g) := by
  obtain ⟨trs, P, i⟩ := h
  refine PE.imp (pe_disp P hall hl h0 h15) fun σ H Q h p hp => ?_
  obtain ⟨e, mu, hs, S, E, q⟩ := h
  have l0 : Lat mu H mu (upd H p (.dK [])) := .new hp
  refine i σ _ _ ⟨e, mu, hs, S.new hp, E.agr (l0.agr S), ?_⟩
  unfold eDisp at q
  cases z : g e hs with
  | bad => rw [z] at q; exact q
  | exc c fs hs' => rw [z] at q; exact fun mu' H' cls dx l s rr => q mu' H' cls dx (l0.trans l) s rr
  | ok l hs' =>
    rw [z] at q
    intro mu1 H1 ps l1 S1 r1
    have q : Gd (relD X.K) X.K X.mg Wd σ mu H Q (match dispD l with | some m => .ok (.dct (m.map (·.1)) (m.map (·.2))) hs' | none => .bad) := q
    cases y : dispD l with
    | none => rw [y] at q; exact q.elim
    | some m =>
      rw [y] at q
      obtain ⟨e1, n1, z1⟩ := l1.ext p _ upd_same (S.fresh hp)
      have nz : ¬ mu1.fz p := fun z => S.freshz hp (z1 z)
      have ni : ¬ Imm (.dK []) := fun z => z
      obtain ⟨kvs, ek, lk, rk⟩ := disp_at (X := X) r1 y
      refine ⟨e1, kvs, ek, lk, ?_⟩
      have S2 := S1.privI (o := .dK (mrgV [] kvs)) e1 ni n1 nz
      have hz : upd H1 p (.dK (mrgV [] kvs)) p = some (.dK ((m.map (·.1)).zip ((mrgV [] kvs).map (·.2)))) := by rw [upd_same, rk.fsts, zip_map]
      refine q (mu1.still p) _ (.ref p) ⟨l1.pre, fun a z => .inr (l1.sub a z), fun b o hb nb => ?_, fun b o v hb => by have hbp : b ≠ p := ne_of_none hb hp; show upd H1 p _ b = _; rw [upd_ne hbp]; exact l1.frz b o v (by rw [upd_ne hbp]; exact hb)⟩ (S2.still upd_same n1) (show RD X.K (mu1.still p) _ (.dct (m.map (·.1)) (m.map (·.2))) (.ref p) from .dct hz (.inl rfl) (by simp) (RDs.agr .still (RDs.agr (.privI e1 ni nz) rk.snds)))
      have hbp : b ≠ p := ne_of_none hb hp
      obtain ⟨a1, a2, a3⟩ := l1.ext b o (by rw [upd_ne hbp]; exact hb) nb
      exact ⟨by show upd H1 p _ b = _; rw [upd_ne hbp]; exact a1, a2, fun z => z.elim (fun e => absurd e hbp) a3⟩
end
section
variable {e : Ev} {hs : Hs} {X : XQ}
theorem wp_pNil {Q : List (D × D) → Hs → Prop} (h : Q [] hs) : Wp (pNil e hs) Q X := wp_ok h
theorem wp_pCons {fk fv : FE} {g : FPs} {Q : List (D × D) → Hs → Prop} (h : Wp (fk e hs) (fun k h => Wp (fv e h) (fun v h => Wp (g e h) (fun l h => Q ((k, v) :: l) h) X) X) X) : Wp (pCons fk fv g e hs) Q X :=
  wp_bind (wp_mono h (fun _ _ q => wp_bind (wp_mono q (fun _ _ q => wp_bind (wp_mono q (fun _ _ q => wp_ok q) fun _ _ _ x => x)) fun _ _ _ x => x)) fun _ _ _ x => x)
theorem wp_disp {g : FPs} {Q : D → Hs → Prop} (h : Wp (g e hs) (fun l h => ∃ m, dispD l = some m ∧ Q (.dct (m.map (·.1)) (m.map (·.2))) h) X) : Wp (eDisp g e hs) Q X := by
  refine wp_bind (wp_mono h (fun l h' q => ?_) fun _ _ _ x => x)
  obtain ⟨m, z, q⟩ := q
  rw [z]
  exact wp_ok q
end
/-! # G66: the truth of an instance by its own __len__; bool(x) -/
section
end
section
end
end G

/-! # G67: == of numbers, texts and tuples of these is being the same -/
namespace G
open PySem PySem.Spec L2
mutual
/-- numbers, texts, tuples of these -/
def pt : D → Bool
  | .int _ => true
  | .str _ => true
  | .tup ds => pts ds
  | _ => false
def pts : List D → Bool
  | [] => true
  | d :: ds => pt d && pts ds
end
section
end
open Classical in
/-- whether they are the same -/
noncomputable def sameD (d e : D) : Bool := decide (d = e)
end G

/-! # G68: not x of an instance by its own __len__; more rules of what holds -/
namespace G
open PySem PySem.Spec PyProof.Rows L2
section
end
section
variable {e : Ev} {hs : Hs} {X : XQ} {h : Hs} {P : Po}
/-- a statement that only goes on -/
theorem ws_cut {f g : FS} (R : Ev → Hs → Prop) (h1 : Ws (f e hs) { nx := R }) (h2 : ∀ e h, R e h → Ws (g e h) P) : Ws (sSeq f g e hs) P :=
  ws_seq (ws_mono h1 h2 (fun _ _ h => h.elim) (fun _ _ h => h.elim) (fun _ _ h => h.elim) (fun _ _ _ _ h => h.elim))
end
/-! # G69: xs.pop(i), xs.extend(ys) -/
theorem RDs.erase {K : PySem.W.Frag} {mu : Mp} {H : Hp} : ∀ {ds : List D} {vs : List V} (i : Nat), RDs K mu H ds vs → RDs K mu H (ds.eraseIdx i) (vs.eraseIdx i)
  | _, _, _, .nil => .nil
  | _, _, 0, .cons _ t => t
  | _, _, i + 1, .cons r t => .cons r (RDs.erase i t)
section
variable {X : Cx}
def mExtend (hs : Hs) (d : D) (ds : List D) : Option (D × Hs) := match ds with
  | [y] => (match refOf hs d with
    | some (n, xs) => (match lstOf hs y with | some ys => if xs.length + ys.length ≤ sizeLine then some (.non, hs.set n (.lst (xs ++ ys))) else none | none => none)
    | none => none)
  | _ => none
theorem mg_extend : MtR X "list.extend" (rMd X.K X.mg mExtend) := by
  rintro pins s σ H x xs v us Q I rx rxs ⟨mu, hs, d, ds, w, hs', S, r1, r2, hg, q⟩
  unfold mExtend at hg
  split at hg
  · rename_i y
    split at hg
    · rename_i n xs hx
      split at hg
      · rename_i ys hy
        split at hg
        · rename_i hz
          cases hg
          cases r2 with
          | cons r3 r4 =>
            cases r4
            obtain ⟨a, vs, rfl, h1, h2, h3⟩ := refOf_at S r1 hx
            obtain ⟨b, us', rfl, g2, g3⟩ := lstOf_at S r3 hy
            refine mt_extend pins s σ H _ _ v us Q I rx rxs ⟨a, b, vs, us', rfl, rfl, h2, g2, by rw [← h3.length, ← g3.length]; exact hz, ?_⟩
            exact q mu _ _ (.write h1 (nfL h2)) (S.write h1 (h3.append g3)) .non
        · cases hg
      · cases hg
    · cases hg
  · cases hg
end
section
variable {h : Hs} {n : Nat} {ds es : List D} {i : Int} {d y : D}
theorem ext_ref (e : h[n]? = some (.lst ds)) (q : lstOf h y = some es) (l : ds.length + es.length ≤ 100000) : mExtend h (.ref n) [y] = some (.non, h.set n (.lst (ds ++ es))) := by
  unfold mExtend refOf
  dsimp only
  rw [e]
  dsimp only
  rw [q]
  dsimp only
  rw [if_pos (by rw [sizeLine_eq]; omega)]
end
end G

/-! # G70: tuples in lists of plain data; changes of things that stand -/
namespace G
open PySem PySem.Spec L2
section
end
end G

/-! # G71: exceptions made by keywords -/
namespace PySem.HandSPX
open PySem PySem.Spec PyProof.Rows
section
end
section
end
end PySem.HandSPX
namespace G
open PySem PySem.Spec PyProof.Rows L2
section
end
section
end
/-! ### how to walk them -/
section
end
/-! # G72: functions that may run while a repr is under way; repr of a tuple in which own instances stand -/
section
end
section
end
section
end
section
/-! ### a tuple's repr -/
end
/-! # G73: min, max of a list of numbers -/
def minI : List Int → Int
  | [] => 0
  | [x] => x
  | x :: y :: r => let m := minI (y :: r); if m < x then m else x
def maxI : List Int → Int
  | [] => 0
  | [x] => x
  | x :: y :: r => let m := maxI (y :: r); if x < m then m else x
theorem minI_mem : ∀ {ns : List Int}, ns ≠ [] → minI ns ∈ ns
  | [], h => absurd rfl h
  | [x], _ => List.mem_singleton.mpr rfl
  | x :: y :: r, _ => by
    show (if minI (y :: r) < x then minI (y :: r) else x) ∈ _
    split
    · exact List.mem_cons_of_mem _ (minI_mem (List.cons_ne_nil _ _))
    · exact List.mem_cons_self
theorem minI_le : ∀ {ns : List Int} {n : Int}, n ∈ ns → minI ns ≤ n
  | [x], n, h => by rw [List.mem_singleton.mp h]; exact Int.le_refl _
  | x :: y :: r, n, h => by
    show (if minI (y :: r) < x then minI (y :: r) else x) ≤ n
    rcases List.mem_cons.mp h with rfl | h
    · split <;> omega
    · have := minI_le h
      split <;> omega
theorem maxI_mem : ∀ {ns : List Int}, ns ≠ [] → maxI ns ∈ ns
  | [], h => absurd rfl h
  | [x], _ => List.mem_singleton.mpr rfl
  | x :: y :: r, _ => by
    show (if x < maxI (y :: r) then maxI (y :: r) else x) ∈ _
    split
    · exact List.mem_cons_of_mem _ (maxI_mem (List.cons_ne_nil _ _))
    · exact List.mem_cons_self
theorem maxI_ge : ∀ {ns : List Int} {n : Int}, n ∈ ns → n ≤ maxI ns
  | [x], n, h => by rw [List.mem_singleton.mp h]; exact Int.le_refl _
  | x :: y :: r, n, h => by
    show n ≤ (if x < maxI (y :: r) then maxI (y :: r) else x)
    rcases List.mem_cons.mp h with rfl | h
    · split <;> omega
    · have := maxI_ge h
      split <;> omega
def gMinL (hs : Hs) (ds : List D) : Option D := match ds with
  | [d] => (match rdOf hs d with | some xs => (match intsOf xs with | some (n :: ns) => some (.int (minI (n :: ns))) | _ => none) | none => none)
  | _ => none
def gMaxL (hs : Hs) (ds : List D) : Option D := match ds with
  | [d] => (match rdOf hs d with | some xs => (match intsOf xs with | some (n :: ns) => some (.int (maxI (n :: ns))) | _ => none) | none => none)
  | _ => none
section
variable {X : Cx}
theorem cg_minL (hc : X.calm = true) : CallR X (.builtin "min") (rC X.K X.mg gMinL) := by
  rintro pins s σ H xs us Q I r ⟨mu, hs, ds, w, S, rs, hg, q⟩
  unfold gMinL at hg
  split at hg
  · split at hg
    · rename_i ds hds
      split at hg
      · rename_i n ns hns
        cases hg
        cases rs with
        | cons r1 r2 =>
          cases r2
          obtain ⟨p, vs, rfl, h1, h2⟩ := rdOf_at S r1 hds
          rw [intsOf_eq hns] at h2
          rw [h2.of_ints] at h1
          refine cr_min hc pins s σ H _ us Q I r ⟨p, n :: ns, rfl, h1, Nat.succ_pos _, fun m h3 h4 => ?_⟩
          have e : m = minI (n :: ns) := by
            have a := h4 _ (minI_mem (List.cons_ne_nil n ns))
            have b := minI_le h3
            omega
          rw [e]
          exact fin0 S q (.int _)
      · cases hg
    · cases hg
  · cases hg
theorem cg_maxL (hc : X.calm = true) : CallR X (.builtin "max") (rC X.K X.mg gMaxL) := by
  rintro pins s σ H xs us Q I r ⟨mu, hs, ds, w, S, rs, hg, q⟩
  unfold gMaxL at hg
  split at hg
  · split at hg
    · rename_i ds hds
      split at hg
      · rename_i n ns hns
        cases hg
        cases rs with
        | cons r1 r2 =>
          cases r2
          obtain ⟨p, vs, rfl, h1, h2⟩ := rdOf_at S r1 hds
          rw [intsOf_eq hns] at h2
          rw [h2.of_ints] at h1
          refine cr_max hc pins s σ H _ us Q I r ⟨p, n :: ns, rfl, h1, Nat.succ_pos _, fun m h3 h4 => ?_⟩
          have e : m = maxI (n :: ns) := by
            have a := h4 _ (maxI_mem (List.cons_ne_nil n ns))
            have b := maxI_ge h3
            omega
          rw [e]
          exact fin0 S q (.int _)
      · cases hg
    · cases hg
  · cases hg
end
section
variable {h : Hs} {ds : List D} {ns : List Int} {n : Int}
theorem min_l : gMinL h [.lst ((n :: ns).map D.int)] = some (.int (minI (n :: ns))) := by
  show (match intsOf ((n :: ns).map D.int) with | some (n :: ns) => some (D.int (minI (n :: ns))) | _ => none) = _
  rw [intsOf_map]
end
/-! # G74: zip of a tuple and a list -/
/-- an iterator at its end, or behind it -/
theorem draws_endT {prog : Program} {w : World} {A : Around} (hh : A.handled = none) (it t : Addr) (items : Array Value) {i : Nat} (hx : items[i]? = none) :
    Draws prog w A it [it, t] i (fun _ _ => False) (fun j h => j = i ∧ h.IsTupleIter it t i ∧ h.IsTuple t items) where
  live := fun _ _ st => let ⟨o, ho, _⟩ := st.2.1; ⟨o, ho⟩
  frame := fun _ _ _ st hk => ⟨st.1, st.2.1.at fun o e => hk it (by simp) o e, st.2.2.at fun o e => hk t (by simp) o e⟩
  item := fun j s Q E hi st hQ => absurd st.1 (by omega)
  done := fun s Q E st hE => wpAny_nextOf_tuple_end hh st.2.1 st.2.2 hx hE
theorem draws_endL {prog : Program} {w : World} {A : Around} (hh : A.handled = none) (it t : Addr) (items : Array Value) {i : Nat} (hx : items[i]? = none) :
    Draws prog w A it [it, t] i (fun _ _ => False) (fun j h => j = i ∧ h.IsListIter it t i ∧ h.IsList t items) where
  live := fun _ _ st => let ⟨o, ho, _⟩ := st.2.1; ⟨o, ho⟩
  frame := fun _ _ _ st hk => ⟨st.1, st.2.1.at fun o e => hk it (by simp) o e, st.2.2.at fun o e => hk t (by simp) o e⟩
  item := fun j s Q E hi st hQ => absurd st.1 (by omega)
  done := fun s Q E st hE => wpAny_nextOf_list_end hh st.2.1 st.2.2 hx hE
theorem sep_of {z TI TO i1 i2 a b : Addr} (D : ZipApart z TI TO i1 i2 a b) : ZipSep2 z TI TO i1 i2 [i1, a] [i2, b] where
  TIz := D.TIz
  TOz := D.TOz
  TITO := D.TITO
  TIi1 := D.TIi1
  mem1 := by simp
  zf1 := by simp [D.i1z.symm, D.l1z.symm]
  Tf1 := by simp [D.TOi1, D.l1TO.symm]
  TIi2 := D.TIi2
  mem2 := by simp
  zf2 := by simp [D.i2z.symm, D.l2z.symm]
  Tf2 := by simp [D.TOi2, D.l2TO.symm]
  sep1_2 := by simp [D.i12, D.l2i1.symm]
  sep2_1 := by simp [D.i12.symm, D.l1i2.symm]
/-- a comprehension within a comprehension -/
theorem relabel_look {names : List (Str × NameKind)} {p : Str → NameKind → Bool} {x : Str} {k : NameKind} (h : names.lookup x = some k) :
    (names.map fun (n, k) => if p n k = true then (n, NameKind.cell) else (n, k)).lookup x = some (if p x k = true then .cell else k) := by
  induction names with
  | nil => cases h
  | cons y r ih =>
    obtain ⟨n, k'⟩ := y
    rw [List.lookup_cons] at h
    rw [List.map_cons]
    dsimp only
    by_cases e : x = n
    · subst e
      rw [beq_self_eq_true] at h
      cases h
      by_cases c : p x k = true
      · rw [if_pos c, if_pos c, List.lookup_cons, beq_self_eq_true]
      · rw [if_neg c, if_neg c, List.lookup_cons, beq_self_eq_true]
    · rw [show (x == n) = false from beq_false_of_ne e] at h
      have ih := ih h
      by_cases c : p n k' = true
      · rw [if_pos c, List.lookup_cons, show (x == n) = false from beq_false_of_ne e]; exact ih
      · rw [if_neg c, List.lookup_cons, show (x == n) = false from beq_false_of_ne e]; exact ih
theorem blkOk_n {N : List Str} {s1 scope : Scope} {env : Env} {own : List (Str × Nat)} (h : blkC N s1 scope own = true) : BlkOk N (relabel s1 env) scope own := by
  have b := blkOk_by h
  refine ⟨b.kind, b.uniq, b.ix, fun y hy e => ?_, b.own⟩
  have key : ∀ k, s1.names.lookup y.1 = some k → (k = .cell ∨ k = .free) → (relabel s1 env).names.lookup y.1 = some .cell ∨ (relabel s1 env).names.lookup y.1 = some .free := fun k hk hc => by
    have := relabel_look (p := fun n k => (k == NameKind.free && env.scope.kind == .function && env.kindOf n == some .cell)) hk
    unfold relabel
    rw [this]
    split
    · exact .inl rfl
    · rcases hc with rfl | rfl
      · exact .inl rfl
      · exact .inr rfl
  rcases b.free y hy e with q | q
  · exact key _ q (.inl rfl)
  · exact key _ q (.inr rfl)
/-! # G75: sum of a tuple of numbers -/
/-! # G76: dicts of ours: locked, walked, listed, sorted, counted, put into one another -/
/-! ### locked from now on -/
section
/-! ### for v in d.values() -/
end
section
end
/-! ### dict(xs) as a thing of ours -/
section
end
section
end
/-! ### dicts read -/
section
end
/-! ### sorted(d), whole numbers as keys -/
theorem ints_of_vals : ∀ {ns : List Int} {us : List Value}, Vals (ns.map V.int) us → IntsAre us ns
  | [], _, .nil => .nil
  | _ :: _, _, .cons r t => by obtain ⟨t1, rfl⟩ := r; exact .cons _ _ (ints_of_vals t)
/-! ### len(d) -/
/-! ### d.update(e) -/
/-! # G77: sorted of a list of any data that may be compared (pairs of tuples ..) -/
section
end
section
end
/-! # Steps as instances: what comes next of a goal is found by its head -/
/-- p holds if q does -/
class Stp (p : Prop) (q : outParam Prop) : Prop where
  go : q → p
class Run (p : Prop) (q : outParam Prop) : Prop where
  go : q → p
class Rnn (p : Prop) (q : outParam Prop) : Prop where
  go : q → p
instance (priority := low) rnn_end {p : Prop} : Rnn p p := ⟨id⟩
instance rnn_go {p q : Prop} [s : Run p q] : Rnn p q := ⟨s.go⟩
instance run_go {p q r : Prop} [s : Stp p q] [t : Rnn q r] : Run p r := ⟨fun z => s.go (t.go z)⟩
/-- o is some x -/
class Evt {a : Type} (o : Option a) (x : outParam a) : Prop where
  is : o = some x
class Nth (e : Ev) (i : Nat) (d : outParam D) : Prop where
  is : e[i]? = some (some d)
instance nth_0 {d : D} {e : Ev} : Nth (some d :: e) 0 d := ⟨rfl⟩
instance nth_s {d : D} {o : Option D} {e : Ev} {i : Nat} [n : Nth e i d] : Nth (o :: e) (i + 1) d := ⟨n.is⟩
class SetE (e : Ev) (i : Nat) (f : outParam (Option D → Ev)) : Prop where
  is : ∀ x, e.set i x = f x
instance setE_0 {o : Option D} {e : Ev} : SetE (o :: e) 0 (fun x => x :: e) := ⟨fun _ => rfl⟩
instance setE_s {o : Option D} {e : Ev} {i : Nat} {f : Option D → Ev} [n : SetE e i f] : SetE (o :: e) (i + 1) (fun x => o :: f x) := ⟨fun x => by show o :: e.set i x = _; rw [n.is]⟩
class Nts (gs : FGs) (ds : List D) (e : Ev) (e' : outParam Ev) : Prop where
  is : gs ds e = some e'
instance nts_nil {e : Ev} : Nts nNil [] e e := ⟨rfl⟩
instance nts_cons {g : FG} {gs : FGs} {d : D} {ds : List D} {e e1 e2 : Ev} [s : Evt (g d e) e1] [t : Nts gs ds e1 e2] : Nts (nCons g gs) (d :: ds) e e2 := ⟨by unfold nCons; dsimp only; rw [s.is]; exact t.is⟩
class Lng {t : Type} (l : List t) (n : Nat) : Prop where
  is : l.length = n
instance lng_0 {t : Type} : Lng ([] : List t) 0 := ⟨rfl⟩
instance lng_s {t : Type} {x : t} {l : List t} {n : Nat} [s : Lng l n] : Lng (x :: l) (n + 1) := ⟨by rw [List.length_cons, s.is]⟩
section
variable {a b : Type} {Q : D → Hs → Prop} {X : XQ} {e e1 e2 : Ev} {hs h : Hs} {c m f : Str} {fn : List D → Hs → R D} {is : List Nat} {dds : List D} {fo fv : FE} {fa fk : FA} {P : Po} {x y z s g : D} {xs ds es : List D} {i j : Int} {p q : Bool} {d : D} {ks : List Key} {u : Tn}
instance evt_set {n : Nat} {t : Option D → Ev} [s : SetE e n t] : Evt (nSet n d e) (t (some d)) := ⟨by unfold nSet; rw [s.is]⟩
instance evt_tup {n : Nat} {gs : FGs} [l : Lng ds n] [s : Nts gs ds e e1] : Evt (nTup n gs (.tup ds) e) e1 := ⟨by unfold nTup; dsimp only; rw [if_pos l.is]; exact s.is⟩
instance evt_lst {n : Nat} {gs : FGs} [l : Lng ds n] [s : Nts gs ds e e1] : Evt (nTup n gs (.lst ds) e) e1 := ⟨by unfold nTup; dsimp only; rw [if_pos l.is]; exact s.is⟩
instance evt_itT : Evt (itOf h (.tup ds)) (nxL ds) := ⟨rfl⟩
instance evt_itL : Evt (itOf h (.lst ds)) (nxL ds) := ⟨rfl⟩
instance (priority := high) st_ent {Q : Nx → Prop} : Stp (∃ nx, enOf h [.tup ds] = some nx ∧ Q nx) (Q (nxL (enumL ds))) := ⟨fun q => ex_ent q⟩
instance (priority := high) st_enl {Q : Nx → Prop} : Stp (∃ nx, enOf h [.lst ds] = some nx ∧ Q nx) (Q (nxL (enumL ds))) := ⟨fun q => ex_enl q⟩
instance (priority := high) st_zpt {Q : Nx → Prop} : Stp (∃ nx, zpOf h [.tup ds, .tup es] = some nx ∧ Q nx) (Q (nxL (zipL ds es))) := ⟨fun q => ex_zpt q⟩
instance (priority := high) st_zpl {Q : Nx → Prop} : Stp (∃ nx, zpOf h [.lst ds, .lst es] = some nx ∧ Q nx) (Q (nxL (zipL ds es))) := ⟨fun q => ex_zpl q⟩
instance evt_ix_tup0 {d0 : D} : Evt (gIx h (.tup (d0 :: ds)) (.int 0)) d0 := ⟨ix_tup (atI_nat (by decide) rfl)⟩
instance evt_ix_tup1 {d0 d1 : D} : Evt (gIx h (.tup (d0 :: d1 :: ds)) (.int 1)) d1 := ⟨ix_tup (atI_nat (by decide) rfl)⟩
instance evt_ix_tup2 {d0 d1 d2 : D} : Evt (gIx h (.tup (d0 :: d1 :: d2 :: ds)) (.int 2)) d2 := ⟨ix_tup (atI_nat (by decide) rfl)⟩
instance evt_ix_tup3 {d0 d1 d2 d3 : D} : Evt (gIx h (.tup (d0 :: d1 :: d2 :: d3 :: ds)) (.int 3)) d3 := ⟨ix_tup (atI_nat (by decide) rfl)⟩
instance evt_ix_tup4 {d0 d1 d2 d3 d4 : D} : Evt (gIx h (.tup (d0 :: d1 :: d2 :: d3 :: d4 :: ds)) (.int 4)) d4 := ⟨ix_tup (atI_nat (by decide) rfl)⟩
instance evt_ix_tup5 {d0 d1 d2 d3 d4 d5 : D} : Evt (gIx h (.tup (d0 :: d1 :: d2 :: d3 :: d4 :: d5 :: ds)) (.int 5)) d5 := ⟨ix_tup (atI_nat (by decide) rfl)⟩
instance evt_ix_tup6 {d0 d1 d2 d3 d4 d5 d6 : D} : Evt (gIx h (.tup (d0 :: d1 :: d2 :: d3 :: d4 :: d5 :: d6 :: ds)) (.int 6)) d6 := ⟨ix_tup (atI_nat (by decide) rfl)⟩
instance evt_ix_lst0 {d0 : D} : Evt (gIx h (.lst (d0 :: ds)) (.int 0)) d0 := ⟨ix_lst (atI_nat (by decide) rfl)⟩
instance evt_ix_lst1 {d0 d1 : D} : Evt (gIx h (.lst (d0 :: d1 :: ds)) (.int 1)) d1 := ⟨ix_lst (atI_nat (by decide) rfl)⟩
instance evt_ix_lst2 {d0 d1 d2 : D} : Evt (gIx h (.lst (d0 :: d1 :: d2 :: ds)) (.int 2)) d2 := ⟨ix_lst (atI_nat (by decide) rfl)⟩
instance evt_ix_lst3 {d0 d1 d2 d3 : D} : Evt (gIx h (.lst (d0 :: d1 :: d2 :: d3 :: ds)) (.int 3)) d3 := ⟨ix_lst (atI_nat (by decide) rfl)⟩
instance evt_ix_lst4 {d0 d1 d2 d3 d4 : D} : Evt (gIx h (.lst (d0 :: d1 :: d2 :: d3 :: d4 :: ds)) (.int 4)) d4 := ⟨ix_lst (atI_nat (by decide) rfl)⟩
instance evt_ix_lst5 {d0 d1 d2 d3 d4 d5 : D} : Evt (gIx h (.lst (d0 :: d1 :: d2 :: d3 :: d4 :: d5 :: ds)) (.int 5)) d5 := ⟨ix_lst (atI_nat (by decide) rfl)⟩
instance evt_ix_lst6 {d0 d1 d2 d3 d4 d5 d6 : D} : Evt (gIx h (.lst (d0 :: d1 :: d2 :: d3 :: d4 :: d5 :: d6 :: ds)) (.int 6)) d6 := ⟨ix_lst (atI_nat (by decide) rfl)⟩
instance st_some {α : Type} {o : Option α} {x : α} {Q : α → Hs → Prop} [v : Evt o x] : Stp (Wp (R.ofO o h) Q X) (Q x h) := ⟨fun z => wp_some v.is z⟩
instance st_ex {α : Type} {o : Option α} {x : α} {Q : α → Prop} [v : Evt o x] : Stp (∃ y, o = some y ∧ Q y) (Q x) := ⟨fun z => ⟨x, v.is, z⟩⟩
instance st_xb {b : Bool} {Q : Bool → Prop} : Stp (∃ c, D.bl b = .bl c ∧ Q c) (Q b) := ⟨fun z => ⟨b, rfl, z⟩⟩
instance st_xi {Q : Int → Prop} : Stp (∃ j, D.int i = .int j ∧ Q j) (Q i) := ⟨fun z => ⟨i, rfl, z⟩⟩
instance st_xp {Q : D → D → Prop} : Stp (∃ d1 d2, [x, y] = [d1, d2] ∧ Q d1 d2) (Q x y) := ⟨fun z => ⟨x, y, rfl, z⟩⟩
instance st_name {i : Nat} [n : Nth e i d] : Stp (Wp (eName i e hs) Q X) (Q d hs) := ⟨fun z => wp_name n.is z⟩
instance st_ws_set {i : Nat} {f : FE} {t : Option D → Ev} [s : SetE e i t] : Stp (Ws (sSet i f e hs) P) (Wp (f e hs) (fun d h => P.nx (t (some d)) h) (fun c fs h => P.ex c fs e h)) := ⟨fun z => ws_set (by simp only [s.is]; exact z)⟩
instance st_ws_setC {i : Nat} {f : FL} {t : Option D → Ev} [s : SetE e i t] : Stp (Ws (sSetC i false f e hs) P) (Wp (f e hs) (fun ds h => P.nx (t (some (.lst ds))) h) (fun c fs h => P.ex c fs e h)) := ⟨fun z => ws_setC (by simp only [s.is]; exact z)⟩
instance st_ws_setCM {i : Nat} {f : FL} {t : Option D → Ev} [s : SetE e i t] : Stp (Ws (sSetC i true f e hs) P) (Wp (f e hs) (fun ds h => P.nx (t (some (.ref h.length))) (h ++ [.lst ds])) (fun c fs h => P.ex c fs e h)) := ⟨fun z => ws_setCM (by simp only [s.is]; exact z)⟩
instance st_ws_par {i j : Nat} {f : FA} : Stp (Ws (sPar i j f e hs) P) (Wp (f e hs) (fun ds h => ∃ d1 d2, ds = [d1, d2] ∧ P.nx ((e.set i (some d1)).set j (some d2)) h) (fun c fs h => P.ex c fs e h)) := ⟨fun z => ws_par z⟩
instance st_wp_c {d : D} : Stp (Wp (eC d e hs) Q X) (Q d hs) := ⟨fun z => wp_c z⟩
instance st_wp_bin {g : Hs → D → D → Option D} {f1 f2 : FE} : Stp (Wp (eBin g f1 f2 e hs) Q X) (Wp (f1 e hs) (fun x h1 => Wp (f2 e h1) (fun y h2 => Wp (R.ofO (g h2 x y) h2) Q X) X) X) := ⟨fun z => wp_bin z⟩
instance st_wp_acons {f : FE} {g : FA} {Q : List D → Hs → Prop} : Stp (Wp (aCons f g e hs) Q X) (Wp (f e hs) (fun d h => Wp (g e h) (fun ds h => Q (d :: ds) h) X) X) := ⟨fun z => wp_acons z⟩
instance st_wp_anil {Q : List D → Hs → Prop} : Stp (Wp (aNil e hs) Q X) (Q [] hs) := ⟨fun z => wp_anil z⟩
instance st_wp_call {g : Hs → List D → Option D} {f : FA} : Stp (Wp (eCall g f e hs) Q X) (Wp (f e hs) (fun ds h => Wp (R.ofO (g h ds) h) Q X) X) := ⟨fun z => wp_call z⟩
instance st_wp_fn {fn : List D → Hs → R D} {is : List Nat} {dds : List D} {fa : FA} : Stp (Wp (eFn fn is dds fa e hs) Q X) (Wp (fa e hs) (fun ds h => Wp (fn (selL is ds [] dds) h) Q X) X) := ⟨fun z => wp_fn z⟩
instance st_wp_fnK {fn : List D → Hs → R D} {is : List Nat} {dds : List D} {fa fk : FA} : Stp (Wp (eFnK fn is dds fa fk e hs) Q X) (Wp (fa e hs) (fun ds h => Wp (fk e h) (fun zs h => Wp (fn (selL is ds zs dds) h) Q X) X) X) := ⟨fun z => wp_fnK z⟩
instance st_wp_ev {f : FL} : Stp (Wp (eV f e hs) Q X) (Wp (f e hs) (fun ds h => Q (.lst ds) h) X) := ⟨fun z => wp_ev z⟩
instance st_wp_em {f : FL} : Stp (Wp (eM f e hs) Q X) (Wp (f e hs) (fun ds h => Q (.ref h.length) (h ++ [.lst ds])) X) := ⟨fun z => wp_em z⟩
instance st_wp_tup {f : FA} : Stp (Wp (eTup f e hs) Q X) (Wp (f e hs) (fun ds h => Q (.tup ds) h) X) := ⟨fun z => wp_tup z⟩
instance st_wp_eb {f : FE} {Q : Bool → Hs → Prop} : Stp (Wp (eB f e hs) Q X) (Wp (f e hs) (fun d h => ∃ c, d = .bl c ∧ Q c h) X) := ⟨fun z => wp_eb z⟩
instance st_wp_et {f : FE} {Q : Bool → Hs → Prop} : Stp (Wp (eT f e hs) Q X) (Wp (f e hs) (fun d h => Wp (R.ofO (tru h d) h) Q X) X) := ⟨fun z => wp_et z⟩
instance st_wp_un {g : Hs → D → Option D} {f1 : FE} : Stp (Wp (eUn g f1 e hs) Q X) (Wp (f1 e hs) (fun x h1 => Wp (R.ofO (g h1 x) h1) Q X) X) := ⟨fun z => wp_un z⟩
instance st_wp_chain {g g' : Hs → D → D → Option D} {f1 f2 f3 : FE} : Stp (Wp (eChain g g' f1 f2 f3 e hs) Q X) (Wp (f1 e hs) (fun x h1 => Wp (f2 e h1) (fun y h2 => Wp (R.ofO (g h2 x y) h2) (fun k h3 => ∃ c, k = .bl c ∧ (c = true → Wp (f3 e h3) (fun z h4 => Wp (R.ofO (g' h4 y z) h4) Q X) X) ∧ (c = false → Q (.bl false) h3)) X) X) X) := ⟨fun z => wp_chain z⟩
instance st_wp_and {f g : FE} : Stp (Wp (eAnd f g e hs) Q X) (Wp (f e hs) (fun d h => ∃ c, d = .bl c ∧ (c = true → Wp (g e h) Q X) ∧ (c = false → Q (.bl false) h)) X) := ⟨fun z => wp_and z⟩
instance st_wp_or {f g : FE} : Stp (Wp (eOr f g e hs) Q X) (Wp (f e hs) (fun d h => ∃ c, d = .bl c ∧ (c = true → Q (.bl true) h) ∧ (c = false → Wp (g e h) Q X)) X) := ⟨fun z => wp_or z⟩
instance st_wp_not {f : FE} : Stp (Wp (eNot f e hs) Q X) (Wp (f e hs) (fun d h => ∃ c, d = .bl c ∧ Q (.bl (!c)) h) X) := ⟨fun z => wp_not z⟩
instance st_wp_andF {f g : FT} {Q : Bool → Hs → Prop} : Stp (Wp (tAndF f g e hs) Q X) (Wp (f e hs) (fun c h => (c = true → Wp (g e h) Q X) ∧ (c = false → Q false h)) X) := ⟨fun z => wp_andF z⟩
instance st_wp_orF {f g : FT} {Q : Bool → Hs → Prop} : Stp (Wp (tOrF f g e hs) Q X) (Wp (f e hs) (fun c h => (c = true → Q true h) ∧ (c = false → Wp (g e h) Q X)) X) := ⟨fun z => wp_orF z⟩
instance st_wp_notF {f : FT} {Q : Bool → Hs → Prop} : Stp (Wp (tNotF f e hs) Q X) (Wp (f e hs) (fun c h => Q (!c) h) X) := ⟨fun z => wp_notF z⟩
instance st_wp_yes {Q : Bool → Hs → Prop} : Stp (Wp (tYesF e hs) Q X) (Q true hs) := ⟨fun z => wp_yes z⟩
instance st_wp_if {t : FT} {f g : FE} : Stp (Wp (eIf t f g e hs) Q X) (Wp (t e hs) (fun c h => (c = true → Wp (f e h) Q X) ∧ (c = false → Wp (g e h) Q X)) X) := ⟨fun z => wp_if z⟩
instance st_wp_sl {f : FE} {lo hi : FO} : Stp (Wp (eSl f lo hi e hs) Q X) (Wp (f e hs) (fun d h => Wp (lo e h) (fun l h => Wp (hi e h) (fun u h => Wp (R.ofO (gSl h d l u) h) Q X) X) X) X) := ⟨fun z => wp_sl z⟩
instance st_wp_onone {Q : Option Int → Hs → Prop} : Stp (Wp (oNone e hs) Q X) (Q none hs) := ⟨fun z => wp_onone z⟩
instance st_wp_osome {f : FE} {Q : Option Int → Hs → Prop} : Stp (Wp (oSome f e hs) Q X) (Wp (f e hs) (fun d h => ∃ i, d = .int i ∧ Q (some i) h) X) := ⟨fun z => wp_osome z⟩
instance st_wp_rev {f : FE} {Q : List D → Hs → Prop} : Stp (Wp (lRev f e hs) Q X) (Wp (f e hs) (fun d h => Wp (R.ofO ((rdOf h d).map List.reverse) h) Q X) X) := ⟨fun z => wp_rev z⟩
instance st_wp_list {f : FE} {Q : List D → Hs → Prop} : Stp (Wp (lList f e hs) Q X) (Wp (f e hs) (fun d h => Wp (R.ofO (seqOf h d) h) Q X) X) := ⟨fun z => wp_list z⟩
instance st_wp_mt {c : Hs → D → Bool} {g : Hs → D → List D → Option (D × Hs)} {f1 : FE} {f : FA} : Stp (Wp (eMt c g f1 f e hs) Q X) (Wp (f1 e hs) (fun d h => c h d = true ∧ Wp (f e h) (fun ds h => Wp (R.ofP (g h d ds)) Q X) X) X) := ⟨fun z => wp_mt z⟩
instance st_wp_any {f : FE} {Q : Nx → Hs → Prop} : Stp (Wp (iAny f e hs) Q X) (Wp (f e hs) (fun d h => ∃ nx, itOf h d = some nx ∧ Q nx h) X) := ⟨fun z => wp_any z⟩
instance st_wp_r1 {f : FA} {Q : Nx → Hs → Prop} : Stp (Wp (iR1 f e hs) Q X) (Wp (f e hs) (fun ds h => ∃ j, ds = [.int j] ∧ okR j = true ∧ Q (nxN 0 j.toNat) h) X) := ⟨fun z => wp_r1 z⟩
instance st_wp_r2 {f : FA} {Q : Nx → Hs → Prop} : Stp (Wp (iR2 f e hs) Q X) (Wp (f e hs) (fun ds h => ∃ i j, ds = [.int i, .int j] ∧ okR i = true ∧ okR j = true ∧ Q (nxN i (j - i).toNat) h) X) := ⟨fun z => wp_r2 z⟩
instance st_wp_d0t {e : Ev} {h : Hs} {Q : D → Hs → Prop} {X : XQ} : Stp (Wp (eD0T e h) Q X) (Q (.ref h.length) (h ++ [.dt []])) := ⟨fun z => wp_d0t z⟩
instance st_wp_d0k {e : Ev} {h : Hs} {Q : D → Hs → Prop} {X : XQ} : Stp (Wp (eD0K e h) Q X) (Q (.ref h.length) (h ++ [.dk []])) := ⟨fun z => wp_d0k z⟩
instance st_wp_d0 {e : Ev} {h : Hs} {Q : D → Hs → Prop} {X : XQ} : Stp (Wp (eD0 e h) Q X) (Q (.dct [] []) h) := ⟨fun z => wp_d0 z⟩
instance st_wp_valsT {f : FE} {e : Ev} {h : Hs} {Q : List D → Hs → Prop} {X : XQ} : Stp (Wp (lValsT f e h) Q X) (Wp (f e h) (fun d h => ∃ n kvs, d = .ref n ∧ h[n]? = some (.dt kvs) ∧ Q (kvs.map (·.2)) h) X) := ⟨fun z => wp_valsT z⟩
instance st_wp_d1 {k : Key} {f : FE} : Stp (Wp (eD1 k f e hs) Q X) (Wp (f e hs) (fun d h => Q (.dct [k] [d]) h) X) := ⟨fun z => wp_d1 z⟩
instance st_wp_lAdd {f1 f2 : FE} {Q : List D → Hs → Prop} : Stp (Wp (lAdd f1 f2 e h) Q X) (Wp (f1 e h) (fun x h1 => Wp (f2 e h1) (fun y h2 => Wp (R.ofO (lstOf h2 x) h2) (fun xs h3 => Wp (R.ofO (lstOf h3 y) h3) (fun ys h4 => (xs.length ≤ 50000 ∧ ys.length ≤ 50000) ∧ Q (xs ++ ys) h4) X) X) X) X) := ⟨fun z => wp_lAdd z⟩
instance st_wp_iOf {g : Hs → List D → Option Nx} {f : FA} {Q : Nx → Hs → Prop} : Stp (Wp (iOf g f e h) Q X) (Wp (f e h) (fun ds h => ∃ nx, g h ds = some nx ∧ Q nx h) X) := ⟨fun z => wp_iOf z⟩
instance st_wp_mk  : Stp (Wp (eMk c fn is dds fa fk e h) Q X) (Wp (fa e h) (fun ds h => Wp (fk e h) (fun zs h => Wp (fn (selL is (.ref h.length :: ds) zs dds) (h ++ [.ins c []])) (fun d h' => d = .non ∧ Q (.ref h.length) h') X) X) X) := ⟨fun z => wp_mk z⟩
instance st_wp_mth  : Stp (Wp (eMth c m fn is dds fo fa fk e h) Q X) (Wp (fo e h) (fun o h => ∃ kvs, insOf h o = some (c, kvs) ∧ kvs.lookup m = none ∧ Wp (fa e h) (fun ds h => Wp (fk e h) (fun zs h => Wp (fn (selL is (o :: ds) zs dds) h) Q X) X) X) X) := ⟨fun z => wp_mth z⟩
instance st_wp_eown {g : Hs → List D → Option (D × Hs)} : Stp (Wp (eOwn g fa e h) Q X) (Wp (fa e h) (fun ds h => Wp (R.ofP (g h ds)) Q X) X) := ⟨fun z => wp_eown z⟩
instance st_wp_js1 {acc : Str} {f : FE} {fs : List FE} : Stp (Wp (eJs (f :: fs) acc e h) Q X) (Wp (f e h) (fun d h => ∃ y, d = .str y ∧ (acc ++ y).length ≤ sizeLine ∧ Wp (eJs fs (acc ++ y) e h) Q X) X) := ⟨fun z => wp_js1 z⟩
instance st_wp_js0 {acc : Str} : Stp (Wp (eJs [] acc e h) Q X) (Q (.str acc) h) := ⟨fun z => wp_js0 z⟩
instance st_wp_disp {g : FPs} {Q : D → Hs → Prop} : Stp (Wp (eDisp g e hs) Q X) (Wp (g e hs) (fun l h => ∃ m, dispD l = some m ∧ Q (.dct (m.map (·.1)) (m.map (·.2))) h) X) := ⟨fun z => wp_disp z⟩
instance st_wp_pCons {fk fv : FE} {g : FPs} {Q : List (D × D) → Hs → Prop} : Stp (Wp (pCons fk fv g e hs) Q X) (Wp (fk e hs) (fun k h => Wp (fv e h) (fun v h => Wp (g e h) (fun l h => Q ((k, v) :: l) h) X) X) X) := ⟨fun z => wp_pCons z⟩
instance st_wp_pNil {Q : List (D × D) → Hs → Prop} : Stp (Wp (pNil e hs) Q X) (Q [] hs) := ⟨fun z => wp_pNil z⟩
instance st_wp_eq_sb {h : Hs} {p : Bool} {Q : D → Hs → Prop} {X : XQ} : Stp (Wp (R.ofO (gEq h (.str (sB p)) (.str (sB p))) h) Q X) (Q (.bl true) h) := ⟨fun z => wp_eq_sb z⟩
instance st_wp_ne_sb {h : Hs} {p : Bool} {Q : D → Hs → Prop} {X : XQ} : Stp (Wp (R.ofO (gNe h (.str (sB p)) (.str (sB p))) h) Q X) (Q (.bl false) h) := ⟨fun z => wp_ne_sb z⟩
instance st_ws_seq {f g : FS} : Stp (Ws (sSeq f g e hs) P) (Ws (f e hs) (P.wnx fun e' h' => Ws (g e' h') P)) := ⟨fun z => ws_seq z⟩
instance st_ws_if {t : FT} {f g : FS} : Stp (Ws (sIf t f g e hs) P) (Wp (t e hs) (fun c h => (c = true → Ws (f e h) P) ∧ (c = false → Ws (g e h) P)) (fun c fs h => P.ex c fs e h)) := ⟨fun z => ws_if z⟩
instance st_ws_ret {f : FE} : Stp (Ws (sRet f e hs) P) (Wp (f e hs) (fun d h => P.rt d h) (fun c fs h => P.ex c fs e h)) := ⟨fun z => ws_ret z⟩
instance st_ws_retN  : Stp (Ws (sRetN e hs) P) (P.rt .non hs) := ⟨fun z => ws_retN z⟩
instance st_ws_drop {f : FE} : Stp (Ws (sDrop f e hs) P) (Wp (f e hs) (fun _ h => P.nx e h) (fun c fs h => P.ex c fs e h)) := ⟨fun z => ws_drop z⟩
instance st_ws_skip  : Stp (Ws (sSkip e hs) P) (P.nx e hs) := ⟨fun z => ws_skip z⟩
instance st_ws_asg {g : FG} {f : FE} : Stp (Ws (sAsg g f e hs) P) (Wp (f e hs) (fun d h => ∃ e', g d e = some e' ∧ P.nx e' h) (fun c fs h => P.ex c fs e h)) := ⟨fun z => ws_asg z⟩
instance st_ws_sub {g : Hs → D → D → D → Option Hs} {fv fo fi : FE} : Stp (Ws (sSub g fv fo fi e hs) P) (Wp (fv e hs) (fun v h => Wp (fo e h) (fun o h => Wp (fi e h) (fun i h => ∃ h', g h o i v = some h' ∧ P.nx e h') (fun c fs h => P.ex c fs e h)) (fun c fs h => P.ex c fs e h)) (fun c fs h => P.ex c fs e h)) := ⟨fun z => ws_sub z⟩
instance st_ws_fld {cs : List Str} : Stp (Ws (sFld cs f fv fo e h) P) (Wp (fv e h) (fun v h => Wp (fo e h) (fun o h => ∃ n c kvs, o = .ref n ∧ h[n]? = some (.ins c kvs) ∧ cs.contains c = true ∧ kvs.length < 1000 ∧ P.nx e (h.set n (.ins c (putD f v kvs)))) (fun c fs h => P.ex c fs e h)) (fun c fs h => P.ex c fs e h)) := ⟨fun z => ws_fld z⟩
instance (priority := high) st_eq_same {x : Str} : Evt (gEq h (.str x) (.str x)) ((.bl true)) := ⟨eq_same⟩
instance (priority := high) st_ne_same {x : Str} : Evt (gNe h (.str x) (.str x)) ((.bl false)) := ⟨ne_same⟩
instance st_add_i  : Evt (gAdd h (.int i) (.int j)) ((.int (i + j))) := ⟨add_i⟩
instance st_sub_i  : Evt (gSub h (.int i) (.int j)) ((.int (i - j))) := ⟨sub_i⟩
instance st_lt_i  : Evt (gLt h (.int i) (.int j)) ((.bl (decide (i < j)))) := ⟨lt_i⟩
instance st_le_i  : Evt (gLe h (.int i) (.int j)) ((.bl (decide (i ≤ j)))) := ⟨le_i⟩
instance st_gt_i  : Evt (gGt h (.int i) (.int j)) ((.bl (decide (j < i)))) := ⟨gt_i⟩
instance st_ge_i  : Evt (gGe h (.int i) (.int j)) ((.bl (decide (j ≤ i)))) := ⟨ge_i⟩
instance st_eq_i  : Evt (gEq h (.int i) (.int j)) ((.bl (i == j))) := ⟨eq_i⟩
instance st_ne_i  : Evt (gNe h (.int i) (.int j)) ((.bl (!(i == j)))) := ⟨ne_i⟩
instance st_eq_b  : Evt (gEq h (.bl p) (.bl q)) ((.bl (p == q))) := ⟨eq_b⟩
instance st_max_i  : Evt (gMax2 h [.int i, .int j]) ((.int (if j > i then j else i))) := ⟨max_i⟩
instance st_min_i  : Evt (gMin2 h [.int i, .int j]) ((.int (if j < i then j else i))) := ⟨min_i⟩
instance st_tup_tup  : Evt (gTuple h [.tup xs]) ((.tup xs)) := ⟨tup_tup⟩
instance st_tup_lst  : Evt (gTuple h [.lst xs]) ((.tup xs)) := ⟨tup_lst⟩
instance st_len_tup  : Evt (gLen h [.tup xs]) ((.int xs.length)) := ⟨len_tup⟩
instance st_len_lst  : Evt (gLen h [.lst xs]) ((.int xs.length)) := ⟨len_lst⟩
instance st_sl_tup {lo hi : Option Int} : Evt (gSl h (.tup xs) lo hi) ((.tup (cutX xs lo hi))) := ⟨sl_tup⟩
instance st_sl_lst {lo hi : Option Int} : Evt (gSl h (.lst xs) lo hi) ((.lst (cutX xs lo hi))) := ⟨sl_lst⟩
instance st_tru_b  : Evt (tru h (.bl p)) (p) := ⟨tru_b⟩
instance st_repr_b  : Evt (gRepr h [.bl p]) ((.str (sB p))) := ⟨repr_b⟩
instance st_seq_lst {h : Hs} {ds : List D} : Evt (seqOf h (.lst ds)) (ds) := ⟨seq_lst⟩
instance st_seq_tup {h : Hs} {ds : List D} : Evt (seqOf h (.tup ds)) (ds) := ⟨seq_tup⟩
instance st_eq_s {x y : Str} : Evt (gEq h (.str x) (.str y)) ((.bl (x == y))) := ⟨eq_s⟩
instance st_ne_b {h : Hs} {p q : Bool} : Evt (gNe h (.bl p) (.bl q)) ((.bl (!(p == q)))) := ⟨ne_b⟩
instance st_ne_s {x y : Str} : Evt (gNe h (.str x) (.str y)) ((.bl (!(x == y)))) := ⟨ne_s⟩
instance st_reprA_b  : Evt (gReprA h [.bl p]) ((.str (sB p))) := ⟨reprA_b⟩
instance st_isi_non  : Evt (gIsi h [.non, .ty u]) ((.bl false)) := ⟨isi_non⟩
instance st_isi_bl {b : Bool} : Evt (gIsi h [.bl b, .ty u]) ((.bl (isTn .bool u))) := ⟨isi_bl⟩
instance st_isi_int  : Evt (gIsi h [.int i, .ty u]) ((.bl (isTn .int u))) := ⟨isi_int⟩
instance st_isi_str {z : Str} : Evt (gIsi h [.str z, .ty u]) ((.bl (isTn .str u))) := ⟨isi_str⟩
instance st_isi_tup  : Evt (gIsi h [.tup ds, .ty u]) ((.bl (isTn .tup u))) := ⟨isi_tup⟩
instance st_isi_lst  : Evt (gIsi h [.lst ds, .ty u]) ((.bl (isTn .lst u))) := ⟨isi_lst⟩
instance st_isi_dct  : Evt (gIsi h [.dct ks ds, .ty u]) ((.bl (isTn .dct u))) := ⟨isi_dct⟩
instance st_rev_tup  : Evt (gRev h (.tup xs)) ((.tup xs.reverse)) := ⟨rev_tup⟩
instance st_rev_lst  : Evt (gRev h (.lst xs)) ((.lst xs.reverse)) := ⟨rev_lst⟩
instance st_is_bl {p q : Bool} : Evt (gIs h (.bl p) (.bl q)) ((.bl (decide (p = q)))) := ⟨is_bl⟩
instance st_isN_bl {p q : Bool} : Evt (gIsN h (.bl p) (.bl q)) ((.bl (!decide (p = q)))) := ⟨isN_bl⟩
instance st_neg_i  : Evt (gNeg h (.int i)) ((.int (-i))) := ⟨neg_i⟩
instance st_pow6 {h : Hs} : Evt (gPow h (.int 10) (.int 6)) ((.int 1000000)) := ⟨pow6⟩
instance st_eqT_tup {h : Hs} {ds : List D} : Evt (gEqT h (.tup ds) (.tup [])) ((.bl ds.isEmpty)) := ⟨eqT_tup⟩
instance st_lst_lst  : Evt (lstOf h (.lst xs)) (xs) := ⟨lst_lst⟩
instance st_pow39  : Evt (gPow h (.int 10) (.int 39)) ((.int 1000000000000000000000000000000000000000)) := ⟨pow39⟩
instance st_pow30  : Evt (gPow h (.int 10) (.int 30)) ((.int 1000000000000000000000000000000)) := ⟨pow30⟩
instance st_pow40  : Evt (gPow h (.int 10) (.int 40)) ((.int 10000000000000000000000000000000000000000)) := ⟨pow40⟩
instance st_tru_non  : Evt (tru h .non) (false) := ⟨tru_non⟩
instance st_tru_int  : Evt (tru h (.int i)) ((i != 0)) := ⟨tru_int⟩
instance st_tru_tup  : Evt (tru h (.tup xs)) ((!xs.isEmpty)) := ⟨tru_tup⟩
instance st_neT_tup {h : Hs} {ds : List D} : Evt (gNeT h (.tup ds) (.tup [])) ((.bl (!ds.isEmpty))) := ⟨neT_tup⟩
instance st_sk_zones  : Evt (gFld ["Skin"] "zones" h (skD z s g)) (z) := ⟨sk_zones⟩
instance st_sk_stretch  : Evt (gFld ["Skin"] "stretch" h (skD z s g)) (s) := ⟨sk_stretch⟩
instance st_sk_grade  : Evt (gFld ["Skin"] "grade" h (skD z s g)) (g) := ⟨sk_grade⟩
instance st_neL_lst {h : Hs} {ds : List D} : Evt (gNeL h (.lst ds) (.lst [])) ((.bl (!ds.isEmpty))) := ⟨neL_lst⟩
instance st_int_bl {b : Bool} : Evt (gInt h [.bl b]) ((.int (if b then 1 else 0))) := ⟨int_bl⟩
instance (priority := high) st_ne_ss {z : Str} : Evt (gNe h (.str z) (.str z)) ((.bl false)) := ⟨ne_ss⟩
end
/-! # G78: gloves by their parts; their order; Lots made; who matches whom -/
noncomputable section
end
/-- a glove by its parts -/
structure Gv where
  m : Nat
  n : Nat
  sd : List Nat
  st : List Nat
  lo : Int
  hi : Int
  gr : Int
def Gv.k (g : Gv) : List Key := [.inl g.m, .inl g.n, .inr (T g.sd), .inr (T g.st), .inl g.lo, .inl g.hi, .inl g.gr]
abbrev Gv.d (g : Gv) : D := .tup [.int g.m, .int g.n, .str (T g.sd), .str (T g.st), .int g.lo, .int g.hi, .int g.gr]
theorem Gv.tup (g : Gv) : tupK g.k = g.d := rfl
structure Gv.Ok (g : Gv) : Prop where
  m1 : g.m ≤ 999999
  n1 : g.n ≤ 99
  sd : IsSide g.sd
  st : NmT g.st
  lo0 : 0 ≤ g.lo
  lh : g.lo ≤ g.hi
  hi1 : g.hi ≤ 300
  gr0 : 0 ≤ g.gr
  gr1 : g.gr ≤ 10
section
variable {L : Nat} {K : Hs → Prop} {h : Hs} {Q : D → Hs → Prop} {X : XQ} {d : D} {g g' : Gv} {gs gs' : List Gv}
theorem num_in {n : Int} (a : -1000000 ≤ n) (b : n ≤ 1000000) : n.natAbs < 10 ^ 60 := by
  have : n.natAbs ≤ 1000000 := by omega
  exact Nat.lt_of_le_of_lt this (by decide)
theorem side_len {sd : List Nat} (h : IsSide sd) : sd.length = 1 ∧ Lw sd := by
  rcases h with rfl | rfl
  · exact ⟨rfl, fun x hx => by rw [List.mem_singleton.mp hx]; exact ⟨by decide, by decide⟩⟩
  · exact ⟨rfl, fun x hx => by rw [List.mem_singleton.mp hx]; exact ⟨by decide, by decide⟩⟩
theorem Gv.Ok.sm (o : g.Ok) : Sm 2 20 g.d := by
  have ⟨s1, s2⟩ := side_len o.sd
  have := o.m1; have := o.n1; have := o.lo0; have := o.lh; have := o.hi1; have := o.gr0; have := o.gr1
  exact (sm_tup (k := 1) (sms_cons (n := 0) (sm_int (num_in (by omega) (by omega))) (sms_cons (n := 0) (sm_int (num_in (by omega) (by omega))) (sms_cons (n := 1) (sm_str (lw_ok s2) (by rw [T_len]; omega)) (sms_cons (n := 8) (sm_str (lw_ok o.st.2.2) (by rw [T_len]; exact o.st.2.1))
    (sms_cons (n := 0) (sm_int (num_in (by omega) (by omega))) (sms_cons (n := 0) (sm_int (num_in (by omega) (by omega))) (sms_cons (n := 0) (sm_int (num_in (by omega) (by omega))) sms_nil)))))))).mono (by decide) (by decide)
theorem Gv.pt : pt g.d = true := rfl
/-! ### sorted -/
def insG (g : Gv) : List Gv → List Gv
  | [] => [g]
  | y :: r => if lexK y.k g.k = true then y :: insG g r else g :: y :: r
def sortG : List Gv → List Gv
  | [] => []
  | x :: r => insG x (sortG r)
/-! ### Lots -/
/-! ### who matches whom -/
end
/-! # G79: the most pairs that match: searches, what is taken, what is come to -/
noncomputable section
end
end G
namespace MT
theorem nd_sub {t : Type} : ∀ {l D : List t}, l.Nodup → (∀ x ∈ l, x ∈ D) → l.length ≤ D.length
  | [], _, _, _ => Nat.zero_le _
  | a :: l, D, n, s => by
    obtain ⟨n1, n2⟩ := List.nodup_cons.mp n
    obtain ⟨u, v, rfl⟩ := List.append_of_mem (s a List.mem_cons_self)
    have h := nd_sub (l := l) (D := u ++ v) n2 fun x hx => by
      rcases List.mem_append.mp (s x (List.mem_cons_of_mem _ hx)) with h | h
      · exact List.mem_append_left _ h
      · rcases List.mem_cons.mp h with rfl | h
        · exact absurd hx n1
        · exact List.mem_append_right _ h
    simp only [List.length_append, List.length_cons] at h ⊢
    omega
/-! ### taken: which right one goes with which left one -/
abbrev Tk := List (Nat × Nat)
def lk (T : Tk) (r : Nat) : Option Nat := (T.find? fun p => decide (p.1 = r)).map (·.2)
def up (T : Tk) (r l : Nat) : Tk := T.map fun p => if p.1 = r then (p.1, l) else p
def pt (T : Tk) (r l : Nat) : Tk := if (T.any fun p => decide (p.1 = r)) = true then up T r l else T ++ [(r, l)]
theorem lk_cons {p : Nat × Nat} {T : Tk} {r : Nat} : lk (p :: T) r = if p.1 = r then some p.2 else lk T r := by
  unfold lk
  rw [List.find?_cons]
  by_cases e : p.1 = r
  · rw [decide_eq_true e, if_pos e]; rfl
  · rw [decide_eq_false e, if_neg e]
theorem any_lk {r : Nat} : ∀ {T : Tk}, (T.any fun p => decide (p.1 = r)) = (lk T r).isSome
  | [] => rfl
  | p :: T => by
    rw [List.any_cons, lk_cons, any_lk]
    by_cases e : p.1 = r
    · rw [decide_eq_true e, if_pos e]; rfl
    · rw [decide_eq_false e, if_neg e]; rfl
theorem lk_up {r l q : Nat} : ∀ {T : Tk}, lk (up T r l) q = if q = r then (lk T r).map fun _ => l else lk T q
  | [] => by by_cases e : q = r <;> simp [lk, up, e]
  | p :: T => by
    have ih := lk_up (r := r) (l := l) (q := q) (T := T)
    show lk ((if p.1 = r then (p.1, l) else p) :: up T r l) q = _
    rw [lk_cons, ih, lk_cons, lk_cons]
    by_cases e : p.1 = r
    · rw [if_pos e]
      by_cases e2 : q = r
      · rw [if_pos (e.trans e2.symm), if_pos e2, if_pos e]; rfl
      · rw [if_neg (fun z => e2 (z.symm.trans e)), if_neg e2, if_neg e2, if_neg (fun z => e2 (z.symm.trans e))]
    · rw [if_neg e]
      by_cases e2 : q = r
      · rw [if_neg (fun z => e (z.trans e2)), if_pos e2, if_pos e2, if_neg e]
      · rw [if_neg e2, if_neg e2]
theorem lk_app {T : Tk} {r l q : Nat} (h : lk T r = none) : lk (T ++ [(r, l)]) q = if q = r then some l else lk T q := by
  induction T with
  | nil =>
    show lk [(r, l)] q = _
    rw [lk_cons]
    by_cases e : q = r
    · rw [if_pos e, if_pos e.symm]
    · rw [if_neg e, if_neg fun z => e z.symm]
  | cons p T ih =>
    rw [lk_cons] at h
    split at h
    · cases h
    · rename_i e
      rw [List.cons_append, lk_cons, ih h, lk_cons]
      by_cases e2 : q = r
      · rw [if_pos e2, if_neg (fun z => e (z.trans e2)), if_pos e2]
      · rw [if_neg e2, if_neg e2]
theorem lk_pt {T : Tk} {r l q : Nat} : lk (pt T r l) q = if q = r then some l else lk T q := by
  unfold pt
  rw [any_lk]
  cases h : lk T r with
  | none => exact lk_app h
  | some x =>
    rw [if_pos (show (some x).isSome = true from rfl), lk_up, h]; rfl
/-! ### a search -/
inductive Lp (N : Nat → List Nat) : Nat → List Nat → Tk → List Nat → Bool → Tk → List Nat → Prop
  | nil {l : Nat} {T : Tk} {S : List Nat} : Lp N l [] T S false T S
  | skip {l r : Nat} {rs S S' : List Nat} {T T' : Tk} {ok : Bool} : r ∈ S → Lp N l rs T S ok T' S' → Lp N l (r :: rs) T S ok T' S'
  | free {l r : Nat} {rs S : List Nat} {T : Tk} : r ∉ S → lk T r = none → Lp N l (r :: rs) T S true (pt T r l) (S ++ [r])
  | push {l r l2 : Nat} {rs S S1 : List Nat} {T T1 : Tk} : r ∉ S → lk T r = some l2 → Lp N l2 (N l2) T (S ++ [r]) true T1 S1 → Lp N l (r :: rs) T S true (pt T1 r l) S1
  | fail {l r l2 : Nat} {rs S S1 S' : List Nat} {T T1 T' : Tk} {ok : Bool} : r ∉ S → lk T r = some l2 → Lp N l2 (N l2) T (S ++ [r]) false T1 S1 → Lp N l rs T1 S1 ok T' S' → Lp N l (r :: rs) T S ok T' S'
section
variable {N : Nat → List Nat} {l : Nat} {rs S S' : List Nat} {T T' : Tk} {ok : Bool}
theorem Lp.sub (h : Lp N l rs T S ok T' S') : ∀ r ∈ S, r ∈ S' := by
  induction h with
  | nil => exact fun _ h => h
  | skip _ _ ih => exact ih
  | free => exact fun r h => List.mem_append_left _ h
  | push _ _ _ ih => exact fun r h => ih r (List.mem_append_left _ h)
  | fail _ _ _ _ ih1 ih2 => exact fun r h => ih2 r (ih1 r (List.mem_append_left _ h))
theorem snoc_nd {S : List Nat} {r : Nat} (n : S.Nodup) (h : r ∉ S) : (S ++ [r]).Nodup := by
  rw [List.nodup_append]
  refine ⟨n, by simp, fun a ha b hb => ?_⟩
  rw [List.mem_singleton.mp hb]
  rintro rfl
  exact h ha
theorem Lp.nd (h : Lp N l rs T S ok T' S') : S.Nodup → S'.Nodup := by
  induction h with
  | nil => exact fun h => h
  | skip _ _ ih => exact ih
  | free a _ => exact fun n => snoc_nd n a
  | push a _ _ ih => exact fun n => ih (snoc_nd n a)
  | fail a _ _ _ ih1 ih2 => exact fun n => ih2 (ih1 (snoc_nd n a))
theorem Lp.agr (h : Lp N l rs T S ok T' S') : ∀ r ∈ S, lk T' r = lk T r := by
  induction h with
  | nil => exact fun _ _ => rfl
  | skip _ _ ih => exact ih
  | free a _ =>
    intro r hr
    rw [lk_pt, if_neg]
    rintro rfl
    exact a hr
  | push a _ _ ih =>
    intro r hr
    rw [lk_pt, if_neg (by rintro rfl; exact a hr)]
    exact ih r (List.mem_append_left _ hr)
  | fail _ _ h1 _ ih1 ih2 =>
    intro r hr
    exact (ih2 r (h1.sub r (List.mem_append_left _ hr))).trans (ih1 r (List.mem_append_left _ hr))
theorem Lp.no (h : Lp N l rs T S ok T' S') : ok = false → T' = T ∧ (∀ r ∈ rs, r ∈ S') ∧ ∀ r ∈ S', r ∈ S ∨ ∃ x, lk T r = some x ∧ ∀ q ∈ N x, q ∈ S' := by
  induction h with
  | nil => exact fun _ => ⟨rfl, nofun, fun r h => .inl h⟩
  | skip a h ih =>
    intro e
    obtain ⟨e1, e2, e3⟩ := ih e
    refine ⟨e1, fun r hr => ?_, e3⟩
    rcases List.mem_cons.mp hr with rfl | hr
    · exact h.sub _ a
    · exact e2 r hr
  | free => exact fun e => nomatch e
  | push => exact fun e => nomatch e
  | @fail l r l2 rs S S1 S' T T1 T' ok a b h1 h2 ih1 ih2 =>
    intro e
    obtain ⟨e1, e2, e3⟩ := ih1 rfl
    subst e1
    obtain ⟨f1, f2, f3⟩ := ih2 e
    have hr1 : r ∈ S1 := h1.sub r (List.mem_append_right _ (List.mem_singleton.mpr rfl))
    refine ⟨f1, fun q hq => ?_, fun q hq => ?_⟩
    · rcases List.mem_cons.mp hq with rfl | hq
      · exact h2.sub _ hr1
      · exact f2 q hq
    · rcases f3 q hq with hq | hq
      · rcases e3 q hq with hq | ⟨x, hx, hn⟩
        · rcases List.mem_append.mp hq with hq | hq
          · exact .inl hq
          · rw [List.mem_singleton.mp hq]
            exact .inr ⟨l2, b, fun z hz => h2.sub z (e2 z hz)⟩
        · exact .inr ⟨x, hx, fun z hz => h2.sub z (hn z hz)⟩
      · exact .inr hq
/-- all of A are taken, by left ones that come to A alone -/
def Cl (N : Nat → List Nat) (T : Tk) (A : Nat → Prop) : Prop := ∀ r, A r → ∃ x, lk T r = some x ∧ ∀ q ∈ N x, A q
theorem Lp.shut {A : Nat → Prop} (h : Lp N l rs T S ok T' S') : Cl N T A → (∀ r ∈ rs, A r) → ok = false := by
  induction h with
  | nil => exact fun _ _ => rfl
  | skip _ _ ih => exact fun c a => ih c fun r hr => a r (List.mem_cons_of_mem _ hr)
  | free _ b =>
    intro c a
    obtain ⟨x, hx, _⟩ := c _ (a _ List.mem_cons_self)
    rw [b] at hx; cases hx
  | push _ b _ ih =>
    intro c a
    obtain ⟨x, hx, hn⟩ := c _ (a _ List.mem_cons_self)
    rw [b] at hx; cases hx
    exact ih c hn
  | fail _ _ h1 _ _ ih2 =>
    intro c a
    obtain ⟨e1, _⟩ := h1.no rfl
    subst e1
    exact ih2 c fun r hr => a r (List.mem_cons_of_mem _ hr)
theorem Lp.keep {A : Nat → Prop} (h : Lp N l rs T S ok T' S') : Cl N T A → ok = true → ∀ r, A r → lk T' r = lk T r := by
  induction h with
  | nil => exact fun _ e => nomatch e
  | skip _ _ ih => exact ih
  | @free l r rs S T a b =>
    intro c _ q hq
    rw [lk_pt, if_neg]
    rintro rfl
    obtain ⟨x, hx, _⟩ := c _ hq
    rw [b] at hx; cases hx
  | @push l r l2 rs S S1 T T1 a b h1 ih =>
    intro c _ q hq
    rw [lk_pt, if_neg]
    · exact ih c rfl q hq
    · rintro rfl
      obtain ⟨x, hx, hn⟩ := c _ hq
      rw [b] at hx; cases hx
      exact absurd (h1.shut c hn) (by decide)
  | fail _ _ h1 _ _ ih2 =>
    intro c e
    obtain ⟨e1, _⟩ := h1.no rfl
    subst e1
    exact ih2 c e
end
end MT
namespace MT
open PySem PySem.Spec L2 G
section
variable {h : Hs} {Q : D → Hs → Prop} {X : XQ} {T : Tk} {S : List Nat} {r l : Nat} {N : List (List Nat)} {R : Nat}
/-! ### as things of the heap -/
def rowD (ks : List Nat) : D := .lst (ks.map fun k => .int (k : Nat))
def nD (N : List (List Nat)) : D := .lst (N.map rowD)
def kS (S : List Nat) : List (Key × D) := S.map fun (r : Nat) => (.inl (r : Int), .bl true)
/-- how many of the taken ones are seen -/
def cnt (T : Tk) (S : List Nat) : Nat := (T.filter fun p => decide (p.1 ∈ S)).length
end
section
end
section
variable {h : Hs} {Q : D → Hs → Prop} {X : XQ} {T : Tk} {S F W : List Nat} {r l : Nat} {N : List (List Nat)} {R : Nat}
def prD (x : Nat) : D := .tup [.int (x : Nat), .bl true]
def nI (x : Nat) : D := .int (x : Nat)
end
end MT

/-! # G80: the program's matched, of a Lot -/
namespace G
open PySem PySem.Spec PyProof.Rows L2
section
variable {e : Ev} {hs : Hs} {X : XQ} {α : Type}
/-- a comprehension over things of one kind: those of which p is true, each as F says -/
theorem wp_cga {f : FI} {g : FG} {t : FT} {el : FE} {vs : List Nat} {Q : List D → Hs → Prop} (i : α → D) (p : α → Bool) (F : α → D) (h : Wp (f e hs) (fun nx h => ∃ xs : List α, nx = nxL (xs.map i) ∧ xs.length ≤ 100000 ∧
    (∀ a ∈ xs, ∃ e', g (i a) (wipeE e vs) = some e' ∧ Wp (t e' h) (fun c h1 => h1 = h ∧ c = p a ∧ (c = true → Wp (el e' h) (fun y h' => y = F a ∧ h' = h) nX)) nX) ∧ Q ((xs.filter p).map F) h) X) : Wp (lComp f g t el vs e hs) Q X := by
  refine wp_comp (wp_mono h (fun nx h' q => ?_) fun _ _ _ x => x)
  obtain ⟨xs, rfl, hl, hd, q⟩ := q
  refine ⟨xs.length, fun i acc h => h = h' ∧ acc = ((xs.take i).filter p).map F, hl, ⟨rfl, rfl⟩, fun i acc h hi ⟨e1, e2⟩ => ?_, fun acc h ⟨e1, e2⟩ => ?_⟩
  · subst e1 e2
    obtain ⟨e', h1, h2⟩ := hd xs[i] (List.getElem_mem hi)
    refine ⟨_, e', ?_, h1, wp_mono h2 (fun c h3 ⟨z1, z2, z3⟩ => ?_) fun _ _ _ x => x⟩
    · unfold nxL
      rw [List.getElem?_map, List.getElem?_eq_getElem hi]; rfl
    subst z1
    have ht : xs.take (i + 1) = xs.take i ++ [xs[i]] := List.take_succ_eq_append_getElem hi
    have hl2 : (((xs.take i).filter p).map F).length ≤ i := by
      rw [List.length_map]
      exact Nat.le_trans (List.length_filter_le _ _) (by rw [List.length_take]; omega)
    refine ⟨fun hc => ⟨by rw [sizeLine_eq]; omega, wp_mono (z3 hc) (fun y h4 ⟨r, z4⟩ => ⟨z4, ?_⟩) fun _ _ _ x => x⟩, fun hc => ⟨rfl, ?_⟩⟩
    · rw [ht, List.filter_append, List.map_append, r]
      congr 1
      rw [List.filter_cons_of_pos (by rw [← z2]; exact hc)]; rfl
    · rw [ht, List.filter_append, List.filter_cons_of_neg (by rw [← z2, hc]; exact Bool.false_ne_true), List.filter_nil, List.append_nil]
  · subst e1 e2
    rw [List.take_length]
    exact ⟨by unfold nxL; rw [List.getElem?_eq_none (by rw [List.length_map]; exact Nat.le_refl _)], q⟩
theorem wp_cma {f : FI} {g : FG} {el : FE} {vs : List Nat} {Q : List D → Hs → Prop} (i : α → D) (F : α → D) (h : Wp (f e hs) (fun nx h => ∃ xs : List α, nx = nxL (xs.map i) ∧ xs.length ≤ 100000 ∧
    (∀ a ∈ xs, ∃ e', g (i a) (wipeE e vs) = some e' ∧ Wp (el e' h) (fun y h' => y = F a ∧ h' = h) nX) ∧ Q (xs.map F) h) X) : Wp (lComp f g tYesF el vs e hs) Q X := by
  refine wp_cga i (fun _ => true) F (wp_mono h (fun nx h' q => ?_) fun _ _ _ x => x)
  obtain ⟨xs, rfl, hl, hd, q⟩ := q
  refine ⟨xs, rfl, hl, fun a ha => ?_, by rw [List.filter_eq_self.mpr fun _ _ => rfl]; exact q⟩
  obtain ⟨e', h1, h2⟩ := hd a ha
  exact ⟨e', h1, wp_yes ⟨rfl, rfl, fun _ => h2⟩⟩
end
/-! ### both sides -/
def sideG (s : List Nat) (gs : List Gv) : List Gv := (sortG gs).filter fun g => T g.sd == T s
section
/-! ### pairs, sorted -/
end
/-! # G81: gloves drawn into dicts by their idents; gloves of unlike idents -/
def Gv.ik (g : Gv) : List Key := [.inl g.m, .inl g.n, .inr (T g.sd)]
def Un (gs : List Gv) : Prop := (gs.map Gv.ik).Nodup
theorem Un.perm {gs gs' : List Gv} (u : Un gs) (p : gs'.Perm gs) : Un gs' := (p.map _).nodup_iff.mpr u
theorem Un.sub {gs gs' : List Gv} (u : Un gs) (p : gs'.Sublist gs) : Un gs' := List.Nodup.sublist (p.map _) u
/-! # G82: the most pairs: pairs and bars -/
/-! ### what the searches leave -/
/-! ### by all choices -/
/-! ### sides exchanged, one glove fewer -/
/-! # G83: x in a tuple of data of any depth -/
end G
namespace PySem.SeqAt
open PySem.AutoSeq1 (wpAny_loadPart')
open MeetsSeq
end PySem.SeqAt
namespace G
open PySem PySem.Spec PyProof.Rows L2
section
end
section
end
end G

/-! # G84: sets of things of any kind that are hashed and compared quietly (tuples of ints and texts ..): the tables of sets of up to 4000 things; added one by one, made of lists -/
namespace Sg
open PySem PySem.Spec PyProof.Rows L2
theorem pow5 : ∀ s : Nat, ∃ q, 5 ^ (2 ^ s) = 1 + 2 ^ (s + 2) * (2 * q + 1)
  | 0 => ⟨0, rfl⟩
  | s + 1 => by
    obtain ⟨q, e⟩ := pow5 s
    refine ⟨q + 2 ^ s * (2 * q + 1) * (2 * q + 1), ?_⟩
    rw [Nat.pow_succ 2 s, Nat.pow_mul, e]
    have h : 2 ^ (s + 1 + 2) = 8 * 2 ^ s := by rw [Nat.pow_add, Nat.pow_add]; omega
    have h2 : 2 ^ (s + 2) = 4 * 2 ^ s := by rw [Nat.pow_add]; omega
    rw [h, h2]
    generalize 2 ^ s = t
    grind
theorem podd (s q : Nat) : ∀ p, ∃ r, (1 + 2 ^ (s + 2) * (2 * q + 1)) ^ (2 * p + 1) = 1 + 2 ^ (s + 2) * (2 * r + 1)
  | 0 => ⟨q, Nat.pow_one _⟩
  | p + 1 => by
    obtain ⟨r, e⟩ := podd s q p
    have h2 : 2 ^ (s + 2) = 2 * 2 ^ (s + 1) := by rw [Nat.pow_succ]; omega
    refine ⟨r + (2 * q + 1) + 2 ^ (s + 1) * (2 * q + 1) * (2 * q + 1) + 2 * 2 ^ (s + 1) * (2 * r + 1) * (2 * q + 1) + 2 ^ (s + 1) * (2 * 2 ^ (s + 1)) * (2 * r + 1) * (2 * q + 1) * (2 * q + 1), ?_⟩
    have e3 : 2 * (p + 1) + 1 = (2 * p + 1) + 2 := by omega
    rw [e3, Nat.pow_add, e, h2]
    generalize 2 ^ (s + 1) = t
    grind
theorem two_part : ∀ d : Nat, 0 < d → ∃ s p, d = 2 ^ s * (2 * p + 1) := by
  intro d
  induction d using Nat.strongRecOn with
  | ind d ih =>
    intro h
    by_cases e : d % 2 = 0
    · obtain ⟨s, p, e2⟩ := ih (d / 2) (by omega) (by omega)
      refine ⟨s + 1, p, ?_⟩
      rw [Nat.pow_succ, Nat.mul_assoc, Nat.mul_left_comm, ← e2]
      omega
    · exact ⟨0, d / 2, by rw [Nat.pow_zero]; omega⟩
theorem ord5 {n d : Nat} (h : 5 ^ d % 2 ^ (n + 2) = 1) : 2 ^ n ∣ d := by
  by_cases h0 : d = 0
  · rw [h0]; exact Nat.dvd_zero _
  obtain ⟨s, p, e⟩ := two_part d (by omega)
  by_cases hs : n ≤ s
  · rw [e]; exact Nat.dvd_trans (Nat.pow_dvd_pow 2 hs) (Nat.dvd_mul_right _ _)
  · exfalso
    obtain ⟨q, e1⟩ := pow5 s
    obtain ⟨r, e2⟩ := podd s q p
    have e3 : 5 ^ d = 1 + 2 ^ (s + 2) * (2 * r + 1) := by rw [e, Nat.pow_mul, e1, e2]
    obtain ⟨k, ek⟩ : ∃ k, 2 ^ (n + 2) = 2 ^ (s + 3) * k := ⟨2 ^ (n + 2 - (s + 3)), by rw [← Nat.pow_add]; congr 1; omega⟩
    have e4 : 5 ^ d = 2 ^ (n + 2) * (5 ^ d / 2 ^ (n + 2)) + 1 := by have := Nat.div_add_mod (5 ^ d) (2 ^ (n + 2)); omega
    rw [ek] at e4
    generalize 5 ^ d / _ = z at e4
    rw [e3] at e4
    have h8 : 2 ^ (s + 3) = 2 ^ (s + 2) * 2 := by rw [Nat.pow_succ]
    rw [h8] at e4
    have e5 : 2 ^ (s + 2) * (2 * r + 1) = 2 ^ (s + 2) * (2 * (k * z)) := by grind
    have := Nat.eq_of_mul_eq_mul_left (Nat.pow_pos (by decide)) e5
    omega
theorem lcg_pow (m : Nat) : ∀ k, (4 * lcgN m k + 1) % (4 * (m + 1)) = 5 ^ k % (4 * (m + 1))
  | 0 => rfl
  | k + 1 => by
    have ih := lcg_pow m k
    have e1 : 4 * lcgN m (k + 1) = (4 * (lcgN m k * 5 + 1)) % (4 * (m + 1)) := by
      show 4 * ((lcgN m k * 5 + 1) % (m + 1)) = _
      rw [Nat.mul_mod_mul_left]
    rw [e1, Nat.mod_add_mod, show 4 * (lcgN m k * 5 + 1) + 1 = (4 * lcgN m k + 1) * 5 by omega, Nat.mul_mod, ih, ← Nat.mul_mod, Nat.pow_succ]
theorem lcg_lt (m k : Nat) : lcgN m k < m + 1 := by
  cases k with
  | zero => exact Nat.succ_pos _
  | succ k => exact Nat.mod_lt _ (Nat.succ_pos _)
theorem pow_cancel {n a d : Nat} (h : 5 ^ (a + d) % 2 ^ n = 5 ^ a % 2 ^ n) : 5 ^ d % 2 ^ n = 1 % 2 ^ n := by
  induction a with
  | zero => rw [Nat.zero_add, Nat.pow_zero] at h; exact h
  | succ a ih =>
    refine ih ?_
    rw [show a + 1 + d = (a + d) + 1 by omega, Nat.pow_succ, Nat.pow_succ] at h
    -- 5 is odd: cancel
    generalize 5 ^ (a + d) = x at h ⊢
    generalize 5 ^ a = y at h ⊢
    clear ih
    have key : ∀ (n x y : Nat), x * 5 % 2 ^ n = y * 5 % 2 ^ n → x % 2 ^ n = y % 2 ^ n := by
      intro n
      induction n with
      | zero => intro x y _; rw [Nat.pow_zero, Nat.mod_one, Nat.mod_one]
      | succ n ih =>
        intro x y h
        have hn : 2 ^ (n + 1) = 2 * 2 ^ n := by rw [Nat.pow_succ]; omega
        rw [hn] at h ⊢
        have hx : x % 2 = y % 2 := by
          have h1 : x * 5 % (2 * 2 ^ n) % 2 = y * 5 % (2 * 2 ^ n) % 2 := by rw [h]
          rw [Nat.mod_mul_right_mod, Nat.mod_mul_right_mod] at h1
          omega
        have h2 : (x / 2) * 5 % 2 ^ n = (y / 2) * 5 % 2 ^ n ∨ True := .inr trivial
        rw [Nat.mod_mul, Nat.mod_mul]
        rw [Nat.mod_mul, Nat.mod_mul] at h
        have hx5 : x * 5 % 2 = y * 5 % 2 := by omega
        rw [hx5] at h
        have h3 : x * 5 / 2 % 2 ^ n = y * 5 / 2 % 2 ^ n := by omega
        rcases Nat.mod_two_eq_zero_or_one x with e | e
        · have ex : x * 5 / 2 = (x / 2) * 5 := by omega
          have ey : y * 5 / 2 = (y / 2) * 5 := by omega
          rw [ex, ey] at h3
          rw [ih _ _ h3, hx]
        · have ex : x * 5 / 2 = (x / 2) * 5 + 2 := by omega
          have ey : y * 5 / 2 = (y / 2) * 5 + 2 := by omega
          rw [ex, ey] at h3
          have h4 : (x / 2) * 5 % 2 ^ n = (y / 2) * 5 % 2 ^ n := by
            have := congrArg (fun z => (z + (2 ^ n * 2 - 2)) % 2 ^ n) h3
            have hp : 0 < 2 ^ n := Nat.pow_pos (by decide)
            rw [Nat.mod_add_mod, Nat.mod_add_mod] at this
            rw [show (x / 2) * 5 + 2 + (2 ^ n * 2 - 2) = (x / 2) * 5 + 2 ^ n * 2 by omega, show (y / 2) * 5 + 2 + (2 ^ n * 2 - 2) = (y / 2) * 5 + 2 ^ n * 2 by omega, Nat.add_mul_mod_self_left, Nat.add_mul_mod_self_left] at this
            exact this
          rw [ih _ _ h4, hx]
    exact key n x y h
theorem lcg_inj {n a d : Nat} (hd : d < 2 ^ n) (h : lcgN (2 ^ n - 1) a = lcgN (2 ^ n - 1) (a + d)) : d = 0 := by
  have hp : 0 < 2 ^ n := Nat.pow_pos (by decide)
  have em : 4 * (2 ^ n - 1 + 1) = 2 ^ (n + 2) := by rw [Nat.pow_add]; omega
  have h1 := lcg_pow (2 ^ n - 1) a
  have h2 := lcg_pow (2 ^ n - 1) (a + d)
  rw [em] at h1 h2
  rw [← h, h1] at h2
  have h3 := pow_cancel h2.symm
  rw [Nat.mod_eq_of_lt (show 1 < 2 ^ (n + 2) by rw [Nat.pow_add]; omega)] at h3
  obtain ⟨k, ek⟩ := ord5 h3
  cases k with
  | zero => omega
  | succ k =>
    exfalso
    rw [ek, Nat.mul_succ] at hd
    omega
theorem lcg_back {n : Nat} : lcgN (2 ^ n - 1) (2 ^ n) = 0 := by
  have hp : 0 < 2 ^ n := Nat.pow_pos (by decide)
  have em : 4 * (2 ^ n - 1 + 1) = 2 ^ (n + 2) := by rw [Nat.pow_add]; omega
  have h1 := lcg_pow (2 ^ n - 1) (2 ^ n)
  rw [em] at h1
  obtain ⟨q, e⟩ := pow5 n
  rw [e, Nat.add_mul_mod_self_left, Nat.mod_eq_of_lt (show 1 < 2 ^ (n + 2) by rw [Nat.pow_add]; omega)] at h1
  have hl := lcg_lt (2 ^ n - 1) (2 ^ n)
  have e4 : 2 ^ (n + 2) = 4 * 2 ^ n := by rw [Nat.pow_add]; omega
  rw [Nat.mod_eq_of_lt (by omega)] at h1
  omega
/-! ### the masks that come, and what each needs -/
/-- the masks that come: by growing (Six), and of a set made from a dict -/
def Six (m : Nat) : Prop := m = 7 ∨ m = 31 ∨ m = 127 ∨ m = 511 ∨ m = 2047 ∨ m = 8191
def Mk (m : Nat) : Prop := m = 7 ∨ m = 15 ∨ m = 31 ∨ m = 63 ∨ m = 127 ∨ m = 255 ∨ m = 511 ∨ m = 1023 ∨ m = 2047 ∨ m = 4095 ∨ m = 8191
theorem Mk.pow {m : Nat} (H : Mk m) : ∃ n, m = 2 ^ n - 1 := by
  rcases H with e | e | e | e | e | e | e | e | e | e | e
  · exact ⟨3, e⟩
  · exact ⟨4, e⟩
  · exact ⟨5, e⟩
  · exact ⟨6, e⟩
  · exact ⟨7, e⟩
  · exact ⟨8, e⟩
  · exact ⟨9, e⟩
  · exact ⟨10, e⟩
  · exact ⟨11, e⟩
  · exact ⟨12, e⟩
  · exact ⟨13, e⟩
theorem Mk.le {m : Nat} (H : Mk m) : m ≤ 8191 := by
  rcases H with e | e | e | e | e | e | e | e | e | e | e <;> omega
theorem Mk.odd {m : Nat} (H : Mk m) : m % 2 = 1 := by
  rcases H with e | e | e | e | e | e | e | e | e | e | e <;> omega
theorem Mk.m7 : Mk 7 := (.inl rfl)
theorem Mk.m15 : Mk 15 := (.inr (.inl rfl))
theorem Mk.m31 : Mk 31 := (.inr (.inr (.inl rfl)))
theorem Mk.m63 : Mk 63 := (.inr (.inr (.inr (.inl rfl))))
theorem Mk.m127 : Mk 127 := (.inr (.inr (.inr (.inr (.inl rfl)))))
theorem Mk.m255 : Mk 255 := (.inr (.inr (.inr (.inr (.inr (.inl rfl))))))
theorem Mk.m511 : Mk 511 := (.inr (.inr (.inr (.inr (.inr (.inr (.inl rfl)))))))
theorem Mk.m1023 : Mk 1023 := (.inr (.inr (.inr (.inr (.inr (.inr (.inr (.inl rfl))))))))
theorem Mk.m2047 : Mk 2047 := (.inr (.inr (.inr (.inr (.inr (.inr (.inr (.inr (.inl rfl)))))))))
theorem Mk.m4095 : Mk 4095 := (.inr (.inr (.inr (.inr (.inr (.inr (.inr (.inr (.inr (.inl rfl))))))))))
theorem Mk.m8191 : Mk 8191 := (.inr (.inr (.inr (.inr (.inr (.inr (.inr (.inr (.inr (.inr rfl))))))))))
/-- a round goes through all -/
theorem Mk.all {m : Nat} (H : Mk m) (j : Nat) (hj : j ≤ m) : ∃ b, b ≤ m ∧ lcgN m b = j := by
  obtain ⟨n, rfl⟩ := H.pow
  have hp : 0 < 2 ^ n := Nat.pow_pos (by decide)
  have en : 2 ^ n - 1 + 1 = 2 ^ n := by omega
  apply Classical.byContradiction
  intro no
  have un : ∀ k : Nat, k ≤ 2 ^ n → ((List.range k).map (lcgN (2 ^ n - 1))).Nodup := by
    intro k
    induction k with
    | zero => exact fun _ => .nil
    | succ k ih =>
      intro hk
      rw [List.range_succ, List.map_append]
      refine List.nodup_append.mpr ⟨ih (by omega), List.nodup_cons.mpr ⟨nofun, .nil⟩, fun x hx y hy => ?_⟩
      obtain ⟨a, ha, rfl⟩ := List.mem_map.mp hx
      have la := List.mem_range.mp ha
      rw [List.mem_singleton.mp hy]
      intro e
      obtain ⟨d, rfl⟩ : ∃ d, k = a + d := ⟨k - a, by omega⟩
      have := lcg_inj (by omega) e
      omega
  have key := nat_nodup_len (j :: (List.range (2 ^ n)).map (lcgN (2 ^ n - 1))) (List.range (2 ^ n)) (List.nodup_cons.mpr ⟨fun z => ?_, un _ (Nat.le_refl _)⟩) fun x hx => ?_
  · rw [List.length_cons, List.length_map] at key
    omega
  · obtain ⟨b, hb, e⟩ := List.mem_map.mp z
    exact no ⟨b, by have := List.mem_range.mp hb; omega, e⟩
  · rw [List.mem_range]
    rcases List.mem_cons.mp hx with rfl | hx
    · omega
    · obtain ⟨b, _, rfl⟩ := List.mem_map.mp hx
      have := lcg_lt (2 ^ n - 1) b
      omega
theorem Mk.turn {m : Nat} (H : Mk m) : ∀ k, lcgN m (m + 1 + k) = lcgN m k := by
  obtain ⟨n, rfl⟩ := H.pow
  have hp : 0 < 2 ^ n := Nat.pow_pos (by decide)
  intro k
  induction k with
  | zero =>
    have := lcg_back (n := n)
    rwa [show 2 ^ n - 1 + 1 + 0 = 2 ^ n by omega]
  | succ k ih => exact congrArg (fun z => (z * 5 + 1) % (2 ^ n - 1 + 1)) ih
theorem Mk.from_ {m i j : Nat} (H : Mk m) (hi : i ≤ m) (hj : j ≤ m) : ∃ k, k ≤ m ∧ lcgI m i k = j := by
  obtain ⟨a, ha, rfl⟩ := H.all i hi
  obtain ⟨b, hb, rfl⟩ := H.all j hj
  by_cases c : a ≤ b
  · exact ⟨b - a, by omega, by rw [lcgN_add, Nat.add_sub_cancel' c]⟩
  · refine ⟨m + 1 + b - a, by omega, ?_⟩
    rw [lcgN_add, Nat.add_sub_cancel' (by omega), H.turn]
theorem Mk.run {m : Nat} (H : Mk m) (x : Int) {j : Nat} (hj : j ≤ m) : ∃ n, n ≤ m + 12 ∧ runI m (SetTable.bits x) n = j := by
  obtain ⟨k, hk, e⟩ := H.from_ (runI_le m (SetTable.bits x) 12) hj
  refine ⟨12 + k, by omega, ?_⟩
  rw [runI_tail (bits_lt x), e]
theorem Mk.meets {m : Nat} (H : Mk m) (x : Int) {j : Nat} (hj : j ≤ m) : ∃ k, k < 10 * SetTable.turns m ∧ way m x k = j := by
  obtain ⟨n, hn, e⟩ := H.run x hj
  obtain ⟨k, hk, e2⟩ := run_nth m (SetTable.bits x) n
  refine ⟨k, ?_, by show (nth m _ k).j = j; rw [e2]; exact e⟩
  unfold SetTable.turns
  omega
/-- nowhere outside -/
theorem way_in (m : Nat) (x : Int) (k : Nat) : way m x k ≤ m := by
  have lo : SetTable.bits x % (m + 1) ≤ m := Nat.le_of_lt_succ (Nat.mod_lt _ (Nat.succ_pos m))
  obtain ⟨r1, r2, _⟩ := runEnd_bd lo
  have start : (runAt m (SetTable.bits x % (m + 1)) (SetTable.bits x)).j + (runAt m (SetTable.bits x % (m + 1)) (SetTable.bits x)).more ≤ m := by
    unfold runAt
    dsimp only
    omega
  exact Nat.le_trans (Nat.le_add_right _ _) (nth_in k _ start)
/-- all in it are found again by their hashes -/
structure Tab (t : SetTable) (hs : List Int) : Prop where
  up : Ris t.place.toList
  bare : t.dummies = #[]
  num : t.place.size = hs.length
  two : Mk t.mask
  low : ∀ x ∈ t.place.toList, x ≤ t.mask
  met : ∀ (i : Nat) (x : Int) (j : Nat), hs[i]? = some x → t.place.toList[i]? = some j → ∃ k, way t.mask x k = j ∧ ∀ q, q < k → way t.mask x q ∈ t.place.toList
section
variable {t : SetTable} {hs : List Int}
theorem Tab.free (T : Tab t hs) (hl : hs.length ≤ t.mask) (x : Int) : ∃ K, K < 10 * SetTable.turns t.mask ∧ way t.mask x K ∉ t.place.toList ∧ ∀ q, q < K → way t.mask x q ∈ t.place.toList := by
  obtain ⟨j, hj, out⟩ := st_missing t.place.toList (t.mask + 1) (by have := T.num; rw [← Array.length_toList] at this; omega)
  obtain ⟨k, hk, rfl⟩ := T.two.meets x (Nat.le_of_lt_succ hj)
  obtain ⟨K, le, o, b⟩ := st_least (p := fun q => way t.mask x q ∉ t.place.toList) k out
  exact ⟨K, by omega, o, fun q hq => Classical.not_not.mp (b q hq)⟩
theorem Tab.ahead (T : Tab t hs) {x : Int} {K i j : Nat} (out : way t.mask x K ∉ t.place.toList) (hi : hs[i]? = some x) (hj : t.place.toList[i]? = some j) : ∃ k, k < K ∧ way t.mask x k = j := by
  obtain ⟨k, rfl, b⟩ := T.met i x j hi hj
  refine ⟨k, Classical.byContradiction fun no => ?_, rfl⟩
  by_cases e : k = K
  · subst e
    exact out (List.mem_of_getElem? hj)
  · exact out (b K (by omega))
theorem Tab.ins (T : Tab t hs) {x : Int} {K : Nat} (out : way t.mask x K ∉ t.place.toList) (ahead : ∀ q, q < K → way t.mask x q ∈ t.place.toList) :
    (t.put (way t.mask x K)).2 = SetTable.below t.place (way t.mask x K) ∧ SetTable.below t.place (way t.mask x K) ≤ hs.length ∧
    Tab (t.put (way t.mask x K)).1 (hs.take (SetTable.below t.place (way t.mask x K)) ++ x :: hs.drop (SetTable.below t.place (way t.mask x K))) ∧
    (t.put (way t.mask x K)).1.fill = hs.length + 1 := by
  have inT := way_in t.mask x K
  generalize hj : way t.mask x K = j at out inT
  have cut := (below_cut T.up j).1
  have no : t.place[SetTable.below t.place j]? ≠ some j := fun e => out (List.mem_of_getElem? ((Array.getElem?_toList ..).trans e))
  have pl := put_place t j
  have lp : SetTable.below t.place j ≤ t.place.toList.length := cut
  have lh : SetTable.below t.place j ≤ hs.length := T.num ▸ cut
  have size : (t.put j).1.place.size = hs.length + 1 := by
    rw [← T.num, ← Array.length_toList, pl, len_ins _ lp, Array.length_toList]
  have more : ∀ y ∈ t.place.toList, y ∈ (t.put j).1.place.toList := fun y hy => by
    rw [pl]; exact mem_ins.mpr (.inr hy)
  refine ⟨rfl, lh, ⟨ris_insert T.up no, put_dm T.bare j, size.trans (len_ins hs lh x).symm, T.two, fun y hy => ?_, fun i y j' h1 h2 => ?_⟩, ?_⟩
  · rw [pl] at hy
    exact (mem_ins.mp hy).elim (fun e => e ▸ inT) (T.low y)
  · rw [pl, tins_get _ lp] at h2
    rw [tins_get hs lh] at h1
    have old : ∀ n, hs[n]? = some y → t.place.toList[n]? = some j' → ∃ k, way t.mask y k = j' ∧ ∀ q, q < k → way t.mask y q ∈ (t.put j).1.place.toList := fun n a b => by
      obtain ⟨k, e, z⟩ := T.met n y j' a b
      exact ⟨k, e, fun q hq => more _ (z q hq)⟩
    show ∃ k, way t.mask y k = j' ∧ ∀ q, q < k → way t.mask y q ∈ (t.put j).1.place.toList
    rcases Nat.lt_trichotomy i (SetTable.below t.place j) with c | c | c
    · rw [if_pos c] at h1 h2
      exact old i h1 h2
    · subst c
      rw [if_neg (Nat.lt_irrefl _), if_pos rfl] at h1 h2
      cases h1; cases h2
      exact ⟨K, hj, fun q hq => more _ (ahead q hq)⟩
    · have c1 : ¬ i < SetTable.below t.place j := by omega
      have c2 : ¬ i = SetTable.below t.place j := by omega
      rw [if_neg c1, if_neg c2] at h1 h2
      exact old _ h1 h2
  · unfold SetTable.fill
    rw [size, put_dm T.bare]; rfl
end
/-! ### laid anew -/
theorem seat {m : Nat} (H : Mk m) (owner : Array (Option Nat)) (x : Int) {j : Nat} (hj : j ≤ m) (hf : oAt owner j = none) :
    ∃ K, SetTable.layClean.free m owner (SetTable.turns m) (SetTable.bits x % (m + 1)) (SetTable.bits x) = some (way m x K) ∧ oAt owner (way m x K) = none ∧ ∀ q, q < K → oAt owner (way m x q) ≠ none := by
  obtain ⟨n, hn, e⟩ := H.run x hj
  have at_ : way m x (off m (SetTable.bits x % (m + 1)) (SetTable.bits x) n) = j := by
    unfold way
    rw [nth_off, itL_run]; exact e
  obtain ⟨K, le, o, b⟩ := st_least (p := fun q => oAt owner (way m x q) = none) (off m (SetTable.bits x % (m + 1)) (SetTable.bits x) n) (by show oAt owner (way m x _) = none; rw [at_, hf])
  refine ⟨K, free_spec m owner _ n _ _ K ?_ le (fun q hq => ?_) ?_, o, b⟩
  · unfold SetTable.turns; omega
  · have := b q hq
    rw [Option.isNone_eq_false_iff, Option.isSome_iff_ne_none]
    exact this
  · rw [Option.isNone_iff_eq_none]
    exact o
theorem sit {m : Nat} (H : Mk m) {done : List Int} {owner : Array (Option Nat)} (W : Own m done owner) (hl : done.length ≤ m) (x : Int) :
    ∃ j, SetTable.layClean.free m owner (SetTable.turns m) (SetTable.bits x % (m + 1)) (SetTable.bits x) = some j ∧ Own m (done ++ [x]) (owner.setIfInBounds j (some done.length)) := by
  obtain ⟨ps, ls, inS⟩ := W.ps
  obtain ⟨j, lj, nj⟩ := st_missing ps (m + 1) (by omega)
  have empty : oAt owner j = none := Classical.byContradiction fun c => nj (inS j (by omega) c)
  obtain ⟨K, e, o, b⟩ := seat H owner x (Nat.le_of_lt_succ lj) empty
  have lm := way_in m x K
  have self := oAt_set_self (owner := owner) (j := way m x K) (some done.length) (by rw [W.sz]; omega)
  have other : ∀ i, i ≠ way m x K → oAt (owner.setIfInBounds (way m x K) (some done.length)) i = oAt owner i := fun i c => oAt_set_ne _ c
  have still : ∀ i, oAt owner i ≠ none → oAt (owner.setIfInBounds (way m x K) (some done.length)) i ≠ none := fun i hi => by
    rw [other i fun c => hi (c ▸ o)]; exact hi
  refine ⟨_, e, ⟨?_, fun i k li ei => ?_, fun k hk => ?_, way m x K :: ps, ?_, fun i li ei => ?_⟩⟩
  · rw [Array.size_setIfInBounds, W.sz]
  · by_cases c : i = way m x K
    · subst c
      rw [self] at ei
      cases ei
      exact ⟨x, K, by rw [List.getElem?_append_right (Nat.le_refl _), Nat.sub_self]; rfl, rfl, fun q hq => still _ (b q hq)⟩
    · rw [other i c] at ei
      obtain ⟨y, K2, g1, g2, g3⟩ := W.at_ i k li ei
      refine ⟨y, K2, ?_, g2, fun q hq => still _ (g3 q hq)⟩
      have := (List.getElem?_eq_some_iff.mp g1).1
      rwa [List.getElem?_append_left this]
  · by_cases c : k < done.length
    · obtain ⟨i, li, ei⟩ := W.all k c
      exact ⟨i, li, (other i fun z => by rw [z, o] at ei; cases ei).trans ei⟩
    · have l1 : (done ++ [x]).length = done.length + 1 := List.length_append
      obtain rfl : k = done.length := by omega
      exact ⟨_, lm, self⟩
  · rw [List.length_cons, ls, List.length_append]; rfl
  · by_cases c : i = way m x K
    · rw [c]; exact .head _
    · rw [other i c] at ei
      exact .tail _ (inS i li ei)
theorem sit_all {m : Nat} (H : Mk m) : ∀ (rest done : List Int) (owner : Array (Option Nat)), Own m done owner → done.length + rest.length ≤ m →
    ∃ o2, rest.foldl (stepF m) (some (owner, done.length)) = some (o2, done.length + rest.length) ∧ Own m (done ++ rest) o2
  | [], done, owner, W, _ => ⟨owner, rfl, (List.append_nil done).symm ▸ W⟩
  | x :: rest, done, owner, W, hl => by
    have hl2 : done.length + (rest.length + 1) ≤ m := hl
    obtain ⟨j, e, W2⟩ := sit H W (by omega) x
    have l1 : (done ++ [x]).length = done.length + 1 := List.length_append
    obtain ⟨o2, f, W3⟩ := sit_all H rest (done ++ [x]) _ W2 (by omega)
    rw [l1, show done.length + 1 + rest.length = done.length + (rest.length + 1) by omega] at f
    rw [List.append_assoc] at W3
    exact ⟨o2, by rw [List.foldl_cons, stepF_some e]; exact f, W3⟩
theorem anew (t : SetTable) {xs : Array Int} {n M : Nat} (en : SetTable.sizeAbove n - 1 = M) (H : Mk M) (few : xs.size ≤ M) :
    ∃ t' order, t.relaid xs n = some (t', order) ∧ order.toList.Perm (List.range xs.size) ∧ Tab t' (order.toList.map fun i => xs.getD i 0) ∧ t'.mask = M ∧ t'.led = t.led ∧ t'.plain = t.plain ∧ t'.dummies = #[] := by
  obtain ⟨owner, f, W⟩ := sit_all H xs.toList [] _ (Own.init M) (by rw [Array.length_toList]; exact (Nat.zero_add _).symm ▸ few)
  rw [List.nil_append] at W
  have e : t.relaid xs n = some (tabOf t M owner, ((liveOf M owner).map (·.2)).toArray) := by
    have f2 : xs.toList.foldl (stepF M) (some (Array.replicate (M + 1) none, 0)) = some (owner, 0 + xs.toList.length) := f
    rw [relaid_eq, layClean_eq, en, f2]; rfl
  obtain ⟨up, sub⟩ := ris_live (fun j => owner.getD j none) (List.range (M + 1)) List.pairwise_lt_range
  have up : Ris ((liveOf M owner).map (·.1)) := up
  have inR : ∀ y ∈ (liveOf M owner).map (·.1), y ∈ List.range (M + 1) := sub
  have lz : (liveOf M owner).length = xs.size := by
    obtain ⟨ps, l1, l2⟩ := W.ps
    have l1 : ps.length = xs.size := l1
    refine Nat.le_antisymm ?_ ?_
    · rw [← l1, ← List.length_map (f := fun q : Nat × Nat => q.1)]
      refine nat_nodup_len _ ps (up.imp fun h => Nat.ne_of_lt h) fun y hy => ?_
      obtain ⟨⟨_, k⟩, hq, rfl⟩ := List.mem_map.mp hy
      obtain ⟨g1, g2⟩ := (mem_live W.sz).mp hq
      exact l2 _ g1 (by rw [g2]; nofun)
    · rw [← List.length_range (n := xs.size), ← List.length_map (as := liveOf M owner) (f := fun q : Nat × Nat => q.2)]
      refine nat_nodup_len _ _ List.nodup_range fun k hk => ?_
      obtain ⟨i, g1, g2⟩ := W.all k (by rw [Array.length_toList]; exact List.mem_range.mp hk)
      exact List.mem_map.mpr ⟨_, (mem_live W.sz).mpr ⟨g1, g2⟩, rfl⟩
  refine ⟨_, _, e, perm_range _ _ ((List.length_map _).trans lz) fun k hk => ?_, ⟨up, rfl, ?_, H, fun y hy => Nat.le_of_lt_succ (List.mem_range.mp (inR y hy)), fun i x j h1 h2 => ?_⟩, rfl, rfl, rfl, rfl⟩
  · obtain ⟨i, g1, g2⟩ := W.all k (by rw [Array.length_toList]; exact hk)
    exact List.mem_map.mpr ⟨_, (mem_live W.sz).mpr ⟨g1, g2⟩, rfl⟩
  · show ((liveOf M owner).map (·.1)).length = (((liveOf M owner).map (·.2)).map fun i => xs.getD i 0).length
    simp only [List.length_map]
  · have h1 : (((liveOf M owner).map (·.2)).map fun i => xs.getD i 0)[i]? = some x := h1
    have h2 : ((liveOf M owner).map (·.1))[i]? = some j := h2
    show ∃ k, way M x k = j ∧ ∀ q, q < k → way M x q ∈ (liveOf M owner).map (·.1)
    rw [List.map_map, List.getElem?_map] at h1
    rw [List.getElem?_map] at h2
    obtain ⟨⟨j2, k⟩, eq, rfl⟩ := Option.map_eq_some_iff.mp h2
    rw [eq] at h1
    obtain ⟨g1, g2⟩ := (mem_live W.sz).mp (List.mem_of_getElem? eq)
    obtain ⟨y, K, a1, a2, a3⟩ := W.at_ _ k g1 g2
    have ey : xs.getD k 0 = y := by
      rw [Array.getElem?_toList] at a1
      rw [Array.getD_eq_getD_getElem?, a1]; rfl
    have ex : xs.getD k 0 = x := Option.some.inj h1
    rw [ey] at ex
    subst ex
    refine ⟨K, a2, fun q hq => ?_⟩
    obtain ⟨k2, e2⟩ := Option.ne_none_iff_exists'.mp (a3 q hq)
    exact List.mem_map.mpr ⟨(_, k2), (mem_live W.sz).mpr ⟨way_in M y q, e2⟩, rfl⟩
theorem grow15 : SetTable.sizeAbove (SetTable.grown 9) = 64 := by decide +kernel
theorem grow63 : SetTable.sizeAbove (SetTable.grown 38) = 256 := by decide +kernel
theorem grow255 : SetTable.sizeAbove (SetTable.grown 153) = 1024 := by decide +kernel
theorem grow1023 : SetTable.sizeAbove (SetTable.grown 614) = 4096 := by decide +kernel
theorem grow3 : SetTable.sizeAbove (SetTable.grown 77) = 512 := by decide +kernel
theorem grow4 : SetTable.sizeAbove (SetTable.grown 307) = 2048 := by decide +kernel
theorem grow5 : SetTable.sizeAbove (SetTable.grown 1229) = 8192 := by decide +kernel
/-! ### the way of a hash through a table -/
abbrev prN (m : Nat) (x : Int) (c : Nat) : SetTable.Probe := nth m (runAt m (SetTable.bits x % (m + 1)) (SetTable.bits x)) c
theorem prN_plus (m : Nat) (x : Int) (c q : Nat) : nth m (prN m x c) q = prN m x (c + q) := (nth_add m c _ q).symm
theorem no_dummy (m : Nat) : ∀ (n : Nat) (p : SetTable.Probe), p.dummy = none → (nth m p n).dummy = none
  | 0, _, e => e
  | n + 1, p, e => no_dummy m n (adv m p) (by unfold adv; split <;> exact e)
section
variable {t : SetTable} {hs : List Int}
/-- from the c-th step on: the first of that hash, or the free slot -/
theorem probe_ways (T : Tab t hs) (ha : Nat → Int) (x : Int) {K c : Nat} (hc : c ≤ K) (hf : K < 10 * SetTable.turns t.mask) (free : way t.mask x K ∉ t.place.toList) (full : ∀ q, q < K → way t.mask x q ∈ t.place.toList) :
    (∃ q i, c ≤ q ∧ q < K ∧ t.place.toList[i]? = some (way t.mask x q) ∧ ha i = x ∧ (∀ q' i', c ≤ q' → q' < q → t.place.toList[i']? = some (way t.mask x q') → ha i' ≠ x) ∧
      t.probe ha x (prN t.mask x c) = some (.candidate (way t.mask x q) i (prN t.mask x (q + 1)))) ∨
    ((∀ q' i', c ≤ q' → q' < K → t.place.toList[i']? = some (way t.mask x q') → ha i' ≠ x) ∧ t.probe ha x (prN t.mask x c) = some (.empty (way t.mask x K) none)) := by
  have w1 : ∀ q, (nth t.mask (prN t.mask x c) q).j = way t.mask x (c + q) := fun q => by rw [prN_plus]
  have g := go_spec t T.up T.bare ha x (10 * SetTable.turns t.mask) (K - c) (prN t.mask x c) (no_dummy _ _ _ rfl) (by omega)
    (fun q hq => by rw [w1]; exact full _ (by omega)) (by rw [w1, Nat.add_sub_cancel' hc]; exact free)
  rcases g with ⟨q, i, g1, g2, g3, g4, g5⟩ | ⟨g4, g5⟩
  · rw [w1] at g2
    refine .inl ⟨c + q, i, Nat.le_add_right _ _, by omega, g2, g3, fun q' i' h1 h2 h3 => ?_, ?_⟩
    · refine g4 (q' - c) i' (by omega) ?_
      rw [w1, Nat.add_sub_cancel' h1]; exact h3
    · rw [w1, prN_plus] at g5
      exact g5
  · refine .inr ⟨fun q' i' h1 h2 h3 => ?_, ?_⟩
    · refine g4 (q' - c) i' (by omega) ?_
      rw [w1, Nat.add_sub_cancel' h1]; exact h3
    · rw [w1, Nat.add_sub_cancel' hc] at g5
      exact g5
end
/-! ### kinds -/
structure Calm {P : Program} {w : World} {κ : Type} [DecidableEq κ] (HD : HeapKind P w κ) : Prop where
  rm : ∀ A : Around, A.units + 8 < cLine → HD.room A
  cls : ∀ {A : Around} {E : Value → Shared → Prop} {s : Shared} {k : κ} {b : Addr} {Q : Bool → Shared → Prop}, HD.is s.heap k b → Q false s → wpAny (model P w) A (ofAClassStatement 8 (.ref b)) Q E s
  val : ∀ {A : Around} {E : Value → Shared → Prop} {s : Shared} {k : κ} {b : Addr} {Q : Bool → Shared → Prop}, HD.is s.heap k b → (∀ c, Q c s) → wpAny (model P w) A (hashByValue 8 (.ref b)) Q E s
  old : ∀ {h h' : Heap} {k : κ} {b : Addr}, HD.is h k b → (∀ c o, h.get? c = some o → h'.get? c = some o) → HD.is h' k b
  put : ∀ {h h' : Heap} {k : κ} {a b : Addr} {o : Obj} {es : Array (Int × Value)} {ep : Nat} {t : SetTable}, HD.is h k b → h.get? a = some o → o.data = .set es ep t → Heap.SameBut a h h' → HD.is h' k b
section
variable {P : Program} {w : World} {A : Around} {E : Value → Shared → Prop} {s : Shared} {κ : Type} [DecidableEq κ] {HD : HeapKind P w κ}
/-- looking through things of the kind shows nothing -/
theorem unseen (C : Calm HD) {k : κ} {b : Addr} {Q : Bool → Shared → Prop} (hk : HD.is s.heap k b) {ys : List Value} (hy : ∀ y ∈ ys, ∃ c k', y = Value.ref c ∧ HD.is s.heap k' c) (q : Q false s) :
    wpAny (model P w) A (searchCouldBeSeen (.ref b) ys) Q E s := by
  unfold searchCouldBeSeen
  apply wpAny_bind
  refine wpAny_forIn_list _ (fun todo r z => z = s ∧ r.1 = none ∧ ∀ y ∈ todo, ∃ c k', y = Value.ref c ∧ HD.is z.heap k' c) _ ?_ ?_ _ _ ⟨rfl, rfl, hy⟩
  · rintro y todo r z ⟨rfl, r0, all⟩
    obtain ⟨c, k', rfl, hc⟩ := all y List.mem_cons_self
    have tl := fun v hv => all v (List.mem_cons_of_mem _ hv)
    dsimp only
    by_cases same : (b == c || (carriedByValue (.ref b) && carriedByValue (.ref c))) = true
    · exact wp_if_pos same (wpAny_pure ⟨rfl, rfl, tl⟩)
    · apply wp_if_neg same
      apply wpAny_bind
      apply HD.quiet hk
      simp only [Bool.false_eq_true, Bool.not_true, if_false]
      apply wpAny_bind
      apply HD.quiet hc
      simp only [Bool.false_eq_true, Bool.not_true, if_false]
      apply wpAny_bind
      apply C.cls hk
      simp only [Bool.false_eq_true, if_false]
      apply wpAny_bind
      apply C.cls hc
      simp only [Bool.false_eq_true, if_false]
      exact wpAny_pure ⟨rfl, rfl, tl⟩
  · rintro ⟨r, r'⟩ z ⟨rfl, r0, _⟩
    dsimp only at r0
    subst r0
    exact wpAny_pure q
/-! ### a set -/
abbrev ent (HD : HeapKind P w κ) (p : Addr × κ) : Int × Value := (HD.hash p.2, Value.ref p.1)
structure On (HD : HeapKind P w κ) (h : Heap) (a : Addr) (L : List (Addr × κ)) (es : Array (Int × Value)) (ep : Nat) (t : SetTable) : Prop where
  obj : ∃ o, h.get? a = some o ∧ o.ExactSet ∧ o.data = .set es ep t
  ents : es.toList = L.map (ent HD)
  tab : Tab t (L.map fun p => HD.hash p.2)
  uni : (L.map (·.2)).Nodup
  its : ∀ p ∈ L, HD.is h p.2 p.1
  ld : w.params.followText "set-order" = true ∨ t.led = true
  rm : L.length * 5 < t.mask * 3
  few : L.length < 4000
variable {a : Addr} {L : List (Addr × κ)} {es : Array (Int × Value)} {ep : Nat} {t : SetTable}
theorem On.es_len (R : On HD s.heap a L es ep t) : es.size = L.length := by
  rw [← Array.length_toList, R.ents, List.length_map]
theorem On.place_len (R : On HD s.heap a L es ep t) : t.place.toList.length = L.length := by
  rw [Array.length_toList, R.tab.num, List.length_map]
theorem fits_len {n : Nat} (z : t.place.size = n) (d : t.dummies = #[]) (l : n ≤ t.mask) : t.fits n = true := by
  unfold SetTable.fits SetTable.fill
  rw [d, z, beq_self_eq_true, Bool.true_and]
  exact decide_eq_true (by show n + 0 ≤ t.mask; omega)
theorem On.ok (R : On HD s.heap a L es ep t) : t.fits es.size = true := by
  have := R.rm
  rw [R.es_len]
  exact fits_len (by rw [← Array.length_toList]; exact R.place_len) R.tab.bare (by omega)
theorem On.at_ (R : On HD s.heap a L es ep t) {i : Nat} {p : Addr × κ} (e : L[i]? = some p) : es[i]? = some (ent HD p) := by
  rw [← Array.getElem?_toList, R.ents, List.getElem?_map, e, Option.map_some]
theorem stays (t : SetTable) : t.sameMemory t.moves t.mask = some true := by
  unfold SetTable.sameMemory
  simp
/-- looked for from the c-th step of its way on -/
theorem seek (C : Calm HD) (R : On HD s.heap a L es ep t) {x : Addr} {k : κ} (hx : HD.is s.heap k x) (rm : HD.room A) {K : Nat} (lK : K < 10 * SetTable.turns t.mask)
    (free : way t.mask (HD.hash k) K ∉ t.place.toList) (full : ∀ q, q < K → way t.mask (HD.hash k) q ∈ t.place.toList) {Q : SetFound → Shared → Prop}
    (yes : k ∈ L.map (·.2) → Q (.there none) s) (no : k ∉ L.map (·.2) → Q (.free (way t.mask (HD.hash k) K) false) s) :
    ∀ (fu c : Nat) (st : Option SetTable.Probe), st.getD (t.probeStart (HD.hash k)) = prN t.mask (HD.hash k) c → c ≤ K → K < c + fu →
      (∀ (i : Nat) (p : Addr × κ), L[i]? = some p → p.2 = k → ∃ q, c ≤ q ∧ q < K ∧ t.place.toList[i]? = some (way t.mask (HD.hash k) q)) →
      wpAny (model P w) A (setSearchFrom a (.ref x) (HD.hash k) true fu st) Q E s := by
  obtain ⟨o, ho, hex, hd⟩ := R.obj
  have look : ∀ {β : Type} {f : Array (Int × Value) × Nat × SetTable → Sem β} {Q : β → Shared → Prop}, wpAny (model P w) A (f (es, ep, t)) Q E s → wpAny (model P w) A (setState a >>= f) Q E s := fun h => wpAny_bind (wpAny_setState_of ho hd R.ok h)
  have gave : ¬ t.gaveWay = true := by
    unfold SetTable.gaveWay
    rw [R.tab.two.odd]; decide
  have hashOf : ∀ (i : Nat) (p : Addr × κ), L[i]? = some p → (es[i]?.map (·.1)).getD 0 = HD.hash p.2 := fun i p e => by rw [R.at_ e]; rfl
  intro fu
  induction fu with
  | zero => intro c st _ h1 h2; omega
  | succ fu ih =>
    intro c st hst hc hf there
    rw [setSearchFrom_succ]
    apply look
    dsimp only
    apply wp_if_neg gave
    rw [hst]
    rcases probe_ways R.tab (fun i => (es[i]?.map (·.1)).getD 0) (HD.hash k) hc lK free full with ⟨q, i, cq, qK, hi, hh, first, hp⟩ | ⟨none_, hp⟩
    · rw [hp]
      dsimp only
      have li : i < L.length := by
        rw [← R.place_len]
        exact (List.getElem?_eq_some_iff.mp hi).1
      obtain ⟨p, ep'⟩ : ∃ p, L[i]? = some p := ⟨_, List.getElem?_eq_getElem li⟩
      have pL : p ∈ L := List.mem_of_getElem? ep'
      have go : wpAny (model P w) A (searchRest a (.ref x) (HD.hash k) true fu es t (way t.mask (HD.hash k) q) i (prN t.mask (HD.hash k) (q + 1))) Q E s := by
        unfold searchRest
        rw [R.at_ ep']
        dsimp only
        apply wpAny_bind
        apply wpAny_holding
        apply HD.eqBool rm (R.its p pL) hx
        apply look
        dsimp only
        by_cases same : p.2 = k
        · rw [decide_eq_true same]
          exact wp_if_pos rfl (wpAny_pure (yes (List.mem_map.mpr ⟨p, pL, same⟩)))
        · rw [decide_eq_false same]
          refine wp_if_neg (by decide) ?_
          rw [stays]
          dsimp only
          have sl : t.slot (way t.mask (HD.hash k) q) = .live i := slot_live R.tab.up hi
          simp only [if_true, sl, R.at_ ep']
          apply wpAny_bind
          apply wpAny_isSame_ref_self
          apply wpAny_bind
          apply wpAny_pure
          simp only [if_true]
          refine wp_if_neg (by decide) ?_
          refine ih (q + 1) _ rfl qK (by omega) fun i2 p2 e2 k2 => ?_
          obtain ⟨q2, a1, a2, a3⟩ := there i2 p2 e2 k2
          refine ⟨q2, ?_, a2, a3⟩
          rcases Nat.lt_trichotomy q2 q with z | z | z
          · exact absurd ((hashOf i2 p2 e2).trans (by rw [k2])) (first q2 i2 a1 z a3)
          · rw [z] at a3
            have s2 := slot_live R.tab.up a3
            rw [sl] at s2
            injection s2 with s2
            rw [← s2, ep'] at e2
            cases e2
            exact absurd k2 same
          · exact z
      by_cases led : t.led = true
      · refine wp_if_neg (by rw [led]; decide) ?_
        exact go
      · refine wp_if_pos (by simpa using led) ?_
        apply wpAny_bind
        refine unseen C hx (fun y hy => ?_) (wp_if_neg Bool.false_ne_true go)
        obtain ⟨u, hu, rfl⟩ := List.mem_map.mp hy
        have hu : u ∈ es ∧ u.1 = HD.hash k := by simpa using hu
        have hu : u ∈ es.toList := by simpa using hu.1
        rw [R.ents] at hu
        obtain ⟨p2, h2, rfl⟩ := List.mem_map.mp hu
        exact ⟨p2.1, p2.2, rfl, R.its p2 h2⟩
    · rw [hp]
      dsimp only
      refine wpAny_pure (no fun m => ?_)
      obtain ⟨p, pL, pk⟩ := List.mem_map.mp m
      obtain ⟨i, li, e⟩ := List.getElem_of_mem pL
      have e2 : L[i]? = some p := by rw [List.getElem?_eq_getElem li, e]
      obtain ⟨q, a1, a2, a3⟩ := there i p e2 pk
      exact none_ q i a1 a2 a3 ((hashOf i p e2).trans (by rw [pk]))
/-- as adding looks -/
theorem seek0 (C : Calm HD) (R : On HD s.heap a L es ep t) {x : Addr} {k : κ} (hx : HD.is s.heap k x) (rm : HD.room A) {Q : SetFound → Shared → Prop}
    (yes : k ∈ L.map (·.2) → Q (.there none) s)
    (no : ∀ K, k ∉ L.map (·.2) → way t.mask (HD.hash k) K ∉ t.place.toList → (∀ q, q < K → way t.mask (HD.hash k) q ∈ t.place.toList) → Q (.free (way t.mask (HD.hash k) K) false) s) :
    wpAny (model P w) A (setSearch a (.ref x) (HD.hash k) true) Q E s := by
  have := R.rm
  obtain ⟨K, lK, free, full⟩ := R.tab.free (by rw [List.length_map]; omega) (HD.hash k)
  have turns : 10 * SetTable.turns t.mask < 100000 := by
    unfold SetTable.turns
    have := R.tab.two.le
    omega
  unfold setSearch
  refine seek C R hx rm lK free full yes (fun n => no K n free full) 100000 0 none rfl (Nat.zero_le K) (by omega) fun i p e pk => ?_
  have li : i < t.place.toList.length := by
    rw [R.place_len]
    exact (List.getElem?_eq_some_iff.mp e).1
  obtain ⟨q, lq, eq⟩ := R.tab.ahead (x := HD.hash k) (i := i) free (by rw [List.getElem?_map, e, Option.map_some, pk]) (List.getElem?_eq_getElem li)
  exact ⟨q, Nat.zero_le q, lq, by rw [eq]; exact List.getElem?_eq_getElem li⟩
end
/-! # G85: a thing put into a set of its kind; set(list) -/
theorem all_of_range {t : Type} : ∀ L : List t, (List.range L.length).filterMap (fun i => L[i]?) = L
  | [] => rfl
  | x :: L => by
    rw [List.length_cons, List.range_succ_eq_map, List.filterMap_cons_some (f := fun i => (x :: L)[i]?) (b := x) rfl, List.filterMap_map]
    congr 1
    exact all_of_range L
section
variable {P : Program} {w : World} {A : Around} {E : Value → Shared → Prop} {s : Shared} {κ : Type} [DecidableEq κ] {HD : HeapKind P w κ}
theorem reorder {L : List (Addr × κ)} {es : Array (Int × Value)} {order : Array Nat} (hr : es.toList = L.map (ent HD)) (hp : order.toList.Perm (List.range L.length)) :
    ∃ L2 : List (Addr × κ), (order.filterMap (es[·]?)).toList = L2.map (ent HD) ∧ L2.Perm L ∧ (L2.map fun p => HD.hash p.2) = order.toList.map fun i => (es.map (·.1)).getD i 0 := by
  have one : ∀ i : Nat, es[i]? = (L[i]?).map (ent HD) := fun i => by rw [← Array.getElem?_toList, hr, List.getElem?_map]
  refine ⟨order.toList.filterMap fun i => L[i]?, ?_, ?_, ?_⟩
  · rw [Array.toList_filterMap, List.map_filterMap]
    congr 1
    funext i
    exact one i
  · have := hp.filterMap fun i => L[i]?
    rwa [all_of_range] at this
  · have key : ∀ l : List Nat, (∀ i ∈ l, i < L.length) → (l.filterMap fun i => L[i]?).map (fun p => HD.hash p.2) = l.map fun i => (es.map (·.1)).getD i 0 := by
      intro l
      induction l with
      | nil => intro _; rfl
      | cons i l ih =>
        intro lt
        have li := lt i List.mem_cons_self
        have e1 : L[i]? = some L[i] := List.getElem?_eq_getElem li
        have e2 : (es.map (·.1)).getD i 0 = HD.hash L[i].2 := by
          rw [Array.getD_eq_getD_getElem?, Array.getElem?_map, one, e1]; rfl
        rw [List.filterMap_cons_some e1, List.map_cons, List.map_cons, ih fun j hj => lt j (List.mem_cons_of_mem _ hj), e2]
    exact key _ fun i hi => List.mem_range.mp (hp.subset hi)
theorem ents_len {L : List (Addr × κ)} {es : Array (Int × Value)} (hr : es.toList = L.map (ent HD)) : es.size = L.length := by rw [← Array.length_toList, hr, List.length_map]
/-- what stands behind a thing put in -/
def Put (HD : HeapKind P w κ) (a : Addr) (h : Heap) (L : List (Addr × κ)) (m : Nat) (x : Addr) (k : κ) (h' : Heap) : Prop :=
  ∃ (L' : List (Addr × κ)) (es' : Array (Int × Value)) (ep' : Nat) (t' : SetTable), Heap.SameBut a h h' ∧ On HD h' a L' es' ep' t' ∧ (k ∈ L.map (·.2) ∧ L' = L ∨ k ∉ L.map (·.2) ∧ L'.Perm ((x, k) :: L)) ∧ (Six m → Six t'.mask) ∧ ((L.length + 1) * 5 < m * 3 → t'.mask = m)
variable {a : Addr} {L : List (Addr × κ)} {es : Array (Int × Value)} {ep : Nat} {t : SetTable}
theorem relay (C : Calm HD) {o : Obj} (ho : s.heap.get? a = some o) (hex : o.ExactSet) (hd : o.data = .set es ep t) (hr : es.toList = L.map (ent HD)) (pz : t.place.size = es.size) (dm : t.dummies = #[]) (lm : es.size ≤ t.mask)
    (un : (L.map (·.2)).Nodup) (its : ∀ p ∈ L, HD.is s.heap p.2 p.1) (ld : w.params.followText "set-order" = true ∨ t.led = true) (few : L.length < 4000) {n M : Nat}
    (hn : SetTable.sizeAbove n = M + 1) (hM : Mk M) (lt : L.length * 5 < M * 3) {Q : Unit → Shared → Prop}
    (q : ∀ (h' : Heap) (L' : List (Addr × κ)) (es' : Array (Int × Value)) (ep' : Nat) (t' : SetTable), Heap.SameBut a s.heap h' → On HD h' a L' es' ep' t' → L'.Perm L → t'.mask = M → Q () { s with heap := h' }) : wpAny (model P w) A (setRelay a n) Q E s := by
  have el := ents_len hr
  obtain ⟨t', order, e, hp, T, em, eled, epl, ed⟩ := anew t (xs := es.map (·.1)) (n := n) (M := M) (by rw [hn]; rfl) hM (by rw [Array.size_map, el]; omega)
  rw [Array.size_map, el] at hp
  obtain ⟨L2, r1, r2, r3⟩ := reorder hr hp
  rw [← r3] at T
  have z2 : (order.filterMap (es[·]?)).size = es.size := by rw [ents_len r1, r2.length_eq, el]
  have M127 := hM.le
  rw [setRelay_eq]
  apply wpAny_bind
  apply wpAny_setState_of ho hd (fits_len pz dm lm)
  dsimp only
  refine wp_if_neg (by rw [hn, sizeLine_eq]; omega) ?_
  rw [e]
  dsimp only
  apply wpAny_bind
  refine wp_if_neg (by rw [z2, bne_self_eq_false]; exact Bool.false_ne_true) (wpAny_pure ?_)
  dsimp only
  refine wpAny_storeSet_of ho hd ?_ (by rw [z2, el, sizeLine_eq]; omega)
  have sb : Heap.SameBut a s.heap (s.heap.update a (Obj.putSet (order.filterMap (es[·]?)) t')) := Heap.SameBut.update ..
  refine q _ L2 _ _ t' sb ⟨⟨_, store_at ho hd, ⟨hex.1, hex.2.1, hex.2.2⟩, rfl⟩, r1, T, (r2.map _).nodup_iff.mpr un, fun p hp2 => C.put (its p (r2.subset hp2)) ho hd sb, by rw [eled]; exact ld, by rw [r2.length_eq, em]; exact lt, by rw [r2.length_eq]; exact few⟩ r2 em
theorem put_in (C : Calm HD) (R : On HD s.heap a L es ep t) {x : Addr} {k : κ} (hx : HD.is s.heap k x) (rm : HD.room A) (few : L.length + 1 < 4000) (hb : t.mask = 4095 → L.length + 1 < 2457) {Q : Bool → Shared → Prop}
    (q : ∀ b h', Put HD a s.heap L t.mask x k h' → Q b { s with heap := h' }) : wpAny (model P w) A (setAddHashed a (.ref x) (HD.hash k)) Q E s := by
  obtain ⟨o, ho, hex, hd⟩ := R.obj
  have el := R.es_len
  have pz := R.place_len
  have rm2 := R.rm
  unfold setAddHashed
  apply wpAny_holding
  show wpAny _ _ (setAddHashedIn a (.ref x) (HD.hash k) (99999 + 1)) _ _ _
  rw [setAddHashedIn_succ]
  apply wpAny_bind
  apply wpAny_setState_of ho hd R.ok
  dsimp only
  have ns : ¬ byScan (.ref x) es = true := by simp [byScan, Value.scannable]
  apply wp_if_neg ns
  apply wpAny_bind
  refine seek0 C R hx rm (fun m => ?_) fun K m free full => ?_
  · exact wpAny_pure (q false s.heap ⟨L, es, ep, t, Heap.SameBut.refl a s.heap, R, .inl ⟨m, rfl⟩, id, fun _ => rfl⟩)
  dsimp only
  apply wpAny_bind
  apply wpAny_setState_of ho hd R.ok
  dsimp only
  obtain ⟨p1, p2, p3, p9⟩ := R.tab.ins free full
  obtain ⟨p4, p5⟩ : (t.put (way t.mask (HD.hash k) K)).1.mask = t.mask ∧ (t.put (way t.mask (HD.hash k) K)).1.led = t.led := ⟨rfl, rfl⟩
  generalize SetTable.below t.place (way t.mask (HD.hash k) K) = b at p1 p2 p3
  generalize t.put (way t.mask (HD.hash k) K) = tb at p1 p3 p4 p5 p9 ⊢
  obtain ⟨t1, b'⟩ := tb
  dsimp only at p1 p3 p4 p5 p9 ⊢
  subst p1
  have insE : (SetTable.insertAt es b' (HD.hash k, Value.ref x)).toList = (L.take b' ++ (x, k) :: L.drop b').map (ent HD) := by
    rw [SetTable.toList_insertAt, R.ents, List.map_append, List.map_cons, List.map_take, List.map_drop]
  have hsE : (L.take b' ++ (x, k) :: L.drop b').map (fun p : Addr × κ => HD.hash p.2) = (L.map fun p => HD.hash p.2).take b' ++ HD.hash k :: (L.map fun p => HD.hash p.2).drop b' := by
    rw [List.map_append, List.map_cons, List.map_take, List.map_drop]
  rw [← hsE] at p3
  have pm := put_perm L b' (x, k)
  generalize L.take b' ++ (x, k) :: L.drop b' = L1 at pm p3 insE hsE
  have l1 : L1.length = L.length + 1 := pm.length_eq
  have un1 : (L1.map (·.2)).Nodup := (pm.map _).nodup_iff.mpr (List.nodup_cons.mpr ⟨m, R.uni⟩)
  have z1 := ents_len insE
  generalize SetTable.insertAt es b' (HD.hash k, Value.ref x) = es1 at insE z1 ⊢
  have tail : ∀ t1 : SetTable, Tab t1 (L1.map fun p => HD.hash p.2) → t1.mask = t.mask → t1.led = t.led → t1.fill = (L.map fun p => HD.hash p.2).length + 1 → wpAny (model P w) A (do
      storeSet a es1 t1
      if !false && t1.tooFull then setRelay a (SetTable.grown (es.size + 1))
      return true) Q E s := by
    clear p3 p4 p5 p9
    intro t1 p3 p4 p5 p9
    apply wpAny_bind
    refine wpAny_storeSet_of ho hd ?_ (by rw [z1, l1, sizeLine_eq]; omega)
    have sb : Heap.SameBut a s.heap (s.heap.update a (Obj.putSet es1 t1)) := Heap.SameBut.update ..
    have ho1 := store_at (es' := es1) (t' := t1) ho hd
    generalize s.heap.update a (Obj.putSet es1 t1) = h1 at sb ho1 ⊢
    have its1 : ∀ p ∈ L1, HD.is h1 p.2 p.1 := fun p hp => by
      rcases List.mem_cons.mp (pm.subset hp) with e | hp
      · rw [e]; exact C.put hx ho hd sb
      · exact C.put (R.its p hp) ho hd sb
    have ld1 : w.params.followText "set-order" = true ∨ t1.led = true := by rw [p5]; exact R.ld
    have fill : t1.tooFull = decide (t1.mask * 3 ≤ (L.length + 1) * 5) := by
      unfold SetTable.tooFull
      rw [p9, List.length_map]
    rw [fill, p4]
    by_cases full2 : t.mask * 3 ≤ (L.length + 1) * 5
    · rw [decide_eq_true full2]
      apply wpAny_bind
      have two : ∃ M, SetTable.sizeAbove (SetTable.grown (es.size + 1)) = M + 1 ∧ Mk M ∧ L1.length * 5 < M * 3 ∧ (Six t.mask → Six M) := by
        rw [el, l1]
        have small := R.few
        have one : ∀ n M, L.length + 1 = n → SetTable.sizeAbove (SetTable.grown n) = M + 1 → Mk M → n * 5 < M * 3 → (Six t.mask → Six M) → ∃ M, SetTable.sizeAbove (SetTable.grown (L.length + 1)) = M + 1 ∧ Mk M ∧ (L.length + 1) * 5 < M * 3 ∧ (Six t.mask → Six M) := fun n M e1 e2 e3 e4 e5 => ⟨M, by rw [e1, e2], e3, by rw [e1]; exact e4, e5⟩
        have no : ∀ {m M : Nat}, t.mask = m → (m ≠ 7 ∧ m ≠ 31 ∧ m ≠ 127 ∧ m ≠ 511 ∧ m ≠ 2047 ∧ m ≠ 8191) → Six t.mask → Six M := fun e n z => by
          rw [e] at z
          unfold Six at z
          omega
        rcases R.tab.two with m | m | m | m | m | m | m | m | m | m | m <;> rw [m] at full2 rm2
        · exact one 5 31 (by omega) size_20 Mk.m31 (by decide) fun _ => .inr (.inl rfl)
        · exact one 9 63 (by omega) grow15 Mk.m63 (by decide) (no m (by decide))
        · exact one 19 127 (by omega) size_76 Mk.m127 (by decide) fun _ => .inr (.inr (.inl rfl))
        · exact one 38 255 (by omega) grow63 Mk.m255 (by decide) (no m (by decide))
        · exact one 77 511 (by omega) grow3 Mk.m511 (by decide) fun _ => .inr (.inr (.inr (.inl rfl)))
        · exact one 153 1023 (by omega) grow255 Mk.m1023 (by decide) (no m (by decide))
        · exact one 307 2047 (by omega) grow4 Mk.m2047 (by decide) fun _ => .inr (.inr (.inr (.inr (.inl rfl))))
        · exact one 614 4095 (by omega) grow1023 Mk.m4095 (by decide) (no m (by decide))
        · exact one 1229 8191 (by omega) grow5 Mk.m8191 (by decide) fun _ => .inr (.inr (.inr (.inr (.inr rfl))))
        · have := hb m
          omega
        · omega
      obtain ⟨M, hM, okM, ltM, six⟩ := two
      refine relay (s := { s with heap := h1 }) C ho1 ⟨hex.1, hex.2.1, hex.2.2⟩ rfl insE ?_ p3.bare ?_ un1 its1 ld1 (by omega) hM okM ltM fun h2 L2 es2 ep2 t2 sb2 R2 pm2 em2 => ?_
      · rw [p3.num, List.length_map, z1]
      · rw [z1, l1, p4]; omega
      · exact wpAny_pure (q true h2 ⟨L2, es2, ep2, t2, sb.trans sb2, R2, .inr ⟨m, pm2.trans pm⟩, fun z => by rw [em2]; exact six z, fun z => by omega⟩)
    · rw [decide_eq_false full2]
      refine wp_if_neg (by decide) ?_
      exact wpAny_pure (q true h1 ⟨L1, es1, _, t1, sb, ⟨⟨_, ho1, ⟨hex.1, hex.2.1, hex.2.2⟩, rfl⟩, insE, p3, un1, its1, ld1, by rw [l1, p4]; omega, by omega⟩, .inr ⟨m, pm⟩, fun z => by rw [p4]; exact z, fun _ => p4⟩)
  have same : Tab { t1 with plain := false } (L1.map fun p => HD.hash p.2) := ⟨p3.up, p3.bare, p3.num, p3.two, p3.low, p3.met⟩
  have both : ∀ c : Bool, wpAny (model P w) A (do
      storeSet a es1 (if c then t1 else { t1 with plain := false })
      if !false && (if c then t1 else { t1 with plain := false }).tooFull then setRelay a (SetTable.grown (es.size + 1))
      return true) Q E s := fun c => by
    cases c with
    | true => exact tail t1 p3 p4 p5 p9
    | false => exact tail { t1 with plain := false } same p4 p5 p9
  cases pl : t1.plain with
  | true =>
    apply wpAny_bind
    exact C.val hx both
  | false => exact both true
end
/-! # G86: set(list) of things of a calm kind -/
section
variable {κ : Type} [DecidableEq κ]
/-- what has come of the first i -/
structure Upto (ks : List (Addr × κ)) (i : Nat) (L : List (Addr × κ)) : Prop where
  of_ : ∀ p ∈ L, p ∈ ks.take i
  all : ∀ p ∈ ks.take i, p.2 ∈ L.map (·.2)
  le : L.length ≤ i
theorem Upto.step {ks L L' : List (Addr × κ)} {i : Nat} {x : Addr × κ} (U : Upto ks i L) (e : ks[i]? = some x) (h : x.2 ∈ L.map (·.2) ∧ L' = L ∨ x.2 ∉ L.map (·.2) ∧ L'.Perm (x :: L)) : Upto ks (i + 1) L' := by
  have tk : ks.take (i + 1) = ks.take i ++ [x] := by rw [List.take_add_one, e]; rfl
  rw [← List.append_nil ks] at tk
  rw [List.append_nil] at tk
  rcases h with ⟨m, rfl⟩ | ⟨_, pm⟩
  · refine ⟨fun p hp => by rw [tk]; exact List.mem_append_left _ (U.of_ p hp), fun p hp => ?_, by have := U.le; omega⟩
    rw [tk] at hp
    exact (List.mem_append.mp hp).elim (U.all p) fun z => by rw [List.mem_singleton.mp z]; exact m
  · refine ⟨fun p hp => ?_, fun p hp => ?_, by rw [pm.length_eq]; exact Nat.succ_le_succ U.le⟩
    · rw [tk]
      exact (List.mem_cons.mp (pm.subset hp)).elim (fun z => by rw [z]; exact List.mem_append_right _ (List.mem_singleton.mpr rfl)) fun z => List.mem_append_left _ (U.of_ p z)
    · rw [tk] at hp
      rw [(pm.map _).mem_iff, List.map_cons]
      exact (List.mem_append.mp hp).elim (fun z => List.mem_cons_of_mem _ (U.all p z)) fun z => by rw [List.mem_singleton.mp z]; exact List.mem_cons_self
variable {P : Program} {w : World} {A : Around} {E : Value → Shared → Prop} {s : Shared} {HD : HeapKind P w κ}
theorem On.later {h h' : Heap} {a : Addr} {L : List (Addr × κ)} {es : Array (Int × Value)} {ep : Nat} {t : SetTable} (R : On HD h a L es ep t) (at_ : ∀ o, h.get? a = some o → h'.get? a = some o) (its : ∀ p ∈ L, HD.is h' p.2 p.1) : On HD h' a L es ep t := by
  obtain ⟨o, ho, r⟩ := R.obj
  exact ⟨⟨o, at_ o ho, r⟩, R.ents, R.tab, R.uni, its, R.ld, R.rm, R.few⟩
abbrev freshSet (w : World) : Obj := { cls := .type "set", dict := none, data := .set #[] 0 (.fresh 0 0 (!w.params.followText "set-order")) }
theorem on_fresh {h : Heap} {a : Addr} (ho : h.get? a = some (freshSet w)) : On HD h a [] #[] 0 (.fresh 0 0 (!w.params.followText "set-order")) :=
  ⟨⟨_, ho, ⟨rfl, rfl, rfl⟩, rfl⟩, rfl, ⟨.nil, rfl, rfl, .inl rfl, nofun, fun i h j e => by simp at e⟩, .nil, nofun, by show _ ∨ (!w.params.followText "set-order") = true; cases w.params.followText "set-order" <;> simp, (show 0 * 5 < 7 * 3 by decide), (show 0 < 4000 by decide)⟩
/-- the loop of update, over whatever is walked -/
theorem fill {I : Addr} {fp wr : List Addr} {G : Array GenState → Array GenState → Prop} {n : Nat} {Pv : Nat → Value → Prop} {St : Nat → Shared → Prop} {R : Result → Shared → Prop}
    (W : WalksS P w A.in1 I fp wr G n Pv St) (C : Calm HD) (S : Addr) (out : S ∉ fp) (ks : List (Addr × κ)) (hn : n = ks.length) (few : ks.length < 4000) (hv : ∀ i v, Pv i v → ∃ p, ks[i]? = some p ∧ v = .ref p.1)
    (h0 : Heap) (hk : ∀ p ∈ ks, HD.is h0 p.2 p.1) (new : h0.get? S = none) (newW : ∀ b ∈ wr, h0.get? b = none) (rm : HD.room A.in1)
 :
    ∀ (m i : Nat) (z : Shared), n = i + m → St i z → (∀ b o, h0.get? b = some o → z.heap.get? b = some o) → (∃ L es ep t, On HD z.heap S L es ep t ∧ Upto ks i L ∧ Six t.mask) →
      (∀ z' L es ep t, Moved (S :: wr) G z z' → On HD z'.heap S L es ep t → Upto ks n L → (∀ b o, h0.get? b = some o → z'.heap.get? b = some o) → R (.ok (.ret .none)) z') →
      codeAny (model P w) A (.builtin "set.update.loop" ⟨[.ref S, .ref I], []⟩) R z := by
  have outW : S ∉ wr := fun m => out (W.sub S m)
  have wide : ∀ b ∈ wr, b ∈ S :: wr := fun b m => List.mem_cons_of_mem S m
  have still : ∀ {y y' : Shared}, Moved wr G y y' → (∀ b o, h0.get? b = some o → y.heap.get? b = some o) → ∀ b o, h0.get? b = some o → y'.heap.get? b = some o := fun mv f b o e =>
    mv.heap b o (fun m => by rw [newW b m] at e; cases e) (f b o e)
  intro m
  induction m with
  | zero =>
    rintro i z e st f ⟨L, es, ep, t, on, U, six⟩ done
    obtain rfl : n = i := e
    apply codeAny_builtin F.entry_set_update_loop
    rw [Around.under_plainId F.plain_set_update_loop]
    show wpAny (model P w) A.in1 (pyNext (.ref I) >>= _) _ _ z
    apply wpAny_bind
    apply W.done z _ _ st
    intro z' mv'
    have f' := still mv' f
    refine wpAny_pure (done z' L es ep t (mv'.mono wide) (on.later (fun o e => mv'.heap S o outW e) fun p hp => C.old (hk p (List.mem_of_mem_take (U.of_ p hp))) f') U f')
  | succ m ih =>
    rintro i z e st f ⟨L, es, ep, t, on, U, six⟩ done
    have lt : i < n := by omega
    apply codeAny_builtin F.entry_set_update_loop
    rw [Around.under_plainId F.plain_set_update_loop]
    show wpAny (model P w) A.in1 (pyNext (.ref I) >>= _) _ _ z
    apply wpAny_bind
    refine W.item i z _ _ lt st fun v z' hP st' mv' => ?_
    obtain ⟨p, ep', rfl⟩ := hv i v hP
    have f' := still mv' f
    have on' := on.later (h' := z'.heap) (fun o e => mv'.heap S o outW e) fun q hq => C.old (hk q (List.mem_of_mem_take (U.of_ q hq))) f'
    have hx : HD.is z'.heap p.2 p.1 := C.old (hk p (List.mem_of_getElem? ep')) f'
    show wpAny (model P w) A.in1 (holding [Value.ref p.1] (setAdd S (.ref p.1)) >>= _) _ _ z'
    apply wpAny_bind
    apply wpAny_holding
    unfold setAdd
    apply wpAny_holding
    apply wpAny_bind
    apply HD.pyHash rm hx
    refine put_in (s := { z' with toks := z'.toks + HD.draws p.2 }) C on' hx rm (by have := U.le; omega) (fun e => by unfold Six at six; omega) fun b h' pt => ?_
    obtain ⟨L', es', ep2, t', sb, on2, h, hs, _⟩ := pt
    have f2 : ∀ b o, h0.get? b = some o → h'.get? b = some o := fun b o e => (sb.2 b fun q => by rw [q, new] at e; cases e).trans (f' b o e)
    refine wpAny_pure ⟨plainId_quiet F.plain_set_update_loop _, ih (i + 1) _ (by omega) (W.frame _ z' _ _ st' (Nat.le_add_right _ _) fun b hb o e => ?_) f2 ⟨L', es', ep2, t', on2, U.step ep' h, hs six⟩ fun z2 L2 es2 ep3 t2 mv2 on3 U3 f3 => done z2 L2 es2 ep3 t2 (Moved.trans W.gtrans ((mv'.mono wide).then_heap (Nat.le_add_right _ _) fun b o hb e => ?_) mv2) on3 U3 f3⟩
    · rw [sb.2 b fun q => out (q ▸ hb)]; exact e
    · rw [sb.2 b fun q => hb (q ▸ List.mem_cons_self)]; exact e
end
/-! # G87: len(set(a list of tuples of numbers and texts)) -/
theorem key_leaf {P : Program} {w : World} {k : Key} {v : Value} (e : (mixKind P w).is k v = true) : (∀ n, ofAClassStatement n v = pure false) ∧ ∀ n, ∃ b, hashByValue n v = pure b := by
  rcases keyIs_shape (show keyIs k v = true from e) with ⟨i, tk, rfl, rfl⟩ | ⟨x, tk, rfl, rfl⟩
  · exact ⟨fun n => by cases n <;> rfl, fun n => ⟨true, by cases n <;> rfl⟩⟩
  · exact ⟨fun n => by cases n <;> rfl, fun n => ⟨false, by cases n <;> rfl⟩⟩
theorem items_leaf {P : Program} {w : World} {ks : List Key} {vs : List Value} (h : ItemsAre (mixKind P w) ks vs) : ∀ v ∈ vs, (∀ n, ofAClassStatement n v = pure false) ∧ ∀ n, ∃ b, hashByValue n v = pure b := by
  induction h with
  | nil => exact fun v hv => nomatch hv
  | cons e _ ih => exact fun v hv => (List.mem_cons.mp hv).elim (fun z => by rw [z]; exact key_leaf e) (ih v)
theorem calm_tup (P : Program) (w : World) : Calm (tupleKind (mixKind P w)) where
  rm := fun A h => show A.units < cLine by omega
  cls := by
    intro A E s k b Q hk q
    have ty := IsTupleKey.typeIs (show IsTupleKey (mixKind P w) s.heap k b from hk)
    obtain ⟨o, items, n, ho, _, hd, hi⟩ := hk
    unfold ofAClassStatement
    apply wpAny_bind
    apply wpAny_typeOf ty
    dsimp only
    have e : (("tuple" : String) == "tuple") = true := by decide
    simp only [e, if_true, Bool.not_true, Bool.false_eq_true, if_false]
    try apply wpAny_bind
    try apply wpAny_pure
    try simp only [Bool.not_true, Bool.false_eq_true, if_false]
    show wpAny _ _ (seqItems? (.ref b) >>= _) _ _ s
    apply wpAny_bind
    apply wpAny_seqItems ho hd
    dsimp only
    apply wpAny_bind
    show wpAny _ _ (forIn items _ _) _ _ s
    rw [← Array.forIn_toList]
    refine wpAny_forIn_list _ (fun todo r z => z = s ∧ r.1 = none ∧ ∀ v ∈ todo, ∀ n, ofAClassStatement n v = pure false) _ ?_ ?_ _ _ ⟨rfl, rfl, fun v hv => (items_leaf hi v hv).1⟩
    · rintro v todo r z ⟨rfl, r0, all⟩
      rw [all v List.mem_cons_self]
      apply wpAny_bind
      apply wpAny_pure
      simp only [Bool.false_eq_true, if_false]
      exact wpAny_pure ⟨rfl, rfl, fun u hu => all u (List.mem_cons_of_mem _ hu)⟩
    · rintro ⟨r1, r2⟩ z ⟨rfl, r0, _⟩
      dsimp only at r0
      subst r0
      exact wpAny_pure q
  val := by
    intro A E s k b Q hk q
    have ty := IsTupleKey.typeIs (show IsTupleKey (mixKind P w) s.heap k b from hk)
    obtain ⟨o, items, n, ho, _, hd, hi⟩ := hk
    unfold hashByValue
    apply wpAny_bind
    apply wpAny_specialOf ty F.slot_tuple_hash.lookup
    show wpAny _ _ (seqItems? (.ref b) >>= _) _ _ s
    apply wpAny_bind
    apply wpAny_seqItems ho hd
    apply wpAny_bind
    show wpAny _ _ (forIn items _ _) _ _ s
    rw [← Array.forIn_toList]
    refine wpAny_forIn_list _ (fun todo r z => z = s ∧ r.1 = none ∧ ∀ v ∈ todo, ∀ n, ∃ c, hashByValue n v = pure c) _ ?_ ?_ _ _ ⟨rfl, rfl, fun v hv => (items_leaf hi v hv).2⟩
    · rintro v todo r z ⟨rfl, r0, all⟩
      obtain ⟨c, hc⟩ := all v List.mem_cons_self 7
      rw [hc]
      apply wpAny_bind
      apply wpAny_pure
      cases c with
      | true =>
        simp only [Bool.not_true, Bool.false_eq_true, if_false]
        exact wpAny_pure ⟨rfl, rfl, fun u hu => all u (List.mem_cons_of_mem _ hu)⟩
      | false =>
        simp only [Bool.not_false, if_true]
        exact wpAny_pure (wpAny_pure (q _))
    · rintro ⟨r1, r2⟩ z ⟨rfl, r0, _⟩
      dsimp only at r0
      subst r0
      exact wpAny_pure (q _)
  old := by
    intro h h' k b hk kp
    obtain ⟨o, items, n, ho, r⟩ := hk
    exact ⟨o, items, n, kp _ _ ho, r⟩
  put := by
    intro h h' k a b o es ep t hk ho hd sb
    obtain ⟨o2, items, n, ho2, hc, hd2, hi⟩ := hk
    refine ⟨o2, items, n, (sb.2 b fun e => ?_).trans ho2, hc, hd2, hi⟩
    subst e
    rw [ho] at ho2
    cases ho2
    rw [hd] at hd2
    cases hd2
end Sg
namespace G
open PySem PySem.Spec PyProof.Rows L2
/-- each once -/
def uq {t : Type} [DecidableEq t] : List t → List t
  | [] => []
  | x :: l => if x ∈ l then uq l else x :: uq l
theorem uq_mem {t : Type} [DecidableEq t] {y : t} : ∀ {l : List t}, y ∈ uq l ↔ y ∈ l
  | [] => Iff.rfl
  | x :: l => by
    unfold uq
    by_cases h : x ∈ l
    · rw [if_pos h, uq_mem, List.mem_cons]
      exact ⟨.inr, fun z => z.elim (fun e => e ▸ h) id⟩
    · rw [if_neg h, List.mem_cons, List.mem_cons, uq_mem]
theorem uq_nd {t : Type} [DecidableEq t] : ∀ l : List t, (uq l).Nodup
  | [] => .nil
  | x :: l => by
    unfold uq
    by_cases h : x ∈ l
    · rw [if_pos h]; exact uq_nd l
    · rw [if_neg h]; exact List.nodup_cons.mpr ⟨fun z => h (uq_mem.mp z), uq_nd l⟩
section
variable {X : Cx} {Wd : WX} {a : Expr} {f1 : FE} {pins : List (Addr × Obj)} {σ : L2.St} {H : Hp} {s : Shared}
theorem kt_is (I : Inv X pins σ H s) {ks : List Key} {t : Addr} (e : H t = some (.tup (ks.map kV))) : (tupleKind (mixKind X.prog X.w)).is s.heap ks t := by
  obtain ⟨its, r, ⟨o, ho, hc, n, hd⟩, hz⟩ := I.tuple (xs := ks.map kV) (.inl (.inl e))
  refine ⟨o, its.toArray, n, ho, hc, hd, ?_⟩
  rw [List.toList_toArray]
  clear hd ho hc e hz
  induction ks generalizing its with
  | nil => cases r; exact .nil
  | cons k ks ih =>
    cases r with
    | cons r1 r2 => exact .cons (kV_is r1) (ih _ r2)
theorem kt_pairs {ts : List Addr} {kss : List (List Key)} (h : KtAt H ts kss) : (ts.zip kss).map (·.1) = ts ∧ (ts.zip kss).map (·.2) = kss ∧ ∀ p ∈ ts.zip kss, H p.1 = some (.tup (p.2.map kV)) := by
  induction h with
  | nil => exact ⟨rfl, rfl, nofun⟩
  | cons e _ ih =>
    obtain ⟨h1, h2, h3⟩ := ih
    refine ⟨congrArg (_ :: ·) h1, congrArg (_ :: ·) h2, fun p hp => ?_⟩
    rcases List.mem_cons.mp hp with rfl | hp
    · exact e
    · exact h3 p hp
end
/-! # G88: any(list of truths); x < y of any data; sorted pairs rise -/
section
/-! ### x < y -/
end
/-! ### the order of idents and pairs -/
section
end
/-! # G89: the program's small checkers of pairs and of bars, of anything -/
noncomputable section
end
/-! ### the glove of an ident -/
/-! ### the dict by idents -/
section
/-! ### rising -/
/-! ### pairs -/
/-! ### bars -/
end
/-! # G90: the laws' own checkers of pairs and bars, of anything -/
noncomputable section
end
section
/-! ### idents, as the laws look -/
/-! ### pairs, as the laws look -/
/-! ### bars, as the laws look -/
end
/-! # G91: Lots' texts -/
noncomputable section
end
section
end
end G

/-! # G92: what matched tells is let by -/
namespace G
open PySem PySem.Spec PyProof.Rows L2 MT
section
end
end G

/-! # G93: xs.remove(y) of data -/
namespace G
open PySem PySem.Spec PyProof.Rows L2
section
end
section
end
end G

/-! # G94: sorted, of a tuple of data -/
namespace G
open PySem PySem.Spec PySem.Calls PyProof.Rows L2
section
end
section
end
section
end
end G

/-! # G95: sorted(set(xs)): tuples of numbers and texts, numbers -/
namespace Sg
open PySem PySem.Spec PyProof.Rows L2
section
variable {P : Program} {w : World} {A : Around} {E : Value → Shared → Prop} {s : Shared}
/-- set(xs) of a list or a tuple, whatever kind is put in -/
theorem set_core (tup : Bool) {l : Addr} {items : Array Value} {Ok : Heap → Prop} {Q : Value → Shared → Prop} (hh : A.handled = none) (hl : cond tup (s.heap.IsTuple l items) (s.heap.IsList l items))
    (loop : ∀ (B : Around) (I : Addr) (St : Nat → Shared → Prop) (R : Result → Shared → Prop) (z : Shared), B.units ≤ A.units + 8 → WalksS P w B.in1 I [I, l] [I] (fun a b => b = a) items.size (fun i v => items[i]? = some v) St → St 0 z →
      I = s.heap.objs.size + 1 → l < s.heap.objs.size → z.heap.get? s.heap.objs.size = some (freshSet w) → (∀ b o, s.heap.get? b = some o → z.heap.get? b = some o) →
      (∀ z', Moved [s.heap.objs.size, I] (fun a b => b = a) z z' → Ok z'.heap → (∀ b o, s.heap.get? b = some o → z'.heap.get? b = some o) → R (.ok (.ret .none)) z') →
      codeAny (model P w) B (.builtin "set.update.loop" ⟨[.ref s.heap.objs.size, .ref I], []⟩) R z)
    (q : ∀ (h' : Heap) (tk : Nat), Ok h' → (∀ b o, s.heap.get? b = some o → h'.get? b = some o) → Q (.ref s.heap.objs.size) { s with heap := h', toks := tk }) :
    wpAny (model P w) A (call (.type "set") [.ref l]) Q E s := by
  obtain ⟨c0, tl0, mro⟩ := F.called_set.mro
  have made := F.called_set.made
  have sub0 := F.called_set.sub
  apply wpAny_call
  apply codeAny_of_tree
  show wpAny (model P w) _ (callAny (.type "set") _) _ _ s
  refine wpAny_pure ⟨Code.quiet_builtin _ (by decide +kernel), ?_⟩
  apply codeAny_builtin F.entry_type_call
  rw [Around.under_plain (weight_type_call_type "set" [.ref l] []) rfl]
  have c1 := F.called_set.notType
  have c2 := F.called_set.canCreate
  have c3 := F.typeCall_set_1 (.ref l)
  (repeat any_goals first | wp_step | assumption)
  refine codeAny_mono (code_set_led1 (.ref l) (E := E) (Q₁ := fun d s₁ => d = .ref s.heap.objs.size ∧ s₁ = { s with heap := s.heap.push (freshSet w) }) ⟨rfl, rfl⟩) fun r s₁ hr => ?_
  cases r with
  | error e => exact hr
  | ok fl =>
    cases fl with
    | ret d =>
      obtain ⟨rfl, rfl⟩ := hr
      have hS : (s.heap.push (freshSet w)).get? s.heap.objs.size = some (freshSet w) := Heap.get?_push_size _ rfl
      have hT : Shared.TypeIs { s with heap := s.heap.push (freshSet w) } (.ref s.heap.objs.size) "set" := ⟨_, hS, rfl⟩
      have i1 := F.called_set.init.lookup
      have i2 := F.called_set.init.bind (.ref s.heap.objs.size)
      (repeat any_goals first | wp_step | assumption)
      refine codeAny_mono (codeAny_call_builtin (R := wants (fun r z => r = .none ∧ ∃ h' tk, z = { s with heap := h', toks := tk } ∧ Ok h' ∧ (∀ b o, s.heap.get? b = some o → h'.get? b = some o)) E)
        F.called_set.init.plain F.entry_set_init (check_set_init_1 hT ?_)) fun r2 s2 hr2 => ?_
      · have hh3 : A.in1.in1.in1.handled = none := hh
        have z1 : (s.heap.push (freshSet w)).objs.size = s.heap.objs.size + 1 := Heap.size_push ..
        cases tup with
        | true =>
          obtain ⟨⟨lc, ld, ldt, lsl⟩, hol, hcl, nl, hdl⟩ : s.heap.IsTuple l items := hl
          dsimp only at hcl hdl
          subst hcl hdl
          have hol2 : (s.heap.push (freshSet w)).get? l = some { cls := .type "tuple", dict := ld, data := .seq items nl, slots := lsl } := Heap.get?_push_of_some _ hol
          have n1 := F.sub_tuple_set
          have n2 := F.sub_tuple_frozenset
          have n3 : (Value.type "tuple" == Value.type "dict") = false := by decide
          have hl2 : (s.heap.push (freshSet w)).IsTuple l items := ⟨_, hol2, rfl, nl, rfl⟩
          unfold Builtin.«set.__init__» noKeywords Builtin.Frozenset.updateFrom
          generalize hit2 : pyIter = itr
          wp_walk
          subst hit2
          apply wpAny_pyIter_tuple hl2
          apply wpAny_bind
          apply wpAny_runValue
          have lS : l < s.heap.objs.size := Heap.lt_size hol
          have apart : l ≠ (s.heap.push (freshSet w)).objs.size := fun e => by rw [z1] at e; exact absurd (e ▸ lS) (by intro z; exact absurd z (Nat.not_lt.mpr (Nat.le_succ _)))
          have W := (Walks.tuple (prog := P) (w := w) hh3 _ l apart items).toS
          rw [z1] at W
          show codeAny _ _ (.builtin "set.update.loop" ⟨[.ref s.heap.objs.size, .ref (s.heap.push (freshSet w)).objs.size], []⟩) _ _
          rw [z1]
          refine loop _ _ _ _ _ ?_ W ?_ rfl lS ?_ ?_ fun z' mv ok keep => ?_
          · show A.units + 1 + 1 ≤ A.units + 8; omega
          · exact ⟨by rw [← z1]; exact ⟨_, Heap.get?_push_size _ rfl, rfl, rfl⟩, hl2.push _⟩
          · exact Heap.get?_push_of_some _ hS
          · exact fun b o e => Heap.get?_push_of_some _ (Heap.get?_push_of_some _ e)
          · obtain ⟨h', gg, dd, tk, oo⟩ := z'
            have eg : gg = s.gens := mv.gens
            have ed : dd = s.drawn := mv.drawn
            have eo : oo = s.os := mv.os
            subst eg ed eo
            show wpAny _ _ _ _ _ _
            apply wpAny_pure
            show wpAny _ _ (ret Value.none) _ _ _
            exact wpAny_pure ⟨rfl, h', tk, rfl, ok, keep⟩
        | false =>
          obtain ⟨⟨lc, ld, ldt, lsl⟩, hol, hcl, nl, hdl⟩ : s.heap.IsList l items := hl
          dsimp only at hcl hdl
          subst hcl hdl
          have hol2 : (s.heap.push (freshSet w)).get? l = some { cls := .type "list", dict := ld, data := .seq items nl, slots := lsl } := Heap.get?_push_of_some _ hol
          have n1 := F.sub_list_set
          have n2 := F.sub_list_frozenset
          have n3 : (Value.type "list" == Value.type "dict") = false := by decide
          have hl2 : (s.heap.push (freshSet w)).IsList l items := ⟨_, hol2, rfl, nl, rfl⟩
          unfold Builtin.«set.__init__» noKeywords Builtin.Frozenset.updateFrom
          generalize hit2 : pyIter = itr
          wp_walk
          subst hit2
          apply wpAny_pyIter_list hl2
          apply wpAny_bind
          apply wpAny_runValue
          have lS : l < s.heap.objs.size := Heap.lt_size hol
          have apart : l ≠ (s.heap.push (freshSet w)).objs.size := fun e => by rw [z1] at e; exact absurd (e ▸ lS) (by intro z; exact absurd z (Nat.not_lt.mpr (Nat.le_succ _)))
          have W := (Walks.list (prog := P) (w := w) hh3 _ l apart items).toS
          rw [z1] at W
          show codeAny _ _ (.builtin "set.update.loop" ⟨[.ref s.heap.objs.size, .ref (s.heap.push (freshSet w)).objs.size], []⟩) _ _
          rw [z1]
          refine loop _ _ _ _ _ ?_ W ?_ rfl lS ?_ ?_ fun z' mv ok keep => ?_
          · show A.units + 1 + 1 ≤ A.units + 8; omega
          · exact ⟨by rw [← z1]; exact ⟨_, Heap.get?_push_size _ rfl, rfl, rfl⟩, hl2.push _⟩
          · exact Heap.get?_push_of_some _ hS
          · exact fun b o e => Heap.get?_push_of_some _ (Heap.get?_push_of_some _ e)
          · obtain ⟨h', gg, dd, tk, oo⟩ := z'
            have eg : gg = s.gens := mv.gens
            have ed : dd = s.drawn := mv.drawn
            have eo : oo = s.os := mv.os
            subst eg ed eo
            show wpAny _ _ _ _ _ _
            apply wpAny_pure
            show wpAny _ _ (ret Value.none) _ _ _
            exact wpAny_pure ⟨rfl, h', tk, rfl, ok, keep⟩
      · cases r2 with
        | error e => exact hr2
        | ok fl2 =>
          cases fl2 with
          | ret r =>
            obtain ⟨rfl, h', tk, rfl, ok, keep⟩ := hr2
            (repeat any_goals first | wp_step | assumption)
            exact q _ _ ok keep
          | _ => exact hr2.elim
    | _ => exact hr.elim
/-- of tuples of keys -/
theorem set_keys {κ : Type} [DecidableEq κ] {HD : HeapKind P w κ} (C : Calm HD) (tup : Bool) {l : Addr} {items : Array Value} (ks : List (Addr × κ)) {Q : Value → Shared → Prop} (hh : A.handled = none) (hl : cond tup (s.heap.IsTuple l items) (s.heap.IsList l items))
    (hit : items.toList = ks.map fun p => Value.ref p.1) (hk : ∀ p ∈ ks, HD.is s.heap p.2 p.1) (few : ks.length < 4000) (hu : A.units + 32 < cLine)
    (q : ∀ (h' : Heap) (tk : Nat) L es ep t, On HD h' s.heap.objs.size L es ep t → Upto ks ks.length L → (∀ b o, s.heap.get? b = some o → h'.get? b = some o) → Q (.ref s.heap.objs.size) { s with heap := h', toks := tk }) :
    wpAny (model P w) A (call (.type "set") [.ref l]) Q E s := by
  have iz : items.size = ks.length := by rw [← Array.length_toList, hit, List.length_map]
  have gone : ∀ b, s.heap.objs.size ≤ b → s.heap.get? b = none := fun b hb => by
    cases e : s.heap.get? b with
    | none => rfl
    | some o => exact absurd (Nat.lt_of_lt_of_le (Heap.lt_size e) hb) (Nat.lt_irrefl _)
  refine set_core tup (Ok := fun h' => ∃ L es ep t, On HD h' s.heap.objs.size L es ep t ∧ Upto ks ks.length L) hh hl (fun B I St R z hB W st eI lS hS keep done => ?_) fun h' tk ⟨L, es, ep, t, on, U⟩ kp => q h' tk L es ep t on U kp
  refine fill W C s.heap.objs.size (fun m => ?_) ks iz few (fun i v e => ?_) s.heap hk (gone _ (Nat.le_refl _)) (fun b hb => gone b ?_) (C.rm _ ?_) items.size 0 _ (Nat.zero_add _).symm st keep ⟨[], #[], 0, _, on_fresh hS, ⟨nofun, fun p hp => by simp at hp, Nat.le_refl _⟩, .inl rfl⟩ fun z' L es ep t mv on U kp => done z' mv ⟨L, es, ep, t, on, iz ▸ U⟩ kp
  · rcases List.mem_cons.mp m with m | m
    · exact absurd (m.trans eI) (Nat.ne_of_lt (Nat.lt_succ_self _))
    · exact absurd lS (by rw [← List.mem_singleton.mp m]; exact Nat.lt_irrefl _)
  · have e : items.toList[i]? = some v := by rw [Array.getElem?_toList]; exact e
    rw [hit, List.getElem?_map] at e
    obtain ⟨p, e1, e2⟩ := Option.map_eq_some_iff.mp e
    exact ⟨p, e1, e2.symm⟩
  · rw [List.mem_singleton.mp hb, eI]; exact Nat.le_succ _
  · show B.units + 1 + 8 < cLine; omega
/-- of numbers -/
theorem set_ints (tup : Bool) {l : Addr} {items : Array Value} (ns : List Int) {Q : Value → Shared → Prop} (hh : A.handled = none) (hl : cond tup (s.heap.IsTuple l items) (s.heap.IsList l items)) (hit : IntsAre items.toList ns) (few : ns.length < 64)
    (q : ∀ (h' : Heap) (tk c : Nat), SetR w h' s.heap.objs.size (fun j => decide (j ∈ ns)) c → c ≤ ns.length → (∀ b o, s.heap.get? b = some o → h'.get? b = some o) → Q (.ref s.heap.objs.size) { s with heap := h', toks := tk }) :
    wpAny (model P w) A (call (.type "set") [.ref l]) Q E s := by
  have iz : items.size = ns.length := by rw [← Array.length_toList]; exact IntsAre.length hit
  refine set_core tup (Ok := fun h' => ∃ c, SetR w h' s.heap.objs.size (fun j => decide (j ∈ ns)) c ∧ c ≤ ns.length) hh hl (fun B I St R z hB W st eI lS hS keep done => ?_) fun h' tk ⟨c, r, le⟩ kp => q h' tk c r le kp
  refine set_update_ints W s.heap.objs.size (fun m => ?_) ns iz (by unfold scanBound; omega) (fun i v e => ?_) (items.size - 0) 0 _ rfl (Nat.zero_le _) st ⟨0, Nat.le_refl 0, setR_new_at hS⟩ fun z' c mv le r => done z' mv ⟨c, r, iz ▸ le⟩ fun b o e => ?_
  · rcases List.mem_cons.mp m with m | m
    · exact absurd (m.trans eI) (Nat.ne_of_lt (Nat.lt_succ_self _))
    · exact absurd lS (by rw [← List.mem_singleton.mp m]; exact Nat.lt_irrefl _)
  · have lt : i < ns.length := by rw [← iz]; exact (Array.getElem?_eq_some_iff.mp e).1
    obtain ⟨t, et⟩ := PyProof.Rows.IntsAre.int_at hit i v (by rw [Array.getElem?_toList]; exact e)
    exact ⟨ns[i], t, List.getElem?_eq_getElem lt, by rw [et, List.getD_eq_getElem?_getD, List.getElem?_eq_getElem lt]; rfl⟩
  · have lt : b < s.heap.objs.size := Heap.lt_size e
    refine mv.heap b o (fun m => ?_) (keep b o e)
    rcases List.mem_cons.mp m with m | m
    · exact absurd (m ▸ lt) (Nat.lt_irrefl _)
    · exact absurd lt (by rw [List.mem_singleton.mp m, eI]; exact Nat.not_lt.mpr (Nat.le_succ _))
end
/-! ### set of a dict -/
theorem go_up {n f s : Nat} (h : s ≤ n) : SetTable.sizeAbove.go n (f + 1) s = SetTable.sizeAbove.go n f (s * 2) := by
  show (if s ≤ n then SetTable.sizeAbove.go n f (s * 2) else s) = _
  rw [if_pos h]
theorem go_at {n f s : Nat} (h : n < s) : SetTable.sizeAbove.go n (f + 1) s = s := by
  show (if s ≤ n then SetTable.sizeAbove.go n f (s * 2) else s) = _
  rw [if_neg (by omega)]
theorem size_mk {n : Nat} (h : n < 8192) : ∃ M, SetTable.sizeAbove n = M + 1 ∧ Mk M ∧ n ≤ M := by
  have c : n < 8 ∨ (8 ≤ n ∧ n < 16) ∨ (16 ≤ n ∧ n < 32) ∨ (32 ≤ n ∧ n < 64) ∨ (64 ≤ n ∧ n < 128) ∨ (128 ≤ n ∧ n < 256) ∨ (256 ≤ n ∧ n < 512) ∨ (512 ≤ n ∧ n < 1024) ∨ (1024 ≤ n ∧ n < 2048) ∨ (2048 ≤ n ∧ n < 4096) ∨ (4096 ≤ n ∧ n < 8192) := by omega
  unfold SetTable.sizeAbove
  rcases c with c | c | c | c | c | c | c | c | c | c | c
  · exact ⟨7, by rw [go_at (by omega)], Mk.m7, by omega⟩
  · exact ⟨15, by rw [go_up (by omega), go_at (by omega)], Mk.m15, by omega⟩
  · exact ⟨31, by rw [go_up (by omega), go_up (by omega), go_at (by omega)], Mk.m31, by omega⟩
  · exact ⟨63, by rw [go_up (by omega), go_up (by omega), go_up (by omega), go_at (by omega)], Mk.m63, by omega⟩
  · exact ⟨127, by rw [go_up (by omega), go_up (by omega), go_up (by omega), go_up (by omega), go_at (by omega)], Mk.m127, by omega⟩
  · exact ⟨255, by rw [go_up (by omega), go_up (by omega), go_up (by omega), go_up (by omega), go_up (by omega), go_at (by omega)], Mk.m255, by omega⟩
  · exact ⟨511, by rw [go_up (by omega), go_up (by omega), go_up (by omega), go_up (by omega), go_up (by omega), go_up (by omega), go_at (by omega)], Mk.m511, by omega⟩
  · exact ⟨1023, by rw [go_up (by omega), go_up (by omega), go_up (by omega), go_up (by omega), go_up (by omega), go_up (by omega), go_up (by omega), go_at (by omega)], Mk.m1023, by omega⟩
  · exact ⟨2047, by rw [go_up (by omega), go_up (by omega), go_up (by omega), go_up (by omega), go_up (by omega), go_up (by omega), go_up (by omega), go_up (by omega), go_at (by omega)], Mk.m2047, by omega⟩
  · exact ⟨4095, by rw [go_up (by omega), go_up (by omega), go_up (by omega), go_up (by omega), go_up (by omega), go_up (by omega), go_up (by omega), go_up (by omega), go_up (by omega), go_at (by omega)], Mk.m4095, by omega⟩
  · exact ⟨8191, by rw [go_up (by omega), go_up (by omega), go_up (by omega), go_up (by omega), go_up (by omega), go_up (by omega), go_up (by omega), go_up (by omega), go_up (by omega), go_up (by omega), go_at (by omega)], Mk.m8191, by omega⟩
section
variable {κ : Type} [DecidableEq κ] {P : Program} {w : World} {A : Around} {E : Value → Shared → Prop} {s : Shared} {HD : HeapKind P w κ}
/-- room ahead -/
theorem room_for (C : Calm HD) {a : Addr} {n : Nat} (hn : n < 4000) (ho : s.heap.get? a = some (freshSet w)) {Q : Unit → Shared → Prop}
    (q : ∀ h' es' ep' t', Heap.SameBut a s.heap h' → On HD h' a [] es' ep' t' → n * 5 < t'.mask * 3 → Q () { s with heap := h' }) : wpAny (model P w) A (setRoomFor a n) Q E s := by
  have R := on_fresh (HD := HD) ho
  obtain ⟨o, ho2, hex, hd⟩ := R.obj
  unfold setRoomFor
  apply wpAny_bind
  apply wpAny_setState_of ho2 hd R.ok
  dsimp only
  have e : (SetTable.fresh 0 0 (!w.params.followText "set-order")).roomFor n = if n * 5 ≥ 21 then some (n * 2) else none := by
    unfold SetTable.roomFor
    show (if (0 + n) * 5 ≥ 7 * 3 then some ((0 + n) * 2) else none) = _
    rw [Nat.zero_add]
  rw [e]
  by_cases c : n * 5 ≥ 21
  · rw [if_pos c]
    dsimp only
    obtain ⟨M, hM, okM, leM⟩ := size_mk (n := n * 2) (by omega)
    refine relay C ho2 hex hd R.ents rfl rfl (Nat.zero_le _) .nil nofun R.ld (Nat.le_of_ble_eq_true rfl) hM okM (by show 0 * 5 < M * 3; omega) fun h' L' es' ep' t' sb on pm em => ?_
    have e0 : L' = [] := List.eq_nil_of_length_eq_zero (by rw [pm.length_eq]; rfl)
    subst e0
    exact q h' es' ep' t' sb on (by rw [em]; omega)
  · rw [if_neg c]
    dsimp only
    exact wpAny_pure (q s.heap _ _ _ (Heap.SameBut.refl a s.heap) R (by show n * 5 < 7 * 3; omega))
end
section
variable {κ : Type} [DecidableEq κ] {P : Program} {w : World} {A : Around} {E : Value → Shared → Prop} {s : Shared} {HD : HeapKind P w κ}
theorem from_dict (C : Calm HD) {id : String} {S d : Addr} {xs : List (κ × Addr × Value)} {es : Array DictEntry} {ep : Nat} (hS : s.heap.get? S = some (freshSet w)) (hd : s.heap.DictRaw d es ep) (ee : es.toList = xs.map (entryOfKey HD)) (ne : S ≠ d) (nm : d ≠ sysModules)
    (hk : ∀ x ∈ xs, HD.is s.heap x.1 x.2.1) (few : xs.length < 4000) (rm : HD.room A) {Q : Unit → Shared → Prop}
    (q : ∀ h' L es' ep' t', On HD h' S L es' ep' t' → Upto (xs.map fun x => (x.2.1, x.1)) xs.length L → Heap.SameBut S s.heap h' → Q () { s with heap := h' }) : wpAny (model P w) A (Builtin.Frozenset.updateFrom id S (.ref d)) Q E s := by
  have hT := hd.typeIs
  obtain ⟨o, ho, hex, hdat⟩ := hd
  have n1 := F.sub_dict_set
  have n2 := F.sub_dict_frozenset
  have n3 : (Value.type "dict" == Value.type "dict") = true := by decide
  unfold Builtin.Frozenset.updateFrom
  generalize hr : setRoomFor = rf
  generalize hq : sysModules = sm at nm
  wp_walk
  subst hr hq
  rw [hdat]
  dsimp only
  refine wpAny_pure ?_
  have ez : es.size = xs.length := by rw [← Array.length_toList, ee, List.length_map]
  apply wpAny_bind
  refine wpAny_dictEntries ho hdat ?_
  apply wpAny_bind
  refine room_for C (by omega) hS fun h1 es1 ep1 t1 sb1 on1 room => ?_
  apply wpAny_bind
  refine wpAny_dictEntries (s := { s with heap := h1 }) ((sb1.2 d (Ne.symm ne)).trans ho) hdat ?_
  apply wpAny_bind
  refine PySem.SeqAt.wpAny_forIn_span 0 es.size _ (fun i _ z => ∃ h' L es' ep' t', z = { s with heap := h' } ∧ Heap.SameBut S s.heap h' ∧ On HD h' S L es' ep' t' ∧ Upto (xs.map fun x => (x.2.1, x.1)) i L ∧ t'.mask = t1.mask) _ ?_ ?_ _ ⟨h1, [], es1, ep1, t1, rfl, sb1, on1, ⟨nofun, fun p hp => by simp at hp, Nat.le_refl _⟩, rfl⟩
  · rintro i _ z _ hi ⟨h', L, es', ep', t', rfl, sb, on, U, em⟩
    have hx : i < xs.length := by omega
    have ex : es[i]? = some (entryOfKey HD xs[i]) := by
      rw [← Array.getElem?_toList, ee, List.getElem?_map, List.getElem?_eq_getElem hx]; rfl
    have ho' : h'.get? d = some o := (sb.2 d (Ne.symm ne)).trans ho
    apply wpAny_bind
    refine wpAny_dictEntries (s := { s with heap := h' }) ho' hdat ?_
    rw [ex]
    dsimp only
    apply wpAny_bind
    apply wpAny_holding
    have hI : HD.is h' xs[i].1 xs[i].2.1 := C.put (hk _ (List.getElem_mem hx)) hS rfl sb
    refine put_in (s := { s with heap := h' }) C on hI rm (by have := U.le; omega) (fun e => by have := U.le; omega) fun b h2 pt => ?_
    obtain ⟨L2, es2, ep2, t2, sb2, on2, hh, _, keep⟩ := pt
    apply wpAny_bind
    refine wpAny_dictEpoch (s := { s with heap := h2 }) ((sb2.2 d (Ne.symm ne)).trans ho') hdat ?_
    refine wp_if_neg (by rw [bne_self_eq_false]; exact Bool.false_ne_true) ?_
    refine wpAny_pure ⟨h2, L2, es2, ep2, t2, rfl, sb.trans sb2, on2, U.step (by rw [List.getElem?_map, List.getElem?_eq_getElem hx]; rfl) hh, ?_⟩
    rw [keep (by have := U.le; omega)]
    exact em
  · rintro _ z ⟨h', L, es', ep', t', rfl, sb, on, U, em⟩
    refine wpAny_pure (q h' L es' ep' t' on ?_ sb)
    rw [Nat.max_eq_right (Nat.zero_le _), ez] at U
    exact U
end
section
variable {κ : Type} [DecidableEq κ] {P : Program} {w : World} {A : Around} {E : Value → Shared → Prop} {s : Shared} {HD : HeapKind P w κ}
/-- set(d) of a dict -/
theorem set_dict (C : Calm HD) {l : Addr} {xs : List (κ × Addr × Value)} {es : Array DictEntry} {ep : Nat} {Q : Value → Shared → Prop} (hh : A.handled = none) (hl : s.heap.DictRaw l es ep) (ee : es.toList = xs.map (entryOfKey HD)) (nm : l ≠ sysModules)
    (hk : ∀ x ∈ xs, HD.is s.heap x.1 x.2.1) (few : xs.length < 4000) (hu : A.units + 32 < cLine)
    (q : ∀ (h' : Heap) (tk : Nat) L es ep t, On HD h' s.heap.objs.size L es ep t → Upto (xs.map fun x => (x.2.1, x.1)) xs.length L → (∀ b o, s.heap.get? b = some o → h'.get? b = some o) → Q (.ref s.heap.objs.size) { s with heap := h', toks := tk }) :
    wpAny (model P w) A (call (.type "set") [.ref l]) Q E s := by
  let Ok : Heap → Prop := fun h' => ∃ L es ep t, On HD h' s.heap.objs.size L es ep t ∧ Upto (xs.map fun x => (x.2.1, x.1)) xs.length L
  have q : ∀ (h' : Heap) (tk : Nat), Ok h' → (∀ b o, s.heap.get? b = some o → h'.get? b = some o) → Q (.ref s.heap.objs.size) { s with heap := h', toks := tk } := fun h' tk ⟨L, es, ep, t, on, U⟩ kp => q h' tk L es ep t on U kp
  obtain ⟨c0, tl0, mro⟩ := F.called_set.mro
  have made := F.called_set.made
  have sub0 := F.called_set.sub
  apply wpAny_call
  apply codeAny_of_tree
  show wpAny (model P w) _ (callAny (.type "set") _) _ _ s
  refine wpAny_pure ⟨Code.quiet_builtin _ (by decide +kernel), ?_⟩
  apply codeAny_builtin F.entry_type_call
  rw [Around.under_plain (weight_type_call_type "set" [.ref l] []) rfl]
  have c1 := F.called_set.notType
  have c2 := F.called_set.canCreate
  have c3 := F.typeCall_set_1 (.ref l)
  (repeat any_goals first | wp_step | assumption)
  refine codeAny_mono (code_set_led1 (.ref l) (E := E) (Q₁ := fun d s₁ => d = .ref s.heap.objs.size ∧ s₁ = { s with heap := s.heap.push (freshSet w) }) ⟨rfl, rfl⟩) fun r s₁ hr => ?_
  cases r with
  | error e => exact hr
  | ok fl =>
    cases fl with
    | ret d =>
      obtain ⟨rfl, rfl⟩ := hr
      have hS : (s.heap.push (freshSet w)).get? s.heap.objs.size = some (freshSet w) := Heap.get?_push_size _ rfl
      have hT : Shared.TypeIs { s with heap := s.heap.push (freshSet w) } (.ref s.heap.objs.size) "set" := ⟨_, hS, rfl⟩
      have i1 := F.called_set.init.lookup
      have i2 := F.called_set.init.bind (.ref s.heap.objs.size)
      (repeat any_goals first | wp_step | assumption)
      refine codeAny_mono (codeAny_call_builtin (R := wants (fun r z => r = .none ∧ ∃ h' tk, z = { s with heap := h', toks := tk } ∧ Ok h' ∧ (∀ b o, s.heap.get? b = some o → h'.get? b = some o)) E)
        F.called_set.init.plain F.entry_set_init (check_set_init_1 hT ?_)) fun r2 s2 hr2 => ?_
      · have lS : l < s.heap.objs.size := by obtain ⟨_, e, _⟩ := hl; exact Heap.lt_size e
        have hl2 : (s.heap.push (freshSet w)).DictRaw l es ep := hl.at fun o e => Heap.get?_push_of_some _ e
        have put : ∀ p ∈ xs, HD.is (s.heap.push (freshSet w)) p.1 p.2.1 := fun p hp => C.old (hk p hp) fun b o e => Heap.get?_push_of_some _ e
        unfold Builtin.«set.__init__» noKeywords
        generalize hit : Builtin.Frozenset.updateFrom = uf
        wp_walk
        subst hit
        refine from_dict (s := { s with heap := s.heap.push (freshSet w) }) C hS hl2 ee (Nat.ne_of_gt lS) nm put few (C.rm _ ?_) fun h' L es' ep' t' on U sb => ?_
        · show A.units + 2 + 8 < cLine
          omega
        · show wpAny _ _ (ret Value.none) _ _ _
          refine wpAny_pure ⟨rfl, h', s.toks, rfl, ⟨L, es', ep', t', on, U⟩, fun b o e => ?_⟩
          rw [sb.2 b fun z => absurd (Heap.lt_size e) (by rw [z]; exact Nat.lt_irrefl _)]
          exact Heap.get?_push_of_some _ e
      · cases r2 with
        | error e => exact hr2
        | ok fl2 =>
          cases fl2 with
          | ret r =>
            obtain ⟨rfl, h', tk, rfl, ok, keep⟩ := hr2
            (repeat any_goals first | wp_step | assumption)
            exact q _ _ ok keep
          | _ => exact hr2.elim
    | _ => exact hr.elim
end
end Sg
namespace G
open PySem PySem.Spec PySem.Calls PyProof.Rows L2
section
variable {prog : Program} {w : World} {A : Around} {E : Value → Shared → Prop} {s : Shared}
/-- sorted(x), x's items gathered in any order -/
theorem sorted_any {x : Value} {vs0 : List Value} {ltv : Value → Value → Bool} {Q : Value → Shared → Prop} (O : SrtO.Swo ltv) (hz : vs0.length ≤ sizeLine)
    (hcol : ∀ (Q' : List Value → Shared → Prop) (E' : Value → Shared → Prop), (∀ s' vs, vs.Perm vs0 → (∀ b u, s.heap.get? b = some u → s'.heap.get? b = some u) → s.heap.objs.size ≤ s'.heap.objs.size → s'.gens = s.gens → s'.os = s.os → Q' vs s') → wpAny (model prog w) A.in1 (collect x) Q' E' s)
    (hS : ∀ vs, vs.Perm vs0 → 2 ≤ vs.length → ∀ (z : Shared) (a : Addr), z.heap.get? a = some (seqObj "list" vs.toArray 0) → (∀ b u, s.heap.get? b = some u → z.heap.get? b = some u) → SrtO.SortableO prog w A.in1.in1 z a vs ltv)
    (h : ∀ vs (out : List Value) (s' : Shared) (p : Addr), vs.Perm vs0 → SrtO.Srtd ltv out → SrtO.Stb ltv out vs → (∀ b u, s.heap.get? b = some u → s'.heap.get? b = some u) → s.heap.objs.size ≤ p → s'.gens = s.gens → s'.os = s.os → (∃ n, s'.heap.get? p = some (seqObj "list" out.toArray n)) → Q (.ref p) s') :
    wpAny (model prog w) A (call (.builtin "sorted") [x]) Q E s := by
  refine Calls.call_function_entry kind_sorted plain_sorted entry_sorted (args_sorted1 _) ?_
  unfold Builtin.«sorted»
  refine wpAny_bind (m := checkCount "sorted" 1 1 _) (wpAny_pure ?_)
  refine wpAny_bind (hcol _ _ fun s' vs pm k1 zz eg eo => ?_)
  have hv : vs.length ≤ sizeLine := by rw [pm.length_eq]; exact hz
  refine wpAny_bind (wpAny_newList ?_ hv)
  have hn : (s'.heap.push (seqObj "list" vs.toArray 0)).get? s'.heap.objs.size = some (seqObj "list" vs.toArray 0) := Heap.get?_push_size _ rfl
  have k2 : ∀ b u, s'.heap.get? b = some u → (s'.heap.push (seqObj "list" vs.toArray 0)).get? b = some u := fun b u e => Heap.get?_push_of_some _ e
  show wpAny _ _ _ _ _ { s' with heap := s'.heap.push (seqObj "list" vs.toArray 0) }
  refine wpAny_bind (wpAny_holding (wpAny_call_entry slot_list_sort ⟨_, hn, rfl⟩ entry_list_sort (SrtO.list_sort_ord (s := { s' with heap := s'.heap.push (seqObj "list" vs.toArray 0) }) O hn hv (fun g2 => hS vs pm g2 _ _ hn fun b u e => k2 b u (k1 b u e)) fun out hs hb => ⟨_, rfl, ?_⟩) (args_list_sort _)))
  obtain ⟨n, hd⟩ := sortedHeap_at (vs := vs) (out := out.toArray) hn
  refine wpAny_pure ⟨_, rfl, h vs out _ s'.heap.objs.size pm hs hb (fun b u e => ?_) zz eg eo ⟨n, hd⟩⟩
  have e1 := k1 b u e
  have hlt : b < s'.heap.objs.size := Heap.lt_size e1
  show (sortedHeap (s'.heap.push (seqObj "list" vs.toArray 0)) s'.heap.objs.size vs out.toArray).get? b = some u
  rw [sortedHeap_old (Nat.ne_of_lt hlt) (by rw [size_push']; exact Nat.lt_succ_of_lt hlt)]
  exact k2 b u e1
end
/-- numbers, rising, each once -/
def sI (is : List Int) : List Int := (uq is).mergeSort fun a b => decide (a ≤ b)
theorem sI_mem {x : Int} {is : List Int} : x ∈ sI is ↔ x ∈ is := by
  unfold sI
  rw [(List.mergeSort_perm _ _).mem_iff, uq_mem]
theorem sI_le (is : List Int) : (sI is).Pairwise (· ≤ ·) := by
  refine (List.pairwise_mergeSort (le := fun a b : Int => decide (a ≤ b)) (fun a b c h1 h2 => ?_) (fun a b => ?_) (uq is)).imp fun h => of_decide_eq_true h
  · have := of_decide_eq_true h1; have := of_decide_eq_true h2; exact decide_eq_true (by omega)
  · rw [Bool.or_eq_true]
    rcases Int.le_total a b with h | h
    · exact .inl (decide_eq_true h)
    · exact .inr (decide_eq_true h)
theorem sI_nd (is : List Int) : (sI is).Nodup := (List.mergeSort_perm _ _).nodup_iff.mpr (uq_nd is)
theorem nd_lt {ns : List Int} (h : ns.Pairwise (· < ·)) : ns.Nodup := h.imp fun h e => by omega
theorem sI_is {ns is : List Int} (pw : ns.Pairwise (· < ·)) (m : ∀ x, x ∈ ns ↔ x ∈ is) : ns = sI is :=
  uniq_sorted (· ≤ ·) (fun a b h1 h2 => by omega) ((List.perm_ext_iff_of_nodup (nd_lt pw) (sI_nd is)).mpr fun x => by rw [m, sI_mem]) (pw.imp fun h => Int.le_of_lt h) (sI_le is)
/-- what stands in a dict with tuples as keys -/
def dtR (hs : Hs) : D → Option (List (List Key × D))
  | .ref n => (match hs[n]? with | some (.dt kvs) => some kvs | some (.lkd (.dt kvs)) => some kvs | _ => none)
  | .dlt ks ds => some (ks.zip ds)
  | _ => none
theorem rks_zip {K : PySem.W.Frag} {mu : Mp} {H : Hp} {k : Type} : ∀ {ks : List k} {ds : List D} {vs : List V}, ks.length = ds.length → RDs K mu H ds vs → RKs K mu H (ks.zip ds) (ks.zip vs)
  | [], [], _, _, .nil => .nil
  | _ :: _, _ :: _, _, e, .cons r t => .cons r (rks_zip (Nat.succ.inj e) t)
theorem dtR_at0 {K : PySem.W.Frag} {mg : Str → Option Value} {mu : Mp} {hs : Hs} {H : Hp} {d : D} {x : V} {kvs : List (List Key × D)} (S : Sim K mg mu hs H) (r1 : RD K mu H d x) (e1 : dtR hs d = some kvs) : ∃ a vs, x = .ref a ∧ Rd H a (.dT vs) ∧ RKs K mu H kvs vs := by
  cases r1 with
  | ref q =>
    unfold dtR at e1
    dsimp only at e1
    split at e1
    · rename_i kvs' hd
      cases e1
      obtain ⟨u, h1, h2⟩ := S.at q hd
      cases u with
      | dT vs => exact ⟨_, vs, rfl, .inl h1, h2⟩
      | _ => exact h2.elim
    · rename_i kvs' hd
      cases e1
      obtain ⟨u, h1, h2⟩ := S.at q hd
      cases u with
      | frz od u => cases u with
        | dT vs => exact ⟨_, vs, rfl, .inr ⟨od, h1⟩, h2⟩
        | _ => exact h2.elim
      | _ => exact h2.elim
    · cases e1
  | dlt hu hl hr =>
    cases e1
    obtain ⟨⟨od, h⟩, _⟩ := hu
    exact ⟨_, _, rfl, .inr ⟨od, h⟩, rks_zip hl hr⟩
  | _ => cases e1
/-- sorted(set(xs)) -/
def gSetSort (hs : Hs) (d : D) : Option (List D) := match seqOf hs d with
  | some ds => (match keyTs ds with
    | some kss => if okKs kss = true ∧ kss.length < 4000 then some ((sortK (uq kss)).map tupK) else none
    | none => (match intsOf ds with
      | some is => if is.length < 64 then some ((sI is).map .int) else none
      | none => none))
  | none => (match dtR hs d with
    | some kvs => if okKs (kvs.map (·.1)) = true ∧ kvs.length < 4000 then some ((sortK (uq (kvs.map (·.1)))).map tupK) else none
    | none => none)
def lSetSort (f : FE) : FL := fun e hs => (f e hs).bind fun d hs => R.ofO (gSetSort hs d) hs
theorem okKs_sub {kss ls : List (List Key)} (h : ∀ x ∈ ls, x ∈ kss) (le : ls.length ≤ kss.length) (ok : okKs kss = true) : okKs ls = true := by
  unfold okKs at ok ⊢
  rw [Bool.and_eq_true, Bool.and_eq_true] at ok ⊢
  obtain ⟨⟨o1, o2⟩, o3⟩ := ok
  refine ⟨⟨?_, ?_⟩, decide_eq_true (Nat.le_trans le (of_decide_eq_true o3))⟩
  · exact List.all_eq_true.mpr fun a ha => List.all_eq_true.mpr fun b hb => List.all_eq_true.mp (List.all_eq_true.mp o1 a (h a ha)) b (h b hb)
  · rw [Bool.or_eq_true] at o2 ⊢
    exact o2.imp (fun z => List.all_eq_true.mpr fun a ha => List.all_eq_true.mp z a (h a ha)) fun z => List.all_eq_true.mpr fun a ha => List.all_eq_true.mp z a (h a ha)
theorem kt_of {H : Hp} : ∀ {ts : List Addr} {kss : List (List L2.Key)}, (∀ t ∈ ts, ∃ ks : List L2.Key, H t = some (.tup (ks.map kV))) → (ts.map Value.ref).map (keyAt H) = kss → KtAt H ts kss
  | [], kss, _, e => by cases e; exact .nil
  | t :: ts, kss, h, e => by
    cases e
    obtain ⟨ks, ek⟩ := h t List.mem_cons_self
    refine .cons ?_ (kt_of (fun u hu => h u (List.mem_cons_of_mem _ hu)) rfl)
    rw [keyAt_of ek]; exact ek
section
variable {X : Cx} {Wd : WX} {a : Expr} {f1 : FE} {pins : List (Addr × Obj)} {σ : L2.St} {H : Hp} {s : Shared}
theorem uf_setSort {p p2 q pos : Pos} (hc : X.calm = true) (hu : X.A.units + 65 < cLine) (hg : L2.Gl X "sorted") (hm : X.mg "sorted" = none) (hg2 : L2.Gl X "set") (hm2 : X.mg "set" = none) (ha : UE X Wd a f1)
    (na : starEach [a] X.env = (false, eval a X.env) :: starEach [] X.env := by rfl) : UF X Wd (.Call (.Name "sorted" p) [.Call (.Name "set" p2) [a] [] q] [] pos) (lSetSort f1) := by
  refine ⟨fun pins s σ H Q I h => ?_⟩
  obtain ⟨e, mu, hs, S, E, g⟩ := tG_seq (r := relD X.K) relF_ok h
  refine PyProof.Rows.Call_ (L2.ld_blt I hg hm boot_sorted ?_)
  apply PyProof.Rows.callWith_builtin1 _ rfl rfl
  refine PyProof.Rows.args_cons ?_ rfl
  refine PyProof.Rows.Call_ (L2.ld_blt I hg2 hm2 PyProof.Rows.boot_set ?_)
  apply PyProof.Rows.callWith_type1 _ na rfl
  refine PyProof.Rows.args_cons (thn (ha.run pins s σ H _ I ⟨e, mu, hs, S, E, g⟩) fun v s1 ⟨x, H1, I1, r1, q1⟩ => PyProof.Rows.args_nil ?_) na
  obtain ⟨_, mu1, hs1, d, S1, _, rd, q1⟩ := q1
  cases hq : gSetSort hs1 d with
  | none => rw [hq] at q1; exact q1.elim
  | some w =>
    rw [hq] at q1
    have fn : ∀ p vs, H1 p = none → RDs X.K mu1 H1 w vs → Q (.ref p) (upd H1 p (.lst vs)) := fun p vs hp rr => relF_new S1 q1 hp rr
    unfold gSetSort at hq
    split at hq
    · rename_i ds hds
      obtain ⟨l, vs, rfl, h1, h2⟩ := seqOf_at S1 rd hds
      obtain rfl : v = Value.ref l := r1
      obtain ⟨tup, its, rv, hl⟩ : ∃ (tup : Bool) (its : List Value), Vals vs its ∧ cond tup (s1.heap.IsTuple l its.toArray) (s1.heap.IsList l its.toArray) := by
        rcases h1 with h1 | h1
        · obtain ⟨its, rv, pl, _⟩ := I1.list h1
          exact ⟨false, its, rv, pl.isList⟩
        · obtain ⟨its, rv, pl, _⟩ := I1.tuple h1
          exact ⟨true, its, rv, pl⟩
      split at hq
      · rename_i kss hk
        split at hq
        · rename_i ok
          obtain ⟨ok, few⟩ := ok
          cases hq
          obtain ⟨ts, e1, kt⟩ := keyTs_at h2 hk
          subst e1
          obtain ⟨z1, z2, z3⟩ := kt_pairs kt
          have lz : (ts.zip kss).length < 4000 := by rw [← z2, List.length_map] at few; exact few
          have ei : its = (ts.zip kss).map fun p => Value.ref p.1 := by
            rw [refs_vals rv]
            conv => lhs; rw [← z1]
            rw [List.map_map]; rfl
          refine Sg.set_keys (Sg.calm_tup X.prog X.w) tup (ts.zip kss) (I1.ok.hd hc) hl (by rw [List.toList_toArray]; exact ei) (fun p hp => kt_is I1 (z3 p hp)) lz (by omega) fun h' tk L es ep t R U keep => ?_
          apply PyProof.Rows.args_nil
          have I2 : Inv X pins σ H1 { s1 with heap := h', toks := tk } := I1.kept keep
          have esl : es.size = L.length := Sg.On.es_len (s := { s1 with heap := h', toks := tk }) R
          have few2 := R.few
          -- what is in it
          have inL : ∀ p ∈ L, H1 p.1 = some (.tup (p.2.map kV)) := fun p hp => z3 p (List.mem_of_mem_take (U.of_ p hp))
          have mL : ∀ x, x ∈ L.map (·.2) ↔ x ∈ kss := fun x => by
            constructor
            · intro hx
              obtain ⟨p, hp, rfl⟩ := List.mem_map.mp hx
              rw [← z2]
              exact List.mem_map.mpr ⟨p, List.mem_of_mem_take (U.of_ p hp), rfl⟩
            · intro hx
              rw [← z2] at hx
              obtain ⟨p, hp, rfl⟩ := List.mem_map.mp hx
              exact U.all p (by rw [List.take_length]; exact hp)
          have ok2 : okKs (L.map (·.2)) = true := okKs_sub (fun x hx => (mL x).mp hx) (by
            rw [List.length_map]
            have := U.le
            rw [← z2, List.length_map]; exact this) ok
          unfold okKs at ok2
          rw [Bool.and_eq_true, Bool.and_eq_true] at ok2
          obtain ⟨⟨o1, o2⟩, o3⟩ := ok2
          have cmp : ∀ a ∈ L.map (·.2), ∀ b ∈ L.map (·.2), cmpK a b = true := fun a ha b hb => List.all_eq_true.mp (List.all_eq_true.mp o1 a ha) b hb
          obtain ⟨b, hb⟩ : ∃ b, ∀ a ∈ L.map (·.2), headK b a = true := by
            rcases Bool.or_eq_true_iff.mp o2 with h | h
            · exact ⟨true, List.all_eq_true.mp h⟩
            · exact ⟨false, List.all_eq_true.mp h⟩
          have eL : (L.map fun q => Value.ref q.1).map (keyAt H1) = L.map (·.2) := by
            rw [List.map_map]
            exact List.map_congr_left fun p hp => keyAt_of (inL p hp)
          obtain ⟨o, ho, hex, hd⟩ := R.obj
          have he : es.toList.map (·.2) = L.map fun q => Value.ref q.1 := by
            rw [R.ents, List.map_map]; rfl
          refine sorted_any (s := { s1 with heap := h', toks := tk }) (vs0 := L.map fun q => Value.ref q.1) (swoK (keyAt H1)) (by rw [List.length_map, sizeLine_eq]; omega)
            (fun Q' E' k => collect_set (A := X.A.in1) (I1.ok.hd hc) ⟨o, ho, hex.1, hd⟩ (Sg.On.ok (s := { s1 with heap := h', toks := tk }) R) (by rw [esl]; unfold scanBound; omega) R.tab.up R.ld fun s' out k1 k2 k3 k4 pm => k s' out (by rw [← he]; exact pm) k1 k2 k3 k4)
            (fun vs pm h2 z a ha k => ?_) fun vs out s' p pm srt stb k1 hp eg eo hd' => ?_
          · have hm : ∀ v ∈ vs, keyAt H1 v ∈ L.map (·.2) := fun v hv => by rw [← eL]; exact List.mem_map_of_mem (pm.subset hv)
            refine kt_sortable (b := b) (by omega) (fun v hv => ?_) (fun v hv => hb _ (hm v hv)) (fun v hv u hu => cmp _ (hm v hv) _ (hm u hu)) fun o e => ?_
            · obtain ⟨p, hp, rfl⟩ := List.mem_map.mp (pm.subset hv)
              rw [keyAt_of (inL p hp)]
              obtain ⟨_, its', r, o', ho', hc', n', hd'⟩ := I2.hok _ _ (inL p hp)
              exact ⟨p.1, o', its'.toArray, n', rfl, k _ _ ho', hc', hd', by simpa using r⟩
            · have e2 : some o = some (seqObj "list" vs.toArray 0) := e.symm.trans ha
              cases e2
              intro c
              exact absurd (Value.type.inj c) (by decide)
          · have hpm : out.Perm (L.map fun q => Value.ref q.1) := stb.perm.trans pm
            obtain ⟨ts', e1, e2⟩ : ∃ ts' : List Addr, out = ts'.map Value.ref ∧ ∀ t ∈ ts', ∃ ks : List L2.Key, H1 t = some (.tup (ks.map kV)) := by
              have ho : ∀ v ∈ out, ∃ p ∈ L, v = Value.ref p.1 := fun v hv => by
                obtain ⟨t, ht, e⟩ := List.mem_map.mp (hpm.subset hv)
                exact ⟨t, ht, e.symm⟩
              clear srt stb hpm hd'
              induction out with
              | nil => exact ⟨[], rfl, fun _ z => nomatch z⟩
              | cons v out ih =>
                obtain ⟨ts', e1, e2⟩ := ih fun u hu => ho u (List.mem_cons_of_mem _ hu)
                obtain ⟨p, hp, rfl⟩ := ho _ List.mem_cons_self
                refine ⟨p.1 :: ts', by rw [e1]; rfl, fun u hu => ?_⟩
                rcases List.mem_cons.mp hu with rfl | hu
                · exact ⟨_, inL p hp⟩
                · exact e2 u hu
            subst e1
            have sk : (ts'.map Value.ref).map (keyAt H1) = sortK (uq kss) := by
              refine sortK_is ?_ (List.pairwise_map.mpr srt)
              refine (hpm.map _).trans ?_
              rw [eL]
              exact (List.perm_ext_iff_of_nodup R.uni (uq_nd kss)).mpr fun x => by rw [mL, uq_mem]
            have kt' : KtAt H1 ts' (sortK (uq kss)) := kt_of e2 sk
            obtain ⟨n, hd'⟩ := hd'
            have hl' : (ts'.map V.ref).length ≤ sizeLine := by
              have := hpm.length_eq
              rw [List.length_map, List.length_map] at this
              rw [List.length_map, sizeLine_eq]; omega
            have hn : H1 p = none := I2.hok.fresh hp
            exact ⟨.ref p, _, I2.call' (ch := []) eo (Un.laid k1 hp hn) (I2.hok.laid k1 hp (show ObjOk X.prog X.w (upd H1 p (.lst (ts'.map V.ref))) s'.heap p (.lst (ts'.map V.ref)) from ⟨hl', ts'.map Value.ref, n, vals_refs _, hd'⟩)) (by rw [eg]; exact I2.bare) (fun _ z => nomatch z), rfl, fn p _ hn (kt_rds S1 kt')⟩
        · cases hq
      · split at hq
        · rename_i is hi
          split at hq
          · rename_i few
            cases hq
            obtain rfl := intsOf_eq hi
            obtain rfl := h2.of_ints
            refine Sg.set_ints tup is (I1.ok.hd hc) hl (by rw [List.toList_toArray]; exact ints_of_vals rv) few fun h' tk c R le keep => ?_
            apply PyProof.Rows.args_nil
            have I2 : Inv X pins σ H1 { s1 with heap := h', toks := tk } := I1.kept keep
            refine sorted_set (s := { s1 with heap := h', toks := tk }) R (I1.ok.hd hc) (by omega) fun s' p out n ns k1 eg eo hp hd' hi' pw mm ll => ?_
            have hn : H1 p = none := I2.hok.fresh hp
            have e3 : ns = sI is := sI_is pw fun x => by rw [mm]; exact decide_eq_true_iff
            have hl' : (ns.map V.int).length ≤ sizeLine := by rw [List.length_map, ll, sizeLine_eq]; omega
            refine ⟨.ref p, _, I2.call' (ch := []) eo (Un.laid k1 hp hn) (I2.hok.laid k1 hp (show ObjOk X.prog X.w (upd H1 p (.lst (ns.map V.int))) s'.heap p (.lst (ns.map V.int)) from ⟨hl', out.toList, n, vals_of_ints hi', hd'⟩)) (by rw [eg]; exact I2.bare) (fun _ z => nomatch z), rfl, ?_⟩
            subst e3
            exact fn p _ hn (RDs.ints _)
          · cases hq
        · cases hq
    · split at hq
      · rename_i kvs hkv
        split at hq
        · rename_i ok
          obtain ⟨ok, few⟩ := ok
          cases hq
          obtain ⟨a, vs, rfl, h1, h2⟩ := dtR_at0 S1 rd hkv
          obtain rfl : v = Value.ref a := r1
          obtain ⟨z, hne, ks, pr, o, es0, ep0, ho, hx, hdt, he, hn⟩ := (show ObjOk X.prog X.w H1 s1.heap a (.dT vs) from h1.ok I1.hok)
          have kt : ks.map (·.1) = vs.map (·.1) ∧ ∀ x ∈ ks, H1 x.2.1 = some (.tup (x.1.map kV)) := by
            clear he hn
            have : ∀ {l : List (List Key × V)} {m : List (List Key × Addr × Value)}, KT H1 l m → m.map (·.1) = l.map (·.1) ∧ ∀ x ∈ m, H1 x.2.1 = some (.tup (x.1.map kV)) := by
              intro l m rr
              induction rr with
              | nil => exact ⟨rfl, fun _ z => nomatch z⟩
              | cons h t ih => exact ⟨by rw [List.map_cons, List.map_cons, ih.1, h.1], fun x hx => by
                rcases List.mem_cons.mp hx with rfl | hx
                · rw [← h.1]; exact h.2.1
                · exact ih.2 x hx⟩
            exact this pr
          obtain ⟨kss, ekss⟩ : ∃ kss, kss = kvs.map (·.1) := ⟨_, rfl⟩
          rw [← ekss] at ok q1 fn
          obtain ⟨pl, epl⟩ : ∃ pl : List (Addr × List Key), pl = ks.map fun x => (x.2.1, x.1) := ⟨_, rfl⟩
          have z2 : pl.map (·.2) = kss := by
            rw [epl, List.map_map, ekss, h2.fsts, ← kt.1]; rfl
          have lks : ks.length = pl.length := by rw [epl, List.length_map]
          have lz : pl.length < 4000 := by
            rw [← lks, ← List.length_map (f := fun x : List Key × Addr × Value => x.1), kt.1, ← h2.fsts, List.length_map]
            exact few
          have z3 : ∀ p ∈ pl, H1 p.1 = some (.tup (p.2.map kV)) := fun p hp => by
            rw [epl] at hp
            obtain ⟨x, hx, rfl⟩ := List.mem_map.mp hp
            exact kt.2 x hx
          refine Sg.set_dict (Sg.calm_tup X.prog X.w) (I1.ok.hd hc) ⟨o, ho, hx, hdt⟩ he (beq_eq_false_iff_ne.mp hne) (fun x hx => kt_is I1 (kt.2 x hx)) (by omega) (by omega) fun h' tk L es ep t R U keep => ?_
          rw [← epl, lks] at U
          apply PyProof.Rows.args_nil
          have I2 : Inv X pins σ H1 { s1 with heap := h', toks := tk } := I1.kept keep
          have esl : es.size = L.length := Sg.On.es_len (s := { s1 with heap := h', toks := tk }) R
          have few2 := R.few
          -- what is in it
          have inL : ∀ p ∈ L, H1 p.1 = some (.tup (p.2.map kV)) := fun p hp => z3 p (List.mem_of_mem_take (U.of_ p hp))
          have mL : ∀ x, x ∈ L.map (·.2) ↔ x ∈ kss := fun x => by
            constructor
            · intro hx
              obtain ⟨p, hp, rfl⟩ := List.mem_map.mp hx
              rw [← z2]
              exact List.mem_map.mpr ⟨p, List.mem_of_mem_take (U.of_ p hp), rfl⟩
            · intro hx
              rw [← z2] at hx
              obtain ⟨p, hp, rfl⟩ := List.mem_map.mp hx
              exact U.all p (by rw [List.take_length]; exact hp)
          have ok2 : okKs (L.map (·.2)) = true := okKs_sub (fun x hx => (mL x).mp hx) (by
            rw [List.length_map]
            have := U.le
            rw [← z2, List.length_map]; exact this) ok
          unfold okKs at ok2
          rw [Bool.and_eq_true, Bool.and_eq_true] at ok2
          obtain ⟨⟨o1, o2⟩, o3⟩ := ok2
          have cmp : ∀ a ∈ L.map (·.2), ∀ b ∈ L.map (·.2), cmpK a b = true := fun a ha b hb => List.all_eq_true.mp (List.all_eq_true.mp o1 a ha) b hb
          obtain ⟨b, hb⟩ : ∃ b, ∀ a ∈ L.map (·.2), headK b a = true := by
            rcases Bool.or_eq_true_iff.mp o2 with h | h
            · exact ⟨true, List.all_eq_true.mp h⟩
            · exact ⟨false, List.all_eq_true.mp h⟩
          have eL : (L.map fun q => Value.ref q.1).map (keyAt H1) = L.map (·.2) := by
            rw [List.map_map]
            exact List.map_congr_left fun p hp => keyAt_of (inL p hp)
          obtain ⟨o, ho, hex, hd⟩ := R.obj
          have he : es.toList.map (·.2) = L.map fun q => Value.ref q.1 := by
            rw [R.ents, List.map_map]; rfl
          refine sorted_any (s := { s1 with heap := h', toks := tk }) (vs0 := L.map fun q => Value.ref q.1) (swoK (keyAt H1)) (by rw [List.length_map, sizeLine_eq]; omega)
            (fun Q' E' k => collect_set (A := X.A.in1) (I1.ok.hd hc) ⟨o, ho, hex.1, hd⟩ (Sg.On.ok (s := { s1 with heap := h', toks := tk }) R) (by rw [esl]; unfold scanBound; omega) R.tab.up R.ld fun s' out k1 k2 k3 k4 pm => k s' out (by rw [← he]; exact pm) k1 k2 k3 k4)
            (fun vs pm h2 z a ha k => ?_) fun vs out s' p pm srt stb k1 hp eg eo hd' => ?_
          · have hm : ∀ v ∈ vs, keyAt H1 v ∈ L.map (·.2) := fun v hv => by rw [← eL]; exact List.mem_map_of_mem (pm.subset hv)
            refine kt_sortable (b := b) (by omega) (fun v hv => ?_) (fun v hv => hb _ (hm v hv)) (fun v hv u hu => cmp _ (hm v hv) _ (hm u hu)) fun o e => ?_
            · obtain ⟨p, hp, rfl⟩ := List.mem_map.mp (pm.subset hv)
              rw [keyAt_of (inL p hp)]
              obtain ⟨_, its', r, o', ho', hc', n', hd'⟩ := I2.hok _ _ (inL p hp)
              exact ⟨p.1, o', its'.toArray, n', rfl, k _ _ ho', hc', hd', by simpa using r⟩
            · have e2 : some o = some (seqObj "list" vs.toArray 0) := e.symm.trans ha
              cases e2
              intro c
              exact absurd (Value.type.inj c) (by decide)
          · have hpm : out.Perm (L.map fun q => Value.ref q.1) := stb.perm.trans pm
            obtain ⟨ts', e1, e2⟩ : ∃ ts' : List Addr, out = ts'.map Value.ref ∧ ∀ t ∈ ts', ∃ ks : List L2.Key, H1 t = some (.tup (ks.map kV)) := by
              have ho : ∀ v ∈ out, ∃ p ∈ L, v = Value.ref p.1 := fun v hv => by
                obtain ⟨t, ht, e⟩ := List.mem_map.mp (hpm.subset hv)
                exact ⟨t, ht, e.symm⟩
              clear srt stb hpm hd'
              induction out with
              | nil => exact ⟨[], rfl, fun _ z => nomatch z⟩
              | cons v out ih =>
                obtain ⟨ts', e1, e2⟩ := ih fun u hu => ho u (List.mem_cons_of_mem _ hu)
                obtain ⟨p, hp, rfl⟩ := ho _ List.mem_cons_self
                refine ⟨p.1 :: ts', by rw [e1]; rfl, fun u hu => ?_⟩
                rcases List.mem_cons.mp hu with rfl | hu
                · exact ⟨_, inL p hp⟩
                · exact e2 u hu
            subst e1
            have sk : (ts'.map Value.ref).map (keyAt H1) = sortK (uq kss) := by
              refine sortK_is ?_ (List.pairwise_map.mpr srt)
              refine (hpm.map _).trans ?_
              rw [eL]
              exact (List.perm_ext_iff_of_nodup R.uni (uq_nd kss)).mpr fun x => by rw [mL, uq_mem]
            have kt' : KtAt H1 ts' (sortK (uq kss)) := kt_of e2 sk
            obtain ⟨n, hd'⟩ := hd'
            have hl' : (ts'.map V.ref).length ≤ sizeLine := by
              have := hpm.length_eq
              rw [List.length_map, List.length_map] at this
              rw [List.length_map, sizeLine_eq]; omega
            have hn : H1 p = none := I2.hok.fresh hp
            exact ⟨.ref p, _, I2.call' (ch := []) eo (Un.laid k1 hp hn) (I2.hok.laid k1 hp (show ObjOk X.prog X.w (upd H1 p (.lst (ts'.map V.ref))) s'.heap p (.lst (ts'.map V.ref)) from ⟨hl', ts'.map Value.ref, n, vals_refs _, hd'⟩)) (by rw [eg]; exact I2.bare) (fun _ z => nomatch z), rfl, fn p _ hn (kt_rds S1 kt')⟩
        · cases hq
      · cases hq
end
section
variable {e : Ev} {hs h : Hs} {X : XQ}
theorem wp_setSort {f : FE} {Q : List D → Hs → Prop} (g : Wp (f e hs) (fun d h => Wp (R.ofO (gSetSort h d) h) Q X) X) : Wp (lSetSort f e hs) Q X := wp_bind g
theorem setSort_keys {d : D} {ds : List D} {kss : List (List Key)} (e : seqOf h d = some ds) (k : keyTs ds = some kss) (ok : okKs kss = true) (few : kss.length < 4000) : gSetSort h d = some ((sortK (uq kss)).map tupK) := by
  unfold gSetSort
  rw [e]
  dsimp only
  rw [k]
  dsimp only
  rw [if_pos ⟨ok, few⟩]
end
end G

/-! # G96: for a, b, c in xs, where xs holds lists of the heap -/
namespace G
open PySem PySem.Spec PyProof.Rows L2
section
end
section
end
/-! # G97: list(d.values()) of a locked dict with numbers or texts as keys -/
section
end
section
end
end G

/-! # G98: a search with the ways laid on a pile (plain) -/
namespace MT
open PySem PySem.Spec L2 G
/-- a left one, how far it has looked, what it looked at last -/
structure Fr where
  l : Nat
  i : Nat
  r : Option Nat
abbrev ptA (T : Tk) (us : List (Nat × Nat)) : Tk := us.foldl (fun T p => pt T p.1 p.2) T
/-- what is known of the whole search when the uppermost one has ended so; the others beneath, the uppermost first -/
def Fin (N : Nat → List Nat) (P : Bool → Tk → List Nat → Prop) : List Fr → Bool → Tk → List Nat → Prop
  | [], ok, T, S => P ok T S
  | f :: fs, true, T, S => Fin N P fs true (match f.r with | some r => pt T r f.l | none => T) S
  | f :: fs, false, T, S => ∀ ok' T2 S2, Lp N f.l ((N f.l).drop f.i) T S ok' T2 S2 → Fin N P fs ok' T2 S2
section
variable {N : Nat → List Nat} {P : Bool → Tk → List Nat → Prop} {fs : List Fr} {T : Tk} {S : List Nat}
/-- the pairs of a pile -/
def usF (fs : List Fr) : List (Nat × Nat) := fs.map fun f => (f.r.getD 0, f.l)
theorem Fin.all : ∀ {fs : List Fr} {T : Tk}, (∀ f ∈ fs, f.r.isSome = true) → Fin N P fs true T S → P true (ptA T (usF fs)) S
  | [], _, _, h => h
  | f :: fs, T, a, h => by
    have h : Fin N P fs true (match f.r with | some r => pt T r f.l | none => T) S := h
    have s := a f List.mem_cons_self
    cases e : f.r with
    | none => rw [e] at s; cases s
    | some r =>
      rw [e] at h
      have := Fin.all (fun f hf => a f (List.mem_cons_of_mem _ hf)) h
      show P true (List.foldl _ (pt T (f.r.getD 0) f.l) _) S
      rw [e]
      exact this
end
end MT

/-! # G99: the laws' led: the most pairs by ways laid on a pile -/
namespace G
open PySem PySem.Spec PyProof.Rows L2
noncomputable section
end
end G
namespace MT
open PySem PySem.Spec L2 G
section
end
section
end
end MT

/-! # G100: the laws' own pairs and bar of gloves -/
namespace G
open PySem PySem.Spec PyProof.Rows L2
noncomputable section
end
section
variable {h : Hs} {Q : D → Hs → Prop} {X : XQ} {gs A B : List Gv} {d : D}
theorem nxN_L (n : Nat) : nxN 0 n = nxL ((List.range n).map MT.nI) := by
  funext hs i
  unfold nxN nxL
  rw [List.getElem?_map]
  by_cases q : i < n
  · rw [if_pos q, List.getElem?_range q]
    show some (some (D.int (0 + (i : Int)))) = some (some (D.int (i : Nat)))
    rw [Int.zero_add]
  · rw [if_neg q, List.getElem?_eq_none (by rw [List.length_range]; omega)]; rfl
end
/-! # G101: defs with defaults that run while a repr is under way -/
section
end
section
end
/-! # G102: {t: v}, t a tuple of numbers and texts -/
section
end
section
end
/-! # G103: <<, >>, &, | of whole numbers that are not below nought -/
section
end
/-! # G104: zip(a, b, strict=True) of lists and tuples of one length: the iterator itself -/
open PySem.Sem (wp)
/-- a strict zip, as it stands -/
abbrev ZipS (h : Heap) (z TI TO : Addr) (f0 : Value) : Prop :=
  h.get? z = some { cls := .type "zip", dict := none, data := .fields #[f0, .bool false, .bool true, .ref TI, .ref TO], slots := #[] }
section
variable {prog : Program} {w : World} {A : Around} {E : Value → Shared → Prop} {s : Shared} {z TI TO i1 i2 it : Addr} {fp fp1 fp2 : List Addr} {n n1 n2 i : Nat} {P P1 P2 : Nat → Value → Prop} {St St1 St2 : Nat → Heap → Prop} {a1 a2 : Value}
theorem orEnd_item {Q : Option Value → Shared → Prop} (D : Draws prog w A it fp n P St) (hlt : i < n) (st : St i s.heap) (h : ∀ x h' tk, P i x → St (i + 1) h' → Heap.SameBut it s.heap h' → Q (some x) { s with heap := h', toks := tk }) :
    wpAny (model prog w) A (Builtin.SmallTypes.nextOrEnd (.ref it)) Q E s := by
  unfold Builtin.SmallTypes.nextOrEnd
  exact wpAny_bind (wpAny_attempt (D.item i _ _ _ hlt st fun x h' tk a b c => wpAny_pure (h x h' tk a b c)))
theorem orEnd_done {Q : Option Value → Shared → Prop} (D : Draws prog w A it fp n P St) (st : St n s.heap) (h : ∀ h', Heap.ExtBut it s.heap h' → Q none { s with heap := h' }) :
    wpAny (model prog w) A (Builtin.SmallTypes.nextOrEnd (.ref it)) Q E s := by
  unfold Builtin.SmallTypes.nextOrEnd
  refine wpAny_bind (wpAny_attempt (D.done _ _ _ st fun h' e a b => ?_))
  obtain ⟨o, ho, hc⟩ := b
  refine wpAny_bind (wpAny_isInstance (T := "StopIteration") (b := true) ⟨o, ho, hc⟩ isSubtype_stop ?_)
  exact wpAny_pure (h h' a)
theorem stop_it {α : Type} {Q : α → Shared → Prop} (hh : A.handled = none) (h : ∀ h' e, (∀ c o, s.heap.get? c = some o → h'.get? c = some o) → (∃ o, h'.get? e = some o ∧ o.cls = .type "StopIteration") → E (.ref e) { s with heap := h' }) :
    wpAny (model prog w) A (Builtin.SmallTypes.stopIteration : Sem α) Q E s := by
  unfold Builtin.SmallTypes.stopIteration
  refine wpAny_bind ?_
  simp only [newExc, newTuple]
  refine wpAny_bind (wpAny_newObj_type ?_ (by size_fits))
  refine wpAny_bind (m := firstArgMember _ _) (wpAny_of_eq (a := Value.none) (by first | rfl | (simp only [firstArgMember]; rfl)) ?_)
  refine wpAny_newObj_type ?_ (by size_fits)
  simp only [raiseNew]
  refine wpAny_bind (wpAny_handled ?_)
  first | rw [show A.in1.handled = none from hh] | rw [hh]
  refine wpAny_bind (wpAny_pure (wpAny_throw ?_))
  exact h _ _ (fun c o e => Heap.get?_push_of_some _ (Heap.get?_push_of_some _ e)) ⟨_, Heap.get?_push_size _ rfl, rfl⟩
theorem zipS_next_item {Q : Value → Shared → Prop} (S : ZipSep2 z TI TO i1 i2 fp1 fp2) (D1 : Draws prog w A i1 fp1 n1 P1 St1) (D2 : Draws prog w A i2 fp2 n2 P2 St2)
    (hz : ZipS s.heap z TI TO .none) (hTI : IsTupOf2 s.heap TI (.ref i1) (.ref i2)) (hTO : IsTupOf2 s.heap TO a1 a2) (st1 : St1 i s.heap) (st2 : St2 i s.heap) (hlt1 : i < n1) (hlt2 : i < n2)
    (hQ : ∀ x1 x2 h' tk, P1 i x1 → P2 i x2 → ZipS h' z TI TO (rawInt s.heap.objs.size) → IsTupOf2 h' TO x1 x2 → St1 (i + 1) h' → St2 (i + 1) h' → IsTupOf2 h' s.heap.objs.size x1 x2 → h'.objs.size = s.heap.objs.size + 1 →
      (∀ c o, c ≠ z → c ≠ TO → c ≠ i1 → c ≠ i2 → s.heap.get? c = some o → h'.get? c = some o) → Q (.ref s.heap.objs.size) { s with heap := h', toks := tk }) :
    wpAny (model prog w) A (Builtin.«zip.__next__» ⟨[.ref z], []⟩) (fun fin s' => ∃ v, fin = .done (.ret v) ∧ Q v s') E s := by
  obtain ⟨hp, g, d, tk0, os⟩ := s
  show wpAny _ _ (field (.ref z) 2 >>= _) _ _ _
  refine wpAny_bind (wpAny_field hz rfl (x := .bool true) rfl ?_)
  show wpAny _ _ (field (.ref z) 3 >>= _) _ _ _
  refine wpAny_bind (wpAny_field hz rfl (x := .ref TI) rfl ?_)
  refine wpAny_bind (wpAny_seqItems hTI rfl ?_)
  show wpAny _ _ (Builtin.SmallTypes.ownedTupleIsFree (.ref z) >>= _) _ _ _
  refine wpAny_bind ?_
  unfold Builtin.SmallTypes.ownedTupleIsFree
  refine wpAny_bind (wpAny_field hz rfl (x := .none) rfl (wpAny_pure ?_))
  simp only [if_true]
  refine wpAny_bind (wpAny_rule ?_)
  refine wpAny_bind (wpAny_field hz rfl (x := .ref TO) rfl ?_)
  refine wpAny_bind (wpAny_setField_rec hz (by simp) fun g0 hz0 hs0 => ?_)
  replace hz0 : ZipS g0 z TI TO .ellipsis := hz0
  replace hs0 : Heap.SameBut z hp g0 := hs0
  refine wpAny_bind ?_
  simp only [List.zipIdx_cons, List.zipIdx_nil, List.forIn_cons, List.forIn_nil]
  refine wpAny_bind (wpAny_bind (wpAny_onRaise ?_))
  show wpAny _ _ (Builtin.SmallTypes.nextOrEnd (.ref i1)) _ _ ⟨g0, g, d, tk0, os⟩
  refine orEnd_item D1 hlt1 (D1.over st1 hs0 S.zf1) fun x1 p1 tk1 hx1 sn1 hp1 => ?_
  replace hp1 : Heap.SameBut i1 g0 p1 := hp1
  have hU1 : IsTupOf2 p1 TO a1 a2 := hp1.extBut _ _ S.Ti1 (hs0.extBut _ _ S.TOz hTO)
  refine wpAny_bind (wpAny_seqItems (s := ⟨p1, g, d, tk1, os⟩) hU1 rfl ?_)
  refine wpAny_bind (updateSeq_IsTupOf2 (s := ⟨p1, g, d, tk1, os⟩) hU1 fun g1 hT1 hs1 => ?_)
  replace hT1 : IsTupOf2 g1 TO x1 a2 := hT1
  replace hs1 : Heap.SameBut TO p1 g1 := hs1
  refine wpAny_bind (wpAny_letGo (wpAny_pure ?_))
  refine wpAny_bind (wpAny_bind (wpAny_onRaise ?_))
  show wpAny _ _ (Builtin.SmallTypes.nextOrEnd (.ref i2)) _ _ ⟨g1, g, d, tk1, os⟩
  refine orEnd_item D2 hlt2 (D2.over (D2.over (D2.over st2 hs0 S.zf2) hp1 S.sep1_2) hs1 S.Tf2) fun x2 p2 tk2 hx2 sn2 hp2 => ?_
  replace hp2 : Heap.SameBut i2 g1 p2 := hp2
  have hU2 : IsTupOf2 p2 TO x1 a2 := hp2.extBut _ _ S.Ti2 hT1
  refine wpAny_bind (wpAny_seqItems (s := ⟨p2, g, d, tk2, os⟩) hU2 rfl ?_)
  refine wpAny_bind (updateSeq_IsTupOf2 (s := ⟨p2, g, d, tk2, os⟩) hU2 fun g2 hT2 hs2 => ?_)
  replace hT2 : IsTupOf2 g2 TO x1 x2 := hT2
  replace hs2 : Heap.SameBut TO p2 g2 := hs2
  refine wpAny_bind (wpAny_letGo (wpAny_pure (wpAny_pure ?_)))
  refine wpAny_bind (wpAny_seqItems (s := ⟨g2, g, d, tk2, os⟩) hT2 rfl ?_)
  refine wpAny_bind (wpAny_newTuple ?_)
  have hsz : g2.objs.size = hp.objs.size := by rw [hs2.1, hp2.1, hs1.1, hp1.1, hs0.1]
  have hzz : ZipS g2 z TI TO .ellipsis := (hs2.extBut _ _ S.TOz.symm (hp2.extBut _ _ S.zi2 (hs1.extBut _ _ S.TOz.symm (hp1.extBut _ _ S.zi1 hz0))))
  have hkk : ∀ c o, c ≠ z → c ≠ TO → c ≠ i1 → c ≠ i2 → hp.get? c = some o → g2.get? c = some o := fun c o cz cT c1 c2 e =>
    (hs2.extBut _ _ cT (hp2.extBut _ _ c2 (hs1.extBut _ _ cT (hp1.extBut _ _ c1 (hs0.extBut _ _ cz e)))))
  have hj1 : St1 (i + 1) g2 := (D1.over (D1.over (D1.over sn1 hs1 S.Tf1) hp2 S.sep2_1) hs2 S.Tf1)
  have hj2 : St2 (i + 1) g2 := (D2.over sn2 hs2 S.Tf2)
  have hzlt : z < g2.objs.size := Heap.lt_size hzz
  show wpAny _ _ (Builtin.SmallTypes.ownedTupleHandOut (.ref z) (.ref g2.objs.size) >>= _) _ _ ⟨g2.push { cls := .type "tuple", data := .seq #[x1, x2] }, g, d, tk2, os⟩
  refine wpAny_bind ?_
  unfold Builtin.SmallTypes.ownedTupleHandOut
  have hz₆ : ZipS (g2.push { cls := .type "tuple", data := .seq #[x1, x2] }) z TI TO .ellipsis := Heap.get?_push_of_some _ hzz
  refine wpAny_bind (wpAny_setField_rec hz₆ (by simp) fun h₇ hz₇ hs₇ => ?_)
  replace hz₇ : ZipS h₇ z TI TO (rawInt g2.objs.size) := hz₇
  refine wpAny_setField_rec hz₇ (by simp) fun h₈ hz₈ hs₈ => ?_
  replace hz₈ : ZipS h₈ z TI TO (rawInt g2.objs.size) := hz₈
  replace hs₇ : Heap.SameBut z (g2.push { cls := .type "tuple", data := .seq #[x1, x2] }) h₇ := hs₇
  replace hs₈ : Heap.SameBut z h₇ h₈ := hs₈
  have up : ∀ c o, c ≠ z → g2.get? c = some o → h₈.get? c = some o := fun c o c1 e => hs₈.extBut _ _ c1 (hs₇.extBut _ _ c1 (Heap.get?_push_of_some _ e))
  have hT₈ : IsTupOf2 h₈ g2.objs.size x1 x2 := hs₈.extBut _ _ (Nat.ne_of_gt hzlt) (hs₇.extBut _ _ (Nat.ne_of_gt hzlt) (Heap.get?_push_size _ rfl))
  have hz8 : h₈.objs.size = g2.objs.size + 1 := by rw [hs₈.1, hs₇.1, Heap.size_push]
  rw [hsz] at hz₈ hT₈ hz8
  refine wpAny_pure ⟨_, rfl, ?_⟩
  show Q (.ref g2.objs.size) ⟨h₈, g, d, tk2, os⟩
  rw [hsz]
  exact hQ x1 x2 h₈ tk2 hx1 hx2 hz₈ (up _ _ S.TOz hT2) (D1.frame _ _ _ hj1 fun b hb o e => up b o (fun q => S.zf1 (q ▸ hb)) e) (D2.frame _ _ _ hj2 fun b hb o e => up b o (fun q => S.zf2 (q ▸ hb)) e) hT₈ hz8 fun c o cz cT c1 c2 e => up c o cz (hkk c o cz cT c1 c2 e)
theorem zipS_next_end {Q : Fin → Shared → Prop} (hh : A.handled = none) (S : ZipSep2 z TI TO i1 i2 fp1 fp2) (D1 : Draws prog w A i1 fp1 i P1 St1) (D2 : Draws prog w A i2 fp2 i P2 St2)
    (hz : ZipS s.heap z TI TO .none) (hTI : IsTupOf2 s.heap TI (.ref i1) (.ref i2)) (hTO : IsTupOf2 s.heap TO a1 a2) (st1 : St1 i s.heap) (st2 : St2 i s.heap)
    (hE : ∀ h' tk e, (∀ c o, c ≠ z → c ≠ TO → c ≠ i1 → c ≠ i2 → s.heap.get? c = some o → h'.get? c = some o) → (∃ o, h'.get? e = some o ∧ o.cls = .type "StopIteration") → E (.ref e) { s with heap := h', toks := tk }) :
    wpAny (model prog w) A (Builtin.«zip.__next__» ⟨[.ref z], []⟩) Q E s := by
  obtain ⟨hp, g, d, tk0, os⟩ := s
  show wpAny _ _ (field (.ref z) 2 >>= _) _ _ _
  refine wpAny_bind (wpAny_field hz rfl (x := .bool true) rfl ?_)
  show wpAny _ _ (field (.ref z) 3 >>= _) _ _ _
  refine wpAny_bind (wpAny_field hz rfl (x := .ref TI) rfl ?_)
  refine wpAny_bind (wpAny_seqItems hTI rfl ?_)
  show wpAny _ _ (Builtin.SmallTypes.ownedTupleIsFree (.ref z) >>= _) _ _ _
  refine wpAny_bind ?_
  unfold Builtin.SmallTypes.ownedTupleIsFree
  refine wpAny_bind (wpAny_field hz rfl (x := .none) rfl (wpAny_pure ?_))
  simp only [if_true]
  refine wpAny_bind (wpAny_rule ?_)
  refine wpAny_bind (wpAny_field hz rfl (x := .ref TO) rfl ?_)
  refine wpAny_bind (wpAny_setField_rec hz (by simp) fun g0 hz0 hs0 => ?_)
  replace hz0 : ZipS g0 z TI TO .ellipsis := hz0
  replace hs0 : Heap.SameBut z hp g0 := hs0
  refine wpAny_bind ?_
  simp only [List.zipIdx_cons, List.zipIdx_nil, List.forIn_cons, List.forIn_nil]
  refine wpAny_bind (wpAny_bind (wpAny_onRaise ?_))
  show wpAny _ _ (Builtin.SmallTypes.nextOrEnd (.ref i1)) _ _ ⟨g0, g, d, tk0, os⟩
  refine orEnd_done D1 (D1.over st1 hs0 S.zf1) fun p1 hp1 => ?_
  replace hp1 : Heap.ExtBut i1 g0 p1 := hp1
  have hz1 : ZipS p1 z TI TO .ellipsis := hp1 _ _ S.zi1 hz0
  refine wpAny_bind (wpAny_setField_rec (s := ⟨p1, g, d, tk0, os⟩) hz1 (by simp) fun g1 hz2 hs1 => ?_)
  replace hs1 : Heap.SameBut z p1 g1 := hs1
  refine wpAny_bind ?_
  refine wpAny_bind ?_
  show wpAny _ _ (_ >>= _) _ _ _
  refine wpAny_bind ?_
  show wpAny _ _ (Builtin.SmallTypes.nextOrEnd (.ref i2) >>= _) _ _ ⟨g1, g, d, tk0, os⟩
  have st2' : St2 i g1 := D2.over (D2.frame _ _ _ (D2.over st2 hs0 S.zf2) fun b hb o e => hp1 b o (fun q => S.sep1_2 (q ▸ hb)) e) hs1 S.zf2
  refine wpAny_bind (orEnd_done (s := ⟨g1, g, d, tk0, os⟩) D2 st2' fun p2 hp2 => ?_)
  replace hp2 : Heap.ExtBut i2 g1 p2 := hp2
  show wpAny _ _ (pure _) _ _ _
  refine wpAny_pure ?_
  show wpAny _ _ (pure _) _ _ _
  refine wpAny_pure ?_
  refine wpAny_bind (wpAny_rule ?_)
  refine stop_it hh fun h' e k he => ?_
  exact hE h' tk0 e (fun c o c1 c2 c3 c4 q => k c o (hp2 _ _ c4 (hs1.extBut _ _ c1 (hp1 _ _ c3 (hs0.extBut _ _ c1 q))))) he
theorem pyNext_zipS_item {Q : Option Value → Shared → Prop} (S : ZipSep2 z TI TO i1 i2 fp1 fp2) (D1 : Draws prog w A.in1 i1 fp1 n1 P1 St1) (D2 : Draws prog w A.in1 i2 fp2 n2 P2 St2)
    (hz : ZipS s.heap z TI TO .none) (hTI : IsTupOf2 s.heap TI (.ref i1) (.ref i2)) (hTO : IsTupOf2 s.heap TO a1 a2) (st1 : St1 i s.heap) (st2 : St2 i s.heap) (hlt1 : i < n1) (hlt2 : i < n2)
    (hQ : ∀ x1 x2 h' tk, P1 i x1 → P2 i x2 → ZipS h' z TI TO (rawInt s.heap.objs.size) → IsTupOf2 h' TO x1 x2 → St1 (i + 1) h' → St2 (i + 1) h' → IsTupOf2 h' s.heap.objs.size x1 x2 → h'.objs.size = s.heap.objs.size + 1 →
      (∀ c o, c ≠ z → c ≠ TO → c ≠ i1 → c ≠ i2 → s.heap.get? c = some o → h'.get? c = some o) → Q (some (.ref s.heap.objs.size)) { s with heap := h', toks := tk }) :
    wpAny (model prog w) A (pyNext (.ref z)) Q E s := by
  have hT : s.TypeIs (.ref z) "zip" := ⟨_, hz, rfl⟩
  unfold pyNext
  exact wpAny_bind (wpAny_attempt (wpAny_callSpecial?_slot (name := Str.ofString "__next__") hT PySem.F.slot_zip_next
    (wpAny_call_entry PySem.F.slot_zip_next hT PySem.F.entry_zip_next
      (zipS_next_item S D1 D2 hz hTI hTO st1 st2 hlt1 hlt2 fun x1 x2 h' tk y1 y2 b1 b2 d1 d2 b5 b6 b7 => wpAny_pure (hQ x1 x2 h' tk y1 y2 b1 b2 d1 d2 b5 b6 b7)) (PySem.F.args_zip_next_1 _))))
theorem pyNext_zipS_end {Q : Option Value → Shared → Prop} (hh : A.in1.handled = none) (S : ZipSep2 z TI TO i1 i2 fp1 fp2) (D1 : Draws prog w A.in1 i1 fp1 i P1 St1) (D2 : Draws prog w A.in1 i2 fp2 i P2 St2)
    (hz : ZipS s.heap z TI TO .none) (hTI : IsTupOf2 s.heap TI (.ref i1) (.ref i2)) (hTO : IsTupOf2 s.heap TO a1 a2) (st1 : St1 i s.heap) (st2 : St2 i s.heap)
    (hQ : ∀ h' tk, (∀ c o, c ≠ z → c ≠ TO → c ≠ i1 → c ≠ i2 → s.heap.get? c = some o → h'.get? c = some o) → Q none { s with heap := h', toks := tk }) : wpAny (model prog w) A (pyNext (.ref z)) Q E s := by
  have hT : s.TypeIs (.ref z) "zip" := ⟨_, hz, rfl⟩
  unfold pyNext
  refine wpAny_bind (wpAny_attempt (wpAny_callSpecial?_slot (name := Str.ofString "__next__") hT PySem.F.slot_zip_next
    (wpAny_call_entry PySem.F.slot_zip_next hT PySem.F.entry_zip_next (zipS_next_end hh S D1 D2 hz hTI hTO st1 st2 fun h' tk e hk he => ?_) (PySem.F.args_zip_next_1 _))))
  obtain ⟨o, ho, hc⟩ := he
  refine wpAny_bind (wpAny_isInstance (T := "StopIteration") (b := true) ⟨o, ho, hc⟩ isSubtype_stop ?_)
  exact wpAny_pure (hQ _ _ hk)
theorem letGo_zipS {elts : List Expr} {x1} {pos : Pos} {T : Addr} {Q : Unit → Shared → Prop} (hz : ZipS s.heap z TI TO (rawInt T))
    (hQ : ∀ h', ZipS h' z TI TO .none → Heap.SameBut z s.heap h' → Q () { s with heap := h' }) :
    wpAny (model prog w) A (letOwnedTupleGo (.Tuple elts x1 pos) (.ref z) (.ref T)) Q E s := by
  unfold letOwnedTupleGo
  refine wpAny_bind (wpAny_load hz ?_)
  show wpAny _ _ (if (["enumerate", "zip", "dict_itemiterator", "dict_reverseitemiterator", "odict_iterator", "itertools.zip_longest", "itertools.pairwise"].contains "zip" &&
      (#[rawInt T, .bool false, .bool true, .ref TI, .ref TO] : Array Value)[0]? == some (rawInt T)) = true then _ else _) Q E s
  rw [if_pos (by simp)]
  refine wpAny_bind (wpAny_rule ?_)
  show wpAny _ _ (setField (.ref z) 0 .none) Q E s
  exact wpAny_setField_rec hz (by simp) fun h' hz' hs' => hQ h' hz' hs'
theorem pyIter_zipS {f0 : Value} {Q : Value → Shared → Prop} (hz : ZipS s.heap z TI TO f0) (h : Q (.ref z) s) : wpAny (model prog w) A (pyIter (.ref z)) Q E s := by
  have hT : s.TypeIs (.ref z) "zip" := ⟨_, hz, rfl⟩
  refine wpAny_pyIter_slot hT PySem.F.slot_zip_iter (wpAny_call_entry PySem.F.slot_zip_iter hT PySem.F.entry_zip_iter ?_ (PySem.F.args_zip_iter_1 _))
  show wpAny _ _ (ret (.ref z)) _ _ s
  exact wpAny_pure ⟨_, rfl, "zip", _, hT, PySem.F.slot_zip_next.lookup, h⟩
end
/-! # G105: the call zip(a, b, strict=True) -/
open PySem.Sem (wp)
/-- the keyword -/
abbrev kS : List (Str × Value) := [(Str.ofString "strict", .bool true)]
theorem tc_zipS (a b : Value) : checkTypeCall "zip" ⟨[a, b], kS⟩ = pure () := by kernel_rfl
theorem nc_zipS (a b : Value) : checkBuiltinCall "zip.__new__" ⟨[.type "zip", a, b], kS⟩ = pure () := by kernel_rfl
theorem oi_zipS (a b c : Value) : argsOk "object.__init__" ⟨[a, b, c], kS⟩ := by
  unfold argsOk; rw [signature?_of (id := "object.__init__") (n := ['_', '_', 't', 'i', 'n', 'i', '_', '_']) (o := ['t', 'c', 'e', 'j', 'b', 'o']) (by kernel_rfl) PySem.F.owner_object]; kernel_rfl
theorem init_zipS {self : Value} {rest : List Value} (hl : typeLookup (.type "zip") "__init__" = pure (some (.builtin "object.__init__")))
    (hm : Bind.madeBy (.type "zip") = pure (some "zip.__new__")) :
    Meets (Builtin.«object.__init__» ⟨self :: rest, kS⟩) (fun _ R s => s.TypeIs self "zip" ∧ R (.ok (.ret .none)) s) := by
  refine Meets.of_wp fun prog w A R s hs => ?_
  obtain ⟨hT, hq⟩ := hs
  have hne : (some "zip.__new__" != some "object.__new__") = true := by decide
  repeat (any_goals (first | assumption | wp_step))
  exact ⟨_, rfl, hq⟩
section
variable {prog : Program} {w : World} {A : Around} {E : Value → Shared → Prop} {s : Shared}
theorem callType_zipS {a b : Value} {S : PySem.Spec} {Q : Value → Shared → Prop} (g : Meets (Builtin.«zip.__new__» ⟨[.type "zip", a, b], kS⟩) S)
    (h : S A.in1 (wants (fun obj s₁ => s₁.TypeIs obj "zip" ∧ Q obj s₁) E) s) :
    wpAny (model prog w) A (call (.type "zip") [a, b] kS) Q E s := by
  have ft := PySem.F.called_zip
  obtain ⟨c, tl, hmro⟩ := ft.mro
  have hmade := ft.made
  have hsub := ft.sub
  have hct := tc_zipS a b
  have hcn := nc_zipS a b
  refine wpAny_call (codeAny_of_tree ?_)
  show wpAny _ _ (callAny (.type "zip") _) _ _ _
  refine wpAny_pure ⟨Code.quiet_builtin _ (by decide +kernel), codeAny_builtin PySem.F.entry_type_call ?_⟩
  rw [Around.under_plain (weight_type_call_type "zip" [a, b] kS) (units_type_call_type "zip" [a, b] kS)]
  have h1 := ft.notType
  have h2 := ft.canCreate
  repeat (any_goals (first | assumption | wp_step))
  refine codeAny_mono (codeAny_call_builtin ft.plain PySem.F.entry_zip_new (wpAny_of_eq hcn (g prog w A.in1 _ s h))) fun r s₁ hr => ?_
  cases r with
  | error e => exact hr
  | ok fl =>
    cases fl with
    | ret obj =>
      obtain ⟨hT, hsi⟩ := hr
      have hok := oi_zipS obj a b
      have hli := ft.init.lookup
      have hbi := ft.init.bind obj
      have gi := init_zipS (self := obj) (rest := [a, b]) hli hmade
      repeat (any_goals (first | assumption | wp_step))
      refine codeAny_mono (codeAny_call_builtin ft.init.plain PySem.F.entry_object_init (ft.init.check _ _ _ _ _ _ _ _ hT hok (gi prog w A.in1 (wants (fun r s₂ => r = .none ∧ Q obj s₂) E) s₁ ⟨hT, rfl, hsi⟩))) fun r₂ s₂ hr₂ => ?_
      cases r₂ with
      | error e => exact hr₂
      | ok fl₂ =>
        cases fl₂ with
        | ret r =>
          obtain ⟨rfl, hq⟩ := hr₂
          repeat (any_goals (first | assumption | wp_step))
        | _ => exact hr₂.elim
    | _ => exact hr.elim
end
/-! # G106: walks over zip(a, b, strict=True), lists and tuples, in comprehensions and in for -/
/-- a tuple (t) or a list -/
def IsQ (t : Bool) (h : Heap) (a : Addr) (xs : Array Value) : Prop := match t with | true => h.IsTuple a xs | false => h.IsList a xs
def IsQi (t : Bool) (h : Heap) (it a : Addr) (i : Nat) : Prop := match t with | true => h.IsTupleIter it a i | false => h.IsListIter it a i
def SqB (t : Bool) (K : PySem.W.Frag) (H : Hp) (a : Addr) (vs : List V) : Prop := match t with | true => SqT K H a vs | false => SqL K H a vs
def itc (t : Bool) : String := match t with | true => "tuple_iterator" | false => "list_iterator"
theorem IsQi.at {t : Bool} {h h' : Heap} {it a : Addr} {i : Nat} (x : IsQi t h it a i) (e : ∀ o, h.get? it = some o → h'.get? it = some o) : IsQi t h' it a i := by
  cases t
  · exact Heap.IsListIter.at x e
  · exact Heap.IsTupleIter.at x e
theorem IsQi.live {t : Bool} {h : Heap} {it a : Addr} {i : Nat} (x : IsQi t h it a i) : ∃ o vs, h.get? it = some o ∧ o.data = .fields vs := by
  cases t
  · obtain ⟨o, e, _, d⟩ := x; exact ⟨o, _, e, d⟩
  · obtain ⟨o, e, _, d⟩ := x; exact ⟨o, _, e, d⟩
theorem drawsQ {prog : Program} {w : World} {A : Around} (t : Bool) (hh : A.handled = none) (it a : Addr) (ne : a ≠ it) (items : Array Value) :
    Draws prog w A it [it, a] items.size (fun i v => items[i]? = some v) (fun i h => IsQi t h it a i ∧ IsQ t h a items) := by
  cases t
  · exact Draws.list hh it a ne items
  · exact Draws.tuple hh it a ne items
theorem draws_endQ {prog : Program} {w : World} {A : Around} (t : Bool) (hh : A.handled = none) (it a : Addr) (items : Array Value) {i : Nat} (hx : items[i]? = none) :
    Draws prog w A it [it, a] i (fun _ _ => False) (fun j h => j = i ∧ IsQi t h it a i ∧ IsQ t h a items) := by
  cases t
  · exact draws_endL hh it a items hx
  · exact draws_endT hh it a items hx
section
variable {X : Cx} {pins : List (Addr × Obj)} {σ : L2.St} {H : Hp} {s : Shared} {t : Bool} {a : Addr} {xs : List V}
theorem inv_sq (I : Inv X pins σ H s) (q : SqB t X.K H a xs) : ∃ its : List Value, Vals xs its ∧ IsQ t s.heap a its.toArray ∧ a < s.heap.objs.size := by
  cases t
  · obtain ⟨its, rv, p, _⟩ := I.list q
    exact ⟨its, rv, p.isList, p.lt⟩
  · obtain ⟨its, rv, p, _⟩ := I.tuple q
    have p : s.heap.IsTuple a its.toArray := p
    obtain ⟨o, ho, _⟩ := id p
    exact ⟨its, rv, p, Heap.lt_size ho⟩
theorem inv_inj {ys : List V} (I : Inv X pins σ H s) (q : SqB t X.K H a xs) (r : SqB t X.K H a ys) : xs = ys := by
  cases t
  · exact I.list_inj q r
  · exact I.tuple_inj q r
end
/-! ### made -/
def zq1 (t : Bool) (h : Heap) (a : Addr) : Heap := h.push { cls := .type (itc t), data := .fields #[.ref a, .int 0 0] }
def zq2 (t u : Bool) (h : Heap) (a b : Addr) : Heap := (zq1 t h a).push { cls := .type (itc u), data := .fields #[.ref b, .int 0 0] }
def zq3 (t u : Bool) (h : Heap) (a b : Addr) : Heap := (zq2 t u h a b).push { cls := .type "tuple", data := .seq #[.ref h.objs.size, .ref (zq1 t h a).objs.size] }
def zq4 (t u : Bool) (h : Heap) (a b : Addr) : Heap := (zq3 t u h a b).push { cls := .type "tuple", data := .seq #[.none, .none] }
def zq5 (t u : Bool) (h : Heap) (a b : Addr) : Heap := (zq4 t u h a b).push { cls := .type "zip", data := .fields #[.none, .bool false, .bool true, .ref (zq2 t u h a b).objs.size, .ref (zq3 t u h a b).objs.size] }
theorem meets_zipS (t u : Bool) (a b : Addr) (xs ys : Array Value) :
    Meets (Builtin.«zip.__new__» ⟨[.type "zip", .ref a, .ref b], kS⟩) (fun _ R s => IsQ t s.heap a xs ∧ IsQ u s.heap b ys ∧
      R (.ok (.ret (.ref (zq4 t u s.heap a b).objs.size))) { s with heap := zq5 t u s.heap a b }) :=
  .of_wp fun prog w A R s h => by
    obtain ⟨hp, g, d, tk, os⟩ := s
    obtain ⟨ha, hb, h⟩ := h
    have hsub := sub_zip
    cases t <;> cases u
    · have h1 : Heap.IsList (Shared.heap ⟨hp, g, d, tk, os⟩) a xs := ha
      have h2 : Heap.IsList (Shared.heap ⟨hp.push { cls := .type "list_iterator", data := .fields #[.ref a, .int 0 0] }, g, d, tk, os⟩) b ys := Heap.IsList.push hb _
      wp_walk using wpAny_pyIter_list h1, wpAny_pyIter_list h2
      exact ⟨_, rfl, h⟩
    · have h1 : Heap.IsList (Shared.heap ⟨hp, g, d, tk, os⟩) a xs := ha
      have h2 : Heap.IsTuple (Shared.heap ⟨hp.push { cls := .type "list_iterator", data := .fields #[.ref a, .int 0 0] }, g, d, tk, os⟩) b ys := Heap.IsTuple.push hb _
      wp_walk using wpAny_pyIter_list h1, wpAny_pyIter_tuple h2
      exact ⟨_, rfl, h⟩
    · have h1 : Heap.IsTuple (Shared.heap ⟨hp, g, d, tk, os⟩) a xs := ha
      have h2 : Heap.IsList (Shared.heap ⟨hp.push { cls := .type "tuple_iterator", data := .fields #[.ref a, .int 0 0] }, g, d, tk, os⟩) b ys := Heap.IsList.push hb _
      wp_walk using wpAny_pyIter_tuple h1, wpAny_pyIter_list h2
      exact ⟨_, rfl, h⟩
    · have h1 : Heap.IsTuple (Shared.heap ⟨hp, g, d, tk, os⟩) a xs := ha
      have h2 : Heap.IsTuple (Shared.heap ⟨hp.push { cls := .type "tuple_iterator", data := .fields #[.ref a, .int 0 0] }, g, d, tk, os⟩) b ys := Heap.IsTuple.push hb _
      wp_walk using wpAny_pyIter_tuple h1, wpAny_pyIter_tuple h2
      exact ⟨_, rfl, h⟩
theorem call_zipS {prog : Program} {w : World} {A : Around} {E : Value → Shared → Prop} {s : Shared} (t u : Bool) {a b : Addr} {xs ys : Array Value} {Q : Value → Shared → Prop} (ha : IsQ t s.heap a xs) (hb : IsQ u s.heap b ys)
    (h : ∀ h', ZipS h' (s.heap.objs.size + 4) (s.heap.objs.size + 2) (s.heap.objs.size + 3) .none → IsPair h' (s.heap.objs.size + 2) (.ref s.heap.objs.size) (.ref (s.heap.objs.size + 1)) →
      IsPair h' (s.heap.objs.size + 3) .none .none → IsQi t h' s.heap.objs.size a 0 → IsQi u h' (s.heap.objs.size + 1) b 0 → h'.objs.size = s.heap.objs.size + 5 →
      (∀ c o, s.heap.get? c = some o → h'.get? c = some o) → Q (.ref (s.heap.objs.size + 4)) { s with heap := h' }) :
    wpAny (model prog w) A (call (.type "zip") [.ref a, .ref b] kS) Q E s := by
  refine callType_zipS (meets_zipS t u a b xs ys) ⟨ha, hb, ?_⟩
  have z1 : (zq1 t s.heap a).objs.size = s.heap.objs.size + 1 := Heap.size_push ..
  have z2 : (zq2 t u s.heap a b).objs.size = s.heap.objs.size + 2 := by rw [zq2, Heap.size_push, z1]
  have z3 : (zq3 t u s.heap a b).objs.size = s.heap.objs.size + 3 := by rw [zq3, Heap.size_push, z2]
  have z4 : (zq4 t u s.heap a b).objs.size = s.heap.objs.size + 4 := by rw [zq4, Heap.size_push, z3]
  have z5 : (zq5 t u s.heap a b).objs.size = s.heap.objs.size + 5 := by rw [zq5, Heap.size_push, z4]
  have up : ∀ {c : Addr} {o : Obj}, (zq1 t s.heap a).get? c = some o → (zq5 t u s.heap a b).get? c = some o := fun e => Heap.get?_push_of_some _ (Heap.get?_push_of_some _ (Heap.get?_push_of_some _ (Heap.get?_push_of_some _ e)))
  have g5 : (zq5 t u s.heap a b).get? (zq4 t u s.heap a b).objs.size = some _ := Heap.get?_push_size _ rfl
  have g4 : (zq5 t u s.heap a b).get? (zq3 t u s.heap a b).objs.size = some _ := Heap.get?_push_of_some _ (Heap.get?_push_size _ rfl)
  have g3 : (zq5 t u s.heap a b).get? (zq2 t u s.heap a b).objs.size = some _ := Heap.get?_push_of_some _ (Heap.get?_push_of_some _ (Heap.get?_push_size _ rfl))
  have g2 : (zq5 t u s.heap a b).get? (zq1 t s.heap a).objs.size = some { cls := .type (itc u), data := .fields #[.ref b, .int 0 0] } := Heap.get?_push_of_some _ (Heap.get?_push_of_some _ (Heap.get?_push_of_some _ (Heap.get?_push_size _ rfl)))
  have g1 : (zq5 t u s.heap a b).get? s.heap.objs.size = some { cls := .type (itc t), data := .fields #[.ref a, .int 0 0] } := up (Heap.get?_push_size _ rfl)
  show _ ∧ _
  rw [z2, z3, z4] at g5
  rw [z1, z2] at g3
  rw [z3] at g4
  rw [z1] at g2
  rw [z4]
  have q1 : IsQi t (zq5 t u s.heap a b) s.heap.objs.size a 0 := by cases t <;> exact ⟨_, g1, rfl, rfl⟩
  have q2 : IsQi u (zq5 t u s.heap a b) (s.heap.objs.size + 1) b 0 := by cases u <;> exact ⟨_, g2, rfl, rfl⟩
  exact ⟨⟨_, g5, rfl⟩, h _ g5 g3 g4 q1 q2 z5 fun c o x => up (Heap.get?_push_of_some _ x)⟩
/-! ### walked -/
/-- two of one length, as they stand at each turn -/
def ItzS (t u : Bool) (K : PySem.W.Frag) (a b : Addr) : It :=
  ⟨fun i H => ∃ (xs ys : List V) (x y : V), SqB t K H a xs ∧ SqB u K H b ys ∧ xs[i]? = some x ∧ ys[i]? = some y,
    fun i H v H' => ∃ T x y, v = .ref T ∧ H T = none ∧ H' = upd H T (.tup [x, y]) ∧ (∀ xs, SqB t K H a xs → xs[i]? = some x) ∧ ∀ ys, SqB u K H b ys → ys[i]? = some y,
    fun i H => ∃ xs ys : List V, SqB t K H a xs ∧ SqB u K H b ys ∧ xs.length ≤ i ∧ ys.length ≤ i⟩
theorem turn_zipS {P : Program} {w : World} {K : PySem.W.Frag} {t u : Bool} {elts : List Expr} {kk : Nat} {tpos : Pos} {a b z TI TO i1 i2 : Addr} (D : ZipApart z TI TO i1 i2 a b) :
    Turn P w K (.Tuple elts kk tpos) (ItzS t u K a b) [z, TI, TO, i1, i2] z (fun i h => ZipS h z TI TO .none ∧ IsPair h TI (.ref i1) (.ref i2) ∧ (∃ x y, IsPair h TO x y) ∧ IsQi t h i1 a i ∧ IsQi u h i2 b i) where
  mem := by simp
  obj := fun i h st c hc => by
    obtain ⟨hz, hTI, ⟨x, y, hTO⟩, h1, h2⟩ := st
    obtain ⟨o1, w1, e1, d1⟩ := h1.live
    obtain ⟨o2, w2, e2, d2⟩ := h2.live
    have e' : c = z ∨ c = TI ∨ c = TO ∨ c = i1 ∨ c = i2 := by simpa using hc
    rcases e' with q | q | q | q | q
    · rw [q]; exact ⟨_, hz, fun v q => nomatch q⟩
    · rw [q]; exact ⟨_, hTI, fun v q => nomatch q⟩
    · rw [q]; exact ⟨_, hTO, fun v q => nomatch q⟩
    · rw [q]; exact ⟨o1, e1, fun v q => by rw [d1] at q; cases q⟩
    · rw [q]; exact ⟨o2, e2, fun v q => by rw [d2] at q; cases q⟩
  keep := fun i h h' st k => by
    obtain ⟨hz, hTI, ⟨x, y, hTO⟩, h1, h2⟩ := st
    exact ⟨k z (by simp) _ hz, k TI (by simp) _ hTI, ⟨x, y, k TO (by simp) _ hTO⟩, h1.at fun o q => k i1 (by simp) o q, h2.at fun o q => k i2 (by simp) o q⟩
  item := by
    intro X hP hw hK hc i pins s σ H E I hf st hg
    subst hP hw hK
    obtain ⟨hz, hTI, ⟨x0, y0, hTO⟩, h1, h2⟩ := st
    obtain ⟨xs, ys, x, y, hqx, hqy, hx, hy⟩ := hg
    obtain ⟨its, rv, p, _⟩ := inv_sq I hqx
    obtain ⟨its2, rv2, p2, _⟩ := inv_sq I hqy
    obtain ⟨v1, hu, ru⟩ := rv.get hx
    obtain ⟨v2, hu2, ru2⟩ := rv2.get hy
    have hzl : z < s.heap.objs.size := Heap.lt_size hz
    have hh : X.A.in1.handled = none := I.ok.hd hc
    have D1 := drawsQ (prog := X.prog) (w := X.w) t hh i1 a D.l1i1 its.toArray
    have D2 := drawsQ (prog := X.prog) (w := X.w) u hh i2 b D.l2i2 its2.toArray
    refine pyNext_zipS_item (sep_of D) D1 D2 hz hTI hTO ⟨h1, p⟩ ⟨h2, p2⟩ (by rw [List.size_toArray]; exact (List.getElem?_eq_some_iff.mp hu).1) (by rw [List.size_toArray]; exact (List.getElem?_eq_some_iff.mp hu2).1) fun x1 x2 h' tk y1 y2 z' TO' st1' st2' hT hsz hk => ?_
    have ex1 : x1 = v1 := by rw [List.getElem?_toArray, hu] at y1; exact (Option.some.inj y1).symm
    have ex2 : x2 = v2 := by rw [List.getElem?_toArray, hu2] at y2; exact (Option.some.inj y2).symm
    subst ex1 ex2
    refine ⟨_, rfl, letGo_zipS (s := { s with heap := h', toks := tk }) z' fun h'' z'' sb => ?_⟩
    have hT2 : h''.get? s.heap.objs.size = some { cls := .type "tuple", data := .seq #[x1, x2] } := (sb.2 _ (Nat.ne_of_gt hzl)).trans hT
    have new : ObjOk X.prog X.w (upd H s.heap.objs.size (.tup [x, y])) h'' s.heap.objs.size (.tup [x, y]) :=
      ⟨by show 2 ≤ sizeLine; decide, [x1, x2], .cons ru (.cons ru2 .nil), ⟨_, hT2, rfl, _, rfl⟩⟩
    have I1 : Inv X pins σ (upd H s.heap.objs.size (.tup [x, y])) { s with heap := h'', toks := tk } :=
      I.turnedNew (t' := tk) (ch := [z, TI, TO, i1, i2]) (fun c o hb q => (sb.2 c (fun q' => hb (by simp [q']))).trans (hk c o (fun q' => hb (by simp [q'])) (fun q' => hb (by simp [q'])) (fun q' => hb (by simp [q'])) (fun q' => hb (by simp [q'])) q)) hf (Nat.le_refl _) new
    refine ⟨.ref s.heap.objs.size, _, I1, rfl, ⟨_, x, y, rfl, I.hok.fresh (Nat.le_refl _), rfl, fun l hl => by rw [inv_inj I hl hqx]; exact hx, fun l hl => by rw [inv_inj I hl hqy]; exact hy⟩, ⟨z'', ?_, ⟨x1, x2, ?_⟩, ?_, ?_⟩, fun c hcm => ?_⟩
    · exact (sb.2 _ D.TIz).trans (hk _ _ D.TIz D.TITO D.TIi1 D.TIi2 hTI)
    · exact (sb.2 _ D.TOz).trans TO'
    · exact st1'.1.at fun o q => (sb.2 _ D.i1z).trans q
    · exact st2'.1.at fun o q => (sb.2 _ D.i2z).trans q
    · have hlt : c < s.heap.objs.size := by
        have e' : c = z ∨ c = TI ∨ c = TO ∨ c = i1 ∨ c = i2 := by simpa using hcm
        rcases e' with q | q | q | q | q
        · rw [q]; exact hzl
        · rw [q]; exact Heap.lt_size hTI
        · rw [q]; exact Heap.lt_size hTO
        · rw [q]; obtain ⟨_, _, e1, _⟩ := h1.live; exact Heap.lt_size e1
        · rw [q]; obtain ⟨_, _, e2, _⟩ := h2.live; exact Heap.lt_size e2
      rw [upd_ne (Nat.ne_of_lt hlt)]
      exact (hf c hcm).1
  done := by
    intro X hP hw hK hc i pins s σ H E I hf st hg
    subst hP hw hK
    obtain ⟨hz, hTI, ⟨x0, y0, hTO⟩, h1, h2⟩ := st
    obtain ⟨xs, ys, hqx, hqy, e1, e2⟩ := hg
    obtain ⟨its, rv, p, _⟩ := inv_sq I hqx
    obtain ⟨its2, rv2, p2, _⟩ := inv_sq I hqy
    have l1 := rv.length
    have l2 := rv2.length
    have hh : X.A.in1.handled = none := I.ok.hd hc
    have D1 := draws_endQ (prog := X.prog) (w := X.w) t hh i1 a its.toArray (i := i) (by simp; omega)
    have D2 := draws_endQ (prog := X.prog) (w := X.w) u hh i2 b its2.toArray (i := i) (by simp; omega)
    exact pyNext_zipS_end hh (sep_of D) D1 D2 hz hTI hTO ⟨rfl, h1, p⟩ ⟨rfl, h2, p2⟩ fun h' tk hk => ⟨rfl, I.turnedL (t' := tk) (ch := [z, TI, TO, i1, i2]) (fun c o hb q => hk c o (fun q' => hb (by simp [q'])) (fun q' => hb (by simp [q'])) (fun q' => hb (by simp [q'])) (fun q' => hb (by simp [q'])) q) hf⟩
  self := fun A i s Q E st h => pyIter_zipS st.1 h
/-! # G107: for .. in zip(a, b, strict=True), as a function (a, b: tuples, lists that stand still) -/
section
variable {M : Model} {A : Around} {E : Value → Shared → Prop} {s : Shared} {env : Env}
theorem callWith_typeK {pos : Pos} {T : String} {e : Expr} {rest : List Expr} {kws : List Keyword} {Q : Value → Shared → Prop}
    (h : wpAny M A (spliced (backTo pos (starEach (e :: rest) env))) (fun vs s₁ => wpAny M A (evalAll ((backToKw pos (keywordEach kws env)).map (·.2)))
      (fun kvs s₂ => wpAny M A (call (.type T) vs (((backToKw pos (keywordEach kws env)).filterMap (·.1)).zip kvs)) Q E s₂) E s₁) E s)
    (he : backTo pos (starEach (e :: rest) env) = (false, eval e env) :: backTo pos (starEach rest env) := by rfl)
    (hplain : (backTo pos (starEach (e :: rest) env)).any (·.1) = false := by rfl)
    (hall : (backToKw pos (keywordEach kws env)).all (·.1.isSome) = true := by rfl)
    (hkw : (backToKw pos (keywordEach kws env)).any (·.1.isNone) = false := by rfl) :
    wpAny M A (callWith pos (.type T) [] (backTo pos (starEach (e :: rest) env)) (backToKw pos (keywordEach kws env))) Q E s := by
  unfold callWith
  have h2 : wpAny M A (evalArgs (.type T) true (backTo pos (starEach (e :: rest) env)) (backToKw pos (keywordEach kws env))) (fun a s₁ => wpAny M A (call (.type T) ([] ++ a.pos) a.kw) Q E s₁) E s := by
    rw [he] at h ⊢
    exact evalArgs_kwB hall h
  refine wpAny_bind (wpAny_holding (wpAny_mono h2 (fun a s₁ h₁ => wpAny_bind (wpAny_standAt ?_)) fun _ _ x => x))
  simp only [hplain, hkw, Bool.or_false]
  refine wpAny_bind (wpAny_pure ?_)
  exact wpAny_bind (wpAny_mono h₁ (fun r s₂ hr => wpAny_bind (wpAny_holding (wpAny_point (wpAny_pure hr)))) fun _ _ x => x)
end
def iZipS (K : PySem.W.Frag) (ta tk : TA) : TI := fun σ H R => ta σ H fun vs H1 => tk σ H1 fun zs H2 => ∃ t u a b xs ys, vs = [.ref a, .ref b] ∧ zs = [.bl true] ∧ SqB t K H2 a xs ∧ SqB u K H2 b ys ∧ R (ItzS t u K a b) H2
theorem pi_zipS {X : Cx} {e e2 : Expr} {ta tk : TA} {p pos tpos : Pos} {elts : List Expr} {kk : Nat} {kws : List Keyword} (hg : L2.Gl X "zip") (hm : X.mg "zip" = none) (ha : PA X [e, e2] ta) (hk : PK X kws tk)
    (hks : (backToKw pos (keywordEach kws X.env)).filterMap (·.1) = [Str.ofString "strict"])
    (he : backTo pos (starEach [e, e2] X.env) = (false, eval e X.env) :: backTo pos (starEach [e2] X.env) := by rfl) (hpl : (backTo pos (starEach [e, e2] X.env)).any (·.1) = false := by rfl)
    (hall : (backToKw pos (keywordEach kws X.env)).all (·.1.isSome) = true := by rfl) (hnone : (backToKw pos (keywordEach kws X.env)).any (·.1.isNone) = false := by rfl) :
    PI X (.Tuple elts kk tpos) (.Call (.Name "zip" p) [e, e2] kws pos) (iZipS X.K ta tk) := by
  refine ⟨fun pins s σ H R I h => ?_⟩
  refine wpAny_Call_Name_kw (ld_blt I hg hm PyProof.Rows.boot_zip ?_)
  refine callWith_typeK (thn (ha.run pos pins s σ H _ I h) fun us s1 ⟨vs, H1, I1, r1, q1⟩ => thn (hk.run pos pins s1 σ H1 _ I1 q1) fun ws s2 ⟨zs, H2, I2, r2, q2⟩ => ?_) he hpl hall hnone
  rw [hks]
  obtain ⟨t, u, a, b, xs, ys, ex, ez, hqx, hqy, q⟩ := q2
  subst ex ez
  cases r2 with
  | cons rk rr =>
  cases rr
  cases rk
  cases r1 with
  | cons r rr =>
    cases rr with
    | cons r' rr =>
      cases rr
      cases r
      cases r'
      have fresh5 : ∀ c, c ∈ [s2.heap.objs.size + 4, s2.heap.objs.size + 2, s2.heap.objs.size + 3, s2.heap.objs.size, s2.heap.objs.size + 1] → FpOk X pins H2 c := fun c hcm => by
        have e' : c = s2.heap.objs.size + 4 ∨ c = s2.heap.objs.size + 2 ∨ c = s2.heap.objs.size + 3 ∨ c = s2.heap.objs.size ∨ c = s2.heap.objs.size + 1 := by simpa using hcm
        have hle : s2.heap.objs.size ≤ c := by
          rcases e' with z | z | z | z | z
          · rw [z]; exact Nat.le_add_right _ _
          · rw [z]; exact Nat.le_add_right _ _
          · rw [z]; exact Nat.le_add_right _ _
          · rw [z]; exact Nat.le_refl _
          · rw [z]; exact Nat.le_add_right _ _
        exact I2.fpOk hle (I2.hok.fresh hle)
      obtain ⟨its, rv, p1, l1⟩ := inv_sq I2 hqx
      obtain ⟨its2, rv2, p2, l2⟩ := inv_sq I2 hqy
      refine call_zipS t u p1 p2 fun h' hz hTI hTO h1 h2 hsz hk => pyIter_zipS hz ?_
      have I3 : Inv X pins σ H2 { s2 with heap := h' } := I2.kept (t' := s2.toks) hk
      exact ⟨s2.heap.objs.size + 4, [s2.heap.objs.size + 4, s2.heap.objs.size + 2, s2.heap.objs.size + 3, s2.heap.objs.size, s2.heap.objs.size + 1], _, _, H2, rfl, I3, turn_zipS (PySem.W.ktu_apart s2.heap.objs.size a b l1 l2), ⟨hz, hTI, ⟨_, _, hTO⟩, h1, h2⟩, fresh5, q⟩
/-- a tuple (true), a list that stands still -/
def sqOf (d : D) : Option (Bool × List D) := match d with
  | .tup ds => some (true, ds)
  | .ctp ds => some (true, ds)
  | .lst ds => some (false, ds)
  | .scr ds => some (false, ds)
  | _ => none
theorem sq_at {K : PySem.W.Frag} {mg : Str → Option Value} {mu : Mp} {hs : Hs} {H : Hp} {d : D} {v : V} {t : Bool} {ds : List D} (S : Sim K mg mu hs H) (r : RD K mu H d v) (e : sqOf d = some (t, ds)) : ∃ a vs, v = .ref a ∧ SqB t K H a vs ∧ RDs K mu H ds vs := by
  cases d <;> first | (cases e; first | exact tp_at r rfl | exact ls_at S r rfl) | cases e
def zpS (h : Hs) (ds : List D) : Option Nx := match ds with
  | [d, e] => (match sqOf d, sqOf e with
    | some (_, xs), some (_, ys) => if xs.length = ys.length then some (nxL (zipL xs ys)) else none
    | _, _ => none)
  | _ => none
theorem zipS_ri {K : PySem.W.Frag} {mg : Str → Option Value} {mu : Mp} {H : Hp} {hs : Hs} {a b : Addr} {d e : D} {t u : Bool} {xs ys : List D} (S : Sim K mg mu hs H) (r : RD K mu H d (.ref a)) (r2 : RD K mu H e (.ref b)) (e1 : sqOf d = some (t, xs)) (e2 : sqOf e = some (u, ys)) (el : xs.length = ys.length) : RI K mg mu H (nxL (zipL xs ys)) (ItzS t u K a b) := by
  rw [← nxZ_L]
  intro mu' H' hs' l s i
  obtain ⟨a', vs, ea, h1, h2⟩ := sq_at s (RD.agr (l.agr S) r) e1
  obtain ⟨b', us, eb, g1, g2⟩ := sq_at s (RD.agr (l.agr S) r2) e2
  cases ea; cases eb
  have hv := h2.length
  have hu := g2.length
  unfold nxZ nxL
  cases q2 : xs[i]? with
  | none =>
    have := List.getElem?_eq_none_iff.mp q2
    refine ⟨fun _ => ⟨vs, us, h1, g1, by omega, by omega⟩, fun _ z => (by simp at z)⟩
  | some x =>
    have := (List.getElem?_eq_some_iff.mp q2).1
    cases q3 : ys[i]? with
    | none => exact absurd (List.getElem?_eq_none_iff.mp q3) (by omega)
    | some y =>
      obtain ⟨x', f1, f2⟩ := h2.get q2
      obtain ⟨y', k1, k2⟩ := g2.get q3
      refine ⟨fun z => (by cases z), fun _ z => ?_⟩
      cases z
      refine ⟨⟨vs, us, x', y', h1, g1, f1, k1⟩, ?_⟩
      rintro v H2 ⟨T, x2, y2, rfl, n, rfl, w, w2⟩
      have z1 := w vs h1
      rw [f1] at z1; cases z1
      have z2 := w2 us g1
      rw [k1] at z2; cases z2
      exact new_tup s n f2 k2
theorem ui_zipS {X : Cx} {Wd : WX} {a b kv : Expr} {fa : FA} {p pos tpos kp : Pos} {elts : List Expr} {kk : Nat} (hg : L2.Gl X "zip") (hm : X.mg "zip" = none) (ha : UA X Wd [a, b] fa) (hk : UE X Wd kv (eC (.bl true)))
    (he : backTo pos (starEach [a, b] X.env) = (false, eval a X.env) :: backTo pos (starEach [b] X.env) := by rfl) (hpl : (backTo pos (starEach [a, b] X.env)).any (·.1) = false := by rfl) :
    UI X Wd (.Tuple elts kk tpos) (.Call (.Name "zip" p) [a, b] [⟨some (Str.ofString "strict"), kv, kp⟩] pos) (iOf zpS fa) := by
  refine PI.imp (pi_zipS hg hm ha (uk_cons (nm := some (Str.ofString "strict")) hk uk_nil) rfl he hpl) fun σ H Q h => ?_
  obtain ⟨e, mu, hs, S, E, g⟩ := h
  unfold iOf at g
  refine ⟨e, mu, hs, S, E, ?_⟩
  cases q : fa e hs with
  | bad => rw [q] at g; exact g.elim
  | exc c fs hs' => rw [q] at g; exact g
  | ok ds hs' =>
    rw [q] at g
    dsimp only [R.bind_ok] at g
    cases z : zpS hs' ds with
    | none => rw [z] at g; exact g.elim
    | some nx =>
      rw [z] at g
      unfold zpS at z
      split at z
      · rename_i d1 d2
        split at z
        · rename_i t xs u ys z1 z2
          split at z
          · rename_i el
            cases z
            rintro mu1 H1 vs l1 S1 (_ | ⟨r, _ | ⟨r2, _ | _⟩⟩)
            refine ⟨e, mu1, hs', S1, E.agr (l1.agr S), ?_⟩
            rintro mu2 H2 zs l2 S2 (_ | ⟨r3, _ | _⟩)
            cases r3
            have r' := RD.agr (l2.agr S1) r
            have r2' := RD.agr (l2.agr S1) r2
            obtain ⟨a', us, rfl, h1, h2⟩ := sq_at S2 r' z1
            obtain ⟨b', us', rfl, g1, g2⟩ := sq_at S2 r2' z2
            exact ⟨t, u, a', b', us, us', rfl, rfl, h1, g1, g mu2 H2 _ (l1.trans l2) S2 (zipS_ri S2 r' r2' z1 z2 el)⟩
          · cases z
        · cases z
      · cases z
end G

/-! # G108: list(zip(a, b, strict=True)): the library's level -/
namespace G
open PySem PySem.Calls PySem.Spec PyProof.Rows L2

open PySem.Sem (wp)
section
end
theorem IsQ.at {t : Bool} {h h' : Heap} {a : Addr} {xs : Array Value} (x : IsQ t h a xs) (e : ∀ o, h.get? a = some o → h'.get? a = some o) : IsQ t h' a xs := by
  cases t
  · obtain ⟨o, ho, r⟩ := x; exact ⟨o, e o ho, r⟩
  · obtain ⟨o, ho, r⟩ := x; exact ⟨o, e o ho, r⟩
section
end
/-! # G109: list(zip(a, b, strict=True)): the loop, the call -/
open PySem.Sem (wp)
section
end
end G

/-! # G110: list(zip(a, b, strict=True)) as a function -/
namespace G
open PySem PySem.Spec PyProof.Rows L2
section
end
section
end
section
variable {X : Cx}
theorem vals_refs : ∀ as : List Addr, Vals (as.map V.ref) (as.map Value.ref)
  | [] => .nil
  | _ :: as => .cons rfl (vals_refs as)
end
/-! # G111: list(zip(a, b, strict=True)) as a function; its rule -/
section
end
/-! # G112: a, b, c = x, y, z -/
section
end
section
end
/-! # G113: behind two statements: two dicts of ours are locked, what is new stands by value from then on -/
section
end
section
end
/-! # G114: d.get(k, x) of any dict, d.update(a list of pairs), keys tuples -/
section
end
section
end
/-! # G115: d.update(a list of pairs), keys tuples -/
end G

/-! # G116: orders are filled, in plain words: who has what, ways to one more, counts -/
namespace FL
variable {κ : Type} [DecidableEq κ]
/-- i goes to h -/
def upd (O : κ → Option Nat) (i : κ) (h : Nat) : κ → Option Nat := fun x => if x = i then some h else O x
/-- how many h has -/
def cnt (V : List κ) (O : κ → Option Nat) (h : Nat) : Nat := V.countP fun i => O i == some h
variable {V : List κ} {p : Nat → κ → Bool} {O : κ → Option Nat} {num : Nat}
theorem upd_ne {i x : κ} {h : Nat} (n : x ≠ i) : upd O i h x = O x := if_neg n
/-! ### the search -/
inductive Way (C : κ → Option Nat) (T : Nat → Option (Option κ)) : Option κ → List (κ × Nat) → Prop
  | nil : Way C T none []
  | cons {i : κ} {h : Nat} {t : Option κ} {l : List (κ × Nat)} : C i = some h → T h = some t → Way C T t l → Way C T (some i) ((i, h) :: l)
theorem Way.mono {C C' : κ → Option Nat} {T T' : Nat → Option (Option κ)} (hC : ∀ i h, C i = some h → C' i = some h) (hT : ∀ h t, T h = some t → T' h = some t) : ∀ {t : Option κ} {l : List (κ × Nat)}, Way C T t l → Way C' T' t l
  | _, _, .nil => .nil
  | _, _, .cons a b w => .cons (hC _ _ a) (hT _ _ b) (w.mono hC hT)
/-! ### counts of sets of orders -/
end FL

/-! # G117: orders are filled: the walk back, the search -/
namespace G
open PySem PySem.Spec PyProof.Rows L2
noncomputable section
end
end G
namespace G
open PySem PySem.Spec PyProof.Rows L2 FL
section
end
/-- numbers, idents and none, as values -/
abbrev oD (h : Nat) : D := .int (h : Int)
theorem keysD_k : ∀ i : List Key, keysD (i.map keyV) = some i
  | [] => rfl
  | .inl n :: i => by
    show (match keysD (i.map keyV) with | some ks => some (Sum.inl n :: ks) | none => none) = _
    rw [keysD_k i]
  | .inr z :: i => by
    show (match keysD (i.map keyV) with | some ks => some (Sum.inr z :: ks) | none => none) = _
    rw [keysD_k i]
section
variable {X : XQ} {Q : D → Hs → Prop} {h : Hs} {n : Nat}
theorem atD_t {kvs : List (List Key × D)} {i : List Key} (e : h[n]? = some (.dt kvs)) : atD h (.ref n) (tupK i) = some (valG kvs i) := by
  show (match h[n]? with | some (.dk kvs) => _ | some (.dt kvs) => _ | _ => none) = _
  rw [e]
  show (match keysD (i.map keyV) with | some k => some (valG kvs k) | none => none) = _
  rw [keysD_k]
theorem dget_t {kvs : List (List Key × D)} {i : List Key} {d : D} (e : h[n]? = some (.dt kvs)) (v : valG kvs i = some d) : gDget h (.ref n) (tupK i) = some d := by
  unfold gDget
  rw [atD_t e, v]
end
/-! # G118: orders are filled: the search for one more -/
section
section
end
end
/-! # G119: orders are filled: what suits -/
/-- an order -/
structure Ov where
  nm : List Nat
  sy : List Nat
  sz : Int
  gr : Int
  n : Nat
abbrev Ov.d (o : Ov) : D := .tup [.str (T o.nm), .str (T o.sy), .int o.sz, .int o.gr, .int (o.n : Int)]
section
end
def keyS (sd : List Nat) (gs : List Gv) : List (List Key) := (sideG sd gs).map Gv.ik
section
end
/-! # G120: orders are filled: one more, as many as can be -/
abbrev sL : List Nat := [108]
abbrev sR : List Nat := [114]
section
end
section
end
/-! # G121: orders are filled: as many as can be -/
section
end
/-! # G122: orders are filled: the pairs that an order has got -/
/-- what an order has got of a side, rising -/
def gotK (V : List (List Key)) (O : List Key → Option Nat) (num : Nat) : List (List Key) := sortK (V.filter fun k => O k == some num)
def pairsD (gs : List Gv) (OL OR : List Key → Option Nat) (num : Nat) : D := .tup (zipL ((gotK (keyS sL gs) OL num).map tupK) ((gotK (keyS sR gs) OR num).map tupK))
section
end
/-! # G123: orders are filled -/
def filledD (gs : List Gv) (os : List Ov) (OL OR : List Key → Option Nat) (lk : Nat → D) : D := .tup ((List.range os.length).map fun x => .tup [pairsD gs OL OR x, lk x])
section
end
section
end
end G

/-! # G124: how many each order is due, by all sets of those ahead of it, in plain words; masks -/
namespace FL
section
end
end FL

/-! # G125: what orders get is what is due -/
namespace G
open PySem PySem.Spec PyProof.Rows L2 FL
section
end
/-! # G126: what the laws draw of gloves and orders; what they reckon as due -/
noncomputable section
end
/-- an order as drawn -/
structure Ov.Ok (o : Ov) : Prop where
  nm : NmT o.nm
  sy : NmT o.sy
  sz0 : 28 ≤ o.sz
  sz1 : o.sz ≤ 36
  gr0 : 0 ≤ o.gr
  gr1 : o.gr ≤ 2
  n0 : 1 ≤ o.n
  n1 : o.n ≤ 9
section
end
/-! ### what is due -/
section
end
/-! # G127: how many each order is due, as the laws reckon it -/
section
variable {X : XQ} {Q : D → Hs → Prop} {h : Hs} {gs : List Gv} {os : List Ov} {g : Gv} {o : Ov} {sd : List Nat}
theorem sum_nat : ∀ {l : List Nat}, gSum h [.lst (l.map oD)] = some (oD l.sum) := by
  intro l
  have e : l.map oD = (l.map fun n : Nat => (n : Int)).map D.int := by rw [List.map_map]; rfl
  rw [e]
  show (match intsOf ((l.map fun n : Nat => (n : Int)).map D.int) with | some ns => some (D.int ns.sum) | none => none) = _
  rw [intsOf_map]
  dsimp only
  have : ∀ l : List Nat, (l.map fun n : Nat => (n : Int)).sum = ((l.sum : Nat) : Int) := by
    intro l
    induction l with
    | nil => rfl
    | cons x l ih => rw [List.map_cons, List.sum_cons, List.sum_cons, ih]; omega
  rw [this]
end
/-! # G128: what is told of orders is small data -/
section
end
end G

/-! # G129: zip of a list and a tuple -/
namespace G
open PySem PySem.Spec PyProof.Rows L2
/-! # G130: sum(a list of whole numbers, start=1) -/
section
end
section
end
/-! # G131: list(range(n)) -/
section
end
end G

/-! # G132: the small checker of what orders get, of anything: pairs -/
namespace G
open PySem PySem.Spec PyProof.Rows L2 FL
noncomputable section
end
section
/-! ### an order's pairs -/
end
/-! # G133: the small checker of what orders get, of anything: papers, the whole -/
section
end
/-! # G134: the small checker of what orders get, of anything -/
abbrev rowD (r : D × D) : D := .tup [r.1, r.2]
section
end
/-! # G135: filled_holds of anything -/
section
end
/-! # G136: what is told of orders passes the small checker -/
section
variable {gs : List Gv} {os : List Ov} {OL OR : List Key → Option Nat} {got : Nat → Nat} {lk : Nat → D} {x : Nat} {sd : List Nat} {rs : List (D × D)}
def rsX (gs : List Gv) (n : Nat) (OL OR : List Key → Option Nat) (lk : Nat → D) : List (D × D) := (List.range n).map fun x => (pairsD gs OL OR x, lk x)
theorem rsX_row {n : Nat} : (rsX gs n OL OR lk).map rowD = (List.range n).map fun x => .tup [pairsD gs OL OR x, lk x] := by unfold rsX; rw [List.map_map]; rfl
end
/-! # G137: what is told of orders passes the small checker: the whole -/
section
variable {gs : List Gv} {os : List Ov} {OL OR : List Key → Option Nat} {got : Nat → Nat} {lk : Nat → D} {x : Nat} {sd : List Nat}
theorem told_eq : filledD gs os OL OR lk = .tup ((rsX gs os.length OL OR lk).map rowD) := by rw [rsX_row]; rfl
end
end G

/-! # G138: x <= y of any data; counts that are due, once and with a glove less -/
namespace FL
end FL
namespace G
open PySem PySem.Spec PyProof.Rows L2 FL
section
end
/-! # G139: the small checker of what orders get looks at idents, and at what suits, alone -/
section
variable {φ : Gv → Gv} {gs : List Gv} {os os' : List Ov} {d : D} {rs : List (D × D)}
abbrev P2 (φ : Gv → Gv) (p : Gv × Gv) : Gv × Gv := (φ p.1, φ p.2)
end
end G

/-! # G140: sorted(set(xs)) of tuples of any depth (numbers, texts, None) -/
namespace Sg
open PySem PySem.Spec PyProof.Rows L2
section
/-! ### keys of any depth are quiet -/
end
end Sg
namespace G
open PySem PySem.Spec PySem.Calls PyProof.Rows L2
/-! ### keys of data -/
/-! # G141: the rule for sorted(set(xs)), xs tuples of any depth -/
section
end
section
end
section
end
end G

/-! # G142: what orders get, of anything, as the laws look at it (k36, k37): idents and pairs -/
namespace G
open PySem PySem.Spec PyProof.Rows L2 FL
noncomputable section
end
section
/-! ### rising, by a set -/
/-! ### pairs as keys -/
end
/-! # G143: pairs for an order, of anything, as the laws look at it -/
section
end
/-! # G144: a paper, of anything, as the laws look at it -/
section
end
/-! # G145: what orders get, of anything, as the laws look at it -/
section
end
/-! # G146: what the small checker lets by gives each order as many as are due (plain) -/
section
end
end G

/-! # G147: the items of zip(a, b), a and b lists, gathered -/
namespace G
open PySem PySem.Calls PySem.Spec PyProof.Rows L2
open PySem.Sem (wp)
section
end
section
end
end G

/-! # G148: the rule for sorted(zip(a, b)), a and b lists of data -/
namespace G
open PySem PySem.Spec PySem.Calls PyProof.Rows L2
section
end
section
end
section
end
end G

/-! # G149: dicts of ours with tuples as keys: locked -/
namespace G
open PySem PySem.Spec PyProof.Rows L2
section
end
section
end
/-! # G150: functions as values: the module's tables of functions, calls of what an expression gives -/
section
/-! ### calls of what an expression gives -/
end
section
end
/-! # G151: == [] of any list -/
def gEqL (hs : Hs) (d e : D) : Option D := match lstOf hs d with
  | some ds => (match e with | .lst [] => some (.bl ds.isEmpty) | _ => none)
  | none => none
theorem og_eqL {X : Cx} (hu : X.A.units + 64 < cLine) : OpR X (compareOp .Eq) (rB X.K X.mg gEqL) := by
  rintro pins s σ H x y v u Q I rx ry ⟨mu, hs, d, e, w, S, r1, r2, hg, q⟩
  unfold gEqL at hg
  split at hg
  · rename_i ds hd
    split at hg
    · cases hg
      obtain ⟨a, vs, rfl, ha, ra⟩ := lstOf_at S r1 hd
      cases r2 with
      | lst h2 n2 rr2 =>
        cases rx; cases ry
        obtain ⟨its, rv, it, _⟩ := I.list (.of ha)
        obtain ⟨its2, rv2, it2, _⟩ := I.list (.of h2)
        have z2 : its2 = [] := by
          cases rr2
          cases rv2
          rfl
        subst z2
        have hl : its.length = ds.length := by rw [← rv.length, ← ra.length]
        by_cases hz : ds = []
        · subst hz
          have z1 : its = [] := List.eq_nil_of_length_eq_zero hl
          subst z1
          refine SeqAt.RcAt.lists (e := fun _ => true) it.isList it2.isList rfl (by omega) (fun j h1 h2 => by simp at h2) X.prog X.w X.xe _ ?_
          exact ⟨.bl true, H, I, rfl, fin0 S q (.bl true)⟩
        · have hn : its.length ≠ 0 := fun z => hz (List.eq_nil_of_length_eq_zero (by omega))
          refine SeqAt.RcAt.lists_lengths it.isList it2.isList (by simp; intro z; exact hn (by rw [z]; rfl)) (by omega) X.prog X.w X.xe _ ?_
          have e : ds.isEmpty = false := by cases ds <;> first | exact absurd rfl hz | rfl
          rw [e] at q
          exact ⟨.bl false, H, I, rfl, fin0 S q (.bl false)⟩
    · cases hg
  · cases hg
theorem eqL_lst {h : Hs} {ds : List D} : gEqL h (.lst ds) (.lst []) = some (.bl ds.isEmpty) := rfl
/-! # G152: a module's tables of whole numbers: word in TABLE, word not in TABLE, TABLE[word] -/
section
end
/-! # G153: str of any data -/
/-! # G154: sorted(x), x a tuple of data of any kind -/
section
end
section
end
section
end
/-! # G155: a dict that a function builds and then only reads: locked, by value from there on, within the function -/
open Classical in
/-- behind f: the dict of the name v is locked and stands by itself, what else is new is forgotten -/
noncomputable def sGcL (v : Nat) (f : FS) : FS := fun e hs => match f e hs with
  | .nx e1 h1 => (match e1[v]? with
    | some (some (.ref n)) => (match h1[n]? with
      | some (.dt kvs) => (match dH (h1.set n (.lkd (.dt kvs))) hs.length 50 n with
        | some d' => if Cls hs (h1.set n (.lkd (.dt kvs))) ∧ (∀ i x, i ≠ v → e1[i]? = some (some x) → bel hs.length x = true) then .nx (e1.set v (some d')) ((h1.set n (.lkd (.dt kvs))).take hs.length) else .bad
        | none => .bad)
      | _ => .bad)
    | _ => .bad)
  | .brk e1 h1 => .brk e1 h1
  | .cnt e1 h1 => .cnt e1 h1
  | .ret d h1 => .ret d h1
  | .exc c fs e1 h1 => .exc c fs e1 h1
  | .bad => .bad
section
end
section
end
section
end
/-! # G156: what is shown of plain data of plain signs are plain signs; str(d)[:n] -/
section
end
/-! # G157: sorted(a list of tuples of numbers and texts, reverse=True) -/
section
variable {prog : Program} {w : World} {A : Around} {E : Value → Shared → Prop} {s : Shared}
abbrev kwRv : List (Str × Value) := [(Str.ofString "reverse", .bool true)]
theorem sorted_down {x : Value} {vs : List Value} {ltv : Value → Value → Bool} {Q : Value → Shared → Prop} (O : SrtO.Swo ltv) (hz : vs.length ≤ sizeLine)
    (hcol : ∀ (Q' : List Value → Shared → Prop) (E' : Value → Shared → Prop), (∀ h' tk, (∀ b u, s.heap.get? b = some u → h'.get? b = some u) → Q' vs { s with heap := h', toks := tk }) → wpAny (model prog w) A.in1 (collect x) Q' E' s)
    (hS : 2 ≤ vs.length → ∀ (h1 : Heap) (tk : Nat) (a : Addr), h1.get? a = some (seqObj "list" vs.toArray 0) → (∀ b u, s.heap.get? b = some u → h1.get? b = some u) → SrtO.SortableO prog w A.in1.in1 { s with heap := h1, toks := tk } a vs ltv)
    (h : ∀ (out : List Value) (h1 h2 : Heap) (tk : Nat), SrtO.Srtd ltv out → out.Perm vs → (∀ b u, s.heap.get? b = some u → h1.get? b = some u) → (∀ b u, h1.get? b = some u → h2.get? b = some u) → (∃ n, h2.get? h1.objs.size = some (seqObj "list" out.reverse.toArray n)) → Q (.ref h1.objs.size) { s with heap := h2, toks := tk }) :
    wpAny (model prog w) A (call (.builtin "sorted") [x] kwRv) Q E s := by
  refine call_function_entry_kw kind_sorted plain_sorted entry_sorted (args_sorted_rev _ _) ?_
  unfold Builtin.«sorted»
  refine wpAny_bind (m := checkCount "sorted" 1 1 _) (wpAny_pure ?_)
  refine wpAny_bind (hcol _ _ fun h' tk k1 => ?_)
  refine wpAny_bind (wpAny_newList ?_ hz)
  have new : (h'.push (seqObj "list" vs.toArray 0)).get? h'.objs.size = some (seqObj "list" vs.toArray 0) := Heap.get?_push_size _ rfl
  have old : ∀ b u, h'.get? b = some u → (h'.push (seqObj "list" vs.toArray 0)).get? b = some u := fun b u e => Heap.get?_push_of_some _ e
  show wpAny _ _ _ _ _ { s with heap := h'.push (seqObj "list" vs.toArray 0), toks := tk }
  refine wpAny_bind (wpAny_holding (wpAny_call_entry_kw slot_list_sort ⟨_, new, rfl⟩ entry_list_sort (SrtR.list_sort_ordR (b := true) (s := { s with heap := h'.push (seqObj "list" vs.toArray 0), toks := tk }) O new hz (fun g2 => hS g2 _ _ _ new fun b u e => old b u (k1 b u e)) fun out hs hb => ⟨_, rfl, ?_⟩) (args_list_sort_rev _ _)))
  have pm : out.Perm vs := hb.perm.trans (List.reverse_perm vs)
  obtain ⟨n, hd⟩ := sortedHeap_at (vs := vs) (out := out.toArray.reverse) new
  rw [List.reverse_toArray] at hd
  refine wpAny_pure ⟨_, rfl, h out h' _ tk hs pm k1 (fun b u e => ?_) ⟨n, by rw [if_pos rfl, List.reverse_toArray]; exact hd⟩⟩
  have lt : b < h'.objs.size := Heap.lt_size e
  rw [sortedHeap_old (Nat.ne_of_lt lt) (by rw [size_push']; exact Nat.lt_succ_of_lt lt)]
  exact old b u e
end
theorem pd_app {s t : Type} {R : s → t → Prop} : ∀ {l : List s} {m : List t} {l2 : List s} {m2 : List t}, Paired R l m → Paired R l2 m2 → Paired R (l ++ l2) (m ++ m2)
  | _, _, _, _, .nil, h => h
  | _, _, _, _, .cons e t, h => .cons e (pd_app t h)
theorem pd_rev {s t : Type} {R : s → t → Prop} : ∀ {l : List s} {m : List t}, Paired R l m → Paired R l.reverse m.reverse
  | _, _, .nil => .nil
  | _, _, .cons e t => by
    rw [List.reverse_cons, List.reverse_cons]
    exact pd_app (pd_rev t) (.cons e .nil)
/-- what sorted gives of such items -/
theorem sort_keysR {X : Cx} {pins : List (Addr × Obj)} {σ : L2.St} {H : Hp} {s : Shared} {x : Value} {Q : VK} {ts : List Addr} {kss : List (List Key)} (I : Inv X pins σ H s) (hk : KtAt H ts kss) (ok : okKs kss = true)
    (hcol : ∀ (Q' : List Value → Shared → Prop) (E' : Value → Shared → Prop), (∀ h' tk, (∀ b u, s.heap.get? b = some u → h'.get? b = some u) → Q' (ts.map Value.ref) { s with heap := h', toks := tk }) → wpAny (model X.prog X.w) X.A.in1 (collect x) Q' E' s)
    (q : ∀ ts' p, KtAt H ts' (sortK kss).reverse → (∀ t ∈ ts', t ∈ ts) → H p = none → Q (.ref p) (upd H p (.lst (ts'.map V.ref)))) : wpAny (model X.prog X.w) X.A (call (.builtin "sorted") [x] kwRv) (EP X pins σ Q) X.xe s := by
  unfold okKs at ok
  rw [Bool.and_eq_true, Bool.and_eq_true] at ok
  obtain ⟨⟨o1, o2⟩, o3⟩ := ok
  have cmp : ∀ a ∈ kss, ∀ b ∈ kss, cmpK a b = true := fun a ha b hb => List.all_eq_true.mp (List.all_eq_true.mp o1 a ha) b hb
  obtain ⟨b, hb⟩ : ∃ b, ∀ a ∈ kss, headK b a = true := by
    rcases Bool.or_eq_true_iff.mp o2 with h | h
    · exact ⟨true, List.all_eq_true.mp h⟩
    · exact ⟨false, List.all_eq_true.mp h⟩
  obtain ⟨hkeys, hat⟩ := hk.keys
  have hlen : ts.length = kss.length := by rw [← hkeys, List.length_map, List.length_map]
  have l3 := of_decide_eq_true o3
  have hm : ∀ v ∈ ts.map Value.ref, keyAt H v ∈ kss := fun v hv => by rw [← hkeys]; exact List.mem_map_of_mem hv
  have kt : ∀ h1 : Heap, (∀ b u, s.heap.get? b = some u → h1.get? b = some u) → ∀ v ∈ ts.map Value.ref, IsKt h1 v (keyAt H v) := fun h1 k v hv => by
    obtain ⟨t, ht, rfl⟩ := List.mem_map.mp hv
    obtain ⟨ks, _, e⟩ := hat t ht
    rw [keyAt_of e]
    obtain ⟨_, its, r, o, ho, hc, n, hd⟩ := I.hok _ _ e
    exact ⟨t, o, its.toArray, n, rfl, k _ _ ho, hc, hd, by simpa using r⟩
  refine sorted_down (swoK (keyAt H)) (by rw [List.length_map, sizeLine_eq]; omega) hcol (fun g2 h1 tk a ha k => ?_) fun out h1 h2 tk hs hst k1 k2 hd => ?_
  · refine kt_sortable (b := b) (by omega) (kt h1 k) (fun v hv => hb _ (hm v hv)) (fun v hv u hu => cmp _ (hm v hv) _ (hm u hu)) fun o e => ?_
    have e2 : some o = some (seqObj "list" (ts.map Value.ref).toArray 0) := e.symm.trans ha
    cases e2
    intro c
    exact absurd (Value.type.inj c) (by decide)
  · have hp := hst
    have ho : ∀ v ∈ out, ∃ t ∈ ts, v = Value.ref t := fun v hv => by
      obtain ⟨t, ht, e⟩ := List.mem_map.mp (hp.subset hv)
      exact ⟨t, ht, e.symm⟩
    obtain ⟨ts', e1, e2⟩ : ∃ ts' : List Addr, out = ts'.map Value.ref ∧ ∀ t ∈ ts', t ∈ ts := by
      clear hs hst hd hp
      induction out with
      | nil => exact ⟨[], rfl, fun _ z => nomatch z⟩
      | cons v out ih =>
        obtain ⟨ts', e1, e2⟩ := ih fun u hu => ho u (List.mem_cons_of_mem _ hu)
        obtain ⟨t, ht, rfl⟩ := ho _ List.mem_cons_self
        refine ⟨t :: ts', by rw [e1]; rfl, fun u hu => ?_⟩
        rcases List.mem_cons.mp hu with rfl | hu
        · exact ht
        · exact e2 u hu
    subst e1
    have sk : (ts'.map Value.ref).map (keyAt H) = sortK kss := by
      refine sortK_is ?_ (List.pairwise_map.mpr hs)
      rw [← hkeys]
      exact hp.map _
    have kt' : KtAt H ts' (sortK kss) := by
      rw [← sk]
      clear sk hs hst hd hp ho
      induction ts' with
      | nil => exact .nil
      | cons t ts' ih =>
        obtain ⟨ks, _, e⟩ := hat t (e2 t List.mem_cons_self)
        refine .cons ?_ (ih fun u hu => e2 u (List.mem_cons_of_mem _ hu))
        rw [keyAt_of e]; exact e
    have I1 : Inv X pins σ H { s with heap := h1, toks := tk } := I.kept k1
    obtain ⟨n, hd⟩ := hd
    have hl : (ts'.map V.ref).length ≤ sizeLine := by
      have := hp.length_eq
      rw [List.length_map, List.length_map] at this
      rw [List.length_map, sizeLine_eq]; omega
    have ktR : KtAt H ts'.reverse (sortK kss).reverse := pd_rev kt'
    have e3 : (ts'.map Value.ref).reverse = ts'.reverse.map Value.ref := List.map_reverse.symm
    rw [e3] at hd
    have hl2 : (ts'.reverse.map V.ref).length ≤ sizeLine := by rw [List.length_map, List.length_reverse, ← List.length_map (f := V.ref)]; exact hl
    exact ⟨.ref h1.objs.size, upd H h1.objs.size (.lst (ts'.reverse.map V.ref)), I1.laid (t' := tk) k2 (Nat.le_refl _) ⟨hl2, ts'.reverse.map Value.ref, n, vals_refs _, hd⟩, rfl, q ts'.reverse _ ktR (fun t ht => e2 t (List.mem_reverse.mp ht)) (I1.hok.fresh (Nat.le_refl _))⟩
/-- as a function -/
def gSortR (hs : Hs) (ds : List D) : Option (List D) := match ds with
  | [d] => (match seqOf hs d with
    | some es => (match keyTs es with | some kss => if okKs kss = true then some ((sortK kss).reverse.map tupK) else none | none => none)
    | none => none)
  | _ => none
def lSortR (fa : FA) : FL := fun e hs => (fa e hs).bind fun ds hs => R.ofO (gSortR hs ds) hs
def rSortR (K : PySem.W.Frag) (mg : Str → Option Value) : List V → List V → Hp → VK → Prop := fun xs zs H Q => ∃ mu hs d x ds, xs = [x] ∧ zs = [V.bl true] ∧ Sim K mg mu hs H ∧ RD K mu H d x ∧ gSortR hs [d] = some ds ∧ ∀ p vs, H p = none → RDs K mu H ds vs → Q (.ref p) (upd H p (.lst vs))
section
variable {X : Cx} {Wd : WX}
theorem cr_sortR (hc : X.calm = true) : CallRK X (.builtin "sorted") [Str.ofString "reverse"] (rSortR X.K X.mg) := by
  rintro pins s σ H xs zs us ws Q I r r2 ⟨mu, hs, d, x, ds, rfl, rfl, S, rd, hg, q⟩
  obtain ⟨u, rfl, ru⟩ := r.one
  obtain ⟨u2, rfl, ru2⟩ := vals1 r2
  obtain rfl : u2 = Value.bool true := ru2
  unfold gSortR at hg
  dsimp only at hg
  split at hg
  · rename_i es hes
    split at hg
    · rename_i kss hks
      split at hg
      · rename_i ok
        cases hg
        obtain ⟨p, vs, rfl, h1, h2⟩ := seqOf_at S rd hes
        obtain ⟨ts, rfl, hat⟩ := keyTs_at h2 hks
        obtain rfl : u = Value.ref p := ru
        refine sort_keysR I hat ok (fun Q' E' k => ?_) fun ts' p' hk _ hp => q p' _ hp (kt_rds S hk)
        rcases h1 with h1 | h1
        · obtain ⟨its, rv, hl, hz⟩ := I.list h1
          obtain rfl := refs_vals rv
          obtain ⟨o, ho, hcl, n, hd⟩ := hl.isList
          exact collect_of (T := "list") (by decide +kernel) ho hcl hd (by simpa using hz) fun h' kk => k h' s.toks kk
        · obtain ⟨its, rv, hl, hz⟩ := I.tuple h1
          obtain rfl := refs_vals rv
          obtain ⟨o, ho, hcl, n, hd⟩ := hl
          exact collect_of (T := "tuple") (by decide +kernel) ho hcl hd (by simpa using hz) fun h' kk => k h' s.toks kk
      · cases hg
    · cases hg
  · cases hg
theorem uf_sortR {a kv : Expr} {fa : FA} {p pos kp : Pos} (hc : X.calm = true) (hg : L2.Gl X "sorted") (hm : X.mg "sorted" = none) (ha : UA X Wd [a] fa) (hk : UE X Wd kv (eC (.bl true)))
    (he : backTo pos (starEach [a] X.env) = (false, eval a X.env) :: backTo pos (starEach [] X.env) := by rfl) (hpl : (backTo pos (starEach [a] X.env)).any (·.1) = false := by rfl) :
    UF X Wd (.Call (.Name "sorted" p) [a] [⟨some (Str.ofString "reverse"), kv, kp⟩] pos) (lSortR fa) := by
  refine PE.imp (pe_callBK (cr_sortR hc) hg hm boot_sorted ha (uk_cons (nm := some (Str.ofString "reverse")) hk uk_nil) (by decide) (by decide) he hpl) fun σ H Q h => ?_
  obtain ⟨e, mu, hs, S, E, g⟩ := tG_seq (r := relA X.K) relF_ok h
  refine ⟨e, mu, hs, S, E, g.imp fun xs H1 ⟨e, mu1, hs1, ds, S1, E1, r1, g1⟩ => ?_⟩
  cases q : gSortR hs1 ds with
  | none => rw [q] at g1; exact g1.elim
  | some out =>
    rw [q] at g1
    obtain ⟨d, rfl⟩ : ∃ d, ds = [d] := by
      unfold gSortR at q
      split at q
      · exact ⟨_, rfl⟩
      · cases q
    cases r1 with
    | cons r1 t => cases t with
    | nil =>
    refine ⟨e, mu1, hs1, S1, E1, ?_⟩
    rintro mu2 H2 zs l2 S2 (_ | ⟨r3, _ | _⟩)
    cases r3
    refine ⟨mu2, hs1, d, _, out, rfl, rfl, S2, RD.agr (l2.agr S1) r1, q, fun p vs hp rr => relF_new S2 (fun mu' H' v l S3 r => g1 mu' H' v (l2.trans l) S3 ?_) hp rr⟩
    obtain ⟨a, vs, e1, e2, e3, e4, e5, e6⟩ := r
    exact ⟨a, vs, e1, e2, e3, e4, l2.back e5 fun z => e3 (l.pre.subset (l2.pre.subset z)), e6⟩
end
section
variable {e : Ev} {h : Hs} {X : XQ}
theorem wp_sortR {fa : FA} {hs : Hs} {Q : List D → Hs → Prop} (g : Wp (fa e hs) (fun ds h => Wp (R.ofO (gSortR h ds) h) Q X) X) : Wp (lSortR fa e hs) Q X := wp_bind g
theorem sortR_is {d : D} {ds : List D} {kss : List (List Key)} (e : seqOf h d = some ds) (k : keyTs ds = some kss) (ok : okKs kss = true) : gSortR h [d] = some ((sortK kss).reverse.map tupK) := by
  unfold gSortR
  dsimp only
  rw [e]
  dsimp only
  rw [k]
  dsimp only
  rw [if_pos ok]
end
/-! # G158: list(d) of a dict with tuples as keys; {t: v} that is locked from its making -/
def dispL : List (D × D) → Option D
  | [(.tup ds, y)] => (match keysD ds with | some ks => some (.dlt [ks] [y]) | none => none)
  | _ => none
/-- {t: v}, locked -/
def eDispL (g : FPs) : FE := fun e hs => (g e hs).bind fun l hs => match dispL l with | some d => .ok d hs | none => .bad
section
variable {X : Cx} {Wd : WX} {pos : Pos} {k v : Expr} {trs : List (TE × TE)} {g : FPs}
theorem pe_disp1F (hu : X.A.units + 65 < cLine) (h : PPs X pos [some k] [v] trs) : PE X (.Dict [some k] [v] pos) (fun σ H Q => ∀ p, H p = none → tPairs trs σ (upd H p (.dT [])) fun ps H2 => H2 p = some (.dT []) ∧
    ∃ (b : Addr) (ks : List L2.Key) (y : V), ps = [(V.ref b, y)] ∧ H2 b = some (.tup (ks.map kV)) ∧ ∀ od, Q (.ref p) (upd H2 p (.frz od (.dT [(ks, y)])))) := by
  refine ⟨fun pins s σ H Q I q => ?_⟩
  have hn := I.hok.fresh (Nat.le_refl s.heap.objs.size)
  have I1 := I.laid (a := s.heap.objs.size) (o := .dT []) (h' := s.heap.push { cls := .type "dict", data := .dict #[] }) (t' := s.toks) (fun _ _ q => Heap.get?_push_of_some _ q) (Nat.le_refl _) (dt_empty s.heap I.big)
  have hp : (pairTrees [some k] [v] X.env pos) ≠ [] := by
    intro e
    have := pairTrees_length [some k] [v] X.env pos rfl rfl
    rw [e] at this
    cases this
  have hl : (pairTrees [some k] [v] X.env pos).length = 1 := pairTrees_length [some k] [v] X.env pos rfl rfl
  rw [arm_eval_Dict, zip_pairTrees [some k] [v] X.env pos rfl rfl, dictDisplay_pairs _ hp (by omega)]
  refine wpAny_bind (wpAny_standAt (wpAny_bind ?_))
  unfold subDict
  refine wpAny_bind (wpAny_alloc ?_)
  refine wpAny_bind (wpAny_holding ?_)
  rw [if_pos (by omega)]
  refine wpAny_bind (wpAny_mono (h.run pins _ σ _ _ I1 (q _ hn)) (fun vs s2 ⟨ps, H2, I2, rel, e, b, ks, y, ep, eb, q2⟩ => ?_) fun _ _ e => e)
  subst ep
  cases rel with
  | @cons _ w _ ws r0 t0 =>
    cases t0
    obtain ⟨w1, w2⟩ := w
    obtain ⟨r1, r2⟩ := r0
    obtain rfl : w1 = Value.ref b := r1
    refine wpAny_holding ?_
    obtain ⟨z, hd, xs, rel, dd⟩ := dt_of I2.hok e
    cases rel
    rw [List.forIn_cons]
    refine wpAny_bind (wpAny_bind (wpAny_bind (wpAny_dictSet_heap (hsz := Nat.zero_le _) (show X.A.units < cLine by omega) (key_of I2.hok eb) dd (fun h' dd' hs => wpAny_pure ?_))))
    dsimp only
    rw [List.forIn_nil]
    have J : ∀ tk, Inv X pins σ (upd H2 s.heap.objs.size (.dT [(ks, y)])) { s2 with heap := h', toks := tk } := fun tk => by
      obtain ⟨o, es, ep, hq, h2, h3, h4, _, h5⟩ := dd'
      refine d_write I2 (by rw [e]; exact True.intro) hs ⟨o, hq⟩ ⟨by rw [sizeLine_eq]; exact Nat.le_of_ble_eq_true rfl, hd, _, .cons ⟨rfl, ?_, r2⟩ .nil, o, es, ep, hq, h2, h3, h4, h5⟩
      rw [upd_ne (ne_of eb e (fun z => nomatch z))]
      exact eb
    obtain ⟨od, J2⟩ := (J (s2.toks + (tupleKind (mixKind X.prog X.w)).draws ks)).lock upd_same trivial
    rw [upd_upd] at J2
    exact wpAny_pure (wpAny_pure (wpAny_pure (wpAny_pure ⟨.ref s.heap.objs.size, _, J2, rfl, q2 od⟩)))
theorem ue_dispL (hu : X.A.units + 65 < cLine) (h : UPs X Wd pos [some k] [v] g) : UE X Wd (.Dict [some k] [v] pos) (eDispL g) := by
  obtain ⟨trs, P, i⟩ := h
  refine PE.imp (pe_disp1F hu P) fun σ H Q h p hp => ?_
  obtain ⟨e, mu, hs, S, E, q⟩ := h
  have l0 : Lat mu H mu (upd H p (.dT [])) := .new hp
  refine i σ _ _ ⟨e, mu, hs, S.new hp, E.agr (l0.agr S), ?_⟩
  unfold eDispL at q
  cases z : g e hs with
  | bad => rw [z] at q; exact q
  | exc c fs hs' => rw [z] at q; exact fun mu' H' cls dx l s rr => q mu' H' cls dx (l0.trans l) s rr
  | ok l hs' =>
    rw [z] at q
    intro mu1 H1 ps l1 S1 r1
    have q : Gd (relD X.K) X.K X.mg Wd σ mu H Q (match dispL l with | some d => .ok d hs' | none => .bad) := q
    clear z
    unfold dispL at q
    split at q
    · rename_i d hd
      split at hd
      · rename_i ds y
        split at hd
        · rename_i ks hk
          cases hd
          obtain ⟨e1, n1, z1⟩ := l1.ext p _ upd_same (S.fresh hp)
          have nz : ¬ mu1.fz p := fun z => S.freshz hp (z1 z)
          have ni : ¬ Imm (.dT []) := fun z => z
          obtain ⟨ra, rb, rc⟩ := r1
          obtain ⟨⟨x1, x2⟩, rfl⟩ : ∃ p0, ps = [p0] := by
            match ps, rc with
            | [a], _ => exact ⟨a, rfl⟩
          have ra : RDs X.K mu1 H1 [.tup ds] [x1] := ra
          have rb : RDs X.K mu1 H1 [y] [x2] := rb
          cases ra with
          | cons r t =>
            cases r with
            | tup ht hr =>
              rename_i b us
              have ei := keysD_at hr hk
              subst ei
              refine ⟨e1, b, ks, x2, rfl, ht.1, fun od => ?_⟩
              have S2 := S1.privI (o := .frz od (.dT [(ks, x2)])) e1 ni n1 nz
              have hz : upd H1 p (.frz od (.dT [(ks, x2)])) p = some (.frz od (.dT ([ks].zip [x2]))) := by rw [upd_same]; rfl
              refine q mu1 _ (.ref p) ⟨l1.pre, l1.sub, fun b o hb nb => ?_, fun b o v hb => ?_⟩ S2 (show RD X.K mu1 _ (.dlt [ks] [y]) _ from .dlt ⟨⟨od, hz⟩, n1⟩ rfl (RDs.agr (.privI e1 ni nz) rb))
              · have hbp : b ≠ p := ne_of_none hb hp
                obtain ⟨a1, a2, a3⟩ := l1.ext b o (by rw [upd_ne hbp]; exact hb) nb
                exact ⟨by show upd H1 p _ b = _; rw [upd_ne hbp]; exact a1, a2, a3⟩
              · have hbp : b ≠ p := ne_of_none hb hp
                show upd H1 p _ b = _
                rw [upd_ne hbp]
                exact l1.frz b o v (by rw [upd_ne hbp]; exact hb)
        · cases hd
      · cases hd
    · exact q.elim
end
section
variable {e : Ev} {hs : Hs} {X : XQ}
theorem wp_dispL {g : FPs} {Q : D → Hs → Prop} (h : Wp (g e hs) (fun l h => ∃ ds y ks, l = [(.tup ds, y)] ∧ keysD ds = some ks ∧ Q (.dlt [ks] [y]) h) X) : Wp (eDispL g e hs) Q X := by
  refine wp_bind (wp_mono h (fun l h' q => ?_) fun _ _ _ x => x)
  obtain ⟨ds, y, ks, rfl, z, q⟩ := q
  have e : dispL [(.tup ds, y)] = some (.dlt [ks] [y]) := by
    show (match keysD ds with | some ks => some (D.dlt [ks] [y]) | none => none) = _
    rw [z]
  rw [e]
  exact wp_ok q
end
def lListT (f : FE) : FL := fun e hs => (f e hs).bind fun d hs => R.ofO ((dtR hs d).map fun kvs => kvs.map fun kv => tupK kv.1) hs
section
variable {X : Cx} {Wd : WX} {a : Expr} {f1 : FE} {p pos : Pos}
theorem uf_listT (hc : X.calm = true) (hg : L2.Gl X "list") (hm : X.mg "list" = none) (ha : UE X Wd a f1)
    (hs1 : starEach [a] X.env = [(false, eval a X.env)] := by rfl) : UF X Wd (.Call (.Name "list" p) [a] [] pos) (lListT f1) := by
  refine PE.imp (pe_callTy (call_list_dT hc) hg hm PyProof.Rows.boot_list (pa_cons ha pa_nil hs1) (by decide) (by decide) hs1 rfl) fun σ H Q h => ?_
  obtain ⟨e, mu, hs, S, E, q⟩ := tG_seq (r := relD X.K) relF_ok h
  refine ⟨e, mu, hs, S, E, q.imp fun x H1 ⟨e, mu1, hs1, d, S1, E1, r1, g1⟩ => ?_⟩
  cases e1 : dtR hs1 d with
  | none => rw [e1] at g1; exact g1.elim
  | some kvs =>
    rw [e1] at g1
    obtain ⟨a, vs, rfl, ha, rk⟩ := dtR_at0 S1 r1 e1
    refine ⟨a, vs, rfl, ha, fun p bs hp ik => relF_new S1 g1 hp ?_⟩
    have : ∀ {kvs : List (List Key × D)} {vs : List (List Key × V)} {bs : List Addr}, RKs X.K mu1 H1 kvs vs → IsKeys H1 vs bs → RDs X.K mu1 H1 (kvs.map fun kv => tupK kv.1) (bs.map V.ref) := by
      intro kvs vs bs r i
      induction i generalizing kvs with
      | nil => cases r; exact .nil
      | cons e _ ih =>
        cases r with
        | cons r1 r2 => exact .cons (.tup ⟨e, S1.tup_out e⟩ (keys_rds _)) (ih r2)
    exact this rk ik
/-- sorted(such a dict) -/
def gSortL (hs : Hs) (d : D) : Option (List D) := match dtR hs d with
  | some kvs => sortKs (kvs.map (·.1))
  | none => none
def lSortL (f : FE) : FL := fun e hs => (f e hs).bind fun d hs => R.ofO (gSortL hs d) hs
def rSortL (K : PySem.W.Frag) (mg : Str → Option Value) : List V → Hp → VK → Prop := fun xs H Q => ∃ mu hs d x ds, xs = [x] ∧ Sim K mg mu hs H ∧ RD K mu H d x ∧ gSortL hs d = some ds ∧ ∀ p vs, H p = none → RDs K mu H ds vs → Q (.ref p) (upd H p (.lst vs))
theorem cr_sortL (hc : X.calm = true) : CallR X (.builtin "sorted") (rSortL X.K X.mg) := by
  rintro pins s σ H xs us Q I r ⟨mu, hs, d, x, ds, rfl, S, rd, hg, q⟩
  obtain ⟨u, rfl, ru⟩ := r.one
  unfold gSortL at hg
  split at hg
  · rename_i kvs hkv
    unfold sortKs at hg
    split at hg
    · rename_i ok
      cases hg
      obtain ⟨p, vs, rfl, h1, h2⟩ := dtR_at0 S rd hkv
      obtain rfl : u = Value.ref p := ru
      rw [h2.fsts] at ok q
      obtain ⟨z, hne, ks, pr, o, es, ep, ho, hx, hdt, he, hn⟩ := (show ObjOk X.prog X.w H s.heap p (.dT vs) from h1.ok I.hok)
      have l1 : es.size = ks.length := size_of_entries he
      have l2 : vs.length = ks.length := Paired.length pr
      have hat : ∀ {l : List (List Key × V)} {m : List (List Key × Addr × Value)}, KT H l m → KtAt H (m.map fun x => x.2.1) (l.map (·.1)) := by
        intro l m rr
        induction rr with
        | nil => exact .nil
        | cons h t ih => exact .cons h.2.1 ih
      refine sort_keys I (hat pr) ok (fun Q' E' k => ?_) fun ts' p' hk _ hp => q p' _ hp (kt_rds S hk)
      refine PySem.W.kdu_collect (A := X.A.in1) (kdl_raw hne hx hdt) (I.ok.hd hc) ho (by omega) fun h' tk acc kk it => ?_
      have hl : acc.toList.length = ks.length := by rw [Array.length_toList, it.1]; exact l1
      have ea : acc.toList = (ks.map fun x => x.2.1).map Value.ref := by
        rw [List.map_map]
        apply List.ext_getElem?
        intro j
        rw [List.getElem?_map]
        cases hj : acc.toList[j]? with
        | none =>
          have h1 := List.getElem?_eq_none_iff.mp hj
          rw [List.getElem?_eq_none (by omega)]
          rfl
        | some v =>
          obtain ⟨en, hen, hv⟩ := it.2 j v (by rw [← Array.getElem?_toList]; exact hj)
          have qe := entry_at he j
          rw [hen] at qe
          cases hb : ks[j]? with
          | none => rw [hb] at qe; exact nomatch (show some en = none from qe)
          | some b =>
            rw [hb] at qe
            have e2 : en = entryOfKey (tupleKind (mixKind X.prog X.w)) b := Option.some.inj qe
            rw [hv, e2]
            rfl
      rw [ea]
      exact k h' tk kk
    · cases hg
  · cases hg
theorem uf_sortL (hc : X.calm = true) (hg : L2.Gl X "sorted") (hm : X.mg "sorted" = none) (ha : UE X Wd a f1)
    (hs1 : starEach [a] X.env = [(false, eval a X.env)] := by rfl) : UF X Wd (.Call (.Name "sorted" p) [a] [] pos) (lSortL f1) := by
  refine PE.imp (pe_callB (cr_sortL hc) hg hm boot_sorted (pa_cons ha pa_nil hs1) (by decide) (by decide) hs1 rfl) fun σ H Q h => ?_
  obtain ⟨e, mu, hs, S, E, q⟩ := tG_seq (r := relD X.K) relF_ok h
  refine ⟨e, mu, hs, S, E, q.imp fun x H1 ⟨e, mu1, hs1, d, S1, E1, r1, g1⟩ => ?_⟩
  cases q : gSortL hs1 d with
  | none => rw [q] at g1; exact g1.elim
  | some ds =>
    rw [q] at g1
    exact ⟨mu1, hs1, d, x, ds, rfl, S1, r1, q, fun p vs hp rr => relF_new S1 g1 hp rr⟩
end
section
variable {e : Ev} {h hs : Hs} {X : XQ}
theorem wp_listT {f : FE} {Q : List D → Hs → Prop} (g : Wp (f e hs) (fun d h => Wp (R.ofO ((dtR h d).map fun kvs => kvs.map fun kv => tupK kv.1) h) Q X) X) : Wp (lListT f e hs) Q X := wp_bind g
theorem wp_sortL {f : FE} {Q : List D → Hs → Prop} (g : Wp (f e hs) (fun d h => Wp (R.ofO (gSortL h d) h) Q X) X) : Wp (lSortL f e hs) Q X := wp_bind g
end
end G

/-! # G159: rows of three numbers, the greatest of them, cuts of a zone: in plain Lean -/
namespace MR
open PySem PySem.Spec PyProof.Rows L2 G
abbrev R3 := Nat × Nat × Nat
def le3 (x y : R3) : Bool := decide (x.1 ≤ y.1) && (decide (x.2.1 ≤ y.2.1) && decide (x.2.2 ≤ y.2.2))
theorem le3_iff {x y : R3} : le3 x y = true ↔ x.1 ≤ y.1 ∧ x.2.1 ≤ y.2.1 ∧ x.2.2 ≤ y.2.2 := by
  unfold le3
  rw [Bool.and_eq_true, Bool.and_eq_true, decide_eq_true_eq, decide_eq_true_eq, decide_eq_true_eq]
theorem le3_refl (x : R3) : le3 x x = true := le3_iff.mpr ⟨Nat.le_refl _, Nat.le_refl _, Nat.le_refl _⟩
theorem le3_trans {x y z : R3} (a : le3 x y = true) (b : le3 y z = true) : le3 x z = true := by
  obtain ⟨a1, a2, a3⟩ := le3_iff.mp a
  obtain ⟨b1, b2, b3⟩ := le3_iff.mp b
  exact le3_iff.mpr ⟨by omega, by omega, by omega⟩
def ad3 (x y : R3) : R3 := (x.1 + y.1, x.2.1 + y.2.1, x.2.2 + y.2.2)
def key3 (x : R3) : List Key := [.inl (x.1 : Int), .inl (x.2.1 : Int), .inl (x.2.2 : Int)]
def r3D (x : R3) : D := .tup [.int (x.1 : Int), .int (x.2.1 : Int), .int (x.2.2 : Int)]
theorem key3_tup (x : R3) : tupK (key3 x) = r3D x := rfl
def kR : List Key → R3
  | [.inl a, .inl b, .inl c] => (a.toNat, b.toNat, c.toNat)
  | _ => (0, 0, 0)
theorem kR_key (x : R3) : kR (key3 x) = x := rfl
theorem key3_inj {x y : R3} (e : key3 x = key3 y) : x = y := by rw [← kR_key x, e, kR_key]
/-- in order -/
def srt (rows : List R3) : List R3 := (sortK (rows.map key3)).map kR
theorem srt_keys (rows : List R3) : (srt rows).map key3 = sortK (rows.map key3) := by
  have h : ∀ k ∈ sortK (rows.map key3), key3 (kR k) = k := fun k hk => by
    obtain ⟨x, _, rfl⟩ := List.mem_map.mp ((sortK_perm _).subset hk)
    rw [kR_key]
  unfold srt
  rw [List.map_map]
  exact (List.map_congr_left h).trans (List.map_id _)
theorem srt_perm (rows : List R3) : (srt rows).Perm rows := by
  have h := (sortK_perm (rows.map key3)).map kR
  rw [List.map_map] at h
  have e : rows.map (kR ∘ key3) = rows := (List.map_congr_left fun x _ => kR_key x).trans (List.map_id rows)
  rw [e] at h
  exact h
theorem srt_D (rows : List R3) : (sortK (rows.map key3)).map tupK = (srt rows).map r3D := by
  rw [← srt_keys, List.map_map]; rfl
theorem srt_of_perm {a b : List R3} (p : a.Perm b) : srt a = srt b := by
  unfold srt
  rw [← sortK_is ((sortK_perm _).trans (p.map key3)) (sortK_pw _)]
theorem perm_of {t : Type} [DecidableEq t] {a b : List t} (n1 : a.Nodup) (n2 : b.Nodup) (h : ∀ x, x ∈ a ↔ x ∈ b) : a.Perm b := by
  induction a generalizing b with
  | nil =>
    cases b with
    | nil => exact .refl _
    | cons y b => exact absurd ((h y).mpr List.mem_cons_self) (fun z => nomatch z)
  | cons x a ih =>
    obtain ⟨n3, n4⟩ := List.nodup_cons.mp n1
    have hx : x ∈ b := (h x).mp List.mem_cons_self
    have := ih (b := b.erase x) n4 (n2.erase x) fun y => by
      rw [n2.mem_erase_iff]
      constructor
      · exact fun hy => ⟨fun e => n3 (e ▸ hy), (h y).mp (List.mem_cons_of_mem _ hy)⟩
      · exact fun hy => (List.mem_cons.mp ((h y).mpr hy.2)).elim (fun e => absurd e hy.1) id
    exact (this.cons x).trans (List.perm_cons_erase hx).symm
theorem uq_self {t : Type} [DecidableEq t] {l : List t} (n : l.Nodup) : uq l = l := by
  induction l with
  | nil => rfl
  | cons x l ih =>
    obtain ⟨n1, n2⟩ := List.nodup_cons.mp n
    unfold uq
    rw [if_neg n1, ih n2]
theorem nd_keys {l : List R3} (n : l.Nodup) : (l.map key3).Nodup := List.Pairwise.map key3 (fun _ _ h e => h (key3_inj e)) n
theorem ok3 {l : List R3} (h : l.length ≤ 100000) : okKs (l.map key3) = true := by
  unfold okKs
  rw [Bool.and_eq_true, Bool.and_eq_true]
  refine ⟨⟨List.all_eq_true.mpr fun x hx => List.all_eq_true.mpr fun y hy => ?_, Bool.or_eq_true_iff.mpr (.inl (List.all_eq_true.mpr fun x hx => ?_))⟩, decide_eq_true (by rw [List.length_map]; exact h)⟩
  · obtain ⟨a, _, rfl⟩ := List.mem_map.mp hx
    obtain ⟨b, _, rfl⟩ := List.mem_map.mp hy
    unfold key3
    simp [cmpK]
    exact ⟨rfl, rfl, rfl⟩
  · obtain ⟨a, _, rfl⟩ := List.mem_map.mp hx
    rfl
/-- covered by some -/
def cov (found : List R3) (r : R3) : Bool := found.any (le3 r)
theorem cov_iff {found : List R3} {r : R3} : cov found r = true ↔ ∃ x ∈ found, le3 r x = true := List.any_eq_true
def gre : List R3 → List R3 → List R3
  | acc, [] => acc
  | acc, r :: rs => gre (if cov acc r = true then acc else acc ++ [r]) rs
theorem gre_sub : ∀ (rs acc : List R3), ∀ x ∈ gre acc rs, x ∈ acc ∨ x ∈ rs
  | [], acc, x, h => .inl h
  | r :: rs, acc, x, h => by
    rcases gre_sub rs _ x h with h | h
    · split at h
      · exact .inl h
      · exact (List.mem_append.mp h).elim .inl fun z => .inr (by rw [List.mem_singleton.mp z]; exact List.mem_cons_self)
    · exact .inr (List.mem_cons_of_mem _ h)
theorem gre_acc : ∀ (rs acc : List R3), ∀ x ∈ acc, x ∈ gre acc rs
  | [], acc, x, h => h
  | r :: rs, acc, x, h => gre_acc rs _ x (by
    split
    · exact h
    · exact List.mem_append_left _ h)
theorem gre_cov : ∀ (rs acc : List R3), ∀ x ∈ rs, cov (gre acc rs) x = true
  | r :: rs, acc, x, h => by
    rcases List.mem_cons.mp h with rfl | h
    · by_cases c : cov acc x = true
      · obtain ⟨y, hy, l⟩ := cov_iff.mp c
        exact cov_iff.mpr ⟨y, gre_acc rs _ y (by rw [if_pos c]; exact hy), l⟩
      · exact cov_iff.mpr ⟨x, gre_acc rs _ x (by rw [if_neg c]; exact List.mem_append_right _ (List.mem_singleton.mpr rfl)), le3_refl x⟩
    · exact gre_cov rs _ x h
theorem gre_nd : ∀ (rs acc : List R3), acc.Nodup → (gre acc rs).Nodup
  | [], _, h => h
  | r :: rs, acc, h => by
    refine gre_nd rs _ ?_
    split
    · exact h
    · rename_i c
      refine List.nodup_append.mpr ⟨h, List.nodup_cons.mpr ⟨nofun, .nil⟩, fun x hx y hy e => ?_⟩
      rw [List.mem_singleton.mp hy] at e
      exact c (cov_iff.mpr ⟨x, hx, by rw [e]; exact le3_refl r⟩)
theorem gre_len : ∀ (rs acc : List R3), (gre acc rs).length ≤ acc.length + rs.length
  | [], acc => Nat.le_refl _
  | r :: rs, acc => by
    have := gre_len rs (if cov acc r = true then acc else acc ++ [r])
    have l : (if cov acc r = true then acc else acc ++ [r]).length ≤ acc.length + 1 := by
      split
      · omega
      · rw [List.length_append]; exact Nat.le_refl _
    show (gre _ rs).length ≤ _
    rw [List.length_cons]
    omega
/-- the greatest ones -/
def grt (rows : List R3) : List R3 := gre [] (srt rows).reverse
theorem grt_sub {rows : List R3} {x : R3} (h : x ∈ grt rows) : x ∈ rows :=
  (gre_sub _ _ x h).elim (fun z => nomatch z) fun z => (srt_perm rows).subset (List.mem_reverse.mp z)
theorem grt_cov {rows : List R3} {x : R3} (h : x ∈ rows) : cov (grt rows) x = true := gre_cov _ _ x (List.mem_reverse.mpr ((srt_perm rows).symm.subset h))
theorem grt_nd (rows : List R3) : (grt rows).Nodup := gre_nd _ _ .nil
theorem grt_len (rows : List R3) : (grt rows).length ≤ rows.length := by
  have := gre_len (srt rows).reverse []
  rw [List.length_reverse, (srt_perm rows).length_eq] at this
  exact Nat.le_trans this (by rw [List.length_nil, Nat.zero_add]; exact Nat.le_refl _)
theorem grt_perm {a b : List R3} (p : a.Perm b) : grt a = grt b := by unfold grt; rw [srt_of_perm p]
/-! ### cuts -/
def ops : Option Nat → Nat → List (Nat × Nat)
  | none, r => [(0, r)]
  | some l, r => (List.range (1 + r / l)).map fun m => (m, r - m * l)
def used (l : Option Nat) (n : Nat) : Nat := n * l.getD 0
def okc (l : Option Nat) (n : Nat) : Prop := l = none → n = 0
def pos4 (l : Option Nat) : Prop := ∀ v, l = some v → 4 ≤ v
theorem mem_ops {l : Option Nat} {r : Nat} {p : Nat × Nat} (hp : pos4 l) : p ∈ ops l r ↔ okc l p.1 ∧ used l p.1 ≤ r ∧ p.2 = r - used l p.1 := by
  obtain ⟨m, q⟩ := p
  cases l with
  | none =>
    show (m, q) ∈ [(0, r)] ↔ _
    rw [List.mem_singleton, Prod.mk.injEq]
    unfold okc used
    simp
  | some v =>
    have v4 := hp v rfl
    show (m, q) ∈ (List.range (1 + r / v)).map _ ↔ _
    rw [List.mem_map]
    unfold okc used
    constructor
    · rintro ⟨n, hn, e⟩
      cases e
      rw [List.mem_range] at hn
      refine ⟨nofun, ?_, rfl⟩
      show m * v ≤ r
      exact (Nat.le_div_iff_mul_le (by omega)).mp (by omega)
    · rintro ⟨_, h1, h2⟩
      have h1 : m * v ≤ r := h1
      have h2 : q = r - m * v := h2
      refine ⟨m, List.mem_range.mpr ?_, by rw [h2]⟩
      have := (Nat.le_div_iff_mul_le (show 0 < v by omega)).mpr h1
      omega
theorem nd_ops {l : Option Nat} {r : Nat} : ((ops l r).map (·.1)).Nodup := by
  cases l with
  | none => exact List.nodup_cons.mpr ⟨nofun, .nil⟩
  | some v =>
    show (((List.range (1 + r / v)).map fun m => (m, r - m * v)).map (·.1)).Nodup
    rw [List.map_map]
    have e : (List.range (1 + r / v)).map ((·.1) ∘ fun m => (m, r - m * v)) = List.range (1 + r / v) := List.map_id _
    rw [e]
    exact List.nodup_range
def cutsOf (L : Nat) (a b c : Option Nat) : List R3 := (ops a L).flatMap fun p => (ops b p.2).flatMap fun q => (ops c q.2).map fun s => (p.1, q.1, s.1)
theorem mem_cuts {L : Nat} {a b c : Option Nat} {x : R3} (ha : pos4 a) (hb : pos4 b) (hc : pos4 c) :
    x ∈ cutsOf L a b c ↔ okc a x.1 ∧ okc b x.2.1 ∧ okc c x.2.2 ∧ used a x.1 + used b x.2.1 + used c x.2.2 ≤ L := by
  obtain ⟨u, v, w⟩ := x
  unfold cutsOf
  simp only [List.mem_flatMap, List.mem_map]
  constructor
  · rintro ⟨p, hp, q, hq, s, hs, e⟩
    cases e
    obtain ⟨p1, p2, p3⟩ := (mem_ops ha).mp hp
    obtain ⟨q1, q2, q3⟩ := (mem_ops hb).mp hq
    obtain ⟨s1, s2, s3⟩ := (mem_ops hc).mp hs
    refine ⟨p1, q1, s1, ?_⟩
    omega
  · rintro ⟨h1, h2, h3, h4⟩
    refine ⟨(u, L - used a u), (mem_ops ha).mpr ⟨h1, ?_, rfl⟩, (v, L - used a u - used b v), (mem_ops hb).mpr ⟨h2, ?_, rfl⟩, (w, L - used a u - used b v - used c w), (mem_ops hc).mpr ⟨h3, ?_, rfl⟩, rfl⟩ <;> (try dsimp only) <;> omega
theorem nd_flat {s t k : Type} {l : List s} {f : s → List t} (key : t → k) (ks : s → k) (n : (l.map ks).Nodup) (each : ∀ x ∈ l, (f x).Nodup) (own : ∀ x ∈ l, ∀ y ∈ f x, key y = ks x) : (l.flatMap f).Nodup := by
  induction l with
  | nil => exact .nil
  | cons x l ih =>
    obtain ⟨n1, n2⟩ := List.nodup_cons.mp n
    rw [List.flatMap_cons]
    refine List.nodup_append.mpr ⟨each x List.mem_cons_self, ih n2 (fun y hy => each y (List.mem_cons_of_mem _ hy)) fun y hy => own y (List.mem_cons_of_mem _ hy), fun u hu v hv e => ?_⟩
    obtain ⟨y, hy, hv⟩ := List.mem_flatMap.mp hv
    refine n1 ?_
    rw [← own x List.mem_cons_self u hu, e, own y (List.mem_cons_of_mem _ hy) v hv]
    exact List.mem_map_of_mem hy
theorem nd_cuts {L : Nat} {a b c : Option Nat} : (cutsOf L a b c).Nodup := by
  refine nd_flat (fun x : R3 => x.1) (·.1) nd_ops (fun p _ => nd_flat (fun x : R3 => x.2.1) (·.1) nd_ops (fun q _ => ?_) fun q _ y hy => ?_) fun p _ y hy => ?_
  · have := nd_ops (l := c) (r := q.2)
    rw [List.Nodup, List.pairwise_map] at this ⊢
    exact this.imp fun h e => h (Prod.mk.inj (Prod.mk.inj e).2).2
  · obtain ⟨s, _, rfl⟩ := List.mem_map.mp hy; rfl
  · obtain ⟨q, _, hy⟩ := List.mem_flatMap.mp hy
    obtain ⟨s, _, rfl⟩ := List.mem_map.mp hy; rfl
/-- as the laws list them -/
def fitB (L : Nat) (a b c : Option Nat) (x : R3) : Bool := (decide (a = none → x.1 = 0) && (decide (b = none → x.2.1 = 0) && decide (c = none → x.2.2 = 0))) && decide (used a x.1 + used b x.2.1 + used c x.2.2 ≤ L)
theorem fitB_iff {L : Nat} {a b c : Option Nat} {x : R3} : fitB L a b c x = true ↔ okc a x.1 ∧ okc b x.2.1 ∧ okc c x.2.2 ∧ used a x.1 + used b x.2.1 + used c x.2.2 ≤ L := by
  unfold fitB okc
  simp only [Bool.and_eq_true, decide_eq_true_eq, and_assoc]
def lcuts (L : Nat) (a b c : Option Nat) : List R3 :=
  (List.range 7).flatMap fun x => (List.range (7 - x)).flatMap fun y => ((List.range (7 - x - y)).filter fun z => fitB L a b c (x, y, z)).map fun z => (x, y, z)
theorem mem_lcuts {L : Nat} {a b c : Option Nat} {x : R3} : x ∈ lcuts L a b c ↔ x.1 + x.2.1 + x.2.2 ≤ 6 ∧ fitB L a b c x = true := by
  obtain ⟨u, v, w⟩ := x
  unfold lcuts
  simp only [List.mem_flatMap, List.mem_map, List.mem_filter, List.mem_range]
  constructor
  · rintro ⟨p, hp, q, hq, s, ⟨hs, f⟩, e⟩
    cases e
    exact ⟨by omega, f⟩
  · rintro ⟨h1, f⟩
    exact ⟨u, by omega, v, by omega, w, ⟨by omega, f⟩, rfl⟩
theorem nd_lcuts {L : Nat} {a b c : Option Nat} : (lcuts L a b c).Nodup := by
  have idr : ∀ n, ((List.range n).map fun x => x).Nodup := fun n => by rw [List.map_id']; exact List.nodup_range
  refine nd_flat (fun x : R3 => x.1) (fun x => x) (idr _) (fun p _ => nd_flat (fun x : R3 => x.2.1) (fun x => x) (idr _) (fun q _ => ?_) fun q _ y hy => ?_) fun p _ y hy => ?_
  · exact List.Pairwise.map _ (fun u v (h : u ≠ v) e => h (Prod.mk.inj (Prod.mk.inj e).2).2) (List.Pairwise.filter _ List.nodup_range)
  · obtain ⟨s, _, rfl⟩ := List.mem_map.mp hy; rfl
  · obtain ⟨q, _, hy⟩ := List.mem_flatMap.mp hy
    obtain ⟨s, _, rfl⟩ := List.mem_map.mp hy; rfl
theorem okc_used {a : Option Nat} {n : Nat} (h : pos4 a) (o : okc a n) : 4 * n ≤ used a n := by
  cases a with
  | none => rw [o rfl]; exact Nat.zero_le _
  | some v =>
    show 4 * n ≤ n * v
    rw [Nat.mul_comm]
    exact Nat.mul_le_mul_left n (h v rfl)
theorem cuts_small {L : Nat} {a b c : Option Nat} {x : R3} (ha : pos4 a) (hb : pos4 b) (hc : pos4 c) (hL : L ≤ 24) (h : x ∈ cutsOf L a b c) : x.1 + x.2.1 + x.2.2 ≤ 6 := by
  obtain ⟨h1, h2, h3, h4⟩ := (mem_cuts ha hb hc).mp h
  have := okc_used ha h1
  have := okc_used hb h2
  have := okc_used hc h3
  omega
theorem cuts_perm {L : Nat} {a b c : Option Nat} (ha : pos4 a) (hb : pos4 b) (hc : pos4 c) (hL : L ≤ 24) : (cutsOf L a b c).Perm (lcuts L a b c) :=
  perm_of nd_cuts nd_lcuts fun x => by
    rw [mem_lcuts, fitB_iff, ← mem_cuts ha hb hc]
    exact ⟨fun h => ⟨cuts_small ha hb hc hL h, h⟩, fun h => h.2⟩
def box6 : List R3 := (List.range 7).flatMap fun x => (List.range 7).flatMap fun y => (List.range 7).map fun z => (x, y, z)
theorem cuts_len {L : Nat} {a b c : Option Nat} (ha : pos4 a) (hb : pos4 b) (hc : pos4 c) (hL : L ≤ 24) : (cutsOf L a b c).length ≤ 343 := by
  refine Nat.le_trans (MT.nd_sub nd_cuts (D := box6) fun x hx => ?_) (by decide +kernel)
  have := cuts_small ha hb hc hL hx
  obtain ⟨u, v, w⟩ := x
  dsimp only at this
  unfold box6
  simp only [List.mem_flatMap, List.mem_map, List.mem_range]
  exact ⟨u, by omega, v, by omega, w, by omega, rfl⟩
/-! ### sums -/
def ins3 (acc : List R3) (x : R3) : List R3 := if x ∈ acc then acc else acc ++ [x]
def sums (rows cuts : List R3) : List R3 := (rows.flatMap fun r => cuts.map (ad3 r)).foldl ins3 []
theorem mem_ins3 {acc : List R3} {x y : R3} : y ∈ ins3 acc x ↔ y ∈ acc ∨ y = x := by
  unfold ins3
  split
  · rename_i h
    exact ⟨.inl, fun z => z.elim id fun e => e ▸ h⟩
  · rw [List.mem_append, List.mem_singleton]
theorem mem_fold {y : R3} : ∀ (xs acc : List R3), y ∈ xs.foldl ins3 acc ↔ y ∈ acc ∨ y ∈ xs
  | [], acc => ⟨.inl, fun z => z.elim id fun z => nomatch z⟩
  | x :: xs, acc => by
    rw [List.foldl_cons, mem_fold xs, mem_ins3, List.mem_cons, or_assoc]
theorem mem_sums {rows cuts : List R3} {y : R3} : y ∈ sums rows cuts ↔ ∃ r ∈ rows, ∃ c ∈ cuts, y = ad3 r c := by
  unfold sums
  rw [mem_fold, List.mem_flatMap]
  constructor
  · rintro (h | ⟨r, hr, h⟩)
    · exact nomatch h
    · obtain ⟨c, hc, e⟩ := List.mem_map.mp h
      exact ⟨r, hr, c, hc, e.symm⟩
  · rintro ⟨r, hr, c, hc, e⟩
    exact .inr ⟨r, hr, List.mem_map.mpr ⟨c, hc, e.symm⟩⟩
theorem nd_fold : ∀ (xs acc : List R3), acc.Nodup → (xs.foldl ins3 acc).Nodup
  | [], _, h => h
  | x :: xs, acc, h => by
    rw [List.foldl_cons]
    refine nd_fold xs _ ?_
    unfold ins3
    split
    · exact h
    · rename_i c
      exact List.nodup_append.mpr ⟨h, List.nodup_cons.mpr ⟨nofun, .nil⟩, fun u hu v hv e => c (by rw [← List.mem_singleton.mp hv, ← e]; exact hu)⟩
theorem nd_sums {rows cuts : List R3} : (sums rows cuts).Nodup := nd_fold _ _ .nil
/-! ### papers -/
def pr3 (m r : R3) : Nat := min (min (r.1 / m.1) (r.2.1 / m.2.1)) (r.2.2 / m.2.2)
abbrev Zo := Bool × Nat
abbrev Pt3 := Option Nat × Option Nat × Nat
def lenP (z : Zo) (p : Pt3) : Option Nat := if z.1 = true then p.2.1 else p.1
structure Tb where
  a : Pt3
  b : Pt3
  c : Pt3
def Tb.m (t : Tb) : R3 := (t.a.2.2, t.b.2.2, t.c.2.2)
def zcuts (t : Tb) (z : Zo) : List R3 := cutsOf z.2 (lenP z t.a) (lenP z t.b) (lenP z t.c)
def gcuts (t : Tb) (z : Zo) : List R3 := grt (zcuts t z)
/-- the rows behind each zone -/
def fronts (t : Tb) : List R3 → List Zo → List (List R3)
  | _, [] => []
  | ah, z :: zs => grt (sums ah (gcuts t z)) :: fronts t (grt (sums ah (gcuts t z))) zs
def lastF (ah : List R3) (fr : List (List R3)) : List R3 := (fr.getLast?).getD ah
end MR

/-! # G160: the program's mostchecks: cuts of a zone, the greatest rows, what rows and cuts come to -/
namespace G
open PySem PySem.Spec PyProof.Rows L2 MR
noncomputable section
def f_part_length : FS := (sSeq (sAsg (nTup 3 (nCons (nSet 2) (nCons (nSet 3) (nCons (nSet 4) nNil)))) (eName 0))
  (sSeq (sIf (eB (eBin gEq (eName 1) (eC (.str "across")))) (sRet (eName 3)) sSkip)
  (sRet (eName 2))))
def c_part_length : List D → Hs → R D := fnBody 5 f_part_length
def f_zone_cuts : FS := (sSeq (sAsg (nTup 2 (nCons (nSet 2) (nCons (nSet 3) nNil))) (eName 0))
  (sSeq (sSet 4 (eV (aCons (eTup (aCons (eTup aNil) (aCons (eName 3) aNil))) aNil)))
  (sSeq (sFor (iAny (eName 1)) (nSet 5)
  (sSeq (sSet 6 (eFn c_part_length [0, 1] [] (aCons (eName 5) (aCons (eName 2) aNil))))
  (sSeq (sSet 7 (eM aNil))
  (sSeq (sFor (iAny (eName 4)) (nTup 2 (nCons (nSet 8) (nCons (nSet 9) nNil)))
  (sIf (eB (eBin gIs (eName 6) (eC .non))) (sDrop (eMt isL mAppend (eName 7) (aCons (eTup (aCons (eBin gAdd (eName 8) (eTup (aCons (eC (.int 0)) aNil))) (aCons (eName 9) aNil))) aNil))) (sDrop (eMt isL mExtend (eName 7) (aCons (eV (lComp (iR1 (aCons (eBin gAdd (eC (.int 1)) (eBin gDiv (eName 9) (eName 6))) aNil)) (nSet 10) tYesF (eTup (aCons (eBin gAdd (eName 8) (eTup (aCons (eName 10) aNil))) (aCons (eBin gSub (eName 9) (eBin gMul (eName 10) (eName 6))) aNil))) [10])) aNil)))))
  (sSet 4 (eName 7))))))
  (sRet (eV (lComp (iAny (eName 4)) (nTup 2 (nCons (nSet 8) (nCons (nSet 9) nNil))) tYesF (eName 8) [8, 9]))))))
def c_zone_cuts : List D → Hs → R D := gcF (fnBody 11 f_zone_cuts)
def f_together : FS := (sRet (eCall gTuple (aCons (eV (lComp (iOf zpS (aCons (eName 0) (aCons (eName 1) aNil))) (nTup 2 (nCons (nSet 2) (nCons (nSet 3) nNil))) tYesF (eBin gAdd (eName 2) (eName 3)) [2, 3])) aNil)))
def c_together : List D → Hs → R D := fnBody 4 f_together
def f_is_beneath : FS := (sRet (eCall gAll (aCons (eV (lComp (iOf zpS (aCons (eName 0) (aCons (eName 1) aNil))) (nTup 2 (nCons (nSet 2) (nCons (nSet 3) nNil))) tYesF (eBin gLe (eName 2) (eName 3)) [2, 3])) aNil)))
def c_is_beneath : List D → Hs → R D := fnBody 4 f_is_beneath
def f_is_covered : FS := (sSeq (sFor (iAny (eName 1)) (nSet 2)
  (sIf (eT (eFn c_is_beneath [0, 1] [] (aCons (eName 0) (aCons (eName 2) aNil)))) (sRet (eC (.bl true))) sSkip))
  (sRet (eC (.bl false))))
def c_is_covered : List D → Hs → R D := fnBody 3 f_is_covered
def f_greatest : FS := (sSeq (sSet 1 (eM aNil))
  (sSeq (sFor (iAny (eUn gRev (eV (lSetSort (eName 0))))) (nSet 2)
  (sIf (tNotF (eT (eFn c_is_covered [0, 1] [] (aCons (eName 2) (aCons (eName 1) aNil))))) (sDrop (eMt isL mAppend (eName 1) (aCons (eName 2) aNil))) sSkip))
  (sRet (eName 1))))
def c_greatest : List D → Hs → R D := gcF (fnBody 3 f_greatest)
def f_pairs_for : FS := (sRet (eCall gMinL (aCons (eV (lComp (iOf zpS (aCons (eName 1) (aCons (eName 0) aNil))) (nTup 2 (nCons (nSet 2) (nCons (nSet 3) nNil))) tYesF (eBin gDiv (eName 2) (eBin gIx (eName 3) (eC (.int 2)))) [2, 3])) aNil)))
def c_pairs_for : List D → Hs → R D := fnBody 4 f_pairs_for
end
end G
local macro_rules | `(tactic| fail "tl") => `(tactic| repeat' (first | assumption | omega | exact Nat.le_of_ble_eq_true rfl | (with_reducible refine len_half ?_ ?_) | (with_reducible refine lit_half ?_) | (with_reducible refine cut_half ?_) | (with_reducible refine T_half ?_) | (simp only [List.length_append, List.length_cons, List.length_nil]; omega)))
local macro_rules | `(tactic| fail "nO") => `(tactic| first
    | ((with_reducible apply wp_ix_tup); (case q => rfl))
    | ((with_reducible apply wp_ix_lst); (case q => rfl))
    | ((with_reducible apply wp_ix_ref); (case p => assumption); (case q => rfl))
    | ((with_reducible apply wp_some (mod_int ?q)); (case q => fail "q"))
    | ((with_reducible apply wp_some (div_int ?p ?q)); (case p => fail "q"); (case q => fail "q"))
    | ((with_reducible apply wp_some (mul_int ?q)); (case q => fail "q"))
    | ((with_reducible apply wp_some (add_tup2 ?a ?b)); (case a => fail "ll"); (case b => fail "ll"))
    | ((with_reducible apply wp_some (add_lst2 ?a ?b)); (case a => fail "ll"); (case b => fail "ll"))
    | ((with_reducible apply wp_some (add_str ?q ?r)); (case q => fail "tl"); (case r => fail "tl"))
    | ((with_reducible apply wp_some (sl_str ?q)); (case q => fail "tl"))
    | ((with_reducible apply wp_some (len_str ?q)); (case q => fail "tl"))
    | ((with_reducible apply wp_some (str_int ?q)); (case q => first | assumption | omega))
    | ((with_reducible apply wp_some (isi_pln ?q)); (case q => fail "p"))
    | ((with_reducible apply wp_some (rev_str ?q)); (case q => fail "tl"))
    | ((with_reducible apply wp_some (add_rl ?q ?a ?b)); (case q => fail "hg"); (case a => fail "ll"); (case b => fail "ll"))
    | ((with_reducible apply wp_some (add_lr ?q ?a ?b)); (case q => fail "hg"); (case a => fail "ll"); (case b => fail "ll"))
    | ((with_reducible apply wp_some (add_rr ?q ?r ?a ?b)); (case q => fail "hg"); (case r => fail "hg"); (case a => fail "ll"); (case b => fail "ll"))
    | ((with_reducible apply wp_some (lst_ref ?q)); (case q => fail "hg"))
    | ((with_reducible apply wp_some (len_ref ?q)); (case q => fail "hg"))
    | ((with_reducible apply wp_some (tup_ref ?q)); (case q => fail "hg"))
    | ((with_reducible apply wp_some (tru_str ?q)); (case q => fail "tl"))
    | ((with_reducible apply wp_some (mulS_str ?a ?b ?d)); (case a => fail "tl"); (case b => fail "tl"); (case d => fail "tl"))
    | ((with_reducible apply wp_some (mulS_tupA ?a ?b ?c ?d)); (case a => fail "tl"); (case b => fail "tl"); (case c => first | rfl | assumption); (case d => fail "tl")))
local macro_rules | `(tactic| fail "nW") => `(tactic| first
    | ((with_reducible apply wp_name); (case q => rfl))
    | with_reducible refine ws_set ?_
    | with_reducible refine ws_setC ?_
    | with_reducible refine ws_setCM ?_
    | with_reducible refine wp_body ?_
    | fail "P1"
    | fail "d1")
local macro_rules | `(tactic| fail "n2") => `(tactic| first
  | ((with_reducible show Wp (R.ofO _ _) _ _); fail "nO")
  | ((with_reducible show Wp (R.ofP _) _ _); first
    | ((with_reducible apply wp_someP (app_ref2 ?e ?q)); (case e => fail "hg"); (case q => fail "ll"))
    | ((with_reducible apply wp_someP (upper_str ?q)); (case q => fail "tl")))
  | ((with_reducible show Ws _ _); fail "nW")
  | ((with_reducible refine' And.intro (isL_ref ?e) ?_); (case e => fail "hg"))
  | ((with_reducible refine And.intro (And.intro ?a ?b) ?_); (case a => fail "ll"); (case b => fail "ll"))
  | with_reducible (first | refine Exists.intro _ (And.intro rfl ?_) | refine Exists.intro _ (Exists.intro _ (And.intro rfl ?_)) | refine And.intro rfl ?_)
  | ((with_reducible show Wp _ _ _); fail "nW")
  | ((fail_if_success (with_reducible show Ws _ _)); (fail_if_success (with_reducible show Wp _ _ _)); show Ws _ _))
local macro_rules | `(tactic| fail "n1") => `(tactic| first
  | (set_option synthInstance.maxSize 100000 in set_option synthInstance.maxHeartbeats 0 in with_reducible refine Run.go ?_)
  | fail "n2")
namespace G
open PySem PySem.Spec PyProof.Rows L2 MR
section
variable {X : XQ} {Q : D → Hs → Prop} {h : Hs} {x y : R3}
def oN : Option Nat → D
  | none => .non
  | some n => .int (n : Int)
def p3D (p : Pt3) : D := .tup [oN p.1, oN p.2.1, .int (p.2.2 : Int)]
def tbD (t : Tb) : D := .tup [p3D t.a, p3D t.b, p3D t.c]
def grS (x : Bool) : Str := if x then Str.ofString "across" else Str.ofString "along"
def znD (z : Zo) : D := .tup [.str (grS z.1), .int (z.2 : Int)]
theorem part_length_eq {p : Pt3} {z : Zo} : c_part_length [p3D p, .str (grS z.1)] h = .ok (oN (lenP z p)) h := by
  refine eq_any fun Q X c => ?_
  unfold c_part_length f_part_length
  refine wp_bodyE [some (p3D p), some (.str (grS z.1)), none, none, none] rfl ?_
  unfold p3D
  obtain ⟨b, n⟩ := z
  cases b
  · fail "nb"
    all_goals first
      | exact c
      | (exact absurd ‹_› (by decide +kernel))
  · fail "nb"
    all_goals first
      | exact c
      | (exact absurd ‹_› (by decide +kernel))
def zip3 (x y : R3) : List (Nat × Nat) := [(x.1, y.1), (x.2.1, y.2.1), (x.2.2, y.2.2)]
def zipD (p : Nat × Nat) : D := .tup [.int (p.1 : Int), .int (p.2 : Int)]
theorem together_eq : c_together [r3D x, r3D y] h = .ok (r3D (ad3 x y)) h := by
  refine eq_any fun Q X c => ?_
  unfold c_together f_together
  refine wp_bodyE [some (r3D x), some (r3D y), none, none] rfl ?_
  fail "n"
  refine wp_cma zipD (fun p => .int ((p.1 : Int) + (p.2 : Int))) ?_
  refine wp_iOf ?_
  fail "n"
  refine ⟨zip3 x y, rfl, Nat.le_of_ble_eq_true rfl, fun p hp => ⟨_, rfl, ?_⟩, ?_⟩
  · fail "n"
    first | exact rfl | exact ⟨rfl, rfl⟩
  · fail "n"
    exact c
theorem gAll_map {α : Type} (f : α → Bool) (l : List α) : gAll h [.lst (l.map fun p => .bl (f p))] = some (.bl (l.all f)) := by
  have e : (l.map fun p => D.bl (f p)) = (l.map f).map D.bl := by rw [List.map_map]; rfl
  rw [e, gAll_bls, List.all_map]; rfl
theorem le3_all : ((zip3 x y).all fun p => decide ((p.1 : Int) ≤ (p.2 : Int))) = le3 x y := by
  unfold zip3 le3
  simp only [List.all_cons, List.all_nil, Bool.and_true, Int.ofNat_le]
theorem beneath_eq : c_is_beneath [r3D x, r3D y] h = .ok (.bl (le3 x y)) h := by
  refine eq_any fun Q X c => ?_
  unfold c_is_beneath f_is_beneath
  refine wp_bodyE [some (r3D x), some (r3D y), none, none] rfl ?_
  fail "n"
  refine wp_cma zipD (fun p => .bl (decide ((p.1 : Int) ≤ (p.2 : Int)))) ?_
  refine wp_iOf ?_
  fail "n"
  refine ⟨zip3 x y, rfl, Nat.le_of_ble_eq_true rfl, fun p hp => ⟨_, rfl, ?_⟩, ?_⟩
  · fail "n"
    first | exact rfl | exact ⟨rfl, rfl⟩
  · fail "n"
    refine wp_some (gAll_map (fun p : Nat × Nat => decide ((p.1 : Int) ≤ (p.2 : Int))) (zip3 x y)) ?_
    rw [le3_all]
    exact c
/-- what is walked, one by one, whatever comes behind in the heap -/
def Itr (h : Hs) (d : D) (ds : List D) : Prop := ∃ nx, ∀ t, itOf (h ++ t) d = some nx ∧ ∀ i, nx (h ++ t) i = some ds[i]?
theorem itr_lst {ds : List D} : Itr h (.lst ds) ds := ⟨_, fun _ => ⟨rfl, fun _ => rfl⟩⟩
theorem itr_ref {n : Nat} {ds : List D} (e : h[n]? = some (.lst ds)) : Itr h (.ref n) ds := ⟨nxR n, fun t => by
  have e2 : (h ++ t)[n]? = some (.lst ds) := by rw [List.getElem?_append_left (List.getElem?_eq_some_iff.mp e).1]; exact e
  exact ⟨it_ref e2, fun i => by unfold nxR; rw [e2]⟩⟩
theorem Itr.app {d : D} {ds : List D} {t : Hs} (I : Itr h d ds) : Itr (h ++ t) d ds := by
  obtain ⟨nx, e⟩ := I
  exact ⟨nx, fun u => by rw [List.append_assoc]; exact e _⟩
theorem Itr.here {d : D} {ds : List D} (I : Itr h d ds) : ∃ nx, itOf h d = some nx ∧ ∀ i, nx h i = some ds[i]? := by
  obtain ⟨nx, e⟩ := I
  have := e []
  rw [List.append_nil] at this
  exact ⟨nx, this⟩
theorem covered_eq {d : D} {rs : List R3} (I : Itr h d (rs.map r3D)) (l : rs.length ≤ 100000) : c_is_covered [r3D x, d] h = .ok (.bl (cov rs x)) h := by
  refine eq_any fun Q X c => ?_
  unfold c_is_covered f_is_covered
  refine wp_bodyE [some (r3D x), some d, none] rfl ?_
  fail "n"
  obtain ⟨nx, e1, e2⟩ := I.here
  refine ws_for (wp_any ?_)
  fail "n"
  refine ⟨nx, e1, rs.length, fun i e g => g = h ∧ (∀ y ∈ rs.take i, le3 x y = false) ∧ ∃ x2, e = [some (r3D x), some d, x2], l, ⟨rfl, fun y hy => (by rw [List.take_zero] at hy; exact nomatch hy), _, rfl⟩, ?_, ?_⟩
  · rintro i _ g hi ⟨rfl, no, x2, rfl⟩
    refine ⟨r3D rs[i], _, by rw [e2, List.getElem?_map, List.getElem?_eq_getElem hi]; rfl, rfl, ?_⟩
    fail "n"
    refine wp_of beneath_eq ?_
    fail "n"
    refine ⟨fun q => ?_, fun q => ?_⟩
    · fail "n"
      have : cov rs x = true := cov_iff.mpr ⟨rs[i], List.getElem_mem hi, q⟩
      rw [← this]
      exact c
    · fail "n"
      refine ⟨fun y hy => ?_, _, rfl⟩
      rw [List.take_succ_eq_append_getElem hi] at hy
      exact (List.mem_append.mp hy).elim (no y) fun z => by rw [List.mem_singleton.mp z]; exact q
  · rintro _ g ⟨rfl, no, x2, rfl⟩
    refine ⟨by rw [e2, List.getElem?_map, List.getElem?_eq_none (Nat.le_refl _)]; rfl, ?_⟩
    fail "n"
    have : cov rs x = false := Bool.eq_false_iff.mpr fun z => by
      obtain ⟨y, hy, q⟩ := cov_iff.mp z
      rw [no y (by rw [List.take_length]; exact hy)] at q
      cases q
    rw [← this]
    exact c
theorem keyTs_rows : ∀ rows : List R3, keyTs (rows.map r3D) = some (rows.map key3)
  | [] => rfl
  | r :: rows => by
    rw [List.map_cons, List.map_cons]
    show (match keyTs (rows.map r3D) with | some kss => some (key3 r :: kss) | none => none) = _
    rw [keyTs_rows rows]
theorem greatest_eq {rows : List R3} (nd : rows.Nodup) (few : rows.length < 4000) : c_greatest [.lst (rows.map r3D)] h = .ok (.lst ((grt rows).map r3D)) h := by
  refine eq_any fun Q X c => ?_
  unfold c_greatest f_greatest
  refine wp_gcF (wp_mono (Q := fun d h1 => d = .ref h.length ∧ h1 = h ++ [.lst ((grt rows).map r3D)]) (X := fun _ _ _ => False) ?_ (fun d h1 z => ?_) fun _ _ _ x => x.elim)
  · refine wp_bodyE [some (.lst (rows.map r3D)), none, none] rfl ?_
    fail "n"
    refine ws_for (wp_any ?_)
    fail "n"
    refine wp_setSort ?_
    fail "n"
    refine wp_some (setSort_keys rfl (keyTs_rows rows) (ok3 (by omega)) (by rw [List.length_map]; exact few)) ?_
    rw [uq_self (nd_keys nd), srt_D]
    fail "n"
    have lr : (srt rows).reverse.length = rows.length := by rw [List.length_reverse, (srt_perm rows).length_eq]
    refine ⟨(srt rows).reverse.length, fun i e g => ∃ acc x2, gre acc ((srt rows).reverse.drop i) = grt rows ∧ acc.length ≤ i ∧ g = h ++ [.lst (acc.map r3D)] ∧ e = [some (.lst (rows.map r3D)), some (.ref h.length), x2], by omega, ⟨[], _, rfl, Nat.le_refl _, rfl, rfl⟩, ?_, ?_⟩
    · rintro i _ g hi ⟨acc, x2, ea, la, rfl, rfl⟩
      refine ⟨r3D (srt rows).reverse[i], _, by unfold nxL; rw [← List.map_reverse, List.getElem?_map, List.getElem?_eq_getElem hi]; rfl, rfl, ?_⟩
      rw [List.drop_eq_getElem_cons hi] at ea
      have ea : gre (if cov acc (srt rows).reverse[i] = true then acc else acc ++ [(srt rows).reverse[i]]) ((srt rows).reverse.drop (i + 1)) = grt rows := ea
      fail "n"
      refine wp_of (covered_eq (itr_ref get_new) (by omega)) ?_
      fail "n"
      refine ⟨fun q => ?_, fun q => ?_⟩
      · have q : cov acc (srt rows).reverse[i] = false := by simpa using q
        rw [q] at ea
        fail "n"
        refine ⟨acc ++ [(srt rows).reverse[i]], _, ea, by rw [List.length_append]; exact Nat.succ_le_succ la, ?_, rfl⟩
        rw [set_app, List.map_append]; rfl
      · have q : cov acc (srt rows).reverse[i] = true := by simpa using q
        rw [q] at ea
        fail "n"
        exact ⟨acc, _, ea, by omega, rfl, rfl⟩
    · rintro _ g ⟨acc, x2, ea, la, rfl, rfl⟩
      refine ⟨by unfold nxL; rw [← List.map_reverse, List.getElem?_map, List.getElem?_eq_none (Nat.le_refl _)]; rfl, ?_⟩
      rw [List.drop_length] at ea
      have ea : acc = grt rows := ea
      fail "n"
      rw [ea]
  · obtain ⟨rfl, rfl⟩ := z
    refine ⟨_, dH_lst get_new (Nat.le_refl _) (vals_all fun x hx => ?_), cls_app, ?_⟩
    · obtain ⟨y, _, rfl⟩ := List.mem_map.mp hx
      rfl
    · rw [take_app]
      exact c
/-! ### sums, pairs -/
/-- so many of each part that a pair wants -/
def TbM (t : Tb) : Prop := (0 < t.a.2.2 ∧ t.a.2.2 < 1000) ∧ (0 < t.b.2.2 ∧ t.b.2.2 < 1000) ∧ 0 < t.c.2.2 ∧ t.c.2.2 < 1000
theorem pairs_for_eq {t : Tb} (M : TbM t) : c_pairs_for [tbD t, r3D x] h = .ok (.int (pr3 t.m x : Int)) h := by
  refine eq_any fun Q X c => ?_
  unfold c_pairs_for f_pairs_for
  refine wp_bodyE [some (tbD t), some (r3D x), none, none] rfl ?_
  fail "n"
  refine wp_cma (fun p : Nat × Pt3 => .tup [.int (p.1 : Int), p3D p.2]) (fun p => .int ((p.1 : Int) / (p.2.2.2 : Int))) ?_
  refine wp_iOf ?_
  fail "n"
  refine ⟨[(x.1, t.a), (x.2.1, t.b), (x.2.2, t.c)], rfl, Nat.le_of_ble_eq_true rfl, fun p hp => ⟨_, rfl, ?_⟩, ?_⟩
  · have hp : 0 < p.2.2.2 ∧ p.2.2.2 < 1000 := by
      simp only [List.mem_cons, List.not_mem_nil, or_false] at hp
      rcases hp with rfl | rfl | rfl
      · exact M.1
      · exact M.2.1
      · exact M.2.2
    unfold p3D
    fail "s"
    refine wp_some (show gIx h (.tup [oN p.2.1, oN p.2.2.1, .int (p.2.2.2 : Int)]) (.int 2) = some (.int (p.2.2.2 : Int)) from rfl) ?_
    refine wp_some (div_int (by omega) (by omega)) ?_
    exact ⟨rfl, rfl⟩
  · fail "n"
    refine wp_some (min_l (n := (x.1 : Int) / (t.a.2.2 : Int)) (ns := [(x.2.1 : Int) / (t.b.2.2 : Int), (x.2.2 : Int) / (t.c.2.2 : Int)])) ?_
    have e : minI [(x.1 : Int) / (t.a.2.2 : Int), (x.2.1 : Int) / (t.b.2.2 : Int), (x.2.2 : Int) / (t.c.2.2 : Int)] = (pr3 t.m x : Int) := by
      unfold pr3 Tb.m
      show (let m := (let m := (x.2.2 : Int) / (t.c.2.2 : Int); if m < (x.2.1 : Int) / (t.b.2.2 : Int) then m else (x.2.1 : Int) / (t.b.2.2 : Int)); if m < (x.1 : Int) / (t.a.2.2 : Int) then m else (x.1 : Int) / (t.a.2.2 : Int)) = _
      dsimp only
      rw [← Int.natCast_ediv, ← Int.natCast_ediv, ← Int.natCast_ediv]
      generalize x.1 / t.a.2.2 = u
      generalize x.2.1 / t.b.2.2 = v
      generalize x.2.2 / t.c.2.2 = w
      split <;> split <;> omega
    rw [e]
    exact c
/-! ### cuts of a zone -/
def stp3 (fl : List (List Nat × Nat)) (l : Option Nat) : List (List Nat × Nat) := fl.flatMap fun p => (ops l p.2).map fun q => (p.1 ++ [q.1], q.2)
def nsD (ns : List Nat) : D := .tup (ns.map fun n : Nat => .int (n : Int))
def flD (p : List Nat × Nat) : D := .tup [nsD p.1, .int (p.2 : Int)]
theorem st3 {L : Nat} {a b c : Option Nat} : (stp3 (stp3 (stp3 [([], L)] a) b) c).map (fun p => nsD p.1) = (cutsOf L a b c).map r3D := by
  unfold stp3 cutsOf
  simp [List.flatMap_assoc, List.map_flatMap, List.flatMap_map, List.map_map, Function.comp_def, nsD, r3D]
theorem ops_le {l : Option Nat} {r : Nat} (hp : pos4 l) : ∀ p ∈ ops l r, p.2 ≤ r := fun p hp2 => by
  have := (mem_ops hp).mp hp2
  omega
theorem ops_len {l : Option Nat} {r : Nat} (hp : pos4 l) (hr : r ≤ 24) : (ops l r).length ≤ 7 := by
  cases l with
  | none => exact Nat.le_of_ble_eq_true rfl
  | some v =>
    have v4 := hp v rfl
    show ((List.range (1 + r / v)).map _).length ≤ 7
    rw [List.length_map, List.length_range]
    have : r / v ≤ 6 := Nat.le_of_lt_succ ((Nat.div_lt_iff_lt_mul (by omega)).mpr (by omega))
    omega
theorem stc_in {fl : List (List Nat × Nat)} {l : Option Nat} (hp : pos4 l) (h : ∀ p ∈ fl, p.2 ≤ 24) : ∀ p ∈ stp3 fl l, p.2 ≤ 24 := fun p hp2 => by
  obtain ⟨q, hq, hp2⟩ := List.mem_flatMap.mp hp2
  obtain ⟨s, hs, rfl⟩ := List.mem_map.mp hp2
  exact Nat.le_trans (ops_le hp s hs) (h q hq)
theorem stc_len {l : Option Nat} (hp : pos4 l) : ∀ {fl : List (List Nat × Nat)}, (∀ p ∈ fl, p.2 ≤ 24) → (stp3 fl l).length ≤ 7 * fl.length
  | [], _ => Nat.zero_le _
  | p :: fl, h => by
    have a := stc_len hp (fl := fl) fun q hq => h q (List.mem_cons_of_mem _ hq)
    have b := ops_len hp (h p List.mem_cons_self)
    unfold stp3 at a ⊢
    rw [List.flatMap_cons, List.length_append, List.length_map, List.length_cons]
    omega
theorem stc_ln {fl : List (List Nat × Nat)} {l : Option Nat} {n : Nat} (h : ∀ p ∈ fl, p.1.length ≤ n) : ∀ p ∈ stp3 fl l, p.1.length ≤ n + 1 := fun p hp => by
  obtain ⟨q, hq, hp⟩ := List.mem_flatMap.mp hp
  obtain ⟨s, hs, rfl⟩ := List.mem_map.mp hp
  rw [List.length_append]
  exact Nat.succ_le_succ (h q hq)
theorem add_ns {ns : List Nat} {m : Nat} (l : ns.length ≤ 100) : gAdd h (nsD ns) (.tup [.int (m : Int)]) = some (nsD (ns ++ [m])) := by
  unfold nsD
  rw [List.map_append]
  exact add_tup2 (by rw [List.length_map]; omega) (Nat.le_of_ble_eq_true rfl)
/-- a comprehension over what is walked one by one -/
theorem wp_cgI {α : Type} {e : Ev} {hs : Hs} {f : FI} {g : FG} {t : FT} {el : FE} {vs : List Nat} {Q : List D → Hs → Prop} (i : α → D) (p : α → Bool) (F : α → D) (h : Wp (f e hs) (fun nx h => ∃ xs : List α, (∀ j, nx h j = some (xs.map i)[j]?) ∧ xs.length ≤ 100000 ∧
    (∀ a ∈ xs, ∃ e', g (i a) (wipeE e vs) = some e' ∧ Wp (t e' h) (fun c h1 => h1 = h ∧ c = p a ∧ (c = true → Wp (el e' h) (fun y h' => y = F a ∧ h' = h) nX)) nX) ∧ Q ((xs.filter p).map F) h) X) : Wp (lComp f g t el vs e hs) Q X := by
  refine wp_comp (wp_mono h (fun nx h' q => ?_) fun _ _ _ x => x)
  obtain ⟨xs, hx, hl, hd, q⟩ := q
  refine ⟨xs.length, fun i acc h => h = h' ∧ acc = ((xs.take i).filter p).map F, hl, ⟨rfl, rfl⟩, fun i acc h hi ⟨e1, e2⟩ => ?_, fun acc h ⟨e1, e2⟩ => ?_⟩
  · subst e1 e2
    obtain ⟨e', h1, h2⟩ := hd xs[i] (List.getElem_mem hi)
    refine ⟨_, e', ?_, h1, wp_mono h2 (fun c h3 ⟨z1, z2, z3⟩ => ?_) fun _ _ _ x => x⟩
    · rw [hx, List.getElem?_map, List.getElem?_eq_getElem hi]; rfl
    subst z1
    have ht : xs.take (i + 1) = xs.take i ++ [xs[i]] := List.take_succ_eq_append_getElem hi
    have hl2 : (((xs.take i).filter p).map F).length ≤ i := by
      rw [List.length_map]
      exact Nat.le_trans (List.length_filter_le _ _) (by rw [List.length_take]; omega)
    refine ⟨fun hc => ⟨by rw [sizeLine_eq]; omega, wp_mono (z3 hc) (fun y h4 ⟨r, z4⟩ => ⟨z4, ?_⟩) fun _ _ _ x => x⟩, fun hc => ⟨rfl, ?_⟩⟩
    · rw [ht, List.filter_append, List.map_append, r]
      congr 1
      rw [List.filter_cons_of_pos (by rw [← z2]; exact hc)]; rfl
    · rw [ht, List.filter_append, List.filter_cons_of_neg (by rw [← z2, hc]; exact Bool.false_ne_true), List.filter_nil, List.append_nil]
  · subst e1 e2
    rw [List.take_length]
    exact ⟨by rw [hx, List.getElem?_eq_none (by rw [List.length_map]; exact Nat.le_refl _)], q⟩
theorem wp_cmI {α : Type} {e : Ev} {hs : Hs} {f : FI} {g : FG} {el : FE} {vs : List Nat} {Q : List D → Hs → Prop} (i : α → D) (F : α → D) (h : Wp (f e hs) (fun nx h => ∃ xs : List α, (∀ j, nx h j = some (xs.map i)[j]?) ∧ xs.length ≤ 100000 ∧
    (∀ a ∈ xs, ∃ e', g (i a) (wipeE e vs) = some e' ∧ Wp (el e' h) (fun y h' => y = F a ∧ h' = h) nX) ∧ Q (xs.map F) h) X) : Wp (lComp f g tYesF el vs e hs) Q X := by
  refine wp_cgI i (fun _ => true) F (wp_mono h (fun nx h' q => ?_) fun _ _ _ x => x)
  obtain ⟨xs, hx, hl, hd, q⟩ := q
  refine ⟨xs, hx, hl, fun a ha => ?_, by rw [List.filter_eq_self.mpr fun _ _ => rfl]; exact q⟩
  obtain ⟨e', h1, h2⟩ := hd a ha
  exact ⟨e', h1, wp_yes ⟨rfl, rfl, fun _ => h2⟩⟩
/-- what a zone and a table must be -/
structure Zok (t : Tb) (z : Zo) : Prop where
  a : pos4 (lenP z t.a)
  b : pos4 (lenP z t.b)
  c : pos4 (lenP z t.c)
  L : z.2 ≤ 24
  s : ∀ p, p = t.a ∨ p = t.b ∨ p = t.c → ∀ v, lenP z p = some v → v ≤ 1000
theorem zone_cuts_eq {z : Zo} {t : Tb} (Z : Zok t z) : c_zone_cuts [znD z, tbD t] h = .ok (.lst ((zcuts t z).map r3D)) h := by
  have hL := Z.L
  refine eq_any fun Q X c => ?_
  unfold c_zone_cuts f_zone_cuts
  refine wp_gcF (wp_mono (Q := fun d h1 => d = .lst ((zcuts t z).map r3D) ∧ ∃ tl, h1 = h ++ tl) (X := fun _ _ _ => False) ?_ (fun d h1 q => ?_) fun _ _ _ x => x.elim)
  · refine wp_bodyE [some (znD z), some (tbD t), none, none, none, none, none, none, none, none, none] rfl ?_
    unfold znD
    fail "n"
    refine ws_for (wp_any ?_)
    fail "n"
    refine ⟨3, fun i e g => ∃ f fl x5 x6 x7 x8 x9 x10, fl = ([lenP z t.a, lenP z t.b, lenP z t.c].take i).foldl stp3 [([], z.2)] ∧ (∀ p ∈ fl, p.2 ≤ 24) ∧ (∀ p ∈ fl, p.1.length ≤ i) ∧ fl.length ≤ 7 ^ i ∧ Itr g f (fl.map flD) ∧ (∃ tl, g = h ++ tl) ∧
      e = [some (znD z), some (tbD t), some (.str (grS z.1)), some (.int (z.2 : Int)), some f, x5, x6, x7, x8, x9, x10], by decide, ⟨_, [([], z.2)], _, _, _, _, _, _, rfl, fun p hp => (by rw [List.mem_singleton.mp hp]; exact hL), fun p hp => (by rw [List.mem_singleton.mp hp]; exact Nat.le_refl _), Nat.le_refl _, itr_lst, ⟨[], (List.append_nil h).symm⟩, rfl⟩, ?_, ?_⟩
    · rintro i _ g hi ⟨f, fl, x5, x6, x7, x8, x9, x10, efl, h24, hln, lfl, I, ⟨tl, rfl⟩, rfl⟩
      obtain ⟨p, ep, el, pp, psm⟩ : ∃ p, [p3D t.a, p3D t.b, p3D t.c][i]? = some (p3D p) ∧ ([lenP z t.a, lenP z t.b, lenP z t.c].take (i + 1)).foldl stp3 [([], z.2)] = stp3 fl (lenP z p) ∧ pos4 (lenP z p) ∧ ∀ v, lenP z p = some v → v ≤ 1000 := by
        rcases (show i = 0 ∨ i = 1 ∨ i = 2 by omega) with rfl | rfl | rfl
        · exact ⟨t.a, rfl, by rw [efl]; rfl, Z.a, Z.s t.a (by simp)⟩
        · exact ⟨t.b, rfl, by rw [efl]; rfl, Z.b, Z.s t.b (by simp)⟩
        · exact ⟨t.c, rfl, by rw [efl]; rfl, Z.c, Z.s t.c (by simp)⟩
      have l49 : fl.length ≤ 49 := Nat.le_trans lfl (Nat.pow_le_pow_right (n := 7) (by decide) (show i ≤ 2 by omega))
      refine ⟨p3D p, _, (by unfold nxL; exact congrArg some ep), rfl, ?_⟩
      fail "n"
      refine wp_of part_length_eq ?_
      fail "n"
      obtain ⟨nx, en⟩ := I
      refine ws_for (wp_any ?_)
      fail "n"
      refine ⟨nx, (en _).1, fl.length, fun j e g => ∃ x8 x9 x10, g = h ++ tl ++ [.lst ((stp3 (fl.take j) (lenP z p)).map flD)] ∧
        e = [some (znD z), some (tbD t), some (.str (grS z.1)), some (.int (z.2 : Int)), some f, some (p3D p), some (oN (lenP z p)), some (.ref (h ++ tl).length), x8, x9, x10], by omega, ⟨_, _, _, rfl, rfl⟩, ?_, ?_⟩
      · rintro j _ g hj ⟨x8, x9, x10, rfl, rfl⟩
        refine ⟨flD fl[j], _, by rw [(en _).2, List.getElem?_map, List.getElem?_eq_getElem hj]; rfl, rfl, ?_⟩
        have snoc : stp3 (fl.take (j + 1)) (lenP z p) = stp3 (fl.take j) (lenP z p) ++ (ops (lenP z p) fl[j].2).map fun q => (fl[j].1 ++ [q.1], q.2) := by
          unfold stp3
          rw [List.take_succ_eq_append_getElem hj, List.flatMap_append, List.flatMap_cons, List.flatMap_nil, List.append_nil]
        have la : (stp3 (fl.take j) (lenP z p)).length ≤ 343 := by
          have := stc_len pp (fl := fl.take j) fun q hq => h24 q (List.mem_of_mem_take hq)
          rw [List.length_take] at this
          omega
        have r24 := h24 fl[j] (List.getElem_mem hj)
        have ln2 := hln fl[j] (List.getElem_mem hj)
        cases el2 : lenP z p with
        | none =>
          rw [el2] at snoc la
          fail "n"
          refine wp_some (show gIs _ (oN none) .non = some (.bl true) from rfl) ?_
          fail "n"
          refine ⟨fun _ => ?_, fun z => (by cases z)⟩
          fail "n"
          refine wp_some (add_ns (m := 0) (by omega)) ?_
          fail "n"
          refine ⟨_, _, _, ?_, rfl⟩
          rw [set_app, snoc, List.map_append]; rfl
        | some v =>
          rw [el2] at snoc la
          have v4 : 4 ≤ v := pp v el2
          have vsm : v ≤ 1000 := psm v el2
          have dle : fl[j].2 / v ≤ 6 := Nat.le_of_lt_succ ((Nat.div_lt_iff_lt_mul (by omega)).mpr (by omega))
          have q0 : (0 : Int) ≤ ((fl[j].2 / v : Nat) : Int) := Int.natCast_nonneg _
          fail "n"
          refine wp_some (show gIs _ (oN (some v)) .non = some (.bl false) from rfl) ?_
          fail "n"
          refine ⟨fun z => (by cases z), fun _ => ?_⟩
          fail "n"
          refine wp_cmI (fun m : Nat => .int (m : Int)) (fun m => flD (fl[j].1 ++ [m], fl[j].2 - m * v)) ?_
          fail "n"
          refine wp_some (show gDiv _ (.int (fl[j].2 : Int)) (oN (some v)) = some (.int ((fl[j].2 / v : Nat) : Int)) from (div_int (by omega) (by omega)).trans (by rw [Int.natCast_ediv])) ?_
          refine wp_some add_i (wp_anil ?_)
          refine ⟨_, rfl, okR_in (by omega) (by omega), List.range (1 + fl[j].2 / v), fun k => ?_, by rw [List.length_range]; omega, fun m hm => ⟨_, rfl, ?_⟩, ?_⟩
          · rw [show ((1 : Int) + ((fl[j].2 / v : Nat) : Int)).toNat = 1 + fl[j].2 / v by omega, nxN_L]; rfl
          · have m7 := List.mem_range.mp hm
            have hm : m * v ≤ fl[j].2 := (Nat.le_div_iff_mul_le (by omega)).mp (by omega)
            have m6 : m ≤ 6 := by omega
            fail "n"
            refine wp_some (add_ns (by omega)) ?_
            fail "n"
            refine wp_some (show gMul _ (.int (m : Int)) (oN (some v)) = some (.int ((m * v : Nat) : Int)) from (mul_int (by rw [small_of (Int.natCast_nonneg m) (by omega)]; rfl)).trans (by rw [Int.natCast_mul])) ?_
            fail "n"
            refine ⟨?_, rfl⟩
            unfold flD
            rw [Int.ofNat_sub hm]
          · refine wp_anil ?_
            refine wp_someP (ext_ref get_new rfl ?_) ?_
            · rw [List.length_map, List.length_map, List.length_range]; omega
            fail "n"
            refine ⟨_, _, _, ?_, rfl⟩
            rw [set_app, snoc, List.map_append]
            have e : (List.range (1 + fl[j].2 / v)).map (fun m => flD (fl[j].1 ++ [m], fl[j].2 - m * v)) = List.map flD (List.map (fun q => (fl[j].1 ++ [q.1], q.2)) (ops (some v) fl[j].2)) := by
              show _ = List.map flD (List.map (fun q => (fl[j].1 ++ [q.1], q.2)) ((List.range (1 + fl[j].2 / v)).map fun m => (m, fl[j].2 - m * v)))
              rw [List.map_map, List.map_map]; rfl
            rw [e]
      · rintro _ g ⟨x8, x9, x10, rfl, rfl⟩
        refine ⟨by rw [(en _).2, List.getElem?_map, List.getElem?_eq_none (Nat.le_refl _)]; rfl, ?_⟩
        fail "n"
        rw [List.take_length]
        refine ⟨_, stp3 fl (lenP z p), _, _, _, _, _, _, el.symm, stc_in pp h24, stc_ln hln, ?_, itr_ref get_new, ⟨_, List.append_assoc ..⟩, rfl⟩
        have := stc_len pp h24
        rw [Nat.pow_succ]
        omega
    · rintro _ g ⟨f, fl, x5, x6, x7, x8, x9, x10, efl, h24, hln, lfl, I, ⟨tl, rfl⟩, rfl⟩
      refine ⟨rfl, ?_⟩
      fail "n"
      have e3 : fl.map (fun p => nsD p.1) = (zcuts t z).map r3D := by rw [efl]; exact st3
      refine wp_cmI flD (fun p => nsD p.1) (wp_any ?_)
      fail "n"
      obtain ⟨nx, e1, e2⟩ := I.here
      refine ⟨nx, e1, fl, e2, Nat.le_trans lfl (by decide), fun p hp => ⟨_, rfl, ?_⟩, ?_⟩
      · fail "n"
        first | rfl | exact ⟨rfl, rfl⟩
      · fail "n"
        rw [e3]
        exact ⟨rfl, tl, rfl⟩
  · obtain ⟨rfl, tl, rfl⟩ := q
    refine ⟨_, dW_val (show val (.lst _) = true from vals_all fun x hx => ?_), cls_app, ?_⟩
    · obtain ⟨y, _, rfl⟩ := List.mem_map.mp hx
      rfl
    · rw [take_app]
      exact c
/-! ### rows, papers: of anything -/
@[reducible] def rowsD (rs : List R3) : D := .tup (rs.map r3D)
/-! ### sums -/
theorem fold3_len : ∀ (xs acc : List R3), (xs.foldl ins3 acc).length ≤ acc.length + xs.length
  | [], acc => Nat.le_refl _
  | x :: xs, acc => by
    have := fold3_len xs (ins3 acc x)
    have l : (ins3 acc x).length ≤ acc.length + 1 := by
      unfold ins3
      split
      · omega
      · rw [List.length_append]; exact Nat.le_refl _
    show (xs.foldl ins3 (ins3 acc x)).length ≤ _
    rw [List.length_cons]
    omega
theorem flat3_len {rs cs : List R3} : (rs.flatMap fun r => cs.map (ad3 r)).length = rs.length * cs.length := by
  induction rs with
  | nil => simp
  | cons r rs ih => rw [List.flatMap_cons, List.length_append, List.length_map, ih, List.length_cons, Nat.succ_mul, Nat.add_comm]
theorem sums_len {rs cs : List R3} : (sums rs cs).length ≤ rs.length * cs.length := by
  have := fold3_len (rs.flatMap fun r => cs.map (ad3 r)) []
  rw [flat3_len, List.length_nil, Nat.zero_add] at this
  exact this
def sumsI (rs cs : List R3) (i : Nat) : List R3 := ((rs.take i).flatMap fun r => cs.map (ad3 r)).foldl ins3 []
theorem sumsI_len {rs cs : List R3} {i : Nat} : (sumsI rs cs i).length ≤ rs.length * cs.length := by
  have := sums_len (rs := rs.take i) (cs := cs)
  refine Nat.le_trans this (Nat.mul_le_mul_right _ ?_)
  rw [List.length_take]
  exact Nat.min_le_right _ _
theorem sumsI_succ {rs cs : List R3} {i : Nat} (hi : i < rs.length) : sumsI rs cs (i + 1) = (cs.map (ad3 rs[i])).foldl ins3 (sumsI rs cs i) := by
  unfold sumsI
  rw [List.take_succ_eq_append_getElem hi, List.flatMap_append, List.flatMap_cons, List.flatMap_nil, List.append_nil, List.foldl_append]
/-! ### papers -/
end
/-! # G161: what the laws reckon of cuts and papers -/
noncomputable section
def f_lengths : FS := (sSeq (sSet 1 (eFn c_draw [0, 1] [] (aCons (eName 0) (aCons (eC (.int 6)) aNil))))
  (sSeq (sPar 2 3 (aCons (eBin gAdd (eC (.int 4)) (eFn c_draw [0, 1] [] (aCons (eName 0) (aCons (eC (.int 5)) aNil)))) (aCons (eBin gAdd (eC (.int 4)) (eFn c_draw [0, 1] [] (aCons (eName 0) (aCons (eC (.int 5)) aNil)))) aNil)))
  (sSeq (sIf (eB (eBin gEq (eName 1) (eC (.int 0)))) (sSet 2 (eBin gAdd (eC (.int 4)) (eFn c_draw [0, 1] [] (aCons (eName 0) (aCons (eC (.int 21)) aNil))))) sSkip)
  (sRet (eTup (aCons (eBin gIx (eV (aCons (eName 2) (aCons (eC .non) aNil))) (eCall gInt (aCons (eBin gEq (eName 1) (eC (.int 1))) aNil))) (aCons (eBin gIx (eV (aCons (eName 3) (aCons (eC .non) aNil))) (eCall gInt (aCons (eBin gEq (eName 1) (eC (.int 2))) aNil))) (aCons (eBin gAdd (eC (.int 1)) (eFn c_pick [0, 1] [] (aCons (eName 0) (aCons (eV (aCons (eC (.int 0)) (aCons (eC (.int 0)) (aCons (eC (.int 1)) (aCons (eC (.int 1)) (aCons (eC (.int 0)) (aCons (eC (.int 3)) aNil))))))) aNil)))) aNil))))))))
def c_lengths : List D → Hs → R D := fnBody 4 f_lengths
def f_table : FS := (sRet (eCall gTuple (aCons (eV (lComp (iR1 (aCons (eC (.int 3)) aNil)) (nSet 1) tYesF (eFn c_lengths [0] [] (aCons (eName 0) aNil)) [1])) aNil)))
def c_table : List D → Hs → R D := fnBody 2 f_table
def f_fits : FS := (sSeq (sSet 3 (eCall gInt (aCons (eBin gEq (eBin gIx (eName 0) (eC (.int 0))) (eC (.str "across"))) aNil)))
  (sSeq (sSetC 4 false (lComp (iOf zpOf (aCons (eName 1) (aCons (eName 2) aNil))) (nTup 2 (nCons (nSet 5) (nCons (nSet 6) nNil))) (eB (eBin gGt (eName 6) (eC (.int 0)))) (eTup (aCons (eBin gIx (eName 5) (eName 3)) (aCons (eName 6) aNil))) [5, 6]))
  (sSeq (sIf (eB (eBin gNeL (eV (lComp (iAny (eName 4)) (nTup 2 (nCons (nSet 7) (nCons (nSet 6) nNil))) (eB (eBin gIs (eName 7) (eC .non))) (eName 7) [7, 6])) (eV aNil))) (sRet (eC (.bl false))) sSkip)
  (sRet (eBin gLe (eCall gSum (aCons (eV (lComp (iAny (eName 4)) (nTup 2 (nCons (nSet 7) (nCons (nSet 6) nNil))) tYesF (eBin gMul (eName 7) (eName 6)) [7, 6])) aNil)) (eBin gIx (eName 0) (eC (.int 1))))))))
def c_fits : List D → Hs → R D := fnBody 8 f_fits
def f_counts : FS := (sSeq (sSet 2 (eM aNil))
  (sSeq (sFor (iR1 (aCons (eC (.int 7)) aNil)) (nSet 3)
  (sFor (iR1 (aCons (eBin gSub (eC (.int 7)) (eName 3)) aNil)) (nSet 4)
  (sDrop (eMt isL mExtend (eName 2) (aCons (eV (lComp (iR1 (aCons (eBin gSub (eBin gSub (eC (.int 7)) (eName 3)) (eName 4)) aNil)) (nSet 5) (eT (eFn c_fits [0, 1, 2] [] (aCons (eName 0) (aCons (eName 1) (aCons (eTup (aCons (eName 3) (aCons (eName 4) (aCons (eName 5) aNil)))) aNil))))) (eTup (aCons (eName 3) (aCons (eName 4) (aCons (eName 5) aNil)))) [5])) aNil)))))
  (sRet (eName 2))))
def c_counts : List D → Hs → R D := gcF (fnBody 6 f_counts)
def f_given : FS := (sRet (eCall gMinL (aCons (eV (lComp (iOf zpOf (aCons (eName 1) (aCons (eName 0) aNil))) (nTup 2 (nCons (nSet 2) (nCons (nSet 3) nNil))) tYesF (eBin gDiv (eName 2) (eBin gIx (eName 3) (eC (.int 2)))) [2, 3])) aNil)))
def c_given : List D → Hs → R D := fnBody 4 f_given
def f_added : FS := (sRet (eCall gTuple (aCons (eV (lComp (iOf zpOf (aCons (eName 0) (aCons (eName 1) aNil))) (nTup 2 (nCons (nSet 2) (nCons (nSet 3) nNil))) tYesF (eBin gAdd (eName 2) (eName 3)) [2, 3])) aNil)))
def c_added : List D → Hs → R D := fnBody 4 f_added
def f_least_rows : FS := (sSeq (sSet 1 (eM aNil))
  (sSeq (sFor (iAny (eV (lSortR (aCons (eName 0) aNil)))) (nSet 2)
  (sIf (eB (eBin gEqL (eV (lComp (iAny (eName 1)) (nSet 3) (eB (eBin gEqL (eV (lComp (iOf zpOf (aCons (eName 2) (aCons (eName 3) aNil))) (nTup 2 (nCons (nSet 4) (nCons (nSet 5) nNil))) (eB (eBin gGt (eName 4) (eName 5))) (eC (.int 1)) [4, 5])) (eV aNil))) (eC (.int 1)) [3])) (eV aNil))) (sDrop (eMt isL mAppend (eName 1) (aCons (eName 2) aNil))) sSkip))
  (sRet (eName 1))))
def c_least_rows : List D → Hs → R D := gcF (fnBody 6 f_least_rows)
def f_fronts : FS := (sSeq (sSet 2 (eDispL (pCons (eTup (aCons (eC (.int 0)) (aCons (eC (.int 0)) (aCons (eC (.int 0)) aNil)))) (eTup aNil) pNil)))
  (sSeq (sSet 3 (eM aNil))
  (sSeq (sFor (iAny (eName 0)) (nSet 4)
  (sSeq (sSet 5 eD0T)
  (sSeq (sSet 6 (eFn c_least_rows [0] [] (aCons (eFn c_counts [0, 1] [] (aCons (eName 4) (aCons (eName 1) aNil))) aNil)))
  (sSeq (sFor (iKeysF (eName 2)) (nSet 7)
  (sFor (iAny (eName 6)) (nSet 8)
  (sSub mSetA (eBin gAdd (eBin gDget (eName 2) (eName 7)) (eTup (aCons (eName 8) aNil))) (eName 5) (eFn c_added [0, 1] [] (aCons (eName 7) (aCons (eName 8) aNil))))))
  (sSeq (sSet 2 (eDictPT (lComp (iAny (eFn c_least_rows [0] [] (aCons (eV (lListT (eName 5))) aNil))) (nSet 7) tYesF (eTup (aCons (eName 7) (aCons (eBin gDget (eName 5) (eName 7)) aNil))) [7])))
  (sDrop (eMt isL mAppend (eName 3) (aCons (eName 2) aNil))))))))
  (sRet (eName 3)))))
def c_fronts : List D → Hs → R D := gcF (fnBody 9 f_fronts)
end
section
variable {X : XQ} {Q : D → Hs → Prop} {h : Hs} {x y : R3} {e : Ev} {hs : Hs} {ds : List D} {z : Zo} {t : Tb}
instance evt_eqL : Evt (gEqL h (.lst ds) (.lst [])) (.bl ds.isEmpty) := ⟨eqL_lst⟩
instance st_wp_listT {f : FE} {Q : List D → Hs → Prop} : Stp (Wp (lListT f e hs) Q X) (Wp (f e hs) (fun d h => Wp (R.ofO ((dtR h d).map fun kvs => kvs.map fun kv => tupK kv.1) h) Q X) X) := ⟨fun z => wp_listT z⟩
instance st_wp_sortR {fa : FA} {Q : List D → Hs → Prop} : Stp (Wp (lSortR fa e hs) Q X) (Wp (fa e hs) (fun ds h => Wp (R.ofO (gSortR h ds) h) Q X) X) := ⟨fun z => wp_sortR z⟩
theorem nxN_at {n i : Nat} {g : Hs} (hi : i < n) : nxN 0 n g i = some (some (.int (i : Int))) := by
  rw [nxN_L]
  show some (((List.range n).map MT.nI)[i]?) = _
  rw [List.getElem?_map, List.getElem?_range hi]; rfl
/-! ### what is drawn -/
def Pok (p : Pt3) : Prop := (∀ v, p.1 = some v → 4 ≤ v ∧ v ≤ 1000) ∧ (∀ v, p.2.1 = some v → 4 ≤ v ∧ v ≤ 1000) ∧ 0 < p.2.2 ∧ p.2.2 < 5
structure Tok (t : Tb) : Prop where
  a : Pok t.a
  b : Pok t.b
  c : Pok t.c
theorem Tok.m (T : Tok t) : TbM t := ⟨⟨T.a.2.2.1, Nat.lt_trans T.a.2.2.2 (by decide)⟩, ⟨T.b.2.2.1, Nat.lt_trans T.b.2.2.2 (by decide)⟩, T.c.2.2.1, Nat.lt_trans T.c.2.2.2 (by decide)⟩
theorem Pok.l {p : Pt3} (h : Pok p) : ∀ v, lenP z p = some v → 4 ≤ v ∧ v ≤ 1000 := fun v hv => by
  unfold lenP at hv
  split at hv
  · exact h.2.1 v hv
  · exact h.1 v hv
theorem Tok.zk (T : Tok t) (hL : z.2 ≤ 24) : Zok t z := ⟨fun v hv => (T.a.l v hv).1, fun v hv => (T.b.l v hv).1, fun v hv => (T.c.l v hv).1, hL, fun p hp v hv => by
  rcases hp with rfl | rfl | rfl
  · exact (T.a.l v hv).2
  · exact (T.b.l v hv).2
  · exact (T.c.l v hv).2⟩
theorem oN_pick {v : Int} {b : Bool} (h0 : 0 ≤ v) : gIx h (.lst [.int v, .non]) (.int (if b = true then 1 else 0)) = some (oN (if b then none else some v.toNat)) := by
  cases b
  · show some (D.int v) = some (.int (v.toNat : Int))
    rw [Int.toNat_of_nonneg h0]
  · rfl
section
local macro_rules | `(tactic| fail "P1") => `(tactic| ((with_reducible apply wp_some (oN_pick ?q)); (case q => omega)))
variable {L : Nat} {K : Hs → Prop}
theorem lengths_wp (S : St L K h) (sK : Stb L K) (c : ∀ p : Pt3, Pok p → ∀ h', St L K h' → Q (p3D p) h') : Wp (c_lengths [.ref 2] h) Q X := by
  unfold c_lengths f_lengths
  refine wp_bodyE [some (.ref 2), none, none, none] rfl ?_
  fail "n"
  rename_i w h1 w0 w1 S1 a h2 a0 a1 S2 b h3 b0 b1 S3
  have ok : ∀ {u v : Int} {p q : Bool} {n : Nat}, 4 ≤ u → u ≤ 1000 → 4 ≤ v → v ≤ 1000 → 0 < n → n < 5 → Pok (if p then none else some u.toNat, if q then none else some v.toNat, n) := by
    intro u v p q n u0 u1 v0 v1 n0 n1
    refine ⟨fun k hk => ?_, fun k hk => ?_, n0, n1⟩
    · cases p <;> cases hk
      omega
    · cases q <;> cases hk
      omega
  refine ⟨fun _ => ?_, fun _ => ?_⟩
  · fail "n"
    rename_i v h4 v0 v1 S4
    fail "n"
    refine pkl S4 sK (by decide) (by decide) fun j h5 hj S5 => ?_
    simp only [List.mem_cons, List.not_mem_nil, or_false] at hj
    rcases hj with rfl | rfl | rfl | rfl | rfl | rfl
    all_goals
      fail "n"
      first
      | exact c (_, _, 1) (ok (by omega) (by omega) (by omega) (by omega) (by decide) (by decide)) _ S5
      | exact c (_, _, 2) (ok (by omega) (by omega) (by omega) (by omega) (by decide) (by decide)) _ S5
      | exact c (_, _, 4) (ok (by omega) (by omega) (by omega) (by omega) (by decide) (by decide)) _ S5
  · fail "n"
    refine pkl S3 sK (by decide) (by decide) fun j h5 hj S5 => ?_
    simp only [List.mem_cons, List.not_mem_nil, or_false] at hj
    rcases hj with rfl | rfl | rfl | rfl | rfl | rfl
    all_goals
      fail "n"
      first
      | exact c (_, _, 1) (ok (by omega) (by omega) (by omega) (by omega) (by decide) (by decide)) _ S5
      | exact c (_, _, 2) (ok (by omega) (by omega) (by omega) (by omega) (by decide) (by decide)) _ S5
      | exact c (_, _, 4) (ok (by omega) (by omega) (by omega) (by omega) (by decide) (by decide)) _ S5
/-- a comprehension with draws -/
theorem wp_cdr {P : D → Prop} {e : Ev} {f : FI} {g : FG} {el : FE} {vs : List Nat} {Q : List D → Hs → Prop} (q : Wp (f e h) (fun nx h => ∃ n : Nat, nx = nxN 0 n ∧ n ≤ 100000 ∧ G.St L K h ∧
    (∀ i < n, ∀ h', G.St L K h' → ∃ e', g (.int (0 + (i : Int))) (wipeE e vs) = some e' ∧ Wp (el e' h') (fun y h2 => P y ∧ G.St L K h2) nX) ∧ (∀ ds h', ds.length = n → (∀ x ∈ ds, P x) → G.St L K h' → Q ds h')) X) : Wp (lComp f g tYesF el vs e h) Q X := by
  refine wp_comp (wp_mono q (fun nx h' q => ?_) fun _ _ _ x => x)
  obtain ⟨n, rfl, hn, S, hs, hd⟩ := q
  refine ⟨n, fun i acc h => acc.length = i ∧ (∀ x ∈ acc, P x) ∧ G.St L K h, hn, ⟨rfl, (fun _ z => nomatch z), S⟩, fun i acc h hi ⟨e1, e2, e3⟩ => ?_, fun acc h ⟨e1, e2, e3⟩ => ⟨nxN_stop, hd acc h e1 e2 e3⟩⟩
  obtain ⟨e', h1, h2⟩ := hs i hi h e3
  refine ⟨_, e', nxN_some hi, h1, wp_yes ⟨fun _ => ⟨by rw [sizeLine_eq]; omega, wp_mono h2 (fun y h3 ⟨p, S3⟩ => ⟨by rw [List.length_append, e1]; rfl, fun x hx => ?_, S3⟩) fun _ _ _ x => x⟩, fun z => by cases z⟩⟩
  rcases List.mem_append.mp hx with hx | hx
  · exact e2 x hx
  · rw [List.mem_singleton.mp hx]; exact p
theorem tbl_wp (S : St L K h) (sK : Stb L K) (c : ∀ t : Tb, Tok t → ∀ h', St L K h' → Q (tbD t) h') : Wp (c_table [.ref 2] h) Q X := by
  unfold c_table f_table
  refine wp_bodyE [some (.ref 2), none] rfl ?_
  refine ws_ret (wp_call (wp_acons (wp_ev ?_)))
  refine wp_cdr (L := L) (K := K) (P := fun d => ∃ p, Pok p ∧ d = p3D p) (wp_r1 (wp_acons (wp_c (wp_anil ?_))))
  refine ⟨_, rfl, rfl, 3, rfl, by decide, S, fun i hi g Sg => ⟨_, rfl, ?_⟩, fun ds g hl hp Sg => ?_⟩
  · fail "n"
    refine lengths_wp Sg sK fun p hp g2 S2 => ?_
    exact ⟨⟨p, hp, rfl⟩, S2⟩
  · obtain ⟨d1, d2, d3, rfl⟩ := list3 hl
    obtain ⟨p, hp1, rfl⟩ := hp d1 (by simp)
    obtain ⟨q, hq1, rfl⟩ := hp d2 (by simp)
    obtain ⟨r, hr1, rfl⟩ := hp d3 (by simp)
    fail "n"
    exact c ⟨p, q, r⟩ ⟨hp1, hq1, hr1⟩ g Sg
end
/-! ### what fits -/
theorem at_len {p : Pt3} : gIx h (p3D p) (.int (if (grS z.1 == Str.ofString "across") = true then 1 else 0)) = some (oN (lenP z p)) := by
  obtain ⟨b, n⟩ := z
  cases b
  · have e : (grS false == Str.ofString "across") = false := by decide +kernel
    show gIx h (p3D p) (.int (if (grS false == Str.ofString "across") = true then 1 else 0)) = _
    rw [e]; rfl
  · have e : (grS true == Str.ofString "across") = true := by decide +kernel
    show gIx h (p3D p) (.int (if (grS true == Str.ofString "across") = true then 1 else 0)) = _
    rw [e]; rfl
theorem is_oN {o : Option Nat} : gIs h (oN o) .non = some (.bl o.isNone) := by cases o <;> rfl
def xs3 (t : Tb) (x : R3) : List (Pt3 × Nat) := [(t.a, x.1), (t.b, x.2.1), (t.c, x.2.2)]
def ys3 (t : Tb) (x : R3) : List (Pt3 × Nat) := (xs3 t x).filter fun p => decide (0 < p.2)
theorem ys_def : (xs3 t x).filter (fun p => decide (0 < p.2)) = ys3 t x := rfl
theorem one_used {p : Pt3 × Nat} : (if decide (0 < p.2) = true then used (lenP z p.1) p.2 else 0) = used (lenP z p.1) p.2 := by
  split
  · rfl
  · rename_i hn
    have : p.2 = 0 := by simpa using hn
    unfold used
    rw [this, Nat.zero_mul]
theorem sum_filter {α : Type} {q : α → Bool} {f : α → Nat} : ∀ l : List α, ((l.filter q).map f).sum = (l.map fun x => if q x = true then f x else 0).sum
  | [] => rfl
  | x :: l => by
    rw [List.map_cons, List.sum_cons, ← sum_filter l, List.filter_cons]
    split
    · rw [List.map_cons, List.sum_cons]
    · rw [Nat.zero_add]
theorem ys_sum : ((ys3 t x).map fun p => used (lenP z p.1) p.2).sum = used (lenP z t.a) x.1 + used (lenP z t.b) x.2.1 + used (lenP z t.c) x.2.2 := by
  unfold ys3
  rw [sum_filter]
  have e : (fun p : Pt3 × Nat => if decide (0 < p.2) = true then used (lenP z p.1) p.2 else 0) = fun p => used (lenP z p.1) p.2 := funext fun p => one_used
  rw [e]
  show used (lenP z t.a) x.1 + (used (lenP z t.b) x.2.1 + (used (lenP z t.c) x.2.2 + 0)) = _
  omega
theorem fits_none (hn : ((ys3 t x).filter fun p => (lenP z p.1).isNone) ≠ []) : fitB z.2 (lenP z t.a) (lenP z t.b) (lenP z t.c) x = false := by
  refine Bool.eq_false_iff.mpr fun hf => hn (List.filter_eq_nil_iff.mpr fun p hp hq => ?_)
  obtain ⟨f1, f2, f3, _⟩ := fitB_iff.mp hf
  obtain ⟨hp, h0⟩ := List.mem_filter.mp hp
  have h0 : 0 < p.2 := of_decide_eq_true h0
  have hq := Option.isNone_iff_eq_none.mp hq
  unfold xs3 at hp
  simp only [List.mem_cons, List.not_mem_nil, or_false] at hp
  rcases hp with rfl | rfl | rfl
  · have := f1 hq; dsimp only at h0; omega
  · have := f2 hq; dsimp only at h0; omega
  · have := f3 hq; dsimp only at h0; omega
theorem fits_sum (hn : ((ys3 t x).filter fun p => (lenP z p.1).isNone) = []) : fitB z.2 (lenP z t.a) (lenP z t.b) (lenP z t.c) x = decide (((ys3 t x).map fun p => used (lenP z p.1) p.2).sum ≤ z.2) := by
  rw [ys_sum, Bool.eq_iff_iff, fitB_iff, decide_eq_true_eq]
  have hn := List.filter_eq_nil_iff.mp hn
  have one : ∀ p ∈ xs3 t x, okc (lenP z p.1) p.2 := fun p hp hq => by
    by_cases h0 : 0 < p.2
    · exact absurd (Option.isNone_iff_eq_none.mpr hq) (hn p (List.mem_filter.mpr ⟨hp, decide_eq_true h0⟩))
    · omega
  exact ⟨fun k => k.2.2.2, fun k => ⟨one (t.a, x.1) (by unfold xs3; simp), one (t.b, x.2.1) (by unfold xs3; simp), one (t.c, x.2.2) (by unfold xs3; simp), k⟩⟩
theorem sum_nats {α : Type} {f : α → Nat} {l : List α} : gSum h [.lst (l.map fun p => .int (f p : Int))] = some (.int ((l.map f).sum : Int)) := by
  have := sum_nat (h := h) (l := l.map f)
  rw [List.map_map] at this
  exact this
theorem fits_eq (Z : Zok t z) (hx : x.1 ≤ 1000 ∧ x.2.1 ≤ 1000 ∧ x.2.2 ≤ 1000) : c_fits [znD z, tbD t, r3D x] h = .ok (.bl (fitB z.2 (lenP z t.a) (lenP z t.b) (lenP z t.c) x)) h := by
  have xl : ∀ p ∈ xs3 t x, p.2 ≤ 1000 ∧ ∀ v, lenP z p.1 = some v → v ≤ 1000 := fun p hp => by
    unfold xs3 at hp
    simp only [List.mem_cons, List.not_mem_nil, or_false] at hp
    rcases hp with rfl | rfl | rfl
    · exact ⟨hx.1, Z.s _ (by simp)⟩
    · exact ⟨hx.2.1, Z.s _ (by simp)⟩
    · exact ⟨hx.2.2, Z.s _ (by simp)⟩
  have yl : (ys3 t x).length ≤ 3 := List.length_filter_le _ _
  refine eq_any fun Q X c => ?_
  unfold c_fits f_fits
  refine wp_bodyE [some (znD z), some (tbD t), some (r3D x), none, none, none, none, none] rfl ?_
  unfold znD
  fail "n"
  refine wp_cga (fun p : Pt3 × Nat => .tup [p3D p.1, .int (p.2 : Int)]) (fun p => decide (0 < p.2)) (fun p => .tup [oN (lenP z p.1), .int (p.2 : Int)]) ?_
  fail "n"
  refine ⟨xs3 t x, (by rw [nxZ_L]; rfl), Nat.le_of_ble_eq_true rfl, fun p hp => ⟨_, rfl, ?_⟩, ?_⟩
  · fail "n"
    refine ⟨by rw [Bool.eq_iff_iff, decide_eq_true_eq, decide_eq_true_eq]; omega, fun _ => ?_⟩
    fail "n"
    refine wp_some at_len ?_
    fail "n"
    first | rfl | exact ⟨rfl, rfl⟩
  fail "n"
  refine wp_cga (fun p : Pt3 × Nat => .tup [oN (lenP z p.1), .int (p.2 : Int)]) (fun p => (lenP z p.1).isNone) (fun p => oN (lenP z p.1)) (wp_any ?_)
  fail "n"
  refine ⟨Nat.le_trans yl (by decide), fun p hp => ⟨_, rfl, ?_⟩, ?_⟩
  · fail "n"
    refine wp_some is_oN ?_
    fail "n"
    intro _
    fail "n"
    first | rfl | exact ⟨rfl, rfl⟩
  fail "n"
  rw [ys_def]
  by_cases hn : ((ys3 t x).filter fun p => (lenP z p.1).isNone) = []
  · rw [hn]
    refine ⟨fun w => (by cases w), fun _ => ?_⟩
    fail "n"
    refine wp_cma (fun p : Pt3 × Nat => .tup [oN (lenP z p.1), .int (p.2 : Int)]) (fun p => .int ((used (lenP z p.1) p.2 : Nat) : Int)) (wp_any ?_)
    fail "n"
    refine ⟨Nat.le_trans yl (by decide), fun p hp => ⟨_, rfl, ?_⟩, ?_⟩
    · have hs : ∃ v, lenP z p.1 = some v := by
        have := List.filter_eq_nil_iff.mp hn p hp
        cases e : lenP z p.1 with
        | none => rw [e] at this; exact absurd rfl this
        | some v => exact ⟨v, rfl⟩
      obtain ⟨v, ev⟩ := hs
      have := (xl p (List.mem_filter.mp hp).1).2 v ev
      have := (xl p (List.mem_filter.mp hp).1).1
      fail "n"
      rw [ev]
      refine wp_some (show gMul _ (oN (some v)) (.int (p.2 : Int)) = some (.int ((used (some v) p.2 : Nat) : Int)) from (mul_int (by rw [small_of (Int.natCast_nonneg v) (by omega)]; rfl)).trans (by unfold used; rw [Int.natCast_mul, Int.mul_comm]; rfl)) ?_
      exact ⟨rfl, rfl⟩
    fail "n"
    refine wp_some sum_nats ?_
    fail "n"
    rw [fits_sum hn] at c
    have e2 : decide (((((ys3 t x).map fun p => used (lenP z p.1) p.2).sum : Nat) : Int) ≤ (z.2 : Int)) = decide (((ys3 t x).map fun p => used (lenP z p.1) p.2).sum ≤ z.2) := by
      rw [Bool.eq_iff_iff, decide_eq_true_eq, decide_eq_true_eq]; omega
    rw [e2]
    exact c
  · rw [fits_none hn] at c
    have e2 : (!(List.map (fun p : Pt3 × Nat => oN (lenP z p.1)) ((ys3 t x).filter fun p => (lenP z p.1).isNone)).isEmpty) = true := by
      cases e : ((ys3 t x).filter fun p => (lenP z p.1).isNone) with
      | nil => exact absurd e hn
      | cons a l => rfl
    rw [e2]
    refine ⟨fun _ => ?_, fun w => (by cases w)⟩
    fail "n"
    exact c
/-! ### counts -/
def pre1 (L : Nat) (a b c : Option Nat) (x y : Nat) : List R3 := ((List.range (7 - x - y)).filter fun z => fitB L a b c (x, y, z)).map fun z => (x, y, z)
def pre2 (L : Nat) (a b c : Option Nat) (x n : Nat) : List R3 := (List.range n).flatMap (pre1 L a b c x)
def pre3 (L : Nat) (a b c : Option Nat) (n : Nat) : List R3 := (List.range n).flatMap fun x => pre2 L a b c x (7 - x)
theorem pre3_all {L : Nat} {a b c : Option Nat} : pre3 L a b c 7 = lcuts L a b c := rfl
theorem pre2_succ {L : Nat} {a b c : Option Nat} {x n : Nat} : pre2 L a b c x (n + 1) = pre2 L a b c x n ++ pre1 L a b c x n := by
  unfold pre2
  rw [List.range_succ, List.flatMap_append, List.flatMap_cons, List.flatMap_nil, List.append_nil]
theorem pre3_succ {L : Nat} {a b c : Option Nat} {n : Nat} : pre3 L a b c (n + 1) = pre3 L a b c n ++ pre2 L a b c n (7 - n) := by
  unfold pre3
  rw [List.range_succ, List.flatMap_append, List.flatMap_cons, List.flatMap_nil, List.append_nil]
theorem pre1_len {L : Nat} {a b c : Option Nat} {x y : Nat} : (pre1 L a b c x y).length ≤ 7 := by
  unfold pre1
  rw [List.length_map]
  refine Nat.le_trans (List.length_filter_le _ _) ?_
  rw [List.length_range]; omega
theorem pre2_len {L : Nat} {a b c : Option Nat} {x : Nat} : ∀ n, (pre2 L a b c x n).length ≤ 7 * n
  | 0 => Nat.le_refl _
  | n + 1 => by
    have := pre2_len (L := L) (a := a) (b := b) (c := c) (x := x) n
    have := pre1_len (L := L) (a := a) (b := b) (c := c) (x := x) (y := n)
    rw [pre2_succ, List.length_append]
    omega
theorem pre3_len {L : Nat} {a b c : Option Nat} : ∀ n, (pre3 L a b c n).length ≤ 49 * n
  | 0 => Nat.le_refl _
  | n + 1 => by
    have := pre3_len (L := L) (a := a) (b := b) (c := c) n
    have := pre2_len (L := L) (a := a) (b := b) (c := c) (x := n) (7 - n)
    rw [pre3_succ, List.length_append]
    omega
theorem counts_eq (Z : Zok t z) : c_counts [znD z, tbD t] h = .ok (.lst ((lcuts z.2 (lenP z t.a) (lenP z t.b) (lenP z t.c)).map r3D)) h := by
  generalize ea : pre3 z.2 (lenP z t.a) (lenP z t.b) (lenP z t.c) = P3
  generalize eb : pre2 z.2 (lenP z t.a) (lenP z t.b) (lenP z t.c) = P2
  refine eq_any fun Q X c => ?_
  unfold c_counts f_counts
  refine wp_gcF (wp_mono (Q := fun d h1 => d = .ref h.length ∧ h1 = h ++ [.lst ((P3 7).map r3D)]) (X := fun _ _ _ => False) ?_ (fun d h1 q => ?_) fun _ _ _ x => x.elim)
  · refine wp_bodyE [some (znD z), some (tbD t), none, none, none, none] rfl ?_
    fail "n"
    refine ws_for (wp_r1 (wp_acons (wp_c (wp_anil ?_))))
    refine ⟨_, rfl, rfl, 7, fun i e g => ∃ x3 x4 x5, g = h ++ [.lst ((P3 i).map r3D)] ∧ e = [some (znD z), some (tbD t), some (.ref h.length), x3, x4, x5], by decide, ⟨_, _, _, by rw [← ea]; rfl, rfl⟩, ?_, ?_⟩
    · rintro i _ g hi ⟨x3, x4, x5, rfl, rfl⟩
      refine ⟨.int (i : Int), _, nxN_at hi, rfl, ?_⟩
      refine ws_for (wp_r1 (wp_acons (wp_bin (wp_c (wp_name rfl (wp_some sub_i (wp_anil ?_)))))))
      refine ⟨_, rfl, okR_in (by omega) (by omega), 7 - i, fun j e g => ∃ x4 x5, g = h ++ [.lst ((P3 i ++ P2 i j).map r3D)] ∧ e = [some (znD z), some (tbD t), some (.ref h.length), some (.int (i : Int)), x4, x5], by omega, ⟨_, _, by rw [← eb]; unfold pre2; rw [List.range_zero, List.flatMap_nil, List.append_nil], rfl⟩, ?_, ?_⟩
      · rintro j _ g hj ⟨x4, x5, rfl, rfl⟩
        refine ⟨.int (j : Int), _, by rw [show ((7 : Int) - (i : Int)).toNat = 7 - i by omega]; exact nxN_at hj, rfl, ?_⟩
        fail "n"
        refine wp_cgI (fun k : Nat => .int (k : Int)) (fun k => fitB z.2 (lenP z t.a) (lenP z t.b) (lenP z t.c) (i, j, k)) (fun k => r3D (i, j, k)) ?_
        refine wp_r1 (wp_acons (wp_bin (wp_bin (wp_c (wp_name rfl (wp_some sub_i (wp_name rfl (wp_some sub_i (wp_anil ?_)))))))))
        refine ⟨_, rfl, okR_in (by omega) (by omega), List.range (7 - i - j), fun k => ?_, by rw [List.length_range]; omega, fun k hk => ⟨_, rfl, ?_⟩, ?_⟩
        · rw [show ((7 : Int) - (i : Int) - (j : Int)).toNat = 7 - i - j by omega, nxN_L]; rfl
        · have hk := List.mem_range.mp hk
          fail "n"
          refine wp_of (fits_eq (x := (i, j, k)) Z ⟨by dsimp only; omega, by dsimp only; omega, by dsimp only; omega⟩) ?_
          fail "n"
          intro _
          fail "n"
          first | rfl | exact ⟨rfl, rfl⟩
        · have l3 := pre3_len (L := z.2) (a := lenP z t.a) (b := lenP z t.b) (c := lenP z t.c) i
          have l2 := pre2_len (L := z.2) (a := lenP z t.a) (b := lenP z t.b) (c := lenP z t.c) (x := i) j
          have l1 := pre1_len (L := z.2) (a := lenP z t.a) (b := lenP z t.b) (c := lenP z t.c) (x := i) (y := j)
          rw [ea] at l3
          rw [eb] at l2
          unfold pre1 at l1
          rw [List.length_map] at l1
          refine wp_anil ?_
          refine wp_someP (ext_ref get_new rfl ?_) ?_
          · rw [List.length_map, List.length_map, List.length_append]; omega
          fail "n"
          refine ⟨_, _, ?_, rfl⟩
          rw [set_app, ← eb, pre2_succ, ← List.append_assoc, List.map_append (l₁ := _ ++ _)]
          unfold pre1
          rw [List.map_map]; rfl
      · rintro _ g ⟨x4, x5, rfl, rfl⟩
        refine ⟨by rw [show ((7 : Int) - (i : Int)).toNat = 7 - i by omega]; exact nxN_stop, ?_⟩
        refine ⟨_, _, _, ?_, rfl⟩
        rw [← ea, ← eb, pre3_succ]
    · rintro _ g ⟨x3, x4, x5, rfl, rfl⟩
      refine ⟨nxN_stop, ?_⟩
      fail "n"
      rfl
  · obtain ⟨rfl, rfl⟩ := q
    refine ⟨_, dH_lst get_new (Nat.le_refl _) (vals_all fun x hx => ?_), cls_app, ?_⟩
    · obtain ⟨y, _, rfl⟩ := List.mem_map.mp hx
      rfl
    · rw [take_app, ← ea, pre3_all]
      exact c
end
/-! # G162: the laws' greatest rows, sums, papers: as the program's -/
section
variable {X : XQ} {Q : D → Hs → Prop} {h : Hs} {x y : R3} {e : Ev} {hs : Hs} {ds : List D} {z : Zo} {t : Tb}
theorem given_eq (M : TbM t) : c_given [tbD t, r3D x] h = .ok (.int (pr3 t.m x : Int)) h := by
  refine eq_any fun Q X c => ?_
  unfold c_given f_given
  refine wp_bodyE [some (tbD t), some (r3D x), none, none] rfl ?_
  fail "n"
  refine wp_cma (fun p : Nat × Pt3 => .tup [.int (p.1 : Int), p3D p.2]) (fun p => .int ((p.1 : Int) / (p.2.2.2 : Int))) ?_
  fail "n"
  refine ⟨[(x.1, t.a), (x.2.1, t.b), (x.2.2, t.c)], (by rw [nxZ_L]; rfl), Nat.le_of_ble_eq_true rfl, fun p hp => ⟨_, rfl, ?_⟩, ?_⟩
  · have hp : 0 < p.2.2.2 ∧ p.2.2.2 < 1000 := by
      simp only [List.mem_cons, List.not_mem_nil, or_false] at hp
      rcases hp with rfl | rfl | rfl
      · exact M.1
      · exact M.2.1
      · exact M.2.2
    unfold p3D
    fail "s"
    refine wp_some (show gIx h (.tup [oN p.2.1, oN p.2.2.1, .int (p.2.2.2 : Int)]) (.int 2) = some (.int (p.2.2.2 : Int)) from rfl) ?_
    refine wp_some (div_int (by omega) (by omega)) ?_
    exact ⟨rfl, rfl⟩
  · fail "n"
    refine wp_some (min_l (n := (x.1 : Int) / (t.a.2.2 : Int)) (ns := [(x.2.1 : Int) / (t.b.2.2 : Int), (x.2.2 : Int) / (t.c.2.2 : Int)])) ?_
    have e : minI [(x.1 : Int) / (t.a.2.2 : Int), (x.2.1 : Int) / (t.b.2.2 : Int), (x.2.2 : Int) / (t.c.2.2 : Int)] = (pr3 t.m x : Int) := by
      unfold pr3 Tb.m
      show (let m := (let m := (x.2.2 : Int) / (t.c.2.2 : Int); if m < (x.2.1 : Int) / (t.b.2.2 : Int) then m else (x.2.1 : Int) / (t.b.2.2 : Int)); if m < (x.1 : Int) / (t.a.2.2 : Int) then m else (x.1 : Int) / (t.a.2.2 : Int)) = _
      dsimp only
      rw [← Int.natCast_ediv, ← Int.natCast_ediv, ← Int.natCast_ediv]
      generalize x.1 / t.a.2.2 = u
      generalize x.2.1 / t.b.2.2 = v
      generalize x.2.2 / t.c.2.2 = w
      split <;> split <;> omega
    rw [e]
    exact c
theorem added_eq : c_added [r3D x, r3D y] h = .ok (r3D (ad3 x y)) h := by
  refine eq_any fun Q X c => ?_
  unfold c_added f_added
  refine wp_bodyE [some (r3D x), some (r3D y), none, none] rfl ?_
  fail "n"
  refine wp_cma zipD (fun p => .int ((p.1 : Int) + (p.2 : Int))) ?_
  fail "n"
  refine ⟨zip3 x y, (by rw [nxZ_L]; rfl), Nat.le_of_ble_eq_true rfl, fun p hp => ⟨_, rfl, ?_⟩, ?_⟩
  · fail "n"
    first | exact rfl | exact ⟨rfl, rfl⟩
  · fail "n"
    exact c
theorem le3_emp : (((zip3 x y).filter fun p => decide (p.2 < p.1)).map fun _ => D.int 1).isEmpty = le3 x y := by
  rw [Bool.eq_iff_iff, List.isEmpty_iff, List.map_eq_nil_iff, List.filter_eq_nil_iff, le3_iff]
  unfold zip3
  simp only [List.mem_cons, List.not_mem_nil, or_false, forall_eq_or_imp, forall_eq, decide_eq_true_eq]
  omega
theorem any_emp {α β : Type} {p : α → Bool} {f : α → β} : ∀ {l : List α}, ((l.filter p).map f).isEmpty = !(l.any p)
  | [] => rfl
  | x :: l => by
    rw [List.filter_cons, List.any_cons]
    cases p x with
    | true => rfl
    | false => exact any_emp
theorem least_rows_eq {rows : List R3} (few : rows.length ≤ 50000) : c_least_rows [.lst (rows.map r3D)] h = .ok (.lst ((grt rows).map r3D)) h := by
  refine eq_any fun Q X c => ?_
  unfold c_least_rows f_least_rows
  refine wp_gcF (wp_mono (Q := fun d h1 => d = .ref h.length ∧ h1 = h ++ [.lst ((grt rows).map r3D)]) (X := fun _ _ _ => False) ?_ (fun d h1 z => ?_) fun _ _ _ x => x.elim)
  · refine wp_bodyE [some (.lst (rows.map r3D)), none, none, none, none, none] rfl ?_
    fail "n"
    refine ws_for (wp_any ?_)
    fail "n"
    refine wp_some (sortR_is rfl (keyTs_rows rows) (ok3 (by omega))) ?_
    rw [← List.map_reverse.symm, srt_D, ← List.map_reverse]
    fail "n"
    have lr : (srt rows).reverse.length = rows.length := by rw [List.length_reverse, (srt_perm rows).length_eq]
    refine ⟨(srt rows).reverse.length, fun i e g => ∃ acc x2, gre acc ((srt rows).reverse.drop i) = grt rows ∧ acc.length ≤ i ∧ g = h ++ [.lst (acc.map r3D)] ∧ e = [some (.lst (rows.map r3D)), some (.ref h.length), x2, none, none, none], by omega, ⟨[], _, rfl, Nat.le_refl _, rfl, rfl⟩, ?_, ?_⟩
    · rintro i _ g hi ⟨acc, x2, ea, la, rfl, rfl⟩
      refine ⟨r3D (srt rows).reverse[i], _, by unfold nxL; rw [List.getElem?_map, List.getElem?_eq_getElem hi]; rfl, rfl, ?_⟩
      rw [List.drop_eq_getElem_cons hi] at ea
      have ea : gre (if cov acc (srt rows).reverse[i] = true then acc else acc ++ [(srt rows).reverse[i]]) ((srt rows).reverse.drop (i + 1)) = grt rows := ea
      fail "n"
      refine wp_cgI r3D (le3 (srt rows).reverse[i]) (fun _ => .int 1) (wp_any ?_)
      fail "n"
      obtain ⟨nx, e1, e2⟩ := (itr_ref (h := h ++ [.lst (acc.map r3D)]) get_new).here
      refine ⟨nx, e1, acc, e2, by omega, fun y hy => ⟨_, rfl, ?_⟩, ?_⟩
      · fail "n"
        refine wp_cga zipD (fun p => decide (p.2 < p.1)) (fun _ => .int 1) ?_
        fail "n"
        refine ⟨zip3 (srt rows).reverse[i] y, (by rw [nxZ_L]; rfl), Nat.le_of_ble_eq_true rfl, fun p hp => ⟨_, rfl, ?_⟩, ?_⟩
        · fail "n"
          refine ⟨by rw [Bool.eq_iff_iff, decide_eq_true_eq, decide_eq_true_eq]; omega, fun _ => ?_⟩
          fail "n"
          first | rfl | exact ⟨rfl, rfl⟩
        fail "n"
        refine ⟨le3_emp, fun _ => ?_⟩
        fail "n"
        first | rfl | exact ⟨rfl, rfl⟩
      fail "n"
      rw [any_emp]
      refine ⟨fun q => ?_, fun q => ?_⟩
      · have q : cov acc (srt rows).reverse[i] = false := by
          show acc.any (le3 _) = false
          simpa using q
        rw [q] at ea
        fail "n"
        refine ⟨acc ++ [(srt rows).reverse[i]], _, ea, by rw [List.length_append]; exact Nat.succ_le_succ la, ?_, rfl⟩
        rw [set_app, List.map_append]; rfl
      · have q : cov acc (srt rows).reverse[i] = true := by
          show acc.any (le3 _) = true
          simpa using q
        rw [q] at ea
        fail "n"
        exact ⟨acc, _, ea, by omega, rfl, rfl⟩
    · rintro _ g ⟨acc, x2, ea, la, rfl, rfl⟩
      refine ⟨by unfold nxL; rw [List.getElem?_map, List.getElem?_eq_none (Nat.le_refl _)]; rfl, ?_⟩
      rw [List.drop_length] at ea
      have ea : acc = grt rows := ea
      fail "n"
      rw [ea]
  · obtain ⟨rfl, rfl⟩ := z
    refine ⟨_, dH_lst get_new (Nat.le_refl _) (vals_all fun x hx => ?_), cls_app, ?_⟩
    · obtain ⟨y, _, rfl⟩ := List.mem_map.mp hx
      rfl
    · rw [take_app]
      exact c
theorem lcuts_grt (Z : Zok t z) : grt (lcuts z.2 (lenP z t.a) (lenP z t.b) (lenP z t.c)) = gcuts t z := (grt_perm (cuts_perm Z.a Z.b Z.c Z.L)).symm
theorem lcuts_len (Z : Zok t z) : (lcuts z.2 (lenP z t.a) (lenP z t.b) (lenP z t.c)).length ≤ 343 := by
  rw [← (cuts_perm Z.a Z.b Z.c Z.L).length_eq]
  exact cuts_len Z.a Z.b Z.c Z.L
end
/-! # G163: the laws' own checker of papers answers as most_holds -/
section
end
end G

/-! # G164: how many greatest rows there can be; the rows behind each zone, and how they came -/
namespace MR
open PySem PySem.Spec PyProof.Rows L2 G
/-- of two that begin alike the first has the greater end -/
def De3 (x y : R3) : Prop := x.1 = y.1 → x.2.1 = y.2.1 → y.2.2 ≤ x.2.2
theorem le_third {x y : R3} (h : lexK (key3 y) (key3 x) = false) : De3 y x := fun e1 e2 => by
  obtain ⟨a, b, u⟩ := x
  obtain ⟨a', b', v⟩ := y
  dsimp only at e1 e2
  subst e1 e2
  show u ≤ v
  have h : (if (Sum.inl (a' : Int) : Key) = .inl (a' : Int) then (if (Sum.inl (b' : Int) : Key) = .inl (b' : Int) then (if (Sum.inl (v : Int) : Key) = .inl (u : Int) then lexK [] [] else ltK (.inl (v : Int)) (.inl (u : Int))) else _) else _) = false := h
  rw [if_pos rfl, if_pos rfl] at h
  split at h
  · rename_i e
    have := Sum.inl.inj e
    omega
  · have := of_decide_eq_false (show decide ((v : Int) < (u : Int)) = false from h)
    omega
theorem srt_desc (rows : List R3) : (srt rows).reverse.Pairwise De3 := by
  refine List.pairwise_reverse.mpr ?_
  have h := sortK_pw (rows.map key3)
  rw [← srt_keys] at h
  exact (List.pairwise_map.mp h).imp fun h => le_third h
theorem gre_two : ∀ (rs acc : List R3), rs.Pairwise De3 → (∀ a ∈ acc, ∀ r ∈ rs, De3 a r) → (acc.map fun x => (x.1, x.2.1)).Nodup → ((gre acc rs).map fun x => (x.1, x.2.1)).Nodup
  | [], _, _, _, h => h
  | r :: rs, acc, p, q, h => by
    obtain ⟨p1, p2⟩ := List.pairwise_cons.mp p
    refine gre_two rs _ p2 ?_ ?_
    · intro a ha s hs
      split at ha
      · exact q a ha s (List.mem_cons_of_mem _ hs)
      · rcases List.mem_append.mp ha with ha | ha
        · exact q a ha s (List.mem_cons_of_mem _ hs)
        · rw [List.mem_singleton.mp ha]; exact p1 s hs
    · split
      · exact h
      · rename_i nc
        rw [List.map_append]
        refine List.nodup_append.mpr ⟨h, List.nodup_cons.mpr ⟨nofun, .nil⟩, fun x hx y hy e => nc ?_⟩
        obtain ⟨a, ha, rfl⟩ := List.mem_map.mp hx
        rw [List.map_cons, List.map_nil, List.mem_singleton] at hy
        rw [hy] at e
        have e1 := (Prod.mk.inj e).1
        have e2 := (Prod.mk.inj e).2
        exact cov_iff.mpr ⟨a, ha, le3_iff.mpr ⟨by omega, by omega, q a ha r List.mem_cons_self e1 e2⟩⟩
def boxA (A : Nat) : List (Nat × Nat) := (List.range (A + 1)).flatMap fun x => (List.range (A + 1)).map fun y => (x, y)
theorem grt_box {A : Nat} {rows : List R3} (h : ∀ x ∈ grt rows, x.1 ≤ A ∧ x.2.1 ≤ A) : (grt rows).length ≤ (boxA A).length := by
  have n := gre_two (srt rows).reverse [] (srt_desc rows) (fun _ z => nomatch z) .nil
  have := MT.nd_sub (l := (grt rows).map fun x => (x.1, x.2.1)) (D := boxA A) n fun x hx => by
    obtain ⟨y, hy, rfl⟩ := List.mem_map.mp hx
    unfold boxA
    simp only [List.mem_flatMap, List.mem_map, List.mem_range]
    exact ⟨y.1, by have := h y hy; omega, y.2.1, by have := h y hy; omega, rfl⟩
  rw [List.length_map] at this
  exact this
theorem zcuts_six {t : Tb} {z : Zo} (Z : Zok t z) {x : R3} (h : x ∈ gcuts t z) : x.1 ≤ 6 ∧ x.2.1 ≤ 6 ∧ x.2.2 ≤ 6 := by
  have := cuts_small Z.a Z.b Z.c Z.L (grt_sub h)
  omega
theorem gcuts_len {t : Tb} {z : Zo} (Z : Zok t z) : (gcuts t z).length ≤ 49 :=
  Nat.le_trans (grt_box (A := 6) fun x hx => ⟨(zcuts_six Z hx).1, (zcuts_six Z hx).2.1⟩) (by decide +kernel)
def Bx (B : Nat) (rows : List R3) : Prop := ∀ x ∈ rows, x.1 ≤ B ∧ x.2.1 ≤ B ∧ x.2.2 ≤ B
theorem bx_next {t : Tb} {z : Zo} {B : Nat} {ah : List R3} (Z : Zok t z) (h : Bx B ah) : Bx (B + 6) (grt (sums ah (gcuts t z))) := fun x hx => by
  obtain ⟨r, hr, c, hc, rfl⟩ := mem_sums.mp (grt_sub hx)
  have := h r hr
  have := zcuts_six Z hc
  unfold ad3
  dsimp only
  omega
theorem fronts_snoc {t : Tb} {z : Zo} : ∀ (zs : List Zo) (ah : List R3), fronts t ah (zs ++ [z]) = fronts t ah zs ++ [grt (sums (lastF ah (fronts t ah zs)) (gcuts t z))]
  | [], ah => rfl
  | y :: zs, ah => by
    show grt (sums ah (gcuts t y)) :: fronts t (grt (sums ah (gcuts t y))) (zs ++ [z]) = grt (sums ah (gcuts t y)) :: (fronts t (grt (sums ah (gcuts t y))) zs ++ [_])
    rw [fronts_snoc zs]
    congr 5
    unfold lastF
    show _ = ((grt (sums ah (gcuts t y)) :: fronts t (grt (sums ah (gcuts t y))) zs).getLast?).getD ah
    cases fronts t (grt (sums ah (gcuts t y))) zs with
    | nil => rfl
    | cons a l => rw [List.getLast?_cons_cons]; rfl
theorem fronts_length {t : Tb} : ∀ (zs : List Zo) (ah : List R3), (fronts t ah zs).length = zs.length
  | [], _ => rfl
  | z :: zs, ah => congrArg (· + 1) (fronts_length zs _)
theorem fronts_bx {t : Tb} : ∀ (zs : List Zo) (ah : List R3) (B : Nat), Bx B ah → (∀ z ∈ zs, Zok t z) → ∀ rs ∈ fronts t ah zs, (∃ l, rs = grt l) ∧ Bx (B + 6 * zs.length) rs
  | z :: zs, ah, B, hb, Z, rs, hrs => by
    have n := bx_next (Z z List.mem_cons_self) hb
    rcases List.mem_cons.mp hrs with rfl | hrs
    · refine ⟨⟨_, rfl⟩, fun x hx => ?_⟩
      have := n x hx
      rw [List.length_cons]
      omega
    · obtain ⟨h1, h2⟩ := fronts_bx zs _ (B + 6) n (fun y hy => Z y (List.mem_cons_of_mem _ hy)) rs hrs
      refine ⟨h1, fun x hx => ?_⟩
      have := h2 x hx
      rw [List.length_cons]
      omega
theorem bx_0 : Bx 0 [(0, 0, 0)] := fun x hx => by rw [List.mem_singleton.mp hx]; exact ⟨Nat.le_refl _, Nat.le_refl _, Nat.le_refl _⟩
theorem fronts_len {t : Tb} {zs : List Zo} (l : zs.length ≤ 4) (Z : ∀ z ∈ zs, Zok t z) {rs : List R3} (h : rs ∈ fronts t [(0, 0, 0)] zs) : rs.length ≤ 625 ∧ rs.Nodup ∧ Bx 24 rs := by
  obtain ⟨⟨l', rfl⟩, b⟩ := fronts_bx zs _ 0 bx_0 Z rs h
  have b : Bx 24 (grt l') := fun x hx => by have := b x hx; omega
  exact ⟨Nat.le_trans (grt_box (A := 24) fun x hx => ⟨(b x hx).1, (b x hx).2.1⟩) (by decide +kernel), grt_nd _, b⟩
/-! ### how they came -/
inductive Way (t : Tb) : List Zo → R3 → List R3 → Prop where
  | nil : Way t [] (0, 0, 0) []
  | snoc {zs : List Zo} {z : Zo} {r c : R3} {w : List R3} (h : Way t zs r w) (m : c ∈ gcuts t z) : Way t (zs ++ [z]) (ad3 r c) (w ++ [c])
def putW (kw : List (R3 × List R3)) (r : R3) (w : List R3) : List (R3 × List R3) := if r ∈ kw.map (·.1) then kw.map (fun p => if p.1 = r then (p.1, w) else p) else kw ++ [(r, w)]
theorem putW_keys {kw : List (R3 × List R3)} {r : R3} {w : List R3} : (putW kw r w).map (·.1) = ins3 (kw.map (·.1)) r := by
  unfold putW ins3
  split
  · rw [List.map_map]
    exact List.map_congr_left fun p _ => by
      show (if p.1 = r then (p.1, w) else p).1 = p.1
      split <;> rfl
  · rw [List.map_append]; rfl
theorem putW_all {P : R3 × List R3 → Prop} {kw : List (R3 × List R3)} {r : R3} {w : List R3} (h : ∀ p ∈ kw, P p) (n : P (r, w)) : ∀ p ∈ putW kw r w, P p := fun p hp => by
  unfold putW at hp
  split at hp
  · obtain ⟨q, hq, rfl⟩ := List.mem_map.mp hp
    split
    · rename_i e; rw [e]; exact n
    · exact h q hq
  · rcases List.mem_append.mp hp with hp | hp
    · exact h p hp
    · rw [List.mem_singleton.mp hp]; exact n
def kwD (kw : List (R3 × List R3)) : List (List Key × D) := kw.map fun p => (key3 p.1, rowsD p.2)
theorem put_kwD {kw : List (R3 × List R3)} {r : R3} {w : List R3} : putG (kwD kw) (key3 r) (rowsD w) = kwD (putW kw r w) := by
  have e : ((kwD kw).any fun kv => decide (kv.1 = key3 r)) = decide (r ∈ kw.map (·.1)) := by
    rw [Bool.eq_iff_iff, List.any_eq_true, decide_eq_true_eq, List.mem_map]
    constructor
    · rintro ⟨kv, h1, h2⟩
      obtain ⟨p, hp, rfl⟩ := List.mem_map.mp h1
      exact ⟨p, hp, key3_inj (of_decide_eq_true h2)⟩
    · rintro ⟨p, hp, rfl⟩
      exact ⟨_, List.mem_map_of_mem hp, decide_eq_true rfl⟩
  unfold putG putW
  rw [e]
  by_cases h : r ∈ kw.map (·.1)
  · rw [if_pos (decide_eq_true h), if_pos h]
    unfold kwD
    rw [List.map_map, List.map_map]
    refine List.map_congr_left fun p _ => ?_
    show (if key3 p.1 = key3 r then (key3 p.1, rowsD w) else (key3 p.1, rowsD p.2)) = (key3 (if p.1 = r then (p.1, w) else p).1, rowsD (if p.1 = r then (p.1, w) else p).2)
    by_cases q : p.1 = r
    · rw [if_pos q, if_pos (congrArg key3 q)]
    · rw [if_neg q, if_neg fun z => q (key3_inj z)]
  · rw [if_neg (by rw [decide_eq_true_eq]; exact h), if_neg h]
    unfold kwD
    rw [List.map_append]; rfl
end MR

/-! # G165: the laws' _law_fronts: the rows behind each zone, each with a way to it -/
namespace G
open PySem PySem.Spec PyProof.Rows L2 MR
section
variable {X : XQ} {Q : D → Hs → Prop} {h : Hs} {x y : R3} {e : Ev} {hs : Hs} {ds : List D} {z : Zo} {t : Tb} {zs : List Zo}
theorem _root_.MR.Way.len {r : R3} {w : List R3} (h : Way t zs r w) : w.length = zs.length := by
  induction h with
  | nil => rfl
  | snoc h m ih => rw [List.length_append, List.length_append, ih]; rfl
def wOf (kw : List (R3 × List R3)) (r : R3) : List R3 := ((kw.find? fun p => decide (p.1 = r)).map (·.2)).getD []
theorem wOf_kwD : ∀ {kw : List (R3 × List R3)} {r : R3}, r ∈ kw.map (·.1) → (r, wOf kw r) ∈ kw ∧ valG (kwD kw) (key3 r) = some (rowsD (wOf kw r))
  | p :: kw, r, h => by
    by_cases e : p.1 = r
    · subst e
      have e1 : wOf (p :: kw) p.1 = p.2 := by
        unfold wOf
        rw [List.find?_cons, show decide (p.1 = p.1) = true from decide_eq_true rfl]; rfl
      rw [e1]
      refine ⟨List.mem_cons_self, ?_⟩
      unfold valG kwD
      rw [List.map_cons, List.find?_cons, show decide ((key3 p.1, rowsD p.2).1 = key3 p.1) = true from decide_eq_true rfl]; rfl
    · have h : r ∈ kw.map (·.1) := (List.mem_cons.mp h).elim (fun z => absurd z.symm e) id
      obtain ⟨h1, h2⟩ := wOf_kwD h
      have e1 : wOf (p :: kw) r = wOf kw r := by
        unfold wOf
        rw [List.find?_cons, show decide (p.1 = r) = false from decide_eq_false e]
      rw [e1]
      refine ⟨List.mem_cons_of_mem _ h1, ?_⟩
      unfold valG kwD at h2 ⊢
      rw [List.map_cons, List.find?_cons, show decide ((key3 p.1, rowsD p.2).1 = key3 r) = false from decide_eq_false fun z => e (key3_inj z)]
      exact h2
/-- a dict of rows and ways, locked -/
def dltD (kw : List (R3 × List R3)) : D := .dlt (kw.map fun p => key3 p.1) (kw.map fun p => rowsD p.2)
theorem zip_kwD : ∀ kw : List (R3 × List R3), (kw.map fun p => key3 p.1).zip (kw.map fun p => rowsD p.2) = kwD kw
  | [] => rfl
  | p :: kw => by
    show (key3 p.1, rowsD p.2) :: ((kw.map fun p => key3 p.1).zip (kw.map fun p => rowsD p.2)) = _
    rw [zip_kwD kw]; rfl
theorem dget_dlt {kw : List (R3 × List R3)} (m : x ∈ kw.map (·.1)) : gDget h (dltD kw) (r3D x) = some (rowsD (wOf kw x)) := by
  have e : atD h (dltD kw) (r3D x) = some (valG ((kw.map fun p => key3 p.1).zip (kw.map fun p => rowsD p.2)) (key3 x)) := rfl
  unfold gDget
  rw [e, zip_kwD, (wOf_kwD m).2]
theorem dget_kwD {n : Nat} {kw : List (R3 × List R3)} (e : h[n]? = some (.dt (kwD kw))) (m : x ∈ kw.map (·.1)) : gDget h (.ref n) (r3D x) = some (rowsD (wOf kw x)) := by
  rw [← key3_tup]
  exact dget_t e (wOf_kwD m).2
theorem set_kwD {n : Nat} {kw : List (R3 × List R3)} {w : List R3} (e : h[n]? = some (.dt (kwD kw))) (l : kw.length ≤ 10000000) : mSetA h (.ref n) (r3D x) (rowsD w) = some (h.set n (.dt (kwD (putW kw x w)))) := by
  have := set_dt (k := key3 x) (ds := [.int (x.1 : Int), .int (x.2.1 : Int), .int (x.2.2 : Int)]) (v := rowsD w) e rfl (by unfold kwD; rw [List.length_map, sizeLine_eq]; omega)
  rw [put_kwD] at this
  exact this
theorem list_kwD {n : Nat} {kw : List (R3 × List R3)} (e : h[n]? = some (.dt (kwD kw))) : ((dtR h (.ref n)).map fun kvs => kvs.map fun kv => tupK kv.1) = some ((kw.map (·.1)).map r3D) := by
  have e2 : dtR h (.ref n) = some (kwD kw) := by
    show (match h[n]? with | some (.dt kvs) => some kvs | some (.lkd (.dt kvs)) => some kvs | _ => none) = _
    rw [e]
  rw [e2]
  show some ((kwD kw).map fun kv => tupK kv.1) = _
  unfold kwD
  rw [List.map_map, List.map_map]; rfl
theorem pairsT_kw : ∀ kw : List (R3 × List R3), pairsT (kw.map fun p : R3 × List R3 => .tup [r3D p.1, rowsD p.2]) = some (kwD kw)
  | [] => rfl
  | p :: kw => by
    show (match some (key3 p.1, rowsD p.2) with | some kv => (match pairsT (kw.map fun p : R3 × List R3 => .tup [r3D p.1, rowsD p.2]) with | some r => some (kv :: r) | none => none) | none => none) = _
    rw [pairsT_kw kw]; rfl
theorem mrg_kwD : ∀ (more kw : List (R3 × List R3)), ((kw ++ more).map (·.1)).Nodup → mrgG (kwD kw) (kwD more) = kwD (kw ++ more)
  | [], kw, _ => by rw [List.append_nil]; rfl
  | p :: more, kw, n => by
    have hn : p.1 ∉ kw.map (·.1) := by
      rw [List.map_append, List.map_cons] at n
      have := (List.nodup_append.mp n).2.2
      exact fun hp => this _ hp _ List.mem_cons_self rfl
    show mrgG (putG (kwD kw) (key3 p.1) (rowsD p.2)) (kwD more) = _
    rw [put_kwD, show putW kw p.1 p.2 = kw ++ [p] by unfold putW; rw [if_neg hn], mrg_kwD more (kw ++ [p]) (by rw [List.append_assoc]; exact n), List.append_assoc]; rfl
theorem dictPT_kw {kw : List (R3 × List R3)} (n : (kw.map (·.1)).Nodup) : gDictPT (kw.map fun p : R3 × List R3 => .tup [r3D p.1, rowsD p.2]) = some (dltD kw) := by
  unfold gDictPT
  rw [pairsT_kw]
  dsimp only
  have := mrg_kwD kw [] (by rw [List.nil_append]; exact n)
  rw [show kwD [] = [] from rfl, List.nil_append] at this
  rw [this]
  unfold dltD kwD
  rw [List.map_map, List.map_map]; rfl
theorem mset_mid {t' : Hs} {o o' : O} : ((h ++ [o]) ++ t').set h.length o' = (h ++ [o']) ++ t' := by
  rw [List.append_assoc, List.append_assoc, List.set_append_right _ _ (Nat.le_refl _), Nat.sub_self]; rfl
theorem get_mid {t' : Hs} {o : O} : ((h ++ [o]) ++ t')[h.length]? = some o := by
  rw [List.getElem?_append_left (by rw [List.length_append]; exact Nat.lt_succ_self _)]; exact get_new
/-- what _law_fronts tells -/
structure Frs (t : Tb) (zs : List Zo) (ks : List (List (R3 × List R3))) : Prop where
  keys : ks.map (fun kw => kw.map (·.1)) = fronts t [(0, 0, 0)] zs
  ways : ∀ i, ∀ kw, ks[i]? = some kw → ∀ p ∈ kw, Way t (zs.take (i + 1)) p.1 p.2
theorem val_dlt (kw : List (R3 × List R3)) : val (dltD kw) = true := vals_all fun x hx => by
  obtain ⟨p, _, rfl⟩ := List.mem_map.mp hx
  exact vals_all fun y hy => by
    obtain ⟨q, _, rfl⟩ := List.mem_map.mp hy
    rfl
theorem lastF_snoc {ah : List R3} {fr : List (List R3)} {rs : List R3} : lastF ah (fr ++ [rs]) = rs := by
  unfold lastF
  rw [List.getLast?_concat]; rfl
theorem Frs.len {ks : List (List (R3 × List R3))} (F : Frs t zs ks) : ks.length = zs.length := by
  have := congrArg List.length F.keys
  rw [List.length_map, fronts_length] at this
  exact this
theorem Frs.next {ks : List (List (R3 × List R3))} {kw : List (R3 × List R3)} (F : Frs t zs ks) (e : kw.map (·.1) = grt (sums (lastF [(0, 0, 0)] (fronts t [(0, 0, 0)] zs)) (gcuts t z))) (w : ∀ p ∈ kw, Way t (zs ++ [z]) p.1 p.2) : Frs t (zs ++ [z]) (ks ++ [kw]) := by
  refine ⟨by rw [List.map_append, F.keys, fronts_snoc, ← e]; rfl, fun i kw' hi p hp => ?_⟩
  by_cases hl : i < ks.length
  · rw [List.getElem?_append_left hl] at hi
    have := F.ways i kw' hi p hp
    rw [List.take_append_of_le_length (by rw [← F.len]; omega)]
    exact this
  · have hl : ks.length ≤ i := Nat.le_of_not_lt hl
    rw [List.getElem?_append_right hl] at hi
    have h0 : i - ks.length = 0 := by
      cases hj : i - ks.length with
      | zero => rfl
      | succ j => rw [hj] at hi; cases hi
    rw [h0] at hi
    have hi : some kw = some kw' := hi
    have ei : i = ks.length := by omega
    rw [← Option.some.inj hi] at hp
    rw [List.take_of_length_le (by rw [List.length_append, ← F.len, ei]; exact Nat.le_refl _)]
    exact w p hp
theorem fronts_wp (T : Tok t) (hL : ∀ z ∈ zs, z.2 ≤ 24) (l4 : zs.length ≤ 4) (c : ∀ ks, Frs t zs ks → Q (.lst (ks.map dltD)) h) : Wp (c_fronts [.tup (zs.map znD), tbD t] h) Q X := by
  have Z : ∀ z ∈ zs, Zok t z := fun z hz => T.zk (hL z hz)
  unfold c_fronts f_fronts
  refine wp_gcF (wp_mono (Q := fun d h1 => ∃ ks tl, Frs t zs ks ∧ d = .ref h.length ∧ h1 = (h ++ [.lst (ks.map dltD)]) ++ tl) (X := fun _ _ _ => False) ?_ (fun d h1 q => ?_) fun _ _ _ x => x.elim)
  · refine wp_bodyE [some (.tup (zs.map znD)), some (tbD t), none, none, none, none, none, none, none] rfl ?_
    refine ws_seq (ws_set (wp_dispL ?_))
    fail "n"
    refine ⟨_, _, key3 (0, 0, 0), rfl, rfl, ?_⟩
    fail "n"
    refine ws_for (wp_any ?_)
    fail "n"
    refine ⟨zs.length, fun i e g => ∃ kw ks tl x4 x5 x6 x7 x8, Frs t (zs.take i) ks ∧ kw.map (·.1) = lastF [(0, 0, 0)] (fronts t [(0, 0, 0)] (zs.take i)) ∧ (∀ p ∈ kw, Way t (zs.take i) p.1 p.2) ∧ g = (h ++ [.lst (ks.map dltD)]) ++ tl ∧
      e = [some (.tup (zs.map znD)), some (tbD t), some (dltD kw), some (.ref h.length), x4, x5, x6, x7, x8], by omega, ⟨[((0, 0, 0), [])], [], [], _, _, _, _, _, ⟨rfl, fun i kw e => nomatch e⟩, rfl, fun p hp => by rw [List.mem_singleton.mp hp]; exact .nil, (List.append_nil _).symm, rfl⟩, ?_, ?_⟩
    · rintro i _ g hi ⟨kw, ks, tl, x4, x5, x6, x7, x8, F, ek, ew, rfl, rfl⟩
      have hz := Z zs[i] (List.getElem_mem hi)
      have lc := gcuts_len hz
      have lk : ks.length = i := by rw [F.len, List.length_take]; omega
      have lk5 : ks.length ≤ 50000 := by omega
      have lkw : kw.length ≤ 625 := by
        rw [← List.length_map (f := fun p : R3 × List R3 => p.1), ek]
        unfold lastF
        cases el : (fronts t [(0, 0, 0)] (zs.take i)).getLast? with
        | none => exact Nat.le_of_ble_eq_true rfl
        | some rs => exact (fronts_len (zs := zs.take i) (by rw [List.length_take]; omega) (fun z hz => Z z (List.mem_of_mem_take hz)) (List.mem_of_getLast? el)).1
      refine ⟨znD zs[i], _, by unfold nxL; rw [List.getElem?_map, List.getElem?_eq_getElem hi]; rfl, rfl, ?_⟩
      obtain ⟨G0, eG⟩ : ∃ G0, G0 = (h ++ [O.lst (ks.map dltD)]) ++ tl := ⟨_, rfl⟩
      rw [← eG]
      fail "n"
      refine wp_of (counts_eq hz) ?_
      fail "n"
      refine wp_of (least_rows_eq (Nat.le_trans (lcuts_len hz) (by decide))) ?_
      rw [lcuts_grt hz]
      fail "n"
      refine ws_for (wp_keysF ?_)
      fail "n"
      refine .inr ⟨_, _, rfl, ?_⟩
      refine ⟨kw.length, fun j e k => ∃ kw2 x7 x8, kw2.map (·.1) = sumsI (kw.map (·.1)) (gcuts t zs[i]) j ∧ (∀ p ∈ kw2, Way t (zs.take i ++ [zs[i]]) p.1 p.2) ∧ k = G0 ++ [.dt (kwD kw2)] ∧
        e = [some (.tup (zs.map znD)), some (tbD t), some (dltD kw), some (.ref h.length), some (znD zs[i]), some (.ref G0.length), some (.lst ((gcuts t zs[i]).map r3D)), x7, x8], by omega, ⟨[], _, _, rfl, (fun _ z => nomatch z), rfl, rfl⟩, ?_, ?_⟩
      · rintro j _ k hj ⟨kw2, x7, x8, e2, w2, rfl, rfl⟩
        have mj : kw[j].1 ∈ kw.map (·.1) := List.mem_map_of_mem (List.getElem_mem hj)
        have wj := ew _ (wOf_kwD mj).1
        have lw := wj.len
        dsimp only at wj lw
        rw [List.length_take] at lw
        have lw5 : (wOf kw kw[j].1).length ≤ 50000 := by omega
        refine ⟨r3D kw[j].1, _, by unfold nxL; rw [List.map_map, List.getElem?_map, List.getElem?_eq_getElem hj]; rfl, rfl, ?_⟩
        refine ws_for (wp_any ?_)
        fail "n"
        refine ⟨(gcuts t zs[i]).length, fun m e k => ∃ kw3 x8, kw3.map (·.1) = (((gcuts t zs[i]).take m).map (ad3 kw[j].1)).foldl ins3 (sumsI (kw.map (·.1)) (gcuts t zs[i]) j) ∧ (∀ p ∈ kw3, Way t (zs.take i ++ [zs[i]]) p.1 p.2) ∧ k = G0 ++ [.dt (kwD kw3)] ∧
          e = [some (.tup (zs.map znD)), some (tbD t), some (dltD kw), some (.ref h.length), some (znD zs[i]), some (.ref G0.length), some (.lst ((gcuts t zs[i]).map r3D)), some (r3D kw[j].1), x8], by omega, ⟨kw2, _, e2, w2, rfl, rfl⟩, ?_, ?_⟩
        · rintro m _ k hm ⟨kw3, x8, e3, w3, rfl, rfl⟩
          have l3 : kw3.length ≤ 10000000 := by
            have l1 := fold3_len (((gcuts t zs[i]).take m).map (ad3 kw[j].1)) (sumsI (kw.map (·.1)) (gcuts t zs[i]) j)
            have l2 := sumsI_len (rs := kw.map (·.1)) (cs := gcuts t zs[i]) (i := j)
            rw [List.length_map, List.length_take] at l1
            rw [List.length_map] at l2
            have l4 : kw.length * (gcuts t zs[i]).length ≤ 625 * 49 := Nat.mul_le_mul lkw lc
            have l5 := congrArg List.length e3
            rw [List.length_map] at l5
            omega
          refine ⟨r3D (gcuts t zs[i])[m], _, by unfold nxL; rw [List.getElem?_map, List.getElem?_eq_getElem hm]; rfl, rfl, ?_⟩
          have er : D.tup ((wOf kw kw[j].1).map r3D ++ [r3D (gcuts t zs[i])[m]]) = rowsD (wOf kw kw[j].1 ++ [(gcuts t zs[i])[m]]) := by
            show _ = D.tup _
            rw [List.map_append]; rfl
          fail "n"
          refine wp_some (dget_dlt mj) ?_
          fail "n"
          rw [er]
          refine wp_of added_eq ?_
          fail "n"
          refine ⟨_, set_kwD get_new l3, ?_⟩
          refine ⟨putW kw3 (ad3 kw[j].1 (gcuts t zs[i])[m]) (wOf kw kw[j].1 ++ [(gcuts t zs[i])[m]]), _, ?_, putW_all w3 (.snoc wj (List.getElem_mem hm)), set_app, rfl⟩
          rw [putW_keys, e3, List.take_succ_eq_append_getElem hm, List.map_append, List.foldl_append]; rfl
        · rintro _ k ⟨kw3, x8, e3, w3, rfl, rfl⟩
          refine ⟨by unfold nxL; rw [List.getElem?_map, List.getElem?_eq_none (Nat.le_refl _)]; rfl, ?_⟩
          refine ⟨kw3, _, _, ?_, w3, rfl, rfl⟩
          rw [e3, List.take_length, sumsI_succ (by rw [List.length_map]; exact hj), List.getElem_map]
      · rintro _ k ⟨kw2, x7, x8, e2, w2, rfl, rfl⟩
        refine ⟨by unfold nxL; rw [List.map_map, List.getElem?_map, List.getElem?_eq_none (Nat.le_refl _)]; rfl, ?_⟩
        have e2 : kw2.map (·.1) = sums (kw.map (·.1)) (gcuts t zs[i]) := by
          rw [e2]
          unfold sumsI sums
          rw [← List.length_map (f := fun p : R3 × List R3 => p.1) (as := kw), List.take_length]
        have l2 : (kw2.map (·.1)).length ≤ 625 * 49 := by
          rw [e2]
          refine Nat.le_trans sums_len (Nat.mul_le_mul ?_ lc)
          rw [List.length_map]; exact lkw
        have nd2 : (kw2.map (·.1)).Nodup := by rw [e2]; exact nd_sums
        fail "n"
        refine wp_dictPT ?_
        refine wp_cma r3D (fun r => .tup [r3D r, rowsD (wOf kw2 r)]) (wp_any ?_)
        fail "n"
        refine wp_some (list_kwD get_new) ?_
        fail "n"
        refine wp_of (least_rows_eq (by omega)) ?_
        fail "n"
        refine ⟨Nat.le_trans (grt_len _) (by omega), fun r hr => ⟨_, rfl, ?_⟩, ?_⟩
        · fail "n"
          refine wp_some (dget_kwD get_new (grt_sub hr)) ?_
          fail "n"
          first | rfl | exact ⟨rfl, rfl⟩
        have e4 : ((grt (kw2.map (·.1))).map fun r => D.tup [r3D r, rowsD (wOf kw2 r)]) = (((grt (kw2.map (·.1))).map fun r => (r, wOf kw2 r)).map fun p : R3 × List R3 => .tup [r3D p.1, rowsD p.2]) := by rw [List.map_map]; rfl
        have e5 : ((grt (kw2.map (·.1))).map fun r => (r, wOf kw2 r)).map (·.1) = grt (kw2.map (·.1)) := by
          rw [List.map_map]
          exact (List.map_congr_left fun x _ => rfl).trans (List.map_id _)
        rw [e4]
        refine wp_some (dictPT_kw (by rw [e5]; exact grt_nd _)) ?_
        subst eG
        fail "n"
        refine ⟨isL_ref (get_app get_mid), ?_⟩
        fail "n"
        refine wp_someP (app_ref2 (get_app get_mid) (by rw [List.length_map]; omega)) ?_
        fail "n"
        have et : zs.take (i + 1) = zs.take i ++ [zs[i]] := List.take_succ_eq_append_getElem hi
        have e6 : ((grt (kw2.map (·.1))).map fun r => (r, wOf kw2 r)).map (·.1) = grt (sums (lastF [(0, 0, 0)] (fronts t [(0, 0, 0)] (zs.take i))) (gcuts t zs[i])) := by rw [e5, e2, ek]
        have w6 : ∀ p ∈ (grt (kw2.map (·.1))).map fun r => (r, wOf kw2 r), Way t (zs.take i ++ [zs[i]]) p.1 p.2 := fun p hp => by
          obtain ⟨r, hr, rfl⟩ := List.mem_map.mp hp
          exact w2 _ (wOf_kwD (grt_sub hr)).1
        refine ⟨(grt (kw2.map (·.1))).map fun r => (r, wOf kw2 r), ks ++ [(grt (kw2.map (·.1))).map fun r => (r, wOf kw2 r)], tl ++ [.dt (kwD kw2)], _, _, _, _, _, by rw [et]; exact F.next e6 w6, by rw [et, fronts_snoc, lastF_snoc]; exact e6, by rw [et]; exact w6, ?_, rfl⟩
        rw [List.append_assoc (h ++ _), mset_mid, List.map_append]; rfl
    · rintro _ g ⟨kw, ks, tl, x4, x5, x6, x7, x8, F, ek, ew, rfl, rfl⟩
      refine ⟨by unfold nxL; rw [List.getElem?_map, List.getElem?_eq_none (Nat.le_refl _)]; rfl, ?_⟩
      rw [List.take_length] at F
      fail "n"
      exact ⟨ks, tl, F, rfl, rfl⟩
  · obtain ⟨ks, tl, F, rfl, rfl⟩ := q
    refine ⟨_, dH_lst get_mid (Nat.le_refl _) (vals_all fun x hx => ?_), by rw [List.append_assoc]; exact cls_app, ?_⟩
    · obtain ⟨y, _, rfl⟩ := List.mem_map.mp hx
      exact val_dlt y
    · rw [List.append_assoc, take_app]
      exact c ks F
end
/-! # G166: what the laws of papers share (k16 .. k18, k14, k84) -/
instance evt_r3_0 {h : Hs} {x : R3} : Evt (gIx h (r3D x) (.int 0)) (.int (x.1 : Int)) := ⟨ix_tup (atI_nat (by decide) rfl)⟩
instance evt_r3_1 {h : Hs} {x : R3} : Evt (gIx h (r3D x) (.int 1)) (.int (x.2.1 : Int)) := ⟨ix_tup (atI_nat (by decide) rfl)⟩
instance evt_r3_2 {h : Hs} {x : R3} : Evt (gIx h (r3D x) (.int 2)) (.int (x.2.2 : Int)) := ⟨ix_tup (atI_nat (by decide) rfl)⟩
instance st_wp_sortL {e : Ev} {hs : Hs} {X : XQ} {f : FE} {Q : List D → Hs → Prop} : Stp (Wp (lSortL f e hs) Q X) (Wp (f e hs) (fun d h => Wp (R.ofO (gSortL h d) h) Q X) X) := ⟨fun z => wp_sortL z⟩
section
variable {L : Nat} {K : Hs → Prop} {h : Hs} {Q : D → Hs → Prop} {X : XQ} {d : D} {n k B : Nat} {t : Tb} {zs : List Zo} {z : Zo}
def ZzR (d : D) : Prop := ∃ z : Zo, d = znD z ∧ z.2 ≤ 24
theorem ZzR.vl (z : ZzR d) : val d = true := by obtain ⟨z, rfl, _⟩ := z; rfl
theorem zzR_all : ∀ {ds : List D}, (∀ x ∈ ds, ZzR x) → ∃ zs : List Zo, ds = zs.map znD ∧ ∀ z ∈ zs, z.2 ≤ 24
  | [], _ => ⟨[], rfl, fun _ z => nomatch z⟩
  | d :: ds, h => by
    obtain ⟨zs, rfl, h1⟩ := zzR_all fun x hx => h x (List.mem_cons_of_mem _ hx)
    obtain ⟨z, rfl, h2⟩ := h d List.mem_cons_self
    exact ⟨z :: zs, rfl, fun y hy => (List.mem_cons.mp hy).elim (fun e => e ▸ h2) (h1 y)⟩
theorem grt_ne {rows : List R3} (h : 0 < rows.length) : 0 < (grt rows).length := by
  have hm := grt_cov (List.getElem_mem h)
  obtain ⟨y, hy, _⟩ := cov_iff.mp hm
  exact List.length_pos_of_mem hy
theorem gcuts_ne (Z : Zok t z) : 0 < (gcuts t z).length := by
  refine grt_ne (List.length_pos_of_mem (a := (0, 0, 0)) ((mem_cuts Z.a Z.b Z.c).mpr ⟨fun _ => rfl, fun _ => rfl, fun _ => rfl, ?_⟩))
  unfold used
  simp
theorem sums_ne {rs cs : List R3} (a : 0 < rs.length) (b : 0 < cs.length) : 0 < (sums rs cs).length :=
  List.length_pos_of_mem (mem_sums.mpr ⟨_, List.getElem_mem a, _, List.getElem_mem b, rfl⟩)
theorem fronts_ne : ∀ (zs : List Zo) (ah : List R3), 0 < ah.length → (∀ z ∈ zs, Zok t z) → ∀ rs ∈ fronts t ah zs, 0 < rs.length
  | z :: zs, ah, ha, Z, rs, hrs => by
    have n := grt_ne (sums_ne ha (gcuts_ne (Z z List.mem_cons_self)))
    rcases List.mem_cons.mp hrs with rfl | hrs
    · exact n
    · exact fronts_ne zs _ n (fun y hy => Z y (List.mem_cons_of_mem _ hy)) rs hrs
theorem frs_last {ks : List (List (R3 × List R3))} (F : Frs t zs ks) (h : 0 < ks.length) : (ks[ks.length - 1]'(by omega)).map (·.1) = lastF [(0, 0, 0)] (fronts t [(0, 0, 0)] zs) := by
  unfold lastF
  rw [← F.keys, List.getLast?_map, List.getLast?_eq_getElem?, List.getElem?_eq_getElem (by omega)]; rfl
theorem max_l {n : Int} {ns : List Int} : gMaxL h [.lst ((n :: ns).map D.int)] = some (.int (maxI (n :: ns))) := by
  show (match intsOf ((n :: ns).map D.int) with | some (n :: ns) => some (D.int (maxI (n :: ns))) | _ => none) = _
  rw [intsOf_map]
/-- the most of some rows -/
theorem max_rows {rs : List R3} (h0 : 0 < rs.length) {m : R3} : ∃ M : Int, gMaxL h [.lst (rs.map fun r => .int (pr3 m r : Int))] = some (.int M) ∧ (∀ r ∈ rs, (pr3 m r : Int) ≤ M) ∧ ∃ r ∈ rs, (pr3 m r : Int) = M := by
  cases rs with
  | nil => cases h0
  | cons r rs =>
    have e : (r :: rs).map (fun r => D.int (pr3 m r : Int)) = ((pr3 m r : Int) :: rs.map fun r => (pr3 m r : Int)).map D.int := by
      rw [List.map_cons, List.map_cons, List.map_map]; rfl
    rw [e]
    refine ⟨_, max_l, fun q hq => ?_, ?_⟩
    · refine maxI_ge ?_
      rcases List.mem_cons.mp hq with rfl | hq
      · exact List.mem_cons_self
      · exact List.mem_cons_of_mem _ (List.mem_map_of_mem hq)
    · have hm := maxI_mem (ns := (pr3 m r : Int) :: rs.map fun r => (pr3 m r : Int)) (List.cons_ne_nil _ _)
      generalize maxI ((pr3 m r : Int) :: rs.map fun r => (pr3 m r : Int)) = M at hm
      rcases List.mem_cons.mp hm with e | hm
      · exact ⟨r, List.mem_cons_self, e.symm⟩
      · obtain ⟨q, hq, e⟩ := List.mem_map.mp hm
        exact ⟨q, List.mem_cons_of_mem _ hq, e⟩
theorem sk_new2 {z s g : D} {N : Nat} (l : N ≤ h.length) (vz : val z = true) (vs : val s = true) (vg : val g = true) : dW (dH (h ++ [.ins "Skin" (skF z s g)]) N 50) (.ref h.length) = some (skD z s g) := by
  have v : vals ((skF z s g).map (·.2)) = true := by
    show (val z && (val s && (val g && true))) = true
    rw [vz, vs, vg]; rfl
  exact dH_ins (k := 49) get_new l v
theorem lst_last {ds : List D} (l : 0 < ds.length) : gIx h (.lst ds) (.int (-1)) = some (ds[ds.length - 1]'(by omega)) := by
  refine ix_lst ?_
  unfold L2.atI L2.ixN
  rw [if_neg (by decide), if_pos (by omega)]
  show ds[((-1 : Int) + ds.length).toNat]? = _
  rw [show ((-1 : Int) + ds.length).toNat = ds.length - 1 by omega, List.getElem?_eq_getElem (by omega)]
end
end G

/-! # G167: min of a tuple of numbers -/
namespace G
open PySem PySem.Spec PyProof.Rows L2
section
end
/-! # G168: for x in reversed(list) -/
/-- a list of ours from its end, as long as it was -/
def nxRv (n k : Nat) : Nx := fun hs i => if k ≤ i then some none else match hs[n]? with | some (.lst ds) => (match ds[k - 1 - i]? with | some d => some (some d) | none => none) | _ => none
def iRevR (f : FE) : FI := fun e hs => (f e hs).bind fun d hs => match d with
  | .ref n => (match hs[n]? with | some (.lst ds) => .ok (nxRv n ds.length) hs | _ => .bad)
  | _ => .bad
section
variable {X : Cx} {Wd : WX} {tg a : Expr} {f1 : FE}
theorem ui_revR {p pos : Pos} (hg : L2.Gl X "reversed") (hm : X.mg "reversed" = none) (ha : UE X Wd a f1) (hs1 : starEach [a] X.env = (false, eval a X.env) :: starEach [] X.env := by rfl) : UI X Wd tg (.Call (.Name "reversed" p) [a] [] pos) (iRevR f1) := by
  refine PI.imp (RT.pi_revA hg hm ha hs1) fun σ H Q h => ?_
  obtain ⟨e, mu, hs, S, E, q⟩ := tG_seq (r := relD X.K) relI_ok h
  refine ⟨e, mu, hs, S, E, q.imp fun x H1 ⟨e, mu1, hs1, d, S1, E1, r1, g1⟩ => ?_⟩
  cases r1 with
  | ref hn =>
    dsimp only at g1
    split at g1
    · rename_i ds hd
      obtain ⟨u, e1, e2⟩ := S1.at hn hd
      cases u <;> first
        | (rename_i vs
           have e2 : RDs _ _ _ ds vs := e2
           refine ⟨_, vs, rfl, .inl ⟨.of e1, ?_⟩⟩
           rw [← e2.length]
           refine g1 mu1 H1 _ .refl S1 ?_
           intro mu' H' hs' l s i
           have hn' := (l.agr S1).get hn
           refine ⟨fun q => ?_, fun d q => ?_⟩
           · unfold nxRv at q
             split at q
             · rename_i hk
               exact hk
             · split at q
               · split at q <;> cases q
               · cases q
           · unfold nxRv at q
             split at q
             · cases q
             · rename_i hk
               split at q
               · rename_i ds' hd'
                 obtain ⟨u', f1, f2⟩ := s.at hn' hd'
                 cases u' <;> first
                   | (rename_i vs'
                      have f2 : RDs _ _ _ ds' vs' := f2
                      split at q
                      · rename_i d' hd2
                        cases q
                        obtain ⟨v, g1, g2⟩ := RDs.get f2 hd2
                        refine ⟨⟨by omega, vs', v, .of f1, g1⟩, fun x H2 y => ?_⟩
                        obtain ⟨rfl, y⟩ := y
                        have := y vs' (.of f1)
                        rw [g1] at this; cases this
                        exact ⟨.refl, s, g2⟩
                      · cases q)
                   | exact f2.elim
               · cases q)
        | exact e2.elim
    · exact g1.elim
  | _ => exact g1.elim
end
section
variable {e : Ev} {hs h : Hs} {X : XQ}
theorem wp_revR {f : FE} {Q : Nx → Hs → Prop} (q : Wp (f e hs) (fun d h => ∃ n ds, d = .ref n ∧ h[n]? = some (.lst ds) ∧ Q (nxRv n ds.length) h) X) : Wp (iRevR f e hs) Q X := by
  refine wp_bind (wp_mono q (fun d h' q => ?_) fun _ _ _ x => x)
  obtain ⟨n, ds, rfl, e1, q⟩ := q
  dsimp only
  rw [e1]
  exact wp_ok q
theorem nxRv_at {n i : Nat} {ds : List D} (e : h[n]? = some (.lst ds)) (hi : i < ds.length) : nxRv n ds.length h i = some (some (ds[ds.length - 1 - i]'(by omega))) := by
  unfold nxRv
  rw [if_neg (by omega), e]
  dsimp only
  rw [List.getElem?_eq_getElem (by omega)]
theorem nxRv_stop {n k : Nat} : nxRv n k h k = some none := by
  unfold nxRv
  rw [if_pos (Nat.le_refl _)]
end
end G

/-! # G169: the program's most_pairs: the ways behind each zone -/
namespace G
open PySem PySem.Spec PyProof.Rows L2 MR
noncomputable section
def f_ways_behind : FS := (sSeq (sSet 3 (eFn c_greatest [0] [] (aCons (eFn c_zone_cuts [0, 1] [] (aCons (eName 1) (aCons (eName 2) aNil))) aNil)))
  (sSeq (sSet 4 eD0T)
  (sSeq (sFor (iAny (eName 0)) (nSet 5)
  (sFor (iAny (eName 3)) (nSet 6)
  (sSub mSetA (eTup (aCons (eName 5) (aCons (eName 6) aNil))) (eName 4) (eFn c_together [0, 1] [] (aCons (eName 5) (aCons (eName 6) aNil))))))
  (sRet (eDictPT (lComp (iAny (eFn c_greatest [0] [] (aCons (eName 4) aNil))) (nSet 5) tYesF (eTup (aCons (eName 5) (aCons (eBin gDget (eName 4) (eName 5)) aNil))) [5]))))))
def c_ways_behind : List D → Hs → R D := gcF (fnBody 7 f_ways_behind)
def f_whole_cut : FS := (sSeq (sSetC 3 false (lComp (iAny (eName 0)) (nSet 7) tYesF (eBin gMul (eName 2) (eBin gIx (eName 7) (eC (.int 2)))) [7]))
  (sSeq (sSet 4 (eM aNil))
  (sSeq (sFor (iAny (eName 1)) (nSet 5)
  (sSeq (sSetC 6 false (lComp (iOf zpS (aCons (eName 5) (aCons (eName 3) aNil))) (nTup 2 (nCons (nSet 8) (nCons (nSet 9) nNil))) tYesF (eCall gMin2 (aCons (eName 8) (aCons (eName 9) aNil))) [8, 9]))
  (sSeq (sSetC 3 false (lComp (iOf zpS (aCons (eName 3) (aCons (eName 6) aNil))) (nTup 2 (nCons (nSet 9) (nCons (nSet 8) nNil))) tYesF (eBin gSub (eName 9) (eName 8)) [9, 8]))
  (sDrop (eMt isL mAppend (eName 4) (aCons (eCall gTuple (aCons (eName 6) aNil)) aNil))))))
  (sRet (eCall gTuple (aCons (eName 4) aNil))))))
def c_whole_cut : List D → Hs → R D := gcF (fnBody 10 f_whole_cut)
def f_most_pairs : FS := (sSeq (sSet 2 (eM aNil))
  (sSeq (sSet 3 (eV (aCons (eTup (aCons (eC (.int 0)) (aCons (eC (.int 0)) (aCons (eC (.int 0)) aNil)))) aNil)))
  (sSeq (sFor (iAny (eUn (gFld ["Skin"] "zones") (eName 0))) (nSet 4)
  (sSeq (sDrop (eMt isL mAppend (eName 2) (aCons (eFn c_ways_behind [0, 1, 2] [] (aCons (eName 3) (aCons (eName 4) (aCons (eName 1) aNil)))) aNil)))
  (sSet 3 (eV (lListT (eBin gIx (eName 2) (eUn gNeg (eC (.int 1)))))))))
  (sSeq (sSet 5 (eCall gMaxL (aCons (eV (lComp (iAny (eName 3)) (nSet 10) tYesF (eFn c_pairs_for [0, 1] [] (aCons (eName 1) (aCons (eName 10) aNil))) [10])) aNil)))
  (sSeq (sSet 6 (eBin gIx (eV (lComp (iAny (eName 3)) (nSet 10) (eB (eBin gEq (eFn c_pairs_for [0, 1] [] (aCons (eName 1) (aCons (eName 10) aNil))) (eName 5))) (eName 10) [10])) (eC (.int 0))))
  (sSeq (sSet 7 (eM aNil))
  (sSeq (sFor (iRevR (eName 2)) (nSet 8)
  (sSeq (sAsg (nTup 2 (nCons (nSet 6) (nCons (nSet 9) nNil))) (eBin gDget (eName 8) (eName 6)))
  (sDrop (eMt isL mAppend (eName 7) (aCons (eName 9) aNil)))))
  (sRet (eTup (aCons (eName 5) (aCons (eFn c_whole_cut [0, 1, 2] [] (aCons (eName 1) (aCons (eUn gRev (eName 7)) (aCons (eName 5) aNil)))) (aCons (eCall gTuple (aCons (eV (lComp (iAny (eName 2)) (nSet 8) tYesF (eCall gTuple (aCons (eV (lSortL (eName 8))) aNil)) [8])) aNil)) aNil))))))))))))
def c_most_pairs : List D → Hs → R D := gcF (fnBody 11 f_most_pairs)

end
section
variable {X : XQ} {Q : D → Hs → Prop} {h : Hs} {x y : R3} {e : Ev} {hs : Hs} {ds : List D} {z : Zo} {t : Tb} {zs : List Zo}
/-- sorted(set(d)) of a dict with tuples as keys -/
theorem setSort_dt {n : Nat} {kvs : List (List Key × D)} (e : h[n]? = some (.dt kvs)) (ok : okKs (kvs.map (·.1)) = true) (few : kvs.length < 4000) : gSetSort h (.ref n) = some ((sortK (uq (kvs.map (·.1)))).map tupK) := by
  have e1 : seqOf h (.ref n) = none := by
    show (match (match h[n]? with | some (.lst ds) => some ds | _ => none) with | some ds => some ds | none => tupOf (.ref n)) = none
    rw [e]; rfl
  have e2 : dtR h (.ref n) = some kvs := by
    show (match h[n]? with | some (.dt kvs) => some kvs | some (.lkd (.dt kvs)) => some kvs | _ => none) = _
    rw [e]
  unfold gSetSort
  rw [e1]
  dsimp only
  rw [e2]
  dsimp only
  rw [if_pos ⟨ok, few⟩]
theorem greatest_gen {d : D} {rows : List R3} (few : rows.length < 4000) (hd : gSetSort (h ++ [.lst []]) d = some ((srt rows).map r3D)) : c_greatest [d] h = .ok (.lst ((grt rows).map r3D)) h := by
  refine eq_any fun Q X c => ?_
  unfold c_greatest f_greatest
  refine wp_gcF (wp_mono (Q := fun d h1 => d = .ref h.length ∧ h1 = h ++ [.lst ((grt rows).map r3D)]) (X := fun _ _ _ => False) ?_ (fun d h1 z => ?_) fun _ _ _ x => x.elim)
  · refine wp_bodyE [some d, none, none] rfl ?_
    fail "n"
    refine ws_for (wp_any ?_)
    fail "n"
    refine wp_setSort ?_
    fail "n"
    refine wp_some hd ?_
    fail "n"
    have lr : (srt rows).reverse.length = rows.length := by rw [List.length_reverse, (srt_perm rows).length_eq]
    refine ⟨(srt rows).reverse.length, fun i e g => ∃ acc x2, gre acc ((srt rows).reverse.drop i) = grt rows ∧ acc.length ≤ i ∧ g = h ++ [.lst (acc.map r3D)] ∧ e = [some d, some (.ref h.length), x2], by omega, ⟨[], _, rfl, Nat.le_refl _, rfl, rfl⟩, ?_, ?_⟩
    · rintro i _ g hi ⟨acc, x2, ea, la, rfl, rfl⟩
      refine ⟨r3D (srt rows).reverse[i], _, by unfold nxL; rw [← List.map_reverse, List.getElem?_map, List.getElem?_eq_getElem hi]; rfl, rfl, ?_⟩
      rw [List.drop_eq_getElem_cons hi] at ea
      have ea : gre (if cov acc (srt rows).reverse[i] = true then acc else acc ++ [(srt rows).reverse[i]]) ((srt rows).reverse.drop (i + 1)) = grt rows := ea
      fail "n"
      refine wp_of (covered_eq (itr_ref get_new) (by omega)) ?_
      fail "n"
      refine ⟨fun q => ?_, fun q => ?_⟩
      · have q : cov acc (srt rows).reverse[i] = false := by simpa using q
        rw [q] at ea
        fail "n"
        refine ⟨acc ++ [(srt rows).reverse[i]], _, ea, by rw [List.length_append]; exact Nat.succ_le_succ la, ?_, rfl⟩
        rw [set_app, List.map_append]; rfl
      · have q : cov acc (srt rows).reverse[i] = true := by simpa using q
        rw [q] at ea
        fail "n"
        exact ⟨acc, _, ea, by omega, rfl, rfl⟩
    · rintro _ g ⟨acc, x2, ea, la, rfl, rfl⟩
      refine ⟨by unfold nxL; rw [← List.map_reverse, List.getElem?_map, List.getElem?_eq_none (Nat.le_refl _)]; rfl, ?_⟩
      rw [List.drop_length] at ea
      have ea : acc = grt rows := ea
      fail "n"
      rw [ea]
  · obtain ⟨rfl, rfl⟩ := z
    refine ⟨_, dH_lst get_new (Nat.le_refl _) (vals_all fun x hx => ?_), cls_app, ?_⟩
    · obtain ⟨y, _, rfl⟩ := List.mem_map.mp hx
      rfl
    · rw [take_app]
      exact c
theorem greatest_dt {n : Nat} {kvs : List (List Key × D)} {rows : List R3} (e : h[n]? = some (.dt kvs)) (ek : kvs.map (·.1) = rows.map key3) (nd : rows.Nodup) (few : rows.length < 4000) : c_greatest [.ref n] h = .ok (.lst ((grt rows).map r3D)) h := by
  refine greatest_gen few ?_
  have lk : kvs.length = rows.length := by rw [← List.length_map (f := fun p : List Key × D => p.1), ek, List.length_map]
  rw [setSort_dt (get_app e) (by rw [ek]; exact ok3 (by omega)) (by omega), ek, uq_self (nd_keys nd), srt_D]
/-! ### dicts of rows and what led there -/
def prD (p : R3 × R3) : D := .tup [r3D p.1, r3D p.2]
def putP (kw : List (R3 × (R3 × R3))) (r : R3) (w : R3 × R3) : List (R3 × (R3 × R3)) := if r ∈ kw.map (·.1) then kw.map (fun p => if p.1 = r then (p.1, w) else p) else kw ++ [(r, w)]
theorem putP_keys {kw : List (R3 × (R3 × R3))} {r : R3} {w : R3 × R3} : (putP kw r w).map (·.1) = ins3 (kw.map (·.1)) r := by
  unfold putP ins3
  split
  · rw [List.map_map]
    exact List.map_congr_left fun p _ => by
      show (if p.1 = r then (p.1, w) else p).1 = p.1
      split <;> rfl
  · rw [List.map_append]; rfl
theorem putP_all {P : R3 × (R3 × R3) → Prop} {kw : List (R3 × (R3 × R3))} {r : R3} {w : R3 × R3} (h : ∀ p ∈ kw, P p) (n : P (r, w)) : ∀ p ∈ putP kw r w, P p := fun p hp => by
  unfold putP at hp
  split at hp
  · obtain ⟨q, hq, rfl⟩ := List.mem_map.mp hp
    split
    · rename_i e; rw [e]; exact n
    · exact h q hq
  · rcases List.mem_append.mp hp with hp | hp
    · exact h p hp
    · rw [List.mem_singleton.mp hp]; exact n
def kwP (kw : List (R3 × (R3 × R3))) : List (List Key × D) := kw.map fun p => (key3 p.1, prD p.2)
theorem put_kwP {kw : List (R3 × (R3 × R3))} {r : R3} {w : R3 × R3} : putG (kwP kw) (key3 r) (prD w) = kwP (putP kw r w) := by
  have e : ((kwP kw).any fun kv => decide (kv.1 = key3 r)) = decide (r ∈ kw.map (·.1)) := by
    rw [Bool.eq_iff_iff, List.any_eq_true, decide_eq_true_eq, List.mem_map]
    constructor
    · rintro ⟨kv, h1, h2⟩
      obtain ⟨p, hp, rfl⟩ := List.mem_map.mp h1
      exact ⟨p, hp, key3_inj (of_decide_eq_true h2)⟩
    · rintro ⟨p, hp, rfl⟩
      exact ⟨_, List.mem_map_of_mem hp, decide_eq_true rfl⟩
  unfold putG putP
  rw [e]
  by_cases h : r ∈ kw.map (·.1)
  · rw [if_pos (decide_eq_true h), if_pos h]
    unfold kwP
    rw [List.map_map, List.map_map]
    refine List.map_congr_left fun p _ => ?_
    show (if key3 p.1 = key3 r then (key3 p.1, prD w) else (key3 p.1, prD p.2)) = (key3 (if p.1 = r then (p.1, w) else p).1, prD (if p.1 = r then (p.1, w) else p).2)
    by_cases q : p.1 = r
    · rw [if_pos q, if_pos (congrArg key3 q)]
    · rw [if_neg q, if_neg fun z => q (key3_inj z)]
  · rw [if_neg (by rw [decide_eq_true_eq]; exact h), if_neg h]
    unfold kwP
    rw [List.map_append]; rfl
def wOp (kw : List (R3 × (R3 × R3))) (r : R3) : R3 × R3 := ((kw.find? fun p => decide (p.1 = r)).map (·.2)).getD ((0, 0, 0), (0, 0, 0))
theorem wOp_kwP : ∀ {kw : List (R3 × (R3 × R3))} {r : R3}, r ∈ kw.map (·.1) → (r, wOp kw r) ∈ kw ∧ valG (kwP kw) (key3 r) = some (prD (wOp kw r))
  | p :: kw, r, h => by
    by_cases e : p.1 = r
    · subst e
      have e1 : wOp (p :: kw) p.1 = p.2 := by
        unfold wOp
        rw [List.find?_cons, show decide (p.1 = p.1) = true from decide_eq_true rfl]; rfl
      rw [e1]
      refine ⟨List.mem_cons_self, ?_⟩
      unfold valG kwP
      rw [List.map_cons, List.find?_cons, show decide ((key3 p.1, prD p.2).1 = key3 p.1) = true from decide_eq_true rfl]; rfl
    · have h : r ∈ kw.map (·.1) := (List.mem_cons.mp h).elim (fun z => absurd z.symm e) id
      obtain ⟨h1, h2⟩ := wOp_kwP h
      have e1 : wOp (p :: kw) r = wOp kw r := by
        unfold wOp
        rw [List.find?_cons, show decide (p.1 = r) = false from decide_eq_false e]
      rw [e1]
      refine ⟨List.mem_cons_of_mem _ h1, ?_⟩
      unfold valG kwP at h2 ⊢
      rw [List.map_cons, List.find?_cons, show decide ((key3 p.1, prD p.2).1 = key3 r) = false from decide_eq_false fun z => e (key3_inj z)]
      exact h2
/-- a dict of rows and ways, locked -/
def dltP (kw : List (R3 × (R3 × R3))) : D := .dlt (kw.map fun p => key3 p.1) (kw.map fun p => prD p.2)
theorem zip_kwP : ∀ kw : List (R3 × (R3 × R3)), (kw.map fun p => key3 p.1).zip (kw.map fun p => prD p.2) = kwP kw
  | [] => rfl
  | p :: kw => by
    show (key3 p.1, prD p.2) :: ((kw.map fun p => key3 p.1).zip (kw.map fun p => prD p.2)) = _
    rw [zip_kwP kw]; rfl
theorem dget_dltP {kw : List (R3 × (R3 × R3))} (m : x ∈ kw.map (·.1)) : gDget h (dltP kw) (r3D x) = some (prD (wOp kw x)) := by
  have e : atD h (dltP kw) (r3D x) = some (valG ((kw.map fun p => key3 p.1).zip (kw.map fun p => prD p.2)) (key3 x)) := rfl
  unfold gDget
  rw [e, zip_kwP, (wOp_kwP m).2]
theorem dget_kwP {n : Nat} {kw : List (R3 × (R3 × R3))} (e : h[n]? = some (.dt (kwP kw))) (m : x ∈ kw.map (·.1)) : gDget h (.ref n) (r3D x) = some (prD (wOp kw x)) := by
  rw [← key3_tup]
  exact dget_t e (wOp_kwP m).2
theorem set_kwP {n : Nat} {kw : List (R3 × (R3 × R3))} {w : R3 × R3} (e : h[n]? = some (.dt (kwP kw))) (l : kw.length ≤ 10000000) : mSetA h (.ref n) (r3D x) (prD w) = some (h.set n (.dt (kwP (putP kw x w)))) := by
  have := set_dt (k := key3 x) (ds := [.int (x.1 : Int), .int (x.2.1 : Int), .int (x.2.2 : Int)]) (v := prD w) e rfl (by unfold kwP; rw [List.length_map, sizeLine_eq]; omega)
  rw [put_kwP] at this
  exact this
theorem pairsT_kP : ∀ kw : List (R3 × (R3 × R3)), pairsT (kw.map fun p : R3 × (R3 × R3) => .tup [r3D p.1, prD p.2]) = some (kwP kw)
  | [] => rfl
  | p :: kw => by
    show (match some (key3 p.1, prD p.2) with | some kv => (match pairsT (kw.map fun p : R3 × (R3 × R3) => .tup [r3D p.1, prD p.2]) with | some r => some (kv :: r) | none => none) | none => none) = _
    rw [pairsT_kP kw]; rfl
theorem mrg_kwP : ∀ (more kw : List (R3 × (R3 × R3))), ((kw ++ more).map (·.1)).Nodup → mrgG (kwP kw) (kwP more) = kwP (kw ++ more)
  | [], kw, _ => by rw [List.append_nil]; rfl
  | p :: more, kw, n => by
    have hn : p.1 ∉ kw.map (·.1) := by
      rw [List.map_append, List.map_cons] at n
      have := (List.nodup_append.mp n).2.2
      exact fun hp => this _ hp _ List.mem_cons_self rfl
    show mrgG (putG (kwP kw) (key3 p.1) (prD p.2)) (kwP more) = _
    rw [put_kwP, show putP kw p.1 p.2 = kw ++ [p] by unfold putP; rw [if_neg hn], mrg_kwP more (kw ++ [p]) (by rw [List.append_assoc]; exact n), List.append_assoc]; rfl
theorem dictPT_kP {kw : List (R3 × (R3 × R3))} (n : (kw.map (·.1)).Nodup) : gDictPT (kw.map fun p : R3 × (R3 × R3) => .tup [r3D p.1, prD p.2]) = some (dltP kw) := by
  unfold gDictPT
  rw [pairsT_kP]
  dsimp only
  have := mrg_kwP kw [] (by rw [List.nil_append]; exact n)
  rw [show kwP [] = [] from rfl, List.nil_append] at this
  rw [this]
  unfold dltP kwP
  rw [List.map_map, List.map_map]; rfl
theorem val_dltP (kw : List (R3 × (R3 × R3))) : val (dltP kw) = true := vals_all fun x hx => by
  obtain ⟨p, _, rfl⟩ := List.mem_map.mp hx
  rfl
/-! ### sums are few -/
def Sg3 (B : Nat) (rows : List R3) : Prop := ∀ x ∈ rows, x.1 + x.2.1 + x.2.2 ≤ B
def sim24 : List R3 := (List.range 25).flatMap fun x => (List.range (25 - x)).flatMap fun y => (List.range (25 - x - y)).map fun z => (x, y, z)
theorem sim_len {l : List R3} (n : l.Nodup) (h : Sg3 24 l) : l.length < 4000 := by
  refine Nat.lt_of_le_of_lt (MT.nd_sub n (D := sim24) fun x hx => ?_) (show sim24.length < 4000 by decide +kernel)
  have := h x hx
  obtain ⟨u, v, w⟩ := x
  dsimp only at this
  unfold sim24
  simp only [List.mem_flatMap, List.mem_map, List.mem_range]
  exact ⟨u, by omega, v, by omega, w, by omega, rfl⟩
theorem sums_sg {rows : List R3} {B : Nat} (Z : Zok t z) (h : Sg3 B rows) : Sg3 (B + 6) (sums rows (gcuts t z)) := fun x hx => by
  obtain ⟨r, hr, c, hc, rfl⟩ := mem_sums.mp hx
  have := h r hr
  have := cuts_small Z.a Z.b Z.c Z.L (grt_sub hc)
  unfold ad3
  dsimp only
  omega
abbrev KW := List (R3 × (R3 × R3))
/-- the dict of sums and what they come of, behind i rows -/
def fldW (rows cs : List R3) (i : Nat) : KW := ((rows.take i).flatMap fun r => cs.map fun c => (ad3 r c, (r, c))).foldl (fun kw p => putP kw p.1 p.2) []
theorem fldW_succ {rs cs : List R3} {i : Nat} (hi : i < rs.length) : fldW rs cs (i + 1) = (cs.map fun c => (ad3 rs[i] c, (rs[i], c))).foldl (fun kw p => putP kw p.1 p.2) (fldW rs cs i) := by
  unfold fldW
  rw [List.take_succ_eq_append_getElem hi, List.flatMap_append, List.flatMap_cons, List.flatMap_nil, List.append_nil, List.foldl_append]
/-- what ways_behind tells -/
def waysOf (t : Tb) (rows : List R3) (z : Zo) : KW := (grt (sums rows (gcuts t z))).map fun r => (r, wOp (fldW rows (gcuts t z) rows.length) r)
theorem ways_wp {rows : List R3} (Z : Zok t z) (lr : rows.length ≤ 1000) (few : (sums rows (gcuts t z)).length < 4000)
    (c : (waysOf t rows z).map (·.1) = grt (sums rows (gcuts t z)) → (∀ p ∈ waysOf t rows z, p.2.1 ∈ rows ∧ p.2.2 ∈ gcuts t z ∧ p.1 = ad3 p.2.1 p.2.2) → Q (dltP (waysOf t rows z)) h) : Wp (c_ways_behind [.lst (rows.map r3D), znD z, tbD t] h) Q X := by
  have lz : (zcuts t z).length ≤ 343 := cuts_len Z.a Z.b Z.c Z.L
  have lg := gcuts_len Z
  unfold c_ways_behind f_ways_behind
  refine wp_gcF (wp_mono (Q := fun d h1 => ∃ kw : KW, kw = waysOf t rows z ∧ kw.map (·.1) = grt (sums rows (gcuts t z)) ∧ (∀ p ∈ kw, p.2.1 ∈ rows ∧ p.2.2 ∈ gcuts t z ∧ p.1 = ad3 p.2.1 p.2.2) ∧ d = dltP kw ∧ ∃ tl, h1 = h ++ tl) (X := fun _ _ _ => False) ?_ (fun d h1 q => ?_) fun _ _ _ x => x.elim)
  · refine wp_bodyE [some (.lst (rows.map r3D)), some (znD z), some (tbD t), none, none, none, none] rfl ?_
    fail "n"
    refine wp_of (zone_cuts_eq Z) ?_
    fail "n"
    refine wp_of (greatest_eq nd_cuts (by show (zcuts t z).length < 4000; omega)) ?_
    fail "n"
    refine ws_for (wp_any ?_)
    fail "n"
    refine ⟨rows.length, fun i e g => ∃ (kw : KW) (x5 x6 : Option D), kw = fldW rows (gcuts t z) i ∧ kw.map (·.1) = sumsI rows (gcuts t z) i ∧ (∀ p ∈ kw, p.2.1 ∈ rows ∧ p.2.2 ∈ gcuts t z ∧ p.1 = ad3 p.2.1 p.2.2) ∧ g = h ++ [.dt (kwP kw)] ∧ e = [some (.lst (rows.map r3D)), some (znD z), some (tbD t), some (.lst ((gcuts t z).map r3D)), some (.ref h.length), x5, x6], by omega, ⟨[], _, _, rfl, rfl, (fun _ z => nomatch z), rfl, rfl⟩, ?_, ?_⟩
    · rintro i _ g hi ⟨kw, x5, x6, ef, ek, wk, rfl, rfl⟩
      refine ⟨r3D rows[i], _, by unfold nxL; rw [List.getElem?_map, List.getElem?_eq_getElem hi]; rfl, rfl, ?_⟩
      refine ws_for (wp_any ?_)
      fail "n"
      refine ⟨(gcuts t z).length, fun j e g => ∃ (kw : KW) (x6 : Option D), kw = (((gcuts t z).take j).map fun c => (ad3 rows[i] c, (rows[i], c))).foldl (fun kw p => putP kw p.1 p.2) (fldW rows (gcuts t z) i) ∧ kw.map (·.1) = (((gcuts t z).take j).map (ad3 rows[i])).foldl ins3 (sumsI rows (gcuts t z) i) ∧ (∀ p ∈ kw, p.2.1 ∈ rows ∧ p.2.2 ∈ gcuts t z ∧ p.1 = ad3 p.2.1 p.2.2) ∧ g = h ++ [.dt (kwP kw)] ∧ e = [some (.lst (rows.map r3D)), some (znD z), some (tbD t), some (.lst ((gcuts t z).map r3D)), some (.ref h.length), some (r3D rows[i]), x6], by omega, ⟨kw, _, ef, ek, wk, rfl, rfl⟩, ?_, ?_⟩
      · rintro j _ g hj ⟨kw, x6, ef, ek, wk, rfl, rfl⟩
        have lk : kw.length ≤ 10000000 := by
          have l1 := fold3_len (((gcuts t z).take j).map (ad3 rows[i])) (sumsI rows (gcuts t z) i)
          have l2 := sumsI_len (rs := rows) (cs := gcuts t z) (i := i)
          rw [List.length_map, List.length_take] at l1
          have l4 : rows.length * (gcuts t z).length ≤ 1000 * 49 := Nat.mul_le_mul lr lg
          have l5 := congrArg List.length ek
          rw [List.length_map] at l5
          omega
        refine ⟨r3D (gcuts t z)[j], _, by unfold nxL; rw [List.getElem?_map, List.getElem?_eq_getElem hj]; rfl, rfl, ?_⟩
        fail "n"
        refine wp_of together_eq ?_
        fail "n"
        refine ⟨_, set_kwP (w := (rows[i], (gcuts t z)[j])) get_new lk, ?_⟩
        refine ⟨putP kw (ad3 rows[i] (gcuts t z)[j]) (rows[i], (gcuts t z)[j]), _, (by rw [ef, List.take_succ_eq_append_getElem hj, List.map_append, List.foldl_append]; rfl), ?_, putP_all wk ⟨List.getElem_mem hi, List.getElem_mem hj, rfl⟩, set_app, rfl⟩
        rw [putP_keys, ek, List.take_succ_eq_append_getElem hj, List.map_append, List.foldl_append]; rfl
      · rintro _ g ⟨kw, x6, ef, ek, wk, rfl, rfl⟩
        refine ⟨by unfold nxL; rw [List.getElem?_map, List.getElem?_eq_none (Nat.le_refl _)]; rfl, ?_⟩
        refine ⟨kw, _, _, (by rw [ef, List.take_length, fldW_succ hi]), ?_, wk, rfl, rfl⟩
        rw [ek, List.take_length, sumsI_succ hi]
    · rintro _ g ⟨kw, x5, x6, ef, ek, wk, rfl, rfl⟩
      refine ⟨by unfold nxL; rw [List.getElem?_map, List.getElem?_eq_none (Nat.le_refl _)]; rfl, ?_⟩
      have ek : kw.map (·.1) = sums rows (gcuts t z) := by
        rw [ek]
        unfold sumsI sums
        rw [List.take_length]
      fail "n"
      refine wp_dictPT ?_
      refine wp_cma r3D (fun r => .tup [r3D r, prD (wOp kw r)]) (wp_any ?_)
      fail "n"
      refine wp_of (greatest_dt (rows := sums rows (gcuts t z)) get_new (by unfold kwP; rw [List.map_map, ← ek, List.map_map]; rfl) nd_sums few) ?_
      fail "n"
      refine ⟨Nat.le_trans (grt_len _) (by omega), fun r hr => ⟨_, rfl, ?_⟩, ?_⟩
      · fail "n"
        refine wp_some (dget_kwP get_new (by rw [ek]; exact grt_sub hr)) ?_
        fail "n"
        first | rfl | exact ⟨rfl, rfl⟩
      have e4 : ((grt (sums rows (gcuts t z))).map fun r => D.tup [r3D r, prD (wOp kw r)]) = (((grt (sums rows (gcuts t z))).map fun r => (r, wOp kw r)).map fun p : R3 × (R3 × R3) => .tup [r3D p.1, prD p.2]) := by rw [List.map_map]; rfl
      have e5 : ((grt (sums rows (gcuts t z))).map fun r => (r, wOp kw r)).map (·.1) = grt (sums rows (gcuts t z)) := by
        rw [List.map_map]
        exact (List.map_congr_left fun x _ => rfl).trans (List.map_id _)
      rw [e4]
      refine wp_some (dictPT_kP (by rw [e5]; exact grt_nd _)) ?_
      refine ⟨_, (by rw [ef]; rfl), e5, fun p hp => ?_, rfl, _, rfl⟩
      obtain ⟨r, hr, rfl⟩ := List.mem_map.mp hp
      exact wk _ (wOp_kwP (by rw [ek]; exact grt_sub hr)).1
  · obtain ⟨_, rfl, ek, wk, rfl, tl, rfl⟩ := q
    refine ⟨_, dW_val (val_dltP _), cls_app, ?_⟩
    rw [take_app]
    exact c ek wk
/-! ### whole cuts -/
def mn3 (x y : R3) : R3 := (min x.1 y.1, min x.2.1 y.2.1, min x.2.2 y.2.2)
def sb3 (x y : R3) : R3 := (x.1 - y.1, x.2.1 - y.2.1, x.2.2 - y.2.2)
/-- of each cut what is still wanted -/
def wcut : R3 → List R3 → List R3
  | _, [] => []
  | l, c :: cs => mn3 c l :: wcut (sb3 l (mn3 c l)) cs
def lftW : R3 → List R3 → R3
  | l, [] => l
  | l, c :: cs => lftW (sb3 l (mn3 c l)) cs
theorem wcut_snoc : ∀ (cs : List R3) (l c : R3), wcut l (cs ++ [c]) = wcut l cs ++ [mn3 c (lftW l cs)] ∧ lftW l (cs ++ [c]) = sb3 (lftW l cs) (mn3 c (lftW l cs))
  | [], l, c => ⟨rfl, rfl⟩
  | d :: cs, l, c => by
    obtain ⟨h1, h2⟩ := wcut_snoc cs (sb3 l (mn3 d l)) c
    exact ⟨by show mn3 d l :: wcut _ (cs ++ [c]) = _; rw [h1]; rfl, h2⟩
theorem min_nat {a b : Nat} : D.int (if (b : Int) < (a : Int) then (b : Int) else (a : Int)) = .int ((min a b : Nat) : Int) := by
  refine congrArg D.int ?_
  split <;> omega
theorem whole_cut_eq {M : Nat} {cs : List R3} (T : TbM t) (lc : cs.length ≤ 1000) : c_whole_cut [tbD t, .lst (cs.map r3D), .int (M : Int)] h = .ok (rowsD (wcut (M * t.m.1, M * t.m.2.1, M * t.m.2.2) cs)) h := by
  obtain ⟨⟨a0, a1⟩, ⟨b0, b1⟩, c0, c1⟩ := T
  refine eq_any fun Q X c => ?_
  unfold c_whole_cut f_whole_cut
  generalize eL : ((M * t.m.1, M * t.m.2.1, M * t.m.2.2) : R3) = l0 at c ⊢
  refine wp_gcF (wp_mono (Q := fun d h1 => d = rowsD (wcut l0 cs) ∧ ∃ tl, h1 = h ++ tl) (X := fun _ _ _ => False) ?_ (fun d h1 q => ?_) fun _ _ _ x => x.elim)
  · refine wp_bodyE [some (tbD t), some (.lst (cs.map r3D)), some (.int (M : Int)), none, none, none, none, none, none, none] rfl ?_
    fail "n"
    refine wp_cma p3D (fun p => .int ((M * p.2.2 : Nat) : Int)) (wp_any ?_)
    fail "n"
    refine ⟨[t.a, t.b, t.c], rfl, Nat.le_of_ble_eq_true rfl, fun p hp => ⟨_, rfl, ?_⟩, ?_⟩
    · have hp : p.2.2 < 1000 := by
        simp only [List.mem_cons, List.not_mem_nil, or_false] at hp
        rcases hp with rfl | rfl | rfl
        · exact a1
        · exact b1
        · exact c1
      fail "n"
      refine wp_some (show gIx h (p3D p) (.int 2) = some (.int (p.2.2 : Int)) from rfl) ?_
      refine wp_some (mul_int (by rw [small_of (i := (p.2.2 : Int)) (Int.natCast_nonneg _) (by omega), Bool.or_true])) ?_
      exact ⟨by rw [Int.natCast_mul], rfl⟩
    have e3 : ([t.a, t.b, t.c].map fun p : Pt3 => D.int ((M * p.2.2 : Nat) : Int)) = [.int (l0.1 : Int), .int (l0.2.1 : Int), .int (l0.2.2 : Int)] := by rw [← eL]; rfl
    rw [e3]
    fail "n"
    refine ws_for (wp_any ?_)
    fail "n"
    refine ⟨cs.length, fun i e g => ∃ (l : R3) (x5 x6 x7 x8 x9 : Option D), l = lftW l0 (cs.take i) ∧ g = h ++ [.lst ((wcut l0 (cs.take i)).map r3D)] ∧ e = [some (tbD t), some (.lst (cs.map r3D)), some (.int (M : Int)), some (.lst [.int (l.1 : Int), .int (l.2.1 : Int), .int (l.2.2 : Int)]), some (.ref h.length), x5, x6, x7, x8, x9], by omega, ⟨l0, _, _, _, _, _, rfl, rfl, rfl⟩, ?_, ?_⟩
    · rintro i _ g hi ⟨l, x5, x6, x7, x8, x9, el, rfl, rfl⟩
      refine ⟨r3D cs[i], _, by unfold nxL; rw [List.getElem?_map, List.getElem?_eq_getElem hi]; rfl, rfl, ?_⟩
      have lw : (wcut l0 (cs.take i)).length ≤ 50000 := by
        have : ∀ (cs : List R3) (l : R3), (wcut l cs).length = cs.length := by
          intro cs
          induction cs with
          | nil => exact fun _ => rfl
          | cons c cs ih => exact fun l => congrArg (· + 1) (ih _)
        rw [this, List.length_take]; omega
      have et : cs.take (i + 1) = cs.take i ++ [cs[i]] := List.take_succ_eq_append_getElem hi
      obtain ⟨w1, w2⟩ := wcut_snoc (cs.take i) l0 cs[i]
      rw [← et, ← el] at w1 w2
      generalize cs[i] = k at w1 w2 ⊢
      fail "n"
      refine wp_cma zipD (fun p => .int ((min p.1 p.2 : Nat) : Int)) ?_
      fail "n"
      refine ⟨[(k.1, l.1), (k.2.1, l.2.1), (k.2.2, l.2.2)], rfl, Nat.le_of_ble_eq_true rfl, fun p hp => ⟨_, rfl, ?_⟩, ?_⟩
      · fail "n"
        exact ⟨min_nat, rfl⟩
      have e4 : ([(k.1, l.1), (k.2.1, l.2.1), (k.2.2, l.2.2)].map fun p : Nat × Nat => D.int ((min p.1 p.2 : Nat) : Int)) = [.int ((mn3 k l).1 : Int), .int ((mn3 k l).2.1 : Int), .int ((mn3 k l).2.2 : Int)] := rfl
      rw [e4]
      have m1 : (mn3 k l).1 ≤ l.1 ∧ (mn3 k l).2.1 ≤ l.2.1 ∧ (mn3 k l).2.2 ≤ l.2.2 := ⟨Nat.min_le_right _ _, Nat.min_le_right _ _, Nat.min_le_right _ _⟩
      generalize mn3 k l = m at m1 w1 w2 ⊢
      fail "n"
      refine wp_cma zipD (fun p => .int ((p.1 - p.2 : Nat) : Int)) ?_
      fail "n"
      refine ⟨[(l.1, m.1), (l.2.1, m.2.1), (l.2.2, m.2.2)], rfl, Nat.le_of_ble_eq_true rfl, fun p hp => ⟨_, rfl, ?_⟩, ?_⟩
      · have hp : p.2 ≤ p.1 := by
          simp only [List.mem_cons, List.not_mem_nil, or_false] at hp
          rcases hp with rfl | rfl | rfl
          · exact m1.1
          · exact m1.2.1
          · exact m1.2.2
        fail "n"
        exact ⟨by rw [Int.ofNat_sub hp], rfl⟩
      have e5 : ([(l.1, m.1), (l.2.1, m.2.1), (l.2.2, m.2.2)].map fun p : Nat × Nat => D.int ((p.1 - p.2 : Nat) : Int)) = [.int ((sb3 l m).1 : Int), .int ((sb3 l m).2.1 : Int), .int ((sb3 l m).2.2 : Int)] := rfl
      rw [e5]
      fail "n"
      refine ⟨sb3 l m, _, _, _, _, _, w2.symm, ?_, rfl⟩
      rw [set_app, w1, List.map_append]; rfl
    · rintro _ g ⟨l, x5, x6, x7, x8, x9, el, rfl, rfl⟩
      refine ⟨by unfold nxL; rw [List.getElem?_map, List.getElem?_eq_none (Nat.le_refl _)]; rfl, ?_⟩
      rw [List.take_length]
      fail "n"
      first | exact ⟨_, rfl⟩ | exact ⟨rfl, _, rfl⟩
  · obtain ⟨rfl, tl, rfl⟩ := q
    refine ⟨_, dW_val (show val (.tup _) = true from vals_all fun x hx => ?_), cls_app, ?_⟩
    · obtain ⟨y, _, rfl⟩ := List.mem_map.mp hx
      rfl
    · rw [take_app]
      exact c
/-! ### what is beneath, what they sum up to -/
def sum3 : List R3 → R3
  | [] => (0, 0, 0)
  | c :: cs => ad3 c (sum3 cs)
end
/-! # G170: the program's most_pairs -/
section
variable {X : XQ} {Q : D → Hs → Prop} {h : Hs} {x y : R3} {e : Ev} {hs : Hs} {ds : List D} {z : Zo} {t : Tb} {zs : List Zo}
theorem rev_ref {n : Nat} (e : h[n]? = some (.lst ds)) : gRev h (.ref n) = some (.lst ds.reverse) := by
  show (lstOf h (.ref n)).map (fun ds => D.lst ds.reverse) = _
  rw [show lstOf h (.ref n) = some ds from by show (match h[n]? with | some (.lst ds) => some ds | _ => none) = _; rw [e]]
  rfl
theorem list_dltP {kw : KW} : ((dtR h (dltP kw)).map fun kvs => kvs.map fun kv => tupK kv.1) = some ((kw.map (·.1)).map r3D) := by
  show some (((kw.map fun p => key3 p.1).zip (kw.map fun p => prD p.2)).map fun kv => tupK kv.1) = _
  rw [zip_kwP]
  unfold kwP
  rw [List.map_map, List.map_map]; rfl
theorem sortL_dltP {kw : KW} (l : kw.length ≤ 50000) : gSortL h (dltP kw) = some ((srt (kw.map (·.1))).map r3D) := by
  show sortKs (((kw.map fun p => key3 p.1).zip (kw.map fun p => prD p.2)).map (·.1)) = _
  rw [zip_kwP]
  have e : (kwP kw).map (·.1) = (kw.map (·.1)).map key3 := by
    unfold kwP
    rw [List.map_map, List.map_map]; rfl
  rw [e]
  unfold sortKs
  rw [if_pos (ok3 (by rw [List.length_map]; omega)), srt_D]
theorem ways_keys {rows : List R3} : (waysOf t rows z).map (·.1) = grt (sums rows (gcuts t z)) := by
  unfold waysOf
  rw [List.map_map]
  exact (List.map_congr_left fun x _ => rfl).trans (List.map_id _)
/-- the steps of most_pairs -/
def stepsOf (t : Tb) : List R3 → List Zo → List KW
  | _, [] => []
  | ah, z :: zs => waysOf t ah z :: stepsOf t (grt (sums ah (gcuts t z))) zs
theorem steps_keys : ∀ (zs : List Zo) (ah : List R3), (stepsOf t ah zs).map (fun kw => kw.map (·.1)) = fronts t ah zs
  | [], _ => rfl
  | z :: zs, ah => by
    show (waysOf t ah z).map (·.1) :: (stepsOf t (grt (sums ah (gcuts t z))) zs).map (fun kw => kw.map (·.1)) = _
    rw [ways_keys, steps_keys zs]; rfl
theorem steps_len (zs : List Zo) (ah : List R3) : (stepsOf t ah zs).length = zs.length := by
  have := congrArg List.length (steps_keys (t := t) zs ah)
  rw [List.length_map, fronts_length] at this
  exact this
theorem lastF_cons {ah a : List R3} {fs : List (List R3)} : lastF ah (a :: fs) = lastF a fs := by
  unfold lastF
  cases fs with
  | nil => rfl
  | cons f fs =>
    rw [List.getLast?_cons_cons, List.getLast?_eq_some_getLast (List.cons_ne_nil f fs)]; rfl
theorem steps_snoc : ∀ (zs : List Zo) (ah : List R3), stepsOf t ah (zs ++ [z]) = stepsOf t ah zs ++ [waysOf t (lastF ah (fronts t ah zs)) z]
  | [], _ => rfl
  | y :: zs, ah => by
    show waysOf t ah y :: stepsOf t (grt (sums ah (gcuts t y))) (zs ++ [z]) = _
    rw [steps_snoc zs]
    show _ = waysOf t ah y :: (stepsOf t (grt (sums ah (gcuts t y))) zs ++ [waysOf t (lastF ah (grt (sums ah (gcuts t y)) :: fronts t (grt (sums ah (gcuts t y))) zs)) z])
    rw [lastF_cons]
/-- the way back -/
def bkw : List KW → R3 → List R3
  | [], _ => []
  | k :: ks, r => (wOp k r).2 :: bkw ks (wOp k r).1
def bkh : List KW → R3 → R3
  | [], r => r
  | k :: ks, r => bkh ks (wOp k r).1
theorem bk_snoc {k : KW} : ∀ (ks : List KW) (r : R3), bkw (ks ++ [k]) r = bkw ks r ++ [(wOp k (bkh ks r)).2] ∧ bkh (ks ++ [k]) r = (wOp k (bkh ks r)).1
  | [], _ => ⟨rfl, rfl⟩
  | j :: ks, r => by
    obtain ⟨h1, h2⟩ := bk_snoc ks (wOp j r).1
    exact ⟨congrArg ((wOp j r).2 :: ·) h1, h2⟩
theorem bkw_len : ∀ (ks : List KW) (r : R3), (bkw ks r).length = ks.length
  | [], _ => rfl
  | _ :: ks, _ => congrArg (· + 1) (bkw_len ks _)
theorem ways_at {rows : List R3} {r : R3} (m : r ∈ grt (sums rows (gcuts t z))) (w : ∀ p ∈ waysOf t rows z, p.2.1 ∈ rows ∧ p.2.2 ∈ gcuts t z ∧ p.1 = ad3 p.2.1 p.2.2) : (wOp (waysOf t rows z) r).1 ∈ rows ∧ (wOp (waysOf t rows z) r).2 ∈ gcuts t z ∧ r = ad3 (wOp (waysOf t rows z) r).1 (wOp (waysOf t rows z) r).2 :=
  w _ (wOp_kwP (by rw [ways_keys]; exact m)).1
/-- what the dict of sums holds -/
theorem fldW_ok {rows : List R3} {cs : List R3} : (fldW rows cs rows.length).map (·.1) = sums rows cs ∧ ∀ p ∈ fldW rows cs rows.length, p.2.1 ∈ rows ∧ p.2.2 ∈ cs ∧ p.1 = ad3 p.2.1 p.2.2 := by
  have inner : ∀ (r : R3) (l : List R3) (kw : KW), ((l.map fun c => (ad3 r c, (r, c))).foldl (fun kw p => putP kw p.1 p.2) kw).map (·.1) = (l.map (ad3 r)).foldl ins3 (kw.map (·.1)) ∧ (r ∈ rows → (∀ c ∈ l, c ∈ cs) → (∀ p ∈ kw, p.2.1 ∈ rows ∧ p.2.2 ∈ cs ∧ p.1 = ad3 p.2.1 p.2.2) → ∀ p ∈ (l.map fun c => (ad3 r c, (r, c))).foldl (fun kw p => putP kw p.1 p.2) kw, p.2.1 ∈ rows ∧ p.2.2 ∈ cs ∧ p.1 = ad3 p.2.1 p.2.2) := by
    intro r l
    induction l with
    | nil => exact fun kw => ⟨rfl, fun _ _ k => k⟩
    | cons c l ih =>
      intro kw
      obtain ⟨h1, h2⟩ := ih (putP kw (ad3 r c) (r, c))
      refine ⟨?_, fun hr hc k => h2 hr (fun c hx => hc c (List.mem_cons_of_mem _ hx)) (putP_all k ⟨hr, hc c List.mem_cons_self, rfl⟩)⟩
      show ((l.map fun c => (ad3 r c, (r, c))).foldl (fun kw p => putP kw p.1 p.2) (putP kw (ad3 r c) (r, c))).map (·.1) = _
      rw [h1, putP_keys]; rfl
  have outer : ∀ i, i ≤ rows.length → (fldW rows cs i).map (·.1) = sumsI rows cs i ∧ ∀ p ∈ fldW rows cs i, p.2.1 ∈ rows ∧ p.2.2 ∈ cs ∧ p.1 = ad3 p.2.1 p.2.2 := by
    intro i
    induction i with
    | zero => exact fun _ => ⟨rfl, fun _ z => nomatch z⟩
    | succ i ih =>
      intro hi
      obtain ⟨h1, h2⟩ := ih (by omega)
      obtain ⟨g1, g2⟩ := inner rows[i] cs (fldW rows cs i)
      rw [fldW_succ (by omega), sumsI_succ (by omega)]
      exact ⟨by rw [g1, h1], g2 (List.getElem_mem _) (fun _ z => z) h2⟩
  obtain ⟨h1, h2⟩ := outer rows.length (Nat.le_refl _)
  refine ⟨?_, h2⟩
  rw [h1]
  unfold sumsI sums
  rw [List.take_length]
theorem ways_ok {rows : List R3} : ∀ p ∈ waysOf t rows z, p.2.1 ∈ rows ∧ p.2.2 ∈ gcuts t z ∧ p.1 = ad3 p.2.1 p.2.2 := fun p hp => by
  obtain ⟨r, hr, rfl⟩ := List.mem_map.mp hp
  exact fldW_ok.2 _ (wOp_kwP (by rw [fldW_ok.1]; exact grt_sub hr)).1
/-- rows behind all zones -/
abbrev lastR (t : Tb) (zs : List Zo) : List R3 := lastF [(0, 0, 0)] (fronts t [(0, 0, 0)] zs)
theorem lastR_snoc : lastR t (zs ++ [z]) = grt (sums (lastR t zs) (gcuts t z)) := by
  show lastF _ (fronts t _ (zs ++ [z])) = _
  rw [fronts_snoc, lastF_snoc]
theorem ad3_com {x y : R3} : ad3 x y = ad3 y x := by
  unfold ad3
  rw [Nat.add_comm x.1, Nat.add_comm x.2.1, Nat.add_comm x.2.2]
/-- the cut that the way back tells: one greatest cut of each zone, and they come to the row -/
theorem back_ok : ∀ (rz : List Zo) (r : R3), r ∈ lastR t rz.reverse → sum3 (bkw (stepsOf t [(0, 0, 0)] rz.reverse).reverse r) = r ∧ (∀ (i : Nat) (c : R3) (w : Zo), (bkw (stepsOf t [(0, 0, 0)] rz.reverse).reverse r)[i]? = some c → rz[i]? = some w → c ∈ gcuts t w) ∧
    ∀ i (hi : i < (stepsOf t [(0, 0, 0)] rz.reverse).reverse.length), bkh ((stepsOf t [(0, 0, 0)] rz.reverse).reverse.take i) r ∈ ((stepsOf t [(0, 0, 0)] rz.reverse).reverse[i]).map (·.1)
  | [], r, hr => ⟨(List.mem_singleton.mp hr).symm, fun i c w _ h => (by cases h), fun i hi => absurd hi (Nat.not_lt_zero _)⟩
  | z :: rz, r, hr => by
    rw [List.reverse_cons] at hr ⊢
    rw [lastR_snoc] at hr
    obtain ⟨w1, w2, w3⟩ := ways_at hr ways_ok
    rw [steps_snoc, List.reverse_append, List.reverse_singleton, List.singleton_append]
    obtain ⟨b1, b2, b3⟩ := back_ok rz _ w1
    have ek : (waysOf t (lastR t rz.reverse) z).map (·.1) = grt (sums (lastR t rz.reverse) (gcuts t z)) := ways_keys
    refine ⟨?_, fun i c w hc hw => ?_, fun i hi => ?_⟩
    · show ad3 (wOp (waysOf t (lastR t rz.reverse) z) r).2 (sum3 (bkw (stepsOf t [(0, 0, 0)] rz.reverse).reverse (wOp (waysOf t (lastR t rz.reverse) z) r).1)) = r
      rw [b1, ad3_com]
      exact w3.symm
    · cases i with
      | zero =>
        cases hw
        cases hc
        exact w2
      | succ i => exact b2 i c w hc hw
    · cases i with
      | zero =>
        show r ∈ (waysOf t (lastR t rz.reverse) z).map (·.1)
        rw [ek]
        exact hr
      | succ i => exact b3 i (Nat.lt_of_succ_lt_succ hi)
/-! ### the most -/
def mostN (t : Tb) (rs : List R3) : Nat := (rs.map (pr3 t.m)).foldr max 0
theorem mostN_ge {rs : List R3} {r : R3} (h : r ∈ rs) : pr3 t.m r ≤ mostN t rs := by
  induction rs with
  | nil => cases h
  | cons q rs ih =>
    show _ ≤ max (pr3 t.m q) (mostN t rs)
    rcases List.mem_cons.mp h with rfl | h
    · exact Nat.le_max_left _ _
    · exact Nat.le_trans (ih h) (Nat.le_max_right _ _)
theorem mostN_at {rs : List R3} (h : 0 < rs.length) : ∃ r ∈ rs, pr3 t.m r = mostN t rs := by
  induction rs with
  | nil => cases h
  | cons q rs ih =>
    show ∃ r ∈ q :: rs, pr3 t.m r = max (pr3 t.m q) (mostN t rs)
    by_cases h2 : mostN t rs ≤ pr3 t.m q
    · exact ⟨q, List.mem_cons_self, (Nat.max_eq_left h2).symm⟩
    · have h2 : pr3 t.m q ≤ mostN t rs := by omega
      cases rs with
      | nil => exact ⟨q, List.mem_cons_self, (Nat.max_eq_left (Nat.zero_le _)).symm⟩
      | cons p rs =>
        obtain ⟨r, hr, e⟩ := ih (Nat.zero_lt_succ _)
        exact ⟨r, List.mem_cons_of_mem _ hr, by rw [e, Nat.max_eq_right h2]⟩
theorem max_mostN {rs : List R3} (h0 : 0 < rs.length) : gMaxL h [.lst (rs.map fun r => .int (pr3 t.m r : Int))] = some (.int (mostN t rs : Int)) := by
  obtain ⟨M, eM, M1, r, hr, M2⟩ := max_rows (h := h) (m := t.m) h0
  obtain ⟨q, hq, e⟩ := mostN_at (t := t) h0
  have h1 := M1 q hq
  have h2 := mostN_ge (t := t) hr
  rw [eM]
  congr 2
  omega
def hereOf (t : Tb) (rs : List R3) : R3 := ((rs.filter fun r => decide (pr3 t.m r = mostN t rs)).head?).getD (0, 0, 0)
theorem here_ok {rs : List R3} (h0 : 0 < rs.length) : ∃ tl, rs.filter (fun r => decide (pr3 t.m r = mostN t rs)) = hereOf t rs :: tl ∧ hereOf t rs ∈ rs ∧ pr3 t.m (hereOf t rs) = mostN t rs := by
  obtain ⟨q, hq, e⟩ := mostN_at (t := t) h0
  have hm : q ∈ rs.filter fun r => decide (pr3 t.m r = mostN t rs) := List.mem_filter.mpr ⟨hq, decide_eq_true e⟩
  cases el : rs.filter fun r => decide (pr3 t.m r = mostN t rs) with
  | nil => rw [el] at hm; cases hm
  | cons a tl =>
    have ea : hereOf t rs = a := by
      unfold hereOf
      rw [el]; rfl
    rw [ea]
    have := List.mem_filter.mp (show a ∈ rs.filter fun r => decide (pr3 t.m r = mostN t rs) by rw [el]; exact List.mem_cons_self)
    exact ⟨tl, rfl, this.1, of_decide_eq_true this.2⟩
/-- the cut on the way back, from the first zone on -/
def cutW (t : Tb) (zs : List Zo) : List R3 := (bkw (stepsOf t [(0, 0, 0)] zs).reverse (hereOf t (lastR t zs))).reverse
def mostM (t : Tb) (zs : List Zo) : Nat := mostN t (lastR t zs)
def wanted (t : Tb) (n : Nat) : R3 := (n * t.m.1, n * t.m.2.1, n * t.m.2.2)
/-- what most_pairs tells -/
def mostD (t : Tb) (zs : List Zo) : D := .tup [.int (mostM t zs : Int), rowsD (wcut (wanted t (mostM t zs)) (cutW t zs)), .tup ((fronts t [(0, 0, 0)] zs).map fun rs => rowsD (srt rs))]
theorem lastR_sg (Z : ∀ z ∈ zs, Zok t z) : ∀ i, i ≤ zs.length → Sg3 (6 * i) (lastR t (zs.take i)) := by
  intro i
  induction i with
  | zero => exact fun _ x hx => by rw [List.mem_singleton.mp hx]; exact Nat.le_refl _
  | succ i ih =>
    intro hi
    rw [List.take_succ_eq_append_getElem (by omega), lastR_snoc]
    exact fun x hx => sums_sg (Z _ (List.getElem_mem (by omega))) (ih (by omega)) x (grt_sub hx)
theorem lastR_len (l4 : zs.length ≤ 4) (Z : ∀ z ∈ zs, Zok t z) : (lastR t zs).length ≤ 625 := by
  show (lastF _ _).length ≤ 625
  unfold lastF
  cases el : (fronts t [(0, 0, 0)] zs).getLast? with
  | none => exact Nat.le_of_ble_eq_true rfl
  | some rs => exact (fronts_len l4 Z (List.mem_of_getLast? el)).1
theorem lastR_ne (Z : ∀ z ∈ zs, Zok t z) : 0 < (lastR t zs).length := by
  show 0 < (lastF _ _).length
  unfold lastF
  cases el : (fronts t [(0, 0, 0)] zs).getLast? with
  | none => exact Nat.le_refl _
  | some rs => exact fronts_ne zs _ (Nat.le_refl _) Z rs (List.mem_of_getLast? el)
/-! ### the walk -/
theorem cutW_len : (cutW t zs).length = zs.length := by
  unfold cutW
  rw [List.length_reverse, bkw_len, List.length_reverse, steps_len]
theorem most_pairs_eq {s g : D} (M : TbM t) (Z : ∀ z ∈ zs, Zok t z) (l4 : zs.length ≤ 4) : c_most_pairs [skD (.tup (zs.map znD)) s g, tbD t] h = .ok (mostD t zs) h := by
  refine eq_any fun Q X c => ?_
  unfold c_most_pairs f_most_pairs
  have lR := lastR_len l4 Z
  have nR := lastR_ne Z
  refine wp_gcF (wp_mono (Q := fun d h1 => d = mostD t zs ∧ ∃ tl, h1 = h ++ tl) (X := fun _ _ _ => False) ?_ (fun d h1 q => ?_) fun _ _ _ x => x.elim)
  · refine wp_bodyE [some (skD (.tup (zs.map znD)) s g), some (tbD t), none, none, none, none, none, none, none, none, none] rfl ?_
    fail "n"
    refine ws_for (wp_any ?_)
    fail "n"
    refine ⟨zs.length, fun i e k => ∃ x4, k = h ++ [.lst ((stepsOf t [(0, 0, 0)] (zs.take i)).map dltP)] ∧ e = [some (skD (.tup (zs.map znD)) s g), some (tbD t), some (.ref h.length), some (.lst ((lastR t (zs.take i)).map r3D)), x4, none, none, none, none, none, none], by omega, ⟨_, rfl, rfl⟩, ?_, ?_⟩
    · rintro i _ k hi ⟨x4, rfl, rfl⟩
      have Zi := Z zs[i] (List.getElem_mem hi)
      have et : zs.take (i + 1) = zs.take i ++ [zs[i]] := List.take_succ_eq_append_getElem hi
      have li := lastR_len (zs := zs.take i) (by rw [List.length_take]; omega) fun z hz => Z z (List.mem_of_mem_take hz)
      have few : (sums (lastR t (zs.take i)) (gcuts t zs[i])).length < 4000 := sim_len nd_sums fun x hx => by
        have := sums_sg Zi (lastR_sg Z i (by omega)) x hx
        omega
      have ls : ((stepsOf t [(0, 0, 0)] (zs.take i)).map dltP).length ≤ 50000 := by
        rw [List.length_map, steps_len, List.length_take]; omega
      refine ⟨znD zs[i], _, by unfold nxL; rw [List.getElem?_map, List.getElem?_eq_getElem hi]; rfl, rfl, ?_⟩
      fail "n"
      refine ways_wp Zi (by omega) few fun ek _ => ?_
      fail "n"
      try rw [set_app]
      refine wp_some (ix_last get_new (by rw [List.length_append]; exact Nat.succ_pos _)) ?_
      have e9 : ∀ (l : List D) (d : D) (p : (l ++ [d]).length - 1 < (l ++ [d]).length), (l ++ [d])[(l ++ [d]).length - 1] = d := fun l d p => by
        rw [List.getElem_append_right (by rw [List.length_append]; exact Nat.le_refl _)]
        simp
      rw [e9]
      refine wp_some list_dltP ?_
      rw [ek]
      fail "n"
      refine ⟨some (znD zs[i]), ?_, ?_⟩
      · rw [et, steps_snoc, List.map_append]; rfl
      · rw [et, lastR_snoc]; rfl
    · rintro _ k ⟨x4, rfl, rfl⟩
      refine ⟨by unfold nxL; rw [List.getElem?_map, List.getElem?_eq_none (Nat.le_refl _)]; rfl, ?_⟩
      rw [List.take_length]
      fail "n"
      refine wp_cma r3D (fun r => .int (pr3 t.m r : Int)) (wp_any ?_)
      fail "n"
      refine ⟨by omega, fun r hr => ⟨_, rfl, ?_⟩, ?_⟩
      · fail "n"
        refine wp_of (pairs_for_eq M) ?_
        first | rfl | exact ⟨rfl, rfl⟩
      fail "n"
      refine wp_some (max_mostN nR) ?_
      fail "n"
      refine wp_cga r3D (fun r => decide (pr3 t.m r = mostN t (lastR t zs))) r3D (wp_any ?_)
      fail "n"
      refine ⟨by omega, fun r hr => ⟨_, rfl, ?_⟩, ?_⟩
      · fail "n"
        refine wp_of (pairs_for_eq M) ?_
        fail "n"
        refine ⟨?_, fun _ => ?_⟩
        · refine decide_eq_decide.mpr ?_
          omega
        fail "n"
        try rfl
      obtain ⟨tl, ef, hm, _⟩ := here_ok (t := t) nR
      rw [ef, List.map_cons]
      fail "n"
      have lS : (stepsOf t [(0, 0, 0)] zs).length = zs.length := steps_len _ _
      obtain ⟨G1, eG⟩ : ∃ G1, G1 = h ++ [O.lst ((stepsOf t [(0, 0, 0)] zs).map dltP)] := ⟨_, rfl⟩
      have nG : (h ++ [O.lst ((stepsOf t [(0, 0, 0)] zs).map dltP)]).length = G1.length := by rw [eG]
      have gG : ∀ tl, (G1 ++ tl)[h.length]? = some (.lst ((stepsOf t [(0, 0, 0)] zs).map dltP)) := fun tl => by rw [eG]; exact get_mid
      have eL : h.length + 1 = G1.length := by rw [eG, List.length_append]; rfl
      try rw [nG]
      try rw [eL]
      rw [← eG]
      refine ws_for ?_
      refine wp_revR ?_
      fail "n"
      refine ⟨_, _, rfl, gG _, ?_⟩
      obtain ⟨b1, b2, b3⟩ := back_ok (t := t) zs.reverse (hereOf t (lastR t zs)) (by rw [List.reverse_reverse]; exact hm)
      rw [List.reverse_reverse] at b1 b2 b3
      refine ⟨zs.length, fun i e k => ∃ x8 x9, k = G1 ++ [.lst ((bkw ((stepsOf t [(0, 0, 0)] zs).reverse.take i) (hereOf t (lastR t zs))).map r3D)] ∧ e = [some (skD (.tup (zs.map znD)) s g), some (tbD t), some (.ref h.length), some (.lst ((lastR t zs).map r3D)), x4, some (.int (mostN t (lastR t zs) : Int)), some (r3D (bkh ((stepsOf t [(0, 0, 0)] zs).reverse.take i) (hereOf t (lastR t zs)))), some (.ref G1.length), x8, x9, none], by omega, ⟨none, none, rfl, rfl⟩, ?_, ?_⟩
      · rintro i _ k hi ⟨x8, x9, rfl, rfl⟩
        have hi' : i < (stepsOf t [(0, 0, 0)] zs).reverse.length := by rw [List.length_reverse, lS]; exact hi
        have m3 := b3 i hi'
        obtain ⟨s1, s2⟩ := bk_snoc (k := (stepsOf t [(0, 0, 0)] zs).reverse[i]) ((stepsOf t [(0, 0, 0)] zs).reverse.take i) (hereOf t (lastR t zs))
        rw [← List.take_succ_eq_append_getElem hi'] at s1 s2
        have lb : ((bkw ((stepsOf t [(0, 0, 0)] zs).reverse.take i) (hereOf t (lastR t zs))).map r3D).length ≤ 50000 := by
          rw [List.length_map, bkw_len, List.length_take]; omega
        have eS : ((stepsOf t [(0, 0, 0)] zs).map dltP).length = zs.length := by rw [List.length_map, lS]
        have e8 : (((stepsOf t [(0, 0, 0)] zs).map dltP)[((stepsOf t [(0, 0, 0)] zs).map dltP).length - 1 - i]'(by omega)) = dltP ((stepsOf t [(0, 0, 0)] zs).reverse[i]) := by
          rw [List.getElem_map, List.getElem_reverse]
          simp only [List.length_map]
        refine ⟨dltP ((stepsOf t [(0, 0, 0)] zs).reverse[i]), _, by rw [nxRv_at (gG _) (by omega), e8], rfl, ?_⟩
        generalize (stepsOf t [(0, 0, 0)] zs).reverse[i] = kw at m3 s1 s2 ⊢
        fail "n"
        refine wp_some (dget_dltP m3) ?_
        fail "n"
        refine ⟨some (dltP kw), some (r3D (wOp kw (bkh ((stepsOf t [(0, 0, 0)] zs).reverse.take i) (hereOf t (lastR t zs)))).2), ?_, ?_⟩
        · rw [s1, List.map_append]
          first | rfl | (rw [set_app]; rfl)
        · rw [s2]; rfl
      · rintro _ k ⟨x8, x9, rfl, rfl⟩
        refine ⟨by rw [List.length_map, lS]; exact nxRv_stop, ?_⟩
        rw [List.take_of_length_le (by rw [List.length_reverse, lS]; exact Nat.le_refl _)]
        fail "n"
        refine wp_some (rev_ref get_new) ?_
        fail "n"
        rw [← List.map_reverse]
        refine wp_of (whole_cut_eq (cs := cutW t zs) (M := mostN t (lastR t zs)) M (by rw [cutW_len]; omega)) ?_
        fail "n"
        refine wp_cmI dltP (fun kw => rowsD (srt (kw.map (·.1)))) (wp_any ?_)
        fail "n"
        refine ⟨_, it_ref (gG _), stepsOf t [(0, 0, 0)] zs, fun j => by unfold nxR; rw [gG _], by omega, fun kw hkw => ⟨_, rfl, ?_⟩, ?_⟩
        · have m : kw.map (·.1) ∈ fronts t [(0, 0, 0)] zs := by
            rw [← steps_keys]; exact List.mem_map_of_mem hkw
          have := (fronts_len l4 Z m).1
          rw [List.length_map] at this
          fail "n"
          try refine wp_sortL ?_
          fail "n"
          refine wp_some (sortL_dltP (by omega)) ?_
          fail "n"
          first | rfl | exact ⟨rfl, rfl⟩
        fail "n"
        refine ⟨?_, ?_⟩
        · unfold mostD mostM
          rw [← steps_keys, List.map_map]; rfl
        · rw [eG, List.append_assoc]
          exact ⟨_, rfl⟩
  · obtain ⟨rfl, tl, rfl⟩ := q
    refine ⟨_, dW_val ?_, cls_app, ?_⟩
    · refine vals_all (ds := [_, _, _]) fun x hx => ?_
      simp only [List.mem_cons, List.not_mem_nil, or_false] at hx
      rcases hx with rfl | rfl | rfl
      · rfl
      · exact vals_all fun x hx => by
          obtain ⟨y, _, rfl⟩ := List.mem_map.mp hx
          rfl
      · exact vals_all fun x hx => by
          obtain ⟨y, _, rfl⟩ := List.mem_map.mp hx
          exact vals_all fun x hx => by
            obtain ⟨y, _, rfl⟩ := List.mem_map.mp hx
            rfl
    · rw [take_app]
      exact c
end
/-! # G171: what most_pairs tells: its cut fits, uses what is wanted, its paper is right -/
/-! ### the functions -/
noncomputable section
def f_zones : FS := (sSeq (sSet 1 (eFn c_draw [0, 1] [] (aCons (eName 0) (aCons (eC (.int 8)) aNil))))
  (sSeq (sSet 2 (eBin gIx (eV (aCons (eBin gAdd (eC (.int 1)) (eFn c_draw [0, 1] [] (aCons (eName 0) (aCons (eC (.int 2)) aNil)))) (aCons (eC (.int 4)) (aCons (eC (.int 3)) aNil)))) (eBin gAdd (eCall gInt (aCons (eBin gEq (eName 1) (eC (.int 5))) aNil)) (eBin gMul (eC (.int 2)) (eCall gInt (aCons (eBin gEq (eName 1) (eC (.int 3))) aNil))))))
  (sSeq (sSet 3 (eM aNil))
  (sSeq (sFor (iR1 (aCons (eName 2) aNil)) (nSet 4)
  (sSeq (sSet 5 (eBin gIx (eV (aCons (eBin gAdd (eC (.int 8)) (eFn c_draw [0, 1] [] (aCons (eName 0) (aCons (eC (.int 17)) aNil)))) (aCons (eC (.int 24)) (aCons (eBin gAdd (eC (.int 1)) (eFn c_draw [0, 1] [] (aCons (eName 0) (aCons (eC (.int 12)) aNil)))) aNil)))) (eBin gAdd (eCall gInt (aCons (eBin gEq (eName 1) (eC (.int 5))) aNil)) (eBin gMul (eC (.int 2)) (eCall gInt (aCons (eBin gEq (eName 1) (eC (.int 3))) aNil))))))
  (sDrop (eMt isL mAppend (eName 3) (aCons (eTup (aCons (eFn c_pick [0, 1] [] (aCons (eName 0) (aCons (eV (aCons (eC (.str "along")) (aCons (eC (.str "across")) aNil))) aNil))) (aCons (eName 5) aNil))) aNil)))))
  (sRet (eCall gTuple (aCons (eName 3) aNil)))))))
def c_zones : List D → Hs → R D := gcF (fnBody 6 f_zones)

end
section
variable {X : XQ} {Q : D → Hs → Prop} {h : Hs} {x y : R3} {e : Ev} {hs : Hs} {ds : List D} {z : Zo} {t : Tb} {zs : List Zo}
theorem ad3_ass {x y z : R3} : ad3 (ad3 x y) z = ad3 x (ad3 y z) := by
  unfold ad3
  rw [Nat.add_assoc, Nat.add_assoc, Nat.add_assoc]
theorem ad3_0 {x : R3} : ad3 (0, 0, 0) x = x := by
  unfold ad3
  rw [Nat.zero_add, Nat.zero_add, Nat.zero_add]
theorem sum3_app : ∀ (a b : List R3), sum3 (a ++ b) = ad3 (sum3 a) (sum3 b)
  | [], b => ad3_0.symm
  | c :: a, b => by
    show ad3 c (sum3 (a ++ b)) = ad3 (ad3 c (sum3 a)) (sum3 b)
    rw [sum3_app a b, ad3_ass]
theorem sum3_rev : ∀ (a : List R3), sum3 a.reverse = sum3 a
  | [] => rfl
  | c :: a => by
    rw [List.reverse_cons, sum3_app, sum3_rev a, ad3_com]
    show ad3 (ad3 c (0, 0, 0)) (sum3 a) = ad3 c (sum3 a)
    rw [ad3_com (x := c), ad3_0]
theorem cutW_ok (Z : ∀ z ∈ zs, Zok t z) : sum3 (cutW t zs) = hereOf t (lastR t zs) ∧ ∀ (i : Nat) (c : R3) (w : Zo), (cutW t zs)[i]? = some c → zs[i]? = some w → c ∈ gcuts t w := by
  obtain ⟨tl, ef, hm, _⟩ := here_ok (t := t) (lastR_ne Z)
  obtain ⟨b1, b2, b3⟩ := back_ok (t := t) zs.reverse (hereOf t (lastR t zs)) (by rw [List.reverse_reverse]; exact hm)
  rw [List.reverse_reverse] at b1 b2
  refine ⟨?_, fun i c w hc hw => ?_⟩
  · unfold cutW
    rw [sum3_rev, b1]
  · have hi : i < zs.length := (List.getElem?_eq_some_iff.mp hw).1
    have lb : (bkw (stepsOf t [(0, 0, 0)] zs).reverse (hereOf t (lastR t zs))).length = zs.length := by rw [bkw_len, List.length_reverse, steps_len]
    unfold cutW at hc
    rw [List.getElem?_reverse (by rw [lb]; exact hi), lb] at hc
    refine b2 _ c w hc ?_
    rw [List.getElem?_reverse (by omega), show zs.length - 1 - (zs.length - 1 - i) = i by omega]
    exact hw
section
variable {L : Nat} {K : Hs → Prop} {Q : D → Hs → Prop}
theorem zones_wp (S : G.St L K h) (sK : Stb L K) (c : ∀ (zs : List Zo) h', 1 ≤ zs.length → zs.length ≤ 4 → (∀ z ∈ zs, z.2 ≤ 24) → G.St L K h' → Q (.tup (zs.map znD)) h') : Wp (c_zones [.ref 2] h) Q X := by
  unfold c_zones f_zones
  refine wp_gcS S sK fun S0 sK0 => ?_
  refine wp_bodyE [some (.ref 2), none, none, none, none, none] rfl ?_
  fail "n"
  rename_i w h1 w0 w1 S1 a h2 a0 a1 S2
  have n3 : ∀ {n : Int} {p : w == 5 ∧ w == 3}, False := by
    intro n p
    have := beq_iff_eq.mp p.1
    have := beq_iff_eq.mp p.2
    omega
  have i3 := at3 (b := w == 5) (c := w == 3) fun p => n3 (n := 0) (p := p)
  refine wp_ixD (IntIn 1 4) i3.1 i3.2 (all_cons (intIn (by omega) (by omega)) (all_cons (intIn (by omega) (by omega)) (all_cons (intIn (by omega) (by omega)) all_nil))) ?_
  rintro _ ⟨m, rfl, m1, m2⟩
  fail "n"
  have S3 := S2.app (o := .lst []) sK0
  have hN := S2.lt
  obtain ⟨N, eN⟩ : ∃ N, N = h2.length := ⟨_, rfl⟩
  have lN : h.length ≤ N := by rw [eN]; exact S2.len
  rw [← eN] at hN S3 ⊢
  refine ws_for (wp_r1 (wp_acons (wp_name rfl (wp_anil ?_))))
  refine ⟨_, rfl, okR_in (by omega) (by omega), m.toNat, fun i e g => ∃ ds x4 x5, G.St (N + 1) (fun g => (K g ∧ Old h g) ∧ g[N]? = some (.lst ds)) g ∧ ds.length = i ∧ (∀ z ∈ ds, ZzR z) ∧ e = [some (.ref 2), some (.int w), some (.int m), some (.ref N), x4, x5],
    by omega, ⟨[], _, _, S3, rfl, all_nil, rfl⟩, ?_, ?_⟩
  · rintro i _ g hi ⟨ds, x4, x5, S, hl, ha, rfl⟩
    have sK2 : Stb (N + 1) (fun g => (K g ∧ Old h g) ∧ g[N]? = some (.lst ds)) := (sK0.mono (by omega)).and (stb_get hN (Nat.lt_succ_self _))
    refine ⟨_, _, nxN_some hi, rfl, ?_⟩
    fail "n"
    rename_i u h5 u0 u1 S5 v h6 v0 v1 S6
    refine wp_ixD (IntIn 1 24) i3.1 i3.2 (all_cons (intIn (by omega) (by omega)) (all_cons (intIn (by omega) (by omega)) (all_cons (intIn (by omega) (by omega)) all_nil))) ?_
    rintro _ ⟨l, rfl, l1, l2⟩
    fail "n"
    refine pkl S6 sK2 (by decide) (by decide) fun gr h8 hgr S8 => ?_
    fail "n"
    simp only [List.mem_cons, List.not_mem_nil, or_false] at hgr
    refine ⟨_, _, _, S8.put hN (sK0.mono lN), by rw [List.length_append, hl]; rfl, fun z hz => ?_, rfl⟩
    rcases List.mem_append.mp hz with hz | hz
    · exact ha z hz
    · rw [List.mem_singleton.mp hz]
      have el : D.int l = .int ((l.toNat : Nat) : Int) := by rw [Int.toNat_of_nonneg (by omega)]
      rw [el]
      rcases hgr with rfl | rfl
      · exact ⟨(false, l.toNat), rfl, by show l.toNat ≤ 24; omega⟩
      · exact ⟨(true, l.toNat), rfl, by show l.toNat ≤ 24; omega⟩
  · rintro _ g ⟨ds, x4, x5, S, hl, ha, rfl⟩
    obtain ⟨zs, rfl, hz⟩ := zzR_all ha
    rw [List.length_map] at hl
    refine ⟨nxN_stop, ?_⟩
    fail "n"
    refine ⟨.tup (zs.map znD), dW_val (show val (.tup _) = true from vals_all fun z hz => (ha z hz).vl), S.off lN, fun g2 S2 => c zs g2 (by omega) (by omega) hz S2⟩
end
end
/-! # G172: no cut gives more than mostM (plain) -/
section
variable {x y : R3} {z : Zo} {t t' : Tb} {zs zs' : List Zo} {cs ds : List R3}
inductive CutZ (t : Tb) : List Zo → List R3 → Prop
  | nil : CutZ t [] []
  | cons {z : Zo} {zs : List Zo} {c : R3} {cs : List R3} : c ∈ zcuts t z → CutZ t zs cs → CutZ t (z :: zs) (c :: cs)
theorem CutZ.app {ws : List Zo} {ds : List R3} (a : CutZ t zs cs) (b : CutZ t ws ds) : CutZ t (zs ++ ws) (cs ++ ds) := by
  induction a with
  | nil => exact b
  | cons m _ ih => exact .cons m ih
theorem CutZ.rev (a : CutZ t zs cs) : CutZ t zs.reverse cs.reverse := by
  induction a with
  | nil => exact .nil
  | cons m _ ih =>
    rw [List.reverse_cons, List.reverse_cons]
    exact ih.app (.cons m .nil)
theorem CutZ.split : ∀ {a b : List Zo} {cs : List R3}, CutZ t (a ++ b) cs → ∃ c1 c2, cs = c1 ++ c2 ∧ CutZ t a c1 ∧ CutZ t b c2
  | [], _, cs, h => ⟨[], cs, rfl, .nil, h⟩
  | z :: a, b, _, .cons m h => by
    obtain ⟨c1, c2, e, h1, h2⟩ := CutZ.split (a := a) h
    exact ⟨_ :: c1, c2, by rw [e]; rfl, .cons m h1, h2⟩
theorem cutZ_of : ∀ (zs : List Zo) (cs : List R3), cs.length = zs.length → (∀ (i : Nat) (c : R3) (w : Zo), cs[i]? = some c → zs[i]? = some w → c ∈ zcuts t w) → CutZ t zs cs
  | [], [], _, _ => .nil
  | z :: zs, c :: cs, l, h => .cons (h 0 c z rfl rfl) (cutZ_of zs cs (Nat.succ.inj l) fun i c w h1 h2 => h (i + 1) c w h1 h2)
theorem le3_ad {x y u v : R3} (a : le3 x u = true) (b : le3 y v = true) : le3 (ad3 x y) (ad3 u v) = true := by
  obtain ⟨a1, a2, a3⟩ := le3_iff.mp a
  obtain ⟨b1, b2, b3⟩ := le3_iff.mp b
  exact le3_iff.mpr ⟨Nat.add_le_add a1 b1, Nat.add_le_add a2 b2, Nat.add_le_add a3 b3⟩
theorem cov_up {rs : List R3} (l : le3 x y = true) (h : cov rs y = true) : cov rs x = true := by
  obtain ⟨u, hu, e⟩ := cov_iff.mp h
  exact cov_iff.mpr ⟨u, hu, le3_trans l e⟩
theorem cut_cov (C : CutZ t zs cs) : ∀ (ah : List R3) (x : R3), cov ah x = true → cov (lastF ah (fronts t ah zs)) (ad3 x (sum3 cs)) = true := by
  induction C with
  | nil =>
    intro ah x h
    show cov ah (ad3 x (0, 0, 0)) = true
    rw [ad3_com, ad3_0]; exact h
  | @cons z zs c cs m _ ih =>
    intro ah x h
    obtain ⟨u, hu, e1⟩ := cov_iff.mp h
    obtain ⟨v, hv, e2⟩ := cov_iff.mp (grt_cov m)
    have hs : ad3 u v ∈ sums ah (gcuts t z) := mem_sums.mpr ⟨u, hu, v, hv, rfl⟩
    have h2 := ih (grt (sums ah (gcuts t z))) (ad3 x c) (cov_up (le3_ad e1 e2) (grt_cov hs))
    show cov (lastF ah (grt (sums ah (gcuts t z)) :: fronts t (grt (sums ah (gcuts t z))) zs)) (ad3 x (ad3 c (sum3 cs))) = true
    rw [lastF_cons, ← ad3_ass]
    exact h2
theorem pr3_mono {m : R3} (l : le3 x y = true) : pr3 m x ≤ pr3 m y := by
  obtain ⟨a, b, c⟩ := le3_iff.mp l
  have h1 := Nat.div_le_div_right (c := m.1) a
  have h2 := Nat.div_le_div_right (c := m.2.1) b
  have h3 := Nat.div_le_div_right (c := m.2.2) c
  show min (min (x.1 / m.1) (x.2.1 / m.2.1)) (x.2.2 / m.2.2) ≤ min (min (y.1 / m.1) (y.2.1 / m.2.1)) (y.2.2 / m.2.2)
  omega
theorem mostM_ge (C : CutZ t zs cs) : pr3 t.m (sum3 cs) ≤ mostM t zs := by
  have h := cut_cov C [(0, 0, 0)] (0, 0, 0) rfl
  rw [ad3_0] at h
  obtain ⟨u, hu, e⟩ := cov_iff.mp h
  exact Nat.le_trans (pr3_mono e) (mostN_ge hu)
theorem mostM_at (Z : ∀ z ∈ zs, Zok t z) : ∃ cs, CutZ t zs cs ∧ pr3 t.m (sum3 cs) = mostM t zs := by
  obtain ⟨e1, e2⟩ := cutW_ok Z
  obtain ⟨tl, ef, hm, em⟩ := here_ok (t := t) (lastR_ne Z)
  exact ⟨cutW t zs, cutZ_of _ _ cutW_len fun i c w h1 h2 => grt_sub (e2 i c w h1 h2), by rw [e1]; exact em⟩
theorem mostM_le (Z : ∀ z ∈ zs, Zok t z) (h : ∀ cs, CutZ t zs cs → ∃ ds, CutZ t' zs' ds ∧ pr3 t.m (sum3 cs) ≤ pr3 t'.m (sum3 ds)) : mostM t zs ≤ mostM t' zs' := by
  obtain ⟨cs, C, e⟩ := mostM_at Z
  obtain ⟨ds, D, l⟩ := h cs C
  rw [← e]
  exact Nat.le_trans l (mostM_ge D)
theorem most_rev (Z : ∀ z ∈ zs, Zok t z) : mostM t zs.reverse = mostM t zs :=
  Nat.le_antisymm (mostM_le (fun z hz => Z z (List.mem_reverse.mp hz)) fun cs C => ⟨cs.reverse, (by have := C.rev; rwa [List.reverse_reverse] at this), by rw [sum3_rev]; exact Nat.le_refl _⟩)
    (mostM_le Z fun cs C => ⟨cs.reverse, C.rev, by rw [sum3_rev]; exact Nat.le_refl _⟩)
/-- grains turned about -/
def turnP (p : Pt3) : Pt3 := (p.2.1, p.1, p.2.2)
def turnT (t : Tb) : Tb := ⟨turnP t.a, turnP t.b, turnP t.c⟩
def turnZ (z : Zo) : Zo := (!z.1, z.2)
theorem turn_len {p : Pt3} : lenP (turnZ z) (turnP p) = lenP z p := by
  obtain ⟨b, n⟩ := z
  cases b <;> rfl
theorem turn_cuts : zcuts (turnT t) (turnZ z) = zcuts t z := by
  show cutsOf z.2 (lenP (turnZ z) (turnP t.a)) (lenP (turnZ z) (turnP t.b)) (lenP (turnZ z) (turnP t.c)) = _
  rw [turn_len, turn_len, turn_len]; rfl
theorem cut_turn (C : CutZ t zs cs) : CutZ (turnT t) (zs.map turnZ) cs := by
  induction C with
  | nil => exact .nil
  | cons m _ ih => exact .cons (by rw [turn_cuts]; exact m) ih
theorem turn_z2 : turnZ (turnZ z) = z := by
  obtain ⟨b, n⟩ := z
  cases b <;> rfl
theorem turn_t2 : turnT (turnT t) = t := rfl
theorem most_turn (Z : ∀ z ∈ zs, Zok t z) (Z2 : ∀ z ∈ zs.map turnZ, Zok (turnT t) z) : mostM (turnT t) (zs.map turnZ) = mostM t zs := by
  refine Nat.le_antisymm (mostM_le Z2 fun cs C => ⟨cs, ?_, Nat.le_refl _⟩) (mostM_le Z fun cs C => ⟨cs, cut_turn C, Nat.le_refl _⟩)
  have := cut_turn C
  rw [turn_t2, List.map_map, show turnZ ∘ turnZ = id from funext fun z => turn_z2, List.map_id] at this
  exact this
theorem Tok.turn (T : Tok t) : Tok (turnT t) := ⟨⟨T.a.2.1, T.a.1, T.a.2.2⟩, ⟨T.b.2.1, T.b.1, T.b.2.2⟩, ⟨T.c.2.1, T.c.1, T.c.2.2⟩⟩
theorem zero_cut (Z : Zok t z) : (0, 0, 0) ∈ zcuts t z := by
  refine (mem_cuts Z.a Z.b Z.c).mpr ⟨fun _ => rfl, fun _ => rfl, fun _ => rfl, ?_⟩
  unfold used
  simp
theorem most_ins {a b : List Zo} (Z : ∀ z ∈ a ++ b, Zok t z) (Zz : Zok t z) : mostM t (a ++ b) ≤ mostM t (a ++ z :: b) := mostM_le Z fun cs C => by
  obtain ⟨c1, c2, rfl, h1, h2⟩ := C.split
  refine ⟨c1 ++ (0, 0, 0) :: c2, h1.app (.cons (zero_cut Zz) h2), ?_⟩
  rw [sum3_app, sum3_app]
  show _ ≤ pr3 t.m (ad3 (sum3 c1) (ad3 (0, 0, 0) (sum3 c2)))
  rw [ad3_0]
  exact Nat.le_refl _
theorem most_len {a b : List Zo} {g : Bool} {l l' : Nat} (Z : ∀ z ∈ a ++ (g, l) :: b, Zok t z) (Z' : Zok t (g, l')) (hl : l ≤ l') : mostM t (a ++ (g, l) :: b) ≤ mostM t (a ++ (g, l') :: b) := mostM_le Z fun cs C => by
  obtain ⟨c1, c2, rfl, h1, h2⟩ := C.split
  cases h2 with
  | @cons _ _ c c2 m h2 =>
    have Z1 := Z (g, l) (List.mem_append_right _ List.mem_cons_self)
    obtain ⟨f1, f2, f3, f4⟩ := (mem_cuts Z1.a Z1.b Z1.c).mp m
    refine ⟨c1 ++ c :: c2, h1.app (.cons ((mem_cuts Z'.a Z'.b Z'.c).mpr ⟨f1, f2, f3, Nat.le_trans f4 hl⟩) h2), Nat.le_refl _⟩
theorem pr3_dear {m m' : R3} (h : le3 m m' = true) (p1 : 0 < m.1) (p2 : 0 < m.2.1) (p3 : 0 < m.2.2) : pr3 m' x ≤ pr3 m x := by
  obtain ⟨a, b, c⟩ := le3_iff.mp h
  have h1 := Nat.div_le_div_left (a := x.1) a p1
  have h2 := Nat.div_le_div_left (a := x.2.1) b p2
  have h3 := Nat.div_le_div_left (a := x.2.2) c p3
  show min (min (x.1 / m'.1) (x.2.1 / m'.2.1)) (x.2.2 / m'.2.2) ≤ min (min (x.1 / m.1) (x.2.1 / m.2.1)) (x.2.2 / m.2.2)
  omega
def dearP (p : Pt3) (n : Nat) : Pt3 := (p.1, p.2.1, n)
theorem most_dear {n1 n2 n3 : Nat} (T : Tok t) (Z : ∀ z ∈ zs, Zok t z) (l1 : t.a.2.2 ≤ n1) (l2 : t.b.2.2 ≤ n2) (l3 : t.c.2.2 ≤ n3) : mostM ⟨dearP t.a n1, dearP t.b n2, dearP t.c n3⟩ zs ≤ mostM t zs := by
  have e : ∀ z, zcuts ⟨dearP t.a n1, dearP t.b n2, dearP t.c n3⟩ z = zcuts t z := fun z => rfl
  refine mostM_le (fun z hz => ⟨(Z z hz).a, (Z z hz).b, (Z z hz).c, (Z z hz).L, fun p hp v hv => ?_⟩) fun cs C => ⟨cs, ?_, pr3_dear (le3_iff.mpr ⟨l1, l2, l3⟩) T.a.2.2.1 T.b.2.2.1 T.c.2.2.1⟩
  · rcases hp with rfl | rfl | rfl
    · exact (Z z hz).s t.a (by simp) v hv
    · exact (Z z hz).s t.b (by simp) v hv
    · exact (Z z hz).s t.c (by simp) v hv
  · induction C with
    | nil => exact .nil
    | cons m _ ih => exact .cons m (ih fun z hz => Z z (List.mem_cons_of_mem _ hz))
theorem most_3 (T : Tok t) : mostM t [(false, 3), (true, 3)] = 0 := by
  have Z : ∀ z ∈ [((false, 3) : Zo), (true, 3)], Zok t z := fun z hz => by
    simp only [List.mem_cons, List.not_mem_nil, or_false] at hz
    rcases hz with rfl | rfl
    · exact T.zk (by decide)
    · exact T.zk (by decide)
  have one : ∀ z : Zo, z.2 = 3 → Zok t z → ∀ c ∈ zcuts t z, c = (0, 0, 0) := fun z e Z c hc => by
    obtain ⟨f1, f2, f3, f4⟩ := (mem_cuts Z.a Z.b Z.c).mp hc
    have h1 := okc_used Z.a f1
    have h2 := okc_used Z.b f2
    have h3 := okc_used Z.c f3
    obtain ⟨a, b, c⟩ := c
    dsimp only at f4 h1 h2 h3
    rw [e] at f4
    obtain rfl : a = 0 := by omega
    obtain rfl : b = 0 := by omega
    obtain rfl : c = 0 := by omega
    rfl
  obtain ⟨cs, C, e⟩ := mostM_at Z
  rw [← e]
  cases C with
  | cons m1 C =>
    cases C with
    | cons m2 C =>
      cases C
      rw [one _ rfl (Z _ (by simp)) _ m1, one _ rfl (Z _ (by simp)) _ m2]
      show min (min (0 / t.m.1) (0 / t.m.2.1)) (0 / t.m.2.2) = 0
      rw [Nat.zero_div, Nat.zero_div, Nat.zero_div]; rfl
end
end G

/-! # G173: functions that may run while an exception is handled (they raise nothing, walk over nothing) -/
namespace L2H
open PySem PySem.Spec PyProof.Rows L2
end L2H
namespace G
open PySem PySem.Spec PyProof.Rows L2
section
end
section
end
section
end
section
end
/-! # G174: sum(a tuple of whole numbers, start=0) -/
section
end

section
end
/-! ### int(text) -/
end G

namespace K15
open PySem PySem.Spec PyProof.Rows L2 G
/-! ### the functions -/
noncomputable section
def f_most : FS := (sRet (eCall gMaxL (aCons (eV (lComp (iKeysF (eBin gIx (eFn c_fronts [0, 1] [] (aCons (eName 0) (aCons (eName 1) aNil))) (eUn gNeg (eC (.int 1))))) (nSet 2) tYesF (eFn c_given [0, 1] [] (aCons (eName 1) (aCons (eName 2) aNil))) [2])) aNil)))
def c_most : List D → Hs → R D := fnBody 3 f_most
def f_told : FS := (sRet (eBin gIx (eFnK c_most_pairs [1, 0] [] aNil (aCons (eName 1) (aCons (eGc (eMk "Skin" c_Skin_init [0, 1, 2, 3] [(.int 0), (.int 0)] (aCons (eName 0) aNil) aNil)) aNil))) (eC (.int 0))))
def c_told : List D → Hs → R D := fnBody 2 f_told
def f_turned : FS := (sSeq (sSet 2 (eDisp (pCons (eC (.str "along")) (eC (.str "across")) (pCons (eC (.str "across")) (eC (.str "along")) pNil))))
  (sRet (eTup (aCons (eCall gTuple (aCons (eV (lComp (iAny (eName 0)) (nTup 2 (nCons (nSet 3) (nCons (nSet 4) nNil))) tYesF (eTup (aCons (eBin gDget (eName 2) (eName 3)) (aCons (eName 4) aNil))) [3, 4])) aNil)) (aCons (eCall gTuple (aCons (eV (lComp (iAny (eName 1)) (nTup 3 (nCons (nSet 5) (nCons (nSet 6) (nCons (nSet 7) nNil)))) tYesF (eTup (aCons (eName 6) (aCons (eName 5) (aCons (eName 7) aNil)))) [5, 6, 7])) aNil)) aNil)))))
def c_turned : List D → Hs → R D := fnBody 8 f_turned
def f_grown : FS := (sSeq (sSet 2 (eFn c_draw [0, 1] [] (aCons (eName 0) (aCons (eCall gLen (aCons (eName 1) aNil)) aNil))))
  (sSeq (sAsg (nTup 2 (nCons (nSet 3) (nCons (nSet 4) nNil))) (eBin gIx (eName 1) (eName 2)))
  (sSeq (sIf (tAndF (eB (eBin gEq (eFn c_draw [0, 1] [] (aCons (eName 0) (aCons (eC (.int 2)) aNil))) (eC (.int 1)))) (eB (eBin gLt (eCall gLen (aCons (eName 1) aNil)) (eC (.int 4))))) (sRet (eBin gAdd (eBin gAdd (eSl (eName 1) oNone (oSome (eName 2))) (eTup (aCons (eTup (aCons (eName 3) (aCons (eBin gAdd (eC (.int 1)) (eFn c_draw [0, 1] [] (aCons (eName 0) (aCons (eC (.int 12)) aNil)))) aNil))) aNil))) (eSl (eName 1) (oSome (eName 2)) oNone))) sSkip)
  (sRet (eBin gAdd (eBin gAdd (eSl (eName 1) oNone (oSome (eName 2))) (eTup (aCons (eTup (aCons (eName 3) (aCons (eCall gMin2 (aCons (eC (.int 24)) (aCons (eBin gAdd (eBin gAdd (eName 4) (eC (.int 1))) (eFn c_draw [0, 1] [] (aCons (eName 0) (aCons (eC (.int 4)) aNil)))) aNil))) aNil))) aNil))) (eSl (eName 1) (oSome (eBin gAdd (eName 2) (eC (.int 1)))) oNone))))))
def c_grown : List D → Hs → R D := fnBody 5 f_grown
def f_right : FS := (sSeq (sSet 3 (eFn c_most [0, 1] [] (aCons (eName 1) (aCons (eName 2) aNil))))
  (sSeq (sAsg (nTup 2 (nCons (nSet 4) (nCons (nSet 5) nNil))) (eFn c_turned [0, 1] [] (aCons (eName 1) (aCons (eName 2) aNil))))
  (sSeq (sIf (tOrF (eB (eBin gNe (eFn c_told [0, 1] [] (aCons (eName 1) (aCons (eName 2) aNil))) (eName 3))) (eB (eBin gNe (eFn c_told [0, 1] [] (aCons (eUn gRev (eName 1)) (aCons (eName 2) aNil))) (eName 3)))) (sRet (eC (.bl false))) sSkip)
  (sSeq (sIf (eB (eBin gGt (eCall gSum (aCons (eV (lComp (iAny (eName 1)) (nTup 2 (nCons (nSet 11) (nCons (nSet 12) nNil))) tYesF (eName 12) [11, 12])) aNil)) (eC (.int 60)))) (sRet (eC (.bl true))) sSkip)
  (sSeq (sIf (eB (eBin gNe (eFn c_told [0, 1] [] (aCons (eName 4) (aCons (eName 5) aNil))) (eName 3))) (sRet (eC (.bl false))) sSkip)
  (sSeq (sIf (eB (eBin gLt (eFn c_told [0, 1] [] (aCons (eFn c_grown [0, 1] [] (aCons (eName 0) (aCons (eName 1) aNil))) (aCons (eName 2) aNil))) (eName 3))) (sRet (eC (.bl false))) sSkip)
  (sSeq (sSet 6 (eFn c_draw [0, 1] [] (aCons (eName 0) (aCons (eC (.int 3)) aNil))))
  (sSeq (sAsg (nTup 3 (nCons (nSet 7) (nCons (nSet 8) (nCons (nSet 9) nNil)))) (eBin gIx (eName 2) (eName 6)))
  (sSeq (sSet 10 (eBin gAdd (eBin gAdd (eSl (eName 2) oNone (oSome (eName 6))) (eTup (aCons (eTup (aCons (eName 7) (aCons (eName 8) (aCons (eCall gMin2 (aCons (eC (.int 4)) (aCons (eBin gAdd (eName 9) (eC (.int 1))) aNil))) aNil)))) aNil))) (eSl (eName 2) (oSome (eBin gAdd (eName 6) (eC (.int 1)))) oNone)))
  (sRet (eAnd (eBin gLe (eFn c_told [0, 1] [] (aCons (eName 1) (aCons (eName 10) aNil))) (eName 3)) (eBin gEq (eFn c_told [0, 1] [] (aCons (eTup (aCons (eTup (aCons (eC (.str "along")) (aCons (eC (.int 3)) aNil))) (aCons (eTup (aCons (eC (.str "across")) (aCons (eC (.int 3)) aNil))) aNil))) (aCons (eName 2) aNil))) (eC (.int 0))))))))))))))
def c_right : List D → Hs → R D := fnBody 13 f_right
def f_law : FS := (sSeq (sSet 1 (eFn c_deck [0] [] (aCons (eName 0) aNil)))
  (sSeq (sFor (iR1 (aCons (eC (.int 4)) aNil)) (nSet 2)
  (sSeq (sPar 3 4 (aCons (eFn c_zones [0] [] (aCons (eName 1) aNil)) (aCons (eFn c_table [0] [] (aCons (eName 1) aNil)) aNil)))
  (sSeq (sIf (tAndF (eB (eBin gGt (eName 2) (eC (.int 0)))) (eB (eBin gGt (eCall gSum (aCons (eV (lComp (iAny (eName 3)) (nTup 2 (nCons (nSet 5) (nCons (nSet 6) nNil))) tYesF (eName 6) [5, 6])) aNil)) (eC (.int 60))))) (sSet 3 (eSl (eName 3) oNone (oSome (eC (.int 2))))) sSkip)
  (sIf (tNotF (eT (eFn c_right [0, 1, 2] [] (aCons (eName 1) (aCons (eName 3) (aCons (eName 4) aNil)))))) (sRet (eC (.bl false))) sSkip))))
  (sRet (eC (.bl true)))))
def c_law : List D → Hs → R D := fnBody 7 f_law
end
end K15

namespace K15
open PySem PySem.Spec L2 G MR
section
variable {L : Nat} {K : Hs → Prop} {h : Hs} {Q : D → Hs → Prop} {X : XQ} {d : D} {n k B : Nat} {t : Tb} {zs : List Zo} {z : Zo}
theorem vz : val (.tup (zs.map znD)) = true := vals_all fun y hy => by
  obtain ⟨z, _, rfl⟩ := List.mem_map.mp hy
  rfl
theorem most_eq (T : Tok t) (hL : ∀ z ∈ zs, z.2 ≤ 24) (l1 : 1 ≤ zs.length) (l4 : zs.length ≤ 4) : c_most [.tup (zs.map znD), tbD t] h = .ok (.int (mostM t zs : Int)) h := by
  have Z : ∀ z ∈ zs, Zok t z := fun z hz => T.zk (hL z hz)
  refine eq_any fun Q X c => ?_
  unfold c_most f_most
  refine wp_bodyE [some (.tup (zs.map znD)), some (tbD t), none] rfl ?_
  fail "n"
  refine wp_cma r3D (fun r => .int (pr3 t.m r : Int)) (wp_keysF ?_)
  fail "n"
  refine fronts_wp T hL l4 fun ks F => ?_
  have k0 : ks.length = zs.length := F.len
  have hlast : ks.length - 1 < ks.length := by omega
  have el := frs_last F (by omega)
  have kll : (ks[ks.length - 1].map (·.1)).length ≤ 625 := by
    rw [el]; exact lastR_len l4 Z
  have ei : gIx h (.lst (ks.map dltD)) (.int (-1)) = some (dltD ks[ks.length - 1]) := by
    rw [lst_last (by rw [List.length_map]; omega)]
    simp only [List.length_map, List.getElem_map]
  generalize ks[ks.length - 1] = kw at el kll ei
  rw [List.length_map] at kll
  fail "n"
  refine wp_some ei ?_
  refine .inr ⟨_, _, rfl, ?_⟩
  refine ⟨kw.map (·.1), by rw [List.map_map, List.map_map]; rfl, by rw [List.length_map]; omega, fun r hr => ⟨_, rfl, ?_⟩, ?_⟩
  · fail "n"
    refine wp_of (given_eq T.m) ?_
    exact ⟨rfl, rfl⟩
  fail "n"
  rw [el]
  refine wp_some (max_mostN (lastR_ne Z)) ?_
  fail "n"
  exact c
theorem told_eq (T : Tok t) (hL : ∀ z ∈ zs, z.2 ≤ 24) (l4 : zs.length ≤ 4) : c_told [.tup (zs.map znD), tbD t] h = .ok (.int (mostM t zs : Int)) h := by
  have Z : ∀ z ∈ zs, Zok t z := fun z hz => T.zk (hL z hz)
  refine eq_any fun Q X c => ?_
  unfold c_told f_told
  refine wp_bodyE [some (.tup (zs.map znD)), some (tbD t)] rfl ?_
  fail "n"
  refine wp_egc ?_
  refine wp_mk ?_
  fail "n"
  refine mk_skin (z := .tup (zs.map znD)) (s := .int 0) (g := .int 0) ?_
  refine ⟨_, sk_new2 (Nat.le_refl _) vz rfl rfl, cls_app, ?_⟩
  rw [take_app]
  fail "n"
  refine wp_of (most_pairs_eq T.m Z l4) ?_
  unfold mostD
  fail "n"
  exact c
theorem grain_get : gDget h (.dct [.inr (Str.ofString "along"), .inr (Str.ofString "across")] [.str (Str.ofString "across"), .str (Str.ofString "along")]) (.str (grS z.1)) = some (.str (grS (!z.1))) := by
  obtain ⟨b, n⟩ := z
  cases b <;> rfl
theorem turned_eq (l4 : zs.length ≤ 4) : c_turned [.tup (zs.map znD), tbD t] h = .ok (.tup [.tup ((zs.map turnZ).map znD), tbD (turnT t)]) h := by
  refine eq_any fun Q X c => ?_
  unfold c_turned f_turned
  refine wp_bodyE [some (.tup (zs.map znD)), some (tbD t), none, none, none, none, none, none] rfl ?_
  fail "n"
  refine wp_cma znD (fun z => znD (turnZ z)) (wp_any ?_)
  fail "n"
  refine ⟨by omega, fun z hz => ⟨_, rfl, ?_⟩, ?_⟩
  · fail "n"
    refine wp_some grain_get ?_
    fail "n"
    first | rfl | exact ⟨rfl, rfl⟩
  fail "n"
  refine wp_cma p3D (fun p => p3D (turnP p)) (wp_any ?_)
  fail "n"
  refine ⟨[t.a, t.b, t.c], rfl, Nat.le_of_ble_eq_true rfl, fun p hp => ⟨_, rfl, ?_⟩, ?_⟩
  · fail "n"
    first | rfl | exact ⟨rfl, rfl⟩
  fail "n"
  have e : (zs.map fun z => znD (turnZ z)) = (zs.map turnZ).map znD := by rw [List.map_map]; rfl
  rw [e]
  exact c
/-- a good list of zones -/
structure Zgo (zs : List Zo) : Prop where
  l1 : 1 ≤ zs.length
  l4 : zs.length ≤ 4
  z : ∀ z ∈ zs, z.2 ≤ 24
theorem grown_wp (S : G.St L K h) (sK : Stb L K) (T : Tok t) (Zg : Zgo zs) (c : ∀ (zs' : List Zo) h', Zgo zs' → mostM t zs ≤ mostM t zs' → G.St L K h' → Q (.tup (zs'.map znD)) h') : Wp (c_grown [.ref 2, .tup (zs.map znD)] h) Q X := by
  have l1 := Zg.l1
  have l4 := Zg.l4
  have em : (zs.map znD).length = zs.length := List.length_map ..
  unfold c_grown f_grown
  refine wp_bodyE [some (.ref 2), some (.tup (zs.map znD)), none, none, none] rfl ?_
  fail "n"
  rename_i a h1 a0 a1 S1
  have ha : a.toNat < zs.length := by omega
  have ie : gIx h1 (.tup (zs.map znD)) (.int a) = some (znD zs[a.toNat]) := ix_tup (atI_nat a0 (by rw [List.getElem?_map, List.getElem?_eq_getElem ha]; rfl))
  have hz := Zg.z _ (List.getElem_mem ha)
  have ed : zs = zs.take a.toNat ++ zs[a.toNat] :: zs.drop (a.toNat + 1) := by rw [← List.drop_eq_getElem_cons ha, List.take_append_drop]
  have Z : ∀ z ∈ zs, Zok t z := fun z hz => T.zk (Zg.z z hz)
  generalize zs[a.toNat] = w at ie hz ed
  obtain ⟨g, l⟩ := w
  have ie2 : gIx h1 (.tup (zs.map znD)) (.int a) = some (.tup [.str (grS g), .int (l : Int)]) := ie
  have zt : ∀ z ∈ zs.take a.toNat, z.2 ≤ 24 := fun z hz => Zg.z z (List.mem_of_mem_take hz)
  have zd : ∀ (k : Nat), ∀ z ∈ zs.drop k, z.2 ≤ 24 := fun k z hz => Zg.z z (List.mem_of_mem_drop hz)
  have lt1 : (zs.take a.toNat).length = a.toNat := by rw [List.length_take]; omega
  fail "n"
  refine wp_some ie2 ?_
  fail "n"
  rename_i b h2 b0 b1 S2
  have last : ∀ {h : Hs}, G.St L K h → Ws (sRet (eBin gAdd (eBin gAdd (eSl (eName 1) oNone (oSome (eName 2))) (eTup (aCons (eTup (aCons (eName 3) (aCons (eCall gMin2 (aCons (eC (.int 24)) (aCons (eBin gAdd (eBin gAdd (eName 4) (eC (.int 1))) (eFn c_draw [0, 1] [] (aCons (eName 0) (aCons (eC (.int 4)) aNil)))) aNil))) aNil))) aNil))) (eSl (eName 1) (oSome (eBin gAdd (eName 2) (eC (.int 1)))) oNone)) [some (.ref 2), some (.tup (zs.map znD)), some (.int a), some (.str (grS g)), some (.int (l : Int))] h) { nx := fun _ h => Q .non h, rt := Q, ex := fun c fs _ h => X c fs h } := by
    intro h S
    fail "n"
    rename_i u h3 u0 u1 S3
    obtain ⟨l', el, l1', l2'⟩ : ∃ l' : Nat, (if (l : Int) + 1 + u < 24 then (l : Int) + 1 + u else 24) = (l' : Int) ∧ l ≤ l' ∧ l' ≤ 24 := by
      by_cases hq : (l : Int) + 1 + u < 24
      · exact ⟨((l : Int) + 1 + u).toNat, by rw [if_pos hq, Int.toNat_of_nonneg (by omega)], by omega, by omega⟩
      · exact ⟨24, by rw [if_neg hq]; rfl, hz, Nat.le_refl _⟩
    rw [el, cutX_to _ a0, cutX_from _ (by omega), ← List.map_take, ← List.map_drop, show (a + 1).toNat = a.toNat + 1 by omega]
    have em2 : (zs.take a.toNat).map znD ++ [D.tup [.str (grS g), .int (l' : Int)]] ++ (zs.drop (a.toNat + 1)).map znD = (zs.take a.toNat ++ (g, l') :: zs.drop (a.toNat + 1)).map znD := by
      rw [List.map_append, List.map_cons, List.append_assoc]; rfl
    rw [em2]
    have zn : ∀ z ∈ zs.take a.toNat ++ (g, l') :: zs.drop (a.toNat + 1), z.2 ≤ 24 := fun z hz => by
      rcases List.mem_append.mp hz with hz | hz
      · exact zt z hz
      · rcases List.mem_cons.mp hz with rfl | hz
        · exact l2'
        · exact zd _ z hz
    refine c _ _ ⟨?_, ?_, zn⟩ ?_ S3
    · rw [List.length_append, List.length_cons]; omega
    · rw [List.length_append, List.length_cons, lt1, List.length_drop]; omega
    · have := most_len (t := t) (a := zs.take a.toNat) (b := zs.drop (a.toNat + 1)) (g := g) (l := l) (l' := l') (by rw [← ed]; exact Z) (T.zk l2') l1'
      rwa [← ed] at this
  refine ⟨fun _ => ?_, fun _ => ⟨nof, fun _ => ?_⟩⟩
  · fail "n"
    refine ⟨fun hl => ?_, fun _ => ?_⟩
    · fail "n"
      rename_i u h3 u0 u1 S3
      have hl4 : zs.length < 4 := by
        have := of_decide_eq_true hl
        omega
      obtain ⟨l', el, l2'⟩ : ∃ l' : Nat, (1 : Int) + u = (l' : Int) ∧ l' ≤ 24 := ⟨(1 + u).toNat, by rw [Int.toNat_of_nonneg (by omega)], by omega⟩
      rw [el, cutX_to _ a0, cutX_from _ a0, ← List.map_take, ← List.map_drop]
      have em2 : (zs.take a.toNat).map znD ++ [D.tup [.str (grS g), .int (l' : Int)]] ++ (zs.drop a.toNat).map znD = (zs.take a.toNat ++ (g, l') :: zs.drop a.toNat).map znD := by
        rw [List.map_append, List.map_cons, List.append_assoc]; rfl
      rw [em2]
      refine c _ _ ⟨?_, ?_, fun z hz => ?_⟩ ?_ S3
      · rw [List.length_append, List.length_cons]; omega
      · rw [List.length_append, List.length_cons, lt1, List.length_drop]; omega
      · rcases List.mem_append.mp hz with hz | hz
        · exact zt z hz
        · rcases List.mem_cons.mp hz with rfl | hz
          · exact l2'
          · exact zd _ z hz
      · have := most_ins (t := t) (a := zs.take a.toNat) (b := zs.drop a.toNat) (z := (g, l')) (by rw [List.take_append_drop]; exact Z) (T.zk l2')
        rwa [List.take_append_drop] at this
    · exact ws_skip (last S2)
  · exact ws_skip (last S2)
end
section
variable {L : Nat} {K : Hs → Prop} {h : Hs} {Q : D → Hs → Prop} {X : XQ} {d : D} {n k B : Nat} {t : Tb} {zs : List Zo} {z : Zo}
theorem Zgo.rev (Zg : Zgo zs) : Zgo zs.reverse := ⟨by rw [List.length_reverse]; exact Zg.l1, by rw [List.length_reverse]; exact Zg.l4, fun z hz => Zg.z z (List.mem_reverse.mp hz)⟩
theorem Zgo.turn (Zg : Zgo zs) : Zgo (zs.map turnZ) := ⟨by rw [List.length_map]; exact Zg.l1, by rw [List.length_map]; exact Zg.l4, fun z hz => by
  obtain ⟨y, hy, rfl⟩ := List.mem_map.mp hz
  exact Zg.z y hy⟩
theorem Zgo.zk (Zg : Zgo zs) (T : Tok t) : ∀ z ∈ zs, Zok t z := fun z hz => T.zk (Zg.z z hz)
theorem toldz_eq (T : Tok t) (Zg : Zgo zs) : c_told [.tup (zs.map znD), tbD t] h = .ok (.int (mostM t zs : Int)) h := told_eq T Zg.z Zg.l4
theorem told_3 (T : Tok t) : c_told [.tup [.tup [.str (Str.ofString "along"), .int 3], .tup [.str (Str.ofString "across"), .int 3]], tbD t] h = .ok (.int 0) h := by
  have := told_eq (h := h) (zs := [((false, 3) : Zo), (true, 3)]) T (fun z hz => by
    simp only [List.mem_cons, List.not_mem_nil, or_false] at hz
    rcases hz with rfl | rfl <;> decide) (by decide)
  rw [most_3 T] at this
  exact this
theorem min4 {a : Nat} (h0 : 0 < a) (h1 : a < 5) : ∃ m : Nat, (if (a : Int) + 1 < 4 then (a : Int) + 1 else 4) = (m : Int) ∧ 0 < m ∧ m < 5 ∧ a ≤ m := by
  by_cases hq : (a : Int) + 1 < 4
  · exact ⟨a + 1, by rw [if_pos hq]; rfl, by omega, by omega, by omega⟩
  · exact ⟨4, by rw [if_neg hq]; rfl, by decide, by decide, by omega⟩
theorem right_wp (S : G.St L K h) (sK : Stb L K) (T : Tok t) (Zg : Zgo zs) (c : ∀ h', G.St L K h' → Q (.bl true) h') : Wp (c_right [.ref 2, .tup (zs.map znD), tbD t] h) Q X := by
  unfold c_right f_right
  refine wp_bodyE [some (.ref 2), some (.tup (zs.map znD)), some (tbD t), none, none, none, none, none, none, none, none, none, none] rfl ?_
  fail "n"
  refine wp_of (most_eq T Zg.z Zg.l1 Zg.l4) ?_
  fail "n"
  refine wp_of (turned_eq Zg.l4) ?_
  fail "n"
  refine wp_of (toldz_eq T Zg) ?_
  fail "n"
  rw [beq_self_eq_true]
  refine ⟨fun w => (by cases w), fun _ => ?_⟩
  fail "n"
  rw [← List.map_reverse]
  refine wp_of (toldz_eq T Zg.rev) ?_
  rw [most_rev (Zg.zk T)]
  fail "n"
  rw [beq_self_eq_true]
  refine ⟨fun w => (by cases w), fun _ => ?_⟩
  fail "n"
  have l4 := Zg.l4
  refine wp_cma znD (fun z => .int (z.2 : Int)) (wp_any ?_)
  fail "n"
  refine ⟨by omega, fun z hz => ⟨_, rfl, ?_⟩, ?_⟩
  · fail "n"
    first | rfl | exact ⟨rfl, rfl⟩
  fail "n"
  refine wp_some sum_nats ?_
  fail "n"
  refine ⟨fun _ => ?_, fun _ => ?_⟩
  · fail "n"
    exact c _ S
  fail "n"
  refine wp_of (toldz_eq T.turn Zg.turn) ?_
  rw [most_turn (Zg.zk T) (Zg.turn.zk T.turn)]
  fail "n"
  rw [beq_self_eq_true]
  refine ⟨fun w => (by cases w), fun _ => ?_⟩
  fail "n"
  refine grown_wp S sK T Zg fun zs' h1 Zg' hle S1 => ?_
  fail "n"
  refine wp_of (toldz_eq T Zg') ?_
  fail "n"
  refine ⟨fun w => absurd (of_decide_eq_true w) (by omega), fun _ => ?_⟩
  fail "n"
  rename_i a h2 a0 a1 S2
  obtain ⟨na, ea, pa, qa, ra⟩ := min4 T.a.2.2.1 T.a.2.2.2
  obtain ⟨nb, eb, pb, qb, rb⟩ := min4 T.b.2.2.1 T.b.2.2.2
  obtain ⟨nc, ec, pc, qc, rc⟩ := min4 T.c.2.2.1 T.c.2.2.2
  have ha : a = 0 ∨ a = 1 ∨ a = 2 := by omega
  rcases ha with rfl | rfl | rfl
  · have T' : Tok ⟨dearP t.a na, t.b, t.c⟩ := ⟨⟨T.a.1, T.a.2.1, pa, qa⟩, T.b, T.c⟩
    have hd : mostM ⟨dearP t.a na, t.b, t.c⟩ zs ≤ mostM t zs := most_dear (n2 := t.b.2.2) (n3 := t.c.2.2) T (Zg.zk T) ra (Nat.le_refl _) (Nat.le_refl _)
    refine wp_some (show gIx h2 (tbD t) (.int 0) = some (.tup [oN t.a.1, oN t.a.2.1, .int (t.a.2.2 : Int)]) from rfl) ?_
    fail "n"
    refine wp_some (show gSl h2 (tbD t) none (some 0) = some (.tup []) from rfl) ?_
    fail "n"
    refine wp_some (show gSl h2 (tbD t) (some (0 + 1)) none = some (.tup [p3D t.b, p3D t.c]) from rfl) ?_
    fail "n"
    rw [ea]
    refine wp_of (show c_told [.tup (zs.map znD), _] _ = _ from toldz_eq (t := ⟨dearP t.a na, t.b, t.c⟩) T' Zg) ?_
    fail "n"
    rw [decide_eq_true (show (mostM ⟨dearP t.a na, t.b, t.c⟩ zs : Int) ≤ (mostM t zs : Int) by omega)]
    refine ⟨fun _ => ?_, fun w => (by cases w)⟩
    fail "n"
    refine wp_of (told_3 T) ?_
    fail "n"
    exact c _ S2
  · have T' : Tok ⟨t.a, dearP t.b nb, t.c⟩ := ⟨T.a, ⟨T.b.1, T.b.2.1, pb, qb⟩, T.c⟩
    have hd : mostM ⟨t.a, dearP t.b nb, t.c⟩ zs ≤ mostM t zs := most_dear (n1 := t.a.2.2) (n3 := t.c.2.2) T (Zg.zk T) (Nat.le_refl _) rb (Nat.le_refl _)
    refine wp_some (show gIx h2 (tbD t) (.int 1) = some (.tup [oN t.b.1, oN t.b.2.1, .int (t.b.2.2 : Int)]) from rfl) ?_
    fail "n"
    refine wp_some (show gSl h2 (tbD t) none (some 1) = some (.tup [p3D t.a]) from rfl) ?_
    fail "n"
    refine wp_some (show gSl h2 (tbD t) (some (1 + 1)) none = some (.tup [p3D t.c]) from rfl) ?_
    fail "n"
    rw [eb]
    refine wp_of (show c_told [.tup (zs.map znD), _] _ = _ from toldz_eq (t := ⟨t.a, dearP t.b nb, t.c⟩) T' Zg) ?_
    fail "n"
    rw [decide_eq_true (show (mostM ⟨t.a, dearP t.b nb, t.c⟩ zs : Int) ≤ (mostM t zs : Int) by omega)]
    refine ⟨fun _ => ?_, fun w => (by cases w)⟩
    fail "n"
    refine wp_of (told_3 T) ?_
    fail "n"
    exact c _ S2
  · have T' : Tok ⟨t.a, t.b, dearP t.c nc⟩ := ⟨T.a, T.b, ⟨T.c.1, T.c.2.1, pc, qc⟩⟩
    have hd : mostM ⟨t.a, t.b, dearP t.c nc⟩ zs ≤ mostM t zs := most_dear (n1 := t.a.2.2) (n2 := t.b.2.2) T (Zg.zk T) (Nat.le_refl _) (Nat.le_refl _) rc
    refine wp_some (show gIx h2 (tbD t) (.int 2) = some (.tup [oN t.c.1, oN t.c.2.1, .int (t.c.2.2 : Int)]) from rfl) ?_
    fail "n"
    refine wp_some (show gSl h2 (tbD t) none (some 2) = some (.tup [p3D t.a, p3D t.b]) from rfl) ?_
    fail "n"
    refine wp_some (show gSl h2 (tbD t) (some (2 + 1)) none = some (.tup []) from rfl) ?_
    fail "n"
    rw [ec]
    refine wp_of (show c_told [.tup (zs.map znD), _] _ = _ from toldz_eq (t := ⟨t.a, t.b, dearP t.c nc⟩) T' Zg) ?_
    fail "n"
    rw [decide_eq_true (show (mostM ⟨t.a, t.b, dearP t.c nc⟩ zs : Int) ≤ (mostM t zs : Int) by omega)]
    refine ⟨fun _ => ?_, fun w => (by cases w)⟩
    fail "n"
    refine wp_of (told_3 T) ?_
    fail "n"
    exact c _ S2
theorem law_true : ∀ ns : List Int, ns.length ≤ 63 → ∃ hs', c_law [.scr (ns.map D.int)] [] = .ok (.bl true) hs' := by
  intro ns hl
  suffices Wp (c_law [.scr (ns.map D.int)] []) (fun d _ => d = .bl true) nX by
    obtain ⟨x, h, e, rfl⟩ := wp_get this
    exact ⟨h, e⟩
  unfold c_law f_law
  refine wp_bodyE [some (.scr (ns.map .int)), none, none, none, none, none, none] rfl ?_
  fail "n"
  refine deck_st hl fun h S => ?_
  generalize D.scr (ns.map D.int) = sc
  have sK : Stb 3 (fun _ => True) := stb_true
  fail "n"
  refine ws_for (wp_r1 (wp_acons (wp_c (wp_anil ?_))))
  refine ⟨_, rfl, rfl, 4, fun i e h => G.St 3 (fun _ => True) h ∧ ∃ x2 x3 x4 x5 x6, e = [some sc, some (.ref 2), x2, x3, x4, x5, x6], by decide, ⟨S, _, _, _, _, _, rfl⟩, ?_, ?_⟩
  · rintro i _ h hi ⟨S, x2, x3, x4, x5, x6, rfl⟩
    refine ⟨_, _, nxN_some hi, rfl, ?_⟩
    refine ws_cut (fun e g => ∃ (zs : List Zo) (t : Tb), Zgo zs ∧ Tok t ∧ G.St 3 (fun _ => True) g ∧ e = [some sc, some (.ref 2), some (.int (0 + (i : Int))), some (.tup (zs.map znD)), some (tbD t), x5, x6]) ?_ ?_
    · fail "n"
      refine zones_wp S sK fun zs h1 z1 z4 zL S1 => ?_
      fail "n"
      refine tbl_wp S1 sK fun t T h2 S2 => ?_
      fail "n"
      exact ⟨zs, t, ⟨z1, z4, zL⟩, T, S2, rfl⟩
    rintro _ h ⟨zs, t, Zg, T, S, rfl⟩
    refine ws_cut (fun e g => ∃ (zs : List Zo), Zgo zs ∧ G.St 3 (fun _ => True) g ∧ e = [some sc, some (.ref 2), some (.int (0 + (i : Int))), some (.tup (zs.map znD)), some (tbD t), x5, x6]) ?_ ?_
    · have same : ∃ (zs' : List Zo), Zgo zs' ∧ G.St 3 (fun _ => True) h ∧ ([some sc, some (.ref 2), some (.int (0 + (i : Int))), some (.tup (zs.map znD)), some (tbD t), x5, x6] : Ev) = [some sc, some (.ref 2), some (.int (0 + (i : Int))), some (.tup (zs'.map znD)), some (tbD t), x5, x6] := ⟨zs, Zg, S, rfl⟩
      have l4 := Zg.l4
      have l1 := Zg.l1
      fail "n"
      refine ⟨fun _ => ?_, fun _ => ⟨nof, fun _ => ?_⟩⟩
      · fail "n"
        refine wp_cma znD (fun z => .int (z.2 : Int)) (wp_any ?_)
        fail "n"
        refine ⟨by omega, fun z hz => ⟨_, rfl, ?_⟩, ?_⟩
        · fail "n"
          first | rfl | exact ⟨rfl, rfl⟩
        fail "n"
        refine wp_some sum_nats ?_
        fail "n"
        refine ⟨fun _ => ?_, fun _ => ?_⟩
        · fail "n"
          refine ⟨zs.take 2, ⟨by rw [List.length_take]; omega, by rw [List.length_take]; omega, fun z hz => Zg.z z (List.mem_of_mem_take hz)⟩, S, ?_⟩
          rw [cutX_to _ (by decide), List.map_take]; rfl
        · fail "n"
          exact same
      · fail "n"
        exact same
    clear Zg S
    rintro _ h ⟨zs, Zg, S, rfl⟩
    fail "n"
    refine right_wp S sK T Zg fun h1 S1 => ?_
    fail "n"
    refine ⟨fun w => (by cases w), fun _ => ?_⟩
    fail "n"
    exact ⟨S1, _, _, _, _, _, rfl⟩
  · rintro _ g ⟨S, x2, x3, x4, x5, x6, rfl⟩
    refine ⟨nxN_stop, ?_⟩
    fail "n"
    rfl
end
end K15

end
namespace K15
open PySem PySem.Spec PyProof.Rows L2 G
/-! ### the text -/
def topS (i : Nat) : Stmt := PySem.Challenge.pw_glovepairs_k15_no_cut_gives_more.main.body.getD i (.Pass ⟨0, 0, 0, 0⟩)
abbrev s_part_length : Stmt := topS 1
abbrev N_part_length : List Str := ["part", "grain", "along", "across", "many"]
theorem sc_part_length : FnScope N_part_length ["part", "grain"] (defScope s_part_length) := ⟨rfl, rfl, rfl, by decide +kernel, rfl, by decide +kernel, by decide +kernel⟩
abbrev s_zone_cuts : Stmt := topS 2
abbrev N_zone_cuts : List Str := ["zone", "table", "grain", "length", "found", "part", "long", "more", "counts", "room", "many"]
theorem sc_zone_cuts : FnScope N_zone_cuts ["zone", "table"] (defScope s_zone_cuts) := ⟨rfl, rfl, rfl, by decide +kernel, rfl, by decide +kernel, by decide +kernel⟩
abbrev s_together : Stmt := topS 3
abbrev N_together : List Str := ["one", "other", "here", "there"]
theorem sc_together : FnScope N_together ["one", "other"] (defScope s_together) := ⟨rfl, rfl, rfl, by decide +kernel, rfl, by decide +kernel, by decide +kernel⟩
abbrev s_is_beneath : Stmt := topS 4
abbrev N_is_beneath : List Str := ["one", "other", "here", "there"]
theorem sc_is_beneath : FnScope N_is_beneath ["one", "other"] (defScope s_is_beneath) := ⟨rfl, rfl, rfl, by decide +kernel, rfl, by decide +kernel, by decide +kernel⟩
abbrev s_is_covered : Stmt := topS 5
abbrev N_is_covered : List Str := ["row", "rows", "other"]
theorem sc_is_covered : FnScope N_is_covered ["row", "rows"] (defScope s_is_covered) := ⟨rfl, rfl, rfl, by decide +kernel, rfl, by decide +kernel, by decide +kernel⟩
abbrev s_greatest : Stmt := topS 6
abbrev N_greatest : List Str := ["rows", "found", "row"]
theorem sc_greatest : FnScope N_greatest ["rows"] (defScope s_greatest) := ⟨rfl, rfl, rfl, by decide +kernel, rfl, by decide +kernel, by decide +kernel⟩
abbrev s_pairs_for : Stmt := topS 7
abbrev N_pairs_for : List Str := ["table", "counts", "count", "part"]
theorem sc_pairs_for : FnScope N_pairs_for ["table", "counts"] (defScope s_pairs_for) := ⟨rfl, rfl, rfl, by decide +kernel, rfl, by decide +kernel, by decide +kernel⟩
abbrev s_ways_behind : Stmt := topS 9
abbrev N_ways_behind : List Str := ["rows", "zone", "table", "cuts", "found", "row", "counts"]
theorem sc_ways_behind : FnScope N_ways_behind ["rows", "zone", "table"] (defScope s_ways_behind) := ⟨rfl, rfl, rfl, by decide +kernel, rfl, by decide +kernel, by decide +kernel⟩
abbrev s_whole_cut : Stmt := topS 10
abbrev N_whole_cut : List Str := ["table", "cut", "many", "left", "found", "counts", "some", "part", "count", "rest"]
theorem sc_whole_cut : FnScope N_whole_cut ["table", "cut", "many"] (defScope s_whole_cut) := ⟨rfl, rfl, rfl, by decide +kernel, rfl, by decide +kernel, by decide +kernel⟩
abbrev s_most_pairs : Stmt := topS 11
abbrev N_most_pairs : List Str := ["skin", "table", "steps", "rows", "zone", "many", "here", "cut", "step", "counts", "row"]
theorem sc_most_pairs : FnScope N_most_pairs ["skin", "table"] (defScope s_most_pairs) := ⟨rfl, rfl, rfl, by decide +kernel, rfl, by decide +kernel, by decide +kernel⟩
abbrev s_sign_of : Stmt := topS 14
abbrev s_zone_word : Stmt := topS 15
abbrev s_deck : Stmt := topS 18
abbrev N_deck : List Str := ["_law_script", "_law_cell"]
theorem sc_deck : FnScope N_deck ["_law_script"] (defScope s_deck) := ⟨rfl, rfl, rfl, by decide +kernel, rfl, by decide +kernel, by decide +kernel⟩
abbrev s_draw : Stmt := topS 19
abbrev N_draw : List Str := ["_law_deck_here", "_law_most_here", "_law_cell", "_law_number"]
theorem sc_draw : FnScope N_draw ["_law_deck_here", "_law_most_here"] (defScope s_draw) := ⟨rfl, rfl, rfl, by decide +kernel, rfl, by decide +kernel, by decide +kernel⟩
abbrev s_pick : Stmt := topS 20
abbrev N_pick : List Str := ["_law_deck_here", "_law_some"]
theorem sc_pick : FnScope N_pick ["_law_deck_here", "_law_some"] (defScope s_pick) := ⟨rfl, rfl, rfl, by decide +kernel, rfl, by decide +kernel, by decide +kernel⟩
abbrev s_lengths : Stmt := topS 21
abbrev N_lengths : List Str := ["_law_deck_here", "_law_way", "_law_along", "_law_across"]
theorem sc_lengths : FnScope N_lengths ["_law_deck_here"] (defScope s_lengths) := ⟨rfl, rfl, rfl, by decide +kernel, rfl, by decide +kernel, by decide +kernel⟩
abbrev s_table : Stmt := topS 22
abbrev N_table : List Str := ["_law_deck_here", "_law_part"]
theorem sc_table : FnScope N_table ["_law_deck_here"] (defScope s_table) := ⟨rfl, rfl, rfl, by decide +kernel, rfl, by decide +kernel, by decide +kernel⟩
abbrev s_zones : Stmt := topS 23
abbrev N_zones : List Str := ["_law_deck_here", "_law_way", "_law_many", "_law_found", "_law_k", "_law_length"]
theorem sc_zones : FnScope N_zones ["_law_deck_here"] (defScope s_zones) := ⟨rfl, rfl, rfl, by decide +kernel, rfl, by decide +kernel, by decide +kernel⟩
abbrev s_fits : Stmt := topS 24
abbrev N_fits : List Str := ["_law_zone", "_law_parts", "_law_counts_here", "_law_at", "_law_some", "_law_part", "_law_count", "_law_one"]
theorem sc_fits : FnScope N_fits ["_law_zone", "_law_parts", "_law_counts_here"] (defScope s_fits) := ⟨rfl, rfl, rfl, by decide +kernel, rfl, by decide +kernel, by decide +kernel⟩
abbrev s_counts : Stmt := topS 25
abbrev N_counts : List Str := ["_law_zone", "_law_parts", "_law_found", "_law_a", "_law_b", "_law_c"]
theorem sc_counts : FnScope N_counts ["_law_zone", "_law_parts"] (defScope s_counts) := ⟨rfl, rfl, rfl, by decide +kernel, rfl, by decide +kernel, by decide +kernel⟩
abbrev s_given : Stmt := topS 26
abbrev N_given : List Str := ["_law_parts", "_law_counts_here", "_law_count", "_law_part"]
theorem sc_given : FnScope N_given ["_law_parts", "_law_counts_here"] (defScope s_given) := ⟨rfl, rfl, rfl, by decide +kernel, rfl, by decide +kernel, by decide +kernel⟩
abbrev s_added : Stmt := topS 27
abbrev N_added : List Str := ["_law_one", "_law_other", "_law_here", "_law_there"]
theorem sc_added : FnScope N_added ["_law_one", "_law_other"] (defScope s_added) := ⟨rfl, rfl, rfl, by decide +kernel, rfl, by decide +kernel, by decide +kernel⟩
abbrev s_least_rows : Stmt := topS 28
abbrev N_least_rows : List Str := ["_law_rows", "_law_found", "_law_row", "_law_other", "_law_a", "_law_b"]
theorem sc_least_rows : FnScope N_least_rows ["_law_rows"] (defScope s_least_rows) := ⟨rfl, rfl, rfl, by decide +kernel, rfl, by decide +kernel, by decide +kernel⟩
abbrev s_fronts : Stmt := topS 29
abbrev N_fronts : List Str := ["_law_zones_here", "_law_parts", "_law_rows", "_law_found", "_law_zone", "_law_longer", "_law_some", "_law_row", "_law_counts_here"]
theorem sc_fronts : FnScope N_fronts ["_law_zones_here", "_law_parts"] (defScope s_fronts) := ⟨rfl, rfl, rfl, by decide +kernel, rfl, by decide +kernel, by decide +kernel⟩
abbrev s_most : Stmt := topS 30
abbrev N_most : List Str := ["_law_zones_here", "_law_parts", "_law_row"]
theorem sc_most : FnScope N_most ["_law_zones_here", "_law_parts"] (defScope s_most) := ⟨rfl, rfl, rfl, by decide +kernel, rfl, by decide +kernel, by decide +kernel⟩
abbrev s_Skin_init : Stmt := inClass (topS 16) 0
abbrev N_Skin_init : List Str := ["self", "zones", "stretch", "grade"]
theorem sc_Skin_init : FnScope N_Skin_init ["self", "zones", "stretch", "grade"] (defScope s_Skin_init) := ⟨rfl, rfl, rfl, by decide +kernel, rfl, by decide +kernel, by decide +kernel⟩
abbrev s_told : Stmt := topS 31
abbrev N_told : List Str := ["_law_zones_here", "_law_parts"]
theorem sc_told : FnScope N_told ["_law_zones_here", "_law_parts"] (defScope s_told) := ⟨rfl, rfl, rfl, by decide +kernel, rfl, by decide +kernel, by decide +kernel⟩
abbrev s_turned : Stmt := topS 32
abbrev N_turned : List Str := ["_law_zones_here", "_law_parts", "_law_grains", "_law_grain", "_law_length", "_law_a", "_law_b", "_law_many"]
theorem sc_turned : FnScope N_turned ["_law_zones_here", "_law_parts"] (defScope s_turned) := ⟨rfl, rfl, rfl, by decide +kernel, rfl, by decide +kernel, by decide +kernel⟩
abbrev s_grown : Stmt := topS 33
abbrev N_grown : List Str := ["_law_deck_here", "_law_zones_here", "_law_at", "_law_grain", "_law_length"]
theorem sc_grown : FnScope N_grown ["_law_deck_here", "_law_zones_here"] (defScope s_grown) := ⟨rfl, rfl, rfl, by decide +kernel, rfl, by decide +kernel, by decide +kernel⟩
abbrev s_right : Stmt := topS 34
abbrev N_right : List Str := ["_law_deck_here", "_law_zones_here", "_law_parts", "_law_many", "_law_other", "_law_about", "_law_at", "_law_along", "_law_across", "_law_count", "_law_dear", "_law_grain", "_law_length"]
theorem sc_right : FnScope N_right ["_law_deck_here", "_law_zones_here", "_law_parts"] (defScope s_right) := ⟨rfl, rfl, rfl, by decide +kernel, rfl, by decide +kernel, by decide +kernel⟩
abbrev s_law : Stmt := topS 35
abbrev N_law : List Str := ["_law_script", "_law_deck_here", "_law_turn", "_law_zones_here", "_law_parts", "_law_grain", "_law_length"]
theorem sc_law : FnScope N_law ["_law_script"] (defScope s_law) := ⟨rfl, rfl, rfl, by decide +kernel, rfl, by decide +kernel, by decide +kernel⟩
/-! ### what the top has left -/
structure Tx (K : PySem.W.Frag) (mg : Str → Option Value) where
  a_part_length : Addr
  e_part_length : FuncData
  F_part_length : Fun K "part_length" "part_length" s_part_length a_part_length e_part_length
  g_part_length : mg "part_length" = some (.ref a_part_length)
  a_zone_cuts : Addr
  e_zone_cuts : FuncData
  F_zone_cuts : Fun K "zone_cuts" "zone_cuts" s_zone_cuts a_zone_cuts e_zone_cuts
  g_zone_cuts : mg "zone_cuts" = some (.ref a_zone_cuts)
  a_together : Addr
  e_together : FuncData
  F_together : Fun K "together" "together" s_together a_together e_together
  g_together : mg "together" = some (.ref a_together)
  a_is_beneath : Addr
  e_is_beneath : FuncData
  F_is_beneath : Fun K "is_beneath" "is_beneath" s_is_beneath a_is_beneath e_is_beneath
  g_is_beneath : mg "is_beneath" = some (.ref a_is_beneath)
  a_is_covered : Addr
  e_is_covered : FuncData
  F_is_covered : Fun K "is_covered" "is_covered" s_is_covered a_is_covered e_is_covered
  g_is_covered : mg "is_covered" = some (.ref a_is_covered)
  a_greatest : Addr
  e_greatest : FuncData
  F_greatest : Fun K "greatest" "greatest" s_greatest a_greatest e_greatest
  g_greatest : mg "greatest" = some (.ref a_greatest)
  a_pairs_for : Addr
  e_pairs_for : FuncData
  F_pairs_for : Fun K "pairs_for" "pairs_for" s_pairs_for a_pairs_for e_pairs_for
  g_pairs_for : mg "pairs_for" = some (.ref a_pairs_for)
  a_ways_behind : Addr
  e_ways_behind : FuncData
  F_ways_behind : Fun K "ways_behind" "ways_behind" s_ways_behind a_ways_behind e_ways_behind
  g_ways_behind : mg "ways_behind" = some (.ref a_ways_behind)
  a_whole_cut : Addr
  e_whole_cut : FuncData
  F_whole_cut : Fun K "whole_cut" "whole_cut" s_whole_cut a_whole_cut e_whole_cut
  g_whole_cut : mg "whole_cut" = some (.ref a_whole_cut)
  a_most_pairs : Addr
  e_most_pairs : FuncData
  F_most_pairs : Fun K "most_pairs" "most_pairs" s_most_pairs a_most_pairs e_most_pairs
  g_most_pairs : mg "most_pairs" = some (.ref a_most_pairs)
  a_sign_of : Addr
  e_sign_of : FuncData
  F_sign_of : Fun K "sign_of" "sign_of" s_sign_of a_sign_of e_sign_of
  g_sign_of : mg "sign_of" = some (.ref a_sign_of)
  a_zone_word : Addr
  e_zone_word : FuncData
  F_zone_word : Fun K "zone_word" "zone_word" s_zone_word a_zone_word e_zone_word
  g_zone_word : mg "zone_word" = some (.ref a_zone_word)
  a_deck : Addr
  e_deck : FuncData
  F_deck : Fun K "_law_deck" "_law_deck" s_deck a_deck e_deck
  g_deck : mg "_law_deck" = some (.ref a_deck)
  a_draw : Addr
  e_draw : FuncData
  F_draw : Fun K "_law_draw" "_law_draw" s_draw a_draw e_draw
  g_draw : mg "_law_draw" = some (.ref a_draw)
  a_pick : Addr
  e_pick : FuncData
  F_pick : Fun K "_law_pick" "_law_pick" s_pick a_pick e_pick
  g_pick : mg "_law_pick" = some (.ref a_pick)
  a_lengths : Addr
  e_lengths : FuncData
  F_lengths : Fun K "_law_lengths" "_law_lengths" s_lengths a_lengths e_lengths
  g_lengths : mg "_law_lengths" = some (.ref a_lengths)
  a_table : Addr
  e_table : FuncData
  F_table : Fun K "_law_table" "_law_table" s_table a_table e_table
  g_table : mg "_law_table" = some (.ref a_table)
  a_zones : Addr
  e_zones : FuncData
  F_zones : Fun K "_law_zones" "_law_zones" s_zones a_zones e_zones
  g_zones : mg "_law_zones" = some (.ref a_zones)
  a_fits : Addr
  e_fits : FuncData
  F_fits : Fun K "_law_fits" "_law_fits" s_fits a_fits e_fits
  g_fits : mg "_law_fits" = some (.ref a_fits)
  a_counts : Addr
  e_counts : FuncData
  F_counts : Fun K "_law_counts" "_law_counts" s_counts a_counts e_counts
  g_counts : mg "_law_counts" = some (.ref a_counts)
  a_given : Addr
  e_given : FuncData
  F_given : Fun K "_law_given" "_law_given" s_given a_given e_given
  g_given : mg "_law_given" = some (.ref a_given)
  a_added : Addr
  e_added : FuncData
  F_added : Fun K "_law_added" "_law_added" s_added a_added e_added
  g_added : mg "_law_added" = some (.ref a_added)
  a_least_rows : Addr
  e_least_rows : FuncData
  F_least_rows : Fun K "_law_least_rows" "_law_least_rows" s_least_rows a_least_rows e_least_rows
  g_least_rows : mg "_law_least_rows" = some (.ref a_least_rows)
  a_fronts : Addr
  e_fronts : FuncData
  F_fronts : Fun K "_law_fronts" "_law_fronts" s_fronts a_fronts e_fronts
  g_fronts : mg "_law_fronts" = some (.ref a_fronts)
  a_most : Addr
  e_most : FuncData
  F_most : Fun K "_law_most" "_law_most" s_most a_most e_most
  g_most : mg "_law_most" = some (.ref a_most)
  a_Skin_init : Addr
  e_Skin_init : FuncData
  F_Skin_init : FunF K "__init__" "Skin.__init__" s_Skin_init [(.int 0), (.int 0)] a_Skin_init e_Skin_init
  a_told : Addr
  e_told : FuncData
  F_told : Fun K "_law_told" "_law_told" s_told a_told e_told
  g_told : mg "_law_told" = some (.ref a_told)
  a_turned : Addr
  e_turned : FuncData
  F_turned : Fun K "_law_turned" "_law_turned" s_turned a_turned e_turned
  g_turned : mg "_law_turned" = some (.ref a_turned)
  a_grown : Addr
  e_grown : FuncData
  F_grown : Fun K "_law_grown" "_law_grown" s_grown a_grown e_grown
  g_grown : mg "_law_grown" = some (.ref a_grown)
  a_right : Addr
  e_right : FuncData
  F_right : Fun K "_law_right" "_law_right" s_right a_right e_right
  g_right : mg "_law_right" = some (.ref a_right)
  a_law : Addr
  e_law : FuncData
  F_law : Fun K "law" "law" s_law a_law e_law
  g_law : mg "law" = some (.ref a_law)
  C_Skin : Addr
  iC_Skin : IsC K "Skin" C_Skin
  gC_Skin : mg "Skin" = some (.ref C_Skin)
  cl_Skin : L2.Cls K C_Skin
  mk_Skin : Mk K C_Skin a_Skin_init
  fl_zones : Flds K ["Skin"] "zones"
  fl_stretch : Flds K ["Skin"] "stretch"
  fl_grade : Flds K ["Skin"] "grade"
  n_all : mg "all" = none
  n_dict : mg "dict" = none
  n_int : mg "int" = none
  n_len : mg "len" = none
  n_list : mg "list" = none
  n_max : mg "max" = none
  n_min : mg "min" = none
  n_range : mg "range" = none
  n_reversed : mg "reversed" = none
  n_set : mg "set" = none
  n_sorted : mg "sorted" = none
  n_str : mg "str" = none
  n_sum : mg "sum" = none
  n_tuple : mg "tuple" = none
  n_zip : mg "zip" = none
  v_ALONG : V
  u_ALONG : Value
  m_ALONG : mg "ALONG" = some u_ALONG
  r_ALONG : RelV v_ALONG u_ALONG
  d_ALONG : ∀ mu H, RD K mu H k_ALONG v_ALONG
section
variable {P : Program} {w : World} {K : PySem.W.Frag} {mg : Str → Option Value} {base : Heap}
theorem b_part_length_2 (T : Tx K mg) : BindK K T.e_part_length ["part", "grain"] 2 [] [0, 1] [] := bindK_of T.F_part_length fun _ _ _ _ _ _ us ws h1 h2 => match us, ws, h1, h2 with | [_, _], [], _, _ => rfl
theorem b_is_beneath_2 (T : Tx K mg) : BindK K T.e_is_beneath ["one", "other"] 2 [] [0, 1] [] := bindK_of T.F_is_beneath fun _ _ _ _ _ _ us ws h1 h2 => match us, ws, h1, h2 with | [_, _], [], _, _ => rfl
theorem b_is_covered_2 (T : Tx K mg) : BindK K T.e_is_covered ["row", "rows"] 2 [] [0, 1] [] := bindK_of T.F_is_covered fun _ _ _ _ _ _ us ws h1 h2 => match us, ws, h1, h2 with | [_, _], [], _, _ => rfl
theorem b_zone_cuts_2 (T : Tx K mg) : BindK K T.e_zone_cuts ["zone", "table"] 2 [] [0, 1] [] := bindK_of T.F_zone_cuts fun _ _ _ _ _ _ us ws h1 h2 => match us, ws, h1, h2 with | [_, _], [], _, _ => rfl
theorem b_greatest_1 (T : Tx K mg) : BindK K T.e_greatest ["rows"] 1 [] [0] [] := bindK_of T.F_greatest fun _ _ _ _ _ _ us ws h1 h2 => match us, ws, h1, h2 with | [_], [], _, _ => rfl
theorem b_together_2 (T : Tx K mg) : BindK K T.e_together ["one", "other"] 2 [] [0, 1] [] := bindK_of T.F_together fun _ _ _ _ _ _ us ws h1 h2 => match us, ws, h1, h2 with | [_, _], [], _, _ => rfl
theorem b_ways_behind_3 (T : Tx K mg) : BindK K T.e_ways_behind ["rows", "zone", "table"] 3 [] [0, 1, 2] [] := bindK_of T.F_ways_behind fun _ _ _ _ _ _ us ws h1 h2 => match us, ws, h1, h2 with | [_, _, _], [], _, _ => rfl
theorem b_pairs_for_2 (T : Tx K mg) : BindK K T.e_pairs_for ["table", "counts"] 2 [] [0, 1] [] := bindK_of T.F_pairs_for fun _ _ _ _ _ _ us ws h1 h2 => match us, ws, h1, h2 with | [_, _], [], _, _ => rfl
theorem b_whole_cut_3 (T : Tx K mg) : BindK K T.e_whole_cut ["table", "cut", "many"] 3 [] [0, 1, 2] [] := bindK_of T.F_whole_cut fun _ _ _ _ _ _ us ws h1 h2 => match us, ws, h1, h2 with | [_, _, _], [], _, _ => rfl
theorem b_draw_2 (T : Tx K mg) : BindK K T.e_draw ["_law_deck_here", "_law_most_here"] 2 [] [0, 1] [] := bindK_of T.F_draw fun _ _ _ _ _ _ us ws h1 h2 => match us, ws, h1, h2 with | [_, _], [], _, _ => rfl
theorem b_pick_2 (T : Tx K mg) : BindK K T.e_pick ["_law_deck_here", "_law_some"] 2 [] [0, 1] [] := bindK_of T.F_pick fun _ _ _ _ _ _ us ws h1 h2 => match us, ws, h1, h2 with | [_, _], [], _, _ => rfl
theorem b_lengths_1 (T : Tx K mg) : BindK K T.e_lengths ["_law_deck_here"] 1 [] [0] [] := bindK_of T.F_lengths fun _ _ _ _ _ _ us ws h1 h2 => match us, ws, h1, h2 with | [_], [], _, _ => rfl
theorem b_fits_3 (T : Tx K mg) : BindK K T.e_fits ["_law_zone", "_law_parts", "_law_counts_here"] 3 [] [0, 1, 2] [] := bindK_of T.F_fits fun _ _ _ _ _ _ us ws h1 h2 => match us, ws, h1, h2 with | [_, _, _], [], _, _ => rfl
theorem b_counts_2 (T : Tx K mg) : BindK K T.e_counts ["_law_zone", "_law_parts"] 2 [] [0, 1] [] := bindK_of T.F_counts fun _ _ _ _ _ _ us ws h1 h2 => match us, ws, h1, h2 with | [_, _], [], _, _ => rfl
theorem b_least_rows_1 (T : Tx K mg) : BindK K T.e_least_rows ["_law_rows"] 1 [] [0] [] := bindK_of T.F_least_rows fun _ _ _ _ _ _ us ws h1 h2 => match us, ws, h1, h2 with | [_], [], _, _ => rfl
theorem b_added_2 (T : Tx K mg) : BindK K T.e_added ["_law_one", "_law_other"] 2 [] [0, 1] [] := bindK_of T.F_added fun _ _ _ _ _ _ us ws h1 h2 => match us, ws, h1, h2 with | [_, _], [], _, _ => rfl
theorem b_fronts_2 (T : Tx K mg) : BindK K T.e_fronts ["_law_zones_here", "_law_parts"] 2 [] [0, 1] [] := bindK_of T.F_fronts fun _ _ _ _ _ _ us ws h1 h2 => match us, ws, h1, h2 with | [_, _], [], _, _ => rfl
theorem b_given_2 (T : Tx K mg) : BindK K T.e_given ["_law_parts", "_law_counts_here"] 2 [] [0, 1] [] := bindK_of T.F_given fun _ _ _ _ _ _ us ws h1 h2 => match us, ws, h1, h2 with | [_, _], [], _, _ => rfl
theorem b_most_pairs_0_table_skin (T : Tx K mg) : BindK K T.e_most_pairs ["skin", "table"] 0 ["table", "skin"] [1, 0] [] := bindK_of T.F_most_pairs fun _ _ _ _ _ _ us ws h1 h2 => match us, ws, h1, h2 with | [], [_, _], _, _ => rfl
theorem b_Skin_init_2 (T : Tx K mg) : ∃ its, Vals [(.int 0), (.int 0)] its ∧ BindK K T.e_Skin_init ["self", "zones", "stretch", "grade"] 2 [] [0, 1, 2, 3] its := by
  first
    | exact bindKD_of T.F_Skin_init (List.cons_ne_nil _ _) fun _ _ _ _ _ _ _ us its ws h1 h2 h3 => match us, its, ws, h1, h2, h3 with | [_, _], [_, _], [], _, _, _ => ⟨_, rfl, rfl⟩
    | exact bindKN_of T.F_Skin_init (List.cons_ne_nil _ _) fun _ _ _ _ _ _ _ us its ws h1 h2 h3 => match us, its, ws, h1, h2, h3 with | [_, _], [_, _], [], _, _, _ => rfl
theorem b_most_2 (T : Tx K mg) : BindK K T.e_most ["_law_zones_here", "_law_parts"] 2 [] [0, 1] [] := bindK_of T.F_most fun _ _ _ _ _ _ us ws h1 h2 => match us, ws, h1, h2 with | [_, _], [], _, _ => rfl
theorem b_turned_2 (T : Tx K mg) : BindK K T.e_turned ["_law_zones_here", "_law_parts"] 2 [] [0, 1] [] := bindK_of T.F_turned fun _ _ _ _ _ _ us ws h1 h2 => match us, ws, h1, h2 with | [_, _], [], _, _ => rfl
theorem b_told_2 (T : Tx K mg) : BindK K T.e_told ["_law_zones_here", "_law_parts"] 2 [] [0, 1] [] := bindK_of T.F_told fun _ _ _ _ _ _ us ws h1 h2 => match us, ws, h1, h2 with | [_, _], [], _, _ => rfl
theorem b_grown_2 (T : Tx K mg) : BindK K T.e_grown ["_law_deck_here", "_law_zones_here"] 2 [] [0, 1] [] := bindK_of T.F_grown fun _ _ _ _ _ _ us ws h1 h2 => match us, ws, h1, h2 with | [_, _], [], _, _ => rfl
theorem b_deck_1 (T : Tx K mg) : BindK K T.e_deck ["_law_script"] 1 [] [0] [] := bindK_of T.F_deck fun _ _ _ _ _ _ us ws h1 h2 => match us, ws, h1, h2 with | [_], [], _, _ => rfl
theorem b_zones_1 (T : Tx K mg) : BindK K T.e_zones ["_law_deck_here"] 1 [] [0] [] := bindK_of T.F_zones fun _ _ _ _ _ _ us ws h1 h2 => match us, ws, h1, h2 with | [_], [], _, _ => rfl
theorem b_table_1 (T : Tx K mg) : BindK K T.e_table ["_law_deck_here"] 1 [] [0] [] := bindK_of T.F_table fun _ _ _ _ _ _ us ws h1 h2 => match us, ws, h1, h2 with | [_], [], _, _ => rfl
theorem b_right_3 (T : Tx K mg) : BindK K T.e_right ["_law_deck_here", "_law_zones_here", "_law_parts"] 3 [] [0, 1, 2] [] := bindK_of T.F_right fun _ _ _ _ _ _ us ws h1 h2 => match us, ws, h1, h2 with | [_, _, _], [], _, _ => rfl
theorem ok_part_length (T : Tx K mg) (sm : ∃ o, base.get? sysModules = some o) : FnG P w K mg base 1 T.a_part_length T.e_part_length ["part", "grain"] (spU K mg 2 c_part_length) := by
  refine (fun_ok T.F_part_length sm sc_part_length f_part_length fun cdv A outer s H E B => ?_)
  exact (us_cons (us_asg (ue_name 0) (ug_tup B.calm (ugs_cons (ug_name (i := 2) (vs := [2, 3, 4]) sc_part_length.nd (by decide)) (ugs_cons (ug_name (i := 3) (vs := [2, 3, 4]) sc_part_length.nd (by decide)) (ugs_cons (ug_name (i := 4) (vs := [2, 3, 4]) sc_part_length.nd (by decide)) ugs_nil)))))
    (us_cons (us_if (ut_cmp (og_eq B.room.units) (ue_name 1) ue_str) (us_one (us_ret (ue_name 3))) us_nil)
    (us_one (us_ret (ue_name 2)))))
theorem ok_zone_cuts (T : Tx K mg) (sm : ∃ o, base.get? sysModules = some o) : FnG P w K mg base 2 T.a_zone_cuts T.e_zone_cuts ["zone", "table"] (spU K mg 2 c_zone_cuts) := by
  refine FnG.gc (fun_ok T.F_zone_cuts sm sc_zone_cuts f_zone_cuts fun cdv A outer s H E B => ?_)
  exact (us_cons (us_asg (ue_name 0) (ug_tup B.calm (ugs_cons (ug_name (i := 2) (vs := [2, 3]) sc_zone_cuts.nd (by decide)) (ugs_cons (ug_name (i := 3) (vs := [2, 3]) sc_zone_cuts.nd (by decide)) ugs_nil))))
    (us_cons (us_set (i := 4) sc_zone_cuts.nd (ue_v (uf_lst (ua_cons (ue_tup (ua_cons (ue_tup ua_nil (few (Nat.le_of_ble_eq_true rfl)) len_nil) (ua_cons (ue_name 3) ua_nil)) (few (Nat.le_of_ble_eq_true rfl)) (len_cons (len_cons len_nil))) ua_nil) (few (Nat.le_of_ble_eq_true rfl)) (len_cons len_nil))))
    (us_cons (us_for (vs := [5]) B.po B.calm (ui_any (ue_name 1)) (ug_name (i := 5) (vs := [5]) sc_zone_cuts.nd (by decide))
    (us_cons (us_set (i := 6) sc_zone_cuts.nd (ue_fn B (ok_part_length T B.sm) (by decide) T.g_part_length T.F_part_length.kp (b_part_length_2 T) (ua_cons (ue_name 5) (ua_cons (ue_name 2) ua_nil)) (len_cons (len_cons len_nil))))
    (us_cons (us_set (i := 7) sc_zone_cuts.nd (ue_m (uf_lst ua_nil (few (Nat.le_of_ble_eq_true rfl)) len_nil)))
    (us_cons (us_for (vs := [8, 9]) B.po B.calm (ui_any (ue_name 4)) (ug_tup B.calm (ugs_cons (ug_name (i := 8) (vs := [8, 9]) sc_zone_cuts.nd (by decide)) (ugs_cons (ug_name (i := 9) (vs := [8, 9]) sc_zone_cuts.nd (by decide)) ugs_nil)))
    (us_one (us_if (ut_cmp og_is (ue_name 6) ue_non) (us_one (us_expr (ue_mt isL_ty PySem.F.plainAttrs_list PySem.F.slot_list_append PySem.F.type_list_append mg_append (ue_name 7) (ua_cons (ue_tup (ua_cons (ue_bin og_add (ue_name 8) (ue_tup (ua_cons ue_int ua_nil) (few (Nat.le_of_ble_eq_true rfl)) (len_cons len_nil))) (ua_cons (ue_name 9) ua_nil)) (few (Nat.le_of_ble_eq_true rfl)) (len_cons (len_cons len_nil))) ua_nil)))) (us_one (us_expr (ue_mt isL_ty PySem.F.plainAttrs_list PySem.F.slot_list_extend PySem.F.type_list_extend mg_extend (ue_name 7) (ua_cons (ue_v (uf_comp (own := [("many", 10)]) B.calm sc_zone_cuts.nd (ui_range1 (by rfl) T.n_range (ua_cons (ue_bin og_add ue_int (ue_bin og_div (ue_name 9) (ue_name 6))) ua_nil)) (blkOk_by (N := N_zone_cuts) (sc := defScope s_zone_cuts) (by decide +kernel)) (fun _ _ _ _ _ => (ug_name (i := 10) sc_zone_cuts.nd (by decide))) (fun _ _ _ _ _ => uts_nil) (fun _ _ _ _ _ => (ue_tup (ua_cons (ue_bin og_add (ue_name 8) (ue_tup (ua_cons (ue_name 10) ua_nil) (few (Nat.le_of_ble_eq_true rfl)) (len_cons len_nil))) (ua_cons (ue_bin og_sub (ue_name 9) (ue_bin og_mul (ue_name 10) (ue_name 6))) ua_nil)) (few (Nat.le_of_ble_eq_true rfl)) (len_cons (len_cons len_nil)))))) ua_nil)))))))
    (us_one (us_set (i := 4) sc_zone_cuts.nd (ue_name 7)))))))
    (us_one (us_ret (ue_v (uf_comp (own := [("counts", 8), ("room", 9)]) B.calm sc_zone_cuts.nd (ui_any (ue_name 4)) (blkOk_by (N := N_zone_cuts) (sc := defScope s_zone_cuts) (by decide +kernel)) (fun _ _ _ _ _ => (ug_tup B.calm (ugs_cons (ug_name (i := 8) sc_zone_cuts.nd (by decide)) (ugs_cons (ug_name (i := 9) sc_zone_cuts.nd (by decide)) ugs_nil)))) (fun _ _ _ _ _ => uts_nil) (fun _ _ _ _ _ => (ue_name 8)))))))))
theorem ok_together (T : Tx K mg) (sm : ∃ o, base.get? sysModules = some o) : FnG P w K mg base 1 T.a_together T.e_together ["one", "other"] (spU K mg 2 c_together) := by
  refine (fun_ok T.F_together sm sc_together f_together fun cdv A outer s H E B => ?_)
  exact (us_one (us_ret (ue_callTy cg_tuple (by rfl) T.n_tuple PyProof.Rows.boot_tuple (ua_cons (ue_v (uf_comp (own := [("here", 2), ("there", 3)]) B.calm sc_together.nd (ui_zipS (by rfl) T.n_zip (ua_cons (ue_name 0) (ua_cons (ue_name 1) ua_nil)) ue_bl) (blkOk_by (N := N_together) (sc := defScope s_together) (by decide +kernel)) (fun _ _ _ _ _ => (ug_tup B.calm (ugs_cons (ug_name (i := 2) sc_together.nd (by decide)) (ugs_cons (ug_name (i := 3) sc_together.nd (by decide)) ugs_nil)))) (fun _ _ _ _ _ => uts_nil) (fun _ _ _ _ _ => (ue_bin og_add (ue_name 2) (ue_name 3))))) ua_nil))))
theorem ok_is_beneath (T : Tx K mg) (sm : ∃ o, base.get? sysModules = some o) : FnG P w K mg base 1 T.a_is_beneath T.e_is_beneath ["one", "other"] (spU K mg 2 c_is_beneath) := by
  refine (fun_ok T.F_is_beneath sm sc_is_beneath f_is_beneath fun cdv A outer s H E B => ?_)
  exact (us_one (us_ret (ue_callB (cg_all B.calm) (by rfl) T.n_all boot_all (ua_cons (ue_v (uf_comp (own := [("here", 2), ("there", 3)]) B.calm sc_is_beneath.nd (ui_zipS (by rfl) T.n_zip (ua_cons (ue_name 0) (ua_cons (ue_name 1) ua_nil)) ue_bl) (blkOk_by (N := N_is_beneath) (sc := defScope s_is_beneath) (by decide +kernel)) (fun _ _ _ _ _ => (ug_tup B.calm (ugs_cons (ug_name (i := 2) sc_is_beneath.nd (by decide)) (ugs_cons (ug_name (i := 3) sc_is_beneath.nd (by decide)) ugs_nil)))) (fun _ _ _ _ _ => uts_nil) (fun _ _ _ _ _ => (ue_cmp og_le (ue_name 2) (ue_name 3))))) ua_nil))))
theorem ok_is_covered (T : Tx K mg) (sm : ∃ o, base.get? sysModules = some o) : FnG P w K mg base 2 T.a_is_covered T.e_is_covered ["row", "rows"] (spU K mg 2 c_is_covered) := by
  refine (fun_ok T.F_is_covered sm sc_is_covered f_is_covered fun cdv A outer s H E B => ?_)
  exact (us_cons (us_for (vs := [2]) B.po B.calm (ui_any (ue_name 1)) (ug_name (i := 2) (vs := [2]) sc_is_covered.nd (by decide))
    (us_one (us_if (ut_truth (ue_fn B (ok_is_beneath T B.sm) (by decide) T.g_is_beneath T.F_is_beneath.kp (b_is_beneath_2 T) (ua_cons (ue_name 0) (ua_cons (ue_name 2) ua_nil)) (len_cons (len_cons len_nil)))) (us_one (us_ret ue_bl)) us_nil)))
    (us_one (us_ret ue_bl)))
theorem ok_greatest (T : Tx K mg) (sm : ∃ o, base.get? sysModules = some o) : FnG P w K mg base 3 T.a_greatest T.e_greatest ["rows"] (spU K mg 1 c_greatest) := by
  refine FnG.gc (fun_ok T.F_greatest sm sc_greatest f_greatest fun cdv A outer s H E B => ?_)
  exact (us_cons (us_set (i := 1) sc_greatest.nd (ue_m (uf_lst ua_nil (few (Nat.le_of_ble_eq_true rfl)) len_nil)))
    (us_cons (us_for (vs := [2]) B.po B.calm (ui_any (ue_revA (ue_v (uf_setSort B.calm (u65 B.room) (by rfl) T.n_sorted (by rfl) T.n_set (ue_name 0))))) (ug_name (i := 2) (vs := [2]) sc_greatest.nd (by decide))
    (us_one (us_if (ut_not (ut_truth (ue_fn B (ok_is_covered T B.sm) (by decide) T.g_is_covered T.F_is_covered.kp (b_is_covered_2 T) (ua_cons (ue_name 2) (ua_cons (ue_name 1) ua_nil)) (len_cons (len_cons len_nil))))) (us_one (us_expr (ue_mt isL_ty PySem.F.plainAttrs_list PySem.F.slot_list_append PySem.F.type_list_append mg_append (ue_name 1) (ua_cons (ue_name 2) ua_nil)))) us_nil)))
    (us_one (us_ret (ue_name 1)))))
theorem ok_pairs_for (T : Tx K mg) (sm : ∃ o, base.get? sysModules = some o) : FnG P w K mg base 1 T.a_pairs_for T.e_pairs_for ["table", "counts"] (spU K mg 2 c_pairs_for) := by
  refine (fun_ok T.F_pairs_for sm sc_pairs_for f_pairs_for fun cdv A outer s H E B => ?_)
  exact (us_one (us_ret (ue_callB (cg_minL B.calm) (by rfl) T.n_min boot_min (ua_cons (ue_v (uf_comp (own := [("count", 2), ("part", 3)]) B.calm sc_pairs_for.nd (ui_zipS (by rfl) T.n_zip (ua_cons (ue_name 1) (ua_cons (ue_name 0) ua_nil)) ue_bl) (blkOk_by (N := N_pairs_for) (sc := defScope s_pairs_for) (by decide +kernel)) (fun _ _ _ _ _ => (ug_tup B.calm (ugs_cons (ug_name (i := 2) sc_pairs_for.nd (by decide)) (ugs_cons (ug_name (i := 3) sc_pairs_for.nd (by decide)) ugs_nil)))) (fun _ _ _ _ _ => uts_nil) (fun _ _ _ _ _ => (ue_bin og_div (ue_name 2) (ue_ix (ue_name 3) ue_int))))) ua_nil))))
theorem ok_ways_behind (T : Tx K mg) (sm : ∃ o, base.get? sysModules = some o) : FnG P w K mg base 4 T.a_ways_behind T.e_ways_behind ["rows", "zone", "table"] (spU K mg 3 c_ways_behind) := by
  refine FnG.gc (fun_ok T.F_ways_behind sm sc_ways_behind f_ways_behind fun cdv A outer s H E B => ?_)
  exact (us_cons (us_set (i := 3) sc_ways_behind.nd (ue_fn B (ok_greatest T B.sm) (by decide) T.g_greatest T.F_greatest.kp (b_greatest_1 T) (ua_cons (ue_fn B (ok_zone_cuts T B.sm) (by decide) T.g_zone_cuts T.F_zone_cuts.kp (b_zone_cuts_2 T) (ua_cons (ue_name 1) (ua_cons (ue_name 2) ua_nil)) (len_cons (len_cons len_nil))) ua_nil) (len_cons len_nil)))
    (us_cons (us_set (i := 4) sc_ways_behind.nd ue_d0t)
    (us_cons (us_for (vs := [5]) B.po B.calm (ui_any (ue_name 0)) (ug_name (i := 5) (vs := [5]) sc_ways_behind.nd (by decide))
    (us_one (us_for (vs := [6]) B.po B.calm (ui_any (ue_name 3)) (ug_name (i := 6) (vs := [6]) sc_ways_behind.nd (by decide))
    (us_one (us_sub (sg_any (u1 B.room)) (ue_tup (ua_cons (ue_name 5) (ua_cons (ue_name 6) ua_nil)) (few (Nat.le_of_ble_eq_true rfl)) (len_cons (len_cons len_nil))) (ue_name 4) (ue_fn B (ok_together T B.sm) (by decide) T.g_together T.F_together.kp (b_together_2 T) (ua_cons (ue_name 5) (ua_cons (ue_name 6) ua_nil)) (len_cons (len_cons len_nil))))))))
    (us_one (us_ret (ue_dictPT B.calm (u65 B.room) (by rfl) T.n_dict (uf_comp (own := [("row", 5)]) B.calm sc_ways_behind.nd (ui_any (ue_fn B (ok_greatest T B.sm) (by decide) T.g_greatest T.F_greatest.kp (b_greatest_1 T) (ua_cons (ue_name 4) ua_nil) (len_cons len_nil))) (blkOk_by (N := N_ways_behind) (sc := defScope s_ways_behind) (by decide +kernel)) (fun _ _ _ _ _ => (ug_name (i := 5) sc_ways_behind.nd (by decide))) (fun _ _ _ _ _ => uts_nil) (fun _ _ _ _ _ => (ue_tup (ua_cons (ue_name 5) (ua_cons (ue_dget (u1 B.blk.room) (ue_name 4) (ue_name 5)) ua_nil)) (few (Nat.le_of_ble_eq_true rfl)) (len_cons (len_cons len_nil)))))))))))
theorem ok_whole_cut (T : Tx K mg) (sm : ∃ o, base.get? sysModules = some o) : FnG P w K mg base 1 T.a_whole_cut T.e_whole_cut ["table", "cut", "many"] (spU K mg 3 c_whole_cut) := by
  refine FnG.gc (fun_ok T.F_whole_cut sm sc_whole_cut f_whole_cut fun cdv A outer s H E B => ?_)
  exact (us_cons (us_setC (own := [("part", 7)]) (i := 3) false B.calm sc_whole_cut.nd (ui_any (ue_name 0)) (blkOk_by (N := N_whole_cut) (sc := defScope s_whole_cut) (by decide +kernel)) (sw_true rfl rfl rfl (by decide +kernel)) (fun _ _ _ _ _ => (ug_name (i := 7) sc_whole_cut.nd (by decide))) (fun _ _ _ _ _ => uts_nil) (fun _ _ _ _ _ => (ue_bin og_mul (ue_name 2) (ue_ix (ue_name 7) ue_int))))
    (us_cons (us_set (i := 4) sc_whole_cut.nd (ue_m (uf_lst ua_nil (few (Nat.le_of_ble_eq_true rfl)) len_nil)))
    (us_cons (us_for (vs := [5]) B.po B.calm (ui_any (ue_name 1)) (ug_name (i := 5) (vs := [5]) sc_whole_cut.nd (by decide))
    (us_cons (us_setC (own := [("count", 8), ("rest", 9)]) (i := 6) false B.calm sc_whole_cut.nd (ui_zipS (by rfl) T.n_zip (ua_cons (ue_name 5) (ua_cons (ue_name 3) ua_nil)) ue_bl) (blkOk_by (N := N_whole_cut) (sc := defScope s_whole_cut) (by decide +kernel)) (sw_true rfl rfl rfl (by decide +kernel)) (fun _ _ _ _ _ => (ug_tup B.calm (ugs_cons (ug_name (i := 8) sc_whole_cut.nd (by decide)) (ugs_cons (ug_name (i := 9) sc_whole_cut.nd (by decide)) ugs_nil)))) (fun _ _ _ _ _ => uts_nil) (fun _ _ _ _ _ => (ue_callB (cg_min2 B.blk.calm) (by rfl) T.n_min boot_min (ua_cons (ue_name 8) (ua_cons (ue_name 9) ua_nil)))))
    (us_cons (us_setC (own := [("rest", 9), ("count", 8)]) (i := 3) false B.calm sc_whole_cut.nd (ui_zipS (by rfl) T.n_zip (ua_cons (ue_name 3) (ua_cons (ue_name 6) ua_nil)) ue_bl) (blkOk_by (N := N_whole_cut) (sc := defScope s_whole_cut) (by decide +kernel)) (sw_true rfl rfl rfl (by decide +kernel)) (fun _ _ _ _ _ => (ug_tup B.calm (ugs_cons (ug_name (i := 9) sc_whole_cut.nd (by decide)) (ugs_cons (ug_name (i := 8) sc_whole_cut.nd (by decide)) ugs_nil)))) (fun _ _ _ _ _ => uts_nil) (fun _ _ _ _ _ => (ue_bin og_sub (ue_name 9) (ue_name 8))))
    (us_one (us_expr (ue_mt isL_ty PySem.F.plainAttrs_list PySem.F.slot_list_append PySem.F.type_list_append mg_append (ue_name 4) (ua_cons (ue_callTy cg_tuple (by rfl) T.n_tuple PyProof.Rows.boot_tuple (ua_cons (ue_name 6) ua_nil)) ua_nil)))))))
    (us_one (us_ret (ue_callTy cg_tuple (by rfl) T.n_tuple PyProof.Rows.boot_tuple (ua_cons (ue_name 4) ua_nil)))))))
theorem ok_most_pairs (T : Tx K mg) (sm : ∃ o, base.get? sysModules = some o) : FnG P w K mg base 5 T.a_most_pairs T.e_most_pairs ["skin", "table"] (spU K mg 2 c_most_pairs) := by
  refine FnG.gc (fun_ok T.F_most_pairs sm sc_most_pairs f_most_pairs fun cdv A outer s H E B => ?_)
  exact (us_cons (us_set (i := 2) sc_most_pairs.nd (ue_m (uf_lst ua_nil (few (Nat.le_of_ble_eq_true rfl)) len_nil)))
    (us_cons (us_set (i := 3) sc_most_pairs.nd (ue_v (uf_lst (ua_cons (ue_tup (ua_cons ue_int (ua_cons ue_int (ua_cons ue_int ua_nil))) (few (Nat.le_of_ble_eq_true rfl)) (len_cons (len_cons (len_cons len_nil)))) ua_nil) (few (Nat.le_of_ble_eq_true rfl)) (len_cons len_nil))))
    (us_cons (us_for (vs := [4]) B.po B.calm (ui_any (ue_fld T.fl_zones (ue_name 0))) (ug_name (i := 4) (vs := [4]) sc_most_pairs.nd (by decide))
    (us_cons (us_expr (ue_mt isL_ty PySem.F.plainAttrs_list PySem.F.slot_list_append PySem.F.type_list_append mg_append (ue_name 2) (ua_cons (ue_fn B (ok_ways_behind T B.sm) (by decide) T.g_ways_behind T.F_ways_behind.kp (b_ways_behind_3 T) (ua_cons (ue_name 3) (ua_cons (ue_name 4) (ua_cons (ue_name 1) ua_nil))) (len_cons (len_cons (len_cons len_nil)))) ua_nil)))
    (us_one (us_set (i := 3) sc_most_pairs.nd (ue_v (uf_listT B.calm (by rfl) T.n_list (ue_ix (ue_name 2) (ue_neg ue_int))))))))
    (us_cons (us_set (i := 5) sc_most_pairs.nd (ue_callB (cg_maxL B.calm) (by rfl) T.n_max boot_max (ua_cons (ue_v (uf_comp (own := [("row", 10)]) B.calm sc_most_pairs.nd (ui_any (ue_name 3)) (blkOk_by (N := N_most_pairs) (sc := defScope s_most_pairs) (by decide +kernel)) (fun _ _ _ _ _ => (ug_name (i := 10) sc_most_pairs.nd (by decide))) (fun _ _ _ _ _ => uts_nil) (fun _ _ _ _ _ => (ue_fn B.blk (ok_pairs_for T B.sm) (by decide) T.g_pairs_for T.F_pairs_for.kp (b_pairs_for_2 T) (ua_cons (ue_name 1) (ua_cons (ue_name 10) ua_nil)) (len_cons (len_cons len_nil)))))) ua_nil)))
    (us_cons (us_set (i := 6) sc_most_pairs.nd (ue_ix (ue_v (uf_comp (own := [("row", 10)]) B.calm sc_most_pairs.nd (ui_any (ue_name 3)) (blkOk_by (N := N_most_pairs) (sc := defScope s_most_pairs) (by decide +kernel)) (fun _ _ _ _ _ => (ug_name (i := 10) sc_most_pairs.nd (by decide))) (fun _ _ _ _ _ => (uts_one (ut_cmp (og_eq B.blk.room.units) (ue_fn B.blk (ok_pairs_for T B.sm) (by decide) T.g_pairs_for T.F_pairs_for.kp (b_pairs_for_2 T) (ua_cons (ue_name 1) (ua_cons (ue_name 10) ua_nil)) (len_cons (len_cons len_nil))) (ue_name 5)))) (fun _ _ _ _ _ => (ue_name 10)))) ue_int))
    (us_cons (us_set (i := 7) sc_most_pairs.nd (ue_m (uf_lst ua_nil (few (Nat.le_of_ble_eq_true rfl)) len_nil)))
    (us_cons (us_for (vs := [8]) B.po B.calm (ui_revR (by rfl) T.n_reversed (ue_name 2)) (ug_name (i := 8) (vs := [8]) sc_most_pairs.nd (by decide))
    (us_cons (us_asg (ue_dget (u1 B.room) (ue_name 8) (ue_name 6)) (ug_tup B.calm (ugs_cons (ug_name (i := 6) (vs := [6, 9]) sc_most_pairs.nd (by decide)) (ugs_cons (ug_name (i := 9) (vs := [6, 9]) sc_most_pairs.nd (by decide)) ugs_nil))))
    (us_one (us_expr (ue_mt isL_ty PySem.F.plainAttrs_list PySem.F.slot_list_append PySem.F.type_list_append mg_append (ue_name 7) (ua_cons (ue_name 9) ua_nil))))))
    (us_one (us_ret (ue_tup (ua_cons (ue_name 5) (ua_cons (ue_fn B (ok_whole_cut T B.sm) (by decide) T.g_whole_cut T.F_whole_cut.kp (b_whole_cut_3 T) (ua_cons (ue_name 1) (ua_cons (ue_revA (ue_name 7)) (ua_cons (ue_name 5) ua_nil))) (len_cons (len_cons (len_cons len_nil)))) (ua_cons (ue_callTy cg_tuple (by rfl) T.n_tuple PyProof.Rows.boot_tuple (ua_cons (ue_v (uf_comp (own := [("step", 8)]) B.calm sc_most_pairs.nd (ui_any (ue_name 2)) (blkOk_by (N := N_most_pairs) (sc := defScope s_most_pairs) (by decide +kernel)) (fun _ _ _ _ _ => (ug_name (i := 8) sc_most_pairs.nd (by decide))) (fun _ _ _ _ _ => uts_nil) (fun _ _ _ _ _ => (ue_callTy cg_tuple (by rfl) T.n_tuple PyProof.Rows.boot_tuple (ua_cons (ue_v (uf_sortL B.blk.calm (by rfl) T.n_sorted (ue_name 8))) ua_nil))))) ua_nil)) ua_nil))) (few (Nat.le_of_ble_eq_true rfl)) (len_cons (len_cons (len_cons len_nil)))))))))))))
theorem ok_deck (T : Tx K mg) (sm : ∃ o, base.get? sysModules = some o) : FnG P w K mg base 1 T.a_deck T.e_deck ["_law_script"] (spU K mg 1 c_deck) := by
  refine (fun_ok T.F_deck sm sc_deck f_deck fun cdv A outer s H E B => ?_)
  exact (us_one (us_ret (ue_m (uf_lst (ua_cons (ue_m (uf_rev (ue_m (uf_list (by rfl) T.n_list (ue_sl (ue_name 0) uo_none (uo_some ue_int)))))) (ua_cons (ue_bin og_add (ue_callB (cg_sum B.calm) (by rfl) T.n_sum boot_sum (ua_cons (ue_v (uf_comp (own := [("_law_cell", 1)]) B.calm sc_deck.nd (ui_any (ue_sl (ue_name 0) uo_none (uo_some ue_int))) (blkOk_by (N := N_deck) (sc := defScope s_deck) (by decide +kernel)) (fun _ _ _ _ _ => (ug_name (i := 1) sc_deck.nd (by decide))) (fun _ _ _ _ _ => uts_nil) (fun _ _ _ _ _ => (ue_bin og_mod (ue_name 1) ue_int)))) ua_nil)) (ue_bin og_mul ue_int (ue_callB cg_len (by rfl) T.n_len PySem.boot_len (ua_cons (ue_sl (ue_name 0) uo_none (uo_some ue_int)) ua_nil)))) (ua_cons ue_int ua_nil))) (few (Nat.le_of_ble_eq_true rfl)) (len_cons (len_cons (len_cons len_nil)))))))
theorem ok_draw (T : Tx K mg) (sm : ∃ o, base.get? sysModules = some o) : FnG P w K mg base 1 T.a_draw T.e_draw ["_law_deck_here", "_law_most_here"] (spU K mg 2 c_draw) := by
  refine (fun_ok T.F_draw sm sc_draw f_draw fun cdv A outer s H E B => ?_)
  exact (us_cons (us_sub sg_list (ue_bin og_add (ue_ix (ue_name 0) ue_int) ue_int) (ue_name 0) ue_int)
    (us_cons (us_set (i := 2) sc_draw.nd (ue_ix (ue_name 0) ue_int))
    (us_cons (us_if (ut_cmp (og_ne B.room.units) (ue_ix (ue_name 0) ue_int) (ue_v (uf_lst ua_nil (few (Nat.le_of_ble_eq_true rfl)) len_nil))) (us_cons (us_set (i := 2) sc_draw.nd (ue_mt0 isL_ty PySem.F.plainAttrs_list PySem.F.slot_list_pop PySem.F.type_list_pop mg_pop (ue_ix (ue_name 0) ue_int)))
    (us_one (us_if (ut_cmp og_ge (ue_name 2) (ue_bin og_pow ue_int ue_int)) (us_cons (us_expr (ue_mt isL_ty PySem.F.plainAttrs_list PySem.F.slot_list_append PySem.F.type_list_append mg_append (ue_ix (ue_name 0) ue_int) (ua_cons (ue_bin og_div (ue_name 2) (ue_name 1)) ua_nil)))
    (us_one (us_ret (ue_bin og_mod (ue_name 2) (ue_name 1))))) us_nil))) us_nil)
    (us_cons (us_set (i := 3) sc_draw.nd (ue_bin og_mod (ue_bin og_mul (ue_bin og_add (ue_bin og_add (ue_bin og_mod (ue_name 2) ue_int) (ue_bin og_mul ue_int (ue_ix (ue_name 0) ue_int))) ue_int) ue_int) ue_int))
    (us_cons (us_set (i := 3) sc_draw.nd (ue_bin og_mod (ue_bin og_add (ue_bin og_add (ue_bin og_mul (ue_name 3) (ue_name 3)) (ue_bin og_mul ue_int (ue_ix (ue_name 0) ue_int))) ue_int) ue_int))
    (us_one (us_ret (ue_bin og_mod (ue_bin og_div (ue_bin og_mod (ue_bin og_add (ue_bin og_mul (ue_name 3) (ue_name 3)) ue_int) ue_int) ue_int) (ue_name 1)))))))))
theorem ok_pick (T : Tx K mg) (sm : ∃ o, base.get? sysModules = some o) : FnG P w K mg base 2 T.a_pick T.e_pick ["_law_deck_here", "_law_some"] (spU K mg 2 c_pick) := by
  refine (fun_ok T.F_pick sm sc_pick f_pick fun cdv A outer s H E B => ?_)
  exact (us_one (us_ret (ue_ix (ue_name 1) (ue_fn B (ok_draw T B.sm) (by decide) T.g_draw T.F_draw.kp (b_draw_2 T) (ua_cons (ue_name 0) (ua_cons (ue_callB cg_len (by rfl) T.n_len PySem.boot_len (ua_cons (ue_name 1) ua_nil)) ua_nil)) (len_cons (len_cons len_nil))))))
theorem ok_lengths (T : Tx K mg) (sm : ∃ o, base.get? sysModules = some o) : FnG P w K mg base 3 T.a_lengths T.e_lengths ["_law_deck_here"] (spU K mg 1 c_lengths) := by
  refine (fun_ok T.F_lengths sm sc_lengths f_lengths fun cdv A outer s H E B => ?_)
  exact (us_cons (us_set (i := 1) sc_lengths.nd (ue_fn B (ok_draw T B.sm) (by decide) T.g_draw T.F_draw.kp (b_draw_2 T) (ua_cons (ue_name 0) (ua_cons ue_int ua_nil)) (len_cons (len_cons len_nil))))
    (us_cons (us_par (i := 2) (j := 3) B.calm sc_lengths.nd (by decide) (ua_cons (ue_bin og_add ue_int (ue_fn B (ok_draw T B.sm) (by decide) T.g_draw T.F_draw.kp (b_draw_2 T) (ua_cons (ue_name 0) (ua_cons ue_int ua_nil)) (len_cons (len_cons len_nil)))) (ua_cons (ue_bin og_add ue_int (ue_fn B (ok_draw T B.sm) (by decide) T.g_draw T.F_draw.kp (b_draw_2 T) (ua_cons (ue_name 0) (ua_cons ue_int ua_nil)) (len_cons (len_cons len_nil)))) ua_nil)) (by rfl))
    (us_cons (us_if (ut_cmp (og_eq B.room.units) (ue_name 1) ue_int) (us_one (us_set (i := 2) sc_lengths.nd (ue_bin og_add ue_int (ue_fn B (ok_draw T B.sm) (by decide) T.g_draw T.F_draw.kp (b_draw_2 T) (ua_cons (ue_name 0) (ua_cons ue_int ua_nil)) (len_cons (len_cons len_nil)))))) us_nil)
    (us_one (us_ret (ue_tup (ua_cons (ue_ix (ue_v (uf_lst (ua_cons (ue_name 2) (ua_cons ue_non ua_nil)) (few (Nat.le_of_ble_eq_true rfl)) (len_cons (len_cons len_nil)))) (ue_callTy cg_int (by rfl) T.n_int PyProof.Rows.boot_int (ua_cons (ue_cmp (og_eq B.room.units) (ue_name 1) ue_int) ua_nil))) (ua_cons (ue_ix (ue_v (uf_lst (ua_cons (ue_name 3) (ua_cons ue_non ua_nil)) (few (Nat.le_of_ble_eq_true rfl)) (len_cons (len_cons len_nil)))) (ue_callTy cg_int (by rfl) T.n_int PyProof.Rows.boot_int (ua_cons (ue_cmp (og_eq B.room.units) (ue_name 1) ue_int) ua_nil))) (ua_cons (ue_bin og_add ue_int (ue_fn B (ok_pick T B.sm) (by decide) T.g_pick T.F_pick.kp (b_pick_2 T) (ua_cons (ue_name 0) (ua_cons (ue_v (uf_lst (ua_cons ue_int (ua_cons ue_int (ua_cons ue_int (ua_cons ue_int (ua_cons ue_int (ua_cons ue_int ua_nil)))))) (few (Nat.le_of_ble_eq_true rfl)) (len_cons (len_cons (len_cons (len_cons (len_cons (len_cons len_nil)))))))) ua_nil)) (len_cons (len_cons len_nil)))) ua_nil))) (few (Nat.le_of_ble_eq_true rfl)) (len_cons (len_cons (len_cons len_nil)))))))))
theorem ok_table (T : Tx K mg) (sm : ∃ o, base.get? sysModules = some o) : FnG P w K mg base 4 T.a_table T.e_table ["_law_deck_here"] (spU K mg 1 c_table) := by
  refine (fun_ok T.F_table sm sc_table f_table fun cdv A outer s H E B => ?_)
  exact (us_one (us_ret (ue_callTy cg_tuple (by rfl) T.n_tuple PyProof.Rows.boot_tuple (ua_cons (ue_v (uf_comp (own := [("_law_part", 1)]) B.calm sc_table.nd (ui_range1 (by rfl) T.n_range (ua_cons ue_int ua_nil)) (blkOk_by (N := N_table) (sc := defScope s_table) (by decide +kernel)) (fun _ _ _ _ _ => (ug_name (i := 1) sc_table.nd (by decide))) (fun _ _ _ _ _ => uts_nil) (fun _ _ _ _ _ => (ue_fn B.blk (ok_lengths T B.sm) (by decide) T.g_lengths T.F_lengths.kp (b_lengths_1 T) (ua_cons (ue_name 0) ua_nil) (len_cons len_nil))))) ua_nil))))
theorem ok_zones (T : Tx K mg) (sm : ∃ o, base.get? sysModules = some o) : FnG P w K mg base 3 T.a_zones T.e_zones ["_law_deck_here"] (spU K mg 1 c_zones) := by
  refine FnG.gc (fun_ok T.F_zones sm sc_zones f_zones fun cdv A outer s H E B => ?_)
  exact (us_cons (us_set (i := 1) sc_zones.nd (ue_fn B (ok_draw T B.sm) (by decide) T.g_draw T.F_draw.kp (b_draw_2 T) (ua_cons (ue_name 0) (ua_cons ue_int ua_nil)) (len_cons (len_cons len_nil))))
    (us_cons (us_set (i := 2) sc_zones.nd (ue_ix (ue_v (uf_lst (ua_cons (ue_bin og_add ue_int (ue_fn B (ok_draw T B.sm) (by decide) T.g_draw T.F_draw.kp (b_draw_2 T) (ua_cons (ue_name 0) (ua_cons ue_int ua_nil)) (len_cons (len_cons len_nil)))) (ua_cons ue_int (ua_cons ue_int ua_nil))) (few (Nat.le_of_ble_eq_true rfl)) (len_cons (len_cons (len_cons len_nil))))) (ue_bin og_add (ue_callTy cg_int (by rfl) T.n_int PyProof.Rows.boot_int (ua_cons (ue_cmp (og_eq B.room.units) (ue_name 1) ue_int) ua_nil)) (ue_bin og_mul ue_int (ue_callTy cg_int (by rfl) T.n_int PyProof.Rows.boot_int (ua_cons (ue_cmp (og_eq B.room.units) (ue_name 1) ue_int) ua_nil))))))
    (us_cons (us_set (i := 3) sc_zones.nd (ue_m (uf_lst ua_nil (few (Nat.le_of_ble_eq_true rfl)) len_nil)))
    (us_cons (us_for (vs := [4]) B.po B.calm (ui_range1 (by rfl) T.n_range (ua_cons (ue_name 2) ua_nil)) (ug_name (i := 4) (vs := [4]) sc_zones.nd (by decide))
    (us_cons (us_set (i := 5) sc_zones.nd (ue_ix (ue_v (uf_lst (ua_cons (ue_bin og_add ue_int (ue_fn B (ok_draw T B.sm) (by decide) T.g_draw T.F_draw.kp (b_draw_2 T) (ua_cons (ue_name 0) (ua_cons ue_int ua_nil)) (len_cons (len_cons len_nil)))) (ua_cons ue_int (ua_cons (ue_bin og_add ue_int (ue_fn B (ok_draw T B.sm) (by decide) T.g_draw T.F_draw.kp (b_draw_2 T) (ua_cons (ue_name 0) (ua_cons ue_int ua_nil)) (len_cons (len_cons len_nil)))) ua_nil))) (few (Nat.le_of_ble_eq_true rfl)) (len_cons (len_cons (len_cons len_nil))))) (ue_bin og_add (ue_callTy cg_int (by rfl) T.n_int PyProof.Rows.boot_int (ua_cons (ue_cmp (og_eq B.room.units) (ue_name 1) ue_int) ua_nil)) (ue_bin og_mul ue_int (ue_callTy cg_int (by rfl) T.n_int PyProof.Rows.boot_int (ua_cons (ue_cmp (og_eq B.room.units) (ue_name 1) ue_int) ua_nil))))))
    (us_one (us_expr (ue_mt isL_ty PySem.F.plainAttrs_list PySem.F.slot_list_append PySem.F.type_list_append mg_append (ue_name 3) (ua_cons (ue_tup (ua_cons (ue_fn B (ok_pick T B.sm) (by decide) T.g_pick T.F_pick.kp (b_pick_2 T) (ua_cons (ue_name 0) (ua_cons (ue_v (uf_lst (ua_cons ue_str (ua_cons ue_str ua_nil)) (few (Nat.le_of_ble_eq_true rfl)) (len_cons (len_cons len_nil)))) ua_nil)) (len_cons (len_cons len_nil))) (ua_cons (ue_name 5) ua_nil)) (few (Nat.le_of_ble_eq_true rfl)) (len_cons (len_cons len_nil))) ua_nil))))))
    (us_one (us_ret (ue_callTy cg_tuple (by rfl) T.n_tuple PyProof.Rows.boot_tuple (ua_cons (ue_name 3) ua_nil))))))))
theorem ok_fits (T : Tx K mg) (sm : ∃ o, base.get? sysModules = some o) : FnG P w K mg base 1 T.a_fits T.e_fits ["_law_zone", "_law_parts", "_law_counts_here"] (spU K mg 3 c_fits) := by
  refine (fun_ok T.F_fits sm sc_fits f_fits fun cdv A outer s H E B => ?_)
  exact (us_cons (us_set (i := 3) sc_fits.nd (ue_callTy cg_int (by rfl) T.n_int PyProof.Rows.boot_int (ua_cons (ue_cmp (og_eq B.room.units) (ue_ix (ue_name 0) ue_int) ue_str) ua_nil)))
    (us_cons (us_setC (own := [("_law_part", 5), ("_law_count", 6)]) (i := 4) false B.calm sc_fits.nd (ui_zip (by rfl) T.n_zip (ua_cons (ue_name 1) (ua_cons (ue_name 2) ua_nil))) (blkOk_by (N := N_fits) (sc := defScope s_fits) (by decide +kernel)) (sw_true rfl rfl rfl (by decide +kernel)) (fun _ _ _ _ _ => (ug_tup B.calm (ugs_cons (ug_name (i := 5) sc_fits.nd (by decide)) (ugs_cons (ug_name (i := 6) sc_fits.nd (by decide)) ugs_nil)))) (fun _ _ _ _ _ => (uts_one (ut_cmp og_gt (ue_name 6) ue_int))) (fun _ _ _ _ _ => (ue_tup (ua_cons (ue_ix (ue_name 5) (ue_name 3)) (ua_cons (ue_name 6) ua_nil)) (few (Nat.le_of_ble_eq_true rfl)) (len_cons (len_cons len_nil)))))
    (us_cons (us_if (ut_cmp (og_neL B.room.units) (ue_v (uf_comp (own := [("_law_one", 7), ("_law_count", 6)]) B.calm sc_fits.nd (ui_any (ue_name 4)) (blkOk_by (N := N_fits) (sc := defScope s_fits) (by decide +kernel)) (fun _ _ _ _ _ => (ug_tup B.calm (ugs_cons (ug_name (i := 7) sc_fits.nd (by decide)) (ugs_cons (ug_name (i := 6) sc_fits.nd (by decide)) ugs_nil)))) (fun _ _ _ _ _ => (uts_one (ut_cmp og_is (ue_name 7) ue_non))) (fun _ _ _ _ _ => (ue_name 7)))) (ue_v (uf_lst ua_nil (few (Nat.le_of_ble_eq_true rfl)) len_nil))) (us_one (us_ret ue_bl)) us_nil)
    (us_one (us_ret (ue_cmp og_le (ue_callB (cg_sum B.calm) (by rfl) T.n_sum boot_sum (ua_cons (ue_v (uf_comp (own := [("_law_one", 7), ("_law_count", 6)]) B.calm sc_fits.nd (ui_any (ue_name 4)) (blkOk_by (N := N_fits) (sc := defScope s_fits) (by decide +kernel)) (fun _ _ _ _ _ => (ug_tup B.calm (ugs_cons (ug_name (i := 7) sc_fits.nd (by decide)) (ugs_cons (ug_name (i := 6) sc_fits.nd (by decide)) ugs_nil)))) (fun _ _ _ _ _ => uts_nil) (fun _ _ _ _ _ => (ue_bin og_mul (ue_name 7) (ue_name 6))))) ua_nil)) (ue_ix (ue_name 0) ue_int)))))))
theorem ok_counts (T : Tx K mg) (sm : ∃ o, base.get? sysModules = some o) : FnG P w K mg base 2 T.a_counts T.e_counts ["_law_zone", "_law_parts"] (spU K mg 2 c_counts) := by
  refine FnG.gc (fun_ok T.F_counts sm sc_counts f_counts fun cdv A outer s H E B => ?_)
  exact (us_cons (us_set (i := 2) sc_counts.nd (ue_m (uf_lst ua_nil (few (Nat.le_of_ble_eq_true rfl)) len_nil)))
    (us_cons (us_for (vs := [3]) B.po B.calm (ui_range1 (by rfl) T.n_range (ua_cons ue_int ua_nil)) (ug_name (i := 3) (vs := [3]) sc_counts.nd (by decide))
    (us_one (us_for (vs := [4]) B.po B.calm (ui_range1 (by rfl) T.n_range (ua_cons (ue_bin og_sub ue_int (ue_name 3)) ua_nil)) (ug_name (i := 4) (vs := [4]) sc_counts.nd (by decide))
    (us_one (us_expr (ue_mt isL_ty PySem.F.plainAttrs_list PySem.F.slot_list_extend PySem.F.type_list_extend mg_extend (ue_name 2) (ua_cons (ue_v (uf_comp (own := [("_law_c", 5)]) B.calm sc_counts.nd (ui_range1 (by rfl) T.n_range (ua_cons (ue_bin og_sub (ue_bin og_sub ue_int (ue_name 3)) (ue_name 4)) ua_nil)) (blkOk_by (N := N_counts) (sc := defScope s_counts) (by decide +kernel)) (fun _ _ _ _ _ => (ug_name (i := 5) sc_counts.nd (by decide))) (fun _ _ _ _ _ => (uts_one (ut_truth (ue_fn B.blk (ok_fits T B.sm) (by decide) T.g_fits T.F_fits.kp (b_fits_3 T) (ua_cons (ue_name 0) (ua_cons (ue_name 1) (ua_cons (ue_tup (ua_cons (ue_name 3) (ua_cons (ue_name 4) (ua_cons (ue_name 5) ua_nil))) (few (Nat.le_of_ble_eq_true rfl)) (len_cons (len_cons (len_cons len_nil)))) ua_nil))) (len_cons (len_cons (len_cons len_nil))))))) (fun _ _ _ _ _ => (ue_tup (ua_cons (ue_name 3) (ua_cons (ue_name 4) (ua_cons (ue_name 5) ua_nil))) (few (Nat.le_of_ble_eq_true rfl)) (len_cons (len_cons (len_cons len_nil))))))) ua_nil)))))))
    (us_one (us_ret (ue_name 2)))))
theorem ok_given (T : Tx K mg) (sm : ∃ o, base.get? sysModules = some o) : FnG P w K mg base 1 T.a_given T.e_given ["_law_parts", "_law_counts_here"] (spU K mg 2 c_given) := by
  refine (fun_ok T.F_given sm sc_given f_given fun cdv A outer s H E B => ?_)
  exact (us_one (us_ret (ue_callB (cg_minL B.calm) (by rfl) T.n_min boot_min (ua_cons (ue_v (uf_comp (own := [("_law_count", 2), ("_law_part", 3)]) B.calm sc_given.nd (ui_zip (by rfl) T.n_zip (ua_cons (ue_name 1) (ua_cons (ue_name 0) ua_nil))) (blkOk_by (N := N_given) (sc := defScope s_given) (by decide +kernel)) (fun _ _ _ _ _ => (ug_tup B.calm (ugs_cons (ug_name (i := 2) sc_given.nd (by decide)) (ugs_cons (ug_name (i := 3) sc_given.nd (by decide)) ugs_nil)))) (fun _ _ _ _ _ => uts_nil) (fun _ _ _ _ _ => (ue_bin og_div (ue_name 2) (ue_ix (ue_name 3) ue_int))))) ua_nil))))
theorem ok_added (T : Tx K mg) (sm : ∃ o, base.get? sysModules = some o) : FnG P w K mg base 1 T.a_added T.e_added ["_law_one", "_law_other"] (spU K mg 2 c_added) := by
  refine (fun_ok T.F_added sm sc_added f_added fun cdv A outer s H E B => ?_)
  exact (us_one (us_ret (ue_callTy cg_tuple (by rfl) T.n_tuple PyProof.Rows.boot_tuple (ua_cons (ue_v (uf_comp (own := [("_law_here", 2), ("_law_there", 3)]) B.calm sc_added.nd (ui_zip (by rfl) T.n_zip (ua_cons (ue_name 0) (ua_cons (ue_name 1) ua_nil))) (blkOk_by (N := N_added) (sc := defScope s_added) (by decide +kernel)) (fun _ _ _ _ _ => (ug_tup B.calm (ugs_cons (ug_name (i := 2) sc_added.nd (by decide)) (ugs_cons (ug_name (i := 3) sc_added.nd (by decide)) ugs_nil)))) (fun _ _ _ _ _ => uts_nil) (fun _ _ _ _ _ => (ue_bin og_add (ue_name 2) (ue_name 3))))) ua_nil))))
theorem ok_least_rows (T : Tx K mg) (sm : ∃ o, base.get? sysModules = some o) : FnG P w K mg base 1 T.a_least_rows T.e_least_rows ["_law_rows"] (spU K mg 1 c_least_rows) := by
  refine FnG.gc (fun_ok T.F_least_rows sm sc_least_rows f_least_rows fun cdv A outer s H E B => ?_)
  exact (us_cons (us_set (i := 1) sc_least_rows.nd (ue_m (uf_lst ua_nil (few (Nat.le_of_ble_eq_true rfl)) len_nil)))
    (us_cons (us_for (vs := [2]) B.po B.calm (ui_any (ue_v (uf_sortR B.calm (by rfl) T.n_sorted (ua_cons (ue_name 0) ua_nil) ue_bl))) (ug_name (i := 2) (vs := [2]) sc_least_rows.nd (by decide))
    (us_one (us_if (ut_cmp (og_eqL B.room.units) (ue_v (uf_comp (own := [("_law_other", 3)]) B.calm sc_least_rows.nd (ui_any (ue_name 1)) (blkOk_by (N := N_least_rows) (sc := defScope s_least_rows) (by decide +kernel)) (fun _ _ _ _ _ => (ug_name (i := 3) sc_least_rows.nd (by decide))) (fun _ _ _ _ _ => (uts_one (ut_cmp (og_eqL B.blk.room.units) (ue_v (uf_comp (own := [("_law_a", 4), ("_law_b", 5)]) B.blk.calm sc_least_rows.nd (ui_zip (by rfl) T.n_zip (ua_cons (ue_name 2) (ua_cons (ue_name 3) ua_nil))) (blkOk_n (N := N_least_rows) (by decide +kernel)) (fun _ _ _ _ _ => (ug_tup B.calm (ugs_cons (ug_name (i := 4) sc_least_rows.nd (by decide)) (ugs_cons (ug_name (i := 5) sc_least_rows.nd (by decide)) ugs_nil)))) (fun _ _ _ _ _ => (uts_one (ut_cmp og_gt (ue_name 4) (ue_name 5)))) (fun _ _ _ _ _ => ue_int))) (ue_v (uf_lst ua_nil (few (Nat.le_of_ble_eq_true rfl)) len_nil))))) (fun _ _ _ _ _ => ue_int))) (ue_v (uf_lst ua_nil (few (Nat.le_of_ble_eq_true rfl)) len_nil))) (us_one (us_expr (ue_mt isL_ty PySem.F.plainAttrs_list PySem.F.slot_list_append PySem.F.type_list_append mg_append (ue_name 1) (ua_cons (ue_name 2) ua_nil)))) us_nil)))
    (us_one (us_ret (ue_name 1)))))
theorem ok_fronts (T : Tx K mg) (sm : ∃ o, base.get? sysModules = some o) : FnG P w K mg base 3 T.a_fronts T.e_fronts ["_law_zones_here", "_law_parts"] (spU K mg 2 c_fronts) := by
  refine FnG.gc (fun_ok T.F_fronts sm sc_fronts f_fronts fun cdv A outer s H E B => ?_)
  exact (us_cons (us_set (i := 2) sc_fronts.nd (ue_dispL (u65 B.room) (ups_cons (ue_tup (ua_cons ue_int (ua_cons ue_int (ua_cons ue_int ua_nil))) (few (Nat.le_of_ble_eq_true rfl)) (len_cons (len_cons (len_cons len_nil)))) (ue_tup ua_nil (few (Nat.le_of_ble_eq_true rfl)) len_nil) ups_nil)))
    (us_cons (us_set (i := 3) sc_fronts.nd (ue_m (uf_lst ua_nil (few (Nat.le_of_ble_eq_true rfl)) len_nil)))
    (us_cons (us_for (vs := [4]) B.po B.calm (ui_any (ue_name 0)) (ug_name (i := 4) (vs := [4]) sc_fronts.nd (by decide))
    (us_cons (us_set (i := 5) sc_fronts.nd ue_d0t)
    (us_cons (us_set (i := 6) sc_fronts.nd (ue_fn B (ok_least_rows T B.sm) (by decide) T.g_least_rows T.F_least_rows.kp (b_least_rows_1 T) (ua_cons (ue_fn B (ok_counts T B.sm) (by decide) T.g_counts T.F_counts.kp (b_counts_2 T) (ua_cons (ue_name 4) (ua_cons (ue_name 1) ua_nil)) (len_cons (len_cons len_nil))) ua_nil) (len_cons len_nil)))
    (us_cons (us_for (vs := [7]) B.po B.calm (ui_keys (ue_name 2)) (ug_name (i := 7) (vs := [7]) sc_fronts.nd (by decide))
    (us_one (us_for (vs := [8]) B.po B.calm (ui_any (ue_name 6)) (ug_name (i := 8) (vs := [8]) sc_fronts.nd (by decide))
    (us_one (us_sub (sg_any (u1 B.room)) (ue_bin og_add (ue_dget (u1 B.room) (ue_name 2) (ue_name 7)) (ue_tup (ua_cons (ue_name 8) ua_nil) (few (Nat.le_of_ble_eq_true rfl)) (len_cons len_nil))) (ue_name 5) (ue_fn B (ok_added T B.sm) (by decide) T.g_added T.F_added.kp (b_added_2 T) (ua_cons (ue_name 7) (ua_cons (ue_name 8) ua_nil)) (len_cons (len_cons len_nil))))))))
    (us_cons (us_set (i := 2) sc_fronts.nd (ue_dictPT B.calm (u65 B.room) (by rfl) T.n_dict (uf_comp (own := [("_law_row", 7)]) B.calm sc_fronts.nd (ui_any (ue_fn B (ok_least_rows T B.sm) (by decide) T.g_least_rows T.F_least_rows.kp (b_least_rows_1 T) (ua_cons (ue_v (uf_listT B.calm (by rfl) T.n_list (ue_name 5))) ua_nil) (len_cons len_nil))) (blkOk_by (N := N_fronts) (sc := defScope s_fronts) (by decide +kernel)) (fun _ _ _ _ _ => (ug_name (i := 7) sc_fronts.nd (by decide))) (fun _ _ _ _ _ => uts_nil) (fun _ _ _ _ _ => (ue_tup (ua_cons (ue_name 7) (ua_cons (ue_dget (u1 B.blk.room) (ue_name 5) (ue_name 7)) ua_nil)) (few (Nat.le_of_ble_eq_true rfl)) (len_cons (len_cons len_nil)))))))
    (us_one (us_expr (ue_mt isL_ty PySem.F.plainAttrs_list PySem.F.slot_list_append PySem.F.type_list_append mg_append (ue_name 3) (ua_cons (ue_name 2) ua_nil)))))))))
    (us_one (us_ret (ue_name 3))))))
theorem ok_most (T : Tx K mg) (sm : ∃ o, base.get? sysModules = some o) : FnG P w K mg base 4 T.a_most T.e_most ["_law_zones_here", "_law_parts"] (spU K mg 2 c_most) := by
  refine (fun_ok T.F_most sm sc_most f_most fun cdv A outer s H E B => ?_)
  exact (us_one (us_ret (ue_callB (cg_maxL B.calm) (by rfl) T.n_max boot_max (ua_cons (ue_v (uf_comp (own := [("_law_row", 2)]) B.calm sc_most.nd (ui_keys (ue_ix (ue_fn B (ok_fronts T B.sm) (by decide) T.g_fronts T.F_fronts.kp (b_fronts_2 T) (ua_cons (ue_name 0) (ua_cons (ue_name 1) ua_nil)) (len_cons (len_cons len_nil))) (ue_neg ue_int))) (blkOk_by (N := N_most) (sc := defScope s_most) (by decide +kernel)) (fun _ _ _ _ _ => (ug_name (i := 2) sc_most.nd (by decide))) (fun _ _ _ _ _ => uts_nil) (fun _ _ _ _ _ => (ue_fn B.blk (ok_given T B.sm) (by decide) T.g_given T.F_given.kp (b_given_2 T) (ua_cons (ue_name 1) (ua_cons (ue_name 2) ua_nil)) (len_cons (len_cons len_nil)))))) ua_nil))))
theorem ok_Skin_init (T : Tx K mg) (sm : ∃ o, base.get? sysModules = some o) : FnG P w K mg base 1 T.a_Skin_init T.e_Skin_init ["self", "zones", "stretch", "grade"] (spU K mg 4 c_Skin_init) := by
  refine (funF_ok T.F_Skin_init sm sc_Skin_init f_Skin_init fun cdv A outer s H E B => ?_)
  exact (us_cons (us_fld T.fl_zones (ue_name 0) (ue_name 1))
    (us_cons (us_fld T.fl_stretch (ue_name 0) (ue_name 2))
    (us_one (us_fld T.fl_grade (ue_name 0) (ue_name 3)))))
theorem ok_told (T : Tx K mg) (sm : ∃ o, base.get? sysModules = some o) : FnG P w K mg base 6 T.a_told T.e_told ["_law_zones_here", "_law_parts"] (spU K mg 2 c_told) := by
  refine (fun_ok T.F_told sm sc_told f_told fun cdv A outer s H E B => ?_)
  exact (us_one (us_ret (ue_ix (ue_fnK0 B (ok_most_pairs T B.sm) (by decide) T.g_most_pairs T.F_most_pairs.kp (b_most_pairs_0_table_skin T) (uk_cons (ue_name 1) (uk_cons (ue_gc (ue_mkD B T.mk_Skin T.iC_Skin (ok_Skin_init T B.sm) (by decide) T.gC_Skin (b_Skin_init_2 T) (fun _ _ => (.cons (.int _) (.cons (.int _) .nil))) (ua_cons (ue_name 0) ua_nil) uk_nil (by exact (len_cons len_nil)) (by exact len_nil))) uk_nil)) (len_cons (len_cons len_nil))) ue_int)))
theorem ok_turned (T : Tx K mg) (sm : ∃ o, base.get? sysModules = some o) : FnG P w K mg base 1 T.a_turned T.e_turned ["_law_zones_here", "_law_parts"] (spU K mg 2 c_turned) := by
  refine (fun_ok T.F_turned sm sc_turned f_turned fun cdv A outer s H E B => ?_)
  exact (us_cons (us_set (i := 2) sc_turned.nd (ue_disp (ups_cons ue_str ue_str (ups_cons ue_str ue_str ups_nil))))
    (us_one (us_ret (ue_tup (ua_cons (ue_callTy cg_tuple (by rfl) T.n_tuple PyProof.Rows.boot_tuple (ua_cons (ue_v (uf_comp (own := [("_law_grain", 3), ("_law_length", 4)]) B.calm sc_turned.nd (ui_any (ue_name 0)) (blkOk_by (N := N_turned) (sc := defScope s_turned) (by decide +kernel)) (fun _ _ _ _ _ => (ug_tup B.calm (ugs_cons (ug_name (i := 3) sc_turned.nd (by decide)) (ugs_cons (ug_name (i := 4) sc_turned.nd (by decide)) ugs_nil)))) (fun _ _ _ _ _ => uts_nil) (fun _ _ _ _ _ => (ue_tup (ua_cons (ue_dget (u1 B.blk.room) (ue_name 2) (ue_name 3)) (ua_cons (ue_name 4) ua_nil)) (few (Nat.le_of_ble_eq_true rfl)) (len_cons (len_cons len_nil)))))) ua_nil)) (ua_cons (ue_callTy cg_tuple (by rfl) T.n_tuple PyProof.Rows.boot_tuple (ua_cons (ue_v (uf_comp (own := [("_law_a", 5), ("_law_b", 6), ("_law_many", 7)]) B.calm sc_turned.nd (ui_any (ue_name 1)) (blkOk_by (N := N_turned) (sc := defScope s_turned) (by decide +kernel)) (fun _ _ _ _ _ => (ug_tup B.calm (ugs_cons (ug_name (i := 5) sc_turned.nd (by decide)) (ugs_cons (ug_name (i := 6) sc_turned.nd (by decide)) (ugs_cons (ug_name (i := 7) sc_turned.nd (by decide)) ugs_nil))))) (fun _ _ _ _ _ => uts_nil) (fun _ _ _ _ _ => (ue_tup (ua_cons (ue_name 6) (ua_cons (ue_name 5) (ua_cons (ue_name 7) ua_nil))) (few (Nat.le_of_ble_eq_true rfl)) (len_cons (len_cons (len_cons len_nil))))))) ua_nil)) ua_nil)) (few (Nat.le_of_ble_eq_true rfl)) (len_cons (len_cons len_nil))))))
theorem ok_grown (T : Tx K mg) (sm : ∃ o, base.get? sysModules = some o) : FnG P w K mg base 2 T.a_grown T.e_grown ["_law_deck_here", "_law_zones_here"] (spU K mg 2 c_grown) := by
  refine (fun_ok T.F_grown sm sc_grown f_grown fun cdv A outer s H E B => ?_)
  exact (us_cons (us_set (i := 2) sc_grown.nd (ue_fn B (ok_draw T B.sm) (by decide) T.g_draw T.F_draw.kp (b_draw_2 T) (ua_cons (ue_name 0) (ua_cons (ue_callB cg_len (by rfl) T.n_len PySem.boot_len (ua_cons (ue_name 1) ua_nil)) ua_nil)) (len_cons (len_cons len_nil))))
    (us_cons (us_asg (ue_ix (ue_name 1) (ue_name 2)) (ug_tup B.calm (ugs_cons (ug_name (i := 3) (vs := [3, 4]) sc_grown.nd (by decide)) (ugs_cons (ug_name (i := 4) (vs := [3, 4]) sc_grown.nd (by decide)) ugs_nil))))
    (us_cons (us_if (ut_w (uw_and (ut_cmp (og_eq B.room.units) (ue_fn B (ok_draw T B.sm) (by decide) T.g_draw T.F_draw.kp (b_draw_2 T) (ua_cons (ue_name 0) (ua_cons ue_int ua_nil)) (len_cons (len_cons len_nil))) ue_int) (uw_and1 (ut_cmp og_lt (ue_callB cg_len (by rfl) T.n_len PySem.boot_len (ua_cons (ue_name 1) ua_nil)) ue_int)))) (us_one (us_ret (ue_bin og_add (ue_bin og_add (ue_sl (ue_name 1) uo_none (uo_some (ue_name 2))) (ue_tup (ua_cons (ue_tup (ua_cons (ue_name 3) (ua_cons (ue_bin og_add ue_int (ue_fn B (ok_draw T B.sm) (by decide) T.g_draw T.F_draw.kp (b_draw_2 T) (ua_cons (ue_name 0) (ua_cons ue_int ua_nil)) (len_cons (len_cons len_nil)))) ua_nil)) (few (Nat.le_of_ble_eq_true rfl)) (len_cons (len_cons len_nil))) ua_nil) (few (Nat.le_of_ble_eq_true rfl)) (len_cons len_nil))) (ue_sl (ue_name 1) (uo_some (ue_name 2)) uo_none)))) us_nil)
    (us_one (us_ret (ue_bin og_add (ue_bin og_add (ue_sl (ue_name 1) uo_none (uo_some (ue_name 2))) (ue_tup (ua_cons (ue_tup (ua_cons (ue_name 3) (ua_cons (ue_callB (cg_min2 B.calm) (by rfl) T.n_min boot_min (ua_cons ue_int (ua_cons (ue_bin og_add (ue_bin og_add (ue_name 4) ue_int) (ue_fn B (ok_draw T B.sm) (by decide) T.g_draw T.F_draw.kp (b_draw_2 T) (ua_cons (ue_name 0) (ua_cons ue_int ua_nil)) (len_cons (len_cons len_nil)))) ua_nil))) ua_nil)) (few (Nat.le_of_ble_eq_true rfl)) (len_cons (len_cons len_nil))) ua_nil) (few (Nat.le_of_ble_eq_true rfl)) (len_cons len_nil))) (ue_sl (ue_name 1) (uo_some (ue_bin og_add (ue_name 2) ue_int)) uo_none)))))))
theorem ok_right (T : Tx K mg) (sm : ∃ o, base.get? sysModules = some o) : FnG P w K mg base 7 T.a_right T.e_right ["_law_deck_here", "_law_zones_here", "_law_parts"] (spU K mg 3 c_right) := by
  refine (fun_ok T.F_right sm sc_right f_right fun cdv A outer s H E B => ?_)
  exact (us_cons (us_set (i := 3) sc_right.nd (ue_fn B (ok_most T B.sm) (by decide) T.g_most T.F_most.kp (b_most_2 T) (ua_cons (ue_name 1) (ua_cons (ue_name 2) ua_nil)) (len_cons (len_cons len_nil))))
    (us_cons (us_asg (ue_fn B (ok_turned T B.sm) (by decide) T.g_turned T.F_turned.kp (b_turned_2 T) (ua_cons (ue_name 1) (ua_cons (ue_name 2) ua_nil)) (len_cons (len_cons len_nil))) (ug_tup B.calm (ugs_cons (ug_name (i := 4) (vs := [4, 5]) sc_right.nd (by decide)) (ugs_cons (ug_name (i := 5) (vs := [4, 5]) sc_right.nd (by decide)) ugs_nil))))
    (us_cons (us_if (ut_w (uw_or (ut_cmp (og_ne B.room.units) (ue_fn B (ok_told T B.sm) (by decide) T.g_told T.F_told.kp (b_told_2 T) (ua_cons (ue_name 1) (ua_cons (ue_name 2) ua_nil)) (len_cons (len_cons len_nil))) (ue_name 3)) (uw_or1 (ut_cmp (og_ne B.room.units) (ue_fn B (ok_told T B.sm) (by decide) T.g_told T.F_told.kp (b_told_2 T) (ua_cons (ue_revA (ue_name 1)) (ua_cons (ue_name 2) ua_nil)) (len_cons (len_cons len_nil))) (ue_name 3))))) (us_one (us_ret ue_bl)) us_nil)
    (us_cons (us_if (ut_cmp og_gt (ue_callB (cg_sum B.calm) (by rfl) T.n_sum boot_sum (ua_cons (ue_v (uf_comp (own := [("_law_grain", 11), ("_law_length", 12)]) B.calm sc_right.nd (ui_any (ue_name 1)) (blkOk_by (N := N_right) (sc := defScope s_right) (by decide +kernel)) (fun _ _ _ _ _ => (ug_tup B.calm (ugs_cons (ug_name (i := 11) sc_right.nd (by decide)) (ugs_cons (ug_name (i := 12) sc_right.nd (by decide)) ugs_nil)))) (fun _ _ _ _ _ => uts_nil) (fun _ _ _ _ _ => (ue_name 12)))) ua_nil)) ue_int) (us_one (us_ret ue_bl)) us_nil)
    (us_cons (us_if (ut_cmp (og_ne B.room.units) (ue_fn B (ok_told T B.sm) (by decide) T.g_told T.F_told.kp (b_told_2 T) (ua_cons (ue_name 4) (ua_cons (ue_name 5) ua_nil)) (len_cons (len_cons len_nil))) (ue_name 3)) (us_one (us_ret ue_bl)) us_nil)
    (us_cons (us_if (ut_cmp og_lt (ue_fn B (ok_told T B.sm) (by decide) T.g_told T.F_told.kp (b_told_2 T) (ua_cons (ue_fn B (ok_grown T B.sm) (by decide) T.g_grown T.F_grown.kp (b_grown_2 T) (ua_cons (ue_name 0) (ua_cons (ue_name 1) ua_nil)) (len_cons (len_cons len_nil))) (ua_cons (ue_name 2) ua_nil)) (len_cons (len_cons len_nil))) (ue_name 3)) (us_one (us_ret ue_bl)) us_nil)
    (us_cons (us_set (i := 6) sc_right.nd (ue_fn B (ok_draw T B.sm) (by decide) T.g_draw T.F_draw.kp (b_draw_2 T) (ua_cons (ue_name 0) (ua_cons ue_int ua_nil)) (len_cons (len_cons len_nil))))
    (us_cons (us_asg (ue_ix (ue_name 2) (ue_name 6)) (ug_tup B.calm (ugs_cons (ug_name (i := 7) (vs := [7, 8, 9]) sc_right.nd (by decide)) (ugs_cons (ug_name (i := 8) (vs := [7, 8, 9]) sc_right.nd (by decide)) (ugs_cons (ug_name (i := 9) (vs := [7, 8, 9]) sc_right.nd (by decide)) ugs_nil)))))
    (us_cons (us_set (i := 10) sc_right.nd (ue_bin og_add (ue_bin og_add (ue_sl (ue_name 2) uo_none (uo_some (ue_name 6))) (ue_tup (ua_cons (ue_tup (ua_cons (ue_name 7) (ua_cons (ue_name 8) (ua_cons (ue_callB (cg_min2 B.calm) (by rfl) T.n_min boot_min (ua_cons ue_int (ua_cons (ue_bin og_add (ue_name 9) ue_int) ua_nil))) ua_nil))) (few (Nat.le_of_ble_eq_true rfl)) (len_cons (len_cons (len_cons len_nil)))) ua_nil) (few (Nat.le_of_ble_eq_true rfl)) (len_cons len_nil))) (ue_sl (ue_name 2) (uo_some (ue_bin og_add (ue_name 6) ue_int)) uo_none)))
    (us_one (us_ret (ue_and (ue_cmp og_le (ue_fn B (ok_told T B.sm) (by decide) T.g_told T.F_told.kp (b_told_2 T) (ua_cons (ue_name 1) (ua_cons (ue_name 10) ua_nil)) (len_cons (len_cons len_nil))) (ue_name 3)) (ue_one (ue_cmp (og_eq B.room.units) (ue_fn B (ok_told T B.sm) (by decide) T.g_told T.F_told.kp (b_told_2 T) (ua_cons (ue_tup (ua_cons (ue_tup (ua_cons ue_str (ua_cons ue_int ua_nil)) (few (Nat.le_of_ble_eq_true rfl)) (len_cons (len_cons len_nil))) (ua_cons (ue_tup (ua_cons ue_str (ua_cons ue_int ua_nil)) (few (Nat.le_of_ble_eq_true rfl)) (len_cons (len_cons len_nil))) ua_nil)) (few (Nat.le_of_ble_eq_true rfl)) (len_cons (len_cons len_nil))) (ua_cons (ue_name 2) ua_nil)) (len_cons (len_cons len_nil))) ue_int))))))))))))))
theorem ok_law (T : Tx K mg) (sm : ∃ o, base.get? sysModules = some o) : FnG P w K mg base 8 T.a_law T.e_law ["_law_script"] (spU K mg 1 c_law) := by
  refine (fun_ok T.F_law sm sc_law f_law fun cdv A outer s H E B => ?_)
  exact (us_cons (us_set (i := 1) sc_law.nd (ue_fn B (ok_deck T B.sm) (by decide) T.g_deck T.F_deck.kp (b_deck_1 T) (ua_cons (ue_name 0) ua_nil) (len_cons len_nil)))
    (us_cons (us_for (vs := [2]) B.po B.calm (ui_range1 (by rfl) T.n_range (ua_cons ue_int ua_nil)) (ug_name (i := 2) (vs := [2]) sc_law.nd (by decide))
    (us_cons (us_par (i := 3) (j := 4) B.calm sc_law.nd (by decide) (ua_cons (ue_fn B (ok_zones T B.sm) (by decide) T.g_zones T.F_zones.kp (b_zones_1 T) (ua_cons (ue_name 1) ua_nil) (len_cons len_nil)) (ua_cons (ue_fn B (ok_table T B.sm) (by decide) T.g_table T.F_table.kp (b_table_1 T) (ua_cons (ue_name 1) ua_nil) (len_cons len_nil)) ua_nil)) (by rfl))
    (us_cons (us_if (ut_w (uw_and (ut_cmp og_gt (ue_name 2) ue_int) (uw_and1 (ut_cmp og_gt (ue_callB (cg_sum B.calm) (by rfl) T.n_sum boot_sum (ua_cons (ue_v (uf_comp (own := [("_law_grain", 5), ("_law_length", 6)]) B.calm sc_law.nd (ui_any (ue_name 3)) (blkOk_by (N := N_law) (sc := defScope s_law) (by decide +kernel)) (fun _ _ _ _ _ => (ug_tup B.calm (ugs_cons (ug_name (i := 5) sc_law.nd (by decide)) (ugs_cons (ug_name (i := 6) sc_law.nd (by decide)) ugs_nil)))) (fun _ _ _ _ _ => uts_nil) (fun _ _ _ _ _ => (ue_name 6)))) ua_nil)) ue_int)))) (us_one (us_set (i := 3) sc_law.nd (ue_sl (ue_name 3) uo_none (uo_some ue_int)))) us_nil)
    (us_one (us_if (ut_not (ut_truth (ue_fn B (ok_right T B.sm) (by decide) T.g_right T.F_right.kp (b_right_3 T) (ua_cons (ue_name 1) (ua_cons (ue_name 3) (ua_cons (ue_name 4) ua_nil))) (len_cons (len_cons (len_cons len_nil)))))) (us_one (us_ret ue_bl)) us_nil)))))
    (us_one (us_ret ue_bl))))
end
theorem all_mk {P : Program} {w : World} {K : PySem.W.Frag} {h : Heap} {mg : Str → Option Value} {fa : Addr} (X : K.In h) (Gn : h.Ns mainGlobals mg) (hfa : mg "law" = some (.ref fa))
    {C_Skin : Addr}
    {p_part_length : Addr} {o1_part_length o2_part_length : Option Addr} {o3_part_length : Array (Option Value)} {w1_part_length w2_part_length w3_part_length w4_part_length w5_part_length w6_part_length : Value}
    {p_zone_cuts : Addr} {o1_zone_cuts o2_zone_cuts : Option Addr} {o3_zone_cuts : Array (Option Value)} {w1_zone_cuts w2_zone_cuts w3_zone_cuts w4_zone_cuts w5_zone_cuts w6_zone_cuts : Value}
    {p_together : Addr} {o1_together o2_together : Option Addr} {o3_together : Array (Option Value)} {w1_together w2_together w3_together w4_together w5_together w6_together : Value}
    {p_is_beneath : Addr} {o1_is_beneath o2_is_beneath : Option Addr} {o3_is_beneath : Array (Option Value)} {w1_is_beneath w2_is_beneath w3_is_beneath w4_is_beneath w5_is_beneath w6_is_beneath : Value}
    {p_is_covered : Addr} {o1_is_covered o2_is_covered : Option Addr} {o3_is_covered : Array (Option Value)} {w1_is_covered w2_is_covered w3_is_covered w4_is_covered w5_is_covered w6_is_covered : Value}
    {p_greatest : Addr} {o1_greatest o2_greatest : Option Addr} {o3_greatest : Array (Option Value)} {w1_greatest w2_greatest w3_greatest w4_greatest w5_greatest w6_greatest : Value}
    {p_pairs_for : Addr} {o1_pairs_for o2_pairs_for : Option Addr} {o3_pairs_for : Array (Option Value)} {w1_pairs_for w2_pairs_for w3_pairs_for w4_pairs_for w5_pairs_for w6_pairs_for : Value}
    {p_ways_behind : Addr} {o1_ways_behind o2_ways_behind : Option Addr} {o3_ways_behind : Array (Option Value)} {w1_ways_behind w2_ways_behind w3_ways_behind w4_ways_behind w5_ways_behind w6_ways_behind : Value}
    {p_whole_cut : Addr} {o1_whole_cut o2_whole_cut : Option Addr} {o3_whole_cut : Array (Option Value)} {w1_whole_cut w2_whole_cut w3_whole_cut w4_whole_cut w5_whole_cut w6_whole_cut : Value}
    {p_most_pairs : Addr} {o1_most_pairs o2_most_pairs : Option Addr} {o3_most_pairs : Array (Option Value)} {w1_most_pairs w2_most_pairs w3_most_pairs w4_most_pairs w5_most_pairs w6_most_pairs : Value}
    {p_sign_of : Addr} {o1_sign_of o2_sign_of : Option Addr} {o3_sign_of : Array (Option Value)} {w1_sign_of w2_sign_of w3_sign_of w4_sign_of w5_sign_of w6_sign_of : Value}
    {p_zone_word : Addr} {o1_zone_word o2_zone_word : Option Addr} {o3_zone_word : Array (Option Value)} {w1_zone_word w2_zone_word w3_zone_word w4_zone_word w5_zone_word w6_zone_word : Value}
    {p_deck : Addr} {o1_deck o2_deck : Option Addr} {o3_deck : Array (Option Value)} {w1_deck w2_deck w3_deck w4_deck w5_deck w6_deck : Value}
    {p_draw : Addr} {o1_draw o2_draw : Option Addr} {o3_draw : Array (Option Value)} {w1_draw w2_draw w3_draw w4_draw w5_draw w6_draw : Value}
    {p_pick : Addr} {o1_pick o2_pick : Option Addr} {o3_pick : Array (Option Value)} {w1_pick w2_pick w3_pick w4_pick w5_pick w6_pick : Value}
    {p_lengths : Addr} {o1_lengths o2_lengths : Option Addr} {o3_lengths : Array (Option Value)} {w1_lengths w2_lengths w3_lengths w4_lengths w5_lengths w6_lengths : Value}
    {p_table : Addr} {o1_table o2_table : Option Addr} {o3_table : Array (Option Value)} {w1_table w2_table w3_table w4_table w5_table w6_table : Value}
    {p_zones : Addr} {o1_zones o2_zones : Option Addr} {o3_zones : Array (Option Value)} {w1_zones w2_zones w3_zones w4_zones w5_zones w6_zones : Value}
    {p_fits : Addr} {o1_fits o2_fits : Option Addr} {o3_fits : Array (Option Value)} {w1_fits w2_fits w3_fits w4_fits w5_fits w6_fits : Value}
    {p_counts : Addr} {o1_counts o2_counts : Option Addr} {o3_counts : Array (Option Value)} {w1_counts w2_counts w3_counts w4_counts w5_counts w6_counts : Value}
    {p_given : Addr} {o1_given o2_given : Option Addr} {o3_given : Array (Option Value)} {w1_given w2_given w3_given w4_given w5_given w6_given : Value}
    {p_added : Addr} {o1_added o2_added : Option Addr} {o3_added : Array (Option Value)} {w1_added w2_added w3_added w4_added w5_added w6_added : Value}
    {p_least_rows : Addr} {o1_least_rows o2_least_rows : Option Addr} {o3_least_rows : Array (Option Value)} {w1_least_rows w2_least_rows w3_least_rows w4_least_rows w5_least_rows w6_least_rows : Value}
    {p_fronts : Addr} {o1_fronts o2_fronts : Option Addr} {o3_fronts : Array (Option Value)} {w1_fronts w2_fronts w3_fronts w4_fronts w5_fronts w6_fronts : Value}
    {p_most : Addr} {o1_most o2_most : Option Addr} {o3_most : Array (Option Value)} {w1_most w2_most w3_most w4_most w5_most w6_most : Value}
    {p_Skin_init : Addr} {o1_Skin_init o2_Skin_init : Option Addr} {o3_Skin_init : Array (Option Value)} {w1_Skin_init w2_Skin_init w3_Skin_init w4_Skin_init w5_Skin_init w6_Skin_init : Value}
    {q_Skin_init : Addr} {r1_Skin_init : Option Addr} {r2_Skin_init : Array (Option Value)} {r3_Skin_init : Nat} {t0_Skin_init t1_Skin_init : Tok}
    {p_told : Addr} {o1_told o2_told : Option Addr} {o3_told : Array (Option Value)} {w1_told w2_told w3_told w4_told w5_told w6_told : Value}
    {p_turned : Addr} {o1_turned o2_turned : Option Addr} {o3_turned : Array (Option Value)} {w1_turned w2_turned w3_turned w4_turned w5_turned w6_turned : Value}
    {p_grown : Addr} {o1_grown o2_grown : Option Addr} {o3_grown : Array (Option Value)} {w1_grown w2_grown w3_grown w4_grown w5_grown w6_grown : Value}
    {p_right : Addr} {o1_right o2_right : Option Addr} {o3_right : Array (Option Value)} {w1_right w2_right w3_right w4_right w5_right w6_right : Value}
    {p_law : Addr} {o1_law o2_law : Option Addr} {o3_law : Array (Option Value)} {w1_law w2_law w3_law w4_law w5_law w6_law : Value}
    {t_ALONG : Tok}
    (haC_Skin : PySem.W.nsIn K mainGlobals "Skin" = some (some (.ref C_Skin)))
    (hpg_Skin : PySem.W.plainGet K C_Skin Str.empty = true)
    (hhd_Skin : PySem.W.hasDictIn K C_Skin = true)
    (hpo_Skin : PySem.W.plainOver K C_Skin = true)
    (hsa_Skin : PySem.W.findIn K (.ref C_Skin) "__setattr__" = some (some (.builtin "object.__setattr__")))
    (hmk_Skin : PySem.W.makesIn K C_Skin = true)
    (hkC_Skin : PySem.W.keepIn K (.ref C_Skin) = true)
    (hnf_Skin_zones : PySem.W.findIn K (.ref C_Skin) "zones" = some none)
    (hnf_Skin_stretch : PySem.W.findIn K (.ref C_Skin) "stretch" = some none)
    (hnf_Skin_grade : PySem.W.findIn K (.ref C_Skin) "grade" = some none)
    (ha_part_length : PySem.W.nsIn K mainGlobals "part_length" = some (some (.ref p_part_length)))
    (hl_part_length : K.lookup p_part_length = some ⟨w1_part_length, o1_part_length, .func (PySem.W.fnOf "part_length" "part_length" (defArgs s_part_length) (defBody s_part_length) (defScope s_part_length) .none w2_part_length w3_part_length w4_part_length o2_part_length w5_part_length w6_part_length), o3_part_length⟩)
    (hc_part_length : PySem.W.codeIn K w5_part_length "part_length" = true)
    (hk_part_length : PySem.W.keepIn K (.ref p_part_length) = true)
    (ha_zone_cuts : PySem.W.nsIn K mainGlobals "zone_cuts" = some (some (.ref p_zone_cuts)))
    (hl_zone_cuts : K.lookup p_zone_cuts = some ⟨w1_zone_cuts, o1_zone_cuts, .func (PySem.W.fnOf "zone_cuts" "zone_cuts" (defArgs s_zone_cuts) (defBody s_zone_cuts) (defScope s_zone_cuts) .none w2_zone_cuts w3_zone_cuts w4_zone_cuts o2_zone_cuts w5_zone_cuts w6_zone_cuts), o3_zone_cuts⟩)
    (hc_zone_cuts : PySem.W.codeIn K w5_zone_cuts "zone_cuts" = true)
    (hk_zone_cuts : PySem.W.keepIn K (.ref p_zone_cuts) = true)
    (ha_together : PySem.W.nsIn K mainGlobals "together" = some (some (.ref p_together)))
    (hl_together : K.lookup p_together = some ⟨w1_together, o1_together, .func (PySem.W.fnOf "together" "together" (defArgs s_together) (defBody s_together) (defScope s_together) .none w2_together w3_together w4_together o2_together w5_together w6_together), o3_together⟩)
    (hc_together : PySem.W.codeIn K w5_together "together" = true)
    (hk_together : PySem.W.keepIn K (.ref p_together) = true)
    (ha_is_beneath : PySem.W.nsIn K mainGlobals "is_beneath" = some (some (.ref p_is_beneath)))
    (hl_is_beneath : K.lookup p_is_beneath = some ⟨w1_is_beneath, o1_is_beneath, .func (PySem.W.fnOf "is_beneath" "is_beneath" (defArgs s_is_beneath) (defBody s_is_beneath) (defScope s_is_beneath) .none w2_is_beneath w3_is_beneath w4_is_beneath o2_is_beneath w5_is_beneath w6_is_beneath), o3_is_beneath⟩)
    (hc_is_beneath : PySem.W.codeIn K w5_is_beneath "is_beneath" = true)
    (hk_is_beneath : PySem.W.keepIn K (.ref p_is_beneath) = true)
    (ha_is_covered : PySem.W.nsIn K mainGlobals "is_covered" = some (some (.ref p_is_covered)))
    (hl_is_covered : K.lookup p_is_covered = some ⟨w1_is_covered, o1_is_covered, .func (PySem.W.fnOf "is_covered" "is_covered" (defArgs s_is_covered) (defBody s_is_covered) (defScope s_is_covered) .none w2_is_covered w3_is_covered w4_is_covered o2_is_covered w5_is_covered w6_is_covered), o3_is_covered⟩)
    (hc_is_covered : PySem.W.codeIn K w5_is_covered "is_covered" = true)
    (hk_is_covered : PySem.W.keepIn K (.ref p_is_covered) = true)
    (ha_greatest : PySem.W.nsIn K mainGlobals "greatest" = some (some (.ref p_greatest)))
    (hl_greatest : K.lookup p_greatest = some ⟨w1_greatest, o1_greatest, .func (PySem.W.fnOf "greatest" "greatest" (defArgs s_greatest) (defBody s_greatest) (defScope s_greatest) .none w2_greatest w3_greatest w4_greatest o2_greatest w5_greatest w6_greatest), o3_greatest⟩)
    (hc_greatest : PySem.W.codeIn K w5_greatest "greatest" = true)
    (hk_greatest : PySem.W.keepIn K (.ref p_greatest) = true)
    (ha_pairs_for : PySem.W.nsIn K mainGlobals "pairs_for" = some (some (.ref p_pairs_for)))
    (hl_pairs_for : K.lookup p_pairs_for = some ⟨w1_pairs_for, o1_pairs_for, .func (PySem.W.fnOf "pairs_for" "pairs_for" (defArgs s_pairs_for) (defBody s_pairs_for) (defScope s_pairs_for) .none w2_pairs_for w3_pairs_for w4_pairs_for o2_pairs_for w5_pairs_for w6_pairs_for), o3_pairs_for⟩)
    (hc_pairs_for : PySem.W.codeIn K w5_pairs_for "pairs_for" = true)
    (hk_pairs_for : PySem.W.keepIn K (.ref p_pairs_for) = true)
    (ha_ways_behind : PySem.W.nsIn K mainGlobals "ways_behind" = some (some (.ref p_ways_behind)))
    (hl_ways_behind : K.lookup p_ways_behind = some ⟨w1_ways_behind, o1_ways_behind, .func (PySem.W.fnOf "ways_behind" "ways_behind" (defArgs s_ways_behind) (defBody s_ways_behind) (defScope s_ways_behind) .none w2_ways_behind w3_ways_behind w4_ways_behind o2_ways_behind w5_ways_behind w6_ways_behind), o3_ways_behind⟩)
    (hc_ways_behind : PySem.W.codeIn K w5_ways_behind "ways_behind" = true)
    (hk_ways_behind : PySem.W.keepIn K (.ref p_ways_behind) = true)
    (ha_whole_cut : PySem.W.nsIn K mainGlobals "whole_cut" = some (some (.ref p_whole_cut)))
    (hl_whole_cut : K.lookup p_whole_cut = some ⟨w1_whole_cut, o1_whole_cut, .func (PySem.W.fnOf "whole_cut" "whole_cut" (defArgs s_whole_cut) (defBody s_whole_cut) (defScope s_whole_cut) .none w2_whole_cut w3_whole_cut w4_whole_cut o2_whole_cut w5_whole_cut w6_whole_cut), o3_whole_cut⟩)
    (hc_whole_cut : PySem.W.codeIn K w5_whole_cut "whole_cut" = true)
    (hk_whole_cut : PySem.W.keepIn K (.ref p_whole_cut) = true)
    (ha_most_pairs : PySem.W.nsIn K mainGlobals "most_pairs" = some (some (.ref p_most_pairs)))
    (hl_most_pairs : K.lookup p_most_pairs = some ⟨w1_most_pairs, o1_most_pairs, .func (PySem.W.fnOf "most_pairs" "most_pairs" (defArgs s_most_pairs) (defBody s_most_pairs) (defScope s_most_pairs) .none w2_most_pairs w3_most_pairs w4_most_pairs o2_most_pairs w5_most_pairs w6_most_pairs), o3_most_pairs⟩)
    (hc_most_pairs : PySem.W.codeIn K w5_most_pairs "most_pairs" = true)
    (hk_most_pairs : PySem.W.keepIn K (.ref p_most_pairs) = true)
    (ha_sign_of : PySem.W.nsIn K mainGlobals "sign_of" = some (some (.ref p_sign_of)))
    (hl_sign_of : K.lookup p_sign_of = some ⟨w1_sign_of, o1_sign_of, .func (PySem.W.fnOf "sign_of" "sign_of" (defArgs s_sign_of) (defBody s_sign_of) (defScope s_sign_of) .none w2_sign_of w3_sign_of w4_sign_of o2_sign_of w5_sign_of w6_sign_of), o3_sign_of⟩)
    (hc_sign_of : PySem.W.codeIn K w5_sign_of "sign_of" = true)
    (hk_sign_of : PySem.W.keepIn K (.ref p_sign_of) = true)
    (ha_zone_word : PySem.W.nsIn K mainGlobals "zone_word" = some (some (.ref p_zone_word)))
    (hl_zone_word : K.lookup p_zone_word = some ⟨w1_zone_word, o1_zone_word, .func (PySem.W.fnOf "zone_word" "zone_word" (defArgs s_zone_word) (defBody s_zone_word) (defScope s_zone_word) .none w2_zone_word w3_zone_word w4_zone_word o2_zone_word w5_zone_word w6_zone_word), o3_zone_word⟩)
    (hc_zone_word : PySem.W.codeIn K w5_zone_word "zone_word" = true)
    (hk_zone_word : PySem.W.keepIn K (.ref p_zone_word) = true)
    (ha_deck : PySem.W.nsIn K mainGlobals "_law_deck" = some (some (.ref p_deck)))
    (hl_deck : K.lookup p_deck = some ⟨w1_deck, o1_deck, .func (PySem.W.fnOf "_law_deck" "_law_deck" (defArgs s_deck) (defBody s_deck) (defScope s_deck) .none w2_deck w3_deck w4_deck o2_deck w5_deck w6_deck), o3_deck⟩)
    (hc_deck : PySem.W.codeIn K w5_deck "_law_deck" = true)
    (hk_deck : PySem.W.keepIn K (.ref p_deck) = true)
    (ha_draw : PySem.W.nsIn K mainGlobals "_law_draw" = some (some (.ref p_draw)))
    (hl_draw : K.lookup p_draw = some ⟨w1_draw, o1_draw, .func (PySem.W.fnOf "_law_draw" "_law_draw" (defArgs s_draw) (defBody s_draw) (defScope s_draw) .none w2_draw w3_draw w4_draw o2_draw w5_draw w6_draw), o3_draw⟩)
    (hc_draw : PySem.W.codeIn K w5_draw "_law_draw" = true)
    (hk_draw : PySem.W.keepIn K (.ref p_draw) = true)
    (ha_pick : PySem.W.nsIn K mainGlobals "_law_pick" = some (some (.ref p_pick)))
    (hl_pick : K.lookup p_pick = some ⟨w1_pick, o1_pick, .func (PySem.W.fnOf "_law_pick" "_law_pick" (defArgs s_pick) (defBody s_pick) (defScope s_pick) .none w2_pick w3_pick w4_pick o2_pick w5_pick w6_pick), o3_pick⟩)
    (hc_pick : PySem.W.codeIn K w5_pick "_law_pick" = true)
    (hk_pick : PySem.W.keepIn K (.ref p_pick) = true)
    (ha_lengths : PySem.W.nsIn K mainGlobals "_law_lengths" = some (some (.ref p_lengths)))
    (hl_lengths : K.lookup p_lengths = some ⟨w1_lengths, o1_lengths, .func (PySem.W.fnOf "_law_lengths" "_law_lengths" (defArgs s_lengths) (defBody s_lengths) (defScope s_lengths) .none w2_lengths w3_lengths w4_lengths o2_lengths w5_lengths w6_lengths), o3_lengths⟩)
    (hc_lengths : PySem.W.codeIn K w5_lengths "_law_lengths" = true)
    (hk_lengths : PySem.W.keepIn K (.ref p_lengths) = true)
    (ha_table : PySem.W.nsIn K mainGlobals "_law_table" = some (some (.ref p_table)))
    (hl_table : K.lookup p_table = some ⟨w1_table, o1_table, .func (PySem.W.fnOf "_law_table" "_law_table" (defArgs s_table) (defBody s_table) (defScope s_table) .none w2_table w3_table w4_table o2_table w5_table w6_table), o3_table⟩)
    (hc_table : PySem.W.codeIn K w5_table "_law_table" = true)
    (hk_table : PySem.W.keepIn K (.ref p_table) = true)
    (ha_zones : PySem.W.nsIn K mainGlobals "_law_zones" = some (some (.ref p_zones)))
    (hl_zones : K.lookup p_zones = some ⟨w1_zones, o1_zones, .func (PySem.W.fnOf "_law_zones" "_law_zones" (defArgs s_zones) (defBody s_zones) (defScope s_zones) .none w2_zones w3_zones w4_zones o2_zones w5_zones w6_zones), o3_zones⟩)
    (hc_zones : PySem.W.codeIn K w5_zones "_law_zones" = true)
    (hk_zones : PySem.W.keepIn K (.ref p_zones) = true)
    (ha_fits : PySem.W.nsIn K mainGlobals "_law_fits" = some (some (.ref p_fits)))
    (hl_fits : K.lookup p_fits = some ⟨w1_fits, o1_fits, .func (PySem.W.fnOf "_law_fits" "_law_fits" (defArgs s_fits) (defBody s_fits) (defScope s_fits) .none w2_fits w3_fits w4_fits o2_fits w5_fits w6_fits), o3_fits⟩)
    (hc_fits : PySem.W.codeIn K w5_fits "_law_fits" = true)
    (hk_fits : PySem.W.keepIn K (.ref p_fits) = true)
    (ha_counts : PySem.W.nsIn K mainGlobals "_law_counts" = some (some (.ref p_counts)))
    (hl_counts : K.lookup p_counts = some ⟨w1_counts, o1_counts, .func (PySem.W.fnOf "_law_counts" "_law_counts" (defArgs s_counts) (defBody s_counts) (defScope s_counts) .none w2_counts w3_counts w4_counts o2_counts w5_counts w6_counts), o3_counts⟩)
    (hc_counts : PySem.W.codeIn K w5_counts "_law_counts" = true)
    (hk_counts : PySem.W.keepIn K (.ref p_counts) = true)
    (ha_given : PySem.W.nsIn K mainGlobals "_law_given" = some (some (.ref p_given)))
    (hl_given : K.lookup p_given = some ⟨w1_given, o1_given, .func (PySem.W.fnOf "_law_given" "_law_given" (defArgs s_given) (defBody s_given) (defScope s_given) .none w2_given w3_given w4_given o2_given w5_given w6_given), o3_given⟩)
    (hc_given : PySem.W.codeIn K w5_given "_law_given" = true)
    (hk_given : PySem.W.keepIn K (.ref p_given) = true)
    (ha_added : PySem.W.nsIn K mainGlobals "_law_added" = some (some (.ref p_added)))
    (hl_added : K.lookup p_added = some ⟨w1_added, o1_added, .func (PySem.W.fnOf "_law_added" "_law_added" (defArgs s_added) (defBody s_added) (defScope s_added) .none w2_added w3_added w4_added o2_added w5_added w6_added), o3_added⟩)
    (hc_added : PySem.W.codeIn K w5_added "_law_added" = true)
    (hk_added : PySem.W.keepIn K (.ref p_added) = true)
    (ha_least_rows : PySem.W.nsIn K mainGlobals "_law_least_rows" = some (some (.ref p_least_rows)))
    (hl_least_rows : K.lookup p_least_rows = some ⟨w1_least_rows, o1_least_rows, .func (PySem.W.fnOf "_law_least_rows" "_law_least_rows" (defArgs s_least_rows) (defBody s_least_rows) (defScope s_least_rows) .none w2_least_rows w3_least_rows w4_least_rows o2_least_rows w5_least_rows w6_least_rows), o3_least_rows⟩)
    (hc_least_rows : PySem.W.codeIn K w5_least_rows "_law_least_rows" = true)
    (hk_least_rows : PySem.W.keepIn K (.ref p_least_rows) = true)
    (ha_fronts : PySem.W.nsIn K mainGlobals "_law_fronts" = some (some (.ref p_fronts)))
    (hl_fronts : K.lookup p_fronts = some ⟨w1_fronts, o1_fronts, .func (PySem.W.fnOf "_law_fronts" "_law_fronts" (defArgs s_fronts) (defBody s_fronts) (defScope s_fronts) .none w2_fronts w3_fronts w4_fronts o2_fronts w5_fronts w6_fronts), o3_fronts⟩)
    (hc_fronts : PySem.W.codeIn K w5_fronts "_law_fronts" = true)
    (hk_fronts : PySem.W.keepIn K (.ref p_fronts) = true)
    (ha_most : PySem.W.nsIn K mainGlobals "_law_most" = some (some (.ref p_most)))
    (hl_most : K.lookup p_most = some ⟨w1_most, o1_most, .func (PySem.W.fnOf "_law_most" "_law_most" (defArgs s_most) (defBody s_most) (defScope s_most) .none w2_most w3_most w4_most o2_most w5_most w6_most), o3_most⟩)
    (hc_most : PySem.W.codeIn K w5_most "_law_most" = true)
    (hk_most : PySem.W.keepIn K (.ref p_most) = true)
    (ha_Skin_init : PySem.W.findIn K (.ref C_Skin) "__init__" = some (some (.ref p_Skin_init)))
    (hi_Skin_init : PySem.W.isFn K (.ref p_Skin_init) = true)
    (hl_Skin_init : K.lookup p_Skin_init = some ⟨w1_Skin_init, o1_Skin_init, .func (PySem.W.fnOf "__init__" "Skin.__init__" (defArgs s_Skin_init) (defBody s_Skin_init) (defScope s_Skin_init) (.ref q_Skin_init) w2_Skin_init w3_Skin_init w4_Skin_init o2_Skin_init w5_Skin_init w6_Skin_init), o3_Skin_init⟩)
    (hd_Skin_init : K.lookup q_Skin_init = some ⟨.type "tuple", r1_Skin_init, .seq #[(.int 0 t0_Skin_init), (.int 0 t1_Skin_init)] r3_Skin_init, r2_Skin_init⟩)
    (hc_Skin_init : PySem.W.codeIn K w5_Skin_init "Skin.__init__" = true)
    (hk_Skin_init : PySem.W.keepIn K (.ref p_Skin_init) = true)
    (ha_told : PySem.W.nsIn K mainGlobals "_law_told" = some (some (.ref p_told)))
    (hl_told : K.lookup p_told = some ⟨w1_told, o1_told, .func (PySem.W.fnOf "_law_told" "_law_told" (defArgs s_told) (defBody s_told) (defScope s_told) .none w2_told w3_told w4_told o2_told w5_told w6_told), o3_told⟩)
    (hc_told : PySem.W.codeIn K w5_told "_law_told" = true)
    (hk_told : PySem.W.keepIn K (.ref p_told) = true)
    (ha_turned : PySem.W.nsIn K mainGlobals "_law_turned" = some (some (.ref p_turned)))
    (hl_turned : K.lookup p_turned = some ⟨w1_turned, o1_turned, .func (PySem.W.fnOf "_law_turned" "_law_turned" (defArgs s_turned) (defBody s_turned) (defScope s_turned) .none w2_turned w3_turned w4_turned o2_turned w5_turned w6_turned), o3_turned⟩)
    (hc_turned : PySem.W.codeIn K w5_turned "_law_turned" = true)
    (hk_turned : PySem.W.keepIn K (.ref p_turned) = true)
    (ha_grown : PySem.W.nsIn K mainGlobals "_law_grown" = some (some (.ref p_grown)))
    (hl_grown : K.lookup p_grown = some ⟨w1_grown, o1_grown, .func (PySem.W.fnOf "_law_grown" "_law_grown" (defArgs s_grown) (defBody s_grown) (defScope s_grown) .none w2_grown w3_grown w4_grown o2_grown w5_grown w6_grown), o3_grown⟩)
    (hc_grown : PySem.W.codeIn K w5_grown "_law_grown" = true)
    (hk_grown : PySem.W.keepIn K (.ref p_grown) = true)
    (ha_right : PySem.W.nsIn K mainGlobals "_law_right" = some (some (.ref p_right)))
    (hl_right : K.lookup p_right = some ⟨w1_right, o1_right, .func (PySem.W.fnOf "_law_right" "_law_right" (defArgs s_right) (defBody s_right) (defScope s_right) .none w2_right w3_right w4_right o2_right w5_right w6_right), o3_right⟩)
    (hc_right : PySem.W.codeIn K w5_right "_law_right" = true)
    (hk_right : PySem.W.keepIn K (.ref p_right) = true)
    (ha_law : PySem.W.nsIn K mainGlobals "law" = some (some (.ref p_law)))
    (hl_law : K.lookup p_law = some ⟨w1_law, o1_law, .func (PySem.W.fnOf "law" "law" (defArgs s_law) (defBody s_law) (defScope s_law) .none w2_law w3_law w4_law o2_law w5_law w6_law), o3_law⟩)
    (hc_law : PySem.W.codeIn K w5_law "law" = true)
    (hk_law : PySem.W.keepIn K (.ref p_law) = true)
    (hz_all : PySem.W.nsIn K mainGlobals "all" = some none)
    (hz_dict : PySem.W.nsIn K mainGlobals "dict" = some none)
    (hz_int : PySem.W.nsIn K mainGlobals "int" = some none)
    (hz_len : PySem.W.nsIn K mainGlobals "len" = some none)
    (hz_list : PySem.W.nsIn K mainGlobals "list" = some none)
    (hz_max : PySem.W.nsIn K mainGlobals "max" = some none)
    (hz_min : PySem.W.nsIn K mainGlobals "min" = some none)
    (hz_range : PySem.W.nsIn K mainGlobals "range" = some none)
    (hz_reversed : PySem.W.nsIn K mainGlobals "reversed" = some none)
    (hz_set : PySem.W.nsIn K mainGlobals "set" = some none)
    (hz_sorted : PySem.W.nsIn K mainGlobals "sorted" = some none)
    (hz_str : PySem.W.nsIn K mainGlobals "str" = some none)
    (hz_sum : PySem.W.nsIn K mainGlobals "sum" = some none)
    (hz_tuple : PySem.W.nsIn K mainGlobals "tuple" = some none)
    (hz_zip : PySem.W.nsIn K mainGlobals "zip" = some none)
    (hm_ALONG : PySem.W.nsIn K mainGlobals "ALONG" = some (some (.str "along" t_ALONG)))
    : ∃ fd : FuncData, (∀ (s : Shared) (v : Value), BindsTo s fd ⟨[v], []⟩ [("_law_script", v)]) ∧ ∀ base : Heap, K.In base → base.Ns mainGlobals mg → (∃ o, base.get? sysModules = some o) → FnG P w K mg base 8 fa fd ["_law_script"] (spU K mg 1 c_law) := by
  have e := hfa.symm.trans (PySem.W.mg_of X Gn ha_law)
  cases e
  let T : Tx K mg := {
    a_part_length := p_part_length
    e_part_length := _
    F_part_length := fun_mk (st := s_part_length) hl_part_length hc_part_length hk_part_length
    g_part_length := PySem.W.mg_of X Gn ha_part_length
    a_zone_cuts := p_zone_cuts
    e_zone_cuts := _
    F_zone_cuts := fun_mk (st := s_zone_cuts) hl_zone_cuts hc_zone_cuts hk_zone_cuts
    g_zone_cuts := PySem.W.mg_of X Gn ha_zone_cuts
    a_together := p_together
    e_together := _
    F_together := fun_mk (st := s_together) hl_together hc_together hk_together
    g_together := PySem.W.mg_of X Gn ha_together
    a_is_beneath := p_is_beneath
    e_is_beneath := _
    F_is_beneath := fun_mk (st := s_is_beneath) hl_is_beneath hc_is_beneath hk_is_beneath
    g_is_beneath := PySem.W.mg_of X Gn ha_is_beneath
    a_is_covered := p_is_covered
    e_is_covered := _
    F_is_covered := fun_mk (st := s_is_covered) hl_is_covered hc_is_covered hk_is_covered
    g_is_covered := PySem.W.mg_of X Gn ha_is_covered
    a_greatest := p_greatest
    e_greatest := _
    F_greatest := fun_mk (st := s_greatest) hl_greatest hc_greatest hk_greatest
    g_greatest := PySem.W.mg_of X Gn ha_greatest
    a_pairs_for := p_pairs_for
    e_pairs_for := _
    F_pairs_for := fun_mk (st := s_pairs_for) hl_pairs_for hc_pairs_for hk_pairs_for
    g_pairs_for := PySem.W.mg_of X Gn ha_pairs_for
    a_ways_behind := p_ways_behind
    e_ways_behind := _
    F_ways_behind := fun_mk (st := s_ways_behind) hl_ways_behind hc_ways_behind hk_ways_behind
    g_ways_behind := PySem.W.mg_of X Gn ha_ways_behind
    a_whole_cut := p_whole_cut
    e_whole_cut := _
    F_whole_cut := fun_mk (st := s_whole_cut) hl_whole_cut hc_whole_cut hk_whole_cut
    g_whole_cut := PySem.W.mg_of X Gn ha_whole_cut
    a_most_pairs := p_most_pairs
    e_most_pairs := _
    F_most_pairs := fun_mk (st := s_most_pairs) hl_most_pairs hc_most_pairs hk_most_pairs
    g_most_pairs := PySem.W.mg_of X Gn ha_most_pairs
    a_sign_of := p_sign_of
    e_sign_of := _
    F_sign_of := fun_mk (st := s_sign_of) hl_sign_of hc_sign_of hk_sign_of
    g_sign_of := PySem.W.mg_of X Gn ha_sign_of
    a_zone_word := p_zone_word
    e_zone_word := _
    F_zone_word := fun_mk (st := s_zone_word) hl_zone_word hc_zone_word hk_zone_word
    g_zone_word := PySem.W.mg_of X Gn ha_zone_word
    a_deck := p_deck
    e_deck := _
    F_deck := fun_mk (st := s_deck) hl_deck hc_deck hk_deck
    g_deck := PySem.W.mg_of X Gn ha_deck
    a_draw := p_draw
    e_draw := _
    F_draw := fun_mk (st := s_draw) hl_draw hc_draw hk_draw
    g_draw := PySem.W.mg_of X Gn ha_draw
    a_pick := p_pick
    e_pick := _
    F_pick := fun_mk (st := s_pick) hl_pick hc_pick hk_pick
    g_pick := PySem.W.mg_of X Gn ha_pick
    a_lengths := p_lengths
    e_lengths := _
    F_lengths := fun_mk (st := s_lengths) hl_lengths hc_lengths hk_lengths
    g_lengths := PySem.W.mg_of X Gn ha_lengths
    a_table := p_table
    e_table := _
    F_table := fun_mk (st := s_table) hl_table hc_table hk_table
    g_table := PySem.W.mg_of X Gn ha_table
    a_zones := p_zones
    e_zones := _
    F_zones := fun_mk (st := s_zones) hl_zones hc_zones hk_zones
    g_zones := PySem.W.mg_of X Gn ha_zones
    a_fits := p_fits
    e_fits := _
    F_fits := fun_mk (st := s_fits) hl_fits hc_fits hk_fits
    g_fits := PySem.W.mg_of X Gn ha_fits
    a_counts := p_counts
    e_counts := _
    F_counts := fun_mk (st := s_counts) hl_counts hc_counts hk_counts
    g_counts := PySem.W.mg_of X Gn ha_counts
    a_given := p_given
    e_given := _
    F_given := fun_mk (st := s_given) hl_given hc_given hk_given
    g_given := PySem.W.mg_of X Gn ha_given
    a_added := p_added
    e_added := _
    F_added := fun_mk (st := s_added) hl_added hc_added hk_added
    g_added := PySem.W.mg_of X Gn ha_added
    a_least_rows := p_least_rows
    e_least_rows := _
    F_least_rows := fun_mk (st := s_least_rows) hl_least_rows hc_least_rows hk_least_rows
    g_least_rows := PySem.W.mg_of X Gn ha_least_rows
    a_fronts := p_fronts
    e_fronts := _
    F_fronts := fun_mk (st := s_fronts) hl_fronts hc_fronts hk_fronts
    g_fronts := PySem.W.mg_of X Gn ha_fronts
    a_most := p_most
    e_most := _
    F_most := fun_mk (st := s_most) hl_most hc_most hk_most
    g_most := PySem.W.mg_of X Gn ha_most
    a_Skin_init := p_Skin_init
    e_Skin_init := _
    F_Skin_init := funF_mk (st := s_Skin_init) hl_Skin_init hc_Skin_init hk_Skin_init (.inr ⟨List.cons_ne_nil _ _, _, _, _, _, rfl, hd_Skin_init, rfl, (.cons ⟨_, rfl⟩ (.cons ⟨_, rfl⟩ .nil))⟩)
    a_told := p_told
    e_told := _
    F_told := fun_mk (st := s_told) hl_told hc_told hk_told
    g_told := PySem.W.mg_of X Gn ha_told
    a_turned := p_turned
    e_turned := _
    F_turned := fun_mk (st := s_turned) hl_turned hc_turned hk_turned
    g_turned := PySem.W.mg_of X Gn ha_turned
    a_grown := p_grown
    e_grown := _
    F_grown := fun_mk (st := s_grown) hl_grown hc_grown hk_grown
    g_grown := PySem.W.mg_of X Gn ha_grown
    a_right := p_right
    e_right := _
    F_right := fun_mk (st := s_right) hl_right hc_right hk_right
    g_right := PySem.W.mg_of X Gn ha_right
    a_law := fa
    e_law := _
    F_law := fun_mk (st := s_law) hl_law hc_law hk_law
    g_law := PySem.W.mg_of X Gn ha_law
    C_Skin := C_Skin
    iC_Skin := haC_Skin
    gC_Skin := PySem.W.mg_of X Gn haC_Skin
    cl_Skin := ⟨hpg_Skin, hhd_Skin, hpo_Skin, hsa_Skin⟩
    mk_Skin := ⟨hmk_Skin, ha_Skin_init, hi_Skin_init, hkC_Skin⟩
    fl_zones := (.cons haC_Skin ⟨hpg_Skin, hhd_Skin, hpo_Skin, hsa_Skin⟩ hnf_Skin_zones .nil)
    fl_stretch := (.cons haC_Skin ⟨hpg_Skin, hhd_Skin, hpo_Skin, hsa_Skin⟩ hnf_Skin_stretch .nil)
    fl_grade := (.cons haC_Skin ⟨hpg_Skin, hhd_Skin, hpo_Skin, hsa_Skin⟩ hnf_Skin_grade .nil)
    n_all := PySem.W.mg_none_of X Gn hz_all
    n_dict := PySem.W.mg_none_of X Gn hz_dict
    n_int := PySem.W.mg_none_of X Gn hz_int
    n_len := PySem.W.mg_none_of X Gn hz_len
    n_list := PySem.W.mg_none_of X Gn hz_list
    n_max := PySem.W.mg_none_of X Gn hz_max
    n_min := PySem.W.mg_none_of X Gn hz_min
    n_range := PySem.W.mg_none_of X Gn hz_range
    n_reversed := PySem.W.mg_none_of X Gn hz_reversed
    n_set := PySem.W.mg_none_of X Gn hz_set
    n_sorted := PySem.W.mg_none_of X Gn hz_sorted
    n_str := PySem.W.mg_none_of X Gn hz_str
    n_sum := PySem.W.mg_none_of X Gn hz_sum
    n_tuple := PySem.W.mg_none_of X Gn hz_tuple
    n_zip := PySem.W.mg_none_of X Gn hz_zip
    v_ALONG := (.str "along")
    u_ALONG := _
    m_ALONG := PySem.W.mg_of X Gn hm_ALONG
    r_ALONG := ⟨_, rfl⟩
    d_ALONG := fun _ _ => .str _
  }
  exact ⟨_, fun s v => .of_eq rfl, fun base _ _ sm => ok_law T sm⟩
end K15

open PySem PySem.W PyProof.Rows
set_option maxHeartbeats 0 in
theorem PySem.Challenge.cw_glovepairs_k15_no_cut_gives_more_holds : PySem.Challenge.rw_glovepairs_k15_no_cut_gives_more.Holds := by
  w_on; o_law; k_head; (case hw => w_witness2)
  k_fill
  refine G.walk_G (l := PySem.Challenge.rw_glovepairs_k15_no_cut_gives_more) (n := 63) (k := 8) (x := "_law_script") (fn := K15.c_law) (by decide +kernel) rfl (by decide) rfl ⟨rfl, by decide, by decide⟩ (fun w h Y => PySem.W.kIn_of Y) ?F K15.law_true
  case F =>
    intro w mg fa h KX Gn hmg
    refine' K15.all_mk KX Gn hmg ?haC_Skin ?hpg_Skin ?hhd_Skin ?hpo_Skin ?hsa_Skin ?hmk_Skin ?hkC_Skin ?hnf_Skin_zones ?hnf_Skin_stretch ?hnf_Skin_grade ?ha_part_length ?hl_part_length ?hc_part_length ?hk_part_length ?ha_zone_cuts ?hl_zone_cuts ?hc_zone_cuts ?hk_zone_cuts ?ha_together ?hl_together ?hc_together ?hk_together ?ha_is_beneath ?hl_is_beneath ?hc_is_beneath ?hk_is_beneath ?ha_is_covered ?hl_is_covered ?hc_is_covered ?hk_is_covered ?ha_greatest ?hl_greatest ?hc_greatest ?hk_greatest ?ha_pairs_for ?hl_pairs_for ?hc_pairs_for ?hk_pairs_for ?ha_ways_behind ?hl_ways_behind ?hc_ways_behind ?hk_ways_behind ?ha_whole_cut ?hl_whole_cut ?hc_whole_cut ?hk_whole_cut ?ha_most_pairs ?hl_most_pairs ?hc_most_pairs ?hk_most_pairs ?ha_sign_of ?hl_sign_of ?hc_sign_of ?hk_sign_of ?ha_zone_word ?hl_zone_word ?hc_zone_word ?hk_zone_word ?ha_deck ?hl_deck ?hc_deck ?hk_deck ?ha_draw ?hl_draw ?hc_draw ?hk_draw ?ha_pick ?hl_pick ?hc_pick ?hk_pick ?ha_lengths ?hl_lengths ?hc_lengths ?hk_lengths ?ha_table ?hl_table ?hc_table ?hk_table ?ha_zones ?hl_zones ?hc_zones ?hk_zones ?ha_fits ?hl_fits ?hc_fits ?hk_fits ?ha_counts ?hl_counts ?hc_counts ?hk_counts ?ha_given ?hl_given ?hc_given ?hk_given ?ha_added ?hl_added ?hc_added ?hk_added ?ha_least_rows ?hl_least_rows ?hc_least_rows ?hk_least_rows ?ha_fronts ?hl_fronts ?hc_fronts ?hk_fronts ?ha_most ?hl_most ?hc_most ?hk_most ?ha_Skin_init ?hi_Skin_init ?hl_Skin_init ?hd_Skin_init ?hc_Skin_init ?hk_Skin_init ?ha_told ?hl_told ?hc_told ?hk_told ?ha_turned ?hl_turned ?hc_turned ?hk_turned ?ha_grown ?hl_grown ?hc_grown ?hk_grown ?ha_right ?hl_right ?hc_right ?hk_right ?ha_law ?hl_law ?hc_law ?hk_law ?hz_all ?hz_dict ?hz_int ?hz_len ?hz_list ?hz_max ?hz_min ?hz_range ?hz_reversed ?hz_set ?hz_sorted ?hz_str ?hz_sum ?hz_tuple ?hz_zip ?hm_ALONG
    (case haC_Skin => k_is); (case hpg_Skin => k_is); (case hhd_Skin => k_is); (case hpo_Skin => k_is); (case hsa_Skin => k_is); (case hmk_Skin => k_is); (case hkC_Skin => k_is); (case hnf_Skin_zones => k_is); (case hnf_Skin_stretch => k_is); (case hnf_Skin_grade => k_is); (case ha_part_length => k_is); (case hl_part_length => k_is); (case hc_part_length => k_is); (case hk_part_length => k_is); (case ha_zone_cuts => k_is); (case hl_zone_cuts => k_is); (case hc_zone_cuts => k_is); (case hk_zone_cuts => k_is); (case ha_together => k_is); (case hl_together => k_is); (case hc_together => k_is); (case hk_together => k_is); (case ha_is_beneath => k_is); (case hl_is_beneath => k_is); (case hc_is_beneath => k_is); (case hk_is_beneath => k_is); (case ha_is_covered => k_is); (case hl_is_covered => k_is); (case hc_is_covered => k_is); (case hk_is_covered => k_is); (case ha_greatest => k_is); (case hl_greatest => k_is); (case hc_greatest => k_is); (case hk_greatest => k_is); (case ha_pairs_for => k_is); (case hl_pairs_for => k_is); (case hc_pairs_for => k_is); (case hk_pairs_for => k_is); (case ha_ways_behind => k_is); (case hl_ways_behind => k_is); (case hc_ways_behind => k_is); (case hk_ways_behind => k_is); (case ha_whole_cut => k_is); (case hl_whole_cut => k_is); (case hc_whole_cut => k_is); (case hk_whole_cut => k_is); (case ha_most_pairs => k_is); (case hl_most_pairs => k_is); (case hc_most_pairs => k_is); (case hk_most_pairs => k_is); (case ha_sign_of => k_is); (case hl_sign_of => k_is); (case hc_sign_of => k_is); (case hk_sign_of => k_is); (case ha_zone_word => k_is); (case hl_zone_word => k_is); (case hc_zone_word => k_is); (case hk_zone_word => k_is); (case ha_deck => k_is); (case hl_deck => k_is); (case hc_deck => k_is); (case hk_deck => k_is); (case ha_draw => k_is); (case hl_draw => k_is); (case hc_draw => k_is); (case hk_draw => k_is); (case ha_pick => k_is); (case hl_pick => k_is); (case hc_pick => k_is); (case hk_pick => k_is); (case ha_lengths => k_is); (case hl_lengths => k_is); (case hc_lengths => k_is); (case hk_lengths => k_is); (case ha_table => k_is); (case hl_table => k_is); (case hc_table => k_is); (case hk_table => k_is); (case ha_zones => k_is); (case hl_zones => k_is); (case hc_zones => k_is); (case hk_zones => k_is); (case ha_fits => k_is); (case hl_fits => k_is); (case hc_fits => k_is); (case hk_fits => k_is); (case ha_counts => k_is); (case hl_counts => k_is); (case hc_counts => k_is); (case hk_counts => k_is); (case ha_given => k_is); (case hl_given => k_is); (case hc_given => k_is); (case hk_given => k_is); (case ha_added => k_is); (case hl_added => k_is); (case hc_added => k_is); (case hk_added => k_is); (case ha_least_rows => k_is); (case hl_least_rows => k_is); (case hc_least_rows => k_is); (case hk_least_rows => k_is); (case ha_fronts => k_is); (case hl_fronts => k_is); (case hc_fronts => k_is); (case hk_fronts => k_is); (case ha_most => k_is); (case hl_most => k_is); (case hc_most => k_is); (case hk_most => k_is); (case ha_Skin_init => k_is); (case hi_Skin_init => k_is); (case hl_Skin_init => k_is); (case hd_Skin_init => k_is); (case hc_Skin_init => k_is); (case hk_Skin_init => k_is); (case ha_told => k_is); (case hl_told => k_is); (case hc_told => k_is); (case hk_told => k_is); (case ha_turned => k_is); (case hl_turned => k_is); (case hc_turned => k_is); (case hk_turned => k_is); (case ha_grown => k_is); (case hl_grown => k_is); (case hc_grown => k_is); (case hk_grown => k_is); (case ha_right => k_is); (case hl_right => k_is); (case hc_right => k_is); (case hk_right => k_is); (case ha_law => k_is); (case hl_law => k_is); (case hc_law => k_is); (case hk_law => k_is); (case hz_all => k_is); (case hz_dict => k_is); (case hz_int => k_is); (case hz_len => k_is); (case hz_list => k_is); (case hz_max => k_is); (case hz_min => k_is); (case hz_range => k_is); (case hz_reversed => k_is); (case hz_set => k_is); (case hz_sorted => k_is); (case hz_str => k_is); (case hz_sum => k_is); (case hz_tuple => k_is); (case hz_zip => k_is); (case hm_ALONG => k_is)

