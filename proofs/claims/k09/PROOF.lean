import PyProof.Rows.All
import Wide.All
import OpenK.AllK
import Wide.FinOn
import HandS.ForMost
import HandS.Exc
import HandS.TryOnly
import HandS.ExcOwn
import HandS.WordsExc
import HandS.TupAny
import HandS.Style
import HandS.TupMul
import PyProof.Rows.IntBool
import HandS.Replace
import HandS.Walk
import HandS.CallSlots
import HandS.IsInst
import HandS.Conv
import HandS.DictTup
import KE.KDictCopyH
import HandS.Deep
import HandS.Text
import KE.KRevSl
import HandS.Codes
import HandS.Zip
import KE.GoesMore
import HandS.MakeKw
import KE.KCallOwn
import HandS.FStr
import KE.KxMul
import HandS.Flow
import HandS.Dict
import HandS.IntHex
import HandS.More
import HandS.SortOrd
import HandS.SortRule
import HandS.ExcValue
import HandS.ExcIs
import HandS.ExcField
import KE.KExcIs
import HandS.OwnEq
import HandS.ReplaceLit
import HandS.ReplaceList
import PyProof.Rows.StrSplitCount
import HandS.ExcInit
import KE.KExcInit
import KE.KDictPairs
import KE.KDictKeyed
import PyProof.EqKinds
import HandS.Small
import HandS.Records
import KE.GoesZip
import KE.KTupSum
import HandS.SortInts
import KE.SortData
import HandS.TupSets
import KE.DataFind
import KE.KDictWalk
import PyProof.SeqIndex
import HandS.WideBits
import HandS.SortKw
import KE.KDictZip
import KE.KDictItemsList
import KE.KMinKey
import KE.DataCmp
import PyProof.ReprRoads
import PyProof.FString2
import HandS.RaiseMore
import HandS.Rev
import HandS.HotCalls
import HandS.ExcInitHot
import HandS.TupLen
import PyProof.MaxThree
import KE.GoesRaise
import PySem.Challenge.RW_glovepairs_k09_skins_read
set_option Elab.async false
set_option autoImplicit false
set_option linter.all false
set_option maxRecDepth 100000
set_option maxHeartbeats 0
/-! # G1: values, heaps, results of the functional layer; how they stand for the hand layer's -/
namespace G
open PySem PySem.Spec PyProof.Rows L2

/-- a value: lists that nobody changes stand by themselves (lst; the script: scr), those that are changed by their number in the heap (ref) -/
inductive Tn where
  | int | str | bool | tup | lst | dct
  deriving DecidableEq
def Tn.nm : Tn → String
  | .int => "int" | .str => "str" | .bool => "bool" | .tup => "tuple" | .lst => "list" | .dct => "dict"
inductive D where
  | non | bl (b : Bool) | int (i : Int) | str (s : Str) | tup (ds : List D) | lst (ds : List D) | scr (ds : List D) | ref (n : Nat) | ty (t : Tn) | ctp (ds : List D) | dct (ks : List Key) (ds : List D) | dtp (ks : List (List Key)) (ds : List D) | dlk (ks : List Key) (ds : List D) | dlt (ks : List (List Key)) (ds : List D) | ins (c : Str) (ks : List Str) (ds : List D) | glb (x : Str) | exn (c : Str) (ks : List Str) (ds : List D)
inductive O where
  | lst (ds : List D) | dk (kvs : List (Key × D)) | dt (kvs : List (List Key × D)) | ins (c : Str) (fs : List (Str × D)) | lkd (o : O)
abbrev Hs := List O
inductive R (α : Type) where
  | ok (a : α) (h : Hs) | exc (c : Str) (fs : List (Str × D)) (h : Hs) | bad
abbrev Ev := List (Option D)
inductive SR where
  | nx (e : Ev) (h : Hs) | ret (d : D) (h : Hs) | brk (e : Ev) (h : Hs) | cnt (e : Ev) (h : Hs) | exc (c : Str) (fs : List (Str × D)) (e : Ev) (h : Hs) | bad
abbrev FE := Ev → Hs → R D
abbrev FS := Ev → Hs → SR
/-- a test -/
abbrev FT := Ev → Hs → R Bool
abbrev FA := Ev → Hs → R (List D)

def R.bind {α β : Type} (r : R α) (k : α → Hs → R β) : R β := match r with
  | .ok a h => k a h
  | .exc c fs h => .exc c fs h
  | .bad => .bad
@[simp] theorem R.bind_ok {α β : Type} (a : α) (h : Hs) (k : α → Hs → R β) : (R.ok a h).bind k = k a h := rfl
@[simp] theorem R.bind_exc {α β : Type} (c : Str) (fs : List (Str × D)) (h : Hs) (k : α → Hs → R β) : (R.exc c fs h).bind k = .exc c fs h := rfl
@[simp] theorem R.bind_bad {α β : Type} (k : α → Hs → R β) : (R.bad).bind k = .bad := rfl

/-! ### how they stand for the hand layer's -/
/-- where our objects stand; which lists stand still from now on -/
structure Mp where
  l : List Addr
  fz : Addr → Prop
/-- a tuple, the script: tracked and not ours, or an object of the module -/
def StT (K : PySem.W.Frag) (mu : Mp) (H : Hp) (a : Addr) (vs : List V) : Prop := H a = some (.tup vs) ∧ a ∉ mu.l
def StL (K : PySem.W.Frag) (mu : Mp) (H : Hp) (a : Addr) (vs : List V) : Prop := ((∃ o, H a = some (.frz o (.lst vs))) ∧ a ∉ mu.l) ∨ SqL K (fun _ => none) a vs
theorem StT.sq {K : PySem.W.Frag} {mu : Mp} {H : Hp} {a : Addr} {vs : List V} (h : StT K mu H a vs) : SqT K H a vs := .inl (.inl h.1)
theorem sqT_c {K : PySem.W.Frag} {H : Hp} {a : Addr} {vs : List V} (h : SqT K (fun _ => none) a vs) : SqT K H a vs := by
  rcases h with (h | ⟨o, h⟩) | h
  · cases h
  · cases h
  · exact .inr h
theorem StL.sq {K : PySem.W.Frag} {mu : Mp} {H : Hp} {a : Addr} {vs : List V} (h : StL K mu H a vs) : SqL K H a vs := by
  rcases h with ⟨⟨o, h⟩, _⟩ | (h | ⟨o, h⟩) | h
  · exact .inl (.inr ⟨o, h⟩)
  · cases h
  · cases h
  · exact .inr h
/-- an exception's object of the class C at a, with that dict -/
def ExPl (C : Addr) (d : Option Addr) (a : Addr) (h : Heap) : Prop := ∃ (oe : Obj) (us : Array Value), h.get? a = some oe ∧ Zc (.ref C) d oe ∧ oe.data = .fields us
def StE (mu : Mp) (H : Hp) (C : Addr) (d : Option Addr) (a : Addr) : Prop := a ∉ mu.l ∧ ∃ φ, H a = some (.ext φ) ∧ ∀ h, φ h → ExPl C d a h
/-- locked, not ours -/
def StF (mu : Mp) (H : Hp) (a : Addr) (u : HO) : Prop := (∃ o, H a = some (.frz o u)) ∧ a ∉ mu.l
def StX (mu : Mp) (H : Hp) (b : Addr) (kvs : List (Str × V)) : Prop := H b = some (.xd kvs) ∧ b ∉ mu.l
mutual
inductive RD (K : PySem.W.Frag) (mu : Mp) (H : Hp) : D → V → Prop
  | non : RD K mu H .non .non
  | bl (b : Bool) : RD K mu H (.bl b) (.bl b)
  | int (i : Int) : RD K mu H (.int i) (.int i)
  | str (s : Str) : RD K mu H (.str s) (.str s)
  | tup {a : Addr} {vs : List V} {ds : List D} : StT K mu H a vs → RDs K mu H ds vs → RD K mu H (.tup ds) (.ref a)
  | lst {a : Addr} {vs : List V} {ds : List D} : H a = some (.lst vs) → mu.fz a → RDs K mu H ds vs → RD K mu H (.lst ds) (.ref a)
  | scr {a : Addr} {vs : List V} {ds : List D} : StL K mu H a vs → RDs K mu H ds vs → RD K mu H (.scr ds) (.ref a)
  | ref {n : Nat} {a : Addr} : mu.l[n]? = some a → RD K mu H (.ref n) (.ref a)
  | ty (t : Tn) : RD K mu H (.ty t) (.ty t.nm)
  | ctp {a : Addr} {vs : List V} {ds : List D} : SqT K (fun _ => none) a vs → RDs K mu H ds vs → RD K mu H (.ctp ds) (.ref a)
  | dct {a : Addr} {ks : List Key} {vs : List V} {ds : List D} : H a = some (.dK (ks.zip vs)) → mu.fz a → ks.length = ds.length → RDs K mu H ds vs → RD K mu H (.dct ks ds) (.ref a)
  | dtp {a : Addr} {ks : List (List Key)} {vs : List V} {ds : List D} : H a = some (.dT (ks.zip vs)) → mu.fz a → ks.length = ds.length → RDs K mu H ds vs → RD K mu H (.dtp ks ds) (.ref a)
  | dlk {a : Addr} {ks : List Key} {vs : List V} {ds : List D} : StF mu H a (.dK (ks.zip vs)) → ks.length = ds.length → RDs K mu H ds vs → RD K mu H (.dlk ks ds) (.ref a)
  | dlt {a : Addr} {ks : List (List Key)} {vs : List V} {ds : List D} : StF mu H a (.dT (ks.zip vs)) → ks.length = ds.length → RDs K mu H ds vs → RD K mu H (.dlt ks ds) (.ref a)
  | ins {a C dx : Addr} {c : Str} {ks : List Str} {vs : List V} {ds : List D} : PySem.W.nsIn K mainGlobals c = some (some (.ref C)) → H a = some (.ins C dx (ks.zip vs)) → mu.fz a → ks.length = ds.length → RDs K mu H ds vs → RD K mu H (.ins c ks ds) (.ref a)
  | glb {x : Str} {C : Addr} : PySem.W.nsIn K mainGlobals x = some (some (.ref C)) → RD K mu H (.glb x) (.ref C)
  | exn0 {a C : Addr} {c : Str} : PySem.W.nsIn K mainGlobals c = some (some (.ref C)) → StE mu H C none a → RD K mu H (.exn c [] []) (.ref a)
  | exnd {a C b : Addr} {c : Str} {ks : List Str} {vs : List V} {ds : List D} : PySem.W.nsIn K mainGlobals c = some (some (.ref C)) → StE mu H C (some b) a → StX mu H b (ks.zip vs) → ks.length = ds.length → RDs K mu H ds vs → RD K mu H (.exn c ks ds) (.ref a)
inductive RDs (K : PySem.W.Frag) (mu : Mp) (H : Hp) : List D → List V → Prop
  | nil : RDs K mu H [] []
  | cons {d : D} {v : V} {ds : List D} {vs : List V} : RD K mu H d v → RDs K mu H ds vs → RDs K mu H (d :: ds) (v :: vs)
end

/-- what never changes -/
def Imm : HO → Prop
  | .tup _ => True
  | .frz _ _ => True
  | .ext _ => True
  | .xd _ => True
  | _ => False
/-- enough is as it was for all values to stand -/
structure Agr (mu : Mp) (H : Hp) (mu' : Mp) (H' : Hp) : Prop where
  pre : mu.l <+: mu'.l
  sub : ∀ a, mu.fz a → mu'.fz a
  lst : ∀ a o, H a = some o → mu.fz a → H' a = some o
  imm : ∀ a o, H a = some o → Imm o → a ∉ mu.l → H' a = some o ∧ a ∉ mu'.l
/-- later: what was not ours stands as it was, and does not become ours, nor one of those that stand still -/
structure Lat (mu : Mp) (H : Hp) (mu' : Mp) (H' : Hp) : Prop where
  pre : mu.l <+: mu'.l
  sub : ∀ a, mu.fz a → mu'.fz a
  ext : ∀ a o, H a = some o → a ∉ mu.l → H' a = some o ∧ a ∉ mu'.l ∧ (mu'.fz a → mu.fz a)
  frz : ∀ a o u, H a = some (.frz o u) → H' a = some (.frz o u)
theorem Lat.refl {mu : Mp} {H : Hp} : Lat mu H mu H := ⟨List.prefix_rfl, fun _ h => h, fun _ _ h n => ⟨h, n, fun z => z⟩, fun _ _ _ h => h⟩
theorem Lat.trans {m0 m1 m2 : Mp} {H0 H1 H2 : Hp} (a : Lat m0 H0 m1 H1) (b : Lat m1 H1 m2 H2) : Lat m0 H0 m2 H2 :=
  ⟨a.pre.trans b.pre, fun x h => b.sub x (a.sub x h), fun x o h n => let ⟨h1, n1, z1⟩ := a.ext x o h n; let ⟨h2, n2, z2⟩ := b.ext x o h1 n1; ⟨h2, n2, fun z => z1 (z2 z)⟩, fun x o u h => b.frz x o u (a.frz x o u h)⟩
theorem Agr.get {mu mu' : Mp} {H H' : Hp} (l : Agr mu H mu' H') {n : Nat} {a : Addr} (e : mu.l[n]? = some a) : mu'.l[n]? = some a := by
  obtain ⟨t, e2⟩ := l.pre
  rw [← e2, List.getElem?_append_left (List.getElem?_eq_some_iff.mp e).1]
  exact e
/-- what is new later was new ahead -/
theorem Lat.back {mu mu' : Mp} {H H' : Hp} (l : Lat mu H mu' H') {a : Addr} (h : H' a = none) (n : a ∉ mu.l) : H a = none := by
  cases q : H a with
  | none => rfl
  | some o => rw [(l.ext a o q n).1] at h; cases h
theorem Agr.stT {K : PySem.W.Frag} {mu mu' : Mp} {H H' : Hp} (l : Agr mu H mu' H') {a : Addr} {vs : List V} (q : StT K mu H a vs) : StT K mu' H' a vs :=
  ⟨(l.imm _ _ q.1 trivial q.2).1, (l.imm _ _ q.1 trivial q.2).2⟩
theorem Agr.stL {K : PySem.W.Frag} {mu mu' : Mp} {H H' : Hp} (l : Agr mu H mu' H') {a : Addr} {vs : List V} (q : StL K mu H a vs) : StL K mu' H' a vs := by
  rcases q with ⟨⟨o, h⟩, n⟩ | q
  · exact .inl ⟨⟨o, (l.imm _ _ h trivial n).1⟩, (l.imm _ _ h trivial n).2⟩
  · exact .inr q
theorem Agr.stE {mu mu' : Mp} {H H' : Hp} (l : Agr mu H mu' H') {C : Addr} {d : Option Addr} {a : Addr} (q : StE mu H C d a) : StE mu' H' C d a := by
  obtain ⟨n, φ, h, i⟩ := q
  exact ⟨(l.imm _ _ h trivial n).2, φ, (l.imm _ _ h trivial n).1, i⟩
theorem Agr.stF {mu mu' : Mp} {H H' : Hp} (l : Agr mu H mu' H') {a : Addr} {u : HO} (q : StF mu H a u) : StF mu' H' a u := by
  obtain ⟨⟨o, h⟩, n⟩ := q
  exact ⟨⟨o, (l.imm _ _ h trivial n).1⟩, (l.imm _ _ h trivial n).2⟩
theorem Agr.stX {mu mu' : Mp} {H H' : Hp} (l : Agr mu H mu' H') {b : Addr} {kvs : List (Str × V)} (q : StX mu H b kvs) : StX mu' H' b kvs :=
  ⟨(l.imm _ _ q.1 trivial q.2).1, (l.imm _ _ q.1 trivial q.2).2⟩

section
variable {K : PySem.W.Frag} {mu mu' : Mp} {H H' : Hp}
mutual
theorem RD.agr (l : Agr mu H mu' H') : ∀ {d : D} {v : V}, RD K mu H d v → RD K mu' H' d v
  | _, _, .non => .non
  | _, _, .bl b => .bl b
  | _, _, .int i => .int i
  | _, _, .str s => .str s
  | _, _, .tup q r => .tup (l.stT q) (RDs.agr l r)
  | _, _, .lst q n r => .lst (l.lst _ _ q n) (l.sub _ n) (RDs.agr l r)
  | _, _, .scr q r => .scr (l.stL q) (RDs.agr l r)
  | _, _, .ref e => .ref (l.get e)
  | _, _, .ty t => .ty t
  | _, _, .ctp q r => .ctp q (RDs.agr l r)
  | _, _, .dct q n z r => .dct (l.lst _ _ q n) (l.sub _ n) z (RDs.agr l r)
  | _, _, .dtp q n z r => .dtp (l.lst _ _ q n) (l.sub _ n) z (RDs.agr l r)
  | _, _, .ins g q n z r => .ins g (l.lst _ _ q n) (l.sub _ n) z (RDs.agr l r)
  | _, _, .glb g => .glb g
  | _, _, .dlk q z r => .dlk (l.stF q) z (RDs.agr l r)
  | _, _, .dlt q z r => .dlt (l.stF q) z (RDs.agr l r)
  | _, _, .exn0 g q => .exn0 g (l.stE q)
  | _, _, .exnd g q x z r => .exnd g (l.stE q) (l.stX x) z (RDs.agr l r)
theorem RDs.agr (l : Agr mu H mu' H') : ∀ {ds : List D} {vs : List V}, RDs K mu H ds vs → RDs K mu' H' ds vs
  | _, _, .nil => .nil
  | _, _, .cons r t => .cons (RD.agr l r) (RDs.agr l t)
end
theorem RDs.length : ∀ {ds : List D} {vs : List V}, RDs K mu H ds vs → ds.length = vs.length
  | _, _, .nil => rfl
  | _, _, .cons _ t => by simp [RDs.length t]
theorem RDs.get : ∀ {ds : List D} {vs : List V} {i : Nat} {d : D}, RDs K mu H ds vs → ds[i]? = some d → ∃ v, vs[i]? = some v ∧ RD K mu H d v
  | _, _, _, _, .nil, e => by simp at e
  | _, _, 0, _, .cons r _, e => by simp at e; subst e; exact ⟨_, rfl, r⟩
  | _, _, i + 1, d, .cons _ t, e => by
    obtain ⟨v, h1, h2⟩ := RDs.get (i := i) (d := d) t (by simpa using e)
    exact ⟨v, by simpa using h1, h2⟩
theorem RDs.append : ∀ {ds es : List D} {vs us : List V}, RDs K mu H ds vs → RDs K mu H es us → RDs K mu H (ds ++ es) (vs ++ us)
  | _, _, _, _, .nil, s => s
  | _, _, _, _, .cons r t, s => .cons r (RDs.append t s)
theorem RDs.snoc {ds : List D} {vs : List V} {d : D} {v : V} (a : RDs K mu H ds vs) (b : RD K mu H d v) : RDs K mu H (ds ++ [d]) (vs ++ [v]) := a.append (.cons b .nil)
theorem RDs.take : ∀ (n : Nat) {ds : List D} {vs : List V}, RDs K mu H ds vs → RDs K mu H (ds.take n) (vs.take n)
  | 0, _, _, _ => .nil
  | _ + 1, _, _, .nil => .nil
  | n + 1, _, _, .cons r t => .cons r (RDs.take n t)
theorem RDs.drop : ∀ (n : Nat) {ds : List D} {vs : List V}, RDs K mu H ds vs → RDs K mu H (ds.drop n) (vs.drop n)
  | 0, _, _, r => r
  | _ + 1, _, _, .nil => .nil
  | n + 1, _, _, .cons _ t => RDs.drop n t
theorem RDs.set {d : D} {v : V} (r : RD K mu H d v) : ∀ (n : Nat) {ds : List D} {vs : List V}, RDs K mu H ds vs → RDs K mu H (ds.set n d) (vs.set n v)
  | _, _, _, .nil => .nil
  | 0, _, _, .cons _ t => .cons r t
  | n + 1, _, _, .cons q t => .cons q (RDs.set r n t)
theorem RDs.reverse : ∀ {ds : List D} {vs : List V}, RDs K mu H ds vs → RDs K mu H ds.reverse vs.reverse
  | _, _, .nil => .nil
  | _, _, .cons r t => by rw [List.reverse_cons, List.reverse_cons]; exact (RDs.reverse t).snoc r
theorem RDs.ints : ∀ (ns : List Int), RDs K mu H (ns.map D.int) (ns.map V.int)
  | [] => .nil
  | n :: r => .cons (.int n) (RDs.ints r)
end

/-- pairs of a key and a value -/
inductive RKs {k : Type} (K : PySem.W.Frag) (mu : Mp) (H : Hp) : List (k × D) → List (k × V) → Prop
  | nil : RKs K mu H [] []
  | cons {x : k} {d : D} {v : V} {ds : List (k × D)} {vs : List (k × V)} : RD K mu H d v → RKs K mu H ds vs → RKs K mu H ((x, d) :: ds) ((x, v) :: vs)
section
variable {K : PySem.W.Frag} {mu mu' : Mp} {H H' : Hp} {k : Type}
theorem RKs.agr (l : Agr mu H mu' H') : ∀ {ds : List (k × D)} {vs : List (k × V)}, RKs K mu H ds vs → RKs K mu' H' ds vs
  | _, _, .nil => .nil
  | _, _, .cons r t => .cons (RD.agr l r) (RKs.agr l t)
theorem RKs.length : ∀ {ds : List (k × D)} {vs : List (k × V)}, RKs K mu H ds vs → ds.length = vs.length
  | _, _, .nil => rfl
  | _, _, .cons _ t => by simp [RKs.length t]
theorem RKs.lookup [BEq k] {x : k} : ∀ {ds : List (k × D)} {vs : List (k × V)}, RKs K mu H ds vs → ∀ {d : D}, ds.lookup x = some d → ∃ v, vs.lookup x = some v ∧ RD K mu H d v
  | _, _, .nil, d, e => by simp at e
  | _, _, .cons (x := y) r t, d, e => by
    rw [List.lookup_cons] at e ⊢
    cases q : (x == y) with
    | true => rw [q] at e; simp at e; subst e; exact ⟨_, by simp, r⟩
    | false =>
      rw [q] at e
      obtain ⟨v, h1, h2⟩ := RKs.lookup (x := x) t e
      exact ⟨v, by simpa using h1, h2⟩
end

/-- an object of ours at what the hand layer tracks -/
def RO (K : PySem.W.Frag) (mg : Str → Option Value) (mu : Mp) (H : Hp) : O → HO → Prop
  | .lst ds, .lst vs => RDs K mu H ds vs
  | .dk ds, .dK vs => RKs K mu H ds vs
  | .dt ds, .dT vs => RKs K mu H ds vs
  | .ins c ds, .ins C _ vs => PySem.W.nsIn K mainGlobals c = some (some (.ref C)) ∧ RKs K mu H ds vs
  | .lkd o, .frz _ u => RO K mg mu H o u
  | _, _ => False
theorem RO.agr {K : PySem.W.Frag} {mg : Str → Option Value} {mu mu' : Mp} {H H' : Hp} (l : Agr mu H mu' H') : ∀ {o : O} {u : HO}, RO K mg mu H o u → RO K mg mu' H' o u := by
  intro o
  induction o with
  | lst ds => intro u h; cases u <;> first | exact RDs.agr l h | exact h
  | dk ds => intro u h; cases u <;> first | exact RKs.agr l h | exact h
  | dt ds => intro u h; cases u <;> first | exact RKs.agr l h | exact h
  | ins c ds => intro u h; cases u <;> first | exact ⟨h.1, RKs.agr l h.2⟩ | exact h
  | lkd o ih => intro u h; cases u <;> first | exact ih h | exact h
/-- our heap stands for the hand layer's -/
structure Sim (K : PySem.W.Frag) (mg : Str → Option Value) (mu : Mp) (hs : Hs) (H : Hp) : Prop where
  len : mu.l.length = hs.length
  nd : mu.l.Nodup
  dj : ∀ a ∈ mu.l, ¬ mu.fz a
  fzl : ∀ a, mu.fz a → ∃ u, H a = some u
  obj : ∀ (n : Nat) (o : O), hs[n]? = some o → ∃ a u, mu.l[n]? = some a ∧ H a = some u ∧ RO K mg mu H o u
section
variable {K : PySem.W.Frag} {mg : Str → Option Value} {mu mu' : Mp} {hs : Hs} {H H' : Hp}
theorem Sim.there (S : Sim K mg mu hs H) {a : Addr} (h : a ∈ mu.l) : ∃ u, H a = some u := by
  obtain ⟨n, hn, e⟩ := List.getElem_of_mem h
  have hn' : n < hs.length := by rw [← S.len]; exact hn
  obtain ⟨b, u, e1, e2, _⟩ := S.obj n hs[n] (List.getElem?_eq_getElem hn')
  rw [List.getElem?_eq_getElem hn] at e1
  cases e1
  rw [← e]
  exact ⟨u, e2⟩
theorem Sim.fresh (S : Sim K mg mu hs H) {a : Addr} (h : H a = none) : a ∉ mu.l := fun m => by
  obtain ⟨u, e⟩ := S.there m
  rw [h] at e; cases e
theorem Sim.freshz (S : Sim K mg mu hs H) {a : Addr} (h : H a = none) : ¬ mu.fz a := fun m => by
  obtain ⟨u, e⟩ := S.fzl a m
  rw [h] at e; cases e
/-- with Sim ahead, later is enough -/
theorem Lat.agr (l : Lat mu H mu' H') (S : Sim K mg mu hs H) : Agr mu H mu' H' :=
  ⟨l.pre, l.sub, fun a vs h z => (l.ext a _ h fun m => S.dj a m z).1, fun a o h _ n => ⟨(l.ext a o h n).1, (l.ext a o h n).2.1⟩⟩
theorem Sim.at (S : Sim K mg mu hs H) {n : Nat} {a : Addr} {o : O} (e : mu.l[n]? = some a) (h : hs[n]? = some o) : ∃ u, H a = some u ∧ RO K mg mu H o u := by
  obtain ⟨b, u, e1, e2, e3⟩ := S.obj n o h
  rw [e] at e1; cases e1
  exact ⟨u, e2, e3⟩
/-- a new thing that isn't ours -/
theorem Lat.new {p : Addr} {o : HO} (hp : H p = none) : Lat mu H mu (upd H p o) :=
  ⟨List.prefix_rfl, fun _ h => h, fun a u h n => ⟨by rw [upd_ne (ne_of_none h hp)]; exact h, n, fun z => z⟩, fun a _ _ h => by rw [upd_ne (ne_of_none h hp)]; exact h⟩
theorem Sim.mono (S : Sim K mg mu hs H) (l : Lat mu H mu H') (k : ∀ a ∈ mu.l, ∀ u, H a = some u → H' a = some u) : Sim K mg mu hs H' :=
  ⟨S.len, S.nd, S.dj, fun a z => by
    obtain ⟨u, e⟩ := S.fzl a z
    exact ⟨u, (l.ext a u e fun m => S.dj a m z).1⟩, fun n o h => by
    obtain ⟨a, u, e1, e2, e3⟩ := S.obj n o h
    exact ⟨a, u, e1, k a (List.mem_of_getElem? e1) u e2, RO.agr (l.agr S) e3⟩⟩
theorem Sim.new (S : Sim K mg mu hs H) {p : Addr} {o : HO} (hp : H p = none) : Sim K mg mu hs (upd H p o) :=
  S.mono (.new hp) fun a h u e => by rw [upd_ne (ne_of_none e hp)]; exact e
/-- p stands still from now on -/
def Mp.still (mu : Mp) (p : Addr) : Mp := ⟨mu.l, fun a => a = p ∨ mu.fz a⟩
/-- p is ours from now on -/
def Mp.own (mu : Mp) (p : Addr) : Mp := ⟨mu.l ++ [p], mu.fz⟩
theorem Agr.still {p : Addr} : Agr mu H (mu.still p) H := ⟨List.prefix_rfl, fun _ h => .inr h, fun _ _ h _ => h, fun _ _ h _ n => ⟨h, n⟩⟩
theorem Sim.still (S : Sim K mg mu hs H) {p : Addr} {u : HO} (h : H p = some u) (n : p ∉ mu.l) : Sim K mg (mu.still p) hs H :=
  ⟨S.len, S.nd, fun a m z => z.elim (fun e => n (e ▸ m)) (S.dj a m), fun a z => z.elim (fun e => ⟨u, e ▸ h⟩) (S.fzl a), fun k o h => by
    obtain ⟨a, u, e1, e2, e3⟩ := S.obj k o h
    exact ⟨a, u, e1, e2, RO.agr .still e3⟩⟩
/-- a new list that stands still -/
theorem Lat.newStill {p : Addr} {o : HO} (hp : H p = none) : Lat mu H (mu.still p) (upd H p o) :=
  ⟨List.prefix_rfl, fun _ h => .inr h, fun a u h n => ⟨by rw [upd_ne (ne_of_none h hp)]; exact h, n, fun z => z.elim (fun e => absurd e (ne_of_none h hp)) fun z => z⟩, fun a _ _ h => by rw [upd_ne (ne_of_none h hp)]; exact h⟩
theorem Sim.newStill (S : Sim K mg mu hs H) {p : Addr} {o : HO} (hp : H p = none) : Sim K mg (mu.still p) hs (upd H p o) := (S.new hp).still upd_same (S.fresh hp)
theorem Agr.own {p : Addr} {vs : List V} (h : H p = some (.lst vs)) : Agr mu H (mu.own p) H :=
  ⟨List.prefix_append _ _, fun _ h => h, fun _ _ h _ => h, fun a o e i n => ⟨e, by
    show a ∉ mu.l ++ [p]
    simp only [List.mem_append, List.mem_singleton, not_or]
    exact ⟨n, fun z => by rw [z, h] at e; cases e; exact i⟩⟩⟩
theorem getElem?_own {m : List Addr} {hs : Hs} {p : Addr} (h : m.length = hs.length) : (m ++ [p])[hs.length]? = some p := by
  rw [List.getElem?_append_right (by omega), h, Nat.sub_self]
  rfl
/-- what was just made becomes ours -/
theorem Sim.adopt {p : Addr} {o : O} {u : HO} (S : Sim K mg mu hs H) (h : H p = some u) (n : p ∉ mu.l) (nz : ¬ mu.fz p) (g : Agr mu H (mu.own p) H) (r : RO K mg mu H o u) : Sim K mg (mu.own p) (hs ++ [o]) H := by
  refine ⟨by simp [Mp.own, S.len], ?_, fun a m => ?_, S.fzl, fun k q hq => ?_⟩
  · show (mu.l ++ [p]).Nodup
    rw [List.nodup_append]
    exact ⟨S.nd, by simp, fun b hb c hc => by simp at hc; subst hc; exact fun z => n (z ▸ hb)⟩
  · rcases List.mem_append.mp (show a ∈ mu.l ++ [p] from m) with m | m
    · exact S.dj a m
    · rw [List.mem_singleton.mp m]; exact nz
  · by_cases hm : k < hs.length
    · rw [List.getElem?_append_left hm] at hq
      obtain ⟨b, w, e1, e2, e3⟩ := S.obj k q hq
      exact ⟨b, w, g.get e1, e2, RO.agr g e3⟩
    · rw [List.getElem?_append_right (by omega)] at hq
      have hm' : k = hs.length := by
        have := (List.getElem?_eq_some_iff.mp hq).1
        simp at this
        omega
      subst hm'
      rw [Nat.sub_self] at hq
      simp at hq
      subst hq
      exact ⟨p, u, getElem?_own S.len, h, RO.agr g r⟩
/-- an object of ours is changed -/
theorem Lat.write {n : Nat} {a : Addr} {u : HO} (e : mu.l[n]? = some a) (nf : ∀ o v, H a ≠ some (.frz o v)) : Lat mu H mu (upd H a u) :=
  ⟨List.prefix_rfl, fun _ h => h, fun b o h nm => ⟨by rw [upd_ne (fun z => nm (by rw [z]; exact List.mem_of_getElem? e))]; exact h, nm, fun z => z⟩, fun b o v h => by rw [upd_ne (fun z : b = a => nf o v (by rw [← z]; exact h))]; exact h⟩
theorem nfL {a : Addr} {vs : List V} (h : H a = some (.lst vs)) : ∀ o v, H a ≠ some (.frz o v) := fun o v z => by rw [h] at z; cases z
theorem nfK {a : Addr} {vs : List (Key × V)} (h : H a = some (.dK vs)) : ∀ o v, H a ≠ some (.frz o v) := fun o v z => by rw [h] at z; cases z
theorem nfT {a : Addr} {vs : List (List Key × V)} (h : H a = some (.dT vs)) : ∀ o v, H a ≠ some (.frz o v) := fun o v z => by rw [h] at z; cases z
theorem nfI {a C dx : Addr} {vs : List (Str × V)} (h : H a = some (.ins C dx vs)) : ∀ o v, H a ≠ some (.frz o v) := fun o v z => by rw [h] at z; cases z
theorem Agr.write (S : Sim K mg mu hs H) {n : Nat} {a : Addr} {u : HO} (e : mu.l[n]? = some a) : Agr mu H mu (upd H a u) :=
  ⟨List.prefix_rfl, fun _ h => h, fun b o h z => by rw [upd_ne (fun q : b = a => S.dj a (List.mem_of_getElem? e) (by rw [← q]; exact z))]; exact h, fun b o h _ nm => ⟨by rw [upd_ne (fun z => nm (by rw [z]; exact List.mem_of_getElem? e))]; exact h, nm⟩⟩
theorem Sim.write (S : Sim K mg mu hs H) {n : Nat} {a : Addr} {o : O} {u : HO} (e : mu.l[n]? = some a) (h : RO K mg mu H o u) : Sim K mg mu (hs.set n o) (upd H a u) := by
  have L : Agr mu H mu (upd H a u) := Agr.write S e
  have hn : n < mu.l.length := (List.getElem?_eq_some_iff.mp e).1
  refine ⟨by rw [List.length_set]; exact S.len, S.nd, S.dj, fun b z => ?_, fun m q hq => ?_⟩
  · obtain ⟨w, ew⟩ := S.fzl b z
    by_cases hb : b = a
    · exact ⟨u, by rw [hb, upd_same]⟩
    · exact ⟨w, by rw [upd_ne hb]; exact ew⟩
  by_cases hm : n = m
  · subst hm
    rw [List.getElem?_set_self (by rw [← S.len]; exact hn)] at hq
    cases hq
    exact ⟨a, u, e, upd_same, RO.agr L h⟩
  · rw [List.getElem?_set_ne hm] at hq
    obtain ⟨b, w, e1, e2, e3⟩ := S.obj m q hq
    refine ⟨b, w, e1, ?_, RO.agr L e3⟩
    rw [upd_ne]
    · exact e2
    · intro z
      rw [z] at e1
      obtain ⟨h1, g1⟩ := List.getElem?_eq_some_iff.mp e
      obtain ⟨h2, g2⟩ := List.getElem?_eq_some_iff.mp e1
      exact hm ((List.getElem_inj S.nd).mp (g1.trans g2.symm))
/-- a new thing that is ours -/
theorem Lat.newOwn (S : Sim K mg mu hs H) {p : Addr} {u : HO} (hp : H p = none) : Lat mu H (mu.own p) (upd H p u) :=
  ⟨List.prefix_append _ _, fun _ h => h, fun a o h n => by
    have ne := ne_of_none h hp
    refine ⟨by rw [upd_ne ne]; exact h, ?_, fun z => z⟩
    show a ∉ mu.l ++ [p]
    simp [n, ne], fun a _ _ h => by rw [upd_ne (ne_of_none h hp)]; exact h⟩
theorem Sim.newOwn (S : Sim K mg mu hs H) {p : Addr} {o : O} {u : HO} (hp : H p = none) (h : RO K mg mu H o u) : Sim K mg (mu.own p) (hs ++ [o]) (upd H p u) := by
  have L : Agr mu H (mu.own p) (upd H p u) := Lat.agr (.newOwn S hp) S
  have S2 := S.new (o := u) hp
  refine ⟨by simp [Mp.own, S.len], ?_, fun a m => ?_, S2.fzl, fun k q hq => ?_⟩
  · show (mu.l ++ [p]).Nodup
    rw [List.nodup_append]
    exact ⟨S.nd, by simp, fun b hb c hc => by simp at hc; subst hc; exact fun z => S.fresh hp (z ▸ hb)⟩
  · rcases List.mem_append.mp (show a ∈ mu.l ++ [p] from m) with m | m
    · exact S.dj a m
    · rw [List.mem_singleton.mp m]; exact S.freshz hp
  · by_cases hm : k < hs.length
    · rw [List.getElem?_append_left hm] at hq
      obtain ⟨b, w, e1, e2, e3⟩ := S.obj k q hq
      exact ⟨b, w, L.get e1, by rw [upd_ne (ne_of_none e2 hp)]; exact e2, RO.agr L e3⟩
    · rw [List.getElem?_append_right (by omega)] at hq
      have hm' : k = hs.length := by
        have := (List.getElem?_eq_some_iff.mp hq).1
        simp at this
        omega
      subst hm'
      rw [Nat.sub_self] at hq
      simp at hq
      subst hq
      exact ⟨p, u, getElem?_own S.len, upd_same, RO.agr L h⟩
/-- a thing that is neither ours nor stands still is changed: nothing of ours leans on it -/
theorem Agr.priv {p : Addr} {vs : List V} {o : HO} (h : H p = some (.lst vs)) (nz : ¬ mu.fz p) : Agr mu H mu (upd H p o) :=
  ⟨List.prefix_rfl, fun _ h => h, fun a us e z => by rw [upd_ne (show a ≠ p from fun q => nz (q ▸ z))]; exact e, fun a u e i n => ⟨by
    rw [upd_ne]
    · exact e
    · intro z; rw [z, h] at e; cases e; exact i, n⟩⟩
theorem Sim.priv {p : Addr} {vs : List V} {o : HO} (S : Sim K mg mu hs H) (h : H p = some (.lst vs)) (n : p ∉ mu.l) (nz : ¬ mu.fz p) : Sim K mg mu hs (upd H p o) :=
  ⟨S.len, S.nd, S.dj, fun a z => by
    obtain ⟨u, e⟩ := S.fzl a z
    exact ⟨u, by rw [upd_ne (show a ≠ p from fun q => nz (q ▸ z))]; exact e⟩, fun k q hq => by
    obtain ⟨a, u, e1, e2, e3⟩ := S.obj k q hq
    exact ⟨a, u, e1, by rw [upd_ne (fun z => n (by rw [← z]; exact List.mem_of_getElem? e1))]; exact e2, RO.agr (.priv h nz) e3⟩⟩
end
/-! # G2: what a function of ours says of a piece of the text; sequences -/
/-- an exception that leaves -/
def RX (K : PySem.W.Frag) (mg : Str → Option Value) (mu : Mp) (H : Hp) (c : Str) (fs : List (Str × D)) (cls : Value) (dx : Option Addr) : Prop :=
  ∃ C, cls = .ref C ∧ PySem.W.nsIn K mainGlobals c = some (some (.ref C)) ∧ ((fs = [] ∧ dx = none) ∨ ∃ a vs, dx = some a ∧ H a = some (.xd vs) ∧ a ∉ mu.l ∧ RKs K mu H fs vs)
theorem RX.mono {K : PySem.W.Frag} {mg : Str → Option Value} {mu mu' : Mp} {hs : Hs} {H H' : Hp} {c : Str} {fs : List (Str × D)} {cls : Value} {dx : Option Addr} (l : Lat mu H mu' H') (S : Sim K mg mu hs H) (h : RX K mg mu H c fs cls dx) : RX K mg mu' H' c fs cls dx := by
  obtain ⟨C, e1, e2, h | ⟨a, vs, h1, h2, h3, h4⟩⟩ := h
  · exact ⟨C, e1, e2, .inl h⟩
  · exact ⟨C, e1, e2, .inr ⟨a, vs, h1, (l.ext a _ h2 h3).1, (l.ext a _ h2 h3).2.1, RKs.agr (l.agr S) h4⟩⟩

/-- what stands for what, by the heap at the start -/
abbrev Rel (a b : Type) := Hp → Mp → Hs → Hp → a → b → Prop
def Rel.Ok {a b : Type} (r : Rel a b) : Prop := ∀ (m0 m1 m2 : Mp) (hs : Hs) (H0 H1 H2 : Hp) (x : a) (y : b), Lat m0 H0 m1 H1 → Lat m1 H1 m2 H2 → r H1 m2 hs H2 x y → r H0 m2 hs H2 x y
def relD (K : PySem.W.Frag) : Rel D V := fun _ mu _ H d v => RD K mu H d v
def relB : Rel Bool Bool := fun _ _ _ _ a b => a = b
def relA (K : PySem.W.Frag) : Rel (List D) (List V) := fun _ mu _ H d v => RDs K mu H d v
/-- a list just made -/
def relF (K : PySem.W.Frag) (mg : Str → Option Value) : Rel (List D) V := fun H0 mu hs H ds v => ∃ a vs, v = .ref a ∧ H a = some (.lst vs) ∧ a ∉ mu.l ∧ ¬ mu.fz a ∧ H0 a = none ∧ RDs K mu H ds vs
theorem relD_ok {K : PySem.W.Frag} : (relD K).Ok := fun _ _ _ _ _ _ _ _ _ _ _ h => h
theorem relB_ok : relB.Ok := fun _ _ _ _ _ _ _ _ _ _ _ h => h
theorem relA_ok {K : PySem.W.Frag} : (relA K).Ok := fun _ _ _ _ _ _ _ _ _ _ _ h => h
theorem relF_ok {K : PySem.W.Frag} {mg : Str → Option Value} : (relF K mg).Ok := fun m0 m1 m2 hs H0 H1 H2 ds v l l2 ⟨a, vs, e, h, n, nz, f, r⟩ =>
  ⟨a, vs, e, h, n, nz, l.back f fun z => n (l2.pre.subset (l.pre.subset z)), r⟩

/-- a result, begun at mu, H: what is wanted of it -/
def Gd {a b : Type} (r : Rel a b) (K : PySem.W.Frag) (mg : Str → Option Value) (Wd : WX) (σ : L2.St) (mu : Mp) (H : Hp) (Q : b → Hp → Prop) : R a → Prop
  | .ok x hs' => ∀ mu' H' y, Lat mu H mu' H' → Sim K mg mu' hs' H' → r H mu' hs' H' x y → Q y H'
  | .exc c fs hs' => ∀ mu' H' cls dx, Lat mu H mu' H' → Sim K mg mu' hs' H' → RX K mg mu' H' c fs cls dx → Wd cls dx σ H'
  | .bad => False
section
variable {a b a' b' : Type} {r : Rel a b} {r' : Rel a' b'} {K : PySem.W.Frag} {mg : Str → Option Value} {Wd : WX} {σ : L2.St} {mu mu1 : Mp} {H H1 : Hp}
theorem Gd.later (ok : r.Ok) (l : Lat mu H mu1 H1) {Q : b → Hp → Prop} {x : R a} (h : Gd r K mg Wd σ mu H Q x) : Gd r K mg Wd σ mu1 H1 Q x := by
  cases x with
  | ok x hs' => exact fun mu' H' y l' s' q => h mu' H' y (l.trans l') s' (ok _ _ _ _ _ _ _ _ _ l l' q)
  | exc c fs hs' => exact fun mu' H' cls dx l' s' q => h mu' H' cls dx (l.trans l') s' q
  | bad => exact h
theorem Gd.imp {Q Q' : b → Hp → Prop} {x : R a} (h : Gd r K mg Wd σ mu H Q x) (i : ∀ y H', Q y H' → Q' y H') : Gd r K mg Wd σ mu H Q' x := by
  cases x with
  | ok x hs' => exact fun mu' H' y l' s' q => i _ _ (h mu' H' y l' s' q)
  | exc c fs hs' => exact h
  | bad => exact h
/-- one behind the other -/
theorem Gd.bind (ok : r'.Ok) {Q : b' → Hp → Prop} {x : R a} {k : a → Hs → R a'} (h : Gd r' K mg Wd σ mu H Q (x.bind k)) :
    Gd r K mg Wd σ mu H (fun y H1 => ∃ mu1 hs1 x, Lat mu H mu1 H1 ∧ Sim K mg mu1 hs1 H1 ∧ r H mu1 hs1 H1 x y ∧ Gd r' K mg Wd σ mu1 H1 Q (k x hs1)) x := by
  cases x with
  | ok x hs' => exact fun mu' H' y l s q => ⟨mu', hs', x, l, s, q, Gd.later ok l h⟩
  | exc c fs hs' => exact h
  | bad => exact h
end

/-- the slots -/
structure RE (K : PySem.W.Frag) (mu : Mp) (H : Hp) (e : Ev) (σ : L2.St) : Prop where
  len : e.length = σ.length
  at_ : ∀ (i : Nat) (d : D), e[i]? = some (some d) → ∃ v, σ[i]? = some (some v) ∧ RD K mu H d v
theorem RE.agr {K : PySem.W.Frag} {mu mu' : Mp} {H H' : Hp} {e : Ev} {σ : L2.St} (l : Agr mu H mu' H') (h : RE K mu H e σ) : RE K mu' H' e σ :=
  ⟨h.len, fun i d q => let ⟨v, h1, h2⟩ := h.at_ i d q; ⟨v, h1, RD.agr l h2⟩⟩
theorem RE.set {K : PySem.W.Frag} {mu : Mp} {H : Hp} {e : Ev} {σ : L2.St} {d : D} {v : V} (h : RE K mu H e σ) (i : Nat) (r : RD K mu H d v) : RE K mu H (e.set i (some d)) (σ.set i (some v)) := by
  refine ⟨by rw [List.length_set, List.length_set]; exact h.len, fun j x q => ?_⟩
  by_cases hj : i = j
  · subst hj
    by_cases hi : i < e.length
    · rw [List.getElem?_set_self hi] at q
      cases q
      exact ⟨v, List.getElem?_set_self (by rw [← h.len]; exact hi), r⟩
    · rw [List.getElem?_eq_none (by simpa using hi)] at q; cases q
  · rw [List.getElem?_set_ne hj] at q
    rw [List.getElem?_set_ne hj]
    exact h.at_ j x q

/-- readings by our functions -/
def tG {a b : Type} (r : Rel a b) (K : PySem.W.Frag) (mg : Str → Option Value) (Wd : WX) (f : Ev → Hs → R a) : L2.St → Hp → (b → Hp → Prop) → Prop :=
  fun σ H Q => ∃ e mu hs, Sim K mg mu hs H ∧ RE K mu H e σ ∧ Gd r K mg Wd σ mu H Q (f e hs)

theorem PE.imp {X : Cx} {e : Expr} {t t' : TE} (h : PE X e t) (i : ∀ σ H Q, t' σ H Q → t σ H Q) : PE X e t' := ⟨fun pins s σ H Q I q => h.run pins s σ H Q I (i σ H Q q)⟩
theorem PT.imp {X : Cx} {e : Expr} {t t' : TT} (h : PT X e t) (i : ∀ σ H Q, t' σ H Q → t σ H Q) : PT X e t' := ⟨fun pins s σ H Q I q => h.run pins s σ H Q I (i σ H Q q)⟩
theorem PW.imp {X : Cx} {e : Expr} {t t' : TT} (h : PW X e t) (i : ∀ σ H Q, t' σ H Q → t σ H Q) : PW X e t' := ⟨fun wh pins s σ H Q I q => h.run wh pins s σ H Q I (i σ H Q q)⟩
theorem PA.imp {X : Cx} {e : List Expr} {t t' : TA} (h : PA X e t) (i : ∀ σ H Q, t' σ H Q → t σ H Q) : PA X e t' := ⟨fun pos pins s σ H Q I q => h.run pos pins s σ H Q I (i σ H Q q)⟩

/-- an expression; one whose list is new; a test; arguments -/
abbrev UE (X : Cx) (Wd : WX) (e : Expr) (f : FE) : Prop := PE X e (tG (relD X.K) X.K X.mg Wd f)
abbrev FL := Ev → Hs → R (List D)
abbrev UF (X : Cx) (Wd : WX) (e : Expr) (f : FL) : Prop := PE X e (tG (relF X.K X.mg) X.K X.mg Wd f)
abbrev UT (X : Cx) (Wd : WX) (e : Expr) (f : FT) : Prop := PT X e (tG relB X.K X.mg Wd f)
abbrev UW (X : Cx) (Wd : WX) (e : Expr) (f : FT) : Prop := PW X e (tG relB X.K X.mg Wd f)
abbrev UA (X : Cx) (Wd : WX) (es : List Expr) (f : FA) : Prop := PA X es (tG (relA X.K) X.K X.mg Wd f)

section
variable {X : Cx} {Wd : WX} {a b : Type} {r : Rel a b}
/-- from a reading of ours to the hand layer's, the first part run -/
theorem tG_seq {K : PySem.W.Frag} {mg : Str → Option Value} {a' b' : Type} {r' : Rel a' b'} (ok : r'.Ok) {f : Ev → Hs → R a} {k : Ev → a → Hs → R a'} {σ : L2.St} {H : Hp} {Q : b' → Hp → Prop}
    (h : tG r' K mg Wd (fun e hs => (f e hs).bind (k e)) σ H Q) :
    tG r K mg Wd f σ H (fun y H1 => ∃ e mu1 hs1 x, Sim K mg mu1 hs1 H1 ∧ RE K mu1 H1 e σ ∧ r H mu1 hs1 H1 x y ∧ Gd r' K mg Wd σ mu1 H1 Q (k e x hs1)) := by
  obtain ⟨e, mu, hs, S, E, g⟩ := h
  refine ⟨e, mu, hs, S, E, (Gd.bind (r := r) ok g).imp fun y H' ⟨mu1, hs1, x, l, s, q, g'⟩ => ⟨e, mu1, hs1, x, s, E.agr (l.agr S), q, g'⟩⟩

/-! ### names, constants -/
def eName (i : Nat) : FE := fun e hs => match e[i]? with
  | some (some d) => .ok d hs
  | _ => .bad
theorem ue_name (i : Nat) {x : Str} {pos : Pos} (hN : X.N[i]? = some x := by rfl) (hv : Vis X.env.scope x := by first | exact Or.inl rfl | exact Or.inr (Or.inl rfl) | exact Or.inr (Or.inr rfl)) (hd : (x == ("__debug__" : Str)) = false := by decide)
    (hcd : (x == ("__classdict__" : Str)) = false := by decide) : UE X Wd (.Name x pos) (eName i) := by
  refine PE.imp (pe_var hN hv hd hcd) fun σ H Q h => ?_
  obtain ⟨e, mu, hs, S, E, g⟩ := h
  unfold eName at g
  split at g
  · rename_i d q
    obtain ⟨v, h1, h2⟩ := E.at_ i d q
    exact ⟨v, h1, g mu H v .refl S h2⟩
  · exact g.elim
def eC (d : D) : FE := fun _ hs => .ok d hs
theorem uC {e : Expr} {v : V} {d : D} (h : PE X e (tC v)) (r : ∀ mu H, RD X.K mu H d v) : UE X Wd e (eC d) := by
  refine PE.imp h fun σ H Q h => ?_
  obtain ⟨e, mu, hs, S, E, g⟩ := h
  exact g mu H v .refl S (r mu H)
theorem ue_int {i : Int} {j : Nat} {pos : Pos} : UE X Wd (.Constant (.int i) j pos) (eC (.int i)) := uC pe_int fun _ _ => .int i
theorem ue_bl {i : Bool} {j : Nat} {pos : Pos} : UE X Wd (.Constant (.bool i) j pos) (eC (.bl i)) := uC pe_bl fun _ _ => .bl i
theorem ue_non {j : Nat} {pos : Pos} : UE X Wd (.Constant .none j pos) (eC .non) := uC pe_non fun _ _ => .non
theorem ue_str {i : Str} {j : Nat} {pos : Pos} : UE X Wd (.Constant (.str i) j pos) (eC (.str i)) := uC pe_str fun _ _ => .str i
/-- a constant of the module -/
theorem ue_glob {x : Str} {v : V} {d : D} {u : Value} {pos : Pos} (hg : Gl X x) (hm : X.mg x = some u) (q : RelV v u) (r : ∀ mu H, RD X.K mu H d v) (hd : (x == ("__debug__" : Str)) = false := by decide) : UE X Wd (.Name x pos) (eC d) := uC (pe_glob hg hm q hd) r

/-! ### arguments -/
def aNil : FA := fun _ hs => .ok [] hs
def aCons (f : FE) (g : FA) : FA := fun e hs => (f e hs).bind fun d hs => (g e hs).bind fun ds hs => .ok (d :: ds) hs
theorem ua_nil : UA X Wd [] aNil := by
  refine PA.imp pa_nil fun σ H Q h => ?_
  obtain ⟨e, mu, hs, S, E, g⟩ := h
  exact g mu H [] .refl S .nil
theorem ua_cons {e : Expr} {es : List Expr} {f : FE} {g : FA} (ha : UE X Wd e f) (hr : UA X Wd es g) (hs : starEach (e :: es) X.env = (false, eval e X.env) :: starEach es X.env := by rfl) : UA X Wd (e :: es) (aCons f g) := by
  refine PA.imp (pa_cons ha hr hs) fun σ H Q h => ?_
  obtain ⟨e, mu, hs, S, E, q⟩ := tG_seq (r := relD X.K) relA_ok h
  refine ⟨e, mu, hs, S, E, q.imp fun x H1 ⟨e, mu1, hs1, d, S1, E1, r1, g1⟩ => ?_⟩
  refine ⟨e, mu1, hs1, S1, E1, (Gd.bind (r := relA X.K) relA_ok g1).imp fun xs H2 ⟨mu2, hs2, ds, l2, S2, r2, g2⟩ => ?_⟩
  exact g2 mu2 H2 _ .refl S2 (.cons (RD.agr (l2.agr S1) r1) r2)

/-! ### new lists -/
/-- as a value: it stands still from now on -/
def eV (f : FL) : FE := fun e hs => (f e hs).bind fun ds hs => .ok (.lst ds) hs
theorem ue_v {e : Expr} {f : FL} (h : UF X Wd e f) : UE X Wd e (eV f) := by
  refine PE.imp h fun σ H Q h => ?_
  obtain ⟨e, mu, hs, S, E, g⟩ := h
  refine ⟨e, mu, hs, S, E, ?_⟩
  unfold eV at g
  cases q : f e hs with
  | ok ds hs' =>
    rw [q] at g
    intro mu' H' y l s ⟨a, vs, h1, h2, h3, h4, h5, h6⟩
    subst h1
    refine g (mu'.still a) H' _ ⟨l.pre, fun b z => .inr (l.sub b z), fun b o hb nb => ?_, l.frz⟩ (s.still h2 h3) (.lst h2 (.inl rfl) (RDs.agr .still h6))
    have := l.ext b o hb nb
    exact ⟨this.1, this.2.1, fun z => z.elim (fun e => absurd e (ne_of_none hb h5)) this.2.2⟩
  | exc c fs hs' => rw [q] at g; exact g
  | bad => rw [q] at g; exact g
/-- as an object that may change: it is ours from now on -/
def eM (f : FL) : FE := fun e hs => (f e hs).bind fun ds hs => .ok (.ref hs.length) (hs ++ [.lst ds])
theorem ue_m {e : Expr} {f : FL} (h : UF X Wd e f) : UE X Wd e (eM f) := by
  refine PE.imp h fun σ H Q h => ?_
  obtain ⟨e, mu, hs, S, E, g⟩ := h
  refine ⟨e, mu, hs, S, E, ?_⟩
  unfold eM at g
  cases q : f e hs with
  | ok ds hs' =>
    rw [q] at g
    intro mu' H' y l s ⟨a, vs, h1, h2, h3, h4, h5, h6⟩
    subst h1
    refine g (mu'.own a) H' _ ⟨l.pre.trans (List.prefix_append _ _), l.sub, fun b o hb nb => ?_, l.frz⟩ (s.adopt h2 h3 h4 (.own h2) h6) (.ref (getElem?_own s.len))
    have := l.ext b o hb nb
    refine ⟨this.1, ?_, this.2.2⟩
    show b ∉ mu'.l ++ [a]
    simp only [List.mem_append, List.mem_singleton, not_or]
    exact ⟨this.2.1, ne_of_none hb h5⟩
  | exc c fs hs' => rw [q] at g; exact g
  | bad => rw [q] at g; exact g
/-- [a, b, ..] -/
theorem uf_lst {es : List Expr} {pos : Pos} {f : FA} (h : UA X Wd es f) (hz : es.length ≤ sizeLine) (hl : ∀ e hs ds hs', f e hs = .ok ds hs' → ds.length = es.length) : UF X Wd (.List es pos) f := by
  refine PE.imp (pe_lst h) fun σ H Q h => ?_
  obtain ⟨e, mu, hs, S, E, g⟩ := h
  refine ⟨e, mu, hs, S, E, ?_⟩
  cases q : f e hs with
  | ok ds hs' =>
    rw [q] at g
    intro mu' H' y l s r
    refine ⟨by rw [← RDs.length r, hl _ _ _ _ q]; exact hz, fun p hp => ?_⟩
    exact g mu' _ _ (l.trans (.new hp)) (s.new hp) ⟨p, y, rfl, upd_same, s.fresh hp, s.freshz hp, l.back hp fun z => s.fresh hp (l.pre.subset z), RDs.agr (Lat.agr (.new hp) s) r⟩
  | exc c fs hs' => rw [q] at g; exact g
  | bad => rw [q] at g; exact g
/-- (a, b, ..) -/
def eTup (f : FA) : FE := fun e hs => (f e hs).bind fun ds hs => .ok (.tup ds) hs
theorem ue_tup {es : List Expr} {k : Nat} {pos : Pos} {f : FA} (h : UA X Wd es f) (hz : es.length ≤ sizeLine) (hl : ∀ e hs ds hs', f e hs = .ok ds hs' → ds.length = es.length) : UE X Wd (.Tuple es k pos) (eTup f) := by
  refine PE.imp (pe_tup h) fun σ H Q h => ?_
  obtain ⟨e, mu, hs, S, E, g⟩ := h
  refine ⟨e, mu, hs, S, E, ?_⟩
  unfold eTup at g
  cases q : f e hs with
  | ok ds hs' =>
    rw [q] at g
    intro mu' H' y l s r
    refine ⟨by rw [← RDs.length r, hl _ _ _ _ q]; exact hz, fun p hp => ?_⟩
    exact g mu' _ _ (l.trans (.new hp)) (s.new hp) (.tup ⟨upd_same, s.fresh hp⟩ (RDs.agr (Lat.agr (.new hp) s) r))
  | exc c fs hs' => rw [q] at g; exact g
  | bad => rw [q] at g; exact g
/-- as many as are written -/
theorem len_nil : ∀ e hs ds hs', aNil e hs = .ok ds hs' → ds.length = 0 := fun e hs ds hs' h => by cases h; rfl
theorem len_cons {f : FE} {g : FA} {n : Nat} (h : ∀ e hs ds hs', g e hs = .ok ds hs' → ds.length = n) : ∀ e hs ds hs', aCons f g e hs = .ok ds hs' → ds.length = n + 1 := fun e hs ds hs' q => by
  unfold aCons at q
  cases q1 : f e hs with
  | ok d h1 =>
    rw [q1] at q
    rw [R.bind_ok] at q
    cases q2 : g e h1 with
    | ok es h2 =>
      rw [q2] at q
      cases q
      rw [List.length_cons, h _ _ _ _ q2]
    | exc c fs h2 => rw [q2] at q; cases q
    | bad => rw [q2] at q; cases q
  | exc c fs h2 => rw [q1] at q; cases q
  | bad => rw [q1] at q; cases q
end
/-! # G3: operators, comparisons, subscripts, truth -/
/-- a list's items, where it may be changed or is new; of any list that may be read; a tuple's -/
def lstOf (hs : Hs) : D → Option (List D)
  | .lst ds => some ds
  | .ref n => match hs[n]? with | some (.lst ds) => some ds | _ => none
  | _ => none
def rdOf (hs : Hs) : D → Option (List D)
  | .scr ds => some ds
  | d => lstOf hs d
def tupOf : D → Option (List D)
  | .tup ds => some ds
  | .ctp ds => some ds
  | _ => none
section
variable {K : PySem.W.Frag} {mg : Str → Option Value} {mu : Mp} {hs : Hs} {H : Hp} {d : D} {v : V} {ds : List D}
theorem lstOf_at (S : Sim K mg mu hs H) (r : RD K mu H d v) (e : lstOf hs d = some ds) : ∃ a vs, v = .ref a ∧ H a = some (.lst vs) ∧ RDs K mu H ds vs := by
  cases r with
  | lst q n r => cases e; exact ⟨_, _, rfl, q, r⟩
  | ref q =>
    unfold lstOf at e
    dsimp only at e
    split at e
    · rename_i ds' he
      cases e
      obtain ⟨u, h1, h2⟩ := S.at q he
      cases u <;> first | exact ⟨_, _, rfl, h1, h2⟩ | exact h2.elim
    · cases e
  | _ => cases e
theorem rdOf_at (S : Sim K mg mu hs H) (r : RD K mu H d v) (e : rdOf hs d = some ds) : ∃ a vs, v = .ref a ∧ SqL K H a vs ∧ RDs K mu H ds vs := by
  cases r with
  | scr q r => cases e; exact ⟨_, _, rfl, q.sq, r⟩
  | lst q n r => cases e; exact ⟨_, _, rfl, .of q, r⟩
  | ref q =>
    obtain ⟨a, vs, h1, h2, h3⟩ := lstOf_at (d := .ref _) S (.ref q) e
    exact ⟨a, vs, h1, .of h2, h3⟩
  | _ => cases e
theorem tupOf_at (r : RD K mu H d v) (e : tupOf d = some ds) : ∃ a vs, v = .ref a ∧ SqT K H a vs ∧ RDs K mu H ds vs := by
  cases r with
  | tup q r => cases e; exact ⟨_, _, rfl, q.sq, r⟩
  | ctp q r => cases e; exact ⟨_, _, rfl, sqT_c q, r⟩
  | _ => cases e
end

/-! ### by values -/
/-- an operator by values: our heap stays as it is -/
def rB (K : PySem.W.Frag) (mg : Str → Option Value) (g : Hs → D → D → Option D) : R2 := fun x y H Q => ∃ mu hs d e w, Sim K mg mu hs H ∧ RD K mu H d x ∧ RD K mu H e y ∧ g hs d e = some w ∧
  ∀ mu' H' v, Lat mu H mu' H' → Sim K mg mu' hs H' → RD K mu' H' w v → Q v H'
def rU1 (K : PySem.W.Frag) (mg : Str → Option Value) (g : Hs → D → Option D) : V → Hp → VK → Prop := fun x H Q => ∃ mu hs d w, Sim K mg mu hs H ∧ RD K mu H d x ∧ g hs d = some w ∧
  ∀ mu' H' v, Lat mu H mu' H' → Sim K mg mu' hs H' → RD K mu' H' w v → Q v H'
def R.ofO {a : Type} (o : Option a) (hs : Hs) : R a := match o with | some x => .ok x hs | none => .bad
def eBin (g : Hs → D → D → Option D) (f1 f2 : FE) : FE := fun e hs => (f1 e hs).bind fun x hs => (f2 e hs).bind fun y hs => R.ofO (g hs x y) hs
def eUn (g : Hs → D → Option D) (f1 : FE) : FE := fun e hs => (f1 e hs).bind fun x hs => R.ofO (g hs x) hs
section
variable {X : Cx} {Wd : WX} {a b : Expr} {f1 f2 : FE} {pos : Pos} {g : Hs → D → D → Option D} {g1 : Hs → D → Option D}
theorem tG_bin {K : PySem.W.Frag} {mg : Str → Option Value} {σ : L2.St} {H : Hp} {Q : VK} (h : tG (relD K) K mg Wd (eBin g f1 f2) σ H Q) :
    tOp (rB K mg g) (tG (relD K) K mg Wd f1) (tG (relD K) K mg Wd f2) σ H Q := by
  obtain ⟨e, mu, hs, S, E, q⟩ := tG_seq (r := relD K) relD_ok h
  refine ⟨e, mu, hs, S, E, q.imp fun x H1 ⟨e, mu1, hs1, d, S1, E1, r1, g1⟩ => ?_⟩
  refine ⟨e, mu1, hs1, S1, E1, (Gd.bind (r := relD K) relD_ok g1).imp fun y H2 ⟨mu2, hs2, d2, l2, S2, r2, g2⟩ => ?_⟩
  cases q : g hs2 d d2 with
  | none => rw [q] at g2; exact g2.elim
  | some w => rw [q] at g2; exact ⟨mu2, hs2, d, d2, w, S2, RD.agr (l2.agr S1) r1, r2, q, g2⟩
theorem tG_un {K : PySem.W.Frag} {mg : Str → Option Value} {σ : L2.St} {H : Hp} {Q : VK} (h : tG (relD K) K mg Wd (eUn g1 f1) σ H Q) :
    tG (relD K) K mg Wd f1 σ H (fun x H1 => rU1 K mg g1 x H1 Q) := by
  obtain ⟨e, mu, hs, S, E, q⟩ := tG_seq (r := relD K) relD_ok h
  refine ⟨e, mu, hs, S, E, q.imp fun x H1 ⟨e, mu1, hs1, d, S1, E1, r1, g2⟩ => ?_⟩
  cases q : g1 hs1 d with
  | none => rw [q] at g2; exact g2.elim
  | some w => rw [q] at g2; exact ⟨mu1, hs1, d, w, S1, r1, q, g2⟩
theorem ue_bin {op : Operator} (ho : OpR X (binaryOp op) (rB X.K X.mg g)) (ha : UE X Wd a f1) (hb : UE X Wd b f2) : UE X Wd (.BinOp a op b pos) (eBin g f1 f2) := PE.imp (pe_op ho ha hb) fun _ _ _ h => tG_bin h
theorem ue_cmp {op : CmpOp} (ho : OpR X (compareOp op) (rB X.K X.mg g)) (ha : UE X Wd a f1) (hb : UE X Wd b f2) (hm : behindInMarks op b = false := by first | exact nomark _ | rfl) : UE X Wd (.Compare a [op] [b] pos) (eBin g f1 f2) := PE.imp (pe_cmpR ho ha hb hm) fun _ _ _ h => tG_bin h
/-- a value that is a bool, as a test -/
def eB (f : FE) : FT := fun e hs => (f e hs).bind fun d hs => match d with | .bl b => .ok b hs | _ => .bad
theorem tG_bool {K : PySem.W.Frag} {mg : Str → Option Value} {σ : L2.St} {H : Hp} {f : FE} {Q : Bool → Hp → Prop} (h : tG relB K mg Wd (eB f) σ H Q) : tG (relD K) K mg Wd f σ H (fun x H1 => ∃ k, x = .bl k ∧ Q k H1) := by
  obtain ⟨e, mu, hs, S, E, q⟩ := tG_seq (r := relD K) relB_ok h
  refine ⟨e, mu, hs, S, E, q.imp fun x H1 ⟨e, mu1, hs1, d, S1, E1, r1, g2⟩ => ?_⟩
  cases r1 <;> first | exact ⟨_, rfl, g2 mu1 H1 _ .refl S1 rfl⟩ | exact g2.elim
theorem ut_cmp {op : CmpOp} (ho : OpR X (compareOp op) (rB X.K X.mg g)) (ha : UE X Wd a f1) (hb : UE X Wd b f2) (hm : behindInMarks op b = false := by first | exact nomark _ | rfl) : UT X Wd (.Compare a [op] [b] pos) (eB (eBin g f1 f2)) :=
  PT.imp (pt_cmpR ho ha hb hm) fun σ H Q h => tG_bin_t h
where tG_bin_t {σ : L2.St} {H : Hp} {Q : Bool → Hp → Prop} (h : tG relB X.K X.mg Wd (eB (eBin g f1 f2)) σ H Q) : tTest (tOp (rB X.K X.mg g) (tG (relD X.K) X.K X.mg Wd f1) (tG (relD X.K) X.K X.mg Wd f2)) σ H Q := tG_bin (tG_bool h)
/-- a < b < c -/
def eChain (g g' : Hs → D → D → Option D) (f1 f2 f3 : FE) : FE := fun e hs => (f1 e hs).bind fun x hs => (f2 e hs).bind fun y hs => (R.ofO (g hs x y) hs).bind fun k hs => match k with
  | .bl true => (f3 e hs).bind fun z hs => R.ofO (g' hs y z) hs
  | .bl false => .ok (.bl false) hs
  | _ => .bad
theorem tG_chain {K : PySem.W.Frag} {mg : Str → Option Value} {g' : Hs → D → D → Option D} {f3 : FE} {σ : L2.St} {H : Hp} {Q : VK} (h : tG (relD K) K mg Wd (eChain g g' f1 f2 f3) σ H Q) :
    tChain (rB K mg g) (rB K mg g') (tG (relD K) K mg Wd f1) (tG (relD K) K mg Wd f2) (tG (relD K) K mg Wd f3) σ H Q := by
  obtain ⟨e, mu, hs, S, E, q⟩ := tG_seq (r := relD K) relD_ok h
  refine ⟨e, mu, hs, S, E, q.imp fun x H1 ⟨e, mu1, hs1, d, S1, E1, r1, g1⟩ => ?_⟩
  refine ⟨e, mu1, hs1, S1, E1, (Gd.bind (r := relD K) relD_ok g1).imp fun y H2 ⟨mu2, hs2, d2, l2, S2, r2, g2⟩ => ?_⟩
  cases q : g hs2 d d2 with
  | none => rw [q] at g2; exact g2.elim
  | some w =>
    rw [q] at g2
    refine ⟨mu2, hs2, d, d2, w, S2, RD.agr (l2.agr S1) r1, r2, q, fun mu3 H3 v l3 S3 r3 => ?_⟩
    cases r3 <;> first
      | (rename_i k
         refine ⟨k, rfl, ?_⟩
         cases k with
         | true =>
           rw [if_pos rfl]
           have g3 : Gd (relD K) K mg Wd σ mu2 H2 Q ((f3 e hs2).bind fun z hs => R.ofO (g' hs d2 z) hs) := g2
           refine ⟨e, mu3, hs2, S3, (E1.agr (l2.agr S1)).agr (l3.agr S2), (Gd.bind (r := relD K) relD_ok (Gd.later relD_ok l3 g3)).imp fun z H4 ⟨mu4, hs4, d4, l4, S4, r4, g4⟩ => ?_⟩
           cases q' : g' hs4 d2 d4 with
           | none => rw [q'] at g4; exact g4.elim
           | some w' => rw [q'] at g4; exact ⟨mu4, hs4, d2, d4, w', S4, RD.agr (l4.agr S3) (RD.agr (l3.agr S2) r2), r4, q', g4⟩
         | false =>
           rw [if_neg Bool.false_ne_true]
           exact g2 mu3 H3 _ l3 S3 (.bl false))
      | exact g2.elim
theorem ut_chain {op op' : CmpOp} {c : Expr} {g' : Hs → D → D → Option D} {f3 : FE} (ho : OpR X (compareOp op) (rB X.K X.mg g)) (ho' : OpR X (compareOp op') (rB X.K X.mg g')) (ha : UE X Wd a f1) (hb : UE X Wd b f2) (hc : UE X Wd c f3)
    (hm : lastMarks [op, op'] [b, c] = false := by with_unfolding_all rfl) : UT X Wd (.Compare a [op, op'] [b, c] pos) (eB (eChain g g' f1 f2 f3)) := PT.imp (pt_chain ho ho' ha hb hc hm) fun _ _ _ h => tG_chain (tG_bool h)

/-! ### truth, and, or, not -/
def tru (hs : Hs) : D → Option Bool
  | .non => some false
  | .bl b => some b
  | .int i => some (i != 0)
  | .str s => if s.length ≤ sizeLine then some ((s.length : Int) != 0) else none
  | .tup ds => some (!ds.isEmpty)
  | .ctp ds => some (!ds.isEmpty)
  | .dct ks ds => some (!(ks.zip ds).isEmpty)
  | .dtp _ _ => none
  | .dlk _ _ => none
  | .dlt _ _ => none
  | .ins _ _ _ => none
  | .glb _ => none
  | .exn _ _ _ => none
  | .ref n => (match hs[n]? with | some (.lst ds) => some (!ds.isEmpty) | some (.dk kvs) => some (!kvs.isEmpty) | _ => none)
  | d => (rdOf hs d).map fun ds => !ds.isEmpty
def eT (f : FE) : FT := fun e hs => (f e hs).bind fun d hs => R.ofO (tru hs d) hs
theorem isEmpty_of {K : PySem.W.Frag} {mu : Mp} {H : Hp} {ds : List D} {vs : List V} (r : RDs K mu H ds vs) : ds.isEmpty = vs.isEmpty := by cases r <;> rfl
theorem isEmpty_zip {K : PySem.W.Frag} {mu : Mp} {H : Hp} {ds : List D} {vs : List V} (r : RDs K mu H ds vs) {ks : List Key} : (ks.zip ds).isEmpty = (ks.zip vs).isEmpty := by
  cases r <;> cases ks <;> rfl
theorem ut_truth (ha : UE X Wd a f1) (he : ∀ whole, isTrue a X.env whole = (do let v ← whole; standAt a.pos; holding [v] (truthy v)) := by intro _; rfl) : UT X Wd a (eT f1) := by
  refine PT.imp (pt_truth ha he) fun σ H Q h => ?_
  obtain ⟨e, mu, hs, S, E, q⟩ := tG_seq (r := relD X.K) relB_ok h
  refine ⟨e, mu, hs, S, E, q.imp fun x H1 ⟨e, mu1, hs1, d, S1, E1, r1, g2⟩ => ?_⟩
  cases q : tru hs1 d with
  | none => rw [q] at g2; exact g2.elim
  | some k =>
    rw [q] at g2
    refine ⟨k, ?_, g2 mu1 H1 k .refl S1 rfl⟩
    cases r1 with
    | non => cases q; rfl
    | bl b => cases q; rfl
    | int i => cases q; rfl
    | str s =>
      unfold tru at q
      dsimp only at q
      split at q
      · cases q; exact ⟨by assumption, rfl⟩
      · cases q
    | tup h r => cases q; exact .inr (.inl ⟨_, h.sq, by rw [isEmpty_of r]⟩)
    | lst h n r => cases q; exact .inl ⟨_, .of h, by show (!List.isEmpty _) = _; rw [isEmpty_of r]⟩
    | scr h r => cases q; exact .inl ⟨_, h.sq, by show (!List.isEmpty _) = _; rw [isEmpty_of r]⟩
    | ref h =>
      unfold tru at q
      dsimp only at q
      split at q
      · rename_i ds hd
        cases q
        obtain ⟨u, e2, e3⟩ := S1.at h hd
        cases u with
        | lst vs => exact .inl ⟨vs, .of e2, by rw [isEmpty_of (show RDs _ _ _ ds vs from e3)]⟩
        | _ => exact e3.elim
      · rename_i kvs hd
        cases q
        obtain ⟨u, e2, e3⟩ := S1.at h hd
        cases u with
        | dK vs =>
          refine .inr (.inr ⟨vs, e2, ?_⟩)
          cases (show RKs _ _ _ kvs vs from e3) <;> rfl
        | _ => exact e3.elim
      · cases q
    | ty t => cases q
    | dtp _ _ _ _ => cases q
    | ins _ _ _ _ _ => cases q
    | glb _ => cases q
    | dlk _ _ _ => cases q
    | dlt _ _ _ => cases q
    | exn0 _ _ => cases q
    | exnd _ _ _ _ _ => cases q
    | ctp h r => cases q; exact .inr (.inl ⟨_, sqT_c h, by rw [isEmpty_of r]⟩)
    | dct h n z r =>
      cases q
      refine .inr (.inr ⟨_, h, ?_⟩)
      show (!List.isEmpty _) = !List.isEmpty _
      congr 1
      exact isEmpty_zip r
def tAndF (f g : FT) : FT := fun e hs => (f e hs).bind fun c hs => if c = true then g e hs else .ok false hs
def tOrF (f g : FT) : FT := fun e hs => (f e hs).bind fun c hs => if c = true then .ok true hs else g e hs
def tNotF (f : FT) : FT := fun e hs => (f e hs).bind fun c hs => .ok (!c) hs
variable {t1 t2 : FT} {rest : List Expr}
theorem uw_and1 (ha : UT X Wd a t1) : UW X Wd (.BoolOp .And [a] pos) t1 := pw_and1 ha
theorem uw_or1 (ha : UT X Wd a t1) : UW X Wd (.BoolOp .Or [a] pos) t1 := pw_or1 ha
theorem uw_and (ha : UT X Wd a t1) (hb : UW X Wd (.BoolOp .And (b :: rest) pos) t2) : UW X Wd (.BoolOp .And (a :: b :: rest) pos) (tAndF t1 t2) := by
  refine PW.imp (pw_and ha hb) fun σ H Q h => ?_
  obtain ⟨e, mu, hs, S, E, q⟩ := tG_seq (r := relB) relB_ok h
  refine ⟨e, mu, hs, S, E, q.imp fun c H1 ⟨e, mu1, hs1, d, S1, E1, r1, g2⟩ => ?_⟩
  have r1 : d = c := r1
  subst r1
  cases d with
  | true => rw [if_pos rfl] at g2 ⊢; exact ⟨e, mu1, hs1, S1, E1, g2⟩
  | false => rw [if_neg Bool.false_ne_true] at g2 ⊢; exact g2 mu1 H1 _ .refl S1 rfl
theorem uw_or (ha : UT X Wd a t1) (hb : UW X Wd (.BoolOp .Or (b :: rest) pos) t2) : UW X Wd (.BoolOp .Or (a :: b :: rest) pos) (tOrF t1 t2) := by
  refine PW.imp (pw_or ha hb) fun σ H Q h => ?_
  obtain ⟨e, mu, hs, S, E, q⟩ := tG_seq (r := relB) relB_ok h
  refine ⟨e, mu, hs, S, E, q.imp fun c H1 ⟨e, mu1, hs1, d, S1, E1, r1, g2⟩ => ?_⟩
  have r1 : d = c := r1
  subst r1
  cases d with
  | true => rw [if_pos rfl] at g2 ⊢; exact g2 mu1 H1 _ .refl S1 rfl
  | false => rw [if_neg Bool.false_ne_true] at g2 ⊢; exact ⟨e, mu1, hs1, S1, E1, g2⟩
theorem ut_w {e : Expr} (h : UW X Wd e t1) : UT X Wd e t1 := PW.pt h
theorem ut_not (ha : UT X Wd a t1) : UT X Wd (.UnaryOp .Not a pos) (tNotF t1) := by
  refine PT.imp (pt_not ha) fun σ H Q h => ?_
  obtain ⟨e, mu, hs, S, E, q⟩ := tG_seq (r := relB) relB_ok h
  refine ⟨e, mu, hs, S, E, q.imp fun c H1 ⟨e, mu1, hs1, d, S1, E1, r1, g2⟩ => ?_⟩
  have r1 : d = c := r1
  subst r1
  exact g2 mu1 H1 _ .refl S1 rfl
/-- .. as values (bools) -/
def eAnd (f g : FE) : FE := fun e hs => (f e hs).bind fun d hs => match d with | .bl true => g e hs | .bl false => .ok (.bl false) hs | _ => .bad
def eOr (f g : FE) : FE := fun e hs => (f e hs).bind fun d hs => match d with | .bl true => .ok (.bl true) hs | .bl false => g e hs | _ => .bad
def eNot (f : FE) : FE := fun e hs => (f e hs).bind fun d hs => match d with | .bl b => .ok (.bl (!b)) hs | _ => .bad
theorem ue_one {op : BoolOp} (ha : UE X Wd a f1) : UE X Wd (.BoolOp op [a] pos) f1 := pe_one ha
theorem ue_and (ha : UE X Wd a f1) (hb : UE X Wd (.BoolOp .And (b :: rest) pos) f2) : UE X Wd (.BoolOp .And (a :: b :: rest) pos) (eAnd f1 f2) := by
  refine PE.imp (pe_and ha hb) fun σ H Q h => ?_
  obtain ⟨e, mu, hs, S, E, q⟩ := tG_seq (r := relD X.K) relD_ok h
  refine ⟨e, mu, hs, S, E, q.imp fun c H1 ⟨e, mu1, hs1, d, S1, E1, r1, g2⟩ => ?_⟩
  cases r1 with
  | bl k =>
    refine ⟨k, rfl, ?_⟩
    cases k with
    | true => rw [if_pos rfl]; exact ⟨e, mu1, hs1, S1, E1, g2⟩
    | false => rw [if_neg Bool.false_ne_true]; exact g2 mu1 H1 _ .refl S1 (.bl false)
  | _ => exact g2.elim
theorem ue_or (ha : UE X Wd a f1) (hb : UE X Wd (.BoolOp .Or (b :: rest) pos) f2) : UE X Wd (.BoolOp .Or (a :: b :: rest) pos) (eOr f1 f2) := by
  refine PE.imp (pe_or ha hb) fun σ H Q h => ?_
  obtain ⟨e, mu, hs, S, E, q⟩ := tG_seq (r := relD X.K) relD_ok h
  refine ⟨e, mu, hs, S, E, q.imp fun c H1 ⟨e, mu1, hs1, d, S1, E1, r1, g2⟩ => ?_⟩
  cases r1 with
  | bl k =>
    refine ⟨k, rfl, ?_⟩
    cases k with
    | true => rw [if_pos rfl]; exact g2 mu1 H1 _ .refl S1 (.bl true)
    | false => rw [if_neg Bool.false_ne_true]; exact ⟨e, mu1, hs1, S1, E1, g2⟩
  | _ => exact g2.elim
theorem ue_not (ha : UE X Wd a f1) : UE X Wd (.UnaryOp .Not a pos) (eNot f1) := by
  refine PE.imp (pe_not ha) fun σ H Q h => ?_
  obtain ⟨e, mu, hs, S, E, q⟩ := tG_seq (r := relD X.K) relD_ok h
  refine ⟨e, mu, hs, S, E, q.imp fun c H1 ⟨e, mu1, hs1, d, S1, E1, r1, g2⟩ => ?_⟩
  cases r1 with
  | bl k => exact ⟨k, rfl, g2 mu1 H1 _ .refl S1 (.bl _)⟩
  | _ => exact g2.elim
def eIf (t : FT) (f g : FE) : FE := fun e hs => (t e hs).bind fun c hs => if c = true then f e hs else g e hs
end
/-! # G4: the operators one by one -/
section
variable {K : PySem.W.Frag} {mg : Str → Option Value} {mu : Mp} {hs : Hs} {H : Hp} {Q : VK} {w : D}
theorem fin0 {v : V} (S : Sim K mg mu hs H) (q : ∀ mu' H' v, Lat mu H mu' H' → Sim K mg mu' hs H' → RD K mu' H' w v → Q v H') (r : RD K mu H w v) : Q v H := q mu H v .refl S r
theorem finL {p : Addr} {vs : List V} {ds : List D} (S : Sim K mg mu hs H) (q : ∀ mu' H' v, Lat mu H mu' H' → Sim K mg mu' hs H' → RD K mu' H' (.lst ds) v → Q v H') (hp : H p = none) (r : RDs K mu H ds vs) : Q (.ref p) (upd H p (.lst vs)) :=
  q (mu.still p) _ _ (.newStill hp) (S.newStill hp) (.lst upd_same (.inl rfl) (RDs.agr (Lat.agr (.newStill hp) S) r))
theorem finT {p : Addr} {vs : List V} {ds : List D} (S : Sim K mg mu hs H) (q : ∀ mu' H' v, Lat mu H mu' H' → Sim K mg mu' hs H' → RD K mu' H' (.tup ds) v → Q v H') (hp : H p = none) (r : RDs K mu H ds vs) : Q (.ref p) (upd H p (.tup vs)) :=
  q mu _ _ (.new hp) (S.new hp) (.tup ⟨upd_same, S.fresh hp⟩ (RDs.agr (Lat.agr (.new hp) S) r))
end

section
variable {X : Cx}
/-! ### arithmetic -/
def gAddL (hs : Hs) (d e : D) : Option D := match lstOf hs d with
  | some xs => match lstOf hs e with
    | some ys => if xs.length + ys.length ≤ sizeLine then some (.lst (xs ++ ys)) else none
    | none => none
  | none => none
/-- a truth as a number -/
def bI (b : Bool) : Int := if b = true then 1 else 0
def gAdd (hs : Hs) (d e : D) : Option D := match d with
  | .int i => match e with | .int j => some (.int (i + j)) | .bl q => some (.int (i + bI q)) | _ => none
  | .bl p => match e with | .int j => some (.int (bI p + j)) | _ => none
  | .str x => match e with | .str y => if x.length + y.length ≤ sizeLine then some (.str (x ++ y)) else none | _ => none
  | .tup xs => match e with | .tup ys => if xs.length + ys.length ≤ sizeLine then some (.tup (xs ++ ys)) else none | _ => none
  | d => gAddL hs d e
theorem og_add_lst {op : OpR X (binaryOp .Add) rCat} {pins : List (Addr × Obj)} {s : Shared} {σ : L2.St} {H : Hp} {x y : V} {v u : Value} {Q : VK} (I : Inv X pins σ H s) (rx : RelV x v) (ry : RelV y u) {mu : Mp} {hs : Hs} {d e w : D}
    (S : Sim X.K X.mg mu hs H) (r1 : RD X.K mu H d x) (r2 : RD X.K mu H e y) (hg : gAddL hs d e = some w) (q : ∀ mu' H' v, Lat mu H mu' H' → Sim X.K X.mg mu' hs H' → RD X.K mu' H' w v → Q v H') : wpAny (model X.prog X.w) X.A (binaryOp .Add v u) (EP X pins σ Q) X.xe s := by
  unfold gAddL at hg
  split at hg
  · rename_i xs hx
    split at hg
    · rename_i ys hy
      split at hg
      · rename_i hz
        cases hg
        obtain ⟨a, vs, rfl, ha, ra⟩ := lstOf_at S r1 hx
        obtain ⟨b, us, rfl, hb, rb⟩ := lstOf_at S r2 hy
        exact op pins s σ H _ _ v u Q I rx ry ⟨a, b, vs, us, rfl, rfl, ha, hb, by rw [← ra.length, ← rb.length]; exact hz, fun p hp => finL S q hp (ra.append rb)⟩
      · cases hg
    · cases hg
  · cases hg
theorem og_add : OpR X (binaryOp .Add) (rB X.K X.mg gAdd) := by
  rintro pins s σ H x y v u Q I rx ry ⟨mu, hs, d, e, w, S, r1, r2, hg, q⟩
  cases d with
  | int i =>
    unfold gAdd at hg; dsimp only at hg
    split at hg
    · cases hg; cases r1; cases r2
      exact op_add pins s σ H _ _ v u Q I rx ry ⟨_, _, rfl, rfl, fin0 S q (.int _)⟩
    · cases hg; cases r1; cases r2
      obtain ⟨t, rfl⟩ := rx
      cases ry
      exact add_int_bool ⟨.int _, H, I.tok _, ⟨_, rfl⟩, fin0 S q (.int _)⟩
    · cases hg
  | bl p =>
    unfold gAdd at hg; dsimp only at hg
    split at hg
    · cases hg; cases r1; cases r2
      obtain ⟨t, rfl⟩ := ry
      cases rx
      exact PySem.IntBool.add_bool_int ⟨.int _, H, I.tok _, ⟨_, rfl⟩, fin0 S q (.int _)⟩
    · cases hg
  | str a =>
    unfold gAdd at hg; dsimp only at hg
    split at hg
    · split at hg
      · rename_i hz; cases hg; cases r1; cases r2
        exact op_add_str pins s σ H _ _ v u Q I rx ry ⟨_, _, rfl, rfl, hz, fin0 S q (.str _)⟩
      · cases hg
    · cases hg
  | tup xs =>
    unfold gAdd at hg; dsimp only at hg
    split at hg
    · rename_i ys
      split at hg
      · rename_i hz
        cases hg
        obtain ⟨a, vs, rfl, ha, ra⟩ := tupOf_at r1 rfl
        obtain ⟨b, us, rfl, hb, rb⟩ := tupOf_at r2 rfl
        refine op_catA pins s σ H _ _ v u Q I rx ry ⟨a, b, vs, us, rfl, rfl, ha, hb, by rw [← ra.length, ← rb.length]; exact hz, fun e => ?_, fun _ e => ?_, fun _ _ p hp => finT S q hp (ra.append rb)⟩
        · subst e; cases ra; exact fin0 S q (by simpa using r2)
        · subst e; cases rb; exact fin0 S q (by simpa using r1)
      · cases hg
    · cases hg
  | lst ds => exact og_add_lst (op := op_cat) I rx ry S r1 r2 hg q
  | ref n => exact og_add_lst (op := op_cat) I rx ry S r1 r2 hg q
  | _ => cases hg
def gSub (hs : Hs) (d e : D) : Option D := match d with
  | .int i => (match e with | .int j => some (.int (i - j)) | .bl q => some (.int (i - bI q)) | _ => none)
  | .bl p => (match e with | .int j => some (.int (bI p - j)) | _ => none)
  | _ => none
def small64 (i : Int) : Bool := decide (-18446744073709551616 < i) && decide (i < 18446744073709551616)
theorem small64_ok {i : Int} (h : small64 i = true) : -(2 ^ 64) < i ∧ i < 2 ^ 64 := by
  unfold small64 at h
  simp only [Bool.and_eq_true, decide_eq_true_eq] at h
  exact ⟨by have := h.1; omega, by have := h.2; omega⟩
def gMulL (hs : Hs) (d e : D) : Option D := match lstOf hs d with
  | some xs => (match e with | .int k => if 0 ≤ k ∧ k ≤ 4000 ∧ xs.length ≤ 4000 then some (.lst (List.replicate k.toNat xs).flatten) else none | _ => none)
  | none => none
def gMul (hs : Hs) (d e : D) : Option D := match d with
  | .int i => (match e with | .int j => if (small64 i || small64 j) = true then some (.int (i * j)) else none | _ => none)
  | .str x => (match e with | .int n => if 0 ≤ n ∧ n ≤ 5000 ∧ x.length ≤ 3000 then some (.str (Txt.mul x n)) else none | _ => none)
  | d => gMulL hs d e
theorem rep_rds {K : PySem.W.Frag} {mu : Mp} {H : Hp} {ds : List D} {vs : List V} (r : RDs K mu H ds vs) : ∀ n : Nat, RDs K mu H (List.replicate n ds).flatten (List.replicate n vs).flatten
  | 0 => .nil
  | n + 1 => by rw [List.replicate_succ, List.replicate_succ, List.flatten_cons, List.flatten_cons]; exact r.append (rep_rds r n)
theorem mulOk_of {x : Str} {n : Int} (h1 : 0 ≤ n) (h2 : n ≤ 5000) (h3 : x.length ≤ 3000) : MulOk x n := by
  refine ⟨?_, fun hn _ => ?_, fun _ _ => ?_⟩
  · rw [decide_eq_false (by omega), decide_eq_false (by omega)]; rfl
  · have : (2 ^ 63 - 1 : Int) / n ≥ (2 ^ 63 - 1 : Int) / 5000 := by
      apply Int.le_ediv_of_mul_le (by omega)
      have : (2 ^ 63 - 1 : Int) / 5000 * n ≤ (2 ^ 63 - 1 : Int) / 5000 * 5000 := Int.mul_le_mul_of_nonneg_left h2 (by decide)
      omega
    omega
  · unfold Builtin.Str.tooLong
    have h4 : x.length * n.toNat ≤ 3000 * 5000 := Nat.mul_le_mul h3 (by omega)
    have hs : sizeLine = 16777216 := sizeLine_eq
    simp only [decide_eq_false_iff_not]
    omega
theorem og_mul_lst {pins : List (Addr × Obj)} {s : Shared} {σ : L2.St} {H : Hp} {x y : V} {v u : Value} {Q : VK} (I : Inv X pins σ H s) (rx : RelV x v) (ry : RelV y u) {mu : Mp} {hs : Hs} {d e w : D}
    (S : Sim X.K X.mg mu hs H) (r1 : RD X.K mu H d x) (r2 : RD X.K mu H e y) (hg : gMulL hs d e = some w) (q : ∀ mu' H' v, Lat mu H mu' H' → Sim X.K X.mg mu' hs H' → RD X.K mu' H' w v → Q v H') : wpAny (model X.prog X.w) X.A (binaryOp .Mult v u) (EP X pins σ Q) X.xe s := by
  unfold gMulL at hg
  split at hg
  · rename_i xs hx
    split at hg
    · rename_i k
      split at hg
      · rename_i hz
        cases hg
        obtain ⟨a, vs, rfl, ha, ra⟩ := lstOf_at S r1 hx
        cases r2
        have hlen := ra.length
        refine op_rep pins s σ H _ _ v u Q I rx ry ⟨a, k, vs, rfl, rfl, ha, by omega, by omega, ?_, fun p hp => finL S q hp (rep_rds ra _)⟩
        have h4 : vs.length * k.toNat ≤ 4000 * 4000 := Nat.mul_le_mul (by omega) (by omega)
        have hs : sizeLine = 16777216 := sizeLine_eq
        omega
      · cases hg
    · cases hg
  · cases hg
theorem og_mul : OpR X (binaryOp .Mult) (rB X.K X.mg gMul) := by
  rintro pins s σ H x y v u Q I rx ry ⟨mu, hs, d, e, w, S, r1, r2, hg, q⟩
  cases d with
  | int i =>
    unfold gMul at hg; dsimp only at hg
    split at hg
    · split at hg
      · rename_i hz
        cases hg; cases r1; cases r2
        simp only [Bool.or_eq_true] at hz
        exact op_mul pins s σ H _ _ v u Q I rx ry ⟨_, _, rfl, rfl, hz.elim (fun z => .inl (small64_ok z)) (fun z => .inr (small64_ok z)), fin0 S q (.int _)⟩
      · cases hg
    · cases hg
  | str z =>
    unfold gMul at hg; dsimp only at hg
    split at hg
    · split at hg
      · rename_i n hz
        cases hg; cases r1; cases r2
        obtain ⟨t, rfl⟩ := rx
        obtain ⟨t', rfl⟩ := ry
        exact SB.mul (mulOk_of hz.1 hz.2.1 hz.2.2) fun t2 k => ⟨.str _, H, I.tok _, ⟨_, rfl⟩, fin0 S q (.str _)⟩
      · cases hg
    · cases hg
  | lst ds => exact og_mul_lst I rx ry S r1 r2 hg q
  | ref n => exact og_mul_lst I rx ry S r1 r2 hg q
  | _ => cases hg
def gDiv (hs : Hs) (d e : D) : Option D := match d with | .int i => (match e with | .int j => if 0 < j ∧ j < 1073741824 then some (.int (i / j)) else none | _ => none) | _ => none
theorem og_div : OpR X (binaryOp .FloorDiv) (rB X.K X.mg gDiv) := by
  rintro pins s σ H x y v u Q I rx ry ⟨mu, hs, d, e, w, S, r1, r2, hg, q⟩
  unfold gDiv at hg
  split at hg
  · split at hg
    · split at hg
      · rename_i hz; cases hg; cases r1; cases r2
        exact op_fdiv pins s σ H _ _ v u Q I rx ry ⟨_, _, rfl, rfl, hz, fin0 S q (.int _)⟩
      · cases hg
    · cases hg
  · cases hg
def gMod (hs : Hs) (d e : D) : Option D := match d with | .int i => (match e with | .int j => if 0 < j then some (.int (i % j)) else none | _ => none) | _ => none
theorem og_mod : OpR X (binaryOp .Mod) (rB X.K X.mg gMod) := by
  rintro pins s σ H x y v u Q I rx ry ⟨mu, hs, d, e, w, S, r1, r2, hg, q⟩
  unfold gMod at hg
  split at hg
  · split at hg
    · split at hg
      · rename_i hz; cases hg; cases r1; cases r2
        exact op_mod pins s σ H _ _ v u Q I rx ry ⟨_, _, rfl, rfl, hz, fin0 S q (.int _)⟩
      · cases hg
    · cases hg
  · cases hg
def gPow (hs : Hs) (d e : D) : Option D := match d with | .int i => (match e with | .int j => if 0 ≤ j ∧ j ≤ 1000 ∧ i.natAbs < 2 ^ 64 then some (.int (i ^ j.toNat)) else none | _ => none) | _ => none
theorem og_pow : OpR X (binaryOp .Pow) (rB X.K X.mg gPow) := by
  rintro pins s σ H x y v u Q I rx ry ⟨mu, hs, d, e, w, S, r1, r2, hg, q⟩
  unfold gPow at hg
  split at hg
  · split at hg
    · split at hg
      · rename_i hz; cases hg; cases r1; cases r2
        exact op_pow pins s σ H _ _ v u Q I rx ry ⟨_, _, rfl, rfl, ⟨hz.1, by omega, hz.2.2⟩, fin0 S q (.int _)⟩
      · cases hg
    · cases hg
  · cases hg
/-- -a -/
def gNeg (hs : Hs) (d : D) : Option D := match d with | .int i => some (.int (-i)) | _ => none
theorem ue_neg {Wd : WX} {a : Expr} {f : FE} {pos : Pos} (ha : UE X Wd a f) : UE X Wd (.UnaryOp .USub a pos) (eUn gNeg f) := by
  refine PE.imp (pe_un un_neg ha) fun σ H Q h => ?_
  obtain ⟨e, mu, hs, S, E, q⟩ := tG_un h
  refine ⟨e, mu, hs, S, E, q.imp fun x H1 ⟨mu, hs, d, w, S, r, hg, q⟩ => ?_⟩
  unfold gNeg at hg
  split at hg
  · cases hg; cases r; exact ⟨_, rfl, fin0 S q (.int _)⟩
  · cases hg

/-! ### data -/
mutual
def pdW (r : Nat → Option PyData) : D → Option PyData
  | .non => some .none
  | .bl b => some (.bool b)
  | .int i => some (.int i)
  | .str s => some (.str s)
  | .tup ds => (pdWs r ds).map .tuple
  | .lst ds => (pdWs r ds).map .list
  | .scr ds => (pdWs r ds).map .list
  | .ref n => r n
  | .ty _ => none
  | .ctp ds => (pdWs r ds).map .tuple
  | .dct _ _ => none
  | .dtp _ _ => none
  | .dlk _ _ => none
  | .dlt _ _ => none
  | .ins _ _ _ => none
  | .glb _ => none
  | .exn _ _ _ => none
def pdWs (r : Nat → Option PyData) : List D → Option (List PyData)
  | [] => some []
  | d :: ds => match pdW r d with
    | some p => match pdWs r ds with | some ps => some (p :: ps) | none => none
    | none => none
end
/-- the lists of the heap, so deep -/
def pdH (hs : Hs) : Nat → Nat → Option PyData
  | 0, _ => none
  | k + 1, n => match hs[n]? with
    | some (.lst ds) => (pdWs (pdH hs k) ds).map .list
    | _ => none
def pd (hs : Hs) (d : D) : Option PyData := pdW (pdH hs 40) d
section
variable {K : PySem.W.Frag} {mg : Str → Option Value} {mu : Mp} {hs : Hs} {H : Hp}
mutual
theorem pdW_dp {r : Nat → Option PyData} (hr : ∀ n a p, mu.l[n]? = some a → r n = some p → Dp K H (.ref a) p) : ∀ (d : D) (v : V) (p : PyData), RD K mu H d v → pdW r d = some p → Dp K H v p
  | .non, _, _, h, e => by cases h; cases e; exact .non
  | .bl b, _, _, h, e => by cases h; cases e; exact .bl b
  | .int i, _, _, h, e => by cases h; cases e; exact .int i
  | .str s, _, _, h, e => by cases h; cases e; exact .str s
  | .tup ds, _, _, h, e => by
    cases h with
    | tup q r =>
      obtain ⟨ps, h1, h2⟩ := Option.map_eq_some_iff.mp (show (pdWs _ ds).map PyData.tuple = some _ from e)
      subst h2
      exact .tup q.sq (pdWs_dp hr ds _ ps r h1)
  | .lst ds, _, _, h, e => by
    cases h with
    | lst q n r =>
      obtain ⟨ps, h1, h2⟩ := Option.map_eq_some_iff.mp (show (pdWs _ ds).map PyData.list = some _ from e)
      subst h2
      exact .lst (.of q) (pdWs_dp hr ds _ ps r h1)
  | .ty _, _, _, _, e => nomatch e
  | .ctp ds, _, _, h, e => by
    cases h with
    | ctp q r =>
      obtain ⟨ps, h1, h2⟩ := Option.map_eq_some_iff.mp (show (pdWs _ ds).map PyData.tuple = some _ from e)
      subst h2
      exact .tup (sqT_c q) (pdWs_dp hr ds _ ps r h1)
  | .dct _ _, _, _, _, e => nomatch e
  | .dtp _ _, _, _, _, e => nomatch e
  | .dlk _ _, _, _, _, e => nomatch e
  | .dlt _ _, _, _, _, e => nomatch e
  | .ins _ _ _, _, _, _, e => nomatch e
  | .glb _, _, _, _, e => nomatch e
  | .exn _ _ _, _, _, _, e => nomatch e
  | .scr ds, _, _, h, e => by
    cases h with
    | scr q r =>
      obtain ⟨ps, h1, h2⟩ := Option.map_eq_some_iff.mp (show (pdWs _ ds).map PyData.list = some _ from e)
      subst h2
      exact .lst q.sq (pdWs_dp hr ds _ ps r h1)
  | .ref n, _, _, h, e => by cases h with | ref q => exact hr _ _ _ q e
theorem pdWs_dp {r : Nat → Option PyData} (hr : ∀ n a p, mu.l[n]? = some a → r n = some p → Dp K H (.ref a) p) : ∀ (ds : List D) (vs : List V) (ps : List PyData), RDs K mu H ds vs → pdWs r ds = some ps → DpAll K H vs ps
  | [], _, _, h, e => by cases h; cases e; exact .nil
  | d :: ds, _, _, h, e => by
    cases h with
    | cons r1 r2 =>
      unfold pdWs at e
      split at e
      · rename_i p hp
        split at e
        · rename_i ps hps
          cases e
          exact .cons (pdW_dp hr d _ p r1 hp) (pdWs_dp hr ds _ ps r2 hps)
        · cases e
      · cases e
end
theorem pdH_dp (S : Sim K mg mu hs H) : ∀ (k n : Nat) (a : Addr) (p : PyData), mu.l[n]? = some a → pdH hs k n = some p → Dp K H (.ref a) p
  | 0, _, _, _, _, e => by cases e
  | k + 1, n, a, p, hn, e => by
    unfold pdH at e
    split at e
    · rename_i ds hd
      obtain ⟨ps, h1, h2⟩ := Option.map_eq_some_iff.mp e
      subst h2
      obtain ⟨u, e1, e2⟩ := S.at hn hd
      cases u <;> first
        | exact .lst (.of e1) (pdWs_dp (fun n a p h q => pdH_dp S k n a p h q) ds _ ps e2 h1)
        | exact e2.elim
    · cases e
theorem pd_dp (S : Sim K mg mu hs H) {d : D} {v : V} {p : PyData} (r : RD K mu H d v) (e : pd hs d = some p) : Dp K H v p := pdW_dp (fun n a p h q => pdH_dp S 40 n a p h q) d v p r e
end

/-! ### comparisons -/
def gEqD (hs : Hs) (d e : D) : Option Bool := match pd hs d with
  | some p => match pd hs e with
    | some q => if (SeqAt.shaped p && SeqAt.shaped q) = true then some (PyData.eqv p q) else none
    | none => none
  | none => none
/-- texts by themselves, other data by what is read -/
def gEqB (hs : Hs) (d e : D) : Option Bool := match d with
  | .str x => (match e with | .str y => some (x == y) | e => gEqD hs (.str x) e)
  | d => gEqD hs d e
theorem gEqB_cases {hs : Hs} {d e : D} {b : Bool} (h : gEqB hs d e = some b) : (∃ x y, d = .str x ∧ e = .str y ∧ b = (x == y)) ∨ gEqD hs d e = some b := by
  unfold gEqB at h
  split at h
  · split at h
    · cases h; exact .inl ⟨_, _, rfl, rfl, rfl⟩
    · exact .inr h
  · exact .inr h
def gEq (hs : Hs) (d e : D) : Option D := (gEqB hs d e).map .bl
def gNe (hs : Hs) (d e : D) : Option D := (gEqB hs d e).map fun b => .bl (!b)
theorem gEqD_at {K : PySem.W.Frag} {mg : Str → Option Value} {mu : Mp} {hs : Hs} {H : Hp} (S : Sim K mg mu hs H) {d e : D} {x y : V} {b : Bool} (r1 : RD K mu H d x) (r2 : RD K mu H e y) (h : gEqD hs d e = some b) :
    ∃ p q, Dp K H x p ∧ Dp K H y q ∧ SeqAt.shaped p = true ∧ SeqAt.shaped q = true ∧ PyData.eqv p q = b := by
  unfold gEqD at h
  split at h
  · rename_i p hp
    split at h
    · rename_i q hq
      split at h
      · rename_i hz
        cases h
        simp only [Bool.and_eq_true] at hz
        exact ⟨p, q, pd_dp S r1 hp, pd_dp S r2 hq, hz.1, hz.2, rfl⟩
      · cases h
    · cases h
  · cases h
theorem og_eq (hu : X.A.units + 64 < cLine) : OpR X (compareOp .Eq) (rB X.K X.mg gEq) := by
  rintro pins s σ H x y v u Q I rx ry ⟨mu, hs, d, e, w, S, r1, r2, hg, q⟩
  obtain ⟨b, h1, h2⟩ := Option.map_eq_some_iff.mp (show (gEqB hs d e).map D.bl = some w from hg)
  subst h2
  rcases gEqB_cases h1 with ⟨z, z', rfl, rfl, rfl⟩ | h1
  · cases r1; cases r2
    exact op_eq pins s σ H _ _ v u Q I rx ry ⟨rfl, by rw [dec_str]; exact fin0 S q (.bl _)⟩
  obtain ⟨p, p', d1, d2, z1, z2, h3⟩ := gEqD_at S r1 r2 h1
  subst h3
  exact op_eqD hu pins s σ H x y v u Q I rx ry ⟨p, p', d1, d2, z1, z2, fin0 S q (.bl _)⟩
theorem og_ne (hu : X.A.units + 64 < cLine) : OpR X (compareOp .NotEq) (rB X.K X.mg gNe) := by
  rintro pins s σ H x y v u Q I rx ry ⟨mu, hs, d, e, w, S, r1, r2, hg, q⟩
  obtain ⟨b, h1, h2⟩ := Option.map_eq_some_iff.mp (show (gEqB hs d e).map (fun b => D.bl (!b)) = some w from hg)
  subst h2
  rcases gEqB_cases h1 with ⟨z, z', rfl, rfl, rfl⟩ | h1
  · cases r1; cases r2
    exact op_ne pins s σ H _ _ v u Q I rx ry ⟨rfl, by rw [dec_str]; exact fin0 S q (.bl _)⟩
  obtain ⟨p, p', d1, d2, z1, z2, h3⟩ := gEqD_at S r1 r2 h1
  subst h3
  exact op_neD hu pins s σ H x y v u Q I rx ry ⟨p, p', d1, d2, z1, z2, fin0 S q (.bl _)⟩
def gLt (hs : Hs) (d e : D) : Option D := match d with
  | .int i => (match e with | .int j => some (.bl (decide (i < j))) | _ => none)
  | .str x => (match e with | .str y => some (.bl (decide (x.cps.toList < y.cps.toList))) | _ => none)
  | _ => none
theorem og_lt : OpR X (compareOp .Lt) (rB X.K X.mg gLt) := by
  rintro pins s σ H x y v u Q I rx ry ⟨mu, hs, d, e, w, S, r1, r2, hg, q⟩
  unfold gLt at hg
  split at hg
  · split at hg
    · cases hg; cases r1; cases r2; exact op_lt pins s σ H _ _ v u Q I rx ry ⟨_, _, rfl, rfl, fin0 S q (.bl _)⟩
    · cases hg
  · split at hg
    · cases hg; cases r1; cases r2; exact op_lt_str pins s σ H _ _ v u Q I rx ry ⟨_, _, rfl, rfl, fin0 S q (.bl _)⟩
    · cases hg
  · cases hg
def gLe (hs : Hs) (d e : D) : Option D := match d with
  | .int i => (match e with | .int j => some (.bl (decide (i ≤ j))) | _ => none)
  | .str x => (match e with | .str y => some (.bl (!decide (y.cps.toList < x.cps.toList))) | _ => none)
  | _ => none
def gGt (hs : Hs) (d e : D) : Option D := match d with
  | .int i => (match e with | .int j => some (.bl (decide (j < i))) | _ => none)
  | .str x => (match e with | .str y => some (.bl (decide (y.cps.toList < x.cps.toList))) | _ => none)
  | _ => none
def gGe (hs : Hs) (d e : D) : Option D := match d with
  | .int i => (match e with | .int j => some (.bl (decide (j ≤ i))) | _ => none)
  | .str x => (match e with | .str y => some (.bl (!decide (x.cps.toList < y.cps.toList))) | _ => none)
  | _ => none
theorem og_le : OpR X (compareOp .LtE) (rB X.K X.mg gLe) := by
  rintro pins s σ H x y v u Q I rx ry ⟨mu, hs, d, e, w, S, r1, r2, hg, q⟩
  unfold gLe at hg
  split at hg
  · split at hg
    · cases hg; cases r1; cases r2; exact op_le pins s σ H _ _ v u Q I rx ry ⟨_, _, rfl, rfl, fin0 S q (.bl _)⟩
    · cases hg
  · split at hg
    · cases hg; cases r1; cases r2; exact op_le_str pins s σ H _ _ v u Q I rx ry ⟨_, _, rfl, rfl, fin0 S q (.bl _)⟩
    · cases hg
  · cases hg
theorem og_gt : OpR X (compareOp .Gt) (rB X.K X.mg gGt) := by
  rintro pins s σ H x y v u Q I rx ry ⟨mu, hs, d, e, w, S, r1, r2, hg, q⟩
  unfold gGt at hg
  split at hg
  · split at hg
    · cases hg; cases r1; cases r2; exact op_gt pins s σ H _ _ v u Q I rx ry ⟨_, _, rfl, rfl, fin0 S q (.bl _)⟩
    · cases hg
  · split at hg
    · cases hg; cases r1; cases r2; exact op_gt_str pins s σ H _ _ v u Q I rx ry ⟨_, _, rfl, rfl, fin0 S q (.bl _)⟩
    · cases hg
  · cases hg
theorem og_ge : OpR X (compareOp .GtE) (rB X.K X.mg gGe) := by
  rintro pins s σ H x y v u Q I rx ry ⟨mu, hs, d, e, w, S, r1, r2, hg, q⟩
  unfold gGe at hg
  split at hg
  · split at hg
    · cases hg; cases r1; cases r2; exact op_ge pins s σ H _ _ v u Q I rx ry ⟨_, _, rfl, rfl, fin0 S q (.bl _)⟩
    · cases hg
  · split at hg
    · cases hg; cases r1; cases r2; exact op_ge_str pins s σ H _ _ v u Q I rx ry ⟨_, _, rfl, rfl, fin0 S q (.bl _)⟩
    · cases hg
  · cases hg
/-! ### is -/
def gIs (hs : Hs) (d e : D) : Option D := match e with
  | .non => (match d with | .non => some (.bl true) | .ref _ => some (.bl false) | .bl _ => some (.bl false) | .int _ => some (.bl false) | .str _ => some (.bl false) | .tup _ => some (.bl false) | .lst _ => some (.bl false) | .scr _ => some (.bl false) | .ty _ => some (.bl false) | .ctp _ => some (.bl false) | .dct _ _ => some (.bl false) | .dtp _ _ => some (.bl false) | .dlk _ _ => some (.bl false) | .dlt _ _ => some (.bl false) | .exn _ _ _ => some (.bl false) | .ins _ _ _ => some (.bl false) | .glb _ => some (.bl false))
  | .bl b => (match d with | .bl a => some (.bl (decide (a = b))) | _ => none)
  | _ => none
def gIsN (hs : Hs) (d e : D) : Option D := match gIs hs d e with | some (.bl b) => some (.bl (!b)) | _ => none
theorem og_is : OpR X (compareOp .Is) (rB X.K X.mg gIs) := by
  rintro pins s σ H x y v u Q I rx ry ⟨mu, hs, d, e, w, S, r1, r2, hg, q⟩
  unfold gIs at hg
  split at hg
  · cases r2
    refine op_isN pins s σ H _ _ v u Q I rx ry ⟨rfl, ?_⟩
    cases r1 <;> (cases hg; exact fin0 S q (.bl _))
  · split at hg
    · cases hg; cases r1; cases r2; exact op_isBl pins s σ H _ _ v u Q I rx ry ⟨_, _, rfl, rfl, fin0 S q (.bl _)⟩
    · cases hg
  · cases hg
theorem og_isN : OpR X (compareOp .IsNot) (rB X.K X.mg gIsN) := by
  rintro pins s σ H x y v u Q I rx ry ⟨mu, hs, d, e, w, S, r1, r2, hg, q⟩
  unfold gIsN at hg
  split at hg
  · rename_i b hb
    cases hg
    unfold gIs at hb
    split at hb
    · cases r2
      refine op_notN pins s σ H _ _ v u Q I rx ry ⟨rfl, ?_⟩
      cases r1 <;> (cases hb; exact fin0 S q (.bl _))
    · split at hb
      · cases hb; cases r1; cases r2; exact op_notBl pins s σ H _ _ v u Q I rx ry ⟨_, _, rfl, rfl, fin0 S q (.bl _)⟩
      · cases hb
    · cases hb
  · cases hg
/-! ### in -/
def flatD : D → Bool
  | .non => true | .bl _ => true | .int _ => true | .str _ => true | _ => false
def toV : D → V
  | .non => .non | .bl b => .bl b | .int i => .int i | .str s => .str s | _ => .non
/-- == of two flat ones -/
def eqF : D → D → Bool
  | .non, .non => true
  | .bl a, .bl b => a == b
  | .bl a, .int b => (if a then 1 else 0) == b
  | .int a, .bl b => a == (if b then 1 else 0)
  | .int a, .int b => a == b
  | .str a, .str b => a == b
  | _, _ => false
theorem flat_v {K : PySem.W.Frag} {mu : Mp} {H : Hp} {d : D} {v : V} (r : RD K mu H d v) (f : flatD d = true) : v = toV d ∧ flatV v = true := by cases r <;> first | exact ⟨rfl, rfl⟩ | cases f
theorem eqF_v : ∀ {d e : D}, flatD d = true → flatD e = true → eqV (toV d) (toV e) = eqF d e := by
  intro d e h1 h2
  cases d <;> first | (exact absurd h1 Bool.false_ne_true) | (cases e <;> first | (exact absurd h2 Bool.false_ne_true) | rfl)
theorem flats_v {K : PySem.W.Frag} {mu : Mp} {H : Hp} : ∀ {ds : List D} {vs : List V}, RDs K mu H ds vs → ds.all flatD = true → vs = ds.map toV ∧ vs.all flatV = true
  | _, _, .nil, _ => ⟨rfl, rfl⟩
  | _, _, .cons r t, f => by
    rw [List.all_cons, Bool.and_eq_true] at f
    obtain ⟨h1, h2⟩ := flat_v r f.1
    obtain ⟨h3, h4⟩ := flats_v t f.2
    exact ⟨by rw [h1, h3]; rfl, by rw [List.all_cons, h2, h4]; rfl⟩
theorem any_v {d : D} (hd : flatD d = true) : ∀ {ds : List D}, ds.all flatD = true → inV (toV d) (ds.map toV) = ds.any (fun e => eqF e d)
  | [], _ => rfl
  | e :: ds, f => by
    rw [List.all_cons, Bool.and_eq_true] at f
    have ih := any_v hd f.2
    unfold inV at ih ⊢
    rw [List.map_cons, List.any_cons, List.any_cons, ih, eqF_v f.1 hd]
/-- one sign -/
def sign1 (x : Str) : Option Nat := match x.cps.toList with | [c] => some c | _ => none
theorem sign1_eq {x : Str} {c : Nat} (h : sign1 x = some c) : x = ⟨#[c]⟩ := by
  unfold sign1 at h
  split at h
  · rename_i c' e
    cases h
    cases x
    rename_i a
    cases a
    simp at e
    subst e
    rfl
  · cases h
def seqOf (hs : Hs) (d : D) : Option (List D) := match rdOf hs d with | some ds => some ds | none => tupOf d
def gInB (hs : Hs) (d e : D) : Option Bool := match e with
  | .str z => (match d with | .str x => (match sign1 x with | some c => some (decide (c ∈ z.cps.toList)) | none => none) | _ => none)
  | e => match seqOf hs e with
    | some ds => if (flatD d && ds.all flatD) = true then some (ds.any fun e => eqF e d) else none
    | none => none
def gIn (hs : Hs) (d e : D) : Option D := (gInB hs d e).map .bl
def gNotIn (hs : Hs) (d e : D) : Option D := (gInB hs d e).map fun b => .bl (!b)
theorem seqOf_at {K : PySem.W.Frag} {mg : Str → Option Value} {mu : Mp} {hs : Hs} {H : Hp} {d : D} {v : V} {ds : List D} (S : Sim K mg mu hs H) (r : RD K mu H d v) (e : seqOf hs d = some ds) : ∃ a vs, v = .ref a ∧ (SqL K H a vs ∨ SqT K H a vs) ∧ RDs K mu H ds vs := by
  unfold seqOf at e
  split at e
  · rename_i h
    cases e
    obtain ⟨a, vs, h1, h2, h3⟩ := rdOf_at S r h
    exact ⟨a, vs, h1, .inl h2, h3⟩
  · obtain ⟨a, vs, h1, h2, h3⟩ := tupOf_at r e
    exact ⟨a, vs, h1, .inr h2, h3⟩
theorem gInB_at {K : PySem.W.Frag} {mg : Str → Option Value} {mu : Mp} {hs : Hs} {H : Hp} {d e : D} {x y : V} {b : Bool} (S : Sim K mg mu hs H) (r1 : RD K mu H d x) (r2 : RD K mu H e y) (h : gInB hs d e = some b) :
    (∃ (c : Nat) (z : Str), x = .str ⟨#[c]⟩ ∧ y = .str z ∧ decide (c ∈ z.cps.toList) = b) ∨ ∃ p xs, y = .ref p ∧ (SqL K H p xs ∨ SqT K H p xs) ∧ flatV x = true ∧ xs.all flatV = true ∧ inV x xs = b := by
  have lists : (match seqOf hs e with
    | some ds => if (flatD d && ds.all flatD) = true then some (ds.any fun e => eqF e d) else none
    | none => none) = some b → ∃ p xs, y = .ref p ∧ (SqL K H p xs ∨ SqT K H p xs) ∧ flatV x = true ∧ xs.all flatV = true ∧ inV x xs = b := by
    intro h
    split at h
    · rename_i ds hds
      split at h
      · rename_i hf
        cases h
        rw [Bool.and_eq_true] at hf
        obtain ⟨a, vs, e1, e2, e3⟩ := seqOf_at S r2 hds
        obtain ⟨h1, h2⟩ := flat_v r1 hf.1
        obtain ⟨h3, h4⟩ := flats_v e3 hf.2
        exact ⟨a, vs, e1, e2, h2, h4, by rw [h1, h3, any_v hf.1 hf.2]⟩
      · cases h
    · cases h
  cases e with
  | str z =>
    unfold gInB at h; dsimp only at h
    split at h
    · split at h
      · rename_i c hc
        cases h; cases r1; cases r2
        exact .inl ⟨c, z, by rw [sign1_eq hc], rfl, rfl⟩
      · cases h
    · cases h
  | _ => exact .inr (lists h)
theorem og_in : OpR X (compareOp .In) (rB X.K X.mg gIn) := by
  rintro pins s σ H x y v u Q I rx ry ⟨mu, hs, d, e, w, S, r1, r2, hg, q⟩
  obtain ⟨b, h1, h2⟩ := Option.map_eq_some_iff.mp (show (gInB hs d e).map D.bl = some w from hg)
  subst h2
  rcases gInB_at S r1 r2 h1 with ⟨c, z, rfl, rfl, e⟩ | ⟨p, xs, rfl, h, f1, f2, e⟩
  · subst e; exact op_in_sign pins s σ H _ _ v u Q I rx ry ⟨c, z, rfl, rfl, fin0 S q (.bl _)⟩
  · subst e; exact op_in_seq pins s σ H _ _ v u Q I rx ry ⟨p, xs, rfl, h, f1, f2, fin0 S q (.bl _)⟩
theorem og_notin : OpR X (compareOp .NotIn) (rB X.K X.mg gNotIn) := by
  rintro pins s σ H x y v u Q I rx ry ⟨mu, hs, d, e, w, S, r1, r2, hg, q⟩
  obtain ⟨b, h1, h2⟩ := Option.map_eq_some_iff.mp (show (gInB hs d e).map (fun b => D.bl (!b)) = some w from hg)
  subst h2
  rcases gInB_at S r1 r2 h1 with ⟨c, z, rfl, rfl, e⟩ | ⟨p, xs, rfl, h, f1, f2, e⟩
  · subst e; exact op_notIn_sign pins s σ H _ _ v u Q I rx ry ⟨c, z, rfl, rfl, fin0 S q (.bl _)⟩
  · subst e; exact op_notIn_seq pins s σ H _ _ v u Q I rx ry ⟨p, xs, rfl, h, f1, f2, fin0 S q (.bl _)⟩
end
/-! # G5: subscripts, slices, calls of built-ins, methods of built-ins -/
theorem RDs.at_ {K : PySem.W.Frag} {mu : Mp} {H : Hp} {ds : List D} {vs : List V} (r : RDs K mu H ds vs) {i : Int} {d : D} (h : atI ds i = some d) : ∃ v, atI vs i = some v ∧ RD K mu H d v := by
  unfold atI at h ⊢
  rw [← r.length]
  cases e : ixN ds.length i with
  | none => rw [e] at h; cases h
  | some j =>
    rw [e] at h
    obtain ⟨v, h1, h2⟩ := r.get (show ds[j]? = some d from h)
    exact ⟨v, h1, h2⟩
/-! ### a[i] -/
def gIx (hs : Hs) (d e : D) : Option D := match e with
  | .int i => (match d with
    | .str z => if z.length ≤ sizeLine then (match atI z.cps.toList i with | some c => some (.str ⟨#[c]⟩) | none => none) else none
    | d => match seqOf hs d with | some ds => atI ds i | none => none)
  | _ => none
section
variable {X : Cx} {Wd : WX} {a b : Expr} {f1 f2 : FE} {pos : Pos}
theorem ix_g : IxR X (rB X.K X.mg gIx) := by
  rintro value slice pins s σ H x y v u Q I rx ry ⟨mu, hs, d, e, w, S, r1, r2, hg, q⟩ hsl
  have seq : (∃ i, e = .int i ∧ (match seqOf hs d with | some ds => atI ds i | none => none) = some w) → wpAny (model X.prog X.w) X.A (subscriptTail value slice v u) (EP X pins σ Q) X.xe s := by
    rintro ⟨i, rfl, h⟩
    split at h
    · rename_i ds hds
      obtain ⟨p, vs, rfl, h1, h2⟩ := seqOf_at S r1 hds
      obtain ⟨z, h3, h4⟩ := h2.at_ h
      cases r2
      refine ix_seq value slice pins s σ H _ _ v u Q I rx ry ?_ hsl
      rcases h1 with h1 | h1
      · exact .inl ⟨p, vs, i, z, rfl, rfl, h1, h3, fin0 S q h4⟩
      · exact .inr (.inl ⟨p, vs, i, z, rfl, rfl, h1, h3, fin0 S q h4⟩)
    · cases h
  unfold gIx at hg
  split at hg
  · rename_i i
    cases d with
    | str z =>
      dsimp only at hg
      split at hg
      · rename_i hz
        split at hg
        · rename_i c hc
          cases hg; cases r1; cases r2
          exact ix_seq value slice pins s σ H _ _ v u Q I rx ry (.inr (.inr ⟨z, i, c, rfl, rfl, hz, hc, fin0 S q (.str _)⟩)) hsl
        · cases hg
      · cases hg
    | _ => exact seq ⟨i, rfl, hg⟩
  · cases hg
theorem ue_ix (ha : UE X Wd a f1) (hb : UE X Wd b f2) (hs : PlainIx b := by exact fun _ _ => rfl) : UE X Wd (.Subscript a b pos) (eBin gIx f1 f2) := PE.imp (pe_ix ix_g ha hb hs) fun _ _ _ h => tG_bin h

/-! ### slices -/
def cutX {t : Type} (xs : List t) (lo hi : Option Int) : List t := (xs.drop (HT.sIx xs.length 0 lo)).take (HT.sIx xs.length xs.length hi - HT.sIx xs.length 0 lo)
theorem RDs.cut {K : PySem.W.Frag} {mu : Mp} {H : Hp} {ds : List D} {vs : List V} (r : RDs K mu H ds vs) (lo hi : Option Int) : RDs K mu H (cutX ds lo hi) (cutV vs lo hi) := by
  unfold cutX cutV
  rw [r.length]
  exact (r.drop _).take _
def relO : Rel (Option Int) (Option Int) := fun _ _ _ _ a b => a = b
theorem relO_ok : relO.Ok := fun _ _ _ _ _ _ _ _ _ _ _ h => h
abbrev FO := Ev → Hs → R (Option Int)
abbrev UO (X : Cx) (Wd : WX) (o : Option Expr) (f : FO) : Prop := PO X o (tG relO X.K X.mg Wd f)
def oNone : FO := fun _ hs => .ok none hs
def oSome (f : FE) : FO := fun e hs => (f e hs).bind fun d hs => match d with | .int i => .ok (some i) hs | _ => .bad
theorem PO.imp {o : Option Expr} {t t' : TO} (h : PO X o t) (i : ∀ σ H Q, t' σ H Q → t σ H Q) : PO X o t' := ⟨fun pins s σ H Q I q => h.run pins s σ H Q I (i σ H Q q)⟩
theorem uo_none : UO X Wd none oNone := by
  refine PO.imp po_none fun σ H Q h => ?_
  obtain ⟨e, mu, hs, S, E, g⟩ := h
  exact g mu H none .refl S rfl
theorem uo_some (ha : UE X Wd a f1) : UO X Wd (some a) (oSome f1) := by
  refine PO.imp (po_some ha) fun σ H Q h => ?_
  obtain ⟨e, mu, hs, S, E, q⟩ := tG_seq (r := relD X.K) relO_ok h
  refine ⟨e, mu, hs, S, E, q.imp fun x H1 ⟨e, mu1, hs1, d, S1, E1, r1, g2⟩ => ?_⟩
  cases r1 with
  | int i => exact ⟨i, rfl, g2 mu1 H1 _ .refl S1 rfl⟩
  | _ => exact g2.elim
def gSl (hs : Hs) (d : D) (lo hi : Option Int) : Option D := match d with
  | .str z => if z.length ≤ sizeLine then some (.str (cutS z lo hi)) else none
  | .tup ds => some (.tup (cutX ds lo hi))
  | d => match rdOf hs d with | some ds => some (.lst (cutX ds lo hi)) | none => none
def rSlG (K : PySem.W.Frag) (mg : Str → Option Value) (g : Hs → D → Option Int → Option Int → Option D) : V → Option Int → Option Int → Hp → VK → Prop := fun x lo hi H Q => ∃ mu hs d w, Sim K mg mu hs H ∧ RD K mu H d x ∧ g hs d lo hi = some w ∧
  ∀ mu' H' v, Lat mu H mu' H' → Sim K mg mu' hs H' → RD K mu' H' w v → Q v H'
theorem cut_whole {t : Type} (xs : List t) {lo hi : Option Int} (h1 : HT.sIx xs.length 0 lo = 0) (h2 : HT.sIx xs.length xs.length hi = xs.length) : cutX xs lo hi = xs := by
  unfold cutX
  rw [h1, h2, List.drop_zero, Nat.sub_zero, List.take_length]
theorem sl_g : SlR X (rSlG X.K X.mg gSl) := by
  rintro pins s σ H x v vl vu lo hi sl Q I rx hs pl pu ⟨mu, hs', d, w, S, r1, hg, q⟩
  have lst : (match rdOf hs' d with | some ds => some (D.lst (cutX ds lo hi)) | none => none) = some w → ∃ T id, typeLookup (.type T) "__getitem__" = pure (some (.builtin id)) ∧ s.TypeIs v T ∧ wpAny (model X.prog X.w) X.A (getItem v (.ref sl)) (EP X pins σ Q) X.xe s := by
    intro h
    split at h
    · rename_i ds hds
      cases h
      obtain ⟨p, vs, rfl, h1, h2⟩ := rdOf_at S r1 hds
      exact sl_list pins s σ H _ v vl vu lo hi sl Q I rx hs pl pu ⟨p, vs, rfl, h1, fun p hp => finL S q hp (h2.cut lo hi)⟩
    · cases h
  unfold gSl at hg
  cases d with
  | str z =>
    dsimp only at hg
    split at hg
    · rename_i hz
      cases hg; cases r1
      exact sl_str pins s σ H _ v vl vu lo hi sl Q I rx hs pl pu ⟨z, rfl, hz, fin0 S q (.str _)⟩
    · cases hg
  | tup ds =>
    cases hg
    obtain ⟨p, vs, rfl, h1, h2⟩ := tupOf_at r1 rfl
    refine sl_tupA pins s σ H _ v vl vu lo hi sl Q I rx hs pl pu ⟨p, vs, rfl, h1, fun ⟨e1, e2⟩ => ?_, fun _ p hp => finT S q hp (h2.cut lo hi)⟩
    rw [← h2.length] at e1 e2
    exact fin0 S q (by rw [cut_whole ds e1 e2]; exact r1)
  | _ => exact lst hg
def eSl (f : FE) (lo hi : FO) : FE := fun e hs => (f e hs).bind fun d hs => (lo e hs).bind fun l hs => (hi e hs).bind fun h hs => R.ofO (gSl hs d l h) hs
theorem ue_sl {lo hi : Option Expr} {p2 : Pos} {fl fh : FO} (ha : UE X Wd a f1) (hl : UO X Wd lo fl) (hh : UO X Wd hi fh) : UE X Wd (.Subscript a (.Slice lo hi none p2) pos) (eSl f1 fl fh) := by
  refine PE.imp (pe_slice sl_g ha hl hh) fun σ H Q h => ?_
  obtain ⟨e, mu, hs, S, E, q⟩ := tG_seq (r := relD X.K) relD_ok h
  refine ⟨e, mu, hs, S, E, q.imp fun x H1 ⟨e, mu1, hs1, d, S1, E1, r1, g1⟩ => ?_⟩
  refine ⟨e, mu1, hs1, S1, E1, (Gd.bind (r := relO) relD_ok g1).imp fun lo H2 ⟨mu2, hs2, lo', l2, S2, r2, g2⟩ => ?_⟩
  have r2 : lo' = lo := r2
  subst r2
  refine ⟨e, mu2, hs2, S2, E1.agr (l2.agr S1), (Gd.bind (r := relO) relD_ok g2).imp fun hi H3 ⟨mu3, hs3, hi', l3, S3, r3, g3⟩ => ?_⟩
  have r3 : hi' = hi := r3
  subst r3
  cases q : gSl hs3 d lo' hi' with
  | none => rw [q] at g3; exact g3.elim
  | some w => rw [q] at g3; exact ⟨mu3, hs3, d, w, S3, RD.agr (l3.agr S2) (RD.agr (l2.agr S1) r1), q, g3⟩
/-- xs[::-1], a new list -/
def lRev (f : FE) : FL := fun e hs => (f e hs).bind fun d hs => R.ofO ((rdOf hs d).map List.reverse) hs
theorem relF_new {K : PySem.W.Frag} {mg : Str → Option Value} {mu : Mp} {hs : Hs} {H : Hp} {Q : VK} {ds : List D} {vs : List V} {p : Addr} (S : Sim K mg mu hs H) (q : ∀ mu' H' v, Lat mu H mu' H' → Sim K mg mu' hs H' → relF K mg H mu' hs H' ds v → Q v H') (hp : H p = none) (r : RDs K mu H ds vs) : Q (.ref p) (upd H p (.lst vs)) :=
  q mu _ _ (.new hp) (S.new hp) ⟨p, vs, rfl, upd_same, S.fresh hp, S.freshz hp, hp, RDs.agr (Lat.agr (.new hp) S) r⟩
theorem uf_rev {k : Nat} {p1 p2 p3 : Pos} (ha : UE X Wd a f1) : UF X Wd (.Subscript a (.Slice none none (some (.UnaryOp .USub (.Constant (.int 1) k p1) p2)) p3) pos) (lRev f1) := by
  refine PE.imp (pe_revL ha) fun σ H Q h => ?_
  obtain ⟨e, mu, hs, S, E, q⟩ := tG_seq (r := relD X.K) relF_ok h
  refine ⟨e, mu, hs, S, E, q.imp fun x H1 ⟨e, mu1, hs1, d, S1, E1, r1, g1⟩ => ?_⟩
  cases q : rdOf hs1 d with
  | none => rw [q] at g1; exact g1.elim
  | some ds =>
    rw [q] at g1
    obtain ⟨p, vs, rfl, h1, h2⟩ := rdOf_at S1 r1 q
    exact ⟨p, vs, rfl, h1, fun p hp => relF_new S1 g1 hp h2.reverse⟩

/-! ### calls by values -/
def rC (K : PySem.W.Frag) (mg : Str → Option Value) (g : Hs → List D → Option D) : List V → Hp → VK → Prop := fun xs H Q => ∃ mu hs ds w, Sim K mg mu hs H ∧ RDs K mu H ds xs ∧ g hs ds = some w ∧
  ∀ mu' H' v, Lat mu H mu' H' → Sim K mg mu' hs H' → RD K mu' H' w v → Q v H'
def eCall (g : Hs → List D → Option D) (f : FA) : FE := fun e hs => (f e hs).bind fun ds hs => R.ofO (g hs ds) hs
theorem tG_call {K : PySem.W.Frag} {mg : Str → Option Value} {g : Hs → List D → Option D} {f : FA} {σ : L2.St} {H : Hp} {Q : VK} (h : tG (relD K) K mg Wd (eCall g f) σ H Q) : tG (relA K) K mg Wd f σ H (fun xs H1 => rC K mg g xs H1 Q) := by
  obtain ⟨e, mu, hs, S, E, q⟩ := tG_seq (r := relA K) relD_ok h
  refine ⟨e, mu, hs, S, E, q.imp fun x H1 ⟨e, mu1, hs1, d, S1, E1, r1, g2⟩ => ?_⟩
  cases q : g hs1 d with
  | none => rw [q] at g2; exact g2.elim
  | some w => rw [q] at g2; exact ⟨mu1, hs1, d, w, S1, r1, q, g2⟩
variable {g : Hs → List D → Option D} {f : FA} {x : Str} {p : Pos} {e : Expr} {es : List Expr} {mid T : String}
theorem ue_callB (hc : CallR X (.builtin mid) (rC X.K X.mg g)) (hg : Gl X x) (hm : X.mg x = none) (hv : bootBuiltins x = some (.builtin mid)) (ha : UA X Wd (e :: es) f) (hn : x ≠ "__name__" := by decide) (hdb : (x == ("__debug__" : Str)) = false := by decide)
    (he : starEach (e :: es) X.env = (false, eval e X.env) :: starEach es X.env := by rfl) (hpl : (backTo pos (starEach es X.env)).any (·.1) = false := by rfl) : UE X Wd (.Call (.Name x p) (e :: es) [] pos) (eCall g f) :=
  PE.imp (pe_callB hc hg hm hv ha hn hdb he hpl) fun _ _ _ h => tG_call h
theorem ue_callTy (hc : CallR X (.type T) (rC X.K X.mg g)) (hg : Gl X x) (hm : X.mg x = none) (hv : bootBuiltins x = some (.type T)) (ha : UA X Wd (e :: es) f) (hn : x ≠ "__name__" := by decide) (hdb : (x == ("__debug__" : Str)) = false := by decide)
    (he : starEach (e :: es) X.env = (false, eval e X.env) :: starEach es X.env := by rfl) (hpl : (backTo pos (starEach es X.env)).any (·.1) = false := by rfl) : UE X Wd (.Call (.Name x p) (e :: es) [] pos) (eCall g f) :=
  PE.imp (pe_callTy hc hg hm hv ha hn hdb he hpl) fun _ _ _ h => tG_call h
/-- len -/
def gLen (hs : Hs) (ds : List D) : Option D := match ds with
  | [d] => (match d with
    | .str y => if y.length ≤ sizeLine then some (.int y.length) else none
    | d => match seqOf hs d with | some ds => some (.int ds.length) | none => none)
  | _ => none
theorem cg_len : CallR X (.builtin "len") (rC X.K X.mg gLen) := by
  rintro pins s σ H xs us Q I r ⟨mu, hs, ds, w, S, rs, hg, q⟩
  unfold gLen at hg
  split at hg
  · rename_i d
    cases rs with
    | cons r1 r2 =>
      cases r2
      cases d with
      | str y =>
        dsimp only at hg
        split at hg
        · rename_i hz
          cases hg; cases r1
          exact call_len pins s σ H _ us Q I r ⟨_, _, rfl, ⟨hz, rfl⟩, fin0 S q (.int _)⟩
        · cases hg
      | _ =>
        dsimp only at hg
        split at hg
        · rename_i ds hds
          cases hg
          obtain ⟨p, vs, rfl, h1, h2⟩ := seqOf_at S r1 hds
          exact call_len pins s σ H _ us Q I r ⟨_, _, rfl, h1.elim (fun z => .inl ⟨vs, z, h2.length⟩) (fun z => .inr ⟨vs, z, h2.length⟩), fin0 S q (.int _)⟩
        · cases hg
  · cases hg
/-- min, max of two ints -/
def gMin2 (hs : Hs) (ds : List D) : Option D := match ds with | [.int i, .int j] => some (.int (if j < i then j else i)) | _ => none
def gMax2 (hs : Hs) (ds : List D) : Option D := match ds with | [.int i, .int j] => some (.int (if j > i then j else i)) | _ => none
/-- ints of a list -/
def intsOf : List D → Option (List Int)
  | [] => some []
  | .int i :: ds => (intsOf ds).map (i :: ·)
  | _ :: _ => none
theorem intsOf_eq : ∀ {ds : List D} {ns : List Int}, intsOf ds = some ns → ds = ns.map D.int
  | [], ns, h => by cases h; rfl
  | d :: ds, ns, h => by
    cases d with
    | int i =>
      obtain ⟨m, h1, h2⟩ := Option.map_eq_some_iff.mp (show (intsOf ds).map (i :: ·) = some ns from h)
      subst h2
      rw [intsOf_eq h1]; rfl
    | _ => cases h
theorem intsOf_map : ∀ ns : List Int, intsOf (ns.map D.int) = some ns
  | [] => rfl
  | n :: ns => by show (intsOf (ns.map D.int)).map (n :: ·) = _; rw [intsOf_map ns]; rfl
theorem RDs.of_ints {K : PySem.W.Frag} {mu : Mp} {H : Hp} : ∀ {ns : List Int} {vs : List V}, RDs K mu H (ns.map D.int) vs → vs = ns.map V.int
  | [], _, h => by cases h; rfl
  | n :: ns, _, h => by cases h with | cons r t => cases r; rw [RDs.of_ints t]; rfl
def gSum (hs : Hs) (ds : List D) : Option D := match ds with
  | [d] => (match rdOf hs d with | some xs => (match intsOf xs with | some ns => some (.int ns.sum) | none => none) | none => none)
  | _ => none
theorem cg_sum (hc : X.calm = true) : CallR X (.builtin "sum") (rC X.K X.mg gSum) := by
  rintro pins s σ H xs us Q I r ⟨mu, hs, ds, w, S, rs, hg, q⟩
  unfold gSum at hg
  split at hg
  · split at hg
    · rename_i ds hds
      split at hg
      · rename_i ns hns
        cases hg
        cases rs with
        | cons r1 r2 =>
          cases r2
          obtain ⟨p, vs, rfl, h1, h2⟩ := rdOf_at S r1 hds
          rw [intsOf_eq hns] at h2
          rw [h2.of_ints] at h1
          exact cr_sum hc pins s σ H _ us Q I r ⟨p, ns, rfl, h1, fin0 S q (.int _)⟩
      · cases hg
    · cases hg
  · cases hg
/-- bools of a list -/
def blsOf : List D → Option (List Bool)
  | [] => some []
  | .bl i :: ds => (blsOf ds).map (i :: ·)
  | _ :: _ => none
theorem blsOf_eq : ∀ {ds : List D} {ns : List Bool}, blsOf ds = some ns → ds = ns.map D.bl
  | [], ns, h => by cases h; rfl
  | d :: ds, ns, h => by
    cases d with
    | bl i =>
      obtain ⟨m, h1, h2⟩ := Option.map_eq_some_iff.mp (show (blsOf ds).map (i :: ·) = some ns from h)
      subst h2
      rw [blsOf_eq h1]; rfl
    | _ => cases h
theorem blsOf_map : ∀ ns : List Bool, blsOf (ns.map D.bl) = some ns
  | [] => rfl
  | n :: ns => by show (blsOf (ns.map D.bl)).map (n :: ·) = _; rw [blsOf_map ns]; rfl
theorem RDs.of_bls {K : PySem.W.Frag} {mu : Mp} {H : Hp} : ∀ {ns : List Bool} {vs : List V}, RDs K mu H (ns.map D.bl) vs → vs = ns.map V.bl
  | [], _, h => by cases h; rfl
  | n :: ns, _, h => by cases h with | cons r t => cases r; rw [RDs.of_bls t]; rfl
def gAll (hs : Hs) (ds : List D) : Option D := match ds with
  | [d] => (match rdOf hs d with | some xs => (match blsOf xs with | some ns => some (.bl (ns.all id)) | none => none) | none => none)
  | _ => none
theorem cg_all (hc : X.calm = true) : CallR X (.builtin "all") (rC X.K X.mg gAll) := by
  rintro pins s σ H xs us Q I r ⟨mu, hs, ds, w, S, rs, hg, q⟩
  unfold gAll at hg
  split at hg
  · split at hg
    · rename_i ds hds
      split at hg
      · rename_i ns hns
        cases hg
        cases rs with
        | cons r1 r2 =>
          cases r2
          obtain ⟨p, vs, rfl, h1, h2⟩ := rdOf_at S r1 hds
          rw [blsOf_eq hns] at h2
          rw [h2.of_bls] at h1
          exact cr_all hc pins s σ H _ us Q I r ⟨p, ns, rfl, h1, fin0 S q (.bl _)⟩
      · cases hg
    · cases hg
  · cases hg
/-- int of an int, a bool; str of an int, a text -/
def gInt (hs : Hs) (ds : List D) : Option D := match ds with
  | [.int i] => some (.int i)
  | [.bl k] => some (.int (if k then 1 else 0))
  | _ => none
theorem cg_int : CallR X (.type "int") (rC X.K X.mg gInt) := by
  rintro pins s σ H xs us Q I r ⟨mu, hs, ds, w, S, rs, hg, q⟩
  unfold gInt at hg
  split at hg
  · cases hg
    cases rs with
    | cons r1 r2 => cases r1; cases r2; exact call_int1 pins s σ H _ us Q I r (.inl ⟨_, rfl, fin0 S q (.int _)⟩)
  · cases hg
    cases rs with
    | cons r1 r2 => cases r1; cases r2; exact call_int1 pins s σ H _ us Q I r (.inr ⟨_, rfl, fin0 S q (.int _)⟩)
  · cases hg
def gStr (hs : Hs) (ds : List D) : Option D := match ds with
  | [.int i] => if i.natAbs.log2 < 1920 then some (.str (toString i)) else none
  | [.bl b] => some (.str (if b then "True" else "False"))
  | _ => none
theorem cg_str : CallR X (.type "str") (rC X.K X.mg gStr) := by
  rintro pins s σ H xs us Q I r ⟨mu, hs, ds, w, S, rs, hg, q⟩
  unfold gStr at hg
  split at hg
  · split at hg
    · rename_i hz
      cases hg
      cases rs with
      | cons r1 r2 => cases r1; cases r2; exact call_str_int pins s σ H _ us Q I r ⟨_, rfl, hz, fin0 S q (.str _)⟩
    · cases hg
  · cases hg
    cases rs with
    | cons r1 r2 =>
      cases r1; cases r2
      obtain ⟨u, rfl, ru⟩ := vals1 r
      cases ru
      exact PySem.P.str_of_bool ⟨.str _, H, I.tok _, ⟨_, rfl⟩, fin0 S q (.str _)⟩
  · cases hg
/-- list(x), tuple(x) -/
def lList (f : FE) : FL := fun e hs => (f e hs).bind fun d hs => R.ofO (seqOf hs d) hs
theorem uf_list (hg : Gl X "list") (hm : X.mg "list" = none) (ha : UE X Wd a f1)
    (hs1 : starEach [a] X.env = [(false, eval a X.env)] := by rfl) : UF X Wd (.Call (.Name "list" p) [a] [] pos) (lList f1) := by
  refine PE.imp (pe_callTy call_list_of hg hm boot_list (pa_cons ha pa_nil hs1) (by decide) (by decide) hs1 rfl) fun σ H Q h => ?_
  obtain ⟨e, mu, hs, S, E, q⟩ := tG_seq (r := relD X.K) relF_ok h
  refine ⟨e, mu, hs, S, E, q.imp fun x H1 ⟨e, mu1, hs1, d, S1, E1, r1, g1⟩ => ?_⟩
  cases q : seqOf hs1 d with
  | none => rw [q] at g1; exact g1.elim
  | some ds =>
    rw [q] at g1
    obtain ⟨p, vs, rfl, h1, h2⟩ := seqOf_at S1 r1 q
    exact ⟨p, vs, rfl, h1, fun p hp => relF_new S1 g1 hp h2⟩
def gTuple (hs : Hs) (ds : List D) : Option D := match ds with
  | [d] => (match d with
    | .tup xs => some (.tup xs)
    | d => match rdOf hs d with | some xs => some (.tup xs) | none => none)
  | _ => none
theorem cg_tuple : CallR X (.type "tuple") (rC X.K X.mg gTuple) := by
  rintro pins s σ H xs us Q I r ⟨mu, hs, ds, w, S, rs, hg, q⟩
  cases rs with
  | nil => cases hg
  | cons r1 r2 =>
    cases r2 with
    | cons _ _ => cases hg
    | nil =>
      rename_i d v
      have lst : (match rdOf hs d with | some xs => some (D.tup xs) | none => none) = some w → wpAny (model X.prog X.w) X.A (call (.type "tuple") us) (EP X pins σ Q) X.xe s := by
        intro h
        split at h
        · rename_i ds hds
          cases h
          obtain ⟨p, vs, rfl, h1, h2⟩ := rdOf_at S r1 hds
          exact call_tuple_of pins s σ H _ us Q I r ⟨p, vs, rfl, .inl ⟨h1, fun l hl => finT S q hl h2⟩⟩
        · cases h
      cases d with
      | tup ds =>
        cases hg
        obtain ⟨p, vs, rfl, h1, h2⟩ := tupOf_at r1 rfl
        exact call_tuple_of pins s σ H _ us Q I r ⟨p, vs, rfl, .inr ⟨h1, fin0 S q r1⟩⟩
      | _ => exact lst hg
/-- repr of data -/
def smallText (p : PyData) : Bool := p.showable && decide (p.depth ≤ 60) && decide (p.shown.length ≤ sizeLine) && !p.hasDict
def gRepr (hs : Hs) (ds : List D) : Option D := match ds with
  | [d] => (match pd hs d with | some p => if smallText p = true then some (.str p.shown) else none | none => none)
  | _ => none
theorem cg_repr (hgd : X.A.guards = some []) (hu : X.A.units + 64 < cLine) : CallR X (.builtin "repr") (rC X.K X.mg gRepr) := by
  rintro pins s σ H xs us Q I r ⟨mu, hs, ds, w, S, rs, hg, q⟩
  unfold gRepr at hg
  split at hg
  · rename_i d
    split at hg
    · rename_i p hp
      split at hg
      · rename_i hz
        cases hg
        unfold smallText at hz
        simp only [Bool.and_eq_true, decide_eq_true_eq, Bool.not_eq_true'] at hz
        obtain ⟨⟨⟨z1, z2⟩, z3⟩, z4⟩ := hz
        cases rs with
        | cons r1 r2 =>
          cases r2
          have hd := pd_dp S r1 hp
          obtain ⟨u, rfl, ru⟩ := vals1 r
          have fin : ∀ (h' : Heap) (t : Tok) (tk : Nat), (∀ b o, s.heap.get? b = some o → h'.get? b = some o) → EP X pins σ Q (.str p.shown t) { s with heap := h', toks := tk } := fun h' t tk hk => ⟨.str p.shown, H, I.kept hk, ⟨t, rfl⟩, fin0 S q (.str _)⟩
          have fin1 : ∀ (t : Tok) (tk : Nat), EP X pins σ Q (.str p.shown t) { s with toks := tk } := fun t tk => ⟨.str p.shown, H, I.tok _, ⟨t, rfl⟩, fin0 S q (.str _)⟩
          cases hd with
          | non => cases ru; exact PySem.P.repr_of_none (fin1 _ _)
          | bl b => cases ru; exact PySem.P.repr_of_bool (fin1 _ _)
          | int i =>
            obtain ⟨t, rfl⟩ := ru
            exact PySem.P.repr_of_int (by simpa [PyData.showable] using z1) (fin1 _ _)
          | str x => obtain ⟨t, rfl⟩ := ru; exact PySem.P.repr_of_str (fin1 _ _) z3
          | lst h1 h2 =>
            obtain ⟨as, rd⟩ := Dp.reads I _ _ _ (.lst h1 h2) ru
            cases ru
            exact repr_of_reads' rd z1 (PyData.noDict_hsm z4) hgd (by omega) (fun _ _ e => e) (fun h' u tk hk => fin h' u tk hk) z3
          | tup h1 h2 =>
            obtain ⟨as, rd⟩ := Dp.reads I _ _ _ (.tup h1 h2) ru
            cases ru
            exact repr_of_reads' rd z1 (PyData.noDict_hsm z4) hgd (by omega) (fun _ _ e => e) (fun h' u tk hk => fin h' u tk hk) z3
      · cases hg
    · cases hg
  · cases hg

/-! ### methods -/
/-- a method by values: our heap may change -/
def rMd (K : PySem.W.Frag) (mg : Str → Option Value) (g : Hs → D → List D → Option (D × Hs)) : V → List V → Hp → VK → Prop := fun x xs H Q => ∃ mu hs d ds w hs', Sim K mg mu hs H ∧ RD K mu H d x ∧ RDs K mu H ds xs ∧ g hs d ds = some (w, hs') ∧
  ∀ mu' H' v, Lat mu H mu' H' → Sim K mg mu' hs' H' → RD K mu' H' w v → Q v H'
def isL (hs : Hs) (d : D) : Bool := (lstOf hs d).isSome
def isS (d : D) : Bool := match d with | .str _ => true | _ => false
def R.ofP {t : Type} (o : Option (t × Hs)) : R t := match o with | some (x, hs) => .ok x hs | none => .bad
def eMt (c : Hs → D → Bool) (g : Hs → D → List D → Option (D × Hs)) (f1 : FE) (f : FA) : FE := fun e hs => (f1 e hs).bind fun d hs => if c hs d = true then (f e hs).bind fun ds hs => R.ofP (g hs d ds) else .bad
theorem tG_mt {K : PySem.W.Frag} {mg : Str → Option Value} {T : String} {c : Hs → D → Bool} {g : Hs → D → List D → Option (D × Hs)} (hc : ∀ mu hs H d x, Sim K mg mu hs H → RD K mu H d x → c hs d = true → tyV K T x H) {f : FA} {σ : L2.St} {H : Hp} {Q : VK} (h : tG (relD K) K mg Wd (eMt c g f1 f) σ H Q) :
    tBM K T (rMd K mg g) (tG (relD K) K mg Wd f1) (tG (relA K) K mg Wd f) σ H Q := by
  obtain ⟨e, mu, hs, S, E, q⟩ := tG_seq (r := relD K) relD_ok h
  refine ⟨e, mu, hs, S, E, q.imp fun x H1 ⟨e, mu1, hs1, d, S1, E1, r1, g1⟩ => ?_⟩
  split at g1
  · rename_i hcd
    refine ⟨hc _ _ _ _ _ S1 r1 hcd, e, mu1, hs1, S1, E1, (Gd.bind (r := relA K) relD_ok g1).imp fun xs H2 ⟨mu2, hs2, ds, l2, S2, r2, g2⟩ => ?_⟩
    cases q : g hs2 d ds with
    | none => rw [q] at g2; exact g2.elim
    | some w => rw [q] at g2; exact ⟨mu2, hs2, d, ds, w.1, w.2, S2, RD.agr (l2.agr S1) r1, r2, q, g2⟩
  · exact g1.elim
theorem tG_mt0 {K : PySem.W.Frag} {mg : Str → Option Value} {T : String} {c : Hs → D → Bool} {g : Hs → D → List D → Option (D × Hs)} (hc : ∀ mu hs H d x, Sim K mg mu hs H → RD K mu H d x → c hs d = true → tyV K T x H) {σ : L2.St} {H : Hp} {Q : VK} (h : tG (relD K) K mg Wd (eMt c g f1 aNil) σ H Q) :
    tBM0 K T (rMd K mg g) (tG (relD K) K mg Wd f1) σ H Q := by
  obtain ⟨e, mu, hs, S, E, q⟩ := tG_seq (r := relD K) relD_ok h
  refine ⟨e, mu, hs, S, E, q.imp fun x H1 ⟨e, mu1, hs1, d, S1, E1, r1, g1⟩ => ?_⟩
  split at g1
  · rename_i hcd
    refine ⟨hc _ _ _ _ _ S1 r1 hcd, ?_⟩
    have g1 : Gd (relD K) K mg Wd σ mu1 H1 Q (R.ofP (g hs1 d [])) := g1
    cases q : g hs1 d [] with
    | none => rw [q] at g1; exact g1.elim
    | some w => rw [q] at g1; exact ⟨mu1, hs1, d, [], w.1, w.2, S1, r1, .nil, q, g1⟩
  · exact g1.elim
theorem isL_ty {K : PySem.W.Frag} {mg : Str → Option Value} : ∀ mu hs H d x, Sim K mg mu hs H → RD K mu H d x → isL hs d = true → tyV K "list" x H := fun mu hs H d x S r h => by
  unfold isL at h
  cases e : lstOf hs d with
  | none => rw [e] at h; cases h
  | some ds =>
    obtain ⟨a, vs, rfl, h1, _⟩ := lstOf_at S r e
    exact .inl ⟨rfl, vs, .of h1⟩
theorem isS_ty {K : PySem.W.Frag} {mg : Str → Option Value} : ∀ (mu : Mp) (hs : Hs) (H : Hp) (d : D) (x : V), Sim K mg mu hs H → RD K mu H d x → isS d = true → tyV K "str" x H := fun mu hs H d x S r h => by
  cases r <;> first | rfl | cases h
variable {o : Expr} {name : Str} {apos cpos : Pos} {c : Hs → D → Bool} {g' : Hs → D → List D → Option (D × Hs)}
theorem ue_mt (hc : ∀ mu hs H d x, Sim X.K X.mg mu hs H → RD X.K mu H d x → c hs d = true → tyV X.K T x H) (pa : PlainAttrs T) (slot : Slot T name mid) (hty : typeOf (.builtin mid) = pure (.type "method_descriptor")) (hm : MtR X mid (rMd X.K X.mg g')) (ho : UE X Wd o f1) (ha : UA X Wd (e :: es) f)
    (hbase : attributeBase o name X.env (eval o X.env) = eval o X.env := by rfl)
    (hfew : ((backTo cpos (starEach (e :: es) X.env)).all (fun x => !x.1) && (backToKw cpos (keywordEach [] X.env)).all (fun x => x.1.isSome)
      && decide ((e :: es).length + ([] : List Keyword).length + (if ([] : List Keyword).isEmpty then 0 else 1) < 30)) = true := by rfl)
    (hline : (apos.endLine == cpos.line) = true := by rfl) (hs : starEach (e :: es) X.env = (false, eval e X.env) :: starEach es X.env := by rfl) (hplain : (backTo cpos (starEach es X.env)).any (·.1) = false := by rfl) :
    UE X Wd (.Call (.Attribute o name apos) (e :: es) [] cpos) (eMt c g' f1 f) := PE.imp (pe_bm pa slot hty hm ho ha hbase hfew hline hs hplain) fun _ _ _ h => tG_mt hc h
theorem ue_mt0 (hc : ∀ mu hs H d x, Sim X.K X.mg mu hs H → RD X.K mu H d x → c hs d = true → tyV X.K T x H) (pa : PlainAttrs T) (slot : Slot T name mid) (hty : typeOf (.builtin mid) = pure (.type "method_descriptor")) (hm : MtR X mid (rMd X.K X.mg g')) (ho : UE X Wd o f1)
    (hbase : attributeBase o name X.env (eval o X.env) = eval o X.env := by rfl) (hline : (apos.endLine == cpos.line) = true := by rfl) :
    UE X Wd (.Call (.Attribute o name apos) [] [] cpos) (eMt c g' f1 aNil) := PE.imp (pe_bm0 pa slot hty hm ho hbase hline) fun _ _ _ h => tG_mt0 hc h
/-- a list of the heap -/
def refOf (hs : Hs) : D → Option (Nat × List D)
  | .ref n => match hs[n]? with | some (.lst ds) => some (n, ds) | _ => none
  | _ => none
theorem refOf_at {K : PySem.W.Frag} {mg : Str → Option Value} {mu : Mp} {hs : Hs} {H : Hp} {d : D} {v : V} {n : Nat} {ds : List D} (S : Sim K mg mu hs H) (r : RD K mu H d v) (e : refOf hs d = some (n, ds)) : ∃ a vs, v = .ref a ∧ mu.l[n]? = some a ∧ H a = some (.lst vs) ∧ RDs K mu H ds vs := by
  cases r with
  | ref q =>
    unfold refOf at e
    dsimp only at e
    split at e
    · rename_i ds' he
      cases e
      obtain ⟨u, h1, h2⟩ := S.at q he
      cases u <;> first | exact ⟨_, _, rfl, q, h1, h2⟩ | exact h2.elim
    · cases e
  | _ => cases e
def mAppend (hs : Hs) (d : D) (ds : List D) : Option (D × Hs) := match ds with
  | [y] => (match refOf hs d with | some (n, xs) => if xs.length < sizeLine then some (.non, hs.set n (.lst (xs ++ [y]))) else none | none => none)
  | _ => none
theorem mg_append : MtR X "list.append" (rMd X.K X.mg mAppend) := by
  rintro pins s σ H x xs v us Q I rx rxs ⟨mu, hs, d, ds, w, hs', S, r1, r2, hg, q⟩
  unfold mAppend at hg
  split at hg
  · split at hg
    · rename_i n xs hx
      split at hg
      · rename_i hz
        cases hg
        cases r2 with
        | cons r3 r4 =>
          cases r4
          obtain ⟨a, vs, rfl, h1, h2, h3⟩ := refOf_at S r1 hx
          refine mt_append pins s σ H _ _ v us Q I rx rxs ⟨a, vs, _, rfl, rfl, h2, by rw [← h3.length]; exact hz, ?_⟩
          exact q mu _ _ (.write h1 (nfL h2)) (S.write h1 (RDs.snoc h3 r3)) .non
      · cases hg
    · cases hg
  · cases hg
def mPop (hs : Hs) (d : D) (ds : List D) : Option (D × Hs) := match ds with
  | [] => (match refOf hs d with | some (n, xs) => (match xs[xs.length - 1]? with | some y => some (y, hs.set n (.lst xs.dropLast)) | none => none) | none => none)
  | _ => none
theorem RDs.dropLast {K : PySem.W.Frag} {mu : Mp} {H : Hp} {ds : List D} {vs : List V} (r : RDs K mu H ds vs) : RDs K mu H ds.dropLast vs.dropLast := by
  rw [List.dropLast_eq_take, List.dropLast_eq_take, r.length]
  exact r.take _
theorem mg_pop : MtR X "list.pop" (rMd X.K X.mg mPop) := by
  rintro pins s σ H x xs v us Q I rx rxs ⟨mu, hs, d, ds, w, hs', S, r1, r2, hg, q⟩
  unfold mPop at hg
  split at hg
  · split at hg
    · rename_i n xs hx
      split at hg
      · rename_i y hy
        cases hg
        cases r2
        obtain ⟨a, vs, rfl, h1, h2, h3⟩ := refOf_at S r1 hx
        rw [h3.length] at hy
        obtain ⟨z, h4, h5⟩ := h3.get hy
        refine mt_pop pins s σ H _ _ v us Q I rx rxs ⟨a, vs, z, rfl, rfl, h2, h4, ?_⟩
        exact q mu _ _ (.write h1 (nfL h2)) (S.write h1 h3.dropLast) (RD.agr (Lat.agr (.write h1 (nfL h2)) S) h5)
      · cases hg
    · cases hg
  · cases hg
/-- sep.join(texts) -/
def strsOf : List D → Option (List Str)
  | [] => some []
  | .str i :: ds => (strsOf ds).map (i :: ·)
  | _ :: _ => none
theorem strsOf_eq : ∀ {ds : List D} {ns : List Str}, strsOf ds = some ns → ds = ns.map D.str
  | [], ns, h => by cases h; rfl
  | d :: ds, ns, h => by
    cases d with
    | str i =>
      obtain ⟨m, h1, h2⟩ := Option.map_eq_some_iff.mp (show (strsOf ds).map (i :: ·) = some ns from h)
      subst h2
      rw [strsOf_eq h1]; rfl
    | _ => cases h
theorem strsOf_map : ∀ ns : List Str, strsOf (ns.map D.str) = some ns
  | [] => rfl
  | n :: ns => by show (strsOf (ns.map D.str)).map (n :: ·) = _; rw [strsOf_map ns]; rfl
theorem RDs.of_strs {K : PySem.W.Frag} {mu : Mp} {H : Hp} : ∀ {ns : List Str} {vs : List V}, RDs K mu H (ns.map D.str) vs → vs = ns.map V.str
  | [], _, h => by cases h; rfl
  | n :: ns, _, h => by cases h with | cons r t => cases r; rw [RDs.of_strs t]; rfl
def mJoin (hs : Hs) (d : D) (ds : List D) : Option (D × Hs) := match ds with
  | [y] => (match d with | .str a => (match seqOf hs y with | some zs => (match strsOf zs with | some ys => if (ys.map (·.length)).sum + ys.length * a.length ≤ 16777216 then some (.str (Txt.join a ys), hs) else none | none => none) | none => none) | _ => none)
  | _ => none
theorem mg_join : MtR X "str.join" (rMd X.K X.mg mJoin) := by
  rintro pins s σ H x xs v us Q I rx rxs ⟨mu, hs, d, ds, w, hs', S, r1, r2, hg, q⟩
  unfold mJoin at hg
  split at hg
  · split at hg
    · split at hg
      · rename_i zs hzs
        split at hg
        · rename_i ys hys
          split at hg
          · rename_i hz
            cases hg; cases r1
            cases r2 with
            | cons r3 r4 =>
              cases r4
              obtain ⟨p, vs, rfl, h1, h2⟩ := seqOf_at S r3 hzs
              rw [strsOf_eq hys] at h2
              have := h2.of_strs
              subst this
              exact mt_join pins s σ H _ _ v us Q I rx rxs ⟨_, p, ys, rfl, rfl, h1, hz, q mu H _ .refl S (.str _)⟩
          · cases hg
        · cases hg
      · cases hg
    · cases hg
  · cases hg
end
/-! # G6: statements, targets, what is walked, loops, comprehensions -/
/-- what is wanted of a statement's end -/
def GdS (K : PySem.W.Frag) (mg : Str → Option Value) (Wd : WX) (D : Ends) (mu : Mp) (H : Hp) : SR → Prop
  | .nx e hs' => ∀ mu' H' σ', Lat mu H mu' H' → Sim K mg mu' hs' H' → RE K mu' H' e σ' → D.nx σ' H'
  | .brk e hs' => ∀ mu' H' σ', Lat mu H mu' H' → Sim K mg mu' hs' H' → RE K mu' H' e σ' → D.bk σ' H'
  | .cnt e hs' => ∀ mu' H' σ', Lat mu H mu' H' → Sim K mg mu' hs' H' → RE K mu' H' e σ' → D.ct σ' H'
  | .ret d hs' => ∀ mu' H' v, Lat mu H mu' H' → Sim K mg mu' hs' H' → RD K mu' H' d v → D.rt v H'
  | .exc c fs e hs' => ∀ mu' H' σ' cls dx, Lat mu H mu' H' → Sim K mg mu' hs' H' → RE K mu' H' e σ' → RX K mg mu' H' c fs cls dx → Wd cls dx σ' H'
  | .bad => False
def tS (K : PySem.W.Frag) (mg : Str → Option Value) (Wd : WX) (f : FS) : TS := fun D σ H => ∃ e mu hs, Sim K mg mu hs H ∧ RE K mu H e σ ∧ GdS K mg Wd D mu H (f e hs)
section
variable {K : PySem.W.Frag} {mg : Str → Option Value} {Wd : WX} {mu mu1 : Mp} {H H1 : Hp} {D : Ends}
theorem GdS.later (l : Lat mu H mu1 H1) {x : SR} (h : GdS K mg Wd D mu H x) : GdS K mg Wd D mu1 H1 x := by
  cases x with
  | nx e hs' => exact fun mu' H' σ' l' s' q => h mu' H' σ' (l.trans l') s' q
  | brk e hs' => exact fun mu' H' σ' l' s' q => h mu' H' σ' (l.trans l') s' q
  | cnt e hs' => exact fun mu' H' σ' l' s' q => h mu' H' σ' (l.trans l') s' q
  | ret d hs' => exact fun mu' H' v l' s' q => h mu' H' v (l.trans l') s' q
  | exc c fs e hs' => exact fun mu' H' σ' cls dx l' s' q => h mu' H' σ' cls dx (l.trans l') s' q
  | bad => exact h
end
/-- an expression ahead of a statement -/
def sBind {a : Type} (f : Ev → Hs → R a) (k : a → FS) : FS := fun e hs => match f e hs with
  | .ok x hs' => k x e hs'
  | .exc c fs hs' => .exc c fs e hs'
  | .bad => .bad
theorem tS_bind {K : PySem.W.Frag} {mg : Str → Option Value} {Wd : WX} {a b : Type} {r : Rel a b} {f : Ev → Hs → R a} {k : a → FS} {D : Ends} {σ : L2.St} {H : Hp} (h : tS K mg Wd (sBind f k) D σ H) :
    tG r K mg Wd f σ H (fun y H1 => ∃ e mu1 hs1 x, Sim K mg mu1 hs1 H1 ∧ RE K mu1 H1 e σ ∧ r H mu1 hs1 H1 x y ∧ GdS K mg Wd D mu1 H1 (k x e hs1)) := by
  obtain ⟨e, mu, hs, S, E, g⟩ := h
  refine ⟨e, mu, hs, S, E, ?_⟩
  unfold sBind at g
  cases q : f e hs with
  | ok x hs' => rw [q] at g; exact fun mu' H' y l s rr => ⟨e, mu', hs', x, s, E.agr (l.agr S), rr, GdS.later l g⟩
  | exc c fs hs' => rw [q] at g; exact fun mu' H' cls dx l s rr => g mu' H' σ cls dx l s (E.agr (l.agr S)) rr
  | bad => rw [q] at g; exact g
theorem PS.imp {X : Cx} {st : Stmt} {t t' : TS} (h : PS X st t) (i : ∀ D σ H, t' D σ H → t D σ H) : PS X st t' := ⟨fun pins s σ H D I q => h.run pins s σ H D I (i D σ H q)⟩
theorem PSs.imp {X : Cx} {st : List Stmt} {t t' : TS} (h : PSs X st t) (i : ∀ D σ H, t' D σ H → t D σ H) : PSs X st t' := ⟨fun pins s σ H D I q => h.run pins s σ H D I (i D σ H q)⟩
abbrev US (X : Cx) (Wd : WX) (st : Stmt) (f : FS) : Prop := PS X st (tS X.K X.mg Wd f)
abbrev USs (X : Cx) (Wd : WX) (st : List Stmt) (f : FS) : Prop := PSs X st (tS X.K X.mg Wd f)

def sSkip : FS := fun e hs => .nx e hs
def sSeq (f g : FS) : FS := fun e hs => match f e hs with
  | .nx e' hs' => g e' hs'
  | .brk e' hs' => .brk e' hs'
  | .cnt e' hs' => .cnt e' hs'
  | .ret d hs' => .ret d hs'
  | .exc c fs e' hs' => .exc c fs e' hs'
  | .bad => .bad
section
variable {X : Cx} {Wd : WX} {st : Stmt} {rest : List Stmt} {f g : FS} {a b : Expr} {f1 f2 : FE} {t1 : FT} {pos : Pos}
theorem us_nil : USs X Wd [] sSkip := by
  refine PSs.imp pss_nil fun D σ H ⟨e, mu, hs, S, E, g⟩ => g mu H σ .refl S E
theorem us_cons (h1 : US X Wd st f) (h2 : USs X Wd rest g) : USs X Wd (st :: rest) (sSeq f g) := by
  refine PSs.imp (pss_cons h1 h2) fun D σ H ⟨e, mu, hs, S, E, q⟩ => ⟨e, mu, hs, S, E, ?_⟩
  unfold sSeq at q
  cases r : f e hs with
  | nx e' hs' => rw [r] at q; exact fun mu' H' σ' l s rr => ⟨e', mu', hs', s, rr, GdS.later l q⟩
  | brk e' hs' => rw [r] at q; exact q
  | cnt e' hs' => rw [r] at q; exact q
  | ret d hs' => rw [r] at q; exact q
  | exc c fs e' hs' => rw [r] at q; exact q
  | bad => rw [r] at q; exact q
theorem us_one (h1 : US X Wd st f) : USs X Wd [st] f := PSs.imp (pss_one h1) fun _ _ _ h => h
def sDrop (f1 : FE) : FS := sBind f1 fun _ e hs => .nx e hs
theorem us_expr (ha : UE X Wd a f1) (hs : swapsWith a none pos.line X.env = pure false := by rfl) : US X Wd (.Expr a pos) (sDrop f1) := by
  refine PS.imp (ps_expr ha hs) fun D σ H h => ?_
  obtain ⟨e, mu, hs, S, E, q⟩ := tS_bind (r := relD X.K) h
  exact ⟨e, mu, hs, S, E, q.imp fun v H1 ⟨e, mu1, hs1, d, S1, E1, r1, g1⟩ => g1 mu1 H1 σ .refl S1 E1⟩
def sRet (f1 : FE) : FS := sBind f1 fun d _ hs => .ret d hs
theorem us_ret (ha : UE X Wd a f1) : US X Wd (.Return (some a) pos) (sRet f1) := by
  refine PS.imp (ps_ret ha) fun D σ H h => ?_
  obtain ⟨e, mu, hs, S, E, q⟩ := tS_bind (r := relD X.K) h
  exact ⟨e, mu, hs, S, E, q.imp fun v H1 ⟨e, mu1, hs1, d, S1, E1, r1, g1⟩ => g1 mu1 H1 v .refl S1 r1⟩
def sRetN : FS := fun _ hs => .ret .non hs
def sIf (t : FT) (f g : FS) : FS := sBind t fun c => if c = true then f else g
theorem us_if {c : Expr} {sa sb : List Stmt} (hc : UT X Wd c t1) (ha : USs X Wd sa f) (hb : USs X Wd sb g) : US X Wd (.If c sa sb pos) (sIf t1 f g) := by
  refine PS.imp (ps_if hc ha hb) fun D σ H h => ?_
  obtain ⟨e, mu, hs, S, E, q⟩ := tS_bind (r := relB) h
  refine ⟨e, mu, hs, S, E, q.imp fun v H1 ⟨e, mu1, hs1, d, S1, E1, r1, g1⟩ => ?_⟩
  have r1 : d = v := r1
  subst r1
  cases d with
  | true => exact ⟨e, mu1, hs1, S1, E1, g1⟩
  | false => exact ⟨e, mu1, hs1, S1, E1, g1⟩
/-! ### targets -/
abbrev FG := D → Ev → Option Ev
def tGt (K : PySem.W.Frag) (mg : Str → Option Value) (vs : List Nat) (g : FG) : TG := fun v σ H Q => ∃ e mu hs d e', Sim K mg mu hs H ∧ RE K mu H e σ ∧ RD K mu H d v ∧ g d e = some e' ∧
  ∀ σ', RE K mu H e' σ' → wipe σ' vs = wipe σ vs → Q σ' H
abbrev FGs := List D → Ev → Option Ev
theorem PG.imp {tg : Expr} {t t' : TG} (h : PG X tg t) (i : ∀ v σ H Q, t' v σ H Q → t v σ H Q) : PG X tg t' := ⟨fun pins s σ H v u Q I r q => h.run pins s σ H v u Q I r (i v σ H Q q)⟩
theorem PG.or {tg : Expr} {t t' : TG} (h : PG X tg t) (h' : PG X tg t') : PG X tg (fun v σ H Q => t v σ H Q ∨ t' v σ H Q) := ⟨fun pins s σ H v u Q I r q => q.elim (h.run pins s σ H v u Q I r) (h'.run pins s σ H v u Q I r)⟩
abbrev UG (X : Cx) (vs : List Nat) (tg : Expr) (g : FG) : Prop := PG X tg (tGt X.K X.mg vs g)
theorem wipe_set {σ : L2.St} {i : Nat} {x : Option V} : ∀ {vs : List Nat}, i ∈ vs → wipe (σ.set i x) vs = wipe σ vs
  | v :: vs, h => by
    unfold wipe
    by_cases hv : i ∈ vs
    · rw [wipe_set hv]
    · have e : v = i := by
        rcases List.mem_cons.mp h with h | h
        · exact h.symm
        · exact absurd h hv
      subst e
      clear h
      have out : ∀ (vs : List Nat), v ∉ vs → wipe (σ.set v x) vs = (wipe σ vs).set v x := by
        intro vs
        induction vs with
        | nil => intro _; rfl
        | cons w vs ih =>
          intro hn
          unfold wipe
          rw [ih (fun z => hn (List.mem_cons_of_mem _ z)), List.set_comm _ _ (fun z => hn (by rw [z]; exact List.mem_cons_self))]
      rw [out vs hv, List.set_set]
def nSet (i : Nat) : FG := fun d e => some (e.set i (some d))
theorem ug_name {i : Nat} {x : Str} {vs : List Nat} (hN : X.N.Nodup) (hm : i ∈ vs) (hi : X.N[i]? = some x := by rfl) (hx : Loc X.env.scope x := by first | exact Or.inl rfl | exact Or.inr rfl) (hf : X.fn x = true ∨ X.env.scope.names.lookup x = some .local := by first | exact .inl rfl | exact .inr rfl) : UG X vs (.Name x pos) (nSet i) := by
  refine PG.imp (pg_name hN hi hx hf) fun v σ H Q ⟨e, mu, hs, d, e', S, E, r, q, k⟩ => ?_
  cases q
  exact k _ (E.set i r) (wipe_set hm)
def nNil : FGs := fun ds e => match ds with | [] => some e | _ => none
def nCons (g : FG) (gs : FGs) : FGs := fun ds e => match ds with | d :: ds => (match g d e with | some e' => gs ds e' | none => none) | [] => none
/-- (a, b, ..) = a tuple, a list -/
def nTup (n : Nat) (gs : FGs) : FG := fun d e => match d with
  | .tup ds => if ds.length = n then gs ds e else none
  | .lst ds => if ds.length = n then gs ds e else none
  | _ => none
/-! ### assignments -/
def sSet (i : Nat) (f1 : FE) : FS := sBind f1 fun d e hs => .nx (e.set i (some d)) hs
theorem us_set {i : Nat} {x : Str} {pos' : Pos} (hN : X.N.Nodup) (ha : UE X Wd a f1) (hi : X.N[i]? = some x := by rfl) (hx : Loc X.env.scope x := by first | exact Or.inl rfl | exact Or.inr rfl) (hs : swapsWith a (some (.Name x pos')) pos.line X.env = pure false := by rfl)
    (hf : X.fn x = true ∨ X.env.scope.names.lookup x = some .local := by first | exact .inl rfl | exact .inr rfl) : US X Wd (.Assign [.Name x pos'] a pos) (sSet i f1) := by
  refine PS.imp (ps_set hN hi hx ha hs hf) fun D σ H h => ?_
  obtain ⟨e, mu, hs, S, E, q⟩ := tS_bind (r := relD X.K) h
  exact ⟨e, mu, hs, S, E, q.imp fun v H1 ⟨e, mu1, hs1, d, S1, E1, r1, g1⟩ => g1 mu1 H1 _ .refl S1 (E1.set i r1)⟩
/-- target = value -/
def sAsg (g : FG) (f1 : FE) : FS := sBind f1 fun d e hs => match g d e with | some e' => .nx e' hs | none => .bad
/-- a, b = x, y: two plain names -/
def sPar (i j : Nat) (f : FA) : FS := sBind f fun ds e hs => match ds with | [d1, d2] => .nx ((e.set i (some d1)).set j (some d2)) hs | _ => .bad
theorem us_par {i j : Nat} {x y : Str} {fa : FA} {px py pt : Pos} {kt k2 pt2} (hc : X.calm = true) (hN : X.N.Nodup) (hij : i ≠ j) (ha : UA X Wd [a, b] fa)
    (hw : swappedStores [.Tuple [.Name x px, .Name y py] kt pt] (.Tuple [a, b] k2 pt2) X.env = pure (some [x, y]))
    (hi : X.N[i]? = some x := by rfl) (hj : X.N[j]? = some y := by rfl) (hx : X.env.scope.names.lookup x = some .local := by rfl) (hy : X.env.scope.names.lookup y = some .local := by rfl)
    (hs : swapsWithSole [.Tuple [.Name x px, .Name y py] kt pt] (.Tuple [a, b] k2 pt2) pos.line X.env = pure false := by rfl) :
    US X Wd (.Assign [.Tuple [.Name x px, .Name y py] kt pt] (.Tuple [a, b] k2 pt2) pos) (sPar i j fa) := by
  refine PS.imp (ps_par hc hN hi hj hij hx hy ha hw hs) fun D σ H h => ?_
  obtain ⟨e, mu, hs, S, E, q⟩ := tS_bind (r := relA X.K) h
  refine ⟨e, mu, hs, S, E, q.imp fun v H1 ⟨e, mu1, hs1, d, S1, E1, r1, g1⟩ => ?_⟩
  split at g1
  · cases r1 with
    | cons r1 r2 => cases r2 with
      | cons r2 r3 => cases r3; exact ⟨_, _, rfl, g1 mu1 H1 _ .refl S1 ((E1.set i r1).set j r2)⟩
  · exact g1.elim
/-- o[i] = e -/
def rSet (K : PySem.W.Frag) (mg : Str → Option Value) (g : Hs → D → D → D → Option Hs) : TSet := fun o i v H Q => ∃ mu hs d1 d2 d3 hs', Sim K mg mu hs H ∧ RD K mu H d1 o ∧ RD K mu H d2 i ∧ RD K mu H d3 v ∧ g hs d1 d2 d3 = some hs' ∧ ∀ mu' H', Lat mu H mu' H' → Sim K mg mu' hs' H' → Q H'
def sSub (g : Hs → D → D → D → Option Hs) (fv fo fi : FE) : FS := sBind fv fun v => sBind fo fun o => sBind fi fun i e hs => match g hs o i v with | some hs' => .nx e hs' | none => .bad
theorem us_sub {v o i : Expr} {fv fo fi : FE} {g : Hs → D → D → D → Option Hs} {pos' : Pos} (hg : PSet X (rSet X.K X.mg g)) (hv : UE X Wd v fv) (ho : UE X Wd o fo) (hi : UE X Wd i fi)
    (ha : ∀ v, assign (.Subscript o i pos') X.env v = (do
      let ov ← holding [v] (eval o X.env)
      let iv ← holding [v, ov] (eval i X.env)
      standAt pos'
      holding [v, ov, iv] (setItem ov iv v)
      release [v, ov, iv] []) := by intro _; rfl)
    (hs : swapsWithSole [.Subscript o i pos'] v pos.line X.env = pure false := by rfl) (hw : swappedStores [.Subscript o i pos'] v X.env = pure none := by rfl)
    (h1 : (assignEach [.Subscript o i pos'] X.env).map (·.2) = [assign (.Subscript o i pos') X.env] := by rfl) : US X Wd (.Assign [.Subscript o i pos'] v pos) (sSub g fv fo fi) := by
  refine PS.imp (ps_asg hv (pg_sub ho hi hg ha) hs hw h1) fun D σ H h => ?_
  obtain ⟨e, mu, hs, S, E, q⟩ := tS_bind (r := relD X.K) h
  refine ⟨e, mu, hs, S, E, q.imp fun x H1 ⟨e, mu1, hs1, d, S1, E1, r1, g1⟩ => ?_⟩
  refine ⟨e, mu1, hs1, S1, E1, ?_⟩
  unfold sBind at g1
  cases q2 : fo e hs1 with
  | ok d2 hs2 =>
    rw [q2] at g1
    intro mu2 H2 y2 l2 S2 r2
    refine ⟨e, mu2, hs2, S2, E1.agr (l2.agr S1), ?_⟩
    dsimp only at g1
    cases q3 : fi e hs2 with
    | ok d3 hs3 =>
      rw [q3] at g1
      intro mu3 H3 y3 l3 S3 r3
      dsimp only at g1
      cases q4 : g hs3 d2 d3 d with
      | none => rw [q4] at g1; exact g1.elim
      | some hs4 =>
        rw [q4] at g1
        exact ⟨mu3, hs3, d2, d3, d, hs4, S3, RD.agr (l3.agr S2) r2, r3, RD.agr (l3.agr S2) (RD.agr (l2.agr S1) r1), q4, fun mu4 H4 l4 S4 => g1 mu4 H4 σ (l2.trans (l3.trans l4)) S4 (((E1.agr (l2.agr S1)).agr (l3.agr S2)).agr (l4.agr S3))⟩
    | exc c fs hs' => rw [q3] at g1; exact fun mu' H' cls dx l s rr => g1 mu' H' σ cls dx (l2.trans l) s ((E1.agr (l2.agr S1)).agr (l.agr S2)) rr
    | bad => rw [q3] at g1; exact g1
  | exc c fs hs' => rw [q2] at g1; exact fun mu' H' cls dx l s rr => g1 mu' H' σ cls dx l s (E1.agr (l.agr S1)) rr
  | bad => rw [q2] at g1; exact g1
def mSetL (hs : Hs) (o i v : D) : Option Hs := match i with
  | .int k => (match refOf hs o with | some (n, xs) => (match ixN xs.length k with | some j => some (hs.set n (.lst (xs.set j v))) | none => none) | none => none)
  | _ => none
theorem sg_list : PSet X (rSet X.K X.mg mSetL) := by
  rintro pins s σ H o i v ov iv u Q I r1 r2 r3 ⟨mu, hs, d1, d2, d3, hs', S, e1, e2, e3, hg, q⟩
  unfold mSetL at hg
  split at hg
  · split at hg
    · rename_i n xs hx
      split at hg
      · rename_i j hj
        cases hg; cases e2
        obtain ⟨a, vs, rfl, h1, h2, h3⟩ := refOf_at S e1 hx
        refine set_list pins s σ H _ _ v ov iv u Q I r1 r2 r3 ⟨a, vs, _, j, rfl, rfl, h2, by rw [← h3.length]; exact hj, ?_⟩
        exact q mu _ (.write h1 (nfL h2)) (S.write h1 (RDs.set e3 j h3))
      · cases hg
    · cases hg
  · cases hg
end
/-! # G7: what is walked; for, while, comprehensions -/
/-- at turn i in this heap: none: amiss; some none: at its end; some (some d): d comes -/
abbrev Nx := Hs → Nat → Option (Option D)
def RI (K : PySem.W.Frag) (mg : Str → Option Value) (mu : Mp) (H : Hp) (nx : Nx) (J : It) : Prop := ∀ mu' H' hs', Lat mu H mu' H' → Sim K mg mu' hs' H' → ∀ i,
  (nx hs' i = some none → J.stop i H') ∧ (∀ d, nx hs' i = some (some d) → J.go i H' ∧ ∀ x H2, J.yld i H' x H2 → Lat mu' H' mu' H2 ∧ Sim K mg mu' hs' H2 ∧ RD K mu' H2 d x)
def relI (K : PySem.W.Frag) (mg : Str → Option Value) : Rel Nx It := fun _ mu _ H nx J => RI K mg mu H nx J
theorem relI_ok {K : PySem.W.Frag} {mg : Str → Option Value} : (relI K mg).Ok := fun _ _ _ _ _ _ _ _ _ _ _ h => h
abbrev FI := Ev → Hs → R Nx
abbrev UI (X : Cx) (Wd : WX) (tg iter : Expr) (f : FI) : Prop := PI X tg iter (tG (relI X.K X.mg) X.K X.mg Wd f)
theorem PI.imp {X : Cx} {tg iter : Expr} {t t' : TI} (h : PI X tg iter t) (i : ∀ σ H Q, t' σ H Q → t σ H Q) : PI X tg iter t' := ⟨fun pins s σ H R I q => h.run pins s σ H R I (i σ H R q)⟩
/-- items that stand by themselves -/
def nxL (ds : List D) : Nx := fun _ i => some ds[i]?
/-- a list of the heap, as it is at each turn -/
def nxR (n : Nat) : Nx := fun hs i => match hs[n]? with | some (.lst ds) => some ds[i]? | _ => none
/-- range -/
def nxN (lo : Int) (n : Nat) : Nx := fun _ i => some (if i < n then some (.int (lo + i)) else none)
section
variable {X : Cx} {Wd : WX} {tg a b : Expr} {f1 f2 : FE}
def iSeq (f : FE) : FI := fun e hs => (f e hs).bind fun d hs => match d with
  | .lst ds => .ok (nxL ds) hs
  | .scr ds => .ok (nxL ds) hs
  | .ref n => (match hs[n]? with | some (.lst _) => .ok (nxR n) hs | _ => .bad)
  | _ => .bad
theorem nxL_list {K : PySem.W.Frag} {mg : Str → Option Value} {mu : Mp} {H : Hp} {ds : List D} {a : Addr} {vs : List V} (h : ∀ mu' H', Lat mu H mu' H' → ∀ hs', Sim K mg mu' hs' H' → SqL K H' a vs ∧ RDs K mu' H' ds vs) : RI K mg mu H (nxL ds) (Itl K a) := by
  intro mu' H' hs' l s i
  obtain ⟨h1, h2⟩ := h mu' H' l hs' s
  refine ⟨fun q => ⟨vs, h1, ?_⟩, fun d q => ?_⟩
  · have q : ds[i]? = none := Option.some.inj q
    rw [← h2.length]
    exact List.getElem?_eq_none_iff.mp q
  · have q : ds[i]? = some d := Option.some.inj q
    obtain ⟨v, e1, e2⟩ := h2.get q
    refine ⟨⟨vs, v, h1, e1⟩, fun x H2 y => ?_⟩
    obtain ⟨rfl, y⟩ := y
    have := y vs h1
    rw [e1] at this; cases this
    exact ⟨.refl, s, e2⟩
theorem ui_seq (ha : UE X Wd a f1) : UI X Wd tg a (iSeq f1) := by
  refine PI.imp (pi_list ha) fun σ H Q h => ?_
  obtain ⟨e, mu, hs, S, E, q⟩ := tG_seq (r := relD X.K) relI_ok h
  refine ⟨e, mu, hs, S, E, q.imp fun x H1 ⟨e, mu1, hs1, d, S1, E1, r1, g1⟩ => ?_⟩
  cases r1 with
  | lst h1 h2 h3 =>
    refine ⟨_, rfl, ⟨_, .of h1⟩, g1 mu1 H1 _ .refl S1 (nxL_list fun mu' H' l hs' s' => ⟨.of ((l.agr S1).lst _ _ h1 h2), RDs.agr (l.agr S1) h3⟩)⟩
  | scr h1 h3 =>
    refine ⟨_, rfl, ⟨_, h1.sq⟩, g1 mu1 H1 _ .refl S1 (nxL_list fun mu' H' l hs' s' => ⟨((l.agr S1).stL h1).sq, RDs.agr (l.agr S1) h3⟩)⟩
  | ref hn =>
    dsimp only at g1
    split at g1
    · rename_i ds hd
      obtain ⟨u, e1, e2⟩ := S1.at hn hd
      cases u <;> first
        | (rename_i vs
           refine ⟨_, rfl, ⟨vs, .of e1⟩, g1 mu1 H1 _ .refl S1 ?_⟩
           intro mu' H' hs' l s i
           have hn' := (l.agr S1).get hn
           refine ⟨fun q => ?_, fun d q => ?_⟩
           · unfold nxR at q
             split at q
             · rename_i ds' hd'
               obtain ⟨u', f1, f2⟩ := s.at hn' hd'
               cases u' <;> first
                 | (rename_i vs'
                    refine ⟨vs', .of f1, ?_⟩
                    have q : ds'[i]? = none := Option.some.inj q
                    have f2 : RDs _ _ _ _ _ := f2
                    rw [← f2.length]
                    exact List.getElem?_eq_none_iff.mp q)
                 | exact f2.elim
             · cases q
           · unfold nxR at q
             split at q
             · rename_i ds' hd'
               obtain ⟨u', f1, f2⟩ := s.at hn' hd'
               cases u' <;> first
                 | (rename_i vs'
                    have q : ds'[i]? = some d := Option.some.inj q
                    obtain ⟨v, g1, g2⟩ := RDs.get f2 q
                    refine ⟨⟨vs', v, .of f1, g1⟩, fun x H2 y => ?_⟩
                    obtain ⟨rfl, y⟩ := y
                    have := y vs' (.of f1)
                    rw [g1] at this; cases this
                    exact ⟨.refl, s, g2⟩)
                 | exact f2.elim
             · cases q)
        | exact e2.elim
    · exact g1.elim
  | _ => exact g1.elim
/-- a tuple -/
def iTp (f : FE) : FI := fun e hs => (f e hs).bind fun d hs => match d with | .tup ds => .ok (nxL ds) hs | .ctp ds => .ok (nxL ds) hs | _ => .bad
theorem ui_tup (ha : UE X Wd a f1) : UI X Wd tg a (iTp f1) := by
  refine PI.imp (pi_tup ha) fun σ H Q h => ?_
  obtain ⟨e, mu, hs, S, E, q⟩ := tG_seq (r := relD X.K) relI_ok h
  refine ⟨e, mu, hs, S, E, q.imp fun x H1 ⟨e, mu1, hs1, d, S1, E1, r1, g1⟩ => ?_⟩
  cases r1 with
  | tup h1 h3 =>
    refine ⟨_, rfl, ⟨_, h1.sq⟩, g1 mu1 H1 _ .refl S1 ?_⟩
    intro mu' H' hs' l s i
    have k1 := ((l.agr S1).stT h1).sq
    have k2 := RDs.agr (l.agr S1) h3
    refine ⟨fun q => ⟨_, k1, ?_⟩, fun d q => ?_⟩
    · have q : _ = none := Option.some.inj q
      rw [← k2.length]
      exact List.getElem?_eq_none_iff.mp q
    · obtain ⟨v, e1, e2⟩ := k2.get (Option.some.inj q)
      refine ⟨⟨_, v, k1, e1⟩, fun x H2 y => ?_⟩
      obtain ⟨rfl, y⟩ := y
      have := y _ k1
      rw [e1] at this; cases this
      exact ⟨.refl, s, e2⟩
  | ctp h1 h3 =>
    refine ⟨_, rfl, ⟨_, sqT_c h1⟩, g1 mu1 H1 _ .refl S1 ?_⟩
    intro mu' H' hs' l s i
    have k1 : SqT X.K H' _ _ := sqT_c h1
    have k2 := RDs.agr (l.agr S1) h3
    refine ⟨fun q => ⟨_, k1, ?_⟩, fun d q => ?_⟩
    · have q : _ = none := Option.some.inj q
      rw [← k2.length]
      exact List.getElem?_eq_none_iff.mp q
    · obtain ⟨v, e1, e2⟩ := k2.get (Option.some.inj q)
      refine ⟨⟨_, v, k1, e1⟩, fun x H2 y => ?_⟩
      obtain ⟨rfl, y⟩ := y
      have := y _ k1
      rw [e1] at this; cases this
      exact ⟨.refl, s, e2⟩
  | _ => exact g1.elim
/-- range(n), range(a, b) -/
def okR (i : Int) : Bool := decide (-4611686018427387904 ≤ i) && decide (i < 4611686018427387904)
theorem okR_of {i : Int} (h : okR i = true) : -(2 ^ 62) ≤ i ∧ i < 2 ^ 62 := by
  unfold okR at h
  simp only [Bool.and_eq_true, decide_eq_true_eq] at h
  exact ⟨by have := h.1; omega, by have := h.2; omega⟩
theorem nxN_ri {K : PySem.W.Frag} {mg : Str → Option Value} {mu : Mp} {H : Hp} {lo : Int} {n : Nat} : RI K mg mu H (nxN lo n) (Itr lo n) := by
  intro mu' H' hs' l s i
  unfold nxN
  refine ⟨fun q => ?_, fun d q => ?_⟩
  · split at q
    · cases q
    · rename_i h; exact Nat.le_of_not_lt h
  · split at q
    · rename_i h
      cases q
      refine ⟨h, fun x H2 y => ?_⟩
      obtain ⟨rfl, rfl⟩ := y
      exact ⟨.refl, s, .int _⟩
    · cases q
def iR1 (f : FA) : FI := fun e hs => (f e hs).bind fun ds hs => match ds with | [.int j] => if okR j = true then .ok (nxN 0 j.toNat) hs else .bad | _ => .bad
theorem ui_range1 {p pos : Pos} {fa : FA} (hg : Gl X "range") (hm : X.mg "range" = none) (ha : UA X Wd [a] fa) (hs : starEach [a] X.env = [(false, eval a X.env)] := by rfl) : UI X Wd tg (.Call (.Name "range" p) [a] [] pos) (iR1 fa) := by
  refine PI.imp (pi_range1 hg hm ha hs) fun σ H Q h => ?_
  obtain ⟨e, mu, hs, S, E, q⟩ := tG_seq (r := relA X.K) relI_ok h
  refine ⟨e, mu, hs, S, E, q.imp fun x H1 ⟨e, mu1, hs1, d, S1, E1, r1, g1⟩ => ?_⟩
  split at g1
  · split at g1
    · rename_i j hj
      cases r1 with
      | cons r1 r2 => cases r1; cases r2; exact ⟨j, rfl, (okR_of hj).1, (okR_of hj).2, g1 mu1 H1 _ .refl S1 nxN_ri⟩
    · exact g1.elim
  · exact g1.elim
def iR2 (f : FA) : FI := fun e hs => (f e hs).bind fun ds hs => match ds with | [.int i, .int j] => if (okR i && okR j) = true then .ok (nxN i (j - i).toNat) hs else .bad | _ => .bad
theorem ui_range2 {p pos : Pos} {fa : FA} (hg : Gl X "range") (hm : X.mg "range" = none) (ha : UA X Wd [a, b] fa) (hs : starEach [a, b] X.env = [(false, eval a X.env), (false, eval b X.env)] := by rfl) (hs2 : starEach [b] X.env = [(false, eval b X.env)] := by rfl) : UI X Wd tg (.Call (.Name "range" p) [a, b] [] pos) (iR2 fa) := by
  refine PI.imp (pi_range2 hg hm ha hs hs2) fun σ H Q h => ?_
  obtain ⟨e, mu, hs, S, E, q⟩ := tG_seq (r := relA X.K) relI_ok h
  refine ⟨e, mu, hs, S, E, q.imp fun x H1 ⟨e, mu1, hs1, d, S1, E1, r1, g1⟩ => ?_⟩
  split at g1
  · split at g1
    · rename_i i j hj
      rw [Bool.and_eq_true] at hj
      cases r1 with
      | cons r1 r2 => cases r1; cases r2 with
        | cons r2 r3 => cases r2; cases r3; exact ⟨i, j, rfl, ⟨(okR_of hj.1).1, (okR_of hj.1).2, (okR_of hj.2).1, (okR_of hj.2).2⟩, g1 mu1 H1 _ .refl S1 nxN_ri⟩
    · exact g1.elim
  · exact g1.elim
/-- a text, sign by sign -/
def signs (x : Str) : List D := x.cps.toList.map fun c => .str ⟨#[c]⟩
def iStrG (f : FE) : FI := fun e hs => (f e hs).bind fun d hs => match d with | .str x => .ok (nxL (signs x)) hs | _ => .bad
theorem ui_str (ha : UE X Wd a f1) : UI X Wd tg a (iStrG f1) := by
  refine PI.imp (pi_str ha) fun σ H Q h => ?_
  obtain ⟨e, mu, hs, S, E, q⟩ := tG_seq (r := relD X.K) relI_ok h
  refine ⟨e, mu, hs, S, E, q.imp fun x H1 ⟨e, mu1, hs1, d, S1, E1, r1, g1⟩ => ?_⟩
  cases r1 with
  | str x =>
    refine ⟨x, rfl, g1 mu1 H1 _ .refl S1 ?_⟩
    intro mu' H' hs' l s i
    refine ⟨fun q => ?_, fun d q => ?_⟩
    · have q : (signs x)[i]? = none := Option.some.inj q
      unfold signs at q
      have := List.getElem?_eq_none_iff.mp q
      show x.cps.size ≤ i
      simpa using this
    · have q : (signs x)[i]? = some d := Option.some.inj q
      unfold signs at q
      rw [List.getElem?_map] at q
      obtain ⟨c, hc, rfl⟩ := Option.map_eq_some_iff.mp q
      have hc' : x.cps[i]? = some c := by rw [← Array.getElem?_toList]; exact hc
      refine ⟨(Array.getElem?_eq_some_iff.mp hc').1, fun y H2 z => ?_⟩
      obtain ⟨rfl, c', z1, rfl⟩ := z
      rw [hc'] at z1; cases z1
      exact ⟨.refl, s, .str _⟩
  | _ => exact g1.elim
end

/-! ### for -/
def forF (nx : Nx) (g : FG) (body : FS) : Nat → Nat → Ev → Hs → SR
  | fuel, i, e, hs => match nx hs i with
    | none => .bad
    | some none => .nx e hs
    | some (some d) => match fuel with
      | 0 => .bad
      | k + 1 => match g d e with
        | none => .bad
        | some e' => match body e' hs with
          | .nx e2 hs2 => forF nx g body k (i + 1) e2 hs2
          | .cnt e2 hs2 => forF nx g body k (i + 1) e2 hs2
          | .brk e2 hs2 => .nx e2 hs2
          | .ret d hs2 => .ret d hs2
          | .exc c fs e2 hs2 => .exc c fs e2 hs2
          | .bad => .bad
def fuel : Nat := 100000
def sFor (f : FI) (g : FG) (body : FS) : FS := sBind f fun nx e hs => forF nx g body fuel 0 e hs
section
variable {X : Cx} {Wd : WX} {tg iter : Expr} {f : FI} {g : FG} {body : FS} {sb : List Stmt} {pos : Pos} {vs : List Nat}
theorem us_for (hp : PassesOwn (model X.prog X.w) X.A X.env X.xe) (hc : X.calm = true) (hi : UI X Wd tg iter f) (hg : UG X vs tg g) (hb : USs X Wd sb body)
    (hs : ∀ x, foldedSetIterable iter X.env x = pure x := by intro _; rfl) : US X Wd (.For tg iter sb [] pos) (sFor f g body) := by
  refine PS.imp (ps_for hp hc hi hg hb hs) fun D σ H h => ?_
  obtain ⟨e, mu, hs, S, E, q⟩ := tS_bind (r := relI X.K X.mg) h
  refine ⟨e, mu, hs, S, E, q.imp fun J H1 ⟨e, mu1, hs1, nx, S1, E1, r1, g1⟩ => ?_⟩
  refine ⟨fun i m σ H => ∃ mu hs e, Lat mu1 H1 mu H ∧ Sim X.K X.mg mu hs H ∧ RE X.K mu H e σ ∧ GdS X.K X.mg Wd D mu H (forF nx g body m i e hs), ⟨fuel, mu1, hs1, e, .refl, S1, E1, g1⟩, ?_⟩
  rintro i m σ2 H2 ⟨mu2, hs2, e2, l2, S2, E2, q2⟩
  have ri := r1 mu2 H2 hs2 l2 S2 i
  unfold forF at q2
  split at q2
  · exact q2.elim
  · rename_i hn
    exact .inl ⟨ri.1 hn, q2 mu2 H2 σ2 .refl S2 E2⟩
  · rename_i d hd
    obtain ⟨go, yl⟩ := ri.2 d hd
    refine .inr ⟨go, ?_⟩
    split at q2
    · exact q2.elim
    · rename_i k
      split at q2
      · exact q2.elim
      · rename_i e' he'
        refine ⟨fun σ3 H3 => ∃ mu hs e, Lat mu1 H1 mu H3 ∧ Sim X.K X.mg mu hs H3 ∧ RE X.K mu H3 e σ3 ∧ GdS X.K X.mg Wd D mu H3 (forF nx g body k (i + 1) e hs), fun σ' H' h => ⟨k, Nat.lt_succ_self k, h⟩, fun x H' y => ?_⟩
        obtain ⟨l3, S3, r3⟩ := yl x H' y
        refine ⟨e2, mu2, hs2, d, e', S3, E2.agr (l3.agr S2), r3, he', fun σ' E' _ => ⟨e', mu2, hs2, S3, E', ?_⟩⟩
        have q3 := GdS.later l3 q2
        have lx := l2.trans l3
        cases r : body e' hs2 with
        | nx e4 hs4 => rw [r] at q3; exact fun mu' H' σ' l s rr => ⟨mu', hs4, e4, lx.trans l, s, rr, GdS.later l q3⟩
        | cnt e4 hs4 => rw [r] at q3; exact fun mu' H' σ' l s rr => ⟨mu', hs4, e4, lx.trans l, s, rr, GdS.later l q3⟩
        | brk e4 hs4 => rw [r] at q3; exact q3
        | ret d hs4 => rw [r] at q3; exact q3
        | exc c fs e4 hs4 => rw [r] at q3; exact q3
        | bad => rw [r] at q3; exact q3

/-! ### while -/
end

/-! ### comprehensions -/
def wipeE (e : Ev) : List Nat → Ev
  | [] => e
  | v :: vs => (wipeE e vs).set v none
theorem RE.wipe {K : PySem.W.Frag} {mu : Mp} {H : Hp} {e : Ev} {σ : L2.St} (h : RE K mu H e σ) : ∀ vs, RE K mu H (wipeE e vs) (L2.wipe σ vs)
  | [] => h
  | v :: vs => by
    have ih := RE.wipe h vs
    unfold wipeE L2.wipe
    refine ⟨by rw [List.length_set, List.length_set]; exact ih.len, fun j x q => ?_⟩
    by_cases hj : v = j
    · subst hj
      by_cases hi : v < (wipeE e vs).length
      · rw [List.getElem?_set_self hi] at q; cases q
      · rw [List.getElem?_eq_none (by simpa using hi)] at q; cases q
    · rw [List.getElem?_set_ne hj] at q
      rw [List.getElem?_set_ne hj]
      exact ih.at_ j x q
def compF (nx : Nx) (g : FG) (t : FT) (el : FE) (e : Ev) : Nat → Nat → List D → Hs → R (List D)
  | fuel, i, acc, hs => match nx hs i with
    | none => .bad
    | some none => .ok acc hs
    | some (some d) => match fuel with
      | 0 => .bad
      | k + 1 => match g d e with
        | none => .bad
        | some e' => match t e' hs with
          | .ok b hs2 => if b = true then (match el e' hs2 with
              | .ok y hs3 => if acc.length < sizeLine then compF nx g t el e k (i + 1) (acc ++ [y]) hs3 else .bad
              | _ => .bad) else compF nx g t el e k (i + 1) acc hs2
          | _ => .bad
def lComp (f : FI) (g : FG) (t : FT) (el : FE) (vs : List Nat) : FL := fun e hs => (f e hs).bind fun nx hs => compF nx g t el (wipeE e vs) fuel 0 [] hs
/-- no exception leaves -/
abbrev W0 : WX := fun _ _ _ _ => False
def tYesF : FT := fun _ hs => .ok true hs
abbrev UTs (X : Cx) (Wd : WX) (ifs : List Expr) (t : FT) : Prop := PTs X ifs (tG relB X.K X.mg Wd t)
theorem PTs.imp {X : Cx} {ifs : List Expr} {t t' : TT} (h : PTs X ifs t) (i : ∀ σ H Q, t' σ H Q → t σ H Q) : PTs X ifs t' := ⟨fun pins s σ H Q I q => h.run pins s σ H Q I (i σ H Q q)⟩
theorem wipe_idem (σ : L2.St) (vs : List Nat) : wipe (wipe σ vs) vs = wipe σ vs := by
  have one : ∀ (ws vs : List Nat), (∀ w ∈ ws, w ∈ vs) → ∀ σ, wipe (wipe σ vs) ws = wipe σ vs := by
    intro ws
    induction ws with
    | nil => intro vs _ σ; rfl
    | cons w ws ih =>
      intro vs hs σ
      have : wipe (wipe σ vs) ws = wipe σ vs := ih vs (fun z hz => hs z (List.mem_cons_of_mem _ hz)) σ
      show (wipe (wipe σ vs) ws).set w none = wipe σ vs
      rw [this]
      have gone : ∀ (vs : List Nat), w ∈ vs → ∀ σ, (wipe σ vs).set w none = wipe σ vs := by
        intro vs
        induction vs with
        | nil => intro h; cases h
        | cons v vs ih2 =>
          intro h σ
          unfold wipe
          by_cases e : w = v
          · subst e; rw [List.set_set]
          · rcases List.mem_cons.mp h with h | h
            · exact absurd h e
            · rw [List.set_comm _ _ (fun z => e z.symm), ih2 h]
      exact gone vs (hs w List.mem_cons_self) σ
  exact one vs vs (fun _ h => h) σ
section
variable {X : Cx} {Wd : WX} {elt tg iter : Expr} {ifs : List Expr} {scope : Scope} {own : List (Str × Nat)} {pos : Pos} {f : FI} {g : FG} {t : FT} {el : FE}
theorem uts_nil : UTs X Wd [] tYesF := PTs.imp pts_nil fun σ H Q ⟨e, mu, hs, S, E, q⟩ => q mu H true .refl S rfl
theorem uts_one {c : Expr} (h : UT X Wd c t) : UTs X Wd [c] t := pts_one h
theorem tG_comp {K : PySem.W.Frag} {mg : Str → Option Value} {vs : List Nat} {σ : L2.St} {H : Hp} {Q : VK} (h : tG (relF K mg) K mg Wd (lComp f g t el vs) σ H Q) :
    tLc (tG (relI K mg) K mg Wd f) (tGt K mg vs g) (tG relB K mg W0 t) (tG (relD K) K mg W0 el) vs σ H Q := by
  obtain ⟨e, mu, hs, S, E, q⟩ := h
  refine ⟨e, mu, hs, S, E, ?_⟩
  unfold lComp at q
  cases r : f e hs with
  | bad => rw [r] at q; exact q
  | exc c fs hs' => rw [r] at q; exact q
  | ok nx hs1 =>
    rw [r] at q
    rw [R.bind_ok] at q
    intro mu1 H1 J l1 S1 ri Dd hD
    have E1 := (E.agr (l1.agr S)).wipe vs
    -- the list that is made stands apart
    refine ⟨fun i m H2 => ∃ mu2 hs2 acc vacc, Lat mu1 H1 mu2 H2 ∧ Lat mu H mu2 H2 ∧ Sim K mg mu2 hs2 H2 ∧ H2 Dd = some (.lst vacc) ∧ Dd ∉ mu2.l ∧ ¬ mu2.fz Dd ∧ RDs K mu2 H2 acc vacc ∧
        Gd (relF K mg) K mg Wd σ mu H Q (compF nx g t el (wipeE e vs) m i acc hs2),
      ⟨fuel, mu1, hs1, [], [], .new hD, l1.trans (.new hD), S1.new hD, upd_same, S1.fresh hD, S1.freshz hD, .nil, q⟩, ?_⟩
    rintro i m H2 ⟨mu2, hs2, acc, vacc, l2, l02, S2, hD2, nD, nz, ra, q2⟩
    have hD0 : H Dd = none := l1.back hD fun z => nD (l2.pre.subset (l1.pre.subset z))
    have r2 := ri mu2 H2 hs2 l2 S2 i
    unfold compF at q2
    split at q2
    · exact q2.elim
    · rename_i hn
      exact .inl ⟨r2.1 hn, q2 mu2 H2 _ l02 S2 ⟨Dd, vacc, rfl, hD2, nD, nz, hD0, ra⟩⟩
    · rename_i d hd
      obtain ⟨go, yl⟩ := r2.2 d hd
      refine .inr ⟨go, ?_⟩
      split at q2
      · exact q2.elim
      · rename_i k
        split at q2
        · exact q2.elim
        · rename_i e' he'
          refine ⟨fun H3 => ∃ mu2 hs2 acc vacc, Lat mu1 H1 mu2 H3 ∧ Lat mu H mu2 H3 ∧ Sim K mg mu2 hs2 H3 ∧ H3 Dd = some (.lst vacc) ∧ Dd ∉ mu2.l ∧ ¬ mu2.fz Dd ∧ RDs K mu2 H3 acc vacc ∧
              Gd (relF K mg) K mg Wd σ mu H Q (compF nx g t el (wipeE e vs) k (i + 1) acc hs2), fun H' h => ⟨k, Nat.lt_succ_self k, h⟩, fun x H3 y => ?_⟩
          obtain ⟨l3, S3, r3⟩ := yl x H3 y
          have E3 : RE K mu2 H3 (wipeE e vs) (wipe σ vs) := (E1.agr (l2.agr S1)).agr (l3.agr S2)
          refine ⟨wipeE e vs, mu2, hs2, d, e', S3, E3, r3, he', fun σ3 E4 w3 => ⟨w3.trans (wipe_idem σ vs), e', mu2, hs2, S3, E4, ?_⟩⟩
          cases rt : t e' hs2 with
          | bad => rw [rt] at q2; exact q2
          | exc c fs hs' => rw [rt] at q2; exact q2.elim
          | ok b hs4 =>
            rw [rt] at q2
            intro mu4 H4 b' l4 S4 rb
            have rb : b = b' := rb
            subst rb
            dsimp only at q2
            have lD3 := l3.ext Dd _ hD2 nD
            have lD4 := l4.ext Dd _ lD3.1 nD
            cases b with
            | false =>
              rw [if_neg Bool.false_ne_true] at q2 ⊢
              exact ⟨mu4, hs4, acc, vacc, l2.trans (l3.trans l4), l02.trans (l3.trans l4), S4, lD4.1, lD4.2.1, fun z => nz (lD4.2.2 z), RDs.agr (l4.agr S3) (RDs.agr (l3.agr S2) ra), q2⟩
            | true =>
              rw [if_pos rfl] at q2 ⊢
              refine ⟨e', mu4, hs4, S4, E4.agr (l4.agr S3), ?_⟩
              cases re : el e' hs4 with
              | bad => rw [re] at q2; exact q2
              | exc c fs hs' => rw [re] at q2; exact q2.elim
              | ok y hs5 =>
                rw [re] at q2
                intro mu5 H5 yv l5 S5 ry
                dsimp only at q2
                split at q2
                · rename_i hz
                  have nz4 : ¬ mu4.fz Dd := fun z => nz (lD4.2.2 z)
                  have lD5 := l5.ext Dd _ lD4.1 lD4.2.1
                  have nz5 : ¬ mu5.fz Dd := fun z => nz4 (lD5.2.2 z)
                  have ra5 : RDs K mu5 H5 acc vacc := RDs.agr (l5.agr S4) (RDs.agr (l4.agr S3) (RDs.agr (l3.agr S2) ra))
                  have pv : Agr mu5 H5 mu5 (upd H5 Dd (.lst (vacc ++ [yv]))) := .priv lD5.1 nz5
                  have lall : ∀ {m0 : Mp} {H0 : Hp}, H0 Dd = none → Lat m0 H0 mu5 H5 → Lat m0 H0 mu5 (upd H5 Dd (.lst (vacc ++ [yv]))) := fun {m0 H0} h0 l => ⟨l.pre, l.sub, fun b o hb nb => by
                    have := l.ext b o hb nb
                    exact ⟨by rw [upd_ne (ne_of_none hb h0)]; exact this.1, this.2⟩, fun b o v hb => by rw [upd_ne (ne_of_none hb h0)]; exact l.frz b o v hb⟩
                  exact ⟨vacc, lD5.1, by rw [← ra.length]; exact hz, mu5, hs5, acc ++ [y], vacc ++ [yv], lall hD (l2.trans (l3.trans (l4.trans l5))), lall hD0 (l02.trans (l3.trans (l4.trans l5))), S5.priv lD5.1 lD5.2.1 nz5, upd_same, lD5.2.1, nz5, RDs.agr pv (ra5.snoc ry), q2⟩
                · exact q2.elim
theorem uf_comp (hc : X.calm = true) (hN : X.N.Nodup) (hi : UI X Wd tg iter f) (ok : BlkOk X.N X.env.scope scope own)
    (hg : ∀ (s : Shared) (H : Hp) (C : Addr) (cl : List (Str × Addr)) (fp : List Addr), UG (X.blk s H scope (compEnvC scope cl C X.env) fp) (own.map (·.2)) tg g)
    (ht : ∀ (s : Shared) (H : Hp) (C : Addr) (cl : List (Str × Addr)) (fp : List Addr), UTs (X.blk s H scope (compEnvC scope cl C X.env) fp) W0 ifs t)
    (he : ∀ (s : Shared) (H : Hp) (C : Addr) (cl : List (Str × Addr)) (fp : List Addr), UE (X.blk s H scope (compEnvC scope cl C X.env) fp) W0 elt el) (hs : ∀ x, foldedSetIterable iter X.env x = pure x := by intro _; rfl) :
    UF X Wd (.ListComp elt [⟨tg, iter, ifs, 0⟩] scope pos) (lComp f g t el (own.map (·.2))) := PE.imp (pe_lc hc hN hi ok hg ht he hs) fun σ H Q h => tG_comp h
/-- name = [..] -/
def sSetC (i : Nat) (m : Bool) (l : FL) : FS := sSet i (if m then eM l else eV l)
theorem tG_v {K : PySem.W.Frag} {mg : Str → Option Value} {l : FL} {σ : L2.St} {H : Hp} {Q : VK} (h : tG (relD K) K mg Wd (eV l) σ H Q) : tG (relF K mg) K mg Wd l σ H Q := by
  obtain ⟨e, mu, hs, S, E, g⟩ := h
  refine ⟨e, mu, hs, S, E, ?_⟩
  unfold eV at g
  cases q : l e hs with
  | ok ds hs' =>
    rw [q] at g
    intro mu' H' y l s ⟨a, vs, h1, h2, h3, h4, h5, h6⟩
    subst h1
    refine g (mu'.still a) H' _ ⟨l.pre, fun b z => .inr (l.sub b z), fun b o hb nb => ?_, l.frz⟩ (s.still h2 h3) (.lst h2 (.inl rfl) (RDs.agr .still h6))
    have := l.ext b o hb nb
    exact ⟨this.1, this.2.1, fun z => z.elim (fun e => absurd e (ne_of_none hb h5)) this.2.2⟩
  | exc c fs hs' => rw [q] at g; exact g
  | bad => rw [q] at g; exact g
theorem tG_m {K : PySem.W.Frag} {mg : Str → Option Value} {l : FL} {σ : L2.St} {H : Hp} {Q : VK} (h : tG (relD K) K mg Wd (eM l) σ H Q) : tG (relF K mg) K mg Wd l σ H Q := by
  obtain ⟨e, mu, hs, S, E, g⟩ := h
  refine ⟨e, mu, hs, S, E, ?_⟩
  unfold eM at g
  cases q : l e hs with
  | ok ds hs' =>
    rw [q] at g
    intro mu' H' y l s ⟨a, vs, h1, h2, h3, h4, h5, h6⟩
    subst h1
    refine g (mu'.own a) H' _ ⟨l.pre.trans (List.prefix_append _ _), l.sub, fun b o hb nb => ?_, l.frz⟩ (s.adopt h2 h3 h4 (.own h2) h6) (.ref (getElem?_own s.len))
    have := l.ext b o hb nb
    refine ⟨this.1, ?_, this.2.2⟩
    show b ∉ mu'.l ++ [a]
    simp only [List.mem_append, List.mem_singleton, not_or]
    exact ⟨this.2.1, ne_of_none hb h5⟩
  | exc c fs hs' => rw [q] at g; exact g
  | bad => rw [q] at g; exact g
theorem us_setC {i : Nat} {y : Str} {py spos : Pos} (m : Bool) (hc : X.calm = true) (hN : X.N.Nodup) (hi : UI X Wd tg iter f) (ok : BlkOk X.N X.env.scope scope own)
    (hsw : swapsWith (.ListComp elt [⟨tg, iter, ifs, 0⟩] scope pos) (some (.Name y py)) spos.line X.env = pure true)
    (hg : ∀ (s : Shared) (H : Hp) (C : Addr) (cl : List (Str × Addr)) (fp : List Addr), UG (X.blk s H scope (compEnvC scope cl C X.env) fp) (own.map (·.2)) tg g)
    (ht : ∀ (s : Shared) (H : Hp) (C : Addr) (cl : List (Str × Addr)) (fp : List Addr), UTs (X.blk s H scope (compEnvC scope cl C X.env) fp) W0 ifs t)
    (he : ∀ (s : Shared) (H : Hp) (C : Addr) (cl : List (Str × Addr)) (fp : List Addr), UE (X.blk s H scope (compEnvC scope cl C X.env) fp) W0 elt el)
    (hy : X.N[i]? = some y := by rfl) (hyl : X.env.scope.names.lookup y = some .local := by rfl) (hs : ∀ x, foldedSetIterable iter X.env x = pure x := by intro _; rfl) :
    US X Wd (.Assign [.Name y py] (.ListComp elt [⟨tg, iter, ifs, 0⟩] scope pos) spos) (sSetC i m (lComp f g t el (own.map (·.2)))) := by
  refine PS.imp (ps_setLc (te := tG (relD X.K) X.K X.mg W0 el) (g := tGt X.K X.mg (own.map (·.2)) g) (tt := tG relB X.K X.mg W0 t) hc hN hy hyl hsw hi ok hg ht he hs) fun D σ H h => ?_
  have hh : tG (relD X.K) X.K X.mg Wd (if m then eM (lComp f g t el (own.map (·.2))) else eV (lComp f g t el (own.map (·.2)))) σ H (fun v H1 => gName i v σ H1 D.nx) := by
    obtain ⟨e, mu, hs, S, E, q⟩ := tS_bind (r := relD X.K) h
    exact ⟨e, mu, hs, S, E, q.imp fun v H1 ⟨e, mu1, hs1, d, S1, E1, r1, g1⟩ => g1 mu1 H1 _ .refl S1 (E1.set i r1)⟩
  cases m with
  | true => exact tG_comp (tG_m hh)
  | false => exact tG_comp (tG_v hh)
end
/-! # G8: defs of the text, their calls, the law's end -/
/-- a def's promise where no repr is under way -/
structure FnG (P : Program) (w : World) (K : PySem.W.Frag) (mg : Str → Option Value) (base : Heap) (k : Nat) (f : Addr) (fd : FuncData) (ps : List Str) (sp : Sp) : Prop where
  len : ∀ vs H Q E, sp vs H Q E → vs.length = ps.length
  run : ∀ (A : Around) (outer : List Env) (s : Shared) (H : Hp) (args : Args) (us : List Value) (vs : List V) (Q : VK) (E : XK), Room k A → A.guards = some [] → Env0 P w K mg base A outer s H →
    BindsTo s fd args (ps.zip us) → Vals vs us → sp vs H Q E → codeAny (model P w) A (.call (.ref f) args) (CR (L2.CX P w) outer P w H s Q E) s
/-- the promise that a function of ours says -/
def spU (K : PySem.W.Frag) (mg : Str → Option Value) (n : Nat) (fn : List D → Hs → R D) : Sp := fun vs H Q E => ∃ mu hs ds, Sim K mg mu hs H ∧ RDs K mu H ds vs ∧ ds.length = n ∧ Gd (relD K) K mg (fun cls dx _ H' => E cls dx H') [] mu H Q (fn ds hs)
/-- a body as a function -/
def fnBody (N : Nat) (b : FS) : List D → Hs → R D := fun ds hs => match b (ds.map some ++ List.replicate (N - ds.length) none) hs with
  | .nx _ hs' => .ok .non hs'
  | .ret d hs' => .ok d hs'
  | .exc c fs _ hs' => .exc c fs hs'
  | .brk _ _ => .bad
  | .cnt _ _ => .bad
  | .bad => .bad
theorem RE.start {K : PySem.W.Frag} {mu : Mp} {H : Hp} {ds : List D} {vs : List V} (r : RDs K mu H ds vs) (N : List Str) : RE K mu H (ds.map some ++ List.replicate (N.length - ds.length) none) (start N vs) := by
  have hl := r.length
  refine ⟨by unfold L2.start; simp [hl], fun i d q => ?_⟩
  by_cases hi : i < ds.length
  · rw [List.getElem?_append_left (by simpa using hi), List.getElem?_map] at q
    cases e : ds[i]? with
    | none => rw [e] at q; cases q
    | some d' =>
      rw [e] at q; cases q
      obtain ⟨v, h1, h2⟩ := r.get e
      refine ⟨v, ?_, h2⟩
      unfold L2.start
      rw [List.getElem?_append_left (by rw [List.length_map, ← hl]; exact hi), List.getElem?_map, h1]
      rfl
  · rw [List.getElem?_append_right (by simpa using hi), List.getElem?_replicate] at q
    split at q <;> cases q
section
variable {P : Program} {w : World} {K : PySem.W.Frag} {mg : Str → Option Value} {base : Heap}
/-- what a body may lean on -/
structure Bd (X : Cx) (Wd : WX) (k : Nat) : Prop where
  calm : X.calm = true
  room : Room k X.A
  gd : X.A.guards = some []
  tk : Takes X Wd
  po : PassesOwn (model X.prog X.w) X.A X.env X.xe
  sm : ∃ o, X.base.get? sysModules = some o
theorem fnG_of {qual : Str} {f : Addr} {N ps : List Str} {k : Nat} {params : Arguments} {body : List Stmt} {scope : Scope} {x : Str} {oc dV kV doc pm cdv ct : Value} {od an : Option Addr} {osl : Array (Option Value)}
    (hsm : ∃ o, base.get? sysModules = some o) (lk : K.lookup f = some ⟨oc, od, .func (PySem.W.fnOf x qual params body scope dV kV doc pm an cdv ct), osl⟩) (hcd : PySem.W.codeIn K cdv qual = true) (S : FnScope N ps scope) (b : FS)
    (hb : ∀ (A : Around) (outer : List Env) (s : Shared) (H : Hp) (E : XK), Bd (cxOf (L2.CX P w) P w K mg base N qual scope f cdv A outer s H E) (fun cls dx _ H' => E cls dx H') k →
      USs (cxOf (L2.CX P w) P w K mg base N qual scope f cdv A outer s H E) (fun cls dx _ H' => E cls dx H') body b) :
    FnG P w K mg base (k + 1) f (PySem.W.fnOf x qual params body scope dV kV doc pm an cdv ct) ps (spU K mg ps.length (fnBody N.length b)) := by
  have len : ∀ vs H Q E, spU K mg ps.length (fnBody N.length b) vs H Q E → vs.length = ps.length := fun vs H Q E ⟨mu, hs, ds, _, r, l, _⟩ => by rw [← r.length, l]
  refine ⟨len, fun A outer s H args us vs Q E hr hgd e0 hbi r hsp => ?_⟩
  have hl := len _ _ _ _ hsp
  have KX : K.In s.heap := e0.mod.kin.keeps fun b o e => (e0.bs b o e).1
  have lim : s.heap.NoLimit := e0.mod.nolimit.keeps fun b o e => (e0.bs b o e).1
  have hkind : ∀ y ∈ ps.zip us, scope.names.lookup y.1 = some .local ∨ (scope.names.lookup y.1 = some .cell ∧ ((cellsFrom (s.heap.objs.size + 1) scope.names []).lookup y.1).isSome = true) := by
    rintro ⟨n, v⟩ hy
    exact (S.par n (List.of_mem_zip hy).1).elim .inl fun q => .inr ⟨q, PySem.W.cellsFrom_some _ _ _ (.inl q)⟩
  apply codeAny_call_function hr.depth (KX _ _ lk) rfl S.co S.gen rfl (PySem.W.codeRec_of KX hcd)
  apply hbi
  apply wpAny_newFunctionEnv_cells S.kind hkind
  rintro env rfl s1 x1
  refine ⟨lim.keeps x1.toInCall.keep, codeAny_func ?_⟩
  have I : Inv (cxOf (L2.CX P w) P w K mg base N qual scope f cdv A outer s H E) [] (start N vs) H s1 := inv_start S hr.hd e0 hl r x1
  have B : Bd (cxOf (L2.CX P w) P w K mg base N qual scope f cdv A outer s H E) (fun cls dx _ H' => E cls dx H') k := ⟨rfl, hr.deeper _, hgd, takes_of rfl rfl rfl rfl, passes_of rfl, hsm⟩
  obtain ⟨mu, hs, ds, Sm, rd, ld, g⟩ := hsp
  have hq : tS K mg (fun cls dx _ H' => E cls dx H') b { nx := fun _ H' => Q .non H', rt := Q } (start N vs) H := by
    refine ⟨_, mu, hs, Sm, RE.start rd N, ?_⟩
    unfold fnBody at g
    cases q : b (ds.map some ++ List.replicate (N.length - ds.length) none) hs with
    | nx e hs' => rw [q] at g; exact fun mu' H' σ' l s' _ => g mu' H' .non l s' .non
    | ret d hs' => rw [q] at g; exact fun mu' H' v l s' rv => g mu' H' v l s' rv
    | exc c fs e hs' => rw [q] at g; exact fun mu' H' σ' cls dx l s' _ rx => g mu' H' cls dx l s' rx
    | brk e hs' => rw [q] at g; exact g.elim
    | cnt e hs' => rw [q] at g; exact g.elim
    | bad => rw [q] at g; exact g.elim
  refine wpAny_mono ((hb A outer s H E B).run [] s1 (start N vs) H _ I hq) (fun fl s' h => ?_) fun _ _ h => h
  cases fl with
  | ret u => obtain ⟨v, σ', H', J, rv, q⟩ := h; exact ⟨v, H', J.os, J.bare, J.base, J.hok, rv, q⟩
  | next => obtain ⟨σ', H', J, q⟩ := h; exact ⟨.non, H', J.os, J.bare, J.base, J.hok, rfl, q⟩
  | brk => obtain ⟨_, _, _, z⟩ := h; exact z.elim
  | cont => obtain ⟨_, _, _, z⟩ := h; exact z.elim
theorem FnG.mono {j k : Nat} {f : Addr} {fd : FuncData} {ps : List Str} {sp : Sp} (F : FnG P w K mg base j f fd ps sp) (h : j ≤ k) : FnG P w K mg base k f fd ps sp :=
  ⟨F.len, fun A outer s H args us vs Q E hr hg => F.run A outer s H args us vs Q E (hr.mono h) hg⟩
/-- another function of the same worth -/
theorem FnG.eq {k n : Nat} {f : Addr} {fd : FuncData} {ps : List Str} {fn fn' : List D → Hs → R D} (F : FnG P w K mg base k f fd ps (spU K mg n fn)) (h : ∀ ds hs, fn' ds hs = fn ds hs) : FnG P w K mg base k f fd ps (spU K mg n fn') := by
  have e : fn' = fn := funext fun ds => funext fun hs => h ds hs
  rw [e]; exact F
end

/-! ### calls -/
/-- positional, keyword and default values in the parameters' order, by places -/
def selL {t : Type} (is : List Nat) (us ws dv : List t) : List t := is.filterMap fun i => (us ++ ws ++ dv)[i]?
theorem Vals.sel {vs zs dvs : List V} {us ws ds : List Value} (a : Vals vs us) (b : Vals zs ws) (c : Vals dvs ds) : ∀ is : List Nat, Vals (selL is vs zs dvs) (selL is us ws ds)
  | [] => .nil
  | i :: is => by
    have ih := Vals.sel a b c is
    have abc := Vals.append (Vals.append a b) c
    unfold selL at ih ⊢
    rw [List.filterMap_cons, List.filterMap_cons]
    cases e : (vs ++ zs ++ dvs)[i]? with
    | none => rw [Vals.none_of abc e]; exact ih
    | some x =>
      obtain ⟨u, h1, h2⟩ := Vals.get abc e
      rw [h1]
      exact .cons h2 ih
theorem RDs.none_of {K : PySem.W.Frag} {mu : Mp} {H : Hp} {ds : List D} {vs : List V} (r : RDs K mu H ds vs) {i : Nat} (e : ds[i]? = none) : vs[i]? = none := by
  rw [List.getElem?_eq_none_iff] at e ⊢
  rw [← r.length]; exact e
theorem RDs.sel {K : PySem.W.Frag} {mu : Mp} {H : Hp} {ds es dds : List D} {vs zs dvs : List V} (a : RDs K mu H ds vs) (b : RDs K mu H es zs) (c : RDs K mu H dds dvs) : ∀ is : List Nat, RDs K mu H (selL is ds es dds) (selL is vs zs dvs)
  | [] => .nil
  | i :: is => by
    have ih := RDs.sel a b c is
    have abc := (a.append b).append c
    unfold selL at ih ⊢
    rw [List.filterMap_cons, List.filterMap_cons]
    cases e : (ds ++ es ++ dds)[i]? with
    | none => rw [abc.none_of e]; exact ih
    | some x =>
      obtain ⟨u, h1, h2⟩ := abc.get e
      rw [h1]
      exact .cons h2 ih
/-- how a call binds: n positional values, keywords ks, the defaults ds; is: which value goes to each parameter -/
def BindK (K : PySem.W.Frag) (fd : FuncData) (ps : List Str) (n : Nat) (ks : List Str) (is : List Nat) (ds : List Value) : Prop :=
  ∀ (s : Shared) (us ws : List Value), K.In s.heap → us.length = n → ws.length = ks.length → BindsTo s fd ⟨us, ks.zip ws⟩ (ps.zip (selL is us ws ds))
/-- all positional -/
def eFn (fn : List D → Hs → R D) (is : List Nat) (dds : List D) (fa : FA) : FE := fun e hs => (fa e hs).bind fun ds hs => fn (selL is ds [] dds) hs
def eFnK (fn : List D → Hs → R D) (is : List Nat) (dds : List D) (fa fk : FA) : FE := fun e hs => (fa e hs).bind fun ds hs => (fk e hs).bind fun zs hs => fn (selL is ds zs dds) hs
section
variable {X : Cx} {Wd : WX} {k n : Nat} {f : Addr} {fd : FuncData} {ps ks : List Str} {fn : List D → Hs → R D} {dds : List D} {dvs : List V} {ds : List Value} {is : List Nat} {x : Str} {p pos kpos : Pos} {e : Expr} {es : List Expr} {fa fk : FA} {kws : List Keyword}
/-- the callee runs -/
theorem runG {pins : List (Addr × Obj)} {σ : L2.St} {H : Hp} {s : Shared} {Q : VK} {us ws : List Value} {vs zs : List V} (F : FnG X.prog X.w X.K X.mg X.base k f fd ps (spU X.K X.mg ps.length fn)) (hr : Room k X.A) (hgd : X.A.guards = some []) (tk : Takes X Wd)
    (hb : BindK X.K fd ps n ks is ds) (hd : Vals dvs ds) (hdd : ∀ mu H, RDs X.K mu H dds dvs) (I : Inv X pins σ H s) (r : Vals vs us) (rz : Vals zs ws) (hn : us.length = n) (hks : ws.length = ks.length)
    (h : ∃ mu hs es qs, Sim X.K X.mg mu hs H ∧ RDs X.K mu H es vs ∧ RDs X.K mu H qs zs ∧ (selL is es qs dds).length = ps.length ∧ Gd (relD X.K) X.K X.mg Wd σ mu H Q (fn (selL is es qs dds) hs)) :
    wpAny (model X.prog X.w) X.A (call (.ref f) us (ks.zip ws)) (EP X pins σ Q) X.xe s := by
  obtain ⟨mu, hs, es, qs, S, r1, r2, hl, g⟩ := h
  have hsp : spU X.K X.mg ps.length fn (selL is vs zs dvs) H Q (WE Wd σ) := by
    refine ⟨mu, hs, _, S, RDs.sel r1 r2 (hdd mu H) is, hl, ?_⟩
    cases q : fn (selL is es qs dds) hs with
    | ok d hs' => rw [q] at g; exact g
    | exc c fs hs' => rw [q] at g; exact g
    | bad => rw [q] at g; exact g
  have c := F.run X.A X.stack s H ⟨us, ks.zip ws⟩ (selL is us ws ds) (selL is vs zs dvs) Q (WE Wd σ) hr hgd I.env0 (hb s us ws I.kIn hn hks) (Vals.sel r rz hd is) hsp
  refine wpAny_call (codeAny_mono c fun rr s' hq => ?_)
  cases rr with
  | error x => exact passAt tk σ pins H s x s' I hq
  | ok fl =>
    cases fl with
    | ret u => exact I.after hq
    | _ => exact False.elim hq
theorem ue_call (F : FnG X.prog X.w X.K X.mg X.base k f fd ps (spU X.K X.mg ps.length fn)) (hr : Room k X.A) (hgd : X.A.guards = some []) (tk : Takes X Wd) (hg : Gl X x) (hm : X.mg x = some (.ref f)) (hk : PySem.W.keepIn X.K (.ref f) = true)
    (hb : BindK X.K fd ps (e :: es).length [] is ds) (hd : Vals dvs ds) (hdd : ∀ mu H, RDs X.K mu H dds dvs) (ha : UA X Wd (e :: es) fa) (hla : ∀ ev hs qs hs', fa ev hs = .ok qs hs' → (selL is qs [] dds).length = ps.length ∧ qs.length = (e :: es).length)
    (hdb : (x == ("__debug__" : Str)) = false := by decide) (he : starEach (e :: es) X.env = (false, eval e X.env) :: starEach es X.env := by rfl) (hpl : (backTo pos (starEach es X.env)).any (·.1) = false := by rfl) :
    UE X Wd (.Call (.Name x p) (e :: es) [] pos) (eFn fn is dds fa) := by
  refine ⟨fun pins s σ H Q I h => ?_⟩
  obtain ⟨ev, mu, hs, S, E, g⟩ := h
  unfold eFn at g
  refine wpAny_Call_Name_kw (ld_glob I hg hm ?_ hdb)
  refine PySem.W.callWith_K (h₀ := X.base) I.ok.mod.kin hk (thn (ha.run pos pins s σ H (fun vs H1 => ∃ mu hs es, Sim X.K X.mg mu hs H1 ∧ RDs X.K mu H1 es vs ∧ (∃ ev h0, fa ev h0 = .ok es hs) ∧ Gd (relD X.K) X.K X.mg Wd σ mu H1 Q (fn (selL is es [] dds) hs)) I ⟨ev, mu, hs, S, E, ?_⟩) fun us s1 ⟨vs, H1, I1, r, mu1, hs1, es1, S1, r1, ⟨ev1, h01, q1⟩, g1⟩ => ⟨I1.kIn, ?_⟩) he hpl
  · cases q : fa ev hs with
    | ok qs hs' => rw [q] at g; exact fun mu' H' y l s rr => ⟨mu', hs', qs, s, rr, ⟨ev, hs, q⟩, Gd.later relD_ok l g⟩
    | exc c fs hs' => rw [q] at g; exact g
    | bad => rw [q] at g; exact g
  · obtain ⟨l1, l2⟩ := hla _ _ _ _ q1
    exact runG (us := us) (ws := []) (vs := vs) (zs := []) (ks := []) F hr hgd tk hb hd hdd I1 r .nil (by rw [← r.length, ← r1.length, l2]) rfl ⟨mu1, hs1, es1, [], S1, r1, .nil, l1, g1⟩
/-- keywords -/
abbrev UK (X : Cx) (Wd : WX) (kws : List Keyword) (f : FA) : Prop := PK X kws (tG (relA X.K) X.K X.mg Wd f)
theorem PK.imp {kws : List Keyword} {t t' : TA} (h : PK X kws t) (i : ∀ σ H Q, t' σ H Q → t σ H Q) : PK X kws t' := ⟨fun pos pins s σ H Q I q => h.run pos pins s σ H Q I (i σ H Q q)⟩
theorem uk_nil : UK X Wd [] aNil := PK.imp pk_nil fun σ H Q ⟨e, mu, hs, S, E, g⟩ => g mu H [] .refl S .nil
theorem uk_cons {nm : Option Str} {e : Expr} {f : FE} {g : FA} (ha : UE X Wd e f) (hr : UK X Wd kws g) : UK X Wd (⟨nm, e, kpos⟩ :: kws) (aCons f g) := by
  refine PK.imp (pk_cons ha hr) fun σ H Q h => ?_
  obtain ⟨e, mu, hs, S, E, q⟩ := tG_seq (r := relD X.K) relA_ok h
  refine ⟨e, mu, hs, S, E, q.imp fun x H1 ⟨e, mu1, hs1, d, S1, E1, r1, g1⟩ => ?_⟩
  refine ⟨e, mu1, hs1, S1, E1, (Gd.bind (r := relA X.K) relA_ok g1).imp fun xs H2 ⟨mu2, hs2, ds, l2, S2, r2, g2⟩ => ?_⟩
  exact g2 mu2 H2 _ .refl S2 (.cons (RD.agr (l2.agr S1) r1) r2)
/-- what arguments and keywords gave -/
theorem tG_args {σ : L2.St} {H : Hp} {Q : VK} (h : tG (relD X.K) X.K X.mg Wd (eFnK fn is dds fa fk) σ H Q) :
    tG (relA X.K) X.K X.mg Wd fa σ H (fun vs H1 => tG (relA X.K) X.K X.mg Wd fk σ H1 (fun zs H2 => ∃ mu hs es qs, Sim X.K X.mg mu hs H2 ∧ RDs X.K mu H2 es vs ∧ RDs X.K mu H2 qs zs ∧ (∃ ev h0 h1, fa ev h0 = .ok es h1) ∧ (∃ ev h0 h1, fk ev h0 = .ok qs h1) ∧ Gd (relD X.K) X.K X.mg Wd σ mu H2 Q (fn (selL is es qs dds) hs))) := by
  obtain ⟨ev, mu, hs, S, E, g⟩ := h
  refine ⟨ev, mu, hs, S, E, ?_⟩
  unfold eFnK at g
  cases q : fa ev hs with
  | ok es hs1 =>
    rw [q] at g
    rw [R.bind_ok] at g
    intro mu1 H1 vs l1 S1 r1
    refine ⟨ev, mu1, hs1, S1, E.agr (l1.agr S), ?_⟩
    cases q2 : fk ev hs1 with
    | ok qs hs2 =>
      rw [q2] at g
      rw [R.bind_ok] at g
      exact fun mu2 H2 zs l2 S2 r2 => ⟨mu2, hs2, es, qs, S2, RDs.agr (l2.agr S1) r1, r2, ⟨ev, hs, _, q⟩, ⟨ev, hs1, _, q2⟩, Gd.later relD_ok (l1.trans l2) g⟩
    | exc c fs hs' => rw [q2] at g; exact fun mu' H' cls dx l s rr => g mu' H' cls dx (l1.trans l) s rr
    | bad => rw [q2] at g; exact g
  | exc c fs hs' => rw [q] at g; exact g
  | bad => rw [q] at g; exact g
end

/-! ### the law's end -/
/-- where the law is entered: the heap, with the script locked where it isn't the module's own -/
def H0of (K : PySem.W.Frag) (a : Addr) (o : Obj) (xs : List V) : Hp := fun b => if b = a ∧ K.lookup a = none then some (.frz o (.lst xs)) else none
theorem law_enter {P : Program} {w : World} {K : PySem.W.Frag} {mg mb : Str → Option Value} {k : Nat} {fa a : Addr} {fd : FuncData} {x : Str} {fn : List D → Hs → R D} {s1 : Shared} {vs : List Value} {ns : List Int}
    (KX : K.In s1.heap) (hns : s1.heap.Ns mainGlobals mg) (hsm : ∃ m, s1.heap.Ns sysModules m) (hb : s1.heap.Ns builtinsNs mb) (hbb : ∀ x : Str, x ≠ "__name__" → mb x = bootBuiltins x) (hlim : s1.heap.NoLimit) (hg : s1.gens = #[])
    (ha : s1.heap.get? a = some { cls := .type "list", data := .seq vs.toArray }) (hi : IntsAre vs ns) (hl : ns.length ≤ sizeLine) (hr : Room k callerA)
    (F : ∀ base : Heap, K.In base → base.Ns mainGlobals mg → (∃ o, base.get? sysModules = some o) → FnG P w K mg base k fa fd [x] (spU K mg 1 fn)) (hbind : ∀ (s : Shared) (u : Value), BindsTo s fd ⟨[u], []⟩ [(x, u)])
    (hok : ∃ hs', fn [.scr (ns.map D.int)] [] = .ok (.bl true) hs') :
    codeAny (model P w) callerA (.call (.ref fa) ⟨[.ref a], []⟩) (fun r s' => r = .ok (.ret (.bool true)) ∧ OldK s1.heap s'.heap ∧ s'.os = s1.os ∧ AllBare s'.gens) s1 := by
  have rv := vals_ints hi
  generalize hH : H0of K a { cls := .type "list", data := .seq vs.toArray } (ns.map V.int) = H
  have Hat : ∀ b u, H b = some u → b = a ∧ K.lookup a = none ∧ u = .frz { cls := .type "list", data := .seq vs.toArray } (.lst (ns.map V.int)) := by
    intro b u e
    rw [← hH] at e
    unfold H0of at e
    split at e
    · rename_i h; cases e; exact ⟨h.1, h.2, rfl⟩
    · cases e
  have frees : ∀ {b : Addr} {o : Obj}, s1.heap.get? b = some o → (∀ q n, o.data ≠ .seq q n) ∨ K.lookup b ≠ none → H b = none := by
    intro b o e h
    cases q : H b with
    | none => rfl
    | some u =>
      obtain ⟨rfl, hk, _⟩ := Hat b u q
      rw [ha] at e; cases e
      rcases h with h | h
      · exact absurd rfl (h _ _)
      · exact absurd hk h
  have keepNs : ∀ {b : Addr} {m : Str → Option Value}, s1.heap.Ns b m → (hidT s1.heap H).Ns b m := by
    rintro b m ⟨o, es, ep, e, d, r⟩
    exact ⟨o, es, ep, hidT_get e (frees e (.inl fun q n z => by rw [d] at z; cases z)), d, r⟩
  have kin : K.In (hidT s1.heap H) := fun b o e => hidT_get (KX b o e) (frees (KX b o e) (.inr (by rw [e]; simp)))
  have hokH : HOk P w H s1.heap := by
    intro b u e
    obtain ⟨rfl, hk, rfl⟩ := Hat b u e
    exact ⟨ha, by rw [List.length_map]; exact hl, vs, _, rv, ha⟩
  have md : Mod K mg (hidT s1.heap H) := by
    obtain ⟨mc, c1, c2⟩ := hlim
    exact ⟨kin, keepNs hns, ⟨mb, keepNs hb, hbb⟩, ⟨mc, keepNs c1, c2⟩⟩
  have e0 : Env0 P w K mg (hidT s1.heap H) callerA [] s1 H :=
    { frames := rfl, mod := md, bs := fun b o e => of_hidT e, bsz := Nat.le_of_eq (hidT_size _ _), funs := trivial, frf := fun b z => absurd (show b ∈ ([] : List Addr) from z) (by simp), hok := hokH, bare := .of_eq hg }
  have scr : RD K ⟨[], fun _ => False⟩ H (.scr (ns.map D.int)) (.ref a) := by
    refine .scr ?_ (RDs.ints ns)
    cases hk : K.lookup a with
    | none =>
      refine .inl ⟨⟨{ cls := .type "list", data := .seq vs.toArray }, ?_⟩, by simp⟩
      rw [← hH]
      exact if_pos ⟨rfl, hk⟩
    | some o =>
      have e := KX a o hk
      rw [ha] at e; cases e
      exact .inr (.inr ⟨_, vs.toArray, _, hk, rfl, rfl, rfl, by rw [List.size_toArray, hi.length]; exact hl, by simpa using rv⟩)
  obtain ⟨hs', hfn⟩ := hok
  have sp : spU K mg 1 fn [.ref a] H (fun v _ => v = .bl true) (fun _ _ _ => False) := by
    refine ⟨⟨[], fun _ => False⟩, [], [.scr (ns.map D.int)], ⟨rfl, .nil, fun b z => by simp at z, fun b z => z.elim, fun n o h => by simp at h⟩, .cons scr .nil, rfl, ?_⟩
    rw [hfn]
    intro mu' H' v l s r
    cases r; rfl
  refine codeAny_mono ((F _ kin (keepNs hns) (let ⟨_, o, _, _, e, _⟩ := hsm.elim fun m h => (⟨m, keepNs h⟩ : ∃ m, (hidT s1.heap H).Ns sysModules m); ⟨o, e⟩)).run callerA [] s1 H ⟨[.ref a], []⟩ [.ref a] [.ref a] _ _ hr rfl e0 (hbind s1 (.ref a)) (.cons rfl .nil) sp) fun r s' h => ?_
  cases r with
  | error e =>
    obtain ⟨_, _, _, _, _, _, _, _, _, _, _, _, z⟩ := h
    exact z.elim
  | ok fl =>
    cases fl with
    | ret u =>
      obtain ⟨v, H', os, bare, un, hok', rr, rfl⟩ := h
      obtain rfl : u = Value.bool true := rr
      refine ⟨rfl, OldK.of_keep fun b o e => ?_, os, bare⟩
      cases q : H b with
      | none => exact un.keep b o e q (by intro z; exact absurd (show b ∈ ([] : List Addr) from z) (by simp)) (by simp)
      | some u =>
        obtain ⟨rfl, hk, rfl⟩ := Hat b u q
        have z1 := (hokH b _ q).1
        have z2 := (hok' b _ (un.frzs b _ _ q)).1
        rw [e] at z1; cases z1
        exact z2
    | _ => exact False.elim h
/-- the goal that the head leaves -/
theorem walk_G {l : PySem.W.OpenLaw} {n k : Nat} {q : Program} {loose : List Str} {XP : (Str → Option Value) → Heap → Prop} {YP : World → Heap → Prop} {d : DefRec} {K : Params → PySem.W.Frag} {fn : List D → Hs → R D} {x : Str}
    (himp : importsNone q = true) (hn : l.most = some n) (hn2 : n ≤ sizeLine) (hdf : d.params.defaults = []) (hr : Room k callerA) (hY : ∀ (w : World) (h : Heap), YP w h → (K w.params).In h)
    (F : ∀ (w : World) (mg : Str → Option Value) (fa : Addr) (h : Heap), (K w.params).In h → h.Ns mainGlobals mg → mg d.name = some (.ref fa) →
      ∃ fd : FuncData, (∀ (s : Shared) (u : Value), BindsTo s fd ⟨[u], []⟩ [(x, u)]) ∧ ∀ base : Heap, (K w.params).In base → base.Ns mainGlobals mg → (∃ o, base.get? sysModules = some o) → FnG l.prog w (K w.params) mg base k fa fd [x] (spU (K w.params) mg 1 fn))
    (hok : ∀ ns : List Int, ns.length ≤ n → ∃ hs', fn [.scr (ns.map D.int)] [] = .ok (.bl true) hs') : PySem.W.WalkO q loose XP YP l.row.toRowW d [] (fun f vs => PySem.call f vs) := by
  refine Att.attach_call hn hdf fun w s0 s1 mg mb fa o pm cd doc a vs ns Gt Y ho hd hcd hmg hobj hints hlen hg => ?_
  obtain ⟨fd, hb, hF⟩ := F w mg fa _ (hY w _ Y) Gt.T.g hmg
  exact law_enter (hY w _ Y) Gt.T.g (let ⟨m, h, _⟩ := (Gt.T.seer himp).mods; ⟨m, h⟩) Gt.T.b Gt.T.builtins Gt.T.nolimit hg hobj hints (Nat.le_trans hlen hn2) hr hF hb (hok ns hlen)
/-! # G9: short forms for the printer -/
theorem few {n : Nat} (h : n ≤ 1000) : n ≤ sizeLine := Nat.le_trans h (by decide)
theorem selL_len {t : Type} (us ws dv : List t) : ∀ (is : List Nat), (∀ i ∈ is, i < us.length + ws.length + dv.length) → (selL is us ws dv).length = is.length
  | [], _ => rfl
  | i :: is, h => by
    have ih := selL_len us ws dv is fun j hj => h j (List.mem_cons_of_mem _ hj)
    have hi : i < (us ++ ws ++ dv).length := by simp only [List.length_append]; exact h i List.mem_cons_self
    unfold selL at ih ⊢
    rw [List.filterMap_cons, List.getElem?_eq_getElem hi, List.length_cons, ih, List.length_cons]
theorem all_lt {is : List Nat} {n : Nat} (h : is.all (fun i => decide (i < n)) = true) : ∀ i ∈ is, i < n := fun i hi => of_decide_eq_true (List.all_eq_true.mp h i hi)
section
variable {K : PySem.W.Frag} {x qual : Str} {st : Stmt} {f : Addr} {fd : FuncData} {ps ks : List Str} {n : Nat} {is : List Nat}
theorem bindK_of (F : Fun K x qual st f fd) (h : ∀ (kV doc pm : Value) (an : Option Addr) (cdv ct : Value) (us ws : List Value), us.length = n → ws.length = ks.length →
    bindArgs (PySem.W.fnOf x qual (defArgs st) (defBody st) (defScope st) .none kV doc pm an cdv ct) ⟨us, ks.zip ws⟩ = pure (ps.zip (selL is us ws []))) : BindK K fd ps n ks is [] := by
  obtain ⟨oc, od, kV, doc, pm, an, cdv, ct, osl, rfl, lk, hcd⟩ := F.ex
  exact fun s us ws _ h1 h2 => .of_eq (h kV doc pm an cdv ct us ws h1 h2)
theorem fun_ok {P : Program} {w : World} {mg : Str → Option Value} {base : Heap} {N : List Str} {k : Nat} (F : Fun K x qual st f fd) (hsm : ∃ o, base.get? sysModules = some o) (S : FnScope N ps (defScope st)) (b : FS)
    (hb : ∀ (cdv : Value) (A : Around) (outer : List Env) (s : Shared) (H : Hp) (E : XK), Bd (cxOf (L2.CX P w) P w K mg base N qual (defScope st) f cdv A outer s H E) (fun cls dx _ H' => E cls dx H') k →
      USs (cxOf (L2.CX P w) P w K mg base N qual (defScope st) f cdv A outer s H E) (fun cls dx _ H' => E cls dx H') (defBody st) b) : FnG P w K mg base (k + 1) f fd ps (spU K mg ps.length (fnBody N.length b)) := by
  obtain ⟨oc, od, kV, doc, pm, an, cdv, ct, osl, rfl, lk, hcd⟩ := F.ex
  exact fnG_of hsm lk hcd S b fun A outer s H E B => hb cdv A outer s H E B
end
section
variable {X : Cx} {Wd : WX} {k k' n : Nat} {f : Addr} {fd : FuncData} {ps ks : List Str} {fn : List D → Hs → R D} {is : List Nat} {x : Str} {p pos : Pos} {e : Expr} {es : List Expr} {fa fk : FA} {kws : List Keyword}
theorem Bd.blk {s : Shared} {H : Hp} {scope : Scope} {cenv : Env} {fp : List Addr} (B : Bd X Wd k) : Bd (X.blk s H scope cenv fp) W0 k := ⟨B.calm, B.room, B.gd, takes0, PassesOwn.never, B.sm⟩
/-- f(e, ..), no defaults -/
theorem ue_fn (B : Bd X Wd k') (F : FnG X.prog X.w X.K X.mg X.base k f fd ps (spU X.K X.mg ps.length fn)) (hr : k ≤ k') (hm : X.mg x = some (.ref f)) (hk : PySem.W.keepIn X.K (.ref f) = true)
    (hb : BindK X.K fd ps (e :: es).length [] is []) (ha : UA X Wd (e :: es) fa) (hla : ∀ ev hs qs hs', fa ev hs = .ok qs hs' → qs.length = (e :: es).length) (hi : is.all (fun i => decide (i < (e :: es).length)) = true := by decide) (hl : is.length = ps.length := by rfl) (hg : Gl X x := by rfl)
    (hdb : (x == ("__debug__" : Str)) = false := by decide) (he : starEach (e :: es) X.env = (false, eval e X.env) :: starEach es X.env := by rfl) (hpl : (backTo pos (starEach es X.env)).any (·.1) = false := by rfl) :
    UE X Wd (.Call (.Name x p) (e :: es) [] pos) (eFn fn is [] fa) :=
  ue_call F (B.room.mono hr) B.gd B.tk hg hm hk hb .nil (fun _ _ => .nil) ha (fun ev hs qs hs' h => by
    have h1 := hla ev hs qs hs' h
    exact ⟨by rw [selL_len _ _ _ _ (by rw [h1]; exact all_lt hi), hl], h1⟩) hdb he hpl
/-- what is walked, of any kind -/
theorem PI.or {tg iter : Expr} {t t' : TI} (h : PI X tg iter t) (h' : PI X tg iter t') : PI X tg iter (fun σ H R => t σ H R ∨ t' σ H R) := ⟨fun pins s σ H R I q => q.elim (h.run pins s σ H R I) (h'.run pins s σ H R I)⟩
def iAny (f : FE) : FI := fun e hs => match f e hs with
  | .ok d hs' => (match d with
    | .tup ds => .ok (nxL ds) hs'
    | .ctp ds => .ok (nxL ds) hs'
    | .lst ds => .ok (nxL ds) hs'
    | .scr ds => .ok (nxL ds) hs'
    | .ref n => (match hs'[n]? with | some (.lst _) => .ok (nxR n) hs' | _ => .bad)
    | .str x => .ok (nxL (signs x)) hs'
    | _ => .bad)
  | .exc c fs hs' => .exc c fs hs'
  | .bad => .bad
theorem ui_any {tg a : Expr} {f1 : FE} (ha : UE X Wd a f1) : UI X Wd tg a (iAny f1) := by
  refine PI.imp (PI.or (ui_seq ha) (PI.or (ui_tup ha) (ui_str ha))) fun σ H Q ⟨e, mu, hs, S, E, g⟩ => ?_
  unfold iAny at g
  cases q : f1 e hs with
  | ok d hs' =>
    rw [q] at g
    cases d with
    | tup ds => refine .inr (.inl ⟨e, mu, hs, S, E, ?_⟩); unfold iTp; rw [q]; exact g
    | ctp ds => refine .inr (.inl ⟨e, mu, hs, S, E, ?_⟩); unfold iTp; rw [q]; exact g
    | str x => refine .inr (.inr ⟨e, mu, hs, S, E, ?_⟩); unfold iStrG; rw [q]; exact g
    | lst ds => refine .inl ⟨e, mu, hs, S, E, ?_⟩; unfold iSeq; rw [q]; exact g
    | scr ds => refine .inl ⟨e, mu, hs, S, E, ?_⟩; unfold iSeq; rw [q]; exact g
    | ref n => refine .inl ⟨e, mu, hs, S, E, ?_⟩; unfold iSeq; rw [q]; exact g
    | _ => exact g.elim
  | exc c fs hs' => rw [q] at g; refine .inl ⟨e, mu, hs, S, E, ?_⟩; unfold iSeq; rw [q]; exact g
  | bad => rw [q] at g; exact g.elim
end

/-! ### what a part has made and nobody else knows is forgotten -/
mutual
/-- no number from n on -/
def bel (n : Nat) : D → Bool
  | .ref m => decide (m < n)
  | .tup ds => bels n ds
  | .lst ds => bels n ds
  | .scr ds => bels n ds
  | .ctp ds => bels n ds
  | .dct _ ds => bels n ds
  | .dtp _ ds => bels n ds
  | .dlk _ ds => bels n ds
  | .dlt _ ds => bels n ds
  | .ins _ _ ds => bels n ds
  | .exn _ _ ds => bels n ds
  | _ => true
def bels (n : Nat) : List D → Bool
  | [] => true
  | d :: ds => bel n d && bels n ds
end
def obel (n : Nat) : O → Bool
  | .lst ds => bels n ds
  | .dk kvs => bels n (kvs.map (·.2))
  | .dt kvs => bels n (kvs.map (·.2))
  | .ins _ kvs => bels n (kvs.map (·.2))
  | .lkd o => obel n o
mutual
/-- what numbers stand for, by value -/
def dW (r : Nat → Option D) : D → Option D
  | .ref m => r m
  | .tup ds => (dWs r ds).map .tup
  | .lst ds => (dWs r ds).map .lst
  | .scr ds => (dWs r ds).map .scr
  | .ctp ds => (dWs r ds).map .ctp
  | .dct ks ds => (dWs r ds).map (.dct ks)
  | .dtp ks ds => (dWs r ds).map (.dtp ks)
  | .dlk ks ds => (dWs r ds).map (.dlk ks)
  | .dlt ks ds => (dWs r ds).map (.dlt ks)
  | .ins c ks ds => (dWs r ds).map (.ins c ks)
  | .exn c ks ds => (dWs r ds).map (.exn c ks)
  | .non => some .non
  | .bl b => some (.bl b)
  | .int i => some (.int i)
  | .str s => some (.str s)
  | .ty t => some (.ty t)
  | .glb x => some (.glb x)
def dWs (r : Nat → Option D) : List D → Option (List D)
  | [] => some []
  | d :: ds => match dW r d with
    | some p => match dWs r ds with | some ps => some (p :: ps) | none => none
    | none => none
end
def dH (hs : Hs) (n : Nat) : Nat → Nat → Option D
  | 0, m => if m < n then some (.ref m) else none
  | k + 1, m => if m < n then some (.ref m) else match hs[m]? with
    | some (.lst ds) => (dWs (dH hs n k) ds).map .lst
    | some (.dk kvs) => (dWs (dH hs n k) (kvs.map (·.2))).map (.dct (kvs.map (·.1)))
    | some (.dt kvs) => (dWs (dH hs n k) (kvs.map (·.2))).map (.dtp (kvs.map (·.1)))
    | some (.ins c kvs) => (dWs (dH hs n k) (kvs.map (·.2))).map (.ins c (kvs.map (·.1)))
    | some (.lkd (.dk kvs)) => (dWs (dH hs n k) (kvs.map (·.2))).map (.dlk (kvs.map (·.1)))
    | some (.lkd (.dt kvs)) => (dWs (dH hs n k) (kvs.map (·.2))).map (.dlt (kvs.map (·.1)))
    | _ => none
/-- what stood stands, or knows nothing of what is new -/
def Cls (hs h1 : Hs) : Prop := ∀ k, k < hs.length → h1[k]? = hs[k]? ∨ ∃ o, h1[k]? = some o ∧ obel hs.length o = true
open Classical in
noncomputable def gcR (hs : Hs) : R D → R D
  | .ok d h1 => match dW (dH h1 hs.length 50) d with
    | some d' => if Cls hs h1 then .ok d' (h1.take hs.length) else .bad
    | none => .bad
  | .exc c fs h1 => match dWs (dH h1 hs.length 50) (fs.map (·.2)) with
    | some ds => if Cls hs h1 then .exc c ((fs.map (·.1)).zip ds) (h1.take hs.length) else .bad
    | none => .bad
  | .bad => .bad
noncomputable def eGc (f : FE) : FE := fun e hs => gcR hs (f e hs)
noncomputable def gcF (fn : List D → Hs → R D) : List D → Hs → R D := fun ds hs => gcR hs (fn ds hs)
/-- the numbers from n on stand still by themselves -/
def Mp.cut (mu : Mp) (n : Nat) : Mp := ⟨mu.l.take n, fun a => mu.fz a ∨ a ∈ mu.l.drop n⟩
section
variable {K : PySem.W.Frag} {mg : Str → Option Value} {mu mu1 : Mp} {hs h1 : Hs} {H H1 : Hp} {n : Nat}
theorem cut_not {a : Addr} (h : a ∉ mu.l) : a ∉ (mu.cut n).l := fun z => h (List.mem_of_mem_take z)
theorem cut_get {m : Nat} {a : Addr} (e : mu.l[m]? = some a) (h : m < n) : (mu.cut n).l[m]? = some a := by
  show (mu.l.take n)[m]? = some a
  rw [List.getElem?_take_of_lt h]; exact e
theorem cut_fz {m : Nat} {a : Addr} (e : mu.l[m]? = some a) (h : ¬ m < n) : (mu.cut n).fz a := by
  refine .inr (List.mem_of_getElem? (i := m - n) ?_)
  rw [List.getElem?_drop, show n + (m - n) = m by omega]; exact e
theorem StT.cut {a : Addr} {vs : List V} (h : StT K mu H a vs) : StT K (mu.cut n) H a vs := ⟨h.1, cut_not h.2⟩
theorem StF.cut {a : Addr} {u : HO} (h : StF mu H a u) : StF (mu.cut n) H a u := ⟨h.1, cut_not h.2⟩
theorem StE.cut {C a : Addr} {d : Option Addr} (h : StE mu H C d a) : StE (mu.cut n) H C d a := ⟨cut_not h.1, h.2⟩
theorem StX.cut {a : Addr} {kvs : List (Str × V)} (h : StX mu H a kvs) : StX (mu.cut n) H a kvs := ⟨h.1, cut_not h.2⟩
theorem StL.cut {a : Addr} {vs : List V} (h : StL K mu H a vs) : StL K (mu.cut n) H a vs := h.elim (fun h => .inl ⟨h.1, cut_not h.2⟩) .inr
mutual
theorem RD.cut0 : ∀ {d : D} {v : V}, RD K mu H d v → bel n d = true → RD K (mu.cut n) H d v
  | _, _, .non, _ => .non
  | _, _, .bl b, _ => .bl b
  | _, _, .int i, _ => .int i
  | _, _, .str s, _ => .str s
  | _, _, .tup q r, h => .tup q.cut (RDs.cut0 r h)
  | _, _, .lst q z r, h => .lst q (.inl z) (RDs.cut0 r h)
  | _, _, .scr q r, h => .scr q.cut (RDs.cut0 r h)
  | _, _, .ref e, h => .ref (cut_get e (of_decide_eq_true h))
  | _, _, .ty t, _ => .ty t
  | _, _, .ctp q r, h => .ctp q (RDs.cut0 r h)
  | _, _, .dct q z l r, h => .dct q (.inl z) l (RDs.cut0 r h)
  | _, _, .dtp q z l r, h => .dtp q (.inl z) l (RDs.cut0 r h)
  | _, _, .ins g q z l r, h => .ins g q (.inl z) l (RDs.cut0 r h)
  | _, _, .dlk q l r, h => .dlk q.cut l (RDs.cut0 r h)
  | _, _, .dlt q l r, h => .dlt q.cut l (RDs.cut0 r h)
  | _, _, .exn0 g q, _ => .exn0 g q.cut
  | _, _, .exnd g q x z r, h => .exnd g q.cut x.cut z (RDs.cut0 r h)
  | _, _, .glb g, _ => .glb g
theorem RDs.cut0 : ∀ {ds : List D} {vs : List V}, RDs K mu H ds vs → bels n ds = true → RDs K (mu.cut n) H ds vs
  | _, _, .nil, _ => .nil
  | _, _, .cons r t, h => by
    have h := (Bool.and_eq_true _ _).mp (show (bel n _ && bels n _) = true from h)
    exact .cons (RD.cut0 r h.1) (RDs.cut0 t h.2)
end
theorem RKs.cut0 {k : Type} : ∀ {ds : List (k × D)} {vs : List (k × V)}, RKs K mu H ds vs → bels n (ds.map (·.2)) = true → RKs K (mu.cut n) H ds vs
  | _, _, .nil, _ => .nil
  | _, _, .cons r t, h => by
    have h := (Bool.and_eq_true _ _).mp (show (bel n _ && bels n _) = true from h)
    exact .cons (RD.cut0 r h.1) (RKs.cut0 t h.2)
theorem RO.cut0 : ∀ {o : O} {u : HO}, RO K mg mu H o u → obel n o = true → RO K mg (mu.cut n) H o u := by
  intro o
  induction o with
  | lst ds => intro u h b; cases u <;> first | exact RDs.cut0 h b | exact h
  | dk ds => intro u h b; cases u <;> first | exact RKs.cut0 h b | exact h
  | dt ds => intro u h b; cases u <;> first | exact RKs.cut0 h b | exact h
  | ins c ds => intro u h b; cases u <;> first | exact ⟨h.1, RKs.cut0 h.2 b⟩ | exact h
  | lkd o ih => intro u h b; cases u <;> first | exact ih h b | exact h
/-! all numbers that are told are there -/
mutual
theorem RD.bel : ∀ {d : D} {v : V}, RD K mu H d v → bel mu.l.length d = true
  | _, _, .non => rfl
  | _, _, .bl b => rfl
  | _, _, .int i => rfl
  | _, _, .str s => rfl
  | _, _, .tup q r => RDs.bel r
  | _, _, .lst q z r => RDs.bel r
  | _, _, .scr q r => RDs.bel r
  | _, _, .ref e => decide_eq_true (List.getElem?_eq_some_iff.mp e).1
  | _, _, .ty t => rfl
  | _, _, .ctp q r => RDs.bel r
  | _, _, .dct q z l r => RDs.bel r
  | _, _, .dtp q z l r => RDs.bel r
  | _, _, .ins g q z l r => RDs.bel r
  | _, _, .dlk q l r => RDs.bel r
  | _, _, .dlt q l r => RDs.bel r
  | _, _, .exn0 g q => rfl
  | _, _, .exnd g q x z r => RDs.bel r
  | _, _, .glb g => rfl
theorem RDs.bel : ∀ {ds : List D} {vs : List V}, RDs K mu H ds vs → bels mu.l.length ds = true
  | _, _, .nil => rfl
  | _, _, .cons r t => (Bool.and_eq_true _ _).mpr ⟨RD.bel r, RDs.bel t⟩
end
theorem RKs.bel {k : Type} : ∀ {ds : List (k × D)} {vs : List (k × V)}, RKs K mu H ds vs → bels mu.l.length (ds.map (·.2)) = true
  | _, _, .nil => rfl
  | _, _, .cons r t => (Bool.and_eq_true _ _).mpr ⟨RD.bel r, RKs.bel t⟩
theorem RO.bel : ∀ {o : O} {u : HO}, RO K mg mu H o u → obel mu.l.length o = true := by
  intro o
  induction o with
  | lst ds => intro u h; cases u <;> first | exact RDs.bel h | exact h.elim
  | dk ds => intro u h; cases u <;> first | exact RKs.bel h | exact h.elim
  | dt ds => intro u h; cases u <;> first | exact RKs.bel h | exact h.elim
  | ins c ds => intro u h; cases u <;> first | exact RKs.bel h.2 | exact h.elim
  | lkd o ih => intro u h; cases u <;> first | exact ih h | exact h.elim
theorem dWs_len {r : Nat → Option D} : ∀ (ds ps : List D), dWs r ds = some ps → ps.length = ds.length
  | [], ps, e => by unfold dWs at e; cases e; rfl
  | d :: ds, ps, e => by
    unfold dWs at e
    split at e
    · split at e
      · rename_i qs hq
        cases e
        rw [List.length_cons, List.length_cons, dWs_len ds _ hq]
      · cases e
    · cases e
/-! by value -/
mutual
theorem RD.cutW {r : Nat → Option D} (hr : ∀ m a d, mu.l[m]? = some a → r m = some d → RD K (mu.cut n) H d (.ref a)) : ∀ (d : D) (v : V) (d' : D), RD K mu H d v → dW r d = some d' → RD K (mu.cut n) H d' v
  | .non, _, _, h, e => by cases h; cases e; exact .non
  | .bl b, _, _, h, e => by cases h; cases e; exact .bl b
  | .int i, _, _, h, e => by cases h; cases e; exact .int i
  | .str s, _, _, h, e => by cases h; cases e; exact .str s
  | .ty t, _, _, h, e => by cases h; cases e; exact .ty t
  | .glb x, _, _, h, e => by cases h with | glb g => cases e; exact .glb g
  | .ref m, _, _, h, e => by cases h with | ref q => exact hr _ _ _ q e
  | .tup ds, _, _, h, e => by
    cases h with
    | tup q r =>
      obtain ⟨ps, e1, rfl⟩ := Option.map_eq_some_iff.mp (show (dWs _ ds).map D.tup = some _ from e)
      exact .tup q.cut (RDs.cutW hr ds _ ps r e1)
  | .lst ds, _, _, h, e => by
    cases h with
    | lst q z r =>
      obtain ⟨ps, e1, rfl⟩ := Option.map_eq_some_iff.mp (show (dWs _ ds).map D.lst = some _ from e)
      exact .lst q (.inl z) (RDs.cutW hr ds _ ps r e1)
  | .scr ds, _, _, h, e => by
    cases h with
    | scr q r =>
      obtain ⟨ps, e1, rfl⟩ := Option.map_eq_some_iff.mp (show (dWs _ ds).map D.scr = some _ from e)
      exact .scr q.cut (RDs.cutW hr ds _ ps r e1)
  | .ctp ds, _, _, h, e => by
    cases h with
    | ctp q r =>
      obtain ⟨ps, e1, rfl⟩ := Option.map_eq_some_iff.mp (show (dWs _ ds).map D.ctp = some _ from e)
      exact .ctp q (RDs.cutW hr ds _ ps r e1)
  | .dct ks ds, _, _, h, e => by
    cases h with
    | dct q z l r =>
      obtain ⟨ps, e1, rfl⟩ := Option.map_eq_some_iff.mp (show (dWs _ ds).map (D.dct ks) = some _ from e)
      exact .dct q (.inl z) (l.trans (dWs_len ds ps e1).symm) (RDs.cutW hr ds _ ps r e1)
  | .dtp ks ds, _, _, h, e => by
    cases h with
    | dtp q z l r =>
      obtain ⟨ps, e1, rfl⟩ := Option.map_eq_some_iff.mp (show (dWs _ ds).map (D.dtp ks) = some _ from e)
      exact .dtp q (.inl z) (l.trans (dWs_len ds ps e1).symm) (RDs.cutW hr ds _ ps r e1)
  | .ins c ks ds, _, _, h, e => by
    cases h with
    | ins g q z l r =>
      obtain ⟨ps, e1, rfl⟩ := Option.map_eq_some_iff.mp (show (dWs _ ds).map (D.ins c ks) = some _ from e)
      exact .ins g q (.inl z) (l.trans (dWs_len ds ps e1).symm) (RDs.cutW hr ds _ ps r e1)
  | .dlk ks ds, _, _, h, e => by
    cases h with
    | dlk q l r =>
      obtain ⟨ps, e1, rfl⟩ := Option.map_eq_some_iff.mp (show (dWs _ ds).map (D.dlk ks) = some _ from e)
      exact .dlk q.cut (l.trans (dWs_len ds ps e1).symm) (RDs.cutW hr ds _ ps r e1)
  | .dlt ks ds, _, _, h, e => by
    cases h with
    | dlt q l r =>
      obtain ⟨ps, e1, rfl⟩ := Option.map_eq_some_iff.mp (show (dWs _ ds).map (D.dlt ks) = some _ from e)
      exact .dlt q.cut (l.trans (dWs_len ds ps e1).symm) (RDs.cutW hr ds _ ps r e1)
  | .exn c ks ds, _, _, h, e => by
    obtain ⟨ps, e1, rfl⟩ := Option.map_eq_some_iff.mp (show (dWs _ ds).map (D.exn c ks) = some _ from e)
    cases h with
    | exn0 g q =>
      have e2 := dWs_len _ ps e1
      obtain rfl : ps = [] := List.eq_nil_of_length_eq_zero e2
      exact .exn0 g q.cut
    | exnd g q x z r => exact .exnd g q.cut x.cut (z.trans (dWs_len ds ps e1).symm) (RDs.cutW hr ds _ ps r e1)
theorem RDs.cutW {r : Nat → Option D} (hr : ∀ m a d, mu.l[m]? = some a → r m = some d → RD K (mu.cut n) H d (.ref a)) : ∀ (ds : List D) (vs : List V) (ds' : List D), RDs K mu H ds vs → dWs r ds = some ds' → RDs K (mu.cut n) H ds' vs
  | [], _, _, h, e => by cases h; cases e; exact .nil
  | d :: ds, _, _, h, e => by
    cases h with
    | cons r1 r2 =>
      unfold dWs at e
      split at e
      · rename_i p hp
        split at e
        · rename_i ps hps
          cases e
          exact .cons (RD.cutW hr d _ p r1 hp) (RDs.cutW hr ds _ ps r2 hps)
        · cases e
      · cases e
end
theorem RKs.keys {k : Type} : ∀ {ds : List (k × D)} {vs : List (k × V)}, RKs K mu H ds vs → vs.map (·.1) = ds.map (·.1)
  | _, _, .nil => rfl
  | _, _, .cons _ t => by rw [List.map_cons, List.map_cons, RKs.keys t]
theorem RKs.vals {k : Type} : ∀ {ds : List (k × D)} {vs : List (k × V)}, RKs K mu H ds vs → RDs K mu H (ds.map (·.2)) (vs.map (·.2))
  | _, _, .nil => .nil
  | _, _, .cons r t => .cons r (RKs.vals t)
theorem zip_back {k t : Type} (vs : List (k × t)) : (vs.map (·.1)).zip (vs.map (·.2)) = vs := by
  induction vs with
  | nil => rfl
  | cons p vs ih => simp only [List.map_cons, List.zip_cons_cons, ih]
theorem dH_at (S : Sim K mg mu hs H) : ∀ (k m : Nat) (a : Addr) (d : D), mu.l[m]? = some a → dH hs n k m = some d → RD K (mu.cut n) H d (.ref a)
  | 0, m, a, d, hm, e => by
    unfold dH at e
    split at e
    · rename_i h; cases e; exact .ref (cut_get hm h)
    · cases e
  | k + 1, m, a, d, hm, e => by
    unfold dH at e
    split at e
    · rename_i h; cases e; exact .ref (cut_get hm h)
    · rename_i h
      have fz := cut_fz (n := n) hm h
      split at e
      · rename_i ds hd
        obtain ⟨ps, e1, rfl⟩ := Option.map_eq_some_iff.mp e
        obtain ⟨u, h1, h2⟩ := S.at hm hd
        cases u <;> first
          | exact .lst h1 fz (RDs.cutW (fun m a d q1 q2 => dH_at S k m a d q1 q2) ds _ ps h2 e1)
          | exact h2.elim
      · rename_i kvs hd
        obtain ⟨ps, e1, rfl⟩ := Option.map_eq_some_iff.mp e
        obtain ⟨u, h1, h2⟩ := S.at hm hd
        cases u <;> first
          | (rename_i vs
             have h2 : RKs K mu H kvs vs := h2
             refine .dct (vs := vs.map (·.2)) ?_ fz ?_ (RDs.cutW (fun m a d q1 q2 => dH_at S k m a d q1 q2) _ _ ps h2.vals e1)
             · rw [← h2.keys, zip_back]; exact h1
             · rw [dWs_len _ _ e1, List.length_map, List.length_map])
          | exact h2.elim
      · rename_i kvs hd
        obtain ⟨ps, e1, rfl⟩ := Option.map_eq_some_iff.mp e
        obtain ⟨u, h1, h2⟩ := S.at hm hd
        cases u <;> first
          | (rename_i vs
             have h2 : RKs K mu H kvs vs := h2
             refine .dtp (vs := vs.map (·.2)) ?_ fz ?_ (RDs.cutW (fun m a d q1 q2 => dH_at S k m a d q1 q2) _ _ ps h2.vals e1)
             · rw [← h2.keys, zip_back]; exact h1
             · rw [dWs_len _ _ e1, List.length_map, List.length_map])
          | exact h2.elim
      · rename_i c kvs hd
        obtain ⟨ps, e1, rfl⟩ := Option.map_eq_some_iff.mp e
        obtain ⟨u, h1, h2⟩ := S.at hm hd
        cases u <;> first
          | (rename_i C dx vs
             obtain ⟨hg, h2⟩ : PySem.W.nsIn K mainGlobals c = some (some (.ref C)) ∧ RKs K mu H kvs vs := h2
             refine .ins (C := C) (dx := dx) (vs := vs.map (·.2)) hg ?_ fz ?_ (RDs.cutW (fun m a d q1 q2 => dH_at S k m a d q1 q2) _ _ ps h2.vals e1)
             · rw [← h2.keys, zip_back]; exact h1
             · rw [dWs_len _ _ e1, List.length_map, List.length_map])
          | exact h2.elim
      · rename_i kvs hd
        obtain ⟨ps, e1, rfl⟩ := Option.map_eq_some_iff.mp e
        obtain ⟨u, h1, h2⟩ := S.at hm hd
        cases u with
        | frz o u =>
          have h2 : RO K mg mu H (.dk kvs) u := h2
          cases u with
          | dK vs =>
            have h2 : RKs K mu H kvs vs := h2
            have hb : (n ≤ m) := Nat.le_of_not_lt h
            refine .dlk (vs := vs.map (·.2)) ⟨⟨o, ?_⟩, fun z => ?_⟩ ?_ (RDs.cutW (fun m a d q1 q2 => dH_at S k m a d q1 q2) _ _ ps h2.vals e1)
            · rw [← h2.keys, zip_back]; exact h1
            · have nd := S.nd
              rw [← List.take_append_drop n mu.l, List.nodup_append] at nd
              refine nd.2.2 a z a ?_ rfl
              refine List.mem_of_getElem? (i := m - n) ?_
              rw [List.getElem?_drop, show n + (m - n) = m by omega]; exact hm
            · rw [dWs_len _ _ e1, List.length_map, List.length_map]
          | _ => exact h2.elim
        | _ => exact h2.elim
      · rename_i kvs hd
        obtain ⟨ps, e1, rfl⟩ := Option.map_eq_some_iff.mp e
        obtain ⟨u, h1, h2⟩ := S.at hm hd
        cases u with
        | frz o u =>
          have h2 : RO K mg mu H (.dt kvs) u := h2
          cases u with
          | dT vs =>
            have h2 : RKs K mu H kvs vs := h2
            have hb : (n ≤ m) := Nat.le_of_not_lt h
            refine .dlt (vs := vs.map (·.2)) ⟨⟨o, ?_⟩, fun z => ?_⟩ ?_ (RDs.cutW (fun m a d q1 q2 => dH_at S k m a d q1 q2) _ _ ps h2.vals e1)
            · rw [← h2.keys, zip_back]; exact h1
            · have nd := S.nd
              rw [← List.take_append_drop n mu.l, List.nodup_append] at nd
              refine nd.2.2 a z a ?_ rfl
              refine List.mem_of_getElem? (i := m - n) ?_
              rw [List.getElem?_drop, show n + (m - n) = m by omega]; exact hm
            · rw [dWs_len _ _ e1, List.length_map, List.length_map]
          | _ => exact h2.elim
        | _ => exact h2.elim
      · cases e
theorem Sim.le (S : Sim K mg mu hs H) (S1 : Sim K mg mu1 h1 H1) (l : Lat mu H mu1 H1) : hs.length ≤ h1.length := by
  rw [← S.len, ← S1.len]; exact l.pre.length_le
theorem Sim.cut (S : Sim K mg mu hs H) (S1 : Sim K mg mu1 h1 H1) (l : Lat mu H mu1 H1) (c : Cls hs h1) : Sim K mg (mu1.cut hs.length) (h1.take hs.length) H1 := by
  have hle := S.le S1 l
  refine ⟨?_, ?_, ?_, ?_, ?_⟩
  · show (mu1.l.take hs.length).length = _
    rw [List.length_take, List.length_take, S1.len]
  · exact S1.nd.sublist (List.take_sublist ..)
  · rintro a m (z | z)
    · exact S1.dj a (List.mem_of_mem_take m) z
    · have nd := S1.nd
      rw [← List.take_append_drop hs.length mu1.l, List.nodup_append] at nd
      exact nd.2.2 a m a z rfl
  · rintro a (z | z)
    · exact S1.fzl a z
    · exact S1.there (List.mem_of_mem_drop z)
  · intro k o hk
    have hlt : k < hs.length := by
      have := (List.getElem?_eq_some_iff.mp hk).1
      rw [List.length_take] at this
      omega
    rw [List.getElem?_take_of_lt hlt] at hk
    obtain ⟨a, u, e1, e2, e3⟩ := S1.obj k o hk
    refine ⟨a, u, cut_get e1 hlt, e2, RO.cut0 e3 ?_⟩
    rcases c k hlt with q | ⟨o', q1, q2⟩
    · rw [hk] at q
      obtain ⟨b, w, _, _, f3⟩ := S.obj k o q.symm
      rw [← S.len]; exact RO.bel f3
    · rw [hk] at q1; cases q1; exact q2
theorem Lat.cut (S : Sim K mg mu hs H) (l : Lat mu H mu1 H1) : Lat mu H (mu1.cut hs.length) H1 := by
  refine ⟨?_, fun a z => .inl (l.sub a z), fun a o h m => ?_, l.frz⟩
  · obtain ⟨t, e⟩ := l.pre
    show mu.l <+: mu1.l.take hs.length
    rw [← e, ← S.len, List.take_left]
    exact List.prefix_rfl
  · obtain ⟨q1, q2, q3⟩ := l.ext a o h m
    exact ⟨q1, cut_not q2, fun z => z.elim q3 fun z => absurd (List.mem_of_mem_drop z) q2⟩
theorem RKs.zipW {ks : List Str} : ∀ {fs : List (Str × D)} {vs : List (Str × V)} {ds : List D}, RKs K mu H fs vs → RDs K (mu.cut n) H ds (vs.map (·.2)) → RKs K (mu.cut n) H ((fs.map (·.1)).zip ds) vs
  | _, _, _, .nil, _ => .nil
  | _, _, _, .cons r t, h => by
    cases h with
    | cons h1 h2 => exact .cons h1 (RKs.zipW (ks := ks) t h2)
/-- a result with what is new forgotten -/
theorem Gd.gc {Wd : WX} {σ : L2.St} {Q : V → Hp → Prop} {x : R D} (S : Sim K mg mu hs H) (g : Gd (relD K) K mg Wd σ mu H Q (gcR hs x)) : Gd (relD K) K mg Wd σ mu H Q x := by
  cases x with
  | bad => exact g
  | ok d h1 =>
    unfold gcR at g
    dsimp only at g
    split at g
    · rename_i d' hd
      split at g
      · rename_i hc
        intro mu1 H1 y l S1 r
        exact g _ _ y (Lat.cut S l) (S.cut S1 l hc) (RD.cutW (fun m a d q1 q2 => dH_at S1 50 m a d q1 q2) d y d' r hd)
      · exact g.elim
    · exact g.elim
  | exc c fs h1 =>
    unfold gcR at g
    dsimp only at g
    split at g
    · rename_i ds hd
      split at g
      · rename_i hc
        intro mu1 H1 cls dx l S1 ⟨C, r1, r2, r3⟩
        refine g _ _ cls dx (Lat.cut S l) (S.cut S1 l hc) ⟨C, r1, r2, ?_⟩
        rcases r3 with ⟨rfl, r3⟩ | ⟨a, vs, r3, r4, r5, r6⟩
        · exact .inl ⟨rfl, r3⟩
        · exact .inr ⟨a, vs, r3, r4, cut_not r5, RKs.zipW (ks := []) r6 (RDs.cutW (fun m a d q1 q2 => dH_at S1 50 m a d q1 q2) _ _ ds r6.vals hd)⟩
      · exact g.elim
    · exact g.elim
end
theorem ue_gc {X : Cx} {Wd : WX} {a : Expr} {f : FE} (h : UE X Wd a f) : UE X Wd a (eGc f) :=
  PE.imp h fun σ H Q ⟨e, mu, hs, S, E, g⟩ => ⟨e, mu, hs, S, E, Gd.gc S g⟩
theorem FnG.gc {P : Program} {w : World} {K : PySem.W.Frag} {mg : Str → Option Value} {base : Heap} {k n : Nat} {f : Addr} {fd : FuncData} {ps : List Str} {fn : List D → Hs → R D} (F : FnG P w K mg base k f fd ps (spU K mg n fn)) : FnG P w K mg base k f fd ps (spU K mg n (gcF fn)) :=
  ⟨fun vs H Q E ⟨mu, hs, ds, S, r, l, g⟩ => F.len vs H Q E ⟨mu, hs, ds, S, r, l, Gd.gc S g⟩, fun A outer s H args us vs Q E hr hg he hb hv ⟨mu, hs, ds, S, r, l, g⟩ => F.run A outer s H args us vs Q E hr hg he hb hv ⟨mu, hs, ds, S, r, l, Gd.gc S g⟩⟩
/-! # G10: plain laws of the functions of the layer -/
/-! ### heaps of ours -/
theorem get_set_eq {hs : Hs} {n : Nat} {o p : O} (h : hs[n]? = some p) : (hs.set n o)[n]? = some o := by
  rw [List.getElem?_set_self]; exact (List.getElem?_eq_some_iff.mp h).1
theorem get_set_ne {hs : Hs} {n m : Nat} {o : O} (h : n ≠ m) : (hs.set n o)[m]? = hs[m]? := List.getElem?_set_ne h
theorem get_app {hs : Hs} {n : Nat} {o p : O} (h : hs[n]? = some p) : (hs ++ [o])[n]? = some p := by
  rw [List.getElem?_append_left (List.getElem?_eq_some_iff.mp h).1]; exact h
theorem get_new {hs : Hs} {o : O} : (hs ++ [o])[hs.length]? = some o := by simp
theorem lt_of_get {hs : Hs} {n : Nat} {p : O} (h : hs[n]? = some p) : n < hs.length := (List.getElem?_eq_some_iff.mp h).1
/-- all but what is told stands -/
def Frm (S : Nat → Prop) (hs hs' : Hs) : Prop := hs.length ≤ hs'.length ∧ ∀ n, n < hs.length → ¬ S n → hs'[n]? = hs[n]?
theorem Frm.refl {S : Nat → Prop} {hs : Hs} : Frm S hs hs := ⟨Nat.le_refl _, fun _ _ _ => rfl⟩
theorem Frm.trans {S : Nat → Prop} {h0 h1 h2 : Hs} (a : Frm S h0 h1) (b : Frm S h1 h2) : Frm S h0 h2 :=
  ⟨Nat.le_trans a.1 b.1, fun n hn s => (b.2 n (Nat.lt_of_lt_of_le hn a.1) s).trans (a.2 n hn s)⟩
theorem Frm.get {S : Nat → Prop} {hs hs' : Hs} (f : Frm S hs hs') {n : Nat} {o : O} (h : hs[n]? = some o) (s : ¬ S n) : hs'[n]? = some o := (f.2 n (lt_of_get h) s).trans h
theorem Frm.app {S : Nat → Prop} {hs : Hs} {o : O} : Frm S hs (hs ++ [o]) := ⟨by simp, fun n hn _ => by rw [List.getElem?_append_left hn]⟩
theorem Frm.set {S : Nat → Prop} {hs : Hs} {n : Nat} {o : O} (s : S n) : Frm S hs (hs.set n o) := ⟨by simp, fun m _ ns => List.getElem?_set_ne (show n ≠ m from fun e => ns (e ▸ s))⟩
theorem Frm.mono {S T : Nat → Prop} {hs hs' : Hs} (f : Frm S hs hs') (h : ∀ n, n < hs.length → S n → T n) : Frm T hs hs' := ⟨f.1, fun n hn t => f.2 n hn fun s => t (h n hn s)⟩

/-! ### data -/
@[simp] theorem pd_non {hs : Hs} : pd hs .non = some .none := rfl
@[simp] theorem pd_bl {hs : Hs} {b : Bool} : pd hs (.bl b) = some (.bool b) := rfl
@[simp] theorem pd_int {hs : Hs} {i : Int} : pd hs (.int i) = some (.int i) := rfl
@[simp] theorem pd_str {hs : Hs} {s : Str} : pd hs (.str s) = some (.str s) := rfl
/-- signs that are signs -/
def okS (x : Str) : Bool := x.cps.all (· < 0x110000)
theorem gEqB_str {hs : Hs} {x y : Str} (hx : okS x = true) (hy : okS y = true) : gEqB hs (.str x) (.str y) = some (x == y) := rfl
theorem eq_str {hs : Hs} {x y : Str} : gEqB hs (.str x) (.str y) = some (x == y) := rfl

/-! ### loops -/
/-! # G11: what holds behind a function's run -/
abbrev XQ := Str → List (Str × D) → Hs → Prop
/-- r ends so -/
@[irreducible] def Wp {a : Type} (r : R a) (Q : a → Hs → Prop) (X : XQ) : Prop := match r with
  | .ok x h => Q x h
  | .exc c fs h => X c fs h
  | .bad => False
abbrev nX : XQ := fun _ _ _ => False
structure Po where
  nx : Ev → Hs → Prop
  rt : D → Hs → Prop := fun _ _ => False
  bk : Ev → Hs → Prop := fun _ _ => False
  ct : Ev → Hs → Prop := fun _ _ => False
  ex : Str → List (Str × D) → Ev → Hs → Prop := fun _ _ _ _ => False
/-- the same, but for what comes next; the same within a loop -/
@[reducible] def Po.wnx (P : Po) (N : Ev → Hs → Prop) : Po := { P with nx := N }
@[reducible] def Po.lp (P : Po) (I : Ev → Hs → Prop) : Po := { nx := I, ct := I, bk := P.nx, rt := P.rt, ex := P.ex }
@[irreducible] def Ws (r : SR) (P : Po) : Prop := match r with
  | .nx e h => P.nx e h
  | .ret d h => P.rt d h
  | .brk e h => P.bk e h
  | .cnt e h => P.ct e h
  | .exc c fs e h => P.ex c fs e h
  | .bad => False
section
variable {a b : Type} {Q : D → Hs → Prop} {X : XQ} {e : Ev} {hs : Hs}
theorem wp_bind {r : R a} {k : a → Hs → R b} {Q : b → Hs → Prop} (h : Wp r (fun x h => Wp (k x h) Q X) X) : Wp (r.bind k) Q X := by with_unfolding_all (cases r <;> exact h)
theorem wp_ok {x : a} {Q : a → Hs → Prop} (h : Q x hs) : Wp (.ok x hs) Q X := by with_unfolding_all exact h
theorem wp_some {x : a} {Q : a → Hs → Prop} {o : Option a} (e : o = some x) (h : Q x hs) : Wp (R.ofO o hs) Q X := by with_unfolding_all (subst e; exact h)
theorem wp_someP {x : a} {Q : a → Hs → Prop} {o : Option (a × Hs)} {hs' : Hs} (e : o = some (x, hs')) (h : Q x hs') : Wp (R.ofP o) Q X := by with_unfolding_all (subst e; exact h)
theorem wp_mono {r : R a} {Q Q' : a → Hs → Prop} {X X' : XQ} (h : Wp r Q X) (i : ∀ x h, Q x h → Q' x h) (j : ∀ c fs h, X c fs h → X' c fs h) : Wp r Q' X' := by
  with_unfolding_all
  cases r with
  | ok x h' => exact i _ _ h
  | exc c fs h' => exact j _ _ _ h
  | bad => exact h
theorem wp_of {r : R a} {Q : a → Hs → Prop} {x : a} {hs' : Hs} (e : r = .ok x hs') (h : Q x hs') : Wp r Q X := by with_unfolding_all (subst e; exact h)
theorem wp_get {r : R a} {Q : a → Hs → Prop} (h : Wp r Q nX) : ∃ x hs', r = .ok x hs' ∧ Q x hs' := by
  with_unfolding_all
  cases r with
  | ok x h' => exact ⟨x, h', rfl, h⟩
  | exc c fs h' => exact h.elim
  | bad => exact h.elim
theorem wp_name {i : Nat} {d : D} (q : e[i]? = some (some d)) (h : Q d hs) : Wp (eName i e hs) Q X := by with_unfolding_all (unfold eName; rw [q]; exact h)
theorem wp_c {d : D} (h : Q d hs) : Wp (eC d e hs) Q X := by with_unfolding_all exact h
theorem wp_anil {Q : List D → Hs → Prop} (h : Q [] hs) : Wp (aNil e hs) Q X := by with_unfolding_all exact h
theorem wp_acons {f : FE} {g : FA} {Q : List D → Hs → Prop} (h : Wp (f e hs) (fun d h => Wp (g e h) (fun ds h => Q (d :: ds) h) X) X) : Wp (aCons f g e hs) Q X := by
  with_unfolding_all
  refine wp_bind (wp_mono h (fun d h' q => wp_bind (wp_mono q (fun _ _ q => q) fun _ _ _ x => x)) fun _ _ _ x => x)
theorem wp_ev {f : FL} (h : Wp (f e hs) (fun ds h => Q (.lst ds) h) X) : Wp (eV f e hs) Q X := by with_unfolding_all exact wp_bind (wp_mono h (fun _ _ q => q) fun _ _ _ x => x)
theorem wp_em {f : FL} (h : Wp (f e hs) (fun ds h => Q (.ref h.length) (h ++ [.lst ds])) X) : Wp (eM f e hs) Q X := by with_unfolding_all exact wp_bind (wp_mono h (fun _ _ q => q) fun _ _ _ x => x)
theorem wp_tup {f : FA} (h : Wp (f e hs) (fun ds h => Q (.tup ds) h) X) : Wp (eTup f e hs) Q X := by with_unfolding_all exact wp_bind (wp_mono h (fun _ _ q => q) fun _ _ _ x => x)
theorem wp_bin {g : Hs → D → D → Option D} {f1 f2 : FE} (h : Wp (f1 e hs) (fun x h1 => Wp (f2 e h1) (fun y h2 => Wp (R.ofO (g h2 x y) h2) Q X) X) X) : Wp (eBin g f1 f2 e hs) Q X := by with_unfolding_all exact wp_bind (wp_mono h (fun _ _ q => wp_bind q) fun _ _ _ x => x)
theorem wp_un {g : Hs → D → Option D} {f1 : FE} (h : Wp (f1 e hs) (fun x h1 => Wp (R.ofO (g h1 x) h1) Q X) X) : Wp (eUn g f1 e hs) Q X := by with_unfolding_all exact wp_bind h
theorem wp_chain {g g' : Hs → D → D → Option D} {f1 f2 f3 : FE} (h : Wp (f1 e hs) (fun x h1 => Wp (f2 e h1) (fun y h2 => Wp (R.ofO (g h2 x y) h2) (fun k h3 => ∃ c, k = .bl c ∧ (c = true → Wp (f3 e h3) (fun z h4 => Wp (R.ofO (g' h4 y z) h4) Q X) X) ∧ (c = false → Q (.bl false) h3)) X) X) X) : Wp (eChain g g' f1 f2 f3 e hs) Q X := by
  with_unfolding_all
  refine wp_bind (wp_mono h (fun x h1 q => wp_bind (wp_mono q (fun y h2 q => wp_bind (wp_mono q (fun k h3 q => ?_) fun _ _ _ x => x)) fun _ _ _ x => x)) fun _ _ _ x => x)
  obtain ⟨c, rfl, q1, q2⟩ := q
  cases c with
  | true => exact wp_bind (q1 rfl)
  | false => exact q2 rfl
theorem wp_eb {f : FE} {Q : Bool → Hs → Prop} (h : Wp (f e hs) (fun d h => ∃ c, d = .bl c ∧ Q c h) X) : Wp (eB f e hs) Q X := by
  with_unfolding_all
  refine wp_bind (wp_mono h (fun d h' q => ?_) fun _ _ _ x => x)
  obtain ⟨c, rfl, q⟩ := q
  exact q
theorem wp_et {f : FE} {Q : Bool → Hs → Prop} (h : Wp (f e hs) (fun d h => Wp (R.ofO (tru h d) h) Q X) X) : Wp (eT f e hs) Q X := by with_unfolding_all exact wp_bind h
theorem wp_andF {f g : FT} {Q : Bool → Hs → Prop} (h : Wp (f e hs) (fun c h => (c = true → Wp (g e h) Q X) ∧ (c = false → Q false h)) X) : Wp (tAndF f g e hs) Q X := by
  with_unfolding_all
  refine wp_bind (wp_mono h (fun c h' q => ?_) fun _ _ _ x => x)
  cases c with
  | true => exact q.1 rfl
  | false => exact q.2 rfl
theorem wp_orF {f g : FT} {Q : Bool → Hs → Prop} (h : Wp (f e hs) (fun c h => (c = true → Q true h) ∧ (c = false → Wp (g e h) Q X)) X) : Wp (tOrF f g e hs) Q X := by
  with_unfolding_all
  refine wp_bind (wp_mono h (fun c h' q => ?_) fun _ _ _ x => x)
  cases c with
  | true => exact q.1 rfl
  | false => exact q.2 rfl
theorem wp_notF {f : FT} {Q : Bool → Hs → Prop} (h : Wp (f e hs) (fun c h => Q (!c) h) X) : Wp (tNotF f e hs) Q X := by with_unfolding_all exact wp_bind (wp_mono h (fun _ _ q => q) fun _ _ _ x => x)
theorem wp_yes {Q : Bool → Hs → Prop} (h : Q true hs) : Wp (tYesF e hs) Q X := by with_unfolding_all exact h
theorem wp_and {f g : FE} (h : Wp (f e hs) (fun d h => ∃ c, d = .bl c ∧ (c = true → Wp (g e h) Q X) ∧ (c = false → Q (.bl false) h)) X) : Wp (eAnd f g e hs) Q X := by
  with_unfolding_all
  refine wp_bind (wp_mono h (fun d h' q => ?_) fun _ _ _ x => x)
  obtain ⟨c, rfl, q1, q2⟩ := q
  cases c with
  | true => exact q1 rfl
  | false => exact q2 rfl
theorem wp_or {f g : FE} (h : Wp (f e hs) (fun d h => ∃ c, d = .bl c ∧ (c = true → Q (.bl true) h) ∧ (c = false → Wp (g e h) Q X)) X) : Wp (eOr f g e hs) Q X := by
  with_unfolding_all
  refine wp_bind (wp_mono h (fun d h' q => ?_) fun _ _ _ x => x)
  obtain ⟨c, rfl, q1, q2⟩ := q
  cases c with
  | true => exact q1 rfl
  | false => exact q2 rfl
theorem wp_not {f : FE} (h : Wp (f e hs) (fun d h => ∃ c, d = .bl c ∧ Q (.bl (!c)) h) X) : Wp (eNot f e hs) Q X := by
  with_unfolding_all
  refine wp_bind (wp_mono h (fun d h' q => ?_) fun _ _ _ x => x)
  obtain ⟨c, rfl, q⟩ := q
  exact q
theorem wp_if {t : FT} {f g : FE} (h : Wp (t e hs) (fun c h => (c = true → Wp (f e h) Q X) ∧ (c = false → Wp (g e h) Q X)) X) : Wp (eIf t f g e hs) Q X := by
  with_unfolding_all
  refine wp_bind (wp_mono h (fun c h' q => ?_) fun _ _ _ x => x)
  cases c with
  | true => exact q.1 rfl
  | false => exact q.2 rfl
theorem wp_onone {Q : Option Int → Hs → Prop} (h : Q none hs) : Wp (oNone e hs) Q X := by with_unfolding_all exact h
theorem wp_osome {f : FE} {Q : Option Int → Hs → Prop} (h : Wp (f e hs) (fun d h => ∃ i, d = .int i ∧ Q (some i) h) X) : Wp (oSome f e hs) Q X := by
  with_unfolding_all
  refine wp_bind (wp_mono h (fun d h' q => ?_) fun _ _ _ x => x)
  obtain ⟨i, rfl, q⟩ := q
  exact q
theorem wp_sl {f : FE} {lo hi : FO} (h : Wp (f e hs) (fun d h => Wp (lo e h) (fun l h => Wp (hi e h) (fun u h => Wp (R.ofO (gSl h d l u) h) Q X) X) X) X) : Wp (eSl f lo hi e hs) Q X := by with_unfolding_all exact wp_bind (wp_mono h (fun _ _ q => wp_bind (wp_mono q (fun _ _ q => wp_bind q) fun _ _ _ x => x)) fun _ _ _ x => x)
theorem wp_rev {f : FE} {Q : List D → Hs → Prop} (h : Wp (f e hs) (fun d h => Wp (R.ofO ((rdOf h d).map List.reverse) h) Q X) X) : Wp (lRev f e hs) Q X := by with_unfolding_all exact wp_bind h
theorem wp_list {f : FE} {Q : List D → Hs → Prop} (h : Wp (f e hs) (fun d h => Wp (R.ofO (seqOf h d) h) Q X) X) : Wp (lList f e hs) Q X := by with_unfolding_all exact wp_bind h
theorem wp_call {g : Hs → List D → Option D} {f : FA} (h : Wp (f e hs) (fun ds h => Wp (R.ofO (g h ds) h) Q X) X) : Wp (eCall g f e hs) Q X := by with_unfolding_all exact wp_bind h
theorem wp_mt {c : Hs → D → Bool} {g : Hs → D → List D → Option (D × Hs)} {f1 : FE} {f : FA} (h : Wp (f1 e hs) (fun d h => c h d = true ∧ Wp (f e h) (fun ds h => Wp (R.ofP (g h d ds)) Q X) X) X) : Wp (eMt c g f1 f e hs) Q X := by
  with_unfolding_all
  refine wp_bind (wp_mono h (fun d h' q => ?_) fun _ _ _ x => x)
  rw [if_pos q.1]
  exact wp_bind q.2
theorem wp_fn {fn : List D → Hs → R D} {is : List Nat} {dds : List D} {fa : FA} (h : Wp (fa e hs) (fun ds h => Wp (fn (selL is ds [] dds) h) Q X) X) : Wp (eFn fn is dds fa e hs) Q X := by with_unfolding_all exact wp_bind h
theorem wp_fnK {fn : List D → Hs → R D} {is : List Nat} {dds : List D} {fa fk : FA} (h : Wp (fa e hs) (fun ds h => Wp (fk e h) (fun zs h => Wp (fn (selL is ds zs dds) h) Q X) X) X) : Wp (eFnK fn is dds fa fk e hs) Q X := by with_unfolding_all exact wp_bind (wp_mono h (fun _ _ q => wp_bind q) fun _ _ _ x => x)
/-- a body -/
theorem wp_body {N : Nat} {b : FS} {ds : List D} (h : Ws (b (ds.map some ++ List.replicate (N - ds.length) none) hs) { nx := fun _ h => Q .non h, rt := Q, ex := fun c fs _ h => X c fs h }) : Wp (fnBody N b ds hs) Q X := by
  with_unfolding_all
  unfold fnBody
  cases q : b (ds.map some ++ List.replicate (N - ds.length) none) hs <;> rw [q] at h <;> exact h

theorem wp_bodyE {N : Nat} {b : FS} {ds : List D} (e0 : Ev) (he : ds.map some ++ List.replicate (N - ds.length) none = e0) (h : Ws (b e0 hs) { nx := fun _ h => Q .non h, rt := Q, ex := fun c fs _ h => X c fs h }) : Wp (fnBody N b ds hs) Q X := by with_unfolding_all (subst he; exact wp_body h)
/-! ### statements -/
variable {P : Po}
theorem ws_skip (h : P.nx e hs) : Ws (sSkip e hs) P := by with_unfolding_all exact h
theorem ws_seq {f g : FS} (h : Ws (f e hs) (P.wnx fun e' h' => Ws (g e' h') P)) : Ws (sSeq f g e hs) P := by
  with_unfolding_all
  unfold sSeq
  cases q : f e hs <;> rw [q] at h <;> exact h
theorem ws_bind {f : Ev → Hs → R a} {k : a → FS} (h : Wp (f e hs) (fun x h => Ws (k x e h) P) (fun c fs h => P.ex c fs e h)) : Ws (sBind f k e hs) P := by
  with_unfolding_all
  unfold sBind
  cases q : f e hs <;> rw [q] at h <;> exact h
theorem ws_drop {f : FE} (h : Wp (f e hs) (fun _ h => P.nx e h) (fun c fs h => P.ex c fs e h)) : Ws (sDrop f e hs) P := by with_unfolding_all exact ws_bind h
theorem ws_ret {f : FE} (h : Wp (f e hs) (fun d h => P.rt d h) (fun c fs h => P.ex c fs e h)) : Ws (sRet f e hs) P := by with_unfolding_all exact ws_bind h
theorem ws_retN (h : P.rt .non hs) : Ws (sRetN e hs) P := by with_unfolding_all exact h
theorem ws_set {i : Nat} {f : FE} (h : Wp (f e hs) (fun d h => P.nx (e.set i (some d)) h) (fun c fs h => P.ex c fs e h)) : Ws (sSet i f e hs) P := by with_unfolding_all exact ws_bind h
theorem ws_setC {i : Nat} {f : FL} (h : Wp (f e hs) (fun ds h => P.nx (e.set i (some (.lst ds))) h) (fun c fs h => P.ex c fs e h)) : Ws (sSetC i false f e hs) P := by with_unfolding_all exact ws_set (wp_ev h)
theorem ws_setCM {i : Nat} {f : FL} (h : Wp (f e hs) (fun ds h => P.nx (e.set i (some (.ref h.length))) (h ++ [.lst ds])) (fun c fs h => P.ex c fs e h)) : Ws (sSetC i true f e hs) P := by with_unfolding_all exact ws_set (wp_em h)
theorem ws_if {t : FT} {f g : FS} (h : Wp (t e hs) (fun c h => (c = true → Ws (f e h) P) ∧ (c = false → Ws (g e h) P)) (fun c fs h => P.ex c fs e h)) : Ws (sIf t f g e hs) P := by
  with_unfolding_all
  refine ws_bind (wp_mono h (fun c h' q => ?_) fun _ _ _ x => x)
  cases c with
  | true => exact q.1 rfl
  | false => exact q.2 rfl
theorem ws_asg {g : FG} {f : FE} (h : Wp (f e hs) (fun d h => ∃ e', g d e = some e' ∧ P.nx e' h) (fun c fs h => P.ex c fs e h)) : Ws (sAsg g f e hs) P := by
  with_unfolding_all
  refine ws_bind (wp_mono h (fun d h' q => ?_) fun _ _ _ x => x)
  obtain ⟨e', h1, h2⟩ := q
  rw [h1]; exact h2
theorem ws_par {i j : Nat} {f : FA} (h : Wp (f e hs) (fun ds h => ∃ d1 d2, ds = [d1, d2] ∧ P.nx ((e.set i (some d1)).set j (some d2)) h) (fun c fs h => P.ex c fs e h)) : Ws (sPar i j f e hs) P := by
  with_unfolding_all
  refine ws_bind (wp_mono h (fun d h' q => ?_) fun _ _ _ x => x)
  obtain ⟨d1, d2, rfl, h2⟩ := q
  exact h2
theorem ws_sub {g : Hs → D → D → D → Option Hs} {fv fo fi : FE} (h : Wp (fv e hs) (fun v h => Wp (fo e h) (fun o h => Wp (fi e h) (fun i h => ∃ h', g h o i v = some h' ∧ P.nx e h') (fun c fs h => P.ex c fs e h)) (fun c fs h => P.ex c fs e h)) (fun c fs h => P.ex c fs e h)) : Ws (sSub g fv fo fi e hs) P := by
  with_unfolding_all
  refine ws_bind (wp_mono h (fun v h' q => ws_bind (wp_mono q (fun o h' q => ws_bind (wp_mono q (fun i h' q => ?_) fun _ _ _ x => x)) fun _ _ _ x => x)) fun _ _ _ x => x)
  obtain ⟨h2, h3, h4⟩ := q
  rw [h3]; exact h4
/-- loops -/
theorem ws_forF {nx : Nx} {g : FG} {body : FS} {n : Nat} (I : Nat → Ev → Hs → Prop)
    (step : ∀ i e hs, i < n → I i e hs → ∃ d e', nx hs i = some (some d) ∧ g d e = some e' ∧ Ws (body e' hs) (P.lp (I (i + 1))))
    (stop : ∀ e hs, I n e hs → nx hs n = some none ∧ P.nx e hs) : ∀ (k i : Nat) (e : Ev) (hs : Hs), n - i ≤ k → i ≤ n → I i e hs → Ws (forF nx g body k i e hs) P
  | k, i, e, hs, hk, hi, h => by
    with_unfolding_all
    by_cases hlt : i < n
    · obtain ⟨d, e', h1, h2, h3⟩ := step i e hs hlt h
      cases k with
      | zero => omega
      | succ k =>
        unfold forF
        rw [h1]
        dsimp only
        rw [h2]
        dsimp only
        cases q : body e' hs with
        | nx e2 hs2 => rw [q] at h3; exact ws_forF I step stop k (i + 1) e2 hs2 (by omega) (by omega) h3
        | cnt e2 hs2 => rw [q] at h3; exact ws_forF I step stop k (i + 1) e2 hs2 (by omega) (by omega) h3
        | brk e2 hs2 => rw [q] at h3; exact h3
        | ret d hs2 => rw [q] at h3; exact h3
        | exc c fs e2 hs2 => rw [q] at h3; exact h3
        | bad => rw [q] at h3; exact h3
    · have e1 : i = n := by omega
      subst e1
      obtain ⟨s1, s2⟩ := stop e hs h
      cases k <;> (unfold forF; rw [s1]; exact s2)
theorem ws_for {f : FI} {g : FG} {body : FS} (h : Wp (f e hs) (fun nx h => ∃ (n : Nat) (I : Nat → Ev → Hs → Prop), n ≤ 100000 ∧ I 0 e h ∧
    (∀ i e hs, i < n → I i e hs → ∃ d e', nx hs i = some (some d) ∧ g d e = some e' ∧ Ws (body e' hs) (P.lp (I (i + 1)))) ∧
    (∀ e hs, I n e hs → nx hs n = some none ∧ P.nx e hs)) (fun c fs h => P.ex c fs e h)) : Ws (sFor f g body e hs) P := by
  with_unfolding_all
  refine ws_bind (wp_mono h (fun nx h' q => ?_) fun _ _ _ x => x)
  obtain ⟨n, I, hn, h0, hs, hd⟩ := q
  exact ws_forF I hs hd fuel 0 e h' (by unfold fuel; omega) (Nat.zero_le _) h0
/-- a comprehension -/
theorem wp_compF {nx : Nx} {g : FG} {t : FT} {el : FE} {e : Ev} {n : Nat} {Q : List D → Hs → Prop} (I : Nat → List D → Hs → Prop)
    (step : ∀ i acc hs, i < n → I i acc hs → ∃ d e', nx hs i = some (some d) ∧ g d e = some e' ∧ Wp (t e' hs) (fun c h => (c = true → acc.length < sizeLine ∧ Wp (el e' h) (fun y h => I (i + 1) (acc ++ [y]) h) nX) ∧ (c = false → I (i + 1) acc h)) nX)
    (stop : ∀ acc hs, I n acc hs → nx hs n = some none ∧ Q acc hs) : ∀ (k i : Nat) (acc : List D) (hs : Hs), n - i ≤ k → i ≤ n → I i acc hs → Wp (compF nx g t el e k i acc hs) Q X
  | k, i, acc, hs, hk, hi, h => by
    with_unfolding_all
    by_cases hlt : i < n
    · obtain ⟨d, e', h1, h2, h3⟩ := step i acc hs hlt h
      cases k with
      | zero => omega
      | succ k =>
        unfold compF
        rw [h1]
        dsimp only
        rw [h2]
        dsimp only
        cases q : t e' hs with
        | bad => rw [q] at h3; exact h3
        | exc c fs h' => rw [q] at h3; exact h3.elim
        | ok c hs2 =>
          rw [q] at h3
          dsimp only
          cases c with
          | false => rw [if_neg Bool.false_ne_true]; exact wp_compF I step stop k (i + 1) acc hs2 (by omega) (by omega) (h3.2 rfl)
          | true =>
            rw [if_pos rfl]
            obtain ⟨hz, h4⟩ := h3.1 rfl
            cases q2 : el e' hs2 with
            | bad => rw [q2] at h4; exact h4
            | exc c fs h' => rw [q2] at h4; exact h4.elim
            | ok y hs3 =>
              rw [q2] at h4
              dsimp only
              rw [if_pos hz]
              exact wp_compF I step stop k (i + 1) (acc ++ [y]) hs3 (by omega) (by omega) h4
    · have e1 : i = n := by omega
      subst e1
      obtain ⟨s1, s2⟩ := stop acc hs h
      cases k <;> (unfold compF; rw [s1]; exact s2)
theorem wp_comp {f : FI} {g : FG} {t : FT} {el : FE} {vs : List Nat} {Q : List D → Hs → Prop} (h : Wp (f e hs) (fun nx h => ∃ (n : Nat) (I : Nat → List D → Hs → Prop), n ≤ 100000 ∧ I 0 [] h ∧
    (∀ i acc hs, i < n → I i acc hs → ∃ d e', nx hs i = some (some d) ∧ g d (wipeE e vs) = some e' ∧ Wp (t e' hs) (fun c h => (c = true → acc.length < sizeLine ∧ Wp (el e' h) (fun y h => I (i + 1) (acc ++ [y]) h) nX) ∧ (c = false → I (i + 1) acc h)) nX) ∧
    (∀ acc hs, I n acc hs → nx hs n = some none ∧ Q acc hs)) X) : Wp (lComp f g t el vs e hs) Q X := by
  with_unfolding_all
  refine wp_bind (wp_mono h (fun nx h' q => ?_) fun _ _ _ x => x)
  obtain ⟨n, I, hn, h0, hs, hd⟩ := q
  exact wp_compF I hs hd fuel 0 [] h' (by unfold fuel; omega) (Nat.zero_le _) h0
/-- a comprehension that maps, the heap as it is -/
theorem wp_cmap {f : FI} {g : FG} {el : FE} {vs : List Nat} {Q : List D → Hs → Prop} (F : D → D) (h : Wp (f e hs) (fun nx h => ∃ ds, nx = nxL ds ∧ ds.length ≤ 100000 ∧ (∀ d ∈ ds, ∃ e', g d (wipeE e vs) = some e' ∧ Wp (el e' h) (fun y h' => y = F d ∧ h' = h) nX) ∧ Q (ds.map F) h) X) : Wp (lComp f g tYesF el vs e hs) Q X := by
  with_unfolding_all
  refine wp_comp (wp_mono h (fun nx h' q => ?_) fun _ _ _ x => x)
  obtain ⟨ds, rfl, hl, hd, q⟩ := q
  refine ⟨ds.length, fun i acc h => h = h' ∧ acc = (ds.take i).map F, hl, ⟨rfl, rfl⟩, fun i acc h hi ⟨e1, e2⟩ => ?_, fun acc h ⟨e1, e2⟩ => ?_⟩
  · subst e1 e2
    obtain ⟨e', h1, h2⟩ := hd ds[i] (List.getElem_mem hi)
    refine ⟨ds[i], e', by unfold nxL; rw [List.getElem?_eq_getElem hi], h1, wp_yes ⟨fun _ => ⟨?_, wp_mono h2 (fun y h3 ⟨e1, e2⟩ => ⟨e2, ?_⟩) fun _ _ _ x => x⟩, fun z => by cases z⟩⟩
    · rw [List.length_map, List.length_take]
      have : sizeLine = 16777216 := sizeLine_eq
      omega
    · rw [e1, List.take_add_one, List.getElem?_eq_getElem hi, List.map_append]
      rfl
  · subst e1 e2
    exact ⟨by unfold nxL; rw [List.getElem?_eq_none (Nat.le_refl _)], by rw [List.take_length]; exact q⟩
/-- what is walked -/
theorem wp_r1 {f : FA} {Q : Nx → Hs → Prop} (h : Wp (f e hs) (fun ds h => ∃ j, ds = [.int j] ∧ okR j = true ∧ Q (nxN 0 j.toNat) h) X) : Wp (iR1 f e hs) Q X := by
  with_unfolding_all
  refine wp_bind (wp_mono h (fun d h' q => ?_) fun _ _ _ x => x)
  obtain ⟨j, rfl, h1, h2⟩ := q
  dsimp only
  rw [if_pos h1]; exact h2
theorem wp_r2 {f : FA} {Q : Nx → Hs → Prop} (h : Wp (f e hs) (fun ds h => ∃ i j, ds = [.int i, .int j] ∧ okR i = true ∧ okR j = true ∧ Q (nxN i (j - i).toNat) h) X) : Wp (iR2 f e hs) Q X := by
  with_unfolding_all
  refine wp_bind (wp_mono h (fun d h' q => ?_) fun _ _ _ x => x)
  obtain ⟨i, j, rfl, h1, h2, h3⟩ := q
  dsimp only
  rw [if_pos (by rw [h1, h2]; rfl)]; exact h3
def itOf (h : Hs) (d : D) : Option Nx := match d with
  | .tup ds => some (nxL ds)
  | .ctp ds => some (nxL ds)
  | .lst ds => some (nxL ds)
  | .scr ds => some (nxL ds)
  | .ref n => (match h[n]? with | some (.lst _) => some (nxR n) | _ => none)
  | .str x => some (nxL (signs x))
  | _ => none
theorem wp_any {f : FE} {Q : Nx → Hs → Prop} (h : Wp (f e hs) (fun d h => ∃ nx, itOf h d = some nx ∧ Q nx h) X) : Wp (iAny f e hs) Q X := by
  with_unfolding_all
  unfold iAny
  cases q : f e hs with
  | bad => rw [q] at h; exact h
  | exc c fs h' => rw [q] at h; exact h
  | ok d h' =>
    rw [q] at h; unfold Wp at h
    obtain ⟨nx, h1, h2⟩ := h
    unfold itOf at h1
    cases d with
    | ref n =>
      dsimp only at h1 ⊢
      split at h1
      · rename_i ds hd; cases h1; first | exact h2 | (rw [hd]; exact h2)
      · cases h1
    | _ => first | (cases h1; exact h2) | cases h1
end

/-! ### what is new forgotten -/
theorem wp_gcR {hs : Hs} {r : R D} {Q : D → Hs → Prop} {X : XQ} (h : Wp r (fun d h1 => ∃ d', dW (dH h1 hs.length 50) d = some d' ∧ Cls hs h1 ∧ Q d' (h1.take hs.length))
    (fun c fs h1 => ∃ ds, dWs (dH h1 hs.length 50) (fs.map (·.2)) = some ds ∧ Cls hs h1 ∧ X c ((fs.map (·.1)).zip ds) (h1.take hs.length))) : Wp (gcR hs r) Q X := by
  with_unfolding_all
  unfold Wp at h
  cases r with
  | bad => exact h.elim
  | ok d h1 =>
    obtain ⟨d', e1, e2, q⟩ := h
    unfold gcR
    dsimp only
    rw [e1]
    dsimp only
    rw [if_pos e2]
    exact q
  | exc c fs h1 =>
    obtain ⟨d', e1, e2, q⟩ := h
    unfold gcR
    dsimp only
    rw [e1]
    dsimp only
    rw [if_pos e2]
    exact q
theorem wp_gcF {fn : List D → Hs → R D} {ds : List D} {hs : Hs} {Q : D → Hs → Prop} {X : XQ} (h : Wp (fn ds hs) (fun d h1 => ∃ d', dW (dH h1 hs.length 50) d = some d' ∧ Cls hs h1 ∧ Q d' (h1.take hs.length))
    (fun c fs h1 => ∃ ds, dWs (dH h1 hs.length 50) (fs.map (·.2)) = some ds ∧ Cls hs h1 ∧ X c ((fs.map (·.1)).zip ds) (h1.take hs.length))) : Wp (gcF fn ds hs) Q X := wp_gcR h
mutual
/-- no numbers in it -/
def val : D → Bool
  | .ref _ => false
  | .tup ds => vals ds
  | .lst ds => vals ds
  | .scr ds => vals ds
  | .ctp ds => vals ds
  | .dct _ ds => vals ds
  | .dtp _ ds => vals ds
  | .dlk _ ds => vals ds
  | .dlt _ ds => vals ds
  | .ins _ _ ds => vals ds
  | .exn _ _ ds => vals ds
  | _ => true
def vals : List D → Bool
  | [] => true
  | d :: ds => val d && vals ds
end
mutual
theorem dW_val {r : Nat → Option D} : ∀ {d : D}, val d = true → dW r d = some d
  | .non, _ => rfl
  | .bl _, _ => rfl
  | .int _, _ => rfl
  | .str _, _ => rfl
  | .ty _, _ => rfl
  | .glb _, _ => rfl
  | .ref _, h => nomatch h
  | .tup ds, h => by show (dWs r ds).map D.tup = _; rw [dWs_val (ds := ds) h]; rfl
  | .lst ds, h => by show (dWs r ds).map D.lst = _; rw [dWs_val (ds := ds) h]; rfl
  | .scr ds, h => by show (dWs r ds).map D.scr = _; rw [dWs_val (ds := ds) h]; rfl
  | .ctp ds, h => by show (dWs r ds).map D.ctp = _; rw [dWs_val (ds := ds) h]; rfl
  | .dct ks ds, h => by show (dWs r ds).map (D.dct ks) = _; rw [dWs_val (ds := ds) h]; rfl
  | .dtp ks ds, h => by show (dWs r ds).map (D.dtp ks) = _; rw [dWs_val (ds := ds) h]; rfl
  | .dlk ks ds, h => by show (dWs r ds).map (D.dlk ks) = _; rw [dWs_val (ds := ds) h]; rfl
  | .dlt ks ds, h => by show (dWs r ds).map (D.dlt ks) = _; rw [dWs_val (ds := ds) h]; rfl
  | .ins c ks ds, h => by show (dWs r ds).map (D.ins c ks) = _; rw [dWs_val (ds := ds) h]; rfl
  | .exn c ks ds, h => by show (dWs r ds).map (D.exn c ks) = _; rw [dWs_val (ds := ds) h]; rfl
theorem dWs_val {r : Nat → Option D} : ∀ {ds : List D}, vals ds = true → dWs r ds = some ds
  | [], _ => rfl
  | d :: ds, h => by
    have h := (Bool.and_eq_true _ _).mp (show (val d && vals ds) = true from h)
    show (match dW r d with | some p => (match dWs r ds with | some ps => some (p :: ps) | none => none) | none => none) = _
    rw [dW_val h.1, dWs_val h.2]
end
theorem vals_all : ∀ {ds : List D}, (∀ x ∈ ds, val x = true) → vals ds = true
  | [], _ => rfl
  | d :: ds, h => (Bool.and_eq_true _ _).mpr ⟨h d List.mem_cons_self, vals_all fun x hx => h x (List.mem_cons_of_mem _ hx)⟩
theorem dH_ins {hs : Hs} {n m k : Nat} {c : Str} {kvs : List (Str × D)} (h : hs[m]? = some (.ins c kvs)) (l : n ≤ m) (v : vals (kvs.map (·.2)) = true) : dH hs n (k + 1) m = some (.ins c (kvs.map (·.1)) (kvs.map (·.2))) := by
  unfold dH
  rw [if_neg (by omega), h]
  show (dWs _ (kvs.map (·.2))).map (D.ins c _) = _
  rw [dWs_val v]; rfl
/-! # G12: the deck that all laws draw from -/
theorem ix_ref {h : Hs} {n : Nat} {ds : List D} {i : Int} {d : D} (e : h[n]? = some (.lst ds)) (q : atI ds i = some d) : gIx h (.ref n) (.int i) = some d := by
  unfold gIx
  show (match seqOf h (.ref n) with | some ds => atI ds i | none => none) = some d
  have : seqOf h (.ref n) = some ds := by unfold seqOf rdOf lstOf; dsimp only; rw [e]
  rw [this]; exact q
theorem ix_lst {h : Hs} {ds : List D} {i : Int} {d : D} (q : atI ds i = some d) : gIx h (.lst ds) (.int i) = some d := q
theorem ix_tup {h : Hs} {ds : List D} {i : Int} {d : D} (q : atI ds i = some d) : gIx h (.tup ds) (.int i) = some d := q
theorem set_ref {h : Hs} {n : Nat} {ds : List D} {i : Int} {j : Nat} {v : D} (e : h[n]? = some (.lst ds)) (q : ixN ds.length i = some j) : mSetL h (.ref n) (.int i) v = some (h.set n (.lst (ds.set j v))) := by
  unfold mSetL refOf
  dsimp only
  rw [e]
  dsimp only
  rw [q]
theorem pop_ref {h : Hs} {n : Nat} {ds : List D} {d : D} (e : h[n]? = some (.lst ds)) (q : ds[ds.length - 1]? = some d) : mPop h (.ref n) [] = some (d, h.set n (.lst ds.dropLast)) := by
  unfold mPop refOf
  dsimp only
  rw [e]
  dsimp only
  rw [q]
theorem app_ref {h : Hs} {n : Nat} {ds : List D} {d : D} (e : h[n]? = some (.lst ds)) (q : ds.length < sizeLine) : mAppend h (.ref n) [d] = some (.non, h.set n (.lst (ds ++ [d]))) := by
  unfold mAppend refOf
  dsimp only
  rw [e]
  dsimp only
  rw [if_pos q]
theorem isL_ref {h : Hs} {n : Nat} {ds : List D} (e : h[n]? = some (.lst ds)) : isL h (.ref n) = true := by
  unfold isL lstOf
  dsimp only
  rw [e]; rfl
theorem mod_int {h : Hs} {i j : Int} (q : 0 < j) : gMod h (.int i) (.int j) = some (.int (i % j)) := by unfold gMod; exact if_pos q
theorem div_int {h : Hs} {i j : Int} (q : 0 < j) (q2 : j < 1073741824) : gDiv h (.int i) (.int j) = some (.int (i / j)) := by unfold gDiv; exact if_pos ⟨q, q2⟩
theorem mul_int {h : Hs} {i j : Int} (q : (small64 i || small64 j) = true) : gMul h (.int i) (.int j) = some (.int (i * j)) := by unfold gMul; exact if_pos q
theorem small_of {i : Int} (a : 0 ≤ i) (b : i < 4294967296) : small64 i = true := by
  unfold small64
  rw [decide_eq_true (by omega), decide_eq_true (by omega)]; rfl
theorem pow18 {h : Hs} : gPow h (.int 10) (.int 18) = some (.int 1000000000000000000) := rfl
theorem pow6 {h : Hs} : gPow h (.int 10) (.int 6) = some (.int 1000000) := rfl

end G
section
open PySem PySem.Spec L2 G
local macro_rules | `(tactic| fail "s1") => `(tactic| first
  | ((with_reducible apply wp_name); (case q => rfl))
  | with_reducible (first | refine wp_c ?_ | refine wp_bin ?_ | refine wp_acons ?_ | refine wp_anil ?_ | refine wp_call ?_ | refine wp_fn ?_ | refine wp_fnK ?_ | refine wp_ev ?_ | refine wp_em ?_ | refine wp_tup ?_ | refine wp_eb ?_ | refine wp_et ?_ | refine wp_un ?_ | refine wp_chain ?_ | refine wp_and ?_ | refine wp_or ?_ | refine wp_not ?_ | refine wp_andF ?_ | refine wp_orF ?_ | refine wp_notF ?_ | refine wp_yes ?_ | refine wp_if ?_ | refine wp_sl ?_ | refine wp_onone ?_ | refine wp_osome ?_ | refine wp_rev ?_ | refine wp_list ?_ | refine wp_mt ?_ | refine wp_any ?_ | refine wp_r1 ?_ | refine wp_r2 ?_ | refine ws_seq ?_ | refine ws_set ?_ | refine ws_setC ?_ | refine ws_setCM ?_ | refine ws_if ?_ | refine ws_ret ?_ | refine ws_retN ?_ | refine ws_drop ?_ | refine ws_skip ?_ | refine ws_asg ?_ | refine ws_par ?_ | refine ws_sub ?_ | refine wp_body ?_))
local macro_rules | `(tactic| fail "s") => `(tactic| repeat (fail "s1"))
namespace G
open PySem PySem.Spec PyProof.Rows L2
/-- the deck at a, its cells at b -/
structure Deck (a b : Nat) (hs : Hs) : Prop where
  ne : a ≠ b
  at_ : ∃ s c : Int, hs[a]? = some (.lst [.ref b, .int s, .int c])
  cells : ∃ ns : List Int, ns.length ≤ 100 ∧ hs[b]? = some (.lst (ns.map .int))
def Two (a b : Nat) : Nat → Prop := fun n => n = a ∨ n = b
theorem Deck.frm {a b : Nat} {hs hs' : Hs} {S : Nat → Prop} (h : Deck a b hs) (f : Frm S hs hs') (ha : ¬ S a) (hb : ¬ S b) : Deck a b hs' := by
  obtain ⟨ne, ⟨s, c, h1⟩, ⟨ns, hl, h2⟩⟩ := h
  exact ⟨ne, ⟨s, c, f.get h1 ha⟩, ⟨ns, hl, f.get h2 hb⟩⟩
theorem Deck.app {a b : Nat} {hs : Hs} {o : O} (h : Deck a b hs) : Deck a b (hs ++ [o]) := by
  obtain ⟨ne, ⟨s, c, h1⟩, ⟨ns, hl, h2⟩⟩ := h
  exact ⟨ne, ⟨s, c, get_app h1⟩, ⟨ns, hl, get_app h2⟩⟩
theorem Deck.lt {a b : Nat} {hs : Hs} (h : Deck a b hs) : a < hs.length ∧ b < hs.length := by
  obtain ⟨ne, ⟨s, c, h1⟩, ⟨ns, hl, h2⟩⟩ := h
  exact ⟨lt_of_get h1, lt_of_get h2⟩
theorem pdWs_ints {r : Nat → Option PyData} : ∀ ns : List Int, pdWs r (ns.map D.int) = some (ns.map PyData.int)
  | [] => rfl
  | n :: ns => by
    show (match pdW r (.int n) with | some p => (match pdWs r (ns.map D.int) with | some ps => some (p :: ps) | none => none) | none => none) = _
    rw [pdWs_ints ns]; rfl
theorem shaped_ints (ns : List Int) : SeqAt.shaped (.list (ns.map PyData.int)) = true := by
  unfold SeqAt.shaped
  have h1 : ∀ ns : List Int, PyData.canLayAll0 (ns.map PyData.int) = true := fun ns => by
    induction ns with
    | nil => rfl
    | cons n ns ih => show (PyData.canLay0 (.int n) && PyData.canLayAll0 (ns.map PyData.int)) = true; rw [ih]; rfl
  have h2 : ∀ ns : List Int, PyData.depthAll (ns.map PyData.int) = 0 := fun ns => by
    induction ns with
    | nil => rfl
    | cons n ns ih => show max (PyData.depth (.int n)) (PyData.depthAll (ns.map PyData.int)) = 0; rw [ih]; rfl
  show (PyData.canLayAll0 (ns.map PyData.int) && decide (PyData.depthAll (ns.map PyData.int) + 1 ≤ 64)) = true
  rw [h1, h2]; rfl
theorem gEqB_cells {hs : Hs} {b : Nat} {ns : List Int} (h : hs[b]? = some (.lst (ns.map .int))) : gEqB hs (.ref b) (.lst []) = some ns.isEmpty := by
  have e : pd hs (.ref b) = some (.list (ns.map PyData.int)) := by
    show pdH hs 40 b = _
    unfold pdH
    rw [h]
    dsimp only
    rw [pdWs_ints]; rfl
  show gEqD hs (.ref b) (.lst []) = _
  unfold gEqD
  rw [e]
  show (if (SeqAt.shaped (.list (ns.map PyData.int)) && SeqAt.shaped (.list [])) = true then _ else none) = _
  rw [shaped_ints ns]
  cases ns <;> rfl
theorem ne_cells {hs : Hs} {b : Nat} {ns : List Int} (h : hs[b]? = some (.lst (ns.map .int))) : gNe hs (.ref b) (.lst []) = some (.bl (!ns.isEmpty)) := by unfold gNe; rw [gEqB_cells h]; rfl

/-- the drawing's function, as it stands in every law -/
def f_draw : FS := (sSeq (sSub mSetL (eBin gAdd (eBin gIx (eName 0) (eC (.int 2))) (eC (.int 1))) (eName 0) (eC (.int 2)))
  (sSeq (sSet 2 (eBin gIx (eName 0) (eC (.int 1))))
  (sSeq (sIf (eB (eBin gNe (eBin gIx (eName 0) (eC (.int 0))) (eV aNil))) (sSeq (sSet 2 (eMt isL mPop (eBin gIx (eName 0) (eC (.int 0))) aNil))
  (sIf (eB (eBin gGe (eName 2) (eBin gPow (eC (.int 10)) (eC (.int 18))))) (sSeq (sDrop (eMt isL mAppend (eBin gIx (eName 0) (eC (.int 0))) (aCons (eBin gDiv (eName 2) (eName 1)) aNil)))
  (sRet (eBin gMod (eName 2) (eName 1)))) sSkip)) sSkip)
  (sSeq (sSet 3 (eBin gMod (eBin gMul (eBin gAdd (eBin gAdd (eBin gMod (eName 2) (eC (.int 2147483629))) (eBin gMul (eC (.int 65537)) (eBin gIx (eName 0) (eC (.int 2))))) (eC (.int 3))) (eC (.int 48271))) (eC (.int 2147483647))))
  (sSeq (sSet 3 (eBin gMod (eBin gAdd (eBin gAdd (eBin gMul (eName 3) (eName 3)) (eBin gMul (eC (.int 69621)) (eBin gIx (eName 0) (eC (.int 2))))) (eC (.int 17))) (eC (.int 2147483587))))
  (sRet (eBin gMod (eBin gDiv (eBin gMod (eBin gAdd (eBin gMul (eName 3) (eName 3)) (eC (.int 39373))) (eC (.int 2147483563))) (eC (.int 64))) (eName 1))))))))
def c_draw : List D → Hs → R D := fnBody 4 f_draw
def Drawn (a b : Nat) (m : Int) (hs : Hs) (d : D) (hs' : Hs) : Prop := ∃ r : Int, d = .int r ∧ 0 ≤ r ∧ r < m ∧ Deck a b hs' ∧ Frm (Two a b) hs hs' ∧ hs'.length = hs.length
theorem draw_tail {a b : Nat} {hs h : Hs} {m s c cell : Int} {ns : List Int} (ne : a ≠ b) (ha : h[a]? = some (.lst [.ref b, .int s, .int c])) (hl : ns.length ≤ 100) (hb : h[b]? = some (.lst (ns.map .int))) (h0 : 0 < m) (fr : Frm (Two a b) hs h) (ln : h.length = hs.length) :
    Ws ((sSeq (sSet 3 (eBin gMod (eBin gMul (eBin gAdd (eBin gAdd (eBin gMod (eName 2) (eC (.int 2147483629))) (eBin gMul (eC (.int 65537)) (eBin gIx (eName 0) (eC (.int 2))))) (eC (.int 3))) (eC (.int 48271))) (eC (.int 2147483647))))
  (sSeq (sSet 3 (eBin gMod (eBin gAdd (eBin gAdd (eBin gMul (eName 3) (eName 3)) (eBin gMul (eC (.int 69621)) (eBin gIx (eName 0) (eC (.int 2))))) (eC (.int 17))) (eC (.int 2147483587))))
  (sRet (eBin gMod (eBin gDiv (eBin gMod (eBin gAdd (eBin gMul (eName 3) (eName 3)) (eC (.int 39373))) (eC (.int 2147483563))) (eC (.int 64))) (eName 1))))) [some (.ref a), some (.int m), some (.int cell), none] h)
      { nx := fun _ h => Drawn a b m hs .non h, rt := Drawn a b m hs } := by
  have gx : gIx h (.ref a) (.int 2) = some (.int c) := ix_ref ha rfl
  have b1 : ∀ x : Int, 0 ≤ x % 2147483647 ∧ x % 2147483647 < 2147483647 := fun x => ⟨Int.emod_nonneg _ (by decide), Int.emod_lt_of_pos _ (by decide)⟩
  have b2 : ∀ x : Int, 0 ≤ x % 2147483587 ∧ x % 2147483587 < 2147483587 := fun x => ⟨Int.emod_nonneg _ (by decide), Int.emod_lt_of_pos _ (by decide)⟩
  have q1 : small64 65537 = true := by decide
  have q2 : small64 69621 = true := by decide
  have q3 : small64 48271 = true := by decide
  fail "s"
  refine wp_some (mod_int (by decide)) ?_
  fail "s"
  refine wp_some gx ?_
  refine wp_some (mul_int (by rw [q1]; rfl)) ?_
  refine wp_some rfl ?_
  fail "s"
  refine wp_some rfl ?_
  fail "s"
  refine wp_some (mul_int (by rw [q3, Bool.or_true])) ?_
  fail "s"
  refine wp_some (mod_int (by decide)) ?_
  generalize hx : (cell % 2147483629 + 65537 * c + 3) * 48271 % 2147483647 = x
  have hx' := b1 ((cell % 2147483629 + 65537 * c + 3) * 48271)
  rw [hx] at hx'
  have sx : small64 x = true := small_of hx'.1 (by omega)
  show Ws (sSeq _ _ [some (.ref a), some (.int m), some (.int cell), some (.int x)] h) _
  fail "s"
  refine wp_some (mul_int (by rw [sx]; rfl)) ?_
  fail "s"
  refine wp_some gx ?_
  refine wp_some (mul_int (by rw [q2]; rfl)) ?_
  refine wp_some rfl ?_
  fail "s"
  refine wp_some rfl ?_
  fail "s"
  refine wp_some (mod_int (by decide)) ?_
  generalize hy : (x * x + 69621 * c + 17) % 2147483587 = y
  have hy' := b2 (x * x + 69621 * c + 17)
  rw [hy] at hy'
  have sy : small64 y = true := small_of hy'.1 (by omega)
  show Ws (sRet _ [some (.ref a), some (.int m), some (.int cell), some (.int y)] h) _
  fail "s"
  refine wp_some (mul_int (by rw [sy]; rfl)) ?_
  fail "s"
  refine wp_some rfl ?_
  fail "s"
  refine wp_some (mod_int (by decide)) ?_
  fail "s"
  refine wp_some (div_int (by decide) (by decide)) ?_
  fail "s"
  refine wp_some (mod_int h0) ?_
  exact ⟨_, rfl, Int.emod_nonneg _ (by omega), Int.emod_lt_of_pos _ h0, ⟨ne, ⟨s, c, ha⟩, ⟨ns, hl, hb⟩⟩, fr, ln⟩
theorem draw_wp {a b : Nat} {hs : Hs} {m : Int} (h : Deck a b hs) (h0 : 0 < m) (h1 : m < 1073741824) : Wp (c_draw [.ref a, .int m] hs) (Drawn a b m hs) nX := by
  obtain ⟨ne, ⟨s, c, ha⟩, ⟨ns, hl, hb⟩⟩ := h
  unfold c_draw f_draw
  refine wp_bodyE [some (.ref a), some (.int m), none, none] rfl ?_
  fail "s"
  refine wp_some (ix_ref ha rfl) ?_
  fail "s"
  refine wp_some rfl ?_
  fail "s"
  refine ⟨_, set_ref ha rfl, ?_⟩
  have ha1 : (hs.set a (.lst [.ref b, .int s, .int (c + 1)]))[a]? = some (.lst [.ref b, .int s, .int (c + 1)]) := get_set_eq ha
  have hb1 : (hs.set a (.lst [.ref b, .int s, .int (c + 1)]))[b]? = some (.lst (ns.map .int)) := by rw [get_set_ne ne]; exact hb
  have f1 : Frm (Two a b) hs (hs.set a (.lst [.ref b, .int s, .int (c + 1)])) := .set (.inl rfl)
  have l1 : (hs.set a (.lst [.ref b, .int s, .int (c + 1)])).length = hs.length := List.length_set
  show Ws (sSeq _ _ _ (hs.set a (.lst [.ref b, .int s, .int (c + 1)]))) _
  generalize hs.set a (.lst [.ref b, .int s, .int (c + 1)]) = g at ha1 hb1 f1 l1 ⊢
  fail "s"
  refine wp_some (ix_ref ha1 rfl) ?_
  fail "s"
  refine wp_some (ix_ref ha1 rfl) ?_
  fail "s"
  refine wp_some (ne_cells hb1) ⟨_, rfl, fun hne => ?_, fun _ => ?_⟩
  · -- a cell is popped
    have hn : ns ≠ [] := by rintro rfl; cases hne
    obtain ⟨ini, z, rfl⟩ : ∃ ini z, ns = ini ++ [z] := ⟨ns.dropLast, ns.getLast hn, (List.dropLast_concat_getLast hn).symm⟩
    have hl' : ini.length ≤ 99 := by rw [List.length_append] at hl; simp at hl; omega
    fail "s"
    refine wp_some (ix_ref ha1 rfl) ⟨isL_ref hb1, wp_anil ?_⟩
    have hp : (List.map D.int (ini ++ [z]))[(List.map D.int (ini ++ [z])).length - 1]? = some (.int z) := by simp
    refine wp_someP (pop_ref hb1 hp) ?_
    have hd : (List.map D.int (ini ++ [z])).dropLast = ini.map D.int := by simp
    rw [hd]
    have ha2 : (g.set b (.lst (ini.map D.int)))[a]? = some (.lst [.ref b, .int s, .int (c + 1)]) := by rw [get_set_ne ne.symm]; exact ha1
    have hb2 : (g.set b (.lst (ini.map D.int)))[b]? = some (.lst (ini.map D.int)) := get_set_eq hb1
    have f2 : Frm (Two a b) hs (g.set b (.lst (ini.map D.int))) := f1.trans (.set (.inr rfl))
    have l2 : (g.set b (.lst (ini.map D.int))).length = hs.length := by rw [List.length_set]; exact l1
    show Ws (sIf _ _ _ _ (g.set b (.lst (ini.map D.int)))) _
    generalize g.set b (.lst (ini.map D.int)) = k at ha2 hb2 f2 l2 ⊢
    fail "s"
    refine wp_some pow18 ?_
    refine wp_some rfl ⟨_, rfl, fun _ => ?_, fun _ => ?_⟩
    · fail "s"
      refine wp_some (ix_ref ha2 rfl) ⟨isL_ref hb2, ?_⟩
      fail "s"
      refine wp_some (div_int h0 h1) (wp_anil ?_)
      refine wp_someP (app_ref hb2 (by rw [List.length_map]; exact small1000 (by omega))) ?_
      have ha3 : (k.set b (.lst ((ini ++ [z / m]).map D.int)))[a]? = some (.lst [.ref b, .int s, .int (c + 1)]) := by rw [get_set_ne ne.symm]; exact ha2
      have hb3 : (k.set b (.lst ((ini ++ [z / m]).map D.int)))[b]? = some (.lst ((ini ++ [z / m]).map D.int)) := get_set_eq hb2
      have e3 : ini.map D.int ++ [D.int (z / m)] = (ini ++ [z / m]).map D.int := by simp
      rw [e3]
      fail "s"
      refine wp_some (mod_int h0) ?_
      exact ⟨_, rfl, Int.emod_nonneg _ (by omega), Int.emod_lt_of_pos _ h0, ⟨ne, ⟨s, c + 1, ha3⟩, ⟨ini ++ [z / m], by rw [List.length_append]; simp; omega, hb3⟩⟩, f2.trans (.set (.inr rfl)), by rw [List.length_set]; exact l2⟩
    · (repeat with_reducible refine ws_skip ?_)
      exact draw_tail ne ha2 (by omega) hb2 h0 f2 l2
  · (repeat with_reducible refine ws_skip ?_)
    exact draw_tail ne ha1 hl hb1 h0 f1 l1
/-! # G13: the deck made, a thing picked, names drawn; texts by their signs -/
noncomputable section

/-! ### texts by their signs -/
def T (cs : List Nat) : Str := ⟨cs.toArray⟩
theorem T_add (a b : List Nat) : T a ++ T b = T (a ++ b) := by
  show (⟨a.toArray ++ b.toArray⟩ : Str) = ⟨(a ++ b).toArray⟩
  rw [List.append_toArray]
theorem T_len (a : List Nat) : (T a).length = a.length := by show a.toArray.size = _; rw [List.size_toArray]
theorem T_cps (a : List Nat) : (T a).cps.toList = a := rfl
theorem T_of (z : Str) : z = T z.cps.toList := by cases z with | mk c => show (⟨c⟩ : Str) = ⟨c.toList.toArray⟩; rw [Array.toArray_toList]
theorem T_cut (a : List Nat) (lo hi : Option Int) : cutS (T a) lo hi = T (cutX a lo hi) := by
  unfold cutS cutX
  rw [T_len]
  rfl
theorem T_inj {a b : List Nat} (h : T a = T b) : a = b := by
  have := congrArg (fun z : Str => z.cps.toList) h
  exact this
theorem le_line {n : Nat} (h : n ≤ 100000) : n ≤ sizeLine := by have := sizeLine_eq; omega
theorem ix_T {h : Hs} {a : List Nat} {i : Int} {c : Nat} (q : a.length ≤ 100000) (e : atI a i = some c) : gIx h (.str (T a)) (.int i) = some (.str (T [c])) := by
  unfold gIx
  dsimp only
  rw [T_len, if_pos (le_line q), T_cps, e]
  rfl
theorem ix_seq {h : Hs} {d x : D} {ds : List D} {i : Int} (e : seqOf h d = some ds) (q : atI ds i = some x) : gIx h d (.int i) = some x := by
  unfold gIx
  cases d with
  | str z => cases e
  | _ => dsimp only; rw [e]; exact q
theorem len_seq {h : Hs} {d : D} {ds : List D} (e : seqOf h d = some ds) : gLen h [d] = some (.int ds.length) := by
  unfold gLen
  cases d with
  | str z => cases e
  | _ => dsimp only; rw [e]
theorem atI_nat {t : Type} {ds : List t} {i : Int} {x : t} (h0 : 0 ≤ i) (h : ds[i.toNat]? = some x) : atI ds i = some x := by
  have hl : i.toNat < ds.length := (List.getElem?_eq_some_iff.mp h).1
  unfold atI ixN
  rw [if_pos h0, if_pos (by omega)]
  exact h
theorem atI_mem {t : Type} {ds : List t} {i : Int} (h0 : 0 ≤ i) (h1 : i < ds.length) : ∃ x, atI ds i = some x ∧ x ∈ ds ∧ ds[i.toNat]? = some x := by
  have hl : i.toNat < ds.length := by omega
  exact ⟨ds[i.toNat], atI_nat h0 (List.getElem?_eq_getElem hl), List.getElem_mem hl, List.getElem?_eq_getElem hl⟩
theorem seq_lst {h : Hs} {ds : List D} : seqOf h (.lst ds) = some ds := rfl
theorem seq_tup {h : Hs} {ds : List D} : seqOf h (.tup ds) = some ds := rfl
theorem seq_ref {h : Hs} {n : Nat} {ds : List D} (e : h[n]? = some (.lst ds)) : seqOf h (.ref n) = some ds := by unfold seqOf rdOf lstOf; dsimp only; rw [e]
theorem rd_ref {h : Hs} {n : Nat} {ds : List D} (e : h[n]? = some (.lst ds)) : rdOf h (.ref n) = some ds := by unfold rdOf lstOf; dsimp only; rw [e]
theorem seq_frm {h h' : Hs} {S : Nat → Prop} {d : D} {ds : List D} (e : seqOf h d = some ds) (f : Frm S h h') (q : ∀ n, d = .ref n → ¬ S n) : seqOf h' d = some ds := by
  cases d with
  | ref n =>
    have : h[n]? = some (.lst ds) := by
      unfold seqOf rdOf lstOf at e
      dsimp only at e
      cases h1 : h[n]? with
      | none => rw [h1] at e; cases e
      | some o =>
        rw [h1] at e
        cases o with
        | lst xs => cases e; rfl
        | _ => cases e
    exact seq_ref (f.get this (q n rfl))
  | _ => exact e
theorem sIx_none (n d : Nat) : HT.sIx n d none = d := rfl
theorem sIx_pos {n d : Nat} {v : Int} (h : 0 ≤ v) : HT.sIx n d (some v) = min v.toNat n := by
  show (if v < 0 then (v + (n : Int)).toNat else min v.toNat n) = _
  rw [if_neg (by omega)]
theorem cutX_to {t : Type} (xs : List t) {v : Int} (h : 0 ≤ v) : cutX xs none (some v) = xs.take v.toNat := by
  unfold cutX
  rw [sIx_none, sIx_pos h, List.drop_zero, Nat.sub_zero]
  by_cases q : v.toNat ≤ xs.length
  · rw [Nat.min_eq_left q]
  · rw [Nat.min_eq_right (by omega), List.take_length, List.take_of_length_le (by omega)]
theorem cutX_from {t : Type} (xs : List t) {v : Int} (h : 0 ≤ v) : cutX xs (some v) none = xs.drop v.toNat := by
  unfold cutX
  rw [sIx_none, sIx_pos h]
  by_cases q : v.toNat ≤ xs.length
  · rw [Nat.min_eq_left q, List.take_of_length_le (by rw [List.length_drop]; omega)]
  · rw [Nat.min_eq_right (by omega), List.drop_length, List.drop_of_length_le (by omega)]; simp
theorem cutX_all {t : Type} (xs : List t) {v : Int} (h : (xs.length : Int) ≤ v) : cutX xs none (some v) = xs := by
  rw [cutX_to xs (by omega), List.take_of_length_le (by omega)]
theorem nxN_some {h : Hs} {lo : Int} {n i : Nat} (q : i < n) : nxN lo n h i = some (some (.int (lo + i))) := by unfold nxN; rw [if_pos q]
theorem nxN_stop {h : Hs} {lo : Int} {n : Nat} : nxN lo n h n = some none := by unfold nxN; rw [if_neg (Nat.lt_irrefl n)]
theorem nxL_some {h : Hs} {ds : List D} {i : Nat} (q : i < ds.length) : nxL ds h i = some (some ds[i]) := by unfold nxL; rw [List.getElem?_eq_getElem q]
theorem nxL_stop {h : Hs} {ds : List D} : nxL ds h ds.length = some none := by unfold nxL; rw [List.getElem?_eq_none (Nat.le_refl _)]
theorem mem_cutX {t : Type} {xs : List t} {lo hi : Option Int} {x : t} (h : x ∈ cutX xs lo hi) : x ∈ xs := List.mem_of_mem_drop (List.mem_of_mem_take h)

/-! ### the deck -/
def f_deck : FS := (sRet (eM (aCons (eM (lRev (eM (lList (eSl (eName 0) oNone (oSome (eC (.int 63)))))))) (aCons (eBin gAdd (eCall gSum (aCons (eV (lComp (iAny (eSl (eName 0) oNone (oSome (eC (.int 63))))) (nSet 1) tYesF (eBin gMod (eName 1) (eC (.int 1000003))) [1])) aNil)) (eBin gMul (eC (.int 7919)) (eCall gLen (aCons (eSl (eName 0) oNone (oSome (eC (.int 63)))) aNil)))) (aCons (eC (.int 0)) aNil)))))
def c_deck : List D → Hs → R D := fnBody 2 f_deck
def f_pick : FS := (sRet (eBin gIx (eName 1) (eFn c_draw [0, 1] [] (aCons (eName 0) (aCons (eCall gLen (aCons (eName 1) aNil)) aNil)))))
def c_pick : List D → Hs → R D := fnBody 2 f_pick
local macro_rules | `(tactic| fail "s1") => `(tactic| first
  | ((with_reducible apply wp_name); (case q => rfl))
  | with_reducible (first | refine wp_c ?_ | refine wp_bin ?_ | refine wp_acons ?_ | refine wp_anil ?_ | refine wp_call ?_ | refine wp_fn ?_ | refine wp_fnK ?_ | refine wp_ev ?_ | refine wp_em ?_ | refine wp_tup ?_ | refine wp_eb ?_ | refine wp_et ?_ | refine wp_un ?_ | refine wp_chain ?_ | refine wp_and ?_ | refine wp_or ?_ | refine wp_not ?_ | refine wp_andF ?_ | refine wp_orF ?_ | refine wp_notF ?_ | refine wp_yes ?_ | refine wp_if ?_ | refine wp_sl ?_ | refine wp_onone ?_ | refine wp_osome ?_ | refine wp_rev ?_ | refine wp_list ?_ | refine wp_mt ?_ | refine wp_any ?_ | refine wp_r1 ?_ | refine wp_r2 ?_ | refine ws_seq ?_ | refine ws_set ?_ | refine ws_setC ?_ | refine ws_setCM ?_ | refine ws_if ?_ | refine ws_ret ?_ | refine ws_retN ?_ | refine ws_drop ?_ | refine ws_skip ?_ | refine ws_asg ?_ | refine ws_par ?_ | refine ws_sub ?_ | refine wp_body ?_))
local macro_rules | `(tactic| fail "s") => `(tactic| repeat (fail "s1"))
def modD (n : Int) (d : D) : D := match d with | .int i => .int (i % n) | d => d
theorem intsOf_mod (n : Int) (ns : List Int) : intsOf ((ns.map D.int).map (modD n)) = some (ns.map (· % n)) := by
  have : (ns.map D.int).map (modD n) = (ns.map (· % n)).map D.int := by rw [List.map_map, List.map_map]; rfl
  rw [this]; exact intsOf_map _
theorem deck_wp {ns : List Int} (hl : ns.length ≤ 63) {hs : Hs} : Wp (c_deck [.scr (ns.map .int)] hs) (fun d h => d = .ref (hs.length + 2) ∧ Deck (hs.length + 2) (hs.length + 1) h ∧ Frm (fun _ => False) hs h ∧ h.length = hs.length + 3) nX := by
  unfold c_deck f_deck
  refine wp_bodyE [some (.scr (ns.map .int)), none] rfl ?_
  have cut : ∀ h : Hs, gSl h (.scr (ns.map .int)) none (some 63) = some (.lst (ns.map .int)) := fun h => by
    show some (D.lst (cutX (ns.map D.int) none (some 63))) = _
    rw [cutX_all _ (by rw [List.length_map]; omega)]
  fail "s"
  refine ⟨_, rfl, ?_⟩
  refine wp_some (cut _) ?_
  refine wp_some seq_lst ?_
  refine wp_some (x := (ns.map D.int).reverse) (by rw [rd_ref get_new]; rfl) ?_
  fail "s"
  refine wp_cmap (modD 1000003) ?_
  fail "s"
  refine ⟨_, rfl, ?_⟩
  refine wp_some (cut _) ?_
  refine ⟨_, rfl, _, rfl, by rw [List.length_map]; omega, fun d hd => ?_, ?_⟩
  · obtain ⟨i, _, rfl⟩ := List.mem_map.mp hd
    refine ⟨_, rfl, ?_⟩
    show Wp (eBin gMod (eName 1) (eC (.int 1000003)) [some (.scr (ns.map .int)), some (.int i)] _) _ _
    fail "s"
    exact wp_some (mod_int (by decide)) ⟨rfl, rfl⟩
  fail "s"
  refine wp_some (x := .int (ns.map (· % 1000003)).sum) ?_ ?_
  · show (match intsOf ((ns.map D.int).map (modD 1000003)) with | some ns => some (D.int ns.sum) | none => none) = _
    rw [intsOf_mod]
  fail "s"
  refine ⟨_, rfl, ?_⟩
  refine wp_some (cut _) ?_
  fail "s"
  refine wp_some (len_seq seq_lst) ?_
  refine wp_some (mul_int rfl) ?_
  refine wp_some rfl ?_
  fail "s"
  rw [List.length_append, List.length_append]
  refine ⟨rfl, ⟨by simp, ⟨(ns.map (· % 1000003)).sum + 7919 * ((ns.map D.int).length : Nat), 0, ?_⟩, ⟨ns.reverse, by rw [List.length_reverse]; omega, ?_⟩⟩, (Frm.app.trans Frm.app).trans Frm.app, by simp⟩
  · have := get_new (hs := hs ++ [O.lst (ns.map D.int)] ++ [O.lst (ns.map D.int).reverse]) (o := .lst [.ref (hs.length + 1), .int ((ns.map (· % 1000003)).sum + 7919 * ((ns.map D.int).length : Nat)), .int 0])
    simpa using this
  · have := get_app (o := .lst [.ref (hs.length + 1), .int ((ns.map (· % 1000003)).sum + 7919 * ((ns.map D.int).length : Nat)), .int 0]) (get_new (hs := hs ++ [O.lst (ns.map D.int)]) (o := O.lst (ns.map D.int).reverse))
    simpa using this
theorem pick_wp {a b : Nat} {hs : Hs} {d : D} {ds : List D} (hD : Deck a b hs) (hd : seqOf hs d = some ds) (hn : ∀ n, d = .ref n → ¬ Two a b n) (h0 : 0 < ds.length) (h1 : ds.length < 1073741824) :
    Wp (c_pick [.ref a, d] hs) (fun x h => x ∈ ds ∧ Deck a b h ∧ Frm (Two a b) hs h ∧ h.length = hs.length) nX := by
  unfold c_pick f_pick
  refine wp_bodyE [some (.ref a), some d] rfl ?_
  fail "s"
  refine wp_some (len_seq hd) ?_
  fail "s"
  refine wp_mono (draw_wp hD (by omega) (by omega)) ?_ fun _ _ _ x => x
  rintro x h ⟨r, rfl, r0, r1, D1, F1, L1⟩
  obtain ⟨x, hx, hm, _⟩ := atI_mem r0 (show r < ds.length by omega)
  exact wp_some (ix_seq (seq_frm hd F1 hn) hx) ⟨hm, D1, F1, L1⟩

/-! ### names -/
def Lw (cs : List Nat) : Prop := ∀ c ∈ cs, 97 ≤ c ∧ c < 123
def abc : List Nat := (List.range 26).map (· + 97)
theorem abc_T : ("abcdefghijklmnopqrstuvwxyz" : Str) = T abc := by decide +kernel
theorem Lw.app {a b : List Nat} (x : Lw a) (y : Lw b) : Lw (a ++ b) := fun c h => (List.mem_append.mp h).elim (x c) (y c)
theorem Lw.cut {a : List Nat} (x : Lw a) (lo hi : Option Int) : Lw (cutX a lo hi) := fun c h => x c (mem_cutX h)
end
/-! # G14: what the operators answer, for the stepper -/
section
variable {h : Hs} {i j : Int} {p q : Bool} {xs ys : List D}
theorem nof {r : Prop} (h : false = true) : r := by cases h
theorem tnof {r : Prop} (h : true = false) : r := by cases h
theorem add_i : gAdd h (.int i) (.int j) = some (.int (i + j)) := rfl
theorem sub_i : gSub h (.int i) (.int j) = some (.int (i - j)) := rfl
theorem lt_i : gLt h (.int i) (.int j) = some (.bl (decide (i < j))) := rfl
theorem le_i : gLe h (.int i) (.int j) = some (.bl (decide (i ≤ j))) := rfl
theorem gt_i : gGt h (.int i) (.int j) = some (.bl (decide (j < i))) := rfl
theorem ge_i : gGe h (.int i) (.int j) = some (.bl (decide (j ≤ i))) := rfl
theorem eq_i : gEq h (.int i) (.int j) = some (.bl (i == j)) := rfl
theorem ne_i : gNe h (.int i) (.int j) = some (.bl (!(i == j))) := rfl
theorem eq_s {x y : Str} : gEq h (.str x) (.str y) = some (.bl (x == y)) := rfl
theorem ne_s {x y : Str} : gNe h (.str x) (.str y) = some (.bl (!(x == y))) := rfl
theorem eq_b : gEq h (.bl p) (.bl q) = some (.bl (p == q)) := rfl
theorem max_i : gMax2 h [.int i, .int j] = some (.int (if j > i then j else i)) := rfl
theorem min_i : gMin2 h [.int i, .int j] = some (.int (if j < i then j else i)) := rfl
theorem add_tup (e : xs.length + ys.length ≤ 100000) : gAdd h (.tup xs) (.tup ys) = some (.tup (xs ++ ys)) := by
  unfold gAdd
  dsimp only
  rw [if_pos (le_line e)]
theorem add_lst (e : xs.length + ys.length ≤ 100000) : gAdd h (.lst xs) (.lst ys) = some (.lst (xs ++ ys)) := by
  unfold gAdd gAddL lstOf
  dsimp only
  rw [if_pos (le_line e)]
theorem sl_tup {lo hi : Option Int} : gSl h (.tup xs) lo hi = some (.tup (cutX xs lo hi)) := rfl
theorem sl_lst {lo hi : Option Int} : gSl h (.lst xs) lo hi = some (.lst (cutX xs lo hi)) := rfl
theorem tup_tup : gTuple h [.tup xs] = some (.tup xs) := rfl
theorem tup_lst : gTuple h [.lst xs] = some (.tup xs) := rfl
theorem len_tup : gLen h [.tup xs] = some (.int xs.length) := rfl
theorem len_lst : gLen h [.lst xs] = some (.int xs.length) := rfl
theorem tru_b : tru h (.bl p) = some p := rfl
theorem lw_ok {cs : List Nat} (h : Lw cs) : okS (T cs) = true := by
  unfold okS
  show (T cs).cps.all (· < 0x110000) = true
  rw [Array.all_eq_true']
  intro c hc
  have := h c (by simpa [T] using hc)
  exact decide_eq_true (by omega)
@[irreducible] def sB (p : Bool) : Str := (PyData.bool p).shown
theorem repr_b : gRepr h [.bl p] = some (.str (sB p)) := by
  unfold gRepr
  show (if smallText (.bool p) = true then some (D.str (PyData.bool p).shown) else none) = _
  rw [if_pos (by cases p <;> decide +kernel)]; unfold sB; rfl
theorem eq_sb : gEq h (.str (sB p)) (.str (sB p)) = some (.bl true) := by
  unfold gEq sB
  rw [gEqB_str (by cases p <;> decide +kernel) (by cases p <;> decide +kernel)]
  show some (D.bl _) = _
  rw [beq_self_eq_true]
variable {Q : D → Hs → Prop} {X : XQ} {d : D} {n : Nat} {o : O}
theorem wp_ix_tup (q : atI xs i = some d) (g : Q d h) : Wp (R.ofO (gIx h (.tup xs) (.int i)) h) Q X := wp_some (ix_tup q) g
theorem wp_ix_lst (q : atI xs i = some d) (g : Q d h) : Wp (R.ofO (gIx h (.lst xs) (.int i)) h) Q X := wp_some (ix_lst q) g
theorem wp_ix_ref (p : h[n]? = some (.lst xs)) (q : atI xs i = some d) (g : Q d h) : Wp (R.ofO (gIx h (.ref n) (.int i)) h) Q X := wp_some (ix_ref p q) g
end
/-! # G15: loops over lists that stand still -/
section
variable {X : XQ} {e : Ev} {hs : Hs} {P : Po}
/-- a walk over a list -/
theorem ws_forL {f : FI} {g : FG} {body : FS} (I : Ev → Hs → Prop) (h : Wp (f e hs) (fun nx h => ∃ ds, nx = nxL ds ∧ ds.length ≤ 100000 ∧ I e h ∧
    (∀ d e h, d ∈ ds → I e h → ∃ e', g d e = some e' ∧ Ws (body e' h) (P.lp I)) ∧ (∀ e h, I e h → P.nx e h)) (fun c fs h => P.ex c fs e h)) : Ws (sFor f g body e hs) P := by
  refine ws_for (wp_mono h (fun nx h' q => ?_) fun _ _ _ x => x)
  obtain ⟨ds, rfl, hl, h0, hd, q⟩ := q
  refine ⟨ds.length, fun _ => I, hl, h0, fun i e h hi hI => ?_, fun e h hI => ⟨nxL_stop, q e h hI⟩⟩
  obtain ⟨e', h1, h2⟩ := hd ds[i] e h (List.getElem_mem hi) hI
  exact ⟨ds[i], e', nxL_some hi, h1, h2⟩
end
/-! # G16: isinstance of built-in types -/
section
variable {X : Cx} {Wd : WX}
/-- what a thing is; an instance of a class is none of them -/
def tnOf (hs : Hs) : D → Option Tn
  | .bl _ => some .bool
  | .int _ => some .int
  | .str _ => some .str
  | .tup _ => some .tup
  | .ctp _ => some .tup
  | .lst _ => some .lst
  | .scr _ => some .lst
  | .dct _ _ => some .dct
  | .dtp _ _ => some .dct
  | .ref n => match hs[n]? with | some (.lst _) => some .lst | some (.dk _) => some .dct | some (.dt _) => some .dct | _ => none
  | _ => none
def isTn (t u : Tn) : Bool := decide (t = u) || (decide (t = .bool) && decide (u = .int))
def gIsi (hs : Hs) (ds : List D) : Option D := match ds with
  | [d, .ty u] => (match d with
    | .non => some (.bl false)
    | d => (match tnOf hs d with | some t => some (.bl (isTn t u)) | none => none))
  | _ => none
theorem kit_tn : ∀ t u : Tn, kitB t.nm u.nm = some (isTn t u) := by
  intro t u
  cases t <;> cases u <;> decide +kernel
theorem kit_nn : ∀ u : Tn, kitB "NoneType" u.nm = some false := by
  intro u
  cases u <;> decide +kernel
theorem StT.tyx {K : PySem.W.Frag} {mu : Mp} {H : Hp} {a : Addr} {vs : List V} (h : StT K mu H a vs) : TyX K H (.ref a) (.type "tuple") := .base (.tup h.1)
theorem StL.tyx {K : PySem.W.Frag} {mu : Mp} {H : Hp} {a : Addr} {vs : List V} (h : StL K mu H a vs) : TyX K H (.ref a) (.type "list") := by
  rcases h with ⟨⟨o, h⟩, _⟩ | (h | ⟨o, h⟩) | h
  · exact .base (.frz h)
  · cases h
  · cases h
  · obtain ⟨o, its, n, h1, h2, _⟩ := h
    exact .kList h1 h2
theorem tyx_of {K : PySem.W.Frag} {mg : Str → Option Value} {mu : Mp} {hs : Hs} {H : Hp} {d : D} {v : V} {t : Tn} (S : Sim K mg mu hs H) (r : RD K mu H d v) (e : tnOf hs d = some t) : TyX K H v (.type t.nm) := by
  cases r with
  | non => cases e
  | bl b => cases e; exact .base (.bl b)
  | int i => cases e; exact .base (.int i)
  | str s => cases e; exact .base (.str s)
  | tup h _ => cases e; exact h.tyx
  | lst h _ _ => cases e; exact .base (.lst h)
  | scr h _ => cases e; exact h.tyx
  | ty t => cases e
  | ctp h _ =>
    cases e
    rcases h with (h | ⟨o, h⟩) | ⟨o, its, n, h1, h2, _⟩
    · cases h
    · cases h
    · exact .kTuple h1 h2
  | dct h _ _ _ => cases e; exact .base (.dK h)
  | dtp h _ _ _ => cases e; exact .base (.dT h)
  | ins _ _ _ _ _ => cases e
  | glb _ => cases e
  | dlk _ _ _ => cases e
  | dlt _ _ _ => cases e
  | exn0 _ _ => cases e
  | exnd _ _ _ _ _ => cases e
  | ref h =>
    unfold tnOf at e
    dsimp only at e
    split at e
    · rename_i ds hd
      cases e
      obtain ⟨u, e2, e3⟩ := S.at h hd
      cases u with
      | lst vs => exact .base (.lst e2)
      | _ => exact e3.elim
    · rename_i ds hd
      cases e
      obtain ⟨u, e2, e3⟩ := S.at h hd
      cases u with
      | dK vs => exact .base (.dK e2)
      | _ => exact e3.elim
    · rename_i ds hd
      cases e
      obtain ⟨u, e2, e3⟩ := S.at h hd
      cases u with
      | dT vs => exact .base (.dT e2)
      | _ => exact e3.elim
    · cases e
theorem cg_isi : CallR X (.builtin "isinstance") (rC X.K X.mg gIsi) := by
  rintro pins s σ H xs us Q I r ⟨mu, hs, ds, w, S, rs, hg, q⟩
  unfold gIsi at hg
  split at hg
  · rename_i d u
    cases rs with
    | cons r1 r2 =>
      cases r2 with
      | cons r2 r3 =>
        cases r3
        cases r2
        cases d with
        | non =>
          cases hg; cases r1
          exact call_isi pins s σ H _ us Q I r ⟨_, _, _, _, _, rfl, .ty _, .base .non, kit_ty (kit_nn u), fin0 S q (.bl _)⟩
        | _ =>
          dsimp only at hg
          split at hg
          · rename_i t ht
            cases hg
            exact call_isi pins s σ H _ us Q I r ⟨_, _, _, _, _, rfl, .ty _, tyx_of S r1 ht, kit_ty (kit_tn t u), fin0 S q (.bl _)⟩
          · cases hg
  · cases hg
theorem ue_ty {x : Str} {t : Tn} {pos : Pos} (hg : Gl X x) (hm : X.mg x = none) (hv : bootBuiltins x = some (.type t.nm)) (hn : x ≠ "__name__" := by decide) (hd : (x == ("__debug__" : Str)) = false := by decide) : UE X Wd (.Name x pos) (eC (.ty t)) :=
  uC (pe_bltn hg hm hv (show RelV (.ty t.nm) (.type t.nm) from rfl) hn hd) fun _ _ => .ty t
theorem bt_str : bootBuiltins "str" = some (.type Tn.str.nm) := by decide +kernel
theorem bt_isi : bootBuiltins "isinstance" = some (.builtin "isinstance") := by decide +kernel
variable {h : Hs} {i : Int} {b : Bool} {z : Str} {ds : List D} {ks : List Key} {u : Tn} {n : Nat}
theorem isi_non : gIsi h [.non, .ty u] = some (.bl false) := rfl
theorem isi_bl : gIsi h [.bl b, .ty u] = some (.bl (isTn .bool u)) := rfl
theorem isi_int : gIsi h [.int i, .ty u] = some (.bl (isTn .int u)) := rfl
theorem isi_str : gIsi h [.str z, .ty u] = some (.bl (isTn .str u)) := rfl
theorem isi_tup : gIsi h [.tup ds, .ty u] = some (.bl (isTn .tup u)) := rfl
theorem isi_lst : gIsi h [.lst ds, .ty u] = some (.bl (isTn .lst u)) := rfl
theorem isi_dct : gIsi h [.dct ks ds, .ty u] = some (.bl (isTn .dct u)) := rfl
end
/-! # G17: dicts -/
/-! ### keys -/
def keyD : D → Option Key
  | .int i => some (.inl i)
  | .str s => some (.inr s)
  | _ => none
def keysD : List D → Option (List Key)
  | [] => some []
  | d :: ds => match keyD d with | some k => (match keysD ds with | some ks => some (k :: ks) | none => none) | none => none
def putG {k : Type} [DecidableEq k] (kvs : List (k × D)) (x : k) (v : D) : List (k × D) :=
  if (kvs.any fun kv => decide (kv.1 = x)) = true then kvs.map (fun kv => if kv.1 = x then (kv.1, v) else kv) else kvs ++ [(x, v)]
def valG {k : Type} [DecidableEq k] (kvs : List (k × D)) (x : k) : Option D := (kvs.find? fun kv => decide (kv.1 = x)).map (·.2)
section
variable {K : PySem.W.Frag} {mu : Mp} {H : Hp}
theorem RD.ref_inv {n : Nat} {v : V} (h : RD K mu H (.ref n) v) : ∃ a, v = .ref a ∧ mu.l[n]? = some a := by
  cases h with
  | ref e => exact ⟨_, rfl, e⟩
theorem keyD_at {d : D} {v : V} {k : Key} (r : RD K mu H d v) (e : keyD d = some k) : v = kV k := by
  cases r <;> first | (cases e; rfl) | cases e
theorem keysD_at : ∀ {ds : List D} {vs : List V} {ks : List Key}, RDs K mu H ds vs → keysD ds = some ks → vs = ks.map kV
  | _, _, _, .nil, e => by cases e; rfl
  | d :: ds, _, ks, .cons r t, e => by
    unfold keysD at e
    split at e
    · rename_i k hk
      split at e
      · rename_i ks' hks
        cases e
        rw [keyD_at r hk, keysD_at t hks]; rfl
      · cases e
    · cases e
variable {k : Type} [DecidableEq k]
theorem RKs.any {x : k} : ∀ {ds : List (k × D)} {vs : List (k × V)}, RKs K mu H ds vs → (ds.any fun kv => decide (kv.1 = x)) = (vs.any fun kv => decide (kv.1 = x))
  | _, _, .nil => rfl
  | _, _, .cons _ t => by simp only [List.any_cons]; rw [RKs.any t]
theorem RKs.snoc {x : k} {d : D} {v : V} (r : RD K mu H d v) : ∀ {ds : List (k × D)} {vs : List (k × V)}, RKs K mu H ds vs → RKs K mu H (ds ++ [(x, d)]) (vs ++ [(x, v)])
  | _, _, .nil => .cons r .nil
  | _, _, .cons q t => .cons q (RKs.snoc r t)
theorem RKs.over {x : k} {d : D} {v : V} (r : RD K mu H d v) : ∀ {ds : List (k × D)} {vs : List (k × V)}, RKs K mu H ds vs → RKs K mu H (ds.map fun kv => if kv.1 = x then (kv.1, d) else kv) (vs.map fun kv => if kv.1 = x then (kv.1, v) else kv)
  | _, _, .nil => .nil
  | _, _, .cons (x := y) q t => by
    rw [List.map_cons, List.map_cons]
    dsimp only
    by_cases e : y = x
    · rw [if_pos e, if_pos e]; exact .cons r (RKs.over r t)
    · rw [if_neg e, if_neg e]; exact .cons q (RKs.over r t)
theorem RKs.put {x : k} {d : D} {v : V} {ds : List (k × D)} {vs : List (k × V)} (q : RKs K mu H ds vs) (r : RD K mu H d v) : RKs K mu H (putG ds x d) (putK vs x v) := by
  unfold putG putK
  rw [RKs.any q]
  split
  · exact RKs.over r q
  · exact RKs.snoc r q
theorem RKs.val {x : k} : ∀ {ds : List (k × D)} {vs : List (k × V)}, RKs K mu H ds vs → (∀ d, valG ds x = some d → ∃ v, valV vs x = some v ∧ RD K mu H d v) ∧ (valG ds x = none → valV vs x = none)
  | _, _, .nil => ⟨(fun d e => nomatch e), fun _ => rfl⟩
  | _, _, .cons (x := y) (d := d0) (v := v0) (ds := ds) (vs := vs) q t => by
    obtain ⟨h1, h2⟩ := RKs.val (x := x) t
    unfold valG valV at h1 h2 ⊢
    rw [List.find?_cons, List.find?_cons]
    by_cases e : y = x
    · rw [decide_eq_true e]
      exact ⟨fun d e => (by cases e; exact ⟨_, rfl, q⟩), fun e => nomatch e⟩
    · rw [decide_eq_false e]
      exact ⟨h1, h2⟩
theorem RKs.snds : ∀ {ds : List (k × D)} {vs : List (k × V)}, RKs K mu H ds vs → RDs K mu H (ds.map (·.2)) (vs.map (·.2))
  | _, _, .nil => .nil
  | _, _, .cons q t => .cons q (RKs.snds t)
end
section
variable {X : Cx} {Wd : WX} {pos : Pos}
/-! ### {} -/
def eD0K : FE := fun _ hs => .ok (.ref hs.length) (hs ++ [.dk []])
def eD0T : FE := fun _ hs => .ok (.ref hs.length) (hs ++ [.dt []])
def eD0 : FE := fun _ hs => .ok (.dct [] []) hs
theorem ue_d0k : UE X Wd (.Dict [] [] pos) eD0K := by
  refine PE.imp pe_dnewK fun σ H Q h p hp => ?_
  obtain ⟨e, mu, hs, S, E, g⟩ := h
  exact g (mu.own p) _ (.ref p) (.newOwn S hp) (S.newOwn hp (show RO X.K X.mg mu H (.dk []) (.dK []) from .nil)) (.ref (getElem?_own S.len))
theorem ue_d0 : UE X Wd (.Dict [] [] pos) eD0 := by
  refine PE.imp pe_dnewK fun σ H Q h p hp => ?_
  obtain ⟨e, mu, hs, S, E, g⟩ := h
  exact g (mu.still p) _ (.ref p) (.newStill hp) (S.newStill hp) (.dct (ks := []) (vs := []) upd_same (.inl rfl) rfl .nil)
/-! ### d[k] = v, of dicts and lists -/
def mSetA (hs : Hs) (o i v : D) : Option Hs := match o with
  | .ref n => (match hs[n]? with
    | some (.dk kvs) => (match keyD i with | some k => if kvs.length < sizeLine then some (hs.set n (.dk (putG kvs k v))) else none | none => none)
    | some (.dt kvs) => (match i with
      | .tup ds => (match keysD ds with | some k => if kvs.length < sizeLine then some (hs.set n (.dt (putG kvs k v))) else none | none => none)
      | _ => none)
    | _ => mSetL hs o i v)
  | _ => none
theorem sg_any (hu : X.A.units + 1 < cLine) : PSet X (rSet X.K X.mg mSetA) := by
  rintro pins s σ H o i v ov iv u Q I r1 r2 r3 ⟨mu, hs, d1, d2, d3, hs', S, e1, e2, e3, hg, q⟩
  unfold mSetA at hg
  split at hg
  · rename_i n
    split at hg
    · rename_i kvs hn
      split at hg
      · rename_i k hk
        split at hg
        · rename_i hz
          cases hg
          cases e1 with
          | ref ea =>
            rename_i a
            obtain ⟨w, h1, h2⟩ := S.at ea hn
            cases w with
            | dK vs =>
              have h2 : RKs X.K mu H kvs vs := h2
              obtain rfl : ov = Value.ref a := r1
              have ei := keyD_at e2 hk
              subst ei
              refine d_setItem hu I (.k h1 (by rw [← h2.length]; exact hz)) r2 r3 fun s' I' => ⟨_, I', ?_⟩
              exact q mu _ (.write ea (nfK h1)) (S.write ea (show RO X.K X.mg mu H (.dk _) (.dK _) from h2.put e3))
            | _ => exact h2.elim
        · cases hg
      · cases hg
    · rename_i kvs hn
      split at hg
      · split at hg
        · rename_i k hk
          split at hg
          · rename_i hz
            cases hg
            cases e1 with
            | ref ea =>
              rename_i a
              obtain ⟨w, h1, h2⟩ := S.at ea hn
              cases w with
              | dT vs =>
                have h2 : RKs X.K mu H kvs vs := h2
                obtain rfl : ov = Value.ref a := r1
                cases e2 with
                | tup ht hr =>
                  have ei := keysD_at hr hk
                  subst ei
                  refine d_setItem hu I (.t h1 ht.1 (by rw [← h2.length]; exact hz)) r2 r3 fun s' I' => ⟨_, I', ?_⟩
                  exact q mu _ (.write ea (nfT h1)) (S.write ea (show RO X.K X.mg mu H (.dt _) (.dT _) from h2.put e3))
              | _ => exact h2.elim
          · cases hg
        · cases hg
      · cases hg
    · exact sg_list pins s σ H o i v ov iv u Q I r1 r2 r3 ⟨mu, hs, _, d2, d3, hs', S, e1, e2, e3, hg, q⟩
  · cases hg
/-! ### list(d.values()) -/
/-- list(d.values()) of a dict with tuples as keys -/
def lValsT (f : FE) : FL := fun e hs => (f e hs).bind fun d hs => match d with
  | .ref n => (match hs[n]? with | some (.dt kvs) => .ok (kvs.map (·.2)) hs | _ => .bad)
  | _ => .bad
end
/-! # G18: in, of texts, dicts, deep lists -/
theorem u65 {k : Nat} {A : Around} (r : Room k A) : A.units + 65 < cLine := by have := r.un; omega
theorem u1 {k : Nat} {A : Around} (r : Room k A) : A.units + 1 < cLine := by have := r.un; omega
def inD (hs : Hs) (d e : D) : Option Bool := match pd hs d with
  | some p => (match pd hs e with
    | some (.list ps) => if (SeqAt.shaped p && SeqAt.shaped (.list ps)) = true then some (ps.any fun z => PyData.eqv z p) else none
    | _ => none)
  | none => none
/-- the entry of a dict, whatever its keys -/
def atD (hs : Hs) (e d : D) : Option (Option D) := match e with
  | .ref n => (match hs[n]? with
    | some (.dk kvs) => (match keyD d with | some k => some (valG kvs k) | none => none)
    | some (.dt kvs) => (match d with | .tup ds => (match keysD ds with | some k => some (valG kvs k) | none => none) | _ => none)
    | _ => none)
  | .dct ks ds => (match keyD d with | some k => some (valG (ks.zip ds) k) | none => none)
  | .dtp ks ds => (match d with | .tup es => (match keysD es with | some k => some (valG (ks.zip ds) k) | none => none) | _ => none)
  | .dlk ks ds => (match keyD d with | some k => some (valG (ks.zip ds) k) | none => none)
  | .dlt ks ds => (match d with | .tup es => (match keysD es with | some k => some (valG (ks.zip ds) k) | none => none) | _ => none)
  | _ => none
def inAB (hs : Hs) (d e : D) : Option Bool := match atD hs e d with
  | some o => some o.isSome
  | none => (match gInB hs d e with
    | some b => some b
    | none => (match e with
      | .str z => (match d with | .str x => some (!(Builtin.Str.occurrences z x 0 z.length 1).isEmpty) | _ => none)
      | e => inD hs d e))
def gInA (hs : Hs) (d e : D) : Option D := (inAB hs d e).map .bl
def gNotInA (hs : Hs) (d e : D) : Option D := (inAB hs d e).map fun b => .bl (!b)
section
variable {K : PySem.W.Frag} {mg : Str → Option Value} {mu : Mp} {hs : Hs} {H : Hp}
theorem RKs.zip : ∀ {ks : List Key} {ds : List D} {vs : List V}, RDs K mu H ds vs → RKs K mu H (ks.zip ds) (ks.zip vs)
  | [], _, _, _ => .nil
  | _ :: _, _, _, .nil => .nil
  | _ :: ks, _, _, .cons r t => .cons r (RKs.zip t)
theorem RKs.zipT : ∀ {ks : List (List Key)} {ds : List D} {vs : List V}, RDs K mu H ds vs → RKs K mu H (ks.zip ds) (ks.zip vs)
  | [], _, _, _ => .nil
  | _ :: _, _, _, .nil => .nil
  | _ :: ks, _, _, .cons r t => .cons r (RKs.zipT t)
theorem optVal {k : Type} [DecidableEq k] {x : k} {ds : List (k × D)} {vs : List (k × V)} (r : RKs K mu H ds vs) : (valG ds x).isSome = (valV vs x).isSome ∧ ∀ d, valG ds x = some d → ∃ v, valV vs x = some v ∧ RD K mu H d v := by
  obtain ⟨h1, h2⟩ := RKs.val (x := x) r
  refine ⟨?_, h1⟩
  cases q : valG ds x with
  | none => rw [h2 q]; rfl
  | some d => obtain ⟨v, e, _⟩ := h1 d q; rw [e]; rfl
theorem atD_at (S : Sim K mg mu hs H) {d e : D} {x y : V} {o : Option D} (r1 : RD K mu H d x) (r2 : RD K mu H e y) (h : atD hs e d = some o) :
    ∃ a ov, y = .ref a ∧ DGet H a x ov ∧ o.isSome = ov.isSome ∧ ∀ w, o = some w → ∃ v, ov = some v ∧ RD K mu H w v := by
  unfold atD at h
  split at h
  · rename_i n
    obtain ⟨a, rfl, ea⟩ := r2.ref_inv
    split at h
    · rename_i kvs hn
      obtain ⟨w, h1, h2⟩ := S.at ea hn
      cases w with
      | dK vs =>
        have h2 : RKs K mu H kvs vs := h2
        split at h
        · rename_i k hk
          cases h
          have ei := keyD_at r1 hk
          subst ei
          obtain ⟨q1, q2⟩ := optVal (x := k) h2
          exact ⟨a, _, rfl, .k h1, q1, q2⟩
        · cases h
      | _ => exact h2.elim
    · rename_i kvs hn
      obtain ⟨w, h1, h2⟩ := S.at ea hn
      cases w with
      | dT vs =>
        have h2 : RKs K mu H kvs vs := h2
        split at h
        · split at h
          · rename_i k hk
            cases h
            cases r1 with
            | tup ht hr =>
              have ei := keysD_at hr hk
              subst ei
              obtain ⟨q1, q2⟩ := optVal (x := k) h2
              exact ⟨a, _, rfl, .t h1 ht.1, q1, q2⟩
          · cases h
        · cases h
      | _ => exact h2.elim
    · cases h
  · split at h
    · rename_i k hk
      cases h
      cases r2 with
      | dct h1 _ _ hr =>
        have ei := keyD_at r1 hk
        subst ei
        obtain ⟨q1, q2⟩ := optVal (x := k) (RKs.zip hr)
        exact ⟨_, _, rfl, .k h1, q1, q2⟩
    · cases h
  · split at h
    · split at h
      · rename_i k hk
        cases h
        cases r1 with
        | tup ht hrk =>
          have ei := keysD_at hrk hk
          subst ei
          cases r2 with
          | dtp h1 _ _ hr =>
            obtain ⟨q1, q2⟩ := optVal (x := k) (RKs.zipT hr)
            exact ⟨_, _, rfl, .t h1 ht.1, q1, q2⟩
      · cases h
    · cases h
  · split at h
    · rename_i k hk
      cases h
      cases r2 with
      | dlk h1 _ hr =>
        have ei := keyD_at r1 hk
        subst ei
        obtain ⟨q1, q2⟩ := optVal (x := k) (RKs.zip hr)
        exact ⟨_, _, rfl, .inl ⟨_, _, .inr h1.1, rfl, rfl⟩, q1, q2⟩
    · cases h
  · split at h
    · split at h
      · rename_i k hk
        cases h
        cases r1 with
        | tup ht hrk =>
          have ei := keysD_at hrk hk
          subst ei
          cases r2 with
          | dlt h1 _ hr =>
            obtain ⟨q1, q2⟩ := optVal (x := k) (RKs.zipT hr)
            exact ⟨_, _, rfl, .inr ⟨_, _, _, .inr h1.1, rfl, ht.1, rfl⟩, q1, q2⟩
      · cases h
    · cases h
  · cases h
theorem inD_at (S : Sim K mg mu hs H) {d e : D} {x y : V} {b : Bool} (r1 : RD K mu H d x) (r2 : RD K mu H e y) (h : inD hs d e = some b) :
    ∃ p ps, Dp K H x p ∧ Dp K H y (.list ps) ∧ SeqAt.shaped p = true ∧ SeqAt.shaped (.list ps) = true ∧ (ps.any fun z => PyData.eqv z p) = b := by
  unfold inD at h
  split at h
  · rename_i p hp
    split at h
    · rename_i ps hps
      split at h
      · rename_i hz
        cases h
        simp only [Bool.and_eq_true] at hz
        exact ⟨p, ps, pd_dp S r1 hp, pd_dp S r2 hps, hz.1, hz.2, rfl⟩
      · cases h
    · cases h
  · cases h
variable {X : Cx}
theorem og_inA (hu : X.A.units + 65 < cLine) : OpR X (compareOp .In) (rB X.K X.mg gInA) := by
  rintro pins s σ H x y v u Q I rx ry ⟨mu, hs, d, e, w, S, r1, r2, hg, q⟩
  obtain ⟨b, h1, h2⟩ := Option.map_eq_some_iff.mp (show (inAB hs d e).map D.bl = some w from hg)
  subst h2
  unfold inAB at h1
  split at h1
  · rename_i o ho
    cases h1
    obtain ⟨a, ov, rfl, hd, e1, _⟩ := atD_at S r1 r2 ho
    obtain rfl : u = Value.ref a := ry
    rw [e1] at q
    exact d_in (by omega) I hd rx fun s' I' => ⟨.bl ov.isSome, H, I', rfl, fin0 S q (.bl _)⟩
  · split at h1
    · rename_i b hb
      cases h1
      exact og_in pins s σ H x y v u Q I rx ry ⟨mu, hs, d, e, _, S, r1, r2, by unfold gIn; rw [hb]; rfl, q⟩
    · split at h1
      · split at h1
        · cases h1; cases r1; cases r2
          exact op_in_str pins s σ H _ _ v u Q I rx ry ⟨_, _, rfl, rfl, fin0 S q (.bl _)⟩
        · cases h1
      · obtain ⟨p, ps, a1, a2, a3, a4, rfl⟩ := inD_at S r1 r2 h1
        exact op_inD hu pins s σ H x y v u Q I rx ry ⟨p, ps, a1, a2, a3, a4, fin0 S q (.bl _)⟩
theorem og_notinA (hu : X.A.units + 65 < cLine) : OpR X (compareOp .NotIn) (rB X.K X.mg gNotInA) := by
  rintro pins s σ H x y v u Q I rx ry ⟨mu, hs, d, e, w, S, r1, r2, hg, q⟩
  obtain ⟨b, h1, h2⟩ := Option.map_eq_some_iff.mp (show (inAB hs d e).map (fun b => D.bl (!b)) = some w from hg)
  subst h2
  unfold inAB at h1
  split at h1
  · rename_i o ho
    cases h1
    obtain ⟨a, ov, rfl, hd, e1, _⟩ := atD_at S r1 r2 ho
    obtain rfl : u = Value.ref a := ry
    rw [e1] at q
    exact d_notIn (by omega) I hd rx fun s' I' => ⟨.bl (!ov.isSome), H, I', rfl, fin0 S q (.bl _)⟩
  · split at h1
    · rename_i b hb
      cases h1
      exact og_notin pins s σ H x y v u Q I rx ry ⟨mu, hs, d, e, _, S, r1, r2, by unfold gNotIn; rw [hb]; rfl, q⟩
    · split at h1
      · split at h1
        · cases h1; cases r1; cases r2
          exact op_notin_str pins s σ H _ _ v u Q I rx ry ⟨_, _, rfl, rfl, fin0 S q (.bl _)⟩
        · cases h1
      · obtain ⟨p, ps, a1, a2, a3, a4, rfl⟩ := inD_at S r1 r2 h1
        exact op_notInD hu pins s σ H x y v u Q I rx ry ⟨p, ps, a1, a2, a3, a4, fin0 S q (.bl _)⟩
end
section
variable {X : Cx} {Wd : WX} {k : Nat} {f : Addr} {fd : FuncData} {ps ks : List Str} {fn : List D → Hs → R D} {x : Str} {p pos : Pos} {is : List Nat} {ds : List Value} {dvs : List V} {dds : List D} {kws : List Keyword} {fk : FA}
/-- f(k = v, ..), keywords alone -/
theorem ue_callK0 (F : FnG X.prog X.w X.K X.mg X.base k f fd ps (spU X.K X.mg ps.length fn)) (hr : Room k X.A) (hgd : X.A.guards = some []) (tk : Takes X Wd) (hg : Gl X x) (hm : X.mg x = some (.ref f)) (hk : PySem.W.keepIn X.K (.ref f) = true)
    (hb : BindK X.K fd ps 0 ks is ds) (hd : Vals dvs ds) (hdd : ∀ mu H, RDs X.K mu H dds dvs) (hkw : UK X Wd kws fk)
    (hlk : ∀ ev hs qs hs', fk ev hs = .ok qs hs' → qs.length = ks.length) (hl : ∀ zs : List D, zs.length = ks.length → (selL is [] zs dds).length = ps.length)
    (hall : (backToKw pos (keywordEach kws X.env)).all (·.1.isSome) = true := by rfl) (hks : (backToKw pos (keywordEach kws X.env)).filterMap (·.1) = ks := by rfl)
    (hdb : (x == ("__debug__" : Str)) = false := by decide)
    (hpl : ((backTo pos (starEach [] X.env)).any (·.1) || (backToKw pos (keywordEach kws X.env)).any (·.1.isNone)) = false := by rfl) :
    UE X Wd (.Call (.Name x p) [] kws pos) (eFnK fn is dds aNil fk) := by
  refine ⟨fun pins s σ H Q I h => ?_⟩
  refine wpAny_Call_Name_kw (ld_glob I hg hm ?_ hdb)
  refine PySem.W.callWith_KW0 (h₀ := X.base) I.ok.mod.kin hk hall ?_ hpl
  obtain ⟨ev, mu, hs, S, E, g⟩ := tG_args h
  have q := g mu H [] .refl S .nil
  refine thn (hkw.run pos pins s σ H _ I q) fun ws s2 ⟨zs, H2, I2, rz, mu2, hs2, es2, qs2, S2, r1, r2, ⟨_, _, _, q1⟩, ⟨_, _, _, q2⟩, g2⟩ => ⟨I2.kIn, ?_⟩
  rw [hks]
  cases r1
  exact runG (us := []) (vs := []) F hr hgd tk hb hd hdd I2 .nil rz rfl (by rw [← rz.length, ← r2.length, hlk _ _ _ _ q2]) ⟨mu2, hs2, [], qs2, S2, .nil, r2, hl _ (hlk _ _ _ _ q2), g2⟩
theorem ue_fnK0 {k' : Nat} (B : Bd X Wd k') (F : FnG X.prog X.w X.K X.mg X.base k f fd ps (spU X.K X.mg ps.length fn)) (hr : k ≤ k') (hm : X.mg x = some (.ref f)) (hk : PySem.W.keepIn X.K (.ref f) = true)
    (hb : BindK X.K fd ps 0 ks is []) (hkw : UK X Wd kws fk) (hlk : ∀ ev hs qs hs', fk ev hs = .ok qs hs' → qs.length = ks.length)
    (hi : is.all (fun i => decide (i < ks.length)) = true := by decide) (hl : is.length = ps.length := by rfl) (hg : Gl X x := by rfl)
    (hall : (backToKw pos (keywordEach kws X.env)).all (·.1.isSome) = true := by rfl) (hks : (backToKw pos (keywordEach kws X.env)).filterMap (·.1) = ks := by rfl)
    (hdb : (x == ("__debug__" : Str)) = false := by decide)
    (hpl : ((backTo pos (starEach [] X.env)).any (·.1) || (backToKw pos (keywordEach kws X.env)).any (·.1.isNone)) = false := by rfl) : UE X Wd (.Call (.Name x p) [] kws pos) (eFnK fn is [] aNil fk) :=
  ue_callK0 F (B.room.mono hr) B.gd B.tk hg hm hk hb .nil (fun _ _ => .nil) hkw hlk (fun zs h => by rw [selL_len _ _ _ _ (by rw [h, List.length_nil, Nat.zero_add]; exact all_lt hi), hl]) hall hks hdb hpl
end
/-! # G19: what stands while things are drawn -/
/-- a fact about what stands below L, but for the deck -/
def Stb (L : Nat) (K : Hs → Prop) : Prop := ∀ h h', K h → L ≤ h.length → (∀ n, n < L → n ≠ 1 → n ≠ 2 → h'[n]? = h[n]?) → K h'
theorem stb_get {L n : Nat} {o : O} (hn : 2 < n) (hl : n < L) : Stb L (fun h => h[n]? = some o) := fun h h' k _ f => (f n hl (by omega) (by omega)).trans k
theorem Stb.and {L : Nat} {K K' : Hs → Prop} (a : Stb L K) (b : Stb L K') : Stb L (fun h => K h ∧ K' h) := fun h h' k l f => ⟨a h h' k.1 l f, b h h' k.2 l f⟩
theorem Stb.mono {L L' : Nat} {K : Hs → Prop} (a : Stb L K) (l : L ≤ L') : Stb L' K := fun h h' k z f => a h h' k (by omega) fun n hn => f n (by omega)
theorem stb_true {L : Nat} : Stb L (fun _ => True) := fun _ _ _ _ _ => trivial
structure St (L : Nat) (K : Hs → Prop) (h : Hs) : Prop where
  deck : Deck 2 1 h
  keep : K h
  len : L ≤ h.length
theorem St.lt {L : Nat} {K : Hs → Prop} {h : Hs} (S : St L K h) : 2 < h.length := S.deck.lt.1
section
variable {L : Nat} {K : Hs → Prop} {h : Hs} {m : Int} {Q : D → Hs → Prop} {X : XQ} {d : D} {ds : List D}
theorem St.frm {h' : Hs} (S : St L K h) (sK : Stb L K) (D : Deck 2 1 h') (F : Frm (Two 2 1) h h') : St L K h' :=
  ⟨D, sK _ _ S.keep S.len fun n hn h1 h2 => F.2 n (Nat.lt_of_lt_of_le hn S.len) (by unfold Two; omega), Nat.le_trans S.len F.1⟩
theorem dr (S : St L K h) (sK : Stb L K) (m0 : 0 < m) (m1 : m < 1073741824) (c : ∀ r h', 0 ≤ r → r < m → St L K h' → Q (.int r) h') : Wp (c_draw [.ref 2, .int m] h) Q X := by
  refine wp_mono (draw_wp S.deck m0 m1) ?_ fun _ _ _ x => x.elim
  rintro d h' ⟨r, rfl, r0, r1, D, F, _⟩
  exact c r h' r0 r1 (S.frm sK D F)
theorem pk (S : St L K h) (sK : Stb L K) (hd : seqOf h d = some ds) (hn : ∀ n, d = .ref n → 2 < n) (h0 : 0 < ds.length) (h1 : ds.length < 1073741824) (c : ∀ x h', x ∈ ds → St L K h' → Q x h') : Wp (c_pick [.ref 2, d] h) Q X := by
  refine wp_mono (pick_wp S.deck hd (fun n e => by have := hn n e; unfold Two; omega) h0 h1) ?_ fun _ _ _ x => x.elim
  rintro d h' ⟨hm, D, F, _⟩
  exact c d h' hm (S.frm sK D F)
theorem pkl (S : St L K h) (sK : Stb L K) (h0 : 0 < ds.length) (h1 : ds.length < 1073741824) (c : ∀ x h', x ∈ ds → St L K h' → Q x h') : Wp (c_pick [.ref 2, .lst ds] h) Q X :=
  pk S sK seq_lst (fun n e => by cases e) h0 h1 c
theorem St.on {N : Nat} {o : O} {h' : Hs} (S : St L K h) (sK : Stb L K) (e : N = h.length) (D : Deck 2 1 h') (F : Frm (Two 2 1) h h') (l : N < h'.length) (g : h'[N]? = some o) : St (N + 1) (fun h' => K h' ∧ h'[N]? = some o) h' :=
  ⟨D, ⟨sK _ _ S.keep S.len fun n hn h1 h2 => F.2 n (Nat.lt_of_lt_of_le hn S.len) (by unfold Two; omega), g⟩, l⟩
/-! ### what is new forgotten -/
/-- all that stood but the deck stands -/
def Old (h g : Hs) : Prop := ∀ n, n < h.length → n ≠ 1 → n ≠ 2 → g[n]? = h[n]?
theorem stb_old {h : Hs} : Stb h.length (Old h) := fun _ _ k l f n hn h1 h2 => (f n hn h1 h2).trans (k n hn h1 h2)
theorem St.mark (S : St L K h) (sK : Stb L K) : St h.length (fun g => K g ∧ Old h g) h ∧ Stb h.length (fun g => K g ∧ Old h g) :=
  ⟨⟨S.deck, ⟨S.keep, fun _ _ _ _ => rfl⟩, Nat.le_refl _⟩, (sK.mono S.len).and stb_old⟩
theorem St.weak {L1 : Nat} {K1 K2 : Hs → Prop} (S : St L1 K1 h) (l : L ≤ L1) (k : K1 h → K2 h) : St L K2 h := ⟨S.deck, k S.keep, Nat.le_trans l S.len⟩
theorem St.cut {h1 : Hs} (S : St L K h) (sK : Stb L K) (S1 : St h.length (fun g => K g ∧ Old h g) h1) : Cls h h1 ∧ St L K (h1.take h.length) := by
  obtain ⟨ne, ⟨s, c, d1⟩, ⟨ns, dl, d2⟩⟩ := S1.deck
  have hl := S1.len
  have hd := S.lt
  constructor
  · intro k hk
    by_cases k1 : k = 1
    · subst k1
      refine .inr ⟨_, d2, ?_⟩
      show bels _ (ns.map D.int) = true
      clear d2 dl
      induction ns with
      | nil => rfl
      | cons n ns ih => exact ih
    · by_cases k2 : k = 2
      · subst k2
        refine .inr ⟨_, d1, ?_⟩
        show (decide (1 < h.length) && (true && (true && true))) = true
        rw [decide_eq_true (by omega)]; rfl
      · exact .inl (S1.keep.2 k hk k1 k2)
  · have g : ∀ n o, n < h.length → h1[n]? = some o → (h1.take h.length)[n]? = some o := fun n o hn e => by rw [List.getElem?_take_of_lt hn]; exact e
    refine ⟨⟨ne, ⟨s, c, g 2 _ (by omega) d1⟩, ⟨ns, dl, g 1 _ (by omega) d2⟩⟩, ?_, ?_⟩
    · refine sK h _ S.keep S.len fun n hn n1 n2 => ?_
      have hn' : n < h.length := Nat.lt_of_lt_of_le hn S.len
      rw [List.getElem?_take_of_lt hn']
      exact S1.keep.2 n hn' n1 n2
    · rw [List.length_take]; have := S.len; omega
/-- a function whose new things nobody else knows -/
theorem wp_gcS {fn : List D → Hs → R D} {as : List D} (S : St L K h) (sK : Stb L K)
    (g : St h.length (fun g => K g ∧ Old h g) h → Stb h.length (fun g => K g ∧ Old h g) → Wp (fn as h) (fun d h1 => ∃ d', dW (dH h1 h.length 50) d = some d' ∧ St h.length (fun g => K g ∧ Old h g) h1 ∧ ∀ h2, St L K h2 → Q d' h2) nX) : Wp (gcF fn as h) Q X := by
  refine wp_gcF (wp_mono (g (S.mark sK).1 (S.mark sK).2) ?_ fun _ _ _ x => x.elim)
  rintro d h1 ⟨d', e, S1, q⟩
  obtain ⟨c, S2⟩ := S.cut sK S1
  exact ⟨d', e, c, q _ S2⟩
/-- a thing is put into the heap behind -/
theorem St.app {o : O} (S : St L K h) (sK : Stb L K) : St (h.length + 1) (fun h' => K h' ∧ h'[h.length]? = some o) (h ++ [o]) := S.on sK rfl S.deck.app .app (by simp) get_new
/-- the thing behind is put otherwise -/
theorem St.put {N : Nat} {o o' : O} (S : St (N + 1) (fun h => K h ∧ h[N]? = some o) h) (hN : 2 < N) (sK : Stb N K) : St (N + 1) (fun h => K h ∧ h[N]? = some o') (h.set N o') := by
  obtain ⟨ne, ⟨s, k, h1⟩, ⟨ns, hl, h2⟩⟩ := S.deck
  refine ⟨⟨ne, ⟨s, k, by rw [get_set_ne (by omega)]; exact h1⟩, ⟨ns, hl, by rw [get_set_ne (by omega)]; exact h2⟩⟩, ⟨sK _ _ S.keep.1 (by have := S.len; omega) fun n hn _ _ => get_set_ne (by omega), get_set_eq S.keep.2⟩, ?_⟩
  rw [List.length_set]; exact S.len
/-- what stands behind is let go -/
theorem St.off {N : Nat} {o : O} (S : St (N + 1) (fun h => K h ∧ h[N]? = some o) h) (l : L ≤ N) : St L K h := ⟨S.deck, S.keep.1, by have := S.len; omega⟩
end
theorem deck_st {ns : List Int} (hl : ns.length ≤ 63) {Q : D → Hs → Prop} {X : XQ} (c : ∀ h, St 3 (fun _ => True) h → Q (.ref 2) h) : Wp (c_deck [.scr (ns.map .int)] []) Q X := by
  refine wp_mono (deck_wp hl) ?_ fun _ _ _ x => x.elim
  rintro d h ⟨rfl, D, F, L⟩
  exact c h ⟨D, trivial, by rw [L]; simp⟩
theorem ne_sb {h : Hs} {p : Bool} : gNe h (.str (sB p)) (.str (sB p)) = some (.bl false) := by
  have := eq_sb (h := h) (p := p)
  unfold gEq at this
  unfold gNe
  cases q : gEqB h (.str (sB p)) (.str (sB p)) with
  | none => rw [q] at this; cases this
  | some b => rw [q] at this; cases this; rfl
theorem ne_b {h : Hs} {p q : Bool} : gNe h (.bl p) (.bl q) = some (.bl (!(p == q))) := rfl
/-- one of a list, by a number that is not known -/
theorem wp_ixP {h : Hs} {ds : List D} {i : Int} {Q : D → Hs → Prop} {X : XQ} (P : D → Prop) (i0 : 0 ≤ i) (i1 : i < ds.length) (hP : ∀ x ∈ ds, P x) (c : ∀ x, P x → Q x h) : Wp (R.ofO (gIx h (.lst ds) (.int i)) h) Q X := by
  obtain ⟨x, hx, hm, _⟩ := atI_mem i0 i1
  exact wp_some (ix_lst hx) (c x (hP x hm))
def IntIn (a b : Int) (d : D) : Prop := ∃ i, d = .int i ∧ a ≤ i ∧ i ≤ b
theorem intIn {a b i : Int} (h : a ≤ i) (h' : i ≤ b) : IntIn a b (.int i) := ⟨i, rfl, h, h'⟩
theorem all_nil {P : D → Prop} : ∀ x ∈ ([] : List D), P x := fun _ h => by cases h
theorem all_cons {P : D → Prop} {d : D} {ds : List D} (a : P d) (b : ∀ x ∈ ds, P x) : ∀ x ∈ d :: ds, P x := fun x h => by
  rcases List.mem_cons.mp h with e | h
  · rw [e]; exact a
  · exact b x h
theorem tl : ("l" : Str) = T [108] := by decide +kernel
/-- a side -/
def IsSide (cs : List Nat) : Prop := cs = [108] ∨ cs = [114]
theorem wp_ne_sb {h : Hs} {p : Bool} {Q : D → Hs → Prop} {X : XQ} (g : Q (.bl false) h) : Wp (R.ofO (gNe h (.str (sB p)) (.str (sB p))) h) Q X := wp_some ne_sb g
theorem wp_eq_sb {h : Hs} {p : Bool} {Q : D → Hs → Prop} {X : XQ} (g : Q (.bl true) h) : Wp (R.ofO (gEq h (.str (sB p)) (.str (sB p))) h) Q X := wp_some eq_sb g
/-! ### dicts -/
theorem wp_d0t {e : Ev} {h : Hs} {Q : D → Hs → Prop} {X : XQ} (g : Q (.ref h.length) (h ++ [.dt []])) : Wp (eD0T e h) Q X := wp_ok g
theorem wp_d0k {e : Ev} {h : Hs} {Q : D → Hs → Prop} {X : XQ} (g : Q (.ref h.length) (h ++ [.dk []])) : Wp (eD0K e h) Q X := wp_ok g
theorem wp_d0 {e : Ev} {h : Hs} {Q : D → Hs → Prop} {X : XQ} (g : Q (.dct [] []) h) : Wp (eD0 e h) Q X := wp_ok g
theorem wp_valsT {f : FE} {e : Ev} {h : Hs} {Q : List D → Hs → Prop} {X : XQ} (g : Wp (f e h) (fun d h => ∃ n kvs, d = .ref n ∧ h[n]? = some (.dt kvs) ∧ Q (kvs.map (·.2)) h) X) : Wp (lValsT f e h) Q X := by
  refine wp_bind (wp_mono g (fun d h' q => ?_) fun _ _ _ x => x)
  obtain ⟨n, kvs, rfl, hn, q⟩ := q
  dsimp only
  rw [hn]
  exact wp_ok q
/-! # G20: data with dicts and lists: repr -/
def kP : Key → PyData
  | .inl i => .int i
  | .inr s => .str s
mutual
/-- data with dicts; what numbers stand for: r -/
def pdX (r : Nat → Option PyData) : D → Option PyData
  | .non => some .none
  | .bl b => some (.bool b)
  | .int i => some (.int i)
  | .str s => some (.str s)
  | .tup ds => (pdXs r ds).map .tuple
  | .lst ds => (pdXs r ds).map .list
  | .scr _ => none
  | .ref n => r n
  | .ty _ => none
  | .ctp _ => none
  | .dct ks ds => (pdXs r ds).map fun ps => .dict ((ks.map kP).zip ps)
  | .dtp ks ds => (pdXs r ds).map fun ps => .dict ((ks.map fun k => .tuple (k.map kP)).zip ps)
  | .dlk _ _ => none
  | .dlt _ _ => none
  | .ins _ _ _ => none
  | .glb _ => none
  | .exn _ _ _ => none
def pdXs (r : Nat → Option PyData) : List D → Option (List PyData)
  | [] => some []
  | d :: ds => match pdX r d with
    | some p => match pdXs r ds with | some ps => some (p :: ps) | none => none
    | none => none
end
def pdXH (hs : Hs) : Nat → Nat → Option PyData
  | 0, _ => none
  | k + 1, n => match hs[n]? with
    | some (.lst ds) => (pdXs (pdXH hs k) ds).map .list
    | _ => none
/-- read in the heap, apart from the table of modules -/
def Rdn (h : Heap) (v : Value) (p : PyData) : Prop := ∃ as, Reads h v p as ∧ sysModules ∉ as
def Rdns (h : Heap) (vs : List Value) (ps : List PyData) : Prop := ∃ as, ReadsAll h vs ps as ∧ sysModules ∉ as
theorem Rdns.nil {h : Heap} : Rdns h [] [] := ⟨[], .nil, by simp⟩
theorem Rdns.cons {h : Heap} {v : Value} {p : PyData} {vs : List Value} {ps : List PyData} (a : Rdn h v p) (b : Rdns h vs ps) : Rdns h (v :: vs) (p :: ps) := by
  obtain ⟨as, r, n⟩ := a
  obtain ⟨bs, s, m⟩ := b
  exact ⟨_, .cons r s, by simp [n, m]⟩
theorem pdXs_len {r : Nat → Option PyData} : ∀ {ds : List D} {ps : List PyData}, pdXs r ds = some ps → ps.length = ds.length
  | [], ps, e => by unfold pdXs at e; cases e; rfl
  | d :: ds, ps, e => by
    unfold pdXs at e
    split at e
    · split at e
      · rename_i qs hq
        cases e
        rw [List.length_cons, List.length_cons, pdXs_len hq]
      · cases e
    · cases e
section
variable {X : Cx} {pins : List (Addr × Obj)} {σ : L2.St} {H : Hp} {s : Shared} {mu : Mp} {hs : Hs}
/-- what is tracked is not the table of modules -/
theorem not_sm (I : L2.Inv X pins σ H s) (sm : ∃ o, X.base.get? sysModules = some o) {a : Addr} {u : HO} (h : H a = some u) : sysModules ≠ a := by
  obtain ⟨o, e⟩ := sm
  rintro rfl
  have := (I.bs _ _ e).2
  rw [h] at this; cases this
theorem keys_rd {h : Heap} {P : Program} {w : World} : ∀ {es : List DictEntry} {vs : List (Key × Value)}, Pairs (mixKind P w) es vs → ReadsAll h (es.map (·.key)) ((vs.map (·.1)).map kP) []
  | _, _, .nil => .nil
  | _, _, .cons (e := e) (kv := kv) hk hv t => by
    have r : Reads h e.key (kP kv.1) [] := by
      rcases keyIs_shape (show keyIs kv.1 e.key = true from hk) with ⟨i, tk, h1, h2⟩ | ⟨x, tk, h1, h2⟩
      · rw [h1, h2]; exact .int i tk
      · rw [h1, h2]; exact .str x tk
    exact ReadsAll.cons r (keys_rd t)
theorem vals_pairs {P : Program} {w : World} : ∀ {es : List DictEntry} {vs : List (Key × Value)}, Pairs (mixKind P w) es vs → es.map (·.val) = vs.map (·.2)
  | _, _, .nil => rfl
  | _, _, .cons hk hv t => by rw [List.map_cons, List.map_cons, hv, vals_pairs t]
theorem keysV_reads {h : Heap} : ∀ {ks : List Key} {us : List Value}, Vals (ks.map kV) us → ReadsAll h us (ks.map kP) []
  | [], _, .nil => .nil
  | .inl i :: ks, _, .cons r t => by
    obtain ⟨tk, rfl⟩ := r
    exact ReadsAll.cons (.int i tk) (keysV_reads t)
  | .inr x :: ks, _, .cons r t => by
    obtain ⟨tk, rfl⟩ := r
    exact ReadsAll.cons (.str x tk) (keysV_reads t)
theorem kt_reads (I : L2.Inv X pins σ H s) : ∀ {l : List (List Key × V)} {m : List (List Key × Addr × Value)}, KT H l m → ReadsAll s.heap (m.map fun x => Value.ref x.2.1) (l.map fun x => PyData.tuple (x.1.map kP)) []
  | _, _, .nil => .nil
  | _, _, .cons h t => by
    obtain ⟨its, rv, ⟨o, ho, hc, n, hd⟩, _⟩ := I.tuple (.inl (.inl h.2.1))
    exact ReadsAll.cons (.tuple ho hc hd (by simpa using keysV_reads rv)) (kt_reads I t)
mutual
theorem rd_reads (I : L2.Inv X pins σ H s) (sm : ∃ o, X.base.get? sysModules = some o) {r : Nat → Option PyData} (hr : ∀ n a p, mu.l[n]? = some a → r n = some p → Rdn s.heap (.ref a) p) : ∀ (d : D) (v : V) (u : Value) (p : PyData), RD X.K mu H d v → RelV v u → pdX r d = some p → Rdn s.heap u p
  | .non, _, _, _, h, r, e => by cases h; cases e; cases r; exact ⟨[], .none, by simp⟩
  | .bl b, _, _, _, h, r, e => by cases h; cases e; cases r; exact ⟨[], .bool b, by simp⟩
  | .int i, _, _, _, h, r, e => by cases h; cases e; obtain ⟨t, rfl⟩ := r; exact ⟨[], .int i t, by simp⟩
  | .str z, _, _, _, h, r, e => by cases h; cases e; obtain ⟨t, rfl⟩ := r; exact ⟨[], .str z t, by simp⟩
  | .ref n, _, _, _, h, r, e => by
    cases h with
    | ref q => cases r; exact hr _ _ _ q e
  | .tup ds, _, _, _, h, r, e => by
    cases h with
    | tup q rr =>
      obtain ⟨ps, h1, h2⟩ := Option.map_eq_some_iff.mp (show (pdXs _ ds).map PyData.tuple = some _ from e)
      subst h2
      cases r
      obtain ⟨its, rv, ⟨o, ho, hc, n, hd⟩, _⟩ := I.tuple q.sq
      obtain ⟨as, hr, hn⟩ := rds_reads I sm hr ds _ _ ps rr rv h1
      exact ⟨as, Reads.tuple ho hc hd hr, hn⟩
  | .lst ds, _, _, _, h, r, e => by
    cases h with
    | lst q z rr =>
      obtain ⟨ps, h1, h2⟩ := Option.map_eq_some_iff.mp (show (pdXs _ ds).map PyData.list = some _ from e)
      subst h2
      cases r
      obtain ⟨_, its, n, rv, ho⟩ := I.hok _ _ q
      obtain ⟨as, hr, hn⟩ := rds_reads I sm hr ds _ _ ps rr rv h1
      refine ⟨_, Reads.list ho rfl rfl (by simpa using hr), ?_⟩
      have := not_sm I sm q
      simp [hn, this]
  | .dct ks ds, _, _, _, h, r, e => by
    cases h with
    | dct q z hl rr =>
      rename_i a vs
      obtain ⟨ps, h1, h2⟩ := Option.map_eq_some_iff.mp (show (pdXs _ ds).map (fun ps => PyData.dict ((ks.map kP).zip ps)) = some _ from e)
      subst h2
      cases r
      obtain ⟨_, hd, ws, rel, o, es, ep, ho, hx, hdat, _, hp, _⟩ := dk_of I.hok q
      have hlv : ks.length = vs.length := by rw [hl, rr.length]
      have k1 : ws.map (·.1) = ks := by
        have : ∀ {l : List (Key × V)} {m : List (Key × Value)}, KV l m → m.map (·.1) = l.map (·.1) := by
          intro l m r
          unfold KV at r
          induction r with
          | nil => rfl
          | cons h t ih => rw [List.map_cons, List.map_cons, ih, h.1]
        rw [this rel, List.map_fst_zip (by omega)]
      have k2 : Vals vs (ws.map (·.2)) := by
        have : ∀ {l : List (Key × V)} {m : List (Key × Value)}, KV l m → Vals (l.map (·.2)) (m.map (·.2)) := by
          intro l m r
          unfold KV at r
          induction r with
          | nil => exact .nil
          | cons h t ih => exact .cons h.2 ih
        have := this rel
        rw [List.map_snd_zip (by omega)] at this
        exact this
      obtain ⟨as, hr, hn⟩ := rds_reads I sm hr ds _ _ ps rr k2 h1
      have hpl := pdXs_len h1
      refine ⟨a :: [] ++ as, Reads.dict ho hx.1 hdat ?_ ?_, ?_⟩
      · rw [List.map_fst_zip (by rw [List.length_map]; omega)]
        have := keys_rd (h := s.heap) hp
        rw [k1] at this
        exact this
      · rw [List.map_snd_zip (by rw [List.length_map]; omega), vals_pairs hp]
        exact hr
      · have := not_sm I sm q
        simp [hn, this]
  | .scr _, _, _, _, _, _, e => nomatch e
  | .ty _, _, _, _, _, _, e => nomatch e
  | .ctp _, _, _, _, _, _, e => nomatch e
  | .dtp ks ds, _, _, _, h, r, e => by
    cases h with
    | dtp q z hl rr =>
      rename_i a vs
      obtain ⟨ps, h1, h2⟩ := Option.map_eq_some_iff.mp (show (pdXs _ ds).map (fun ps => PyData.dict ((ks.map fun k => .tuple (k.map kP)).zip ps)) = some _ from e)
      subst h2
      cases r
      obtain ⟨_, hd, ws, rel, o, es, ep, ho, hx, hdat, he, _⟩ := dt_of I.hok q
      have hlv : ks.length = vs.length := by rw [hl, rr.length]
      have k2 : Vals vs (ws.map fun x => x.2.2) := by
        have : ∀ {l : List (List Key × V)} {m : List (List Key × Addr × Value)}, KT H l m → Vals (l.map (·.2)) (m.map fun x => x.2.2) := by
          intro l m r
          induction r with
          | nil => exact .nil
          | cons h t ih => exact .cons h.2.2 ih
        have := this rel
        rw [List.map_snd_zip (by omega)] at this
        exact this
      have k1 := kt_reads I rel
      have k3 : ((ks.zip vs).map fun x => PyData.tuple (x.1.map kP)) = ks.map fun k => PyData.tuple (k.map kP) := by
        have : (fun x : List Key × V => PyData.tuple (x.1.map kP)) = (fun k => PyData.tuple (k.map kP)) ∘ Prod.fst := rfl
        rw [this, ← List.map_map, List.map_fst_zip (by omega)]
      rw [k3] at k1
      obtain ⟨as, hr, hn⟩ := rds_reads I sm hr ds _ _ ps rr k2 h1
      have hpl := pdXs_len h1
      refine ⟨a :: [] ++ as, Reads.dict ho hx.1 hdat ?_ ?_, ?_⟩
      · rw [List.map_fst_zip (by rw [List.length_map]; omega), he, List.map_map]
        exact k1
      · rw [List.map_snd_zip (by rw [List.length_map]; omega), he, List.map_map]
        exact hr
      · have := not_sm I sm q
        simp [hn, this]
  | .dlk _ _, _, _, _, _, _, e => nomatch e
  | .dlt _ _, _, _, _, _, _, e => nomatch e
  | .ins _ _ _, _, _, _, _, _, e => nomatch e
  | .glb _, _, _, _, _, _, e => nomatch e
  | .exn _ _ _, _, _, _, _, _, e => nomatch e
theorem rds_reads (I : L2.Inv X pins σ H s) (sm : ∃ o, X.base.get? sysModules = some o) {r : Nat → Option PyData} (hr : ∀ n a p, mu.l[n]? = some a → r n = some p → Rdn s.heap (.ref a) p) : ∀ (ds : List D) (vs : List V) (us : List Value) (ps : List PyData), RDs X.K mu H ds vs → Vals vs us → pdXs r ds = some ps → Rdns s.heap us ps
  | [], _, _, _, h, r, e => by cases h; cases r; unfold pdXs at e; cases e; exact .nil
  | d :: ds, _, _, _, h, r, e => by
    cases h with
    | cons h1 h2 =>
      cases r with
      | cons r1 r2 =>
        unfold pdXs at e
        split at e
        · rename_i p hp
          split at e
          · rename_i ps hps
            cases e
            exact .cons (rd_reads I sm hr d _ _ p h1 r1 hp) (rds_reads I sm hr ds _ _ ps h2 r2 hps)
          · cases e
        · cases e
end
theorem pdXH_at (I : L2.Inv X pins σ H s) (sm : ∃ o, X.base.get? sysModules = some o) (S : Sim X.K X.mg mu hs H) : ∀ (k n : Nat) (a : Addr) (p : PyData), mu.l[n]? = some a → pdXH hs k n = some p → Rdn s.heap (.ref a) p
  | 0, _, _, _, _, e => by cases e
  | k + 1, n, a, p, hn, e => by
    unfold pdXH at e
    split at e
    · rename_i ds hd
      obtain ⟨ps, h1, h2⟩ := Option.map_eq_some_iff.mp e
      subst h2
      obtain ⟨u, e1, e2⟩ := S.at hn hd
      cases u <;> first
        | (rename_i vs
           obtain ⟨_, its, n, rv, ho⟩ := I.hok _ _ e1
           obtain ⟨as, hr, hnn⟩ := rds_reads I sm (fun n a p h q => pdXH_at I sm S k n a p h q) ds _ _ ps e2 rv h1
           refine ⟨_, Reads.list ho rfl rfl (by simpa using hr), ?_⟩
           have := not_sm I sm e1
           simp [hnn, this])
        | exact e2.elim
    · cases e
end
/-- repr of data, with dicts -/
def okX (p : PyData) : Bool := p.showable && decide (p.depth ≤ 60) && decide (p.shown.length ≤ sizeLine)
def isComp : D → Bool
  | .tup _ => true
  | .lst _ => true
  | .dct _ _ => true
  | .ref _ => true
  | _ => false
def gReprA (hs : Hs) (ds : List D) : Option D := match gRepr hs ds with
  | some w => some w
  | none => (match ds with
    | [d] => if isComp d = true then (match pdX (pdXH hs 40) d with | some p => if okX p = true then some (.str p.shown) else none | none => none) else none
    | _ => none)
theorem cg_reprA {X : Cx} (hgd : X.A.guards = some []) (hu : X.A.units + 64 < cLine) (sm : ∃ o, X.base.get? sysModules = some o) : CallR X (.builtin "repr") (rC X.K X.mg gReprA) := by
  rintro pins s σ H xs us Q I r ⟨mu, hs, ds, w, S, rs, hg, q⟩
  unfold gReprA at hg
  have go : ∀ (d : D) (a : Addr) (p : PyData), RD X.K mu H d (.ref a) → xs = [.ref a] → pdX (pdXH hs 40) d = some p → okX p = true → some (D.str p.shown) = some w → wpAny (model X.prog X.w) X.A (call (.builtin "repr") us) (EP X pins σ Q) X.xe s := by
    intro d a p hd hx hp hz hw
    cases hw
    subst hx
    unfold okX at hz
    simp only [Bool.and_eq_true, decide_eq_true_eq] at hz
    obtain ⟨⟨z1, z2⟩, z3⟩ := hz
    obtain ⟨u, rfl, ru⟩ := vals1 r
    obtain ⟨as, rd, hn⟩ := rd_reads I sm (fun n a p h q => pdXH_at I sm S 40 n a p h q) d _ _ p hd ru hp
    cases ru
    exact repr_of_reads' rd z1 (fun _ => hn) hgd (by omega) (fun _ _ e => e) (fun h' t tk hk => ⟨.str p.shown, H, I.kept hk, ⟨t, rfl⟩, fin0 S q (.str _)⟩) z3
  split at hg
  · rename_i w' hw
    cases hg
    exact cg_repr hgd hu pins s σ H xs us Q I r ⟨mu, hs, ds, _, S, rs, hw, q⟩
  · split at hg
    · rename_i d _
      split at hg
      · rename_i hc
        split at hg
        · rename_i p hp
          split at hg
          · rename_i hz
            cases rs with
            | cons r1 r2 =>
              cases r2
              have r1' := r1
              cases r1 <;> first
                | exact go _ _ p r1' rfl hp hz hg
                | cases hc
          · cases hg
        · cases hg
      · cases hg
    · cases hg
/-! # G21: tuples and lists times a number; upper -/
def gMulA (hs : Hs) (d e : D) : Option D := match d with
  | .tup xs => (match e with | .int k => if (!xs.isEmpty && decide (2 ≤ k) && decide (k ≤ 1000) && decide (xs.length ≤ 1000)) = true then some (.tup (List.replicate k.toNat xs).flatten) else none | _ => none)
  | .lst xs => (match e with | .int k => if (decide (-1000 ≤ k) && decide (k ≤ 1000) && decide (xs.length ≤ 1000)) = true then some (.lst (List.replicate k.toNat xs).flatten) else none | _ => none)
  | d => gMul hs d e
section
variable {X : Cx}
theorem RDs.rep {K : PySem.W.Frag} {mu : Mp} {H : Hp} {ds : List D} {vs : List V} (r : RDs K mu H ds vs) : ∀ n : Nat, RDs K mu H (List.replicate n ds).flatten (List.replicate n vs).flatten
  | 0 => .nil
  | n + 1 => by
    rw [List.replicate_succ, List.replicate_succ, List.flatten_cons, List.flatten_cons]
    exact r.append (RDs.rep r n)
theorem og_mulA : OpR X (binaryOp .Mult) (rB X.K X.mg gMulA) := by
  rintro pins s σ H x y v u Q I rx ry ⟨mu, hs, d, e, w, S, r1, r2, hg, q⟩
  unfold gMulA at hg
  split at hg
  · rename_i xs
    split at hg
    · rename_i k
      split at hg
      · rename_i hz
        simp only [Bool.and_eq_true, decide_eq_true_eq, Bool.not_eq_true'] at hz
        obtain ⟨⟨⟨z1, z2⟩, z3⟩, z4⟩ := hz
        cases hg
        cases r2
        cases r1 with
        | tup ht hr =>
          rename_i a vs
          have hl := hr.length
          have ne : vs ≠ [] := by
            intro e
            subst e
            cases hr
            cases z1
          exact op_repT pins s σ H _ _ v u Q I rx ry ⟨a, k, vs, rfl, rfl, ht.sq, ne, z2, z3, by omega, fun p hp => q mu _ _ (.new hp) (S.new hp) (.tup ⟨upd_same, S.fresh hp⟩ (RDs.agr (Lat.agr (.new hp) S) (hr.rep _)))⟩
      · cases hg
    · cases hg
  · rename_i xs
    split at hg
    · rename_i k
      split at hg
      · rename_i hz
        simp only [Bool.and_eq_true, decide_eq_true_eq] at hz
        obtain ⟨⟨z1, z2⟩, z3⟩ := hz
        cases hg
        cases r2
        cases r1 with
        | lst ht nz hr =>
          rename_i a vs
          have hl := hr.length
          have hm : vs.length * k.toNat ≤ sizeLine := by
            rw [sizeLine_eq, ← hl]
            exact Nat.le_trans (Nat.mul_le_mul z3 (show k.toNat ≤ 1000 by omega)) (by decide)
          exact op_rep pins s σ H _ _ v u Q I rx ry ⟨a, k, vs, rfl, rfl, ht, by omega, by omega, hm, fun p hp => q (mu.still p) _ _ (.newStill hp) (S.newStill hp) (.lst upd_same (.inl rfl) (RDs.agr (Lat.agr (.newStill hp) S) (hr.rep _)))⟩
      · cases hg
    · cases hg
  · exact og_mul pins s σ H x y v u Q I rx ry ⟨mu, hs, d, e, w, S, r1, r2, hg, q⟩
/-- text.upper() -/
def mUpper (hs : Hs) (d : D) (ds : List D) : Option (D × Hs) := match ds with
  | [] => (match d with | .str a => if a.length ≤ 5592405 then some (.str (Txt.upper a), hs) else none | _ => none)
  | _ => none
theorem mg_upper : MtR X "str.upper" (rMd X.K X.mg mUpper) := by
  rintro pins s σ H x xs v us Q I rx rxs ⟨mu, hs, d, ds, w, hs', S, r1, r2, hg, q⟩
  unfold mUpper at hg
  split at hg
  · split at hg
    · split at hg
      · rename_i hz
        cases hg
        cases r1
        cases r2
        exact mt_upper pins s σ H _ _ v us Q I rx rxs ⟨_, rfl, rfl, hz, fin0 S q (.str _)⟩
      · cases hg
    · cases hg
  · cases hg
end
/-! # G22: {k: v} by value, one entry with a fixed key -/
section
variable {K : PySem.W.Frag} {mg : Str → Option Value} {mu mu' : Mp} {hs hs' : Hs} {H H' : Hp}
theorem Agr.privI {p : Addr} {u : HO} {o : HO} (h : H p = some u) (i : ¬ Imm u) (nz : ¬ mu.fz p) : Agr mu H mu (upd H p o) :=
  ⟨List.prefix_rfl, fun _ h => h, fun a us e z => by rw [upd_ne (show a ≠ p from fun q => nz (q ▸ z))]; exact e, fun a w e im n => ⟨by
    rw [upd_ne]
    · exact e
    · intro z; rw [z, h] at e; cases e; exact i im, n⟩⟩
theorem Sim.privI {p : Addr} {u : HO} {o : HO} (S : Sim K mg mu hs H) (h : H p = some u) (i : ¬ Imm u) (n : p ∉ mu.l) (nz : ¬ mu.fz p) : Sim K mg mu hs (upd H p o) :=
  ⟨S.len, S.nd, S.dj, fun a z => by
    obtain ⟨u, e⟩ := S.fzl a z
    exact ⟨u, by rw [upd_ne (show a ≠ p from fun q => nz (q ▸ z))]; exact e⟩, fun k q hq => by
    obtain ⟨a, w, e1, e2, e3⟩ := S.obj k q hq
    exact ⟨a, w, e1, by rw [upd_ne (fun z => n (by rw [← z]; exact List.mem_of_getElem? e1))]; exact e2, RO.agr (.privI h i nz) e3⟩⟩
variable {X : Cx} {Wd : WX} {pos p1 : Pos} {i : Int} {j : Nat} {v : Expr} {f : FE}
def eD1 (k : Key) (f : FE) : FE := fun e hs => (f e hs).bind fun d hs => .ok (.dct [k] [d]) hs
end
/-! # G23: a text times a number -/
def repS (x : Str) (n : Int) : Str := ⟨(List.replicate n.toNat x.cps).foldl (· ++ ·) #[]⟩
theorem fold_size : ∀ (k : Nat) (a acc : Array Nat), ((List.replicate k a).foldl (· ++ ·) acc).size = acc.size + k * a.size
  | 0, a, acc => by simp
  | k + 1, a, acc => by
    rw [List.replicate_succ, List.foldl_cons, fold_size k a, Array.size_append, Nat.succ_mul]
    omega
theorem fold_T : ∀ (k : Nat) (a acc : List Nat), (List.replicate k a.toArray).foldl (· ++ ·) acc.toArray = (acc ++ (List.replicate k a).flatten).toArray
  | 0, a, acc => by simp
  | k + 1, a, acc => by
    rw [List.replicate_succ, List.foldl_cons, List.append_toArray, fold_T k a, List.replicate_succ, List.flatten_cons, List.append_assoc]
theorem repS_T (a : List Nat) (n : Int) : repS (T a) n = T (List.replicate n.toNat a).flatten := by
  unfold repS T
  exact congrArg Str.mk ((fold_T n.toNat a []).trans (by rw [List.nil_append]))
def gMulS (hs : Hs) (d e : D) : Option D := match d with
  | .str x => (match e with | .int n => if (decide (2 ≤ n) && decide (n ≤ 10000) && decide (x.length ≤ 1000)) = true then some (.str (repS x n)) else none | _ => none)
  | d => gMulA hs d e
theorem og_mulS {X : Cx} : OpR X (binaryOp .Mult) (rB X.K X.mg gMulS) := by
  rintro pins s σ H x y v u Q I rx ry ⟨mu, hs, d, e, w, S, r1, r2, hg, q⟩
  unfold gMulS at hg
  split at hg
  · rename_i z
    split at hg
    · rename_i n
      split at hg
      · rename_i hz
        simp only [Bool.and_eq_true, decide_eq_true_eq] at hz
        obtain ⟨⟨z1, z2⟩, z4⟩ := hz
        cases hg
        cases r1; cases r2
        obtain ⟨t, rfl⟩ := rx
        obtain ⟨t2, rfl⟩ := ry
        have hm : z.length * n.toNat ≤ 10000000 := by
          have := Nat.mul_le_mul z4 (show n.toNat ≤ 10000 by omega)
          omega
        by_cases z3 : z.length = 0
        · have hq : (n == 1 || z.length == 0) = true := by rw [z3]; exact Bool.or_true _
          have hr : repS z n = z := by
            have hz : z = ⟨#[]⟩ := by
              have : z.cps = #[] := Array.eq_empty_of_size_eq_zero z3
              cases z; exact congrArg Str.mk this
            rw [hz]
            have : ∀ k : Nat, (List.replicate k (#[] : Array Nat)).foldl (· ++ ·) #[] = #[] := by
              intro k
              induction k with
              | zero => rfl
              | succ k ih => rw [List.replicate_succ, List.foldl_cons]; exact ih
            exact congrArg Str.mk (this _)
          refine PySem.P.mul_str (by rw [decide_eq_false (by omega), decide_eq_false (by omega)]; rfl) (fun _ h => ?_) (fun _ h => ?_) ?_
          · rw [hq] at h; cases h
          · rw [hq] at h; cases h
          · rw [if_neg (by omega), if_pos hq]
            refine ⟨.str z, H, I, ⟨_, rfl⟩, ?_⟩
            rw [hr] at q
            exact fin0 S q (.str _)
        have z3 : 1 ≤ z.length := by omega
        have hq : (n == 1 || z.length == 0) = false := by
          rw [Bool.or_eq_false_iff]
          exact ⟨beq_eq_false_iff_ne.mpr (by omega), beq_eq_false_iff_ne.mpr (by omega)⟩
        refine PySem.P.mul_str (by rw [decide_eq_false (by omega), decide_eq_false (by omega)]; rfl) (fun _ _ => ?_) (fun _ _ => ?_) ?_
        · have : (z.length : Int) ≤ (2 ^ 63 - 1) / n := by
            rw [Int.le_ediv_iff_mul_le (by omega)]
            have h1 : (z.length : Int) * n ≤ 1000 * 10000 := Int.mul_le_mul (by omega) (by omega) (by omega) (by omega)
            omega
          omega
        · unfold Builtin.Str.tooLong
          rw [sizeLine_eq]
          exact decide_eq_false (by omega)
        · rw [if_neg (by omega), if_neg (by rw [hq]; exact Bool.false_ne_true)]
          refine ⟨?_, ⟨.str (repS z n), H, I.tok _, ⟨_, rfl⟩, fin0 S q (.str _)⟩⟩
          show ((List.replicate n.toNat z.cps).foldl (· ++ ·) #[]).size ≤ sizeLine
          rw [fold_size, sizeLine_eq]
          have h3 : n.toNat * z.cps.size ≤ 10000000 := by rw [Nat.mul_comm]; exact hm
          simp
          omega
      · cases hg
    · cases hg
  · exact og_mulA pins s σ H x y v u Q I rx ry ⟨mu, hs, d, e, w, S, r1, r2, hg, q⟩
/-! # G24: WP rules of what came later -/
section
variable {h hs : Hs} {e : Ev} {Q : D → Hs → Prop} {X : XQ} {p : Bool} {i j : Int} {z : Str} {a : List Nat} {xs : List D}
theorem reprA_b : gReprA h [.bl p] = some (.str (sB p)) := by unfold gReprA; rw [repr_b]
theorem wp_d1 {k : Key} {f : FE} (g : Wp (f e hs) (fun d h => Q (.dct [k] [d]) h) X) : Wp (eD1 k f e hs) Q X := wp_bind (wp_mono g (fun _ _ q => wp_ok q) fun _ _ _ x => x)
theorem mulS_tup {n : Int} (h1 : 2 ≤ n) (h2 : n ≤ 1000) (h3 : xs.isEmpty = false) (h4 : xs.length ≤ 1000) : gMulS h (.tup xs) (.int n) = some (.tup (List.replicate n.toNat xs).flatten) := by
  show gMulA h (.tup xs) (.int n) = _
  unfold gMulA
  dsimp only
  rw [h3, decide_eq_true h1, decide_eq_true h2, decide_eq_true h4]
  rfl
end
end G

/-! # G25: t[::-1] of a tuple -/
namespace G
open PySem PySem.Spec PyProof.Rows L2 HT
section
theorem adjust_rev (n : Nat) : Builtin.Slice.sliceAdjust none none (-1) (n : Int) = ((n : Int) - 1, -1) := by
  unfold Builtin.Slice.sliceAdjust
  simp
theorem places_rev (n : Nat) : Builtin.Slice.slicePlaces ((n : Int) - 1) (-1) (-1) = n := by
  unfold Builtin.Slice.slicePlaces
  simp
  omega
theorem fm_congr {a b : Type} {f g : a → Option b} : ∀ l : List a, (∀ m ∈ l, f m = g m) → l.filterMap f = l.filterMap g
  | [], _ => rfl
  | x :: l, h => by
    rw [List.filterMap_cons, List.filterMap_cons, h x List.mem_cons_self, fm_congr l fun m hm => h m (List.mem_cons_of_mem _ hm)]
theorem pick_rev (xs : Array Value) : ((List.range xs.size).filterMap fun (m : Nat) => xs[(((xs.size : Int) - 1) + (m : Int) * -1).toNat]?).toArray = xs.toList.reverse.toArray := by
  have e : (fun (m : Nat) => xs[(((xs.size : Int) - 1) + (m : Int) * -1).toNat]?) = fun (m : Nat) => xs[((xs.size : Int) - 1 - (m : Int)).toNat]? := by
    funext m
    have : ((xs.size : Int) - 1) + (m : Int) * -1 = (xs.size : Int) - 1 - m := by omega
    rw [this]
  rw [e]
  have h1 : (List.range xs.size).filterMap (fun (m : Nat) => xs[((xs.size : Int) - 1 - (m : Int)).toNat]?) = ((List.range xs.size).map fun k => xs.size - 1 - k).filterMap (xs[·]?) := by
    rw [List.filterMap_map]
    refine fm_congr _ fun m hm => ?_
    have : ((xs.size : Int) - 1 - m).toNat = xs.size - 1 - m := by have := List.mem_range.mp hm; omega
    rw [this]; rfl
  rw [h1, PySem.W.krv_range, List.filterMap_reverse, PySem.W.krv_all]
end
section
variable {prog : Program} {w : World} {A : Around} {E : Value → Shared → Prop} {s : Shared}
/-- what a slice without ends and with the step -1 comes to -/
theorem applied_rev {sl : Addr} {vs : Value} {n : Nat} {Q : Int × Int × Nat → Shared → Prop} (hs : s.heap.IsSliceOf sl .none .none vs) (ps : IsPart vs (some (-1))) (h : Q ((n : Int) - 1, -1, n) s) :
    wpAny (model prog w) A (Builtin.Slice.sliceApplied (.ref sl) (pure (n : Int))) Q E s := by
  cases ps with
  | int i tk =>
    rcases hs with ⟨o, ho, hc, hd⟩
    have f0 : ∀ R : Value → Shared → Prop, R .none s → wpAny (model prog w) A (field (.ref sl) 0) R E s := fun R q => wpAny_field ho hd rfl q
    have f1 : ∀ R : Value → Shared → Prop, R .none s → wpAny (model prog w) A (field (.ref sl) 1) R E s := fun R q => wpAny_field ho hd rfl q
    have f2 : ∀ R : Value → Shared → Prop, R (.int (-1) tk) s → wpAny (model prog w) A (field (.ref sl) 2) R E s := fun R q => wpAny_field ho hd rfl q
    delta Builtin.Slice.sliceApplied Builtin.Slice.sliceFields
    wp_walk using f0, f1, f2, slicePart_none, slicePart_int
    show Q ((Builtin.Slice.sliceAdjust none none (-1) (n : Int)).1, -1, Builtin.Slice.slicePlaces (Builtin.Slice.sliceAdjust none none (-1) (n : Int)).1 (Builtin.Slice.sliceAdjust none none (-1) (n : Int)).2 (-1)) s
    rw [adjust_rev, places_rev]
    exact h
theorem get_rev {t sl : Addr} {items : Array Value} {vs : Value} {Q : Value → Shared → Prop} (ht : IsTup s.heap t items) (hs : s.heap.IsSliceOf sl .none .none vs) (ps : IsPart vs (some (-1))) (hz : items.size ≤ sizeLine)
    (h : Q (.ref s.heap.objs.size) { s with heap := s.heap.push { cls := .type "tuple", data := .seq items.toList.reverse.toArray } }) : wpAny (model prog w) A (getItem (.ref t) (.ref sl)) Q E s := by
  have ap : ∀ R : Int × Int × Nat → Shared → Prop, R ((items.size : Int) - 1, -1, items.size) s → wpAny (model prog w) A.in1 (Builtin.Slice.sliceApplied (.ref sl) (pure (items.size : Int))) R E s := fun R q => applied_rev hs ps q
  have ty : s.TypeIs (.ref sl) "slice" := hs.imp fun o q => ⟨q.1, q.2.1⟩
  have items_ : ∀ R : Array Value → Shared → Prop, R items s → wpAny (model prog w) A.in1 (Builtin.Tuple.tupleItemsOf (.ref t)) R E s := fun R q => tupleItemsOf_ ht q
  have pk := pick_rev items
  have nz : (((items.size : Int) - 1 == 0 && (-1 : Int) == 1) && (items.size == items.size)) = false := by rw [show ((-1 : Int) == 1) = false from rfl, Bool.and_false]; rfl
  delta getItem
  first | refine wpAny_holding ?_ | skip
  refine wpAny_bind (wpAny_sequenceKey ht.typeIs (by decide) (wpAny_bind (wpAny_callSpecial?_slot (name := Str.ofString "__getitem__") ht.typeIs PyProof.Rows.slot_tuple_getitem (wpAny_call_entry PyProof.Rows.slot_tuple_getitem ht.typeIs entry_tuple_getitem ?_ (args_tuple_getitem _ _)))))
  wp_walk using items_, ap, wpAny_typeOf ty
  rw [pk, if_neg (by rw [List.size_toArray, List.length_reverse, Array.length_toList]; omega)]
  wp_walk
  exact ⟨_, rfl, wpAny_pure h⟩
end
section
variable {X : Cx} {Wd : WX} {a : Expr} {f1 : FE} {pos : Pos}
/-- t[::-1], a tuple or a list that is read, as a value -/
def gRev (hs : Hs) (d : D) : Option D := match d with
  | .tup ds => some (.tup ds.reverse)
  | .ctp ds => some (.tup ds.reverse)
  | .str z => if z.length ≤ sizeLine then some (.str (T z.cps.toList.reverse)) else none
  | d => (rdOf hs d).map fun ds => .lst ds.reverse
def tRevA (K : PySem.W.Frag) (te : TE) : TE := fun σ H Q => te σ H fun x H1 => (∃ z : Str, x = .str z ∧ z.length ≤ sizeLine ∧ Q (.str (T z.cps.toList.reverse)) H1) ∨ ∃ a xs, x = .ref a ∧ ((SqL K H1 a xs ∧ ∀ p, H1 p = none → Q (.ref p) (upd H1 p (.lst xs.reverse))) ∨ (SqT K H1 a xs ∧ ∀ p, H1 p = none → Q (.ref p) (upd H1 p (.tup xs.reverse))))
theorem pickS_rev (z : Str) : (((slicePicked z none none (some (-1, (default : Tok)))).filterMap (z.cps[·]?)).toArray) = z.cps.toList.reverse.toArray := by
  have e : slicePicked z none none (some (-1, (default : Tok))) = (List.range z.cps.size).map fun k => z.cps.size - 1 - k := PySem.W.krv_sliceRange z.cps.size
  rw [e, PySem.W.krv_range, List.filterMap_reverse, PySem.W.krv_all]
theorem pe_revA {e : Expr} {te : TE} {k : Nat} {p1 p2 p3 pos : Pos} (he : PE X e te) : PE X (.Subscript e (.Slice none none (some (.UnaryOp .USub (.Constant (.int 1) k p1) p2)) p3) pos) (tRevA X.K te) := by
  refine ⟨fun pins s σ H Q I h => Subscript_ (thn (he.run pins s σ H _ I h) fun v s1 ⟨x, H1, I1, r1, q⟩ => ?_)⟩
  have step : PO X (some (.UnaryOp .USub (.Constant (.int 1) k p1) p2)) (tPart (tUn (rU fun i => .int (-i)) (tC (.int 1)))) := po_some (pe_un un_neg pe_int)
  refine wpAny_Slice (thn (po_none.run pins s1 σ H1 (fun o G => o = none ∧ G = H1) I1 ⟨rfl, rfl⟩) fun vl s2 ⟨_, _, I2, pl, rfl, rfl⟩ => thn (po_none.run pins s2 σ _ (fun o G => o = none ∧ G = H1) I2 ⟨rfl, rfl⟩) fun vu s3 ⟨_, _, I3, pu, rfl, rfl⟩ => thn (step.run pins s3 σ _ (fun o G => o = some (-1) ∧ G = H1) I3 ⟨1, rfl, -1, rfl, rfl, rfl⟩) fun vs s4 ⟨_, _, I4, ps, rfl, rfl⟩ => ?_)
  have kp : ∀ b ob, s4.heap.get? b = some ob → (s4.heap.push { cls := .type "slice", data := .fields #[vl, vu, vs] }).get? b = some ob := fun b ob q => Heap.get?_push_of_some _ q
  have J := I4.kept (t' := s4.toks) kp
  rcases q with ⟨z, rfl, hz, q⟩ | ⟨a, xs, hx, q⟩
  · obtain ⟨tz, rfl⟩ := r1
    cases pl
    cases pu
    cases ps with
    | int i tk =>
      refine tail_any (ops := [.str z tz, .ref s4.heap.objs.size]) (typeIs_str _ z tz) PySem.F.slot_str_getitem.lookup (wpAny_getItem_str_slice (l := none) (u := none) (st := some (-1, tk)) ⟨_, Heap.get?_push_size _ rfl, rfl, rfl⟩ rfl ?_) (by with_unfolding_all rfl)
      have e : sliceMade z tz none none (some (-1, tk)) = .str (T z.cps.toList.reverse) := congrArg (fun a => Made.str (Str.mk a)) (pickS_rev z)
      rw [e]
      refine ⟨?_, ⟨.str _, _, J.tok _, ⟨_, rfl⟩, q⟩⟩
      rw [T_len, List.length_reverse]
      exact hz
  subst hx
  cases r1
  rcases q with ⟨hq, q⟩ | ⟨hq, q⟩
  · obtain ⟨its, r, ht, hz⟩ := J.list hq
    have hl := r.length
    refine tail_any (ops := [.ref a, .ref s4.heap.objs.size]) ht.isList.typeIs PySem.slot_list_getitem.lookup (wpAny_getItem_list_slice ht.isList (.new _ vl vu vs) pl pu ps (by decide) ?_ (by rw [List.size_toArray]; omega)) (by with_unfolding_all rfl)
    rw [PySem.W.krv_pick]
    exact ⟨.ref _, _, J.laid (t' := s4.toks) (o := .lst xs.reverse) (fun b ob q => Heap.get?_push_of_some _ q) (Nat.le_refl _) ⟨by rw [List.length_reverse]; exact hz, _, 0, r.reverse, Heap.get?_push_size _ rfl⟩, rfl, q _ (J.hok.fresh (Nat.le_refl _))⟩
  · obtain ⟨its, r, ht, hz⟩ := J.tuple hq
    cases pl
    cases pu
    have hl := r.length
    refine tail_any (ops := [.ref a, .ref s4.heap.objs.size]) ht.typeIs PyProof.Rows.slot_tuple_getitem.lookup (get_rev ht (.new _ .none .none vs) ps (by rw [List.size_toArray]; omega) ?_) (by with_unfolding_all rfl)
    exact ⟨.ref _, _, J.laid (t' := s4.toks) (o := .tup xs.reverse) (fun b ob q => Heap.get?_push_of_some _ q) (Nat.le_refl _) ⟨by rw [List.length_reverse]; exact hz, _, r.reverse, ⟨_, Heap.get?_push_size _ rfl, rfl, 0, rfl⟩⟩, rfl, q _ (J.hok.fresh (Nat.le_refl _))⟩
theorem ue_revA {k : Nat} {p1 p2 p3 : Pos} (ha : UE X Wd a f1) : UE X Wd (.Subscript a (.Slice none none (some (.UnaryOp .USub (.Constant (.int 1) k p1) p2)) p3) pos) (eUn gRev f1) := by
  refine PE.imp (pe_revA ha) fun σ H Q h => ?_
  obtain ⟨e, mu, hs, S, E, q⟩ := tG_un h
  refine ⟨e, mu, hs, S, E, q.imp fun x H1 ⟨mu, hs, d, w, S, r, hg, q⟩ => ?_⟩
  unfold gRev at hg
  have lst : (rdOf hs d).map (fun ds => D.lst ds.reverse) = some w → ∃ a xs, x = .ref a ∧ ((SqL X.K H1 a xs ∧ ∀ p, H1 p = none → Q (.ref p) (upd H1 p (.lst xs.reverse))) ∨ (SqT X.K H1 a xs ∧ ∀ p, H1 p = none → Q (.ref p) (upd H1 p (.tup xs.reverse)))) := by
    intro e
    obtain ⟨ds, e1, rfl⟩ := Option.map_eq_some_iff.mp e
    obtain ⟨p, vs, rfl, h1, h2⟩ := rdOf_at S r e1
    exact ⟨p, vs, rfl, .inl ⟨h1, fun p hp => finL S q hp h2.reverse⟩⟩
  have tup : ∀ ds, tupOf d = some ds → w = .tup ds.reverse → ∃ a xs, x = .ref a ∧ ((SqL X.K H1 a xs ∧ ∀ p, H1 p = none → Q (.ref p) (upd H1 p (.lst xs.reverse))) ∨ (SqT X.K H1 a xs ∧ ∀ p, H1 p = none → Q (.ref p) (upd H1 p (.tup xs.reverse)))) := by
    intro ds e e2
    subst e2
    obtain ⟨p, vs, rfl, h1, h2⟩ := tupOf_at r e
    exact ⟨p, vs, rfl, .inr ⟨h1, fun p hp => finT S q hp h2.reverse⟩⟩
  cases d with
  | str z =>
    dsimp only at hg
    split at hg
    · rename_i hz
      cases hg
      cases r
      exact .inl ⟨z, rfl, hz, fin0 S q (.str _)⟩
    · cases hg
  | tup ds => cases hg; exact .inr (tup ds rfl rfl)
  | ctp ds => cases hg; exact .inr (tup ds rfl rfl)
  | _ => exact .inr (lst hg)
/-- a + b of lists, a new list -/
def lAdd (f1 f2 : FE) : FL := fun e hs => (f1 e hs).bind fun x hs => (f2 e hs).bind fun y hs => match lstOf hs x with
  | some xs => (match lstOf hs y with
    | some ys => if xs.length + ys.length ≤ sizeLine then .ok (xs ++ ys) hs else .bad
    | none => .bad)
  | none => .bad
end
end G

/-! # G26: small data: its repr is a text -/
namespace G
open PySem PySem.Spec PyProof.Rows L2
mutual
def dep : D → Nat
  | .tup ds => deps ds + 1
  | .lst ds => deps ds + 1
  | .dct _ ds => deps ds + 1
  | _ => 0
def deps : List D → Nat
  | [] => 0
  | d :: ds => max (dep d) (deps ds)
end
def kblk : Key → Nat
  | .inl _ => 0
  | .inr s => s.length
mutual
def blk : D → Nat
  | .str s => s.length
  | .tup ds => blks ds
  | .lst ds => blks ds
  | .dct ks ds => (ks.map kblk).sum + ks.length + blks ds
  | _ => 0
def blks : List D → Nat
  | [] => 0
  | d :: ds => blk d + 1 + blks ds
end
def klf : Key → Bool
  | .inl i => decide (i.natAbs < 10 ^ 60)
  | .inr s => okS s
mutual
/-- plain data, whole numbers of at most sixty figures -/
def lf : D → Bool
  | .non => true
  | .bl _ => true
  | .int i => decide (i.natAbs < 10 ^ 60)
  | .str s => okS s
  | .tup ds => lfs ds
  | .lst ds => lfs ds
  | .dct ks ds => ks.all klf && decide (ks.length = ds.length) && lfs ds
  | _ => false
def lfs : List D → Bool
  | [] => true
  | d :: ds => lf d && lfs ds
end
theorem lfs_cons {d : D} {ds : List D} : lfs (d :: ds) = true ↔ lf d = true ∧ lfs ds = true := Bool.and_eq_true _ _ ▸ Iff.rfl
theorem lfs_iff {ds : List D} : lfs ds = true ↔ ∀ x ∈ ds, lf x = true := by
  induction ds with
  | nil => exact ⟨fun _ x h => (nomatch h), fun _ => rfl⟩
  | cons d ds ih => rw [lfs_cons, ih]; simp
theorem lfs_app {xs ys : List D} : lfs (xs ++ ys) = true ↔ lfs xs = true ∧ lfs ys = true := by
  rw [lfs_iff, lfs_iff, lfs_iff]
  simp only [List.mem_append]
  exact ⟨fun h => ⟨fun x hx => h x (.inl hx), fun x hx => h x (.inr hx)⟩, fun h x hx => hx.elim (h.1 x) (h.2 x)⟩
theorem blks_app (xs ys : List D) : blks (xs ++ ys) = blks xs + blks ys := by
  induction xs with
  | nil => exact (Nat.zero_add _).symm
  | cons d ds ih => show blk d + 1 + blks (ds ++ ys) = blk d + 1 + blks ds + blks ys; rw [ih]; omega
theorem blks_mem {xs : List D} {x : D} (h : x ∈ xs) : blk x + 1 ≤ blks xs := by
  induction xs with
  | nil => cases h
  | cons d ds ih =>
    show _ ≤ blk d + 1 + blks ds
    rcases List.mem_cons.mp h with rfl | h
    · omega
    · have := ih h; omega
theorem deps_iff {xs : List D} {k : Nat} : deps xs ≤ k ↔ ∀ x ∈ xs, dep x ≤ k := by
  induction xs with
  | nil => exact ⟨fun _ x h => (nomatch h), fun _ => Nat.zero_le _⟩
  | cons d ds ih =>
    show max (dep d) (deps ds) ≤ k ↔ _
    rw [Nat.max_le, ih]; simp
theorem blks_sub {xs ys : List D} (h : xs.Sublist ys) : blks xs ≤ blks ys := by
  induction h with
  | slnil => exact Nat.le_refl _
  | cons a _ ih => exact Nat.le_trans ih (Nat.le_add_left _ _)
  | cons_cons a _ ih => exact Nat.add_le_add_left ih _
theorem blks_len {xs : List D} : xs.length ≤ blks xs := by
  induction xs with
  | nil => exact Nat.le_refl _
  | cons d ds ih => show ds.length + 1 ≤ blk d + 1 + blks ds; omega

theorem okS_lt {s : Str} (h : okS s = true) : ∀ c ∈ s.cps.toList, c < 0x110000 := by
  intro c hc
  unfold okS at h
  rw [Array.all_eq_true'] at h
  exact of_decide_eq_true (h c (by simpa using hc))
theorem int_lf {i : Int} (h : i.natAbs < 10 ^ 60) : i.natAbs.log2 < 1920 := by
  by_cases z : i.natAbs = 0
  · rw [z]; decide
  · rw [Nat.log2_lt z]
    exact Nat.lt_trans h (by decide +kernel)
theorem int_len {i : Int} (h : i.natAbs < 10 ^ 60) : decide ((PyData.shown (.int i)).length ≤ 64) = true := by
  apply decide_eq_true
  show (Str.ofString (toString i)).length ≤ 64
  rw [PySem.ofString_length]
  exact Nat.le_trans (int_text_length_le10 (by decide) h) (by decide)
structure Good (d : D) (p : PyData) : Prop where
  at_ : ∀ r, pdX r d = some p
  show_ : p.showable = true
  dep_ : p.depth ≤ dep d
  leaf : p.leavesShort 64 = true
  bulk_ : p.bulk ≤ blk d
structure Goods (ds : List D) (ps : List PyData) : Prop where
  at_ : ∀ r, pdXs r ds = some ps
  show_ : PyData.showableAll ps = true
  dep_ : PyData.depthAll ps ≤ deps ds
  leaf : PyData.leavesShortAll 64 ps = true
  bulk_ : PyData.bulkAll ps ≤ blks ds
theorem kP_good {k : Key} (h : klf k = true) : (kP k).showable = true ∧ (kP k).depth = 0 ∧ (kP k).leavesShort 64 = true ∧ (kP k).bulk = kblk k := by
  cases k with
  | inl i =>
    have h : i.natAbs < 10 ^ 60 := of_decide_eq_true h
    exact ⟨decide_eq_true (int_lf h), rfl, int_len h, rfl⟩
  | inr s =>
    refine ⟨rfl, rfl, ?_, rfl⟩
    show (s.cps.toList.all fun c => decide (c < 16 ^ 8)) = true
    rw [List.all_eq_true]
    intro c hc
    have := okS_lt h c hc
    exact decide_eq_true (by omega)
theorem kv_good : ∀ {ks : List Key} {ps : List PyData} {n b : Nat}, ks.length = ps.length → ks.all klf = true → PyData.showableAll ps = true → PyData.depthAll ps ≤ n → PyData.leavesShortAll 64 ps = true → PyData.bulkAll ps ≤ b →
    PyData.showableKv ((ks.map kP).zip ps) = true ∧ PyData.depthKv ((ks.map kP).zip ps) ≤ n ∧ PyData.leavesShortKv 64 ((ks.map kP).zip ps) = true ∧ PyData.bulkKv ((ks.map kP).zip ps) ≤ (ks.map kblk).sum + ks.length + b
  | [], [], n, b, _, _, _, _, _, _ => ⟨rfl, Nat.zero_le _, rfl, Nat.zero_le _⟩
  | k :: ks, p :: ps, n, b, hl, hk, h1, h2, h3, h4 => by
    rw [List.all_cons, Bool.and_eq_true] at hk
    have h1 := (Bool.and_eq_true _ _).mp (show (p.showable && PyData.showableAll ps) = true from h1)
    have h3 := (Bool.and_eq_true _ _).mp (show (p.leavesShort 64 && PyData.leavesShortAll 64 ps) = true from h3)
    have h2 : max p.depth (PyData.depthAll ps) ≤ n := h2
    have h4 : p.bulk + 1 + PyData.bulkAll ps ≤ b := h4
    obtain ⟨g1, g2, g3, g4⟩ := kP_good hk.1
    have ez : ((k :: ks).map kP).zip (p :: ps) = (kP k, p) :: (ks.map kP).zip ps := rfl
    rw [ez]
    obtain ⟨i1, i2, i3, i4⟩ := kv_good (ks := ks) (ps := ps) (n := n) (b := PyData.bulkAll ps) (by simpa using hl) hk.2 h1.2 (by omega) h3.2 (Nat.le_refl _)
    refine ⟨?_, ?_, ?_, ?_⟩
    · show ((kP k).showable && p.showable && PyData.showableKv ((ks.map kP).zip ps)) = true
      rw [g1, h1.1, i1]; rfl
    · show max (max (kP k).depth p.depth) (PyData.depthKv ((ks.map kP).zip ps)) ≤ n
      rw [g2]; omega
    · show ((kP k).leavesShort 64 && p.leavesShort 64 && PyData.leavesShortKv 64 ((ks.map kP).zip ps)) = true
      rw [g3, h3.1, i3]; rfl
    · show (kP k).bulk + p.bulk + 2 + PyData.bulkKv ((ks.map kP).zip ps) ≤ _
      rw [g4, List.map_cons, List.sum_cons, List.length_cons]; omega
mutual
theorem lf_good : ∀ {d : D}, lf d = true → ∃ p, Good d p
  | .non, _ => ⟨_, fun _ => rfl, rfl, Nat.zero_le _, rfl, Nat.zero_le _⟩
  | .bl b, _ => ⟨_, fun _ => rfl, rfl, Nat.zero_le _, rfl, Nat.zero_le _⟩
  | .int i, h => by
    have h' : i.natAbs < 10 ^ 60 := of_decide_eq_true h
    exact ⟨_, fun _ => rfl, decide_eq_true (int_lf h'), Nat.zero_le _, int_len h', Nat.zero_le _⟩
  | .str s, h => by
    refine ⟨.str s, fun _ => rfl, rfl, Nat.zero_le _, ?_, Nat.le_refl _⟩
    show (s.cps.toList.all fun c => decide (c < 16 ^ 8)) = true
    rw [List.all_eq_true]
    intro c hc
    have := okS_lt h c hc
    exact decide_eq_true (by omega)
  | .tup ds, h => by
    obtain ⟨ps, g⟩ := lfs_good (ds := ds) h
    exact ⟨.tuple ps, fun r => by show (pdXs r ds).map PyData.tuple = _; rw [g.at_ r]; rfl, g.show_, Nat.succ_le_succ g.dep_, g.leaf, g.bulk_⟩
  | .lst ds, h => by
    obtain ⟨ps, g⟩ := lfs_good (ds := ds) h
    exact ⟨.list ps, fun r => by show (pdXs r ds).map PyData.list = _; rw [g.at_ r]; rfl, g.show_, Nat.succ_le_succ g.dep_, g.leaf, g.bulk_⟩
  | .dct ks ds, h => by
    have h := (Bool.and_eq_true _ _).mp (show (ks.all klf && decide (ks.length = ds.length) && lfs ds) = true from h)
    have h1 := (Bool.and_eq_true _ _).mp h.1
    obtain ⟨ps, g⟩ := lfs_good (ds := ds) h.2
    obtain ⟨i1, i2, i3, i4⟩ := kv_good (by rw [pdXs_len (g.at_ fun _ => none)]; exact of_decide_eq_true h1.2) h1.1 g.show_ g.dep_ g.leaf g.bulk_
    exact ⟨.dict ((ks.map kP).zip ps), fun r => by show (pdXs r ds).map _ = _; rw [g.at_ r]; rfl, i1, Nat.succ_le_succ i2, i3, i4⟩
theorem lfs_good : ∀ {ds : List D}, lfs ds = true → ∃ ps, Goods ds ps
  | [], _ => ⟨[], fun _ => rfl, rfl, Nat.zero_le _, rfl, Nat.zero_le _⟩
  | d :: ds, h => by
    have h := lfs_cons.mp h
    obtain ⟨p, g⟩ := lf_good h.1
    obtain ⟨ps, g2⟩ := lfs_good h.2
    refine ⟨p :: ps, fun r => ?_, ?_, ?_, ?_, ?_⟩
    · show (match pdX r d with | some p => (match pdXs r ds with | some ps => some (p :: ps) | none => none) | none => none) = _
      rw [g.at_ r, g2.at_ r]
    · show (p.showable && PyData.showableAll ps) = true
      rw [g.show_, g2.show_]; rfl
    · show max _ _ ≤ max _ _
      have := g.dep_; have := g2.dep_; omega
    · show (p.leavesShort 64 && PyData.leavesShortAll 64 ps) = true
      rw [g.leaf, g2.leaf]; rfl
    · show _ + 1 + _ ≤ _ + 1 + _
      have := g.bulk_; have := g2.bulk_; omega
end
mutual
theorem pdW_X {r r' : Nat → Option PyData} : ∀ {d : D} {p : PyData}, lf d = true → pdW r d = some p → pdX r' d = some p
  | .non, _, _, e => e
  | .bl b, _, _, e => e
  | .int i, _, _, e => e
  | .str s, _, _, e => e
  | .tup ds, p, h, e => by
    obtain ⟨ps, e1, rfl⟩ := Option.map_eq_some_iff.mp (show (pdWs r ds).map PyData.tuple = some _ from e)
    show (pdXs r' ds).map PyData.tuple = _
    rw [pdWs_X h e1]; rfl
  | .lst ds, p, h, e => by
    obtain ⟨ps, e1, rfl⟩ := Option.map_eq_some_iff.mp (show (pdWs r ds).map PyData.list = some _ from e)
    show (pdXs r' ds).map PyData.list = _
    rw [pdWs_X h e1]; rfl
  | .dct _ _, _, _, e => nomatch e
theorem pdWs_X {r r' : Nat → Option PyData} : ∀ {ds : List D} {ps : List PyData}, lfs ds = true → pdWs r ds = some ps → pdXs r' ds = some ps
  | [], _, _, e => e
  | d :: ds, ps, h, e => by
    have h := lfs_cons.mp h
    unfold pdWs at e
    split at e
    · rename_i p hp
      split at e
      · rename_i qs hq
        cases e
        unfold pdXs
        rw [pdW_X (r' := r') h.1 hp, pdWs_X (r' := r') h.2 hq]
      · cases e
    · cases e
end
/-- its repr -/
@[irreducible] def rT (d : D) : Str := match pdX (fun _ => none) d with
  | some p => p.shown
  | none => Str.ofString ""
/-- plain data, not too deep, not too great -/
structure Sm (k n : Nat) (d : D) : Prop where
  lf_ : lf d = true
  dep_ : dep d ≤ k
  blk_ : blk d ≤ n
theorem repr_sm {h : Hs} {d : D} {k n : Nat} (s : Sm k n d) (hk : k ≤ 60) (hn : n ≤ 200000) : gReprA h [d] = some (.str (rT d)) := by
  obtain ⟨p, g⟩ := lf_good s.lf_
  have e : rT d = p.shown := by unfold rT; rw [g.at_]
  have hz : p.shown.length ≤ sizeLine := by
    have h1 := PyData.shown_le_bulk 64 (by decide) p g.leaf
    have h2 := g.bulk_
    have h3 := s.blk_
    have h4 := sizeLine_eq
    have : (64 + 2) * p.bulk ≤ (64 + 2) * 200000 := Nat.mul_le_mul_left _ (by omega)
    omega
  have hx : okX p = true := by
    unfold okX
    rw [g.show_, decide_eq_true (show p.depth ≤ 60 by have := g.dep_; have := s.dep_; omega), decide_eq_true hz]; rfl
  unfold gReprA
  cases q : gRepr h [d] with
  | some w =>
    dsimp only
    unfold gRepr at q
    dsimp only at q
    split at q
    · rename_i p' hp
      split at q
      · cases q
        have := pdW_X (r' := fun _ => none) s.lf_ hp
        rw [g.at_] at this; cases this
        rw [e]
      · cases q
    · cases q
  | none =>
    dsimp only
    unfold gRepr at q
    dsimp only at q
    have sc : isComp d = false → pd h d = some p ∧ p.hasDict = false := by
      intro c
      have := g.at_ (fun _ => none)
      have lf' := s.lf_
      cases d <;> first | (cases c; done) | (cases this; exact ⟨rfl, rfl⟩) | (exact absurd lf' Bool.false_ne_true)
    cases c : isComp d with
    | true =>
      rw [if_pos rfl, g.at_]
      dsimp only
      rw [if_pos hx, e]
    | false =>
      obtain ⟨c1, c2⟩ := sc c
      rw [c1] at q
      dsimp only at q
      have : smallText p = true := by
        unfold smallText
        rw [g.show_, decide_eq_true (show p.depth ≤ 60 by have := g.dep_; have := s.dep_; omega), decide_eq_true hz, c2]; rfl
      rw [if_pos this] at q
      cases q
theorem Sm.mono {k n k' n' : Nat} {d : D} (s : Sm k n d) (hk : k ≤ k') (hn : n ≤ n') : Sm k' n' d := ⟨s.lf_, Nat.le_trans s.dep_ hk, Nat.le_trans s.blk_ hn⟩
/-- many of them: all together no greater than n -/
structure Sms (k n : Nat) (ds : List D) : Prop where
  lf_ : lfs ds = true
  dep_ : deps ds ≤ k
  blk_ : blks ds ≤ n
theorem sms_nil {k : Nat} : Sms k 0 [] := ⟨rfl, Nat.zero_le _, Nat.le_refl _⟩
theorem sms_cons {k n m : Nat} {d : D} {ds : List D} (a : Sm k n d) (b : Sms k m ds) : Sms k (n + 1 + m) (d :: ds) :=
  ⟨lfs_cons.mpr ⟨a.lf_, b.lf_⟩, Nat.max_le.mpr ⟨a.dep_, b.dep_⟩, Nat.add_le_add (Nat.add_le_add_right a.blk_ 1) b.blk_⟩
theorem Sms.app {k n m : Nat} {xs ys : List D} (a : Sms k n xs) (b : Sms k m ys) : Sms k (n + m) (xs ++ ys) :=
  ⟨lfs_app.mpr ⟨a.lf_, b.lf_⟩, deps_iff.mpr fun x hx => (List.mem_append.mp hx).elim (deps_iff.mp a.dep_ x) (deps_iff.mp b.dep_ x), by rw [blks_app]; exact Nat.add_le_add a.blk_ b.blk_⟩
theorem Sms.sub {k n : Nat} {xs ys : List D} (a : Sms k n ys) (h : xs.Sublist ys) : Sms k n xs :=
  ⟨lfs_iff.mpr fun x hx => lfs_iff.mp a.lf_ x (h.subset hx), deps_iff.mpr fun x hx => deps_iff.mp a.dep_ x (h.subset hx), Nat.le_trans (blks_sub h) a.blk_⟩
theorem Sms.mem {k n : Nat} {xs : List D} (a : Sms k n xs) {x : D} (h : x ∈ xs) : Sm k n x :=
  ⟨lfs_iff.mp a.lf_ x h, deps_iff.mp a.dep_ x h, Nat.le_trans (Nat.le_trans (Nat.le_succ _) (blks_mem h)) a.blk_⟩
theorem Sms.mono {k n k' n' : Nat} {d : List D} (s : Sms k n d) (hk : k ≤ k') (hn : n ≤ n') : Sms k' n' d := ⟨s.lf_, Nat.le_trans s.dep_ hk, Nat.le_trans s.blk_ hn⟩
theorem Sms.len {k n : Nat} {d : List D} (s : Sms k n d) : d.length ≤ n := Nat.le_trans blks_len s.blk_
theorem sm_tup {k n : Nat} {ds : List D} (a : Sms k n ds) : Sm (k + 1) n (.tup ds) := ⟨a.lf_, Nat.succ_le_succ a.dep_, a.blk_⟩
theorem sm_int {k n : Nat} {i : Int} (h : i.natAbs < 10 ^ 60) : Sm k n (.int i) := ⟨decide_eq_true h, Nat.zero_le _, Nat.zero_le _⟩
theorem sm_str {k n : Nat} {s : Str} (h : okS s = true) (l : s.length ≤ n) : Sm k n (.str s) := ⟨h, Nat.zero_le _, l⟩
theorem Sm.tup {k n : Nat} {ds : List D} (s : Sm k n (.tup ds)) : Sms (k - 1) n ds := ⟨s.lf_, by have := s.dep_; have h : dep (.tup ds) = deps ds + 1 := rfl; omega, s.blk_⟩
theorem Sm.lst {k n : Nat} {ds : List D} (s : Sm k n (.lst ds)) : Sms (k - 1) n ds := ⟨s.lf_, by have := s.dep_; have h : dep (.lst ds) = deps ds + 1 := rfl; omega, s.blk_⟩
theorem Sm.int {k n : Nat} {i : Int} (s : Sm k n (.int i)) : i.natAbs < 10 ^ 60 := of_decide_eq_true s.lf_
theorem Sm.str {k n : Nat} {z : Str} (s : Sm k n (.str z)) : okS z = true ∧ z.length ≤ n := ⟨s.lf_, s.blk_⟩
/-- plain -/
inductive Pln : D → Prop where
  | non : Pln .non
  | bl (b : Bool) : Pln (.bl b)
  | int (i : Int) : Pln (.int i)
  | str (z : Str) : Pln (.str z)
  | tup (ds : List D) : Pln (.tup ds)
  | lst (ds : List D) : Pln (.lst ds)
  | dct (ks : List Key) (ds : List D) : Pln (.dct ks ds)
theorem Sm.pln {k n : Nat} {d : D} (s : Sm k n d) : Pln d := by
  have := s.lf_
  cases d <;> first | constructor | exact absurd this Bool.false_ne_true
theorem okS_app {a b : Str} (ha : okS a = true) (hb : okS b = true) : okS (a ++ b) = true := by
  unfold okS at *
  show (a.cps ++ b.cps).all _ = true
  rw [Array.all_append, ha, hb]; rfl
/-! # G27: what is a number, a name, an ident, a glove: the program's own looks -/
noncomputable section
abbrev k_LAST_MOMENT : D := (.int 999999)
abbrev k_LAST_NUMBER : D := (.int 99)
abbrev k_LETTERS : D := (.str "abcdefghijklmnopqrstuvwxyz")
abbrev k_LONGEST : D := (.int 8)
abbrev k_MOST_GRADE : D := (.int 2)
abbrev k_MOST_HIGH : D := (.int 138)
abbrev k_MOST_QUARTERS : D := (.int 99)
abbrev k_SIDES : D := (.ctp [(.str "l"), (.str "r")])
def f_is_whole : FS := (sRet (eAnd (eCall gIsi (aCons (eName 0) (aCons (eC (.ty .int)) aNil))) (eNot (eCall gIsi (aCons (eName 0) (aCons (eC (.ty .bool)) aNil))))))
def c_is_whole : List D → Hs → R D := fnBody 1 f_is_whole
def f_is_between : FS := (sRet (eAnd (eFn c_is_whole [0] [] (aCons (eName 0) aNil)) (eChain gLe gLe (eName 1) (eName 0) (eName 2))))
def c_is_between : List D → Hs → R D := fnBody 3 f_is_between
def f_is_name : FS := (sSeq (sIf (tOrF (tNotF (eT (eCall gIsi (aCons (eName 0) (aCons (eC (.ty .str)) aNil))))) (tNotF (eB (eChain gLe gLe (eC (.int 1)) (eCall gLen (aCons (eName 0) aNil)) (eC k_LONGEST))))) (sRet (eC (.bl false))) sSkip)
  (sRet (eCall gAll (aCons (eV (lComp (iAny (eName 0)) (nSet 1) tYesF (eBin gInA (eName 1) (eC k_LETTERS)) [1])) aNil))))
def c_is_name : List D → Hs → R D := fnBody 2 f_is_name
def f_is_size : FS := (sRet (eFn c_is_between [0, 1, 2] [] (aCons (eName 0) (aCons (eC (.int 1)) (aCons (eC k_MOST_QUARTERS) aNil)))))
def c_is_size : List D → Hs → R D := fnBody 1 f_is_size
def f_is_moment : FS := (sRet (eFn c_is_between [0, 1, 2] [] (aCons (eName 0) (aCons (eC (.int 0)) (aCons (eC k_LAST_MOMENT) aNil)))))
def c_is_moment : List D → Hs → R D := fnBody 1 f_is_moment
def f_is_side : FS := (sRet (eAnd (eCall gIsi (aCons (eName 0) (aCons (eC (.ty .str)) aNil))) (eBin gInA (eName 0) (eC k_SIDES))))
def c_is_side : List D → Hs → R D := fnBody 1 f_is_side
def f_is_ident : FS := (sSeq (sIf (tOrF (tNotF (eT (eCall gIsi (aCons (eName 0) (aCons (eC (.ty .tup)) aNil))))) (eB (eBin gNe (eCall gLen (aCons (eName 0) aNil)) (eC (.int 3))))) (sRet (eC (.bl false))) sSkip)
  (sRet (eAnd (eFn c_is_moment [0] [] (aCons (eBin gIx (eName 0) (eC (.int 0))) aNil)) (eAnd (eFn c_is_between [0, 1, 2] [] (aCons (eBin gIx (eName 0) (eC (.int 1))) (aCons (eC (.int 0)) (aCons (eC k_LAST_NUMBER) aNil)))) (eFn c_is_side [0] [] (aCons (eBin gIx (eName 0) (eC (.int 2))) aNil))))))
def c_is_ident : List D → Hs → R D := fnBody 1 f_is_ident
def f_is_grade : FS := (sRet (eAnd (eFn c_is_whole [0] [] (aCons (eName 0) aNil)) (eChain gLe gLe (eC (.int 0)) (eName 0) (eC k_MOST_GRADE))))
def c_is_grade : List D → Hs → R D := fnBody 1 f_is_grade
def f_is_glove : FS := (sSeq (sIf (tOrF (tNotF (eT (eCall gIsi (aCons (eName 0) (aCons (eC (.ty .tup)) aNil))))) (tOrF (eB (eBin gNe (eCall gLen (aCons (eName 0) aNil)) (eC (.int 7)))) (tOrF (tNotF (eT (eFn c_is_ident [0] [] (aCons (eSl (eName 0) oNone (oSome (eC (.int 3)))) aNil)))) (tNotF (eT (eFn c_is_name [0] [] (aCons (eBin gIx (eName 0) (eC (.int 3))) aNil))))))) (sRet (eC (.bl false))) sSkip)
  (sSeq (sAsg (nTup 3 (nCons (nSet 1) (nCons (nSet 2) (nCons (nSet 3) nNil)))) (eSl (eName 0) (oSome (eC (.int 4))) oNone))
  (sSeq (sIf (tOrF (tNotF (eT (eFn c_is_size [0] [] (aCons (eName 1) aNil)))) (tOrF (tNotF (eT (eFn c_is_whole [0] [] (aCons (eName 2) aNil)))) (tNotF (eT (eFn c_is_grade [0] [] (aCons (eName 3) aNil)))))) (sRet (eC (.bl false))) sSkip)
  (sRet (eChain gLe gLe (eName 1) (eName 2) (eC k_MOST_HIGH))))))
def c_is_glove : List D → Hs → R D := fnBody 4 f_is_glove
end
section
variable {e : Ev} {hs h : Hs} {Q : D → Hs → Prop} {X : XQ}
/-- a comprehension that filters and maps, the heap as it is -/
theorem wp_cfm {f : FI} {g : FG} {t : FT} {el : FE} {vs : List Nat} {Q : List D → Hs → Prop} (p : D → Bool) (F : D → D) (h : Wp (f e hs) (fun nx h => ∃ ds, nx = nxL ds ∧ ds.length ≤ 100000 ∧
    (∀ d ∈ ds, ∃ e', g d (wipeE e vs) = some e' ∧ Wp (t e' h) (fun c h1 => h1 = h ∧ c = p d ∧ (c = true → Wp (el e' h) (fun y h' => y = F d ∧ h' = h) nX)) nX) ∧ Q ((ds.filter p).map F) h) X) : Wp (lComp f g t el vs e hs) Q X := by
  refine wp_comp (wp_mono h (fun nx h' q => ?_) fun _ _ _ x => x)
  obtain ⟨ds, rfl, hl, hd, q⟩ := q
  refine ⟨ds.length, fun i acc h => h = h' ∧ acc = ((ds.take i).filter p).map F, hl, ⟨rfl, rfl⟩, fun i acc h hi ⟨e1, e2⟩ => ?_, fun acc h ⟨e1, e2⟩ => ?_⟩
  · subst e1 e2
    obtain ⟨e', h1, h2⟩ := hd ds[i] (List.getElem_mem hi)
    refine ⟨ds[i], e', nxL_some hi, h1, wp_mono h2 (fun c h3 ⟨z1, z2, z3⟩ => ?_) fun _ _ _ x => x⟩
    subst z1
    have ht : ds.take (i + 1) = ds.take i ++ [ds[i]] := by rw [List.take_add_one, List.getElem?_eq_getElem hi]; rfl
    have hl2 : (((ds.take i).filter p).map F).length ≤ i := by
      rw [List.length_map]
      exact Nat.le_trans (List.length_filter_le _ _) (by rw [List.length_take]; omega)
    refine ⟨fun hc => ⟨by rw [sizeLine_eq]; omega, wp_mono (z3 hc) (fun y h4 ⟨r, z4⟩ => ⟨z4, ?_⟩) fun _ _ _ x => x⟩, fun hc => ⟨rfl, ?_⟩⟩
    · rw [ht, List.filter_append, List.map_append, r]
      congr 1
      rw [List.filter_cons_of_pos (by rw [← z2]; exact hc)]; rfl
    · rw [ht, List.filter_append, List.filter_cons_of_neg (by rw [← z2, hc]; exact Bool.false_ne_true), List.filter_nil, List.append_nil]
  · subst e1 e2
    rw [List.take_length]
    exact ⟨nxL_stop, q⟩
end
@[simp] def isW : D → Bool
  | .int _ => true
  | _ => false
@[simp] def isB (a b : Int) : D → Bool
  | .int i => decide (a ≤ i) && decide (i ≤ b)
  | _ => false
def isC (c : Nat) : Bool := decide (97 ≤ c) && decide (c ≤ 122)
@[simp] def isNa : D → Bool
  | .str z => (decide ((1 : Int) ≤ z.length) && decide ((z.length : Int) ≤ 8)) && z.cps.toList.all isC
  | _ => false
@[simp] def isSd : D → Bool
  | .str z => (("l" : Str) == z) || (("r" : Str) == z)
  | _ => false
@[simp] def isId : D → Bool
  | .tup [a, b, c] => isB 0 999999 a && (isB 0 99 b && isSd c)
  | _ => false
@[simp] def leD : D → D → Bool
  | .int i, .int j => decide (i ≤ j)
  | _, _ => false
@[simp] def isGv : D → Bool
  | .tup [a, b, c, s, lo, hi, g] => isId (.tup [a, b, c]) && (isNa s && (isB 1 99 lo && (isW hi && (isB 0 2 g && (leD lo hi && leD hi (.int 138))))))
  | _ => false
end G
local macro_rules | `(tactic| fail "q") => `(tactic| first | assumption | decide | omega | rfl)
local macro_rules | `(tactic| fail "e1") => `(tactic| first
  | with_reducible (first | refine wp_some add_i ?_ | refine wp_some sub_i ?_ | refine wp_some lt_i ?_ | refine wp_some le_i ?_ | refine wp_some gt_i ?_ | refine wp_some ge_i ?_ | refine wp_some eq_i ?_ | refine wp_some ne_i ?_ | refine wp_some eq_b ?_ | refine wp_some max_i ?_ | refine wp_some min_i ?_ | refine wp_some tup_tup ?_ | refine wp_some tup_lst ?_ | refine wp_some len_tup ?_ | refine wp_some len_lst ?_ | refine wp_some sl_tup ?_ | refine wp_some sl_lst ?_ | refine wp_some tru_b ?_ | refine wp_some repr_b ?_ | refine wp_eq_sb ?_ | refine wp_some seq_lst ?_ | refine wp_some seq_tup ?_)
  | ((with_reducible apply wp_ix_tup); (case q => rfl))
  | ((with_reducible apply wp_ix_lst); (case q => rfl))
  | ((with_reducible apply wp_ix_ref); (case p => assumption); (case q => rfl))
  | with_reducible refine wp_some eq_s ?_
  | ((with_reducible refine wp_some (mod_int ?q) ?_); (case q => fail "q"))
  | ((with_reducible refine wp_some (div_int ?p ?q) ?_); (case p => fail "q"); (case q => fail "q"))
  | ((with_reducible refine wp_some (mul_int ?q) ?_); (case q => fail "q"))
  | ((with_reducible refine wp_some (add_tup ?q) ?_); (case q => first | omega | exact Nat.le_of_ble_eq_true rfl | (simp; done) | (simp; omega)))
  | ((with_reducible refine wp_some (add_lst ?q) ?_); (case q => first | omega | exact Nat.le_of_ble_eq_true rfl | (simp; done) | (simp; omega)))
  | with_reducible (first | refine Exists.intro _ (And.intro rfl ?_) | refine Exists.intro _ (Exists.intro _ (And.intro rfl ?_))))
local macro_rules | `(tactic| fail "g") => `(tactic| repeat (first | fail "s1" | fail "e1"))
local macro_rules | `(tactic| fail "h1") => `(tactic| first
  | with_reducible (first | refine wp_some ne_b ?_ | refine wp_ne_sb ?_ | refine wp_d0t ?_ | refine wp_d0k ?_ | refine wp_d0 ?_ | refine wp_valsT ?_ | refine wp_some ne_s ?_ | refine wp_some reprA_b ?_ | refine wp_d1 ?_ | refine wp_some isi_non ?_ | refine wp_some isi_bl ?_ | refine wp_some isi_int ?_ | refine wp_some isi_str ?_ | refine wp_some isi_tup ?_ | refine wp_some isi_lst ?_ | refine wp_some isi_dct ?_))
local macro_rules | `(tactic| fail "k") => `(tactic| repeat (first | fail "s1" | fail "e1" | fail "h1"))
namespace G
open PySem PySem.Spec PyProof.Rows L2
theorem pln_of {d : D} (l : lf d = true) : Pln d := by
  cases d <;> first | constructor | exact absurd l Bool.false_ne_true
theorem eq_of_wp {r : R D} {x : D} {h : Hs} (w : Wp r (fun d h' => d = x ∧ h' = h) nX) : r = .ok x h := by
  obtain ⟨d, h', e, rfl, rfl⟩ := wp_get w
  exact e
section
variable {h : Hs} {d : D} {k n : Nat}
theorem whole_eq (p : Pln d) : c_is_whole [d] h = .ok (.bl (isW d)) h := by cases p <;> rfl
theorem between_eq {a b : Int} (p : Pln d) : c_is_between [d, .int a, .int b] h = .ok (.bl (isB a b d)) h := by
  cases p with
  | int i =>
    refine eq_of_wp ?_
    unfold c_is_between f_is_between
    refine wp_bodyE [some (.int i), some (.int a), some (.int b)] rfl ?_
    fail "k"
    refine wp_of (whole_eq (.int i)) ?_
    fail "k"
    refine ⟨fun _ => ?_, tnof⟩
    fail "k"
    refine ⟨fun q => ?_, fun q => ⟨?_, rfl⟩⟩
    · fail "k"
      refine ⟨?_, rfl⟩
      simp [isB, q]
    · simp [isB, q]
  | _ => rfl
end
end G
local macro_rules | `(tactic| fail "p") => `(tactic| first | assumption | (constructor; done) | exact pln_of (by assumption) | exact Sm.pln (by assumption))
local macro_rules | `(tactic| fail "b1") => `(tactic| first
  | exact nof
  | exact tnof
  | (refine And.intro ?_ tnof; intro _)
  | (refine And.intro nof ?_; intro _)
  | (refine And.intro ?_ ?_ <;> intro _))
local macro_rules | `(tactic| fail "P1") => `(tactic| first
  | ((with_reducible show Wp (c_is_whole _ _) _ _); refine wp_of (whole_eq ?p) ?_; (case p => fail "p"))
  | ((with_reducible show Wp (c_is_between _ _) _ _); refine wp_of (between_eq ?p) ?_; (case p => fail "p")))
local macro_rules | `(tactic| fail "b") => `(tactic| repeat' (first | fail "s1" | fail "e1" | fail "h1" | fail "P1" | fail "b1"))
local macro_rules | `(tactic| fail "z") => `(tactic| first
  | exact (show _ ∧ _ from ⟨rfl, rfl⟩)
  | (refine (show _ ∧ _ from ⟨?_, rfl⟩); first | (simp_all; done) | (simp_all <;> omega)))
local macro_rules | `(tactic| fail "bz") => `(tactic| (fail "b" <;> try fail "z"))
namespace G
open PySem PySem.Spec PyProof.Rows L2
section
variable {h : Hs} {d : D} {k n : Nat}
/-! ### texts -/
theorem signs_len (z : Str) : (signs z).length = z.length := by unfold signs; rw [List.length_map]; exact Array.length_toList
theorem letters_in (c : Nat) : decide (c ∈ ("abcdefghijklmnopqrstuvwxyz" : Str).cps.toList) = isC c := by
  rw [abc_T, T_cps]
  unfold isC
  rw [Bool.eq_iff_iff, decide_eq_true_iff, Bool.and_eq_true, decide_eq_true_iff, decide_eq_true_iff]
  constructor
  · intro h
    have : ∀ x ∈ abc, 97 ≤ x ∧ x ≤ 122 := by decide +kernel
    exact this c h
  · rintro ⟨h1, h2⟩
    have : ∀ i, i < 26 → i + 97 ∈ abc := by decide +kernel
    have := this (c - 97) (by omega)
    rwa [show c - 97 + 97 = c by omega] at this
def sgC (p : Nat → Bool) : D → D
  | .str x => (match sign1 x with | some c => .bl (p c) | none => .non)
  | _ => .non
theorem sgC_map (p : Nat → Bool) (z : Str) : (signs z).map (sgC p) = (z.cps.toList.map p).map D.bl := by
  unfold signs
  rw [List.map_map, List.map_map]; rfl
theorem gAll_bls {bs : List Bool} : gAll h [.lst (bs.map D.bl)] = some (.bl (bs.all id)) := by
  unfold gAll
  show (match rdOf h (.lst (bs.map D.bl)) with | some xs => (match blsOf xs with | some ns => some (D.bl (ns.all id)) | none => none) | none => none) = _
  show (match blsOf (bs.map D.bl) with | some ns => some (D.bl (ns.all id)) | none => none) = _
  rw [blsOf_map]
theorem in_letters {c : Nat} : gInA h (.str ⟨#[c]⟩) (.str "abcdefghijklmnopqrstuvwxyz") = some (.bl (isC c)) := by
  show some (D.bl (decide (c ∈ ("abcdefghijklmnopqrstuvwxyz" : Str).cps.toList))) = _
  rw [letters_in]
theorem name_eq (p : Pln d) (hz : blk d ≤ 100000) : c_is_name [d] h = .ok (.bl (isNa d)) h := by
  cases p with
  | str z =>
    have hz : z.length ≤ 100000 := hz
    have hl : gLen h [.str z] = some (.int z.length) := if_pos (le_line hz)
    refine eq_of_wp ?_
    unfold c_is_name f_is_name
    refine wp_bodyE [some (.str z), none] rfl ?_
    fail "k"
    refine ⟨nof, fun _ => ?_⟩
    fail "k"
    refine wp_some hl ?_
    fail "bz"
    refine wp_cfm (fun _ => true) (sgC isC) ?_
    fail "k"
    refine ⟨by rw [signs_len]; exact hz, fun d hd => ?_, ?_⟩
    · unfold signs at hd
      obtain ⟨c, _, rfl⟩ := List.mem_map.mp hd
      refine ⟨_, rfl, ?_⟩
      fail "k"
      refine ⟨rfl, rfl, fun _ => ?_⟩
      fail "k"
      refine wp_some in_letters ⟨rfl, rfl⟩
    · rw [List.filter_eq_self.mpr (fun _ _ => rfl), sgC_map]
      fail "k"
      refine wp_some gAll_bls ?_
      refine (show _ ∧ _ from ⟨?_, rfl⟩)
      simp_all
  | _ => rfl
theorem size_eq (p : Pln d) : c_is_size [d] h = .ok (.bl (isB 1 99 d)) h := by
  refine eq_of_wp ?_
  unfold c_is_size f_is_size
  refine wp_bodyE [some d] rfl ?_
  fail "bz"
theorem moment_eq (p : Pln d) : c_is_moment [d] h = .ok (.bl (isB 0 999999 d)) h := by
  refine eq_of_wp ?_
  unfold c_is_moment f_is_moment
  refine wp_bodyE [some d] rfl ?_
  fail "bz"
theorem side_eq (p : Pln d) : c_is_side [d] h = .ok (.bl (isSd d)) h := by
  cases p with
  | str z =>
    refine eq_of_wp ?_
    unfold c_is_side f_is_side
    refine wp_bodyE [some (.str z)] rfl ?_
    fail "k"
    refine ⟨fun _ => ?_, tnof⟩
    fail "k"
    refine wp_some (show _ = some (D.bl (("l" : Str) == z || (("r" : Str) == z || false))) from rfl) ?_
    fail "z"
  | _ => rfl
theorem grade_eq (p : Pln d) : c_is_grade [d] h = .ok (.bl (isB 0 2 d)) h := by
  cases p with
  | int i =>
    refine eq_of_wp ?_
    unfold c_is_grade f_is_grade
    refine wp_bodyE [some (.int i)] rfl ?_
    fail "bz"
  | _ => rfl
end
/-! ### idents, gloves -/
theorem list3 {t : Type} {ds : List t} (h : ds.length = 3) : ∃ a b c, ds = [a, b, c] := by
  match ds, h with
  | [a, b, c], _ => exact ⟨a, b, c, rfl⟩
theorem list7 {t : Type} {ds : List t} (h : ds.length = 7) : ∃ a b c d e f g, ds = [a, b, c, d, e, f, g] := by
  match ds, h with
  | [a, b, c, d, e, f, g], _ => exact ⟨a, b, c, d, e, f, g, rfl⟩
theorem eqL {t : Type} {ds : List t} {n : Nat} {m : Int} (h : ¬ ds.length = n) (e : m = n) : ((ds.length : Int) == m) = false := by
  subst e
  rw [beq_eq_false_iff_ne]
  omega
theorem lfs3 {a b c : D} (l : lfs [a, b, c] = true) : lf a = true ∧ lf b = true ∧ lf c = true :=
  ⟨(lfs_cons.mp l).1, (lfs_cons.mp (lfs_cons.mp l).2).1, (lfs_cons.mp (lfs_cons.mp (lfs_cons.mp l).2).2).1⟩
section
variable {h : Hs} {d : D} {k n : Nat}
local macro_rules | `(tactic| fail "P1") => `(tactic| first
  | ((with_reducible show Wp (c_is_size _ _) _ _); refine wp_of (size_eq ?p) ?_; (case p => fail "p"))
  | ((with_reducible show Wp (c_is_moment _ _) _ _); refine wp_of (moment_eq ?p) ?_; (case p => fail "p"))
  | ((with_reducible show Wp (c_is_side _ _) _ _); refine wp_of (side_eq ?p) ?_; (case p => fail "p"))
  | ((with_reducible show Wp (c_is_grade _ _) _ _); refine wp_of (grade_eq ?p) ?_; (case p => fail "p"))
  | ((with_reducible show Wp (c_is_whole _ _) _ _); refine wp_of (whole_eq ?p) ?_; (case p => fail "p"))
  | ((with_reducible show Wp (c_is_between _ _) _ _); refine wp_of (between_eq ?p) ?_; (case p => fail "p")))
theorem isId_len {ds : List D} (h : ¬ ds.length = 3) : isId (.tup ds) = false := by
  match ds, h with
  | [], _ => rfl
  | [_], _ => rfl
  | [_, _], _ => rfl
  | [_, _, _], h => exact absurd rfl h
  | _ :: _ :: _ :: _ :: _, _ => rfl
theorem isGv_len {ds : List D} (h : ¬ ds.length = 7) : isGv (.tup ds) = false := by
  unfold isGv
  split
  · rename_i e
    cases e
    exact absurd rfl h
  · rfl
theorem ident_eq (l : lf d = true) : c_is_ident [d] h = .ok (.bl (isId d)) h := by
  cases pln_of l with
  | tup ds =>
    refine eq_of_wp ?_
    unfold c_is_ident f_is_ident
    by_cases hl : ds.length = 3
    · obtain ⟨a, b, c, rfl⟩ := list3 hl
      obtain ⟨la, lb, lc⟩ := lfs3 (show lfs [a, b, c] = true from l)
      refine wp_bodyE [some (.tup [a, b, c])] rfl ?_
      fail "bz"
    · refine wp_bodyE [some (.tup ds)] rfl ?_
      have e := eqL (m := 3) hl rfl
      have e2 := isId_len hl
      fail "k"
      refine ⟨nof, fun _ => ?_⟩
      fail "k"
      rw [e]
      fail "bz"
  | _ => rfl
local macro_rules | `(tactic| fail "P1") => `(tactic| first
  | ((with_reducible show Wp (c_is_name _ _) _ _); refine wp_of (name_eq ?p ?q) ?_; (case p => fail "p"); (case q => first | assumption | omega))
  | ((with_reducible show Wp (c_is_ident _ _) _ _); refine wp_of (ident_eq ?p) ?_; (case p => assumption)))
theorem glove_eq (l : lf d = true) (hz : blk d ≤ 100000) : c_is_glove [d] h = .ok (.bl (isGv d)) h := by
  cases pln_of l with
  | tup ds =>
    refine eq_of_wp ?_
    unfold c_is_glove f_is_glove
    by_cases hl : ds.length = 7
    · obtain ⟨a, b, c, s, lo, hi, g, rfl⟩ := list7 hl
      have l := lfs_iff.mp (show lfs [a, b, c, s, lo, hi, g] = true from l)
      have la := l a (by simp); have lb := l b (by simp); have lc := l c (by simp)
      have ls := pln_of (l s (by simp)); have l1 := pln_of (l lo (by simp)); have l2 := pln_of (l hi (by simp)); have l3 := pln_of (l g (by simp))
      have l0 : lf (.tup [a, b, c]) = true := lfs_iff.mpr fun x hx => l x (by simp only [List.mem_cons, List.not_mem_nil, or_false] at hx ⊢; rcases hx with q | q | q <;> simp [q])
      have sz : blk s ≤ 100000 := by
        have h1 : blks [a, b, c, s, lo, hi, g] ≤ 100000 := hz
        have h2 := blks_mem (x := s) (xs := [a, b, c, s, lo, hi, g]) (by simp)
        omega
      refine wp_bodyE [some (.tup [a, b, c, s, lo, hi, g]), none, none, none] rfl ?_
      fail "k"
      refine ⟨nof, fun _ => ?_⟩
      fail "k"
      refine ⟨nof, fun _ => ?_⟩
      fail "k"
      rw [show cutX [a, b, c, s, lo, hi, g] none (some 3) = [a, b, c] from rfl]
      clear l
      fail "b"
      · refine (show _ ∧ _ from ⟨?_, rfl⟩)
        rename_i q _
        rw [Bool.not_eq_true'] at q
        show D.bl false = D.bl (isId (.tup [a, b, c]) && _)
        rw [q]; rfl
      all_goals try fail "z"
      obtain ⟨i, rfl⟩ : ∃ i, lo = .int i := by cases l1 <;> simp_all
      obtain ⟨j, rfl⟩ : ∃ i, hi = .int i := by cases l2 <;> simp_all
      fail "bz"
    · refine wp_bodyE [some (.tup ds), none, none, none] rfl ?_
      have e := eqL (m := 7) hl rfl
      have e2 := isGv_len hl
      fail "k"
      refine ⟨nof, fun _ => ?_⟩
      fail "k"
      rw [e]
      fail "bz"
  | _ => rfl
end
/-! # G28: gloves drawn -/
noncomputable section
end
/-- a name by its signs -/
def NmT (cs : List Nat) : Prop := 1 ≤ cs.length ∧ cs.length ≤ 8 ∧ Lw cs
/-- a glove by its parts -/
abbrev gl (m n : Int) (sd st : List Nat) (lo hi gr : Int) : D := .tup [.int m, .int n, .str (T sd), .str (T st), .int lo, .int hi, .int gr]
structure Gl (d : D) : Prop where
  ex : ∃ m n sd st lo hi gr, d = gl m n sd st lo hi gr ∧ 0 ≤ m ∧ m ≤ 999999 ∧ 0 ≤ n ∧ n ≤ 99 ∧ IsSide sd ∧ NmT st ∧ 1 ≤ lo ∧ lo ≤ 99 ∧ lo ≤ hi ∧ hi ≤ 138 ∧ 0 ≤ gr ∧ gr ≤ 2
section
end
/-! # G29: short texts -/
/-- a text of at most so many signs -/
structure Tx (n : Nat) (z : Str) : Prop where
  ok : okS z = true
  len : z.length ≤ n
theorem str_len (a b : Str) : (a ++ b).length = a.length + b.length := by
  show (a.cps ++ b.cps).size = _
  rw [Array.size_append]; rfl
theorem len_half {a b : Str} {k : Nat} (x : a.length ≤ k / 2) (y : b.length ≤ k / 2) : (a ++ b).length ≤ k := by rw [str_len]; omega
theorem lit_half {s : String} {k : Nat} (h : s.length ≤ k) : (Str.ofString s).length ≤ k := by rw [PySem.ofString_length]; exact h
theorem T_half {cs : List Nat} {k : Nat} (h : cs.length ≤ k) : (T cs).length ≤ k := by rw [T_len]; exact h
theorem okS_iff {z : Str} : okS z = true ↔ ∀ c ∈ z.cps.toList, c < 0x110000 := by
  constructor
  · exact okS_lt
  · intro h
    unfold okS
    rw [Array.all_eq_true']
    intro c hc
    exact decide_eq_true (h c (by simpa using hc))
theorem okS_lit (s : String) : okS (Str.ofString s) = true := by
  rw [okS_iff]
  intro c hc
  rw [Str.ofString_eq_toList] at hc
  obtain ⟨ch, _, rfl⟩ := List.mem_map.mp (show c ∈ s.toList.map Char.toNat from hc)
  have := ch.valid
  unfold UInt32.isValidChar Nat.isValidChar at this
  show ch.toNat < _
  have e : ch.toNat = ch.val.toNat := rfl
  omega
theorem Tx.mono {n m : Nat} {z : Str} (a : Tx n z) (h : n ≤ m) : Tx m z := ⟨a.ok, Nat.le_trans a.len h⟩
theorem Tx.app {n m : Nat} {a b : Str} (x : Tx n a) (y : Tx m b) : Tx (n + m) (a ++ b) := ⟨okS_app x.ok y.ok, by rw [str_len]; exact Nat.add_le_add x.len y.len⟩
theorem Tx.cut {n : Nat} {a : Str} (x : Tx n a) (lo hi : Option Int) : Tx n (cutS a lo hi) := by
  rw [T_of a, T_cut]
  refine ⟨okS_iff.mpr fun c hc => okS_lt x.ok c (mem_cutX hc), ?_⟩
  rw [T_len]
  unfold cutX
  rw [List.length_take, List.length_drop]
  have := x.len
  have e : a.cps.toList.length = a.length := Array.length_toList
  omega
theorem cut_half {a : Str} {k : Nat} {lo hi : Option Int} (h : a.length ≤ k) : (cutS a lo hi).length ≤ k := by
  rw [T_of a, T_cut, T_len]
  unfold cutX
  rw [List.length_take, List.length_drop]
  have e : a.cps.toList.length = a.length := Array.length_toList
  omega
theorem Tx.T {cs : List Nat} (h : Lw cs) {n : Nat} (l : cs.length ≤ n) : Tx n (T cs) := ⟨lw_ok h, by rw [T_len]; exact l⟩
theorem tx_int {i : Int} (h : i.natAbs < 10 ^ 60) : Tx 61 (toString i : String) := ⟨okS_lit _, by rw [PySem.ofString_length]; exact int_text_length_le10 (by decide) h⟩
/-- small letters, figures and the like -/
def Asc (z : Str) : Prop := z.cps.toList.all (· < 128) = true
theorem asc_T {cs : List Nat} (h : Lw cs) : Asc (G.T cs) := List.all_eq_true.mpr fun c hc => decide_eq_true (by have := h c hc; omega)
theorem upper_asc {z : Str} (a : Asc z) : Txt.upper z = G.T (z.cps.toList.map PyProof.Rows.up1) := by
  have := SX.upper_S (a := z.cps.toList) a
  have e : SX.S z.cps.toList = z := (T_of z).symm
  rw [e] at this
  exact this
theorem tx_upper {n : Nat} {z : Str} (a : Asc z) (l : z.length ≤ n) : Tx n (Txt.upper z) := by
  rw [upper_asc a]
  refine ⟨okS_iff.mpr fun c hc => ?_, ?_⟩
  · obtain ⟨b, hb, rfl⟩ := List.mem_map.mp (show c ∈ z.cps.toList.map PyProof.Rows.up1 from hc)
    have := of_decide_eq_true (List.all_eq_true.mp a b hb)
    unfold PyProof.Rows.up1
    split <;> omega
  · rw [T_len, List.length_map]
    have e : z.cps.toList.length = z.length := Array.length_toList
    omega
section
variable {h : Hs} {x y : Str} {i : Int} {xs ys : List D} {e : Ev} {Q : D → Hs → Prop} {X : XQ}
theorem add_str (q : x.length ≤ 50000) (r : y.length ≤ 50000) : gAdd h (.str x) (.str y) = some (.str (x ++ y)) := if_pos (le_line (by omega))
theorem sl_str {lo hi : Option Int} (q : x.length ≤ 100000) : gSl h (.str x) lo hi = some (.str (cutS x lo hi)) := if_pos (le_line q)
theorem len_str (q : x.length ≤ 100000) : gLen h [.str x] = some (.int x.length) := if_pos (le_line q)
theorem upper_str (q : x.length ≤ 100000) : mUpper h (.str x) [] = some (.str (Txt.upper x), h) := if_pos (by omega)
theorem str_int (q : i.natAbs < 10 ^ 60) : gStr h [.int i] = some (.str (toString i : String)) := by
  unfold gStr
  exact if_pos (int_lf q)
theorem eq_same : gEq h (.str x) (.str x) = some (.bl true) := by
  show some (D.bl (x == x)) = _
  rw [beq_self_eq_true]
theorem ne_same : gNe h (.str x) (.str x) = some (.bl false) := by
  show some (D.bl (!(x == x))) = _
  rw [beq_self_eq_true]; rfl
theorem rev_tup : gRev h (.tup xs) = some (.tup xs.reverse) := rfl
theorem rev_lst : gRev h (.lst xs) = some (.lst xs.reverse) := rfl
theorem is_bl {p q : Bool} : gIs h (.bl p) (.bl q) = some (.bl (decide (p = q))) := rfl
theorem isN_bl {p q : Bool} : gIsN h (.bl p) (.bl q) = some (.bl (!decide (p = q))) := rfl
theorem neg_i : gNeg h (.int i) = some (.int (-i)) := rfl
theorem wp_inv {a : Type} {o : Option a} {h : Hs} {Q : a → Hs → Prop} {X : XQ} (w : Wp (R.ofO o h) Q X) : ∃ x, o = some x ∧ Q x h := by
  with_unfolding_all
  cases o with
  | none => exact False.elim w
  | some x => exact ⟨x, rfl, w⟩
theorem wp_lAdd {f1 f2 : FE} {Q : List D → Hs → Prop} (g : Wp (f1 e h) (fun x h1 => Wp (f2 e h1) (fun y h2 => Wp (R.ofO (lstOf h2 x) h2) (fun xs h3 => Wp (R.ofO (lstOf h3 y) h3) (fun ys h4 => (xs.length ≤ 50000 ∧ ys.length ≤ 50000) ∧ Q (xs ++ ys) h4) X) X) X) X) : Wp (lAdd f1 f2 e h) Q X := by
  unfold lAdd
  refine wp_bind (wp_mono g (fun x h1 q => wp_bind (wp_mono q (fun y h2 q => ?_) fun _ _ _ x => x)) fun _ _ _ x => x)
  obtain ⟨xs, e1, q⟩ := wp_inv q
  obtain ⟨ys, e2, ⟨l1, l2⟩, q⟩ := wp_inv q
  rw [e1]
  dsimp only
  rw [e2]
  dsimp only
  rw [if_pos (le_line (by omega))]
  exact wp_ok q
theorem lst_lst : lstOf h (.lst xs) = some xs := rfl
end
mutual
/-- data without dicts -/
def lay : D → Bool
  | .non => true
  | .bl _ => true
  | .int _ => true
  | .str s => okS s
  | .tup ds => lays ds
  | .lst ds => lays ds
  | _ => false
def lays : List D → Bool
  | [] => true
  | d :: ds => lay d && lays ds
end
theorem lays_iff {ds : List D} : lays ds = true ↔ ∀ x ∈ ds, lay x = true := by
  induction ds with
  | nil => exact ⟨fun _ x h => (nomatch h), fun _ => rfl⟩
  | cons d ds ih =>
    show (lay d && lays ds) = true ↔ _
    rw [Bool.and_eq_true, ih]; simp
mutual
theorem lay_pd {r : Nat → Option PyData} : ∀ {d : D}, lay d = true → ∃ p, pdW r d = some p ∧ PyData.canLay0 p = true ∧ p.depth ≤ dep d
  | .non, _ => ⟨_, rfl, rfl, Nat.zero_le _⟩
  | .bl b, _ => ⟨_, rfl, rfl, Nat.zero_le _⟩
  | .int i, _ => ⟨_, rfl, rfl, Nat.zero_le _⟩
  | .str s, h => ⟨.str s, rfl, h, Nat.zero_le _⟩
  | .tup ds, h => by
    obtain ⟨ps, e1, e2, e3⟩ := lays_pd (r := r) (ds := ds) h
    exact ⟨.tuple ps, by show (pdWs r ds).map PyData.tuple = _; rw [e1]; rfl, e2, Nat.succ_le_succ e3⟩
  | .lst ds, h => by
    obtain ⟨ps, e1, e2, e3⟩ := lays_pd (r := r) (ds := ds) h
    exact ⟨.list ps, by show (pdWs r ds).map PyData.list = _; rw [e1]; rfl, e2, Nat.succ_le_succ e3⟩
theorem lays_pd {r : Nat → Option PyData} : ∀ {ds : List D}, lays ds = true → ∃ ps, pdWs r ds = some ps ∧ PyData.canLayAll0 ps = true ∧ PyData.depthAll ps ≤ deps ds
  | [], _ => ⟨[], rfl, rfl, Nat.zero_le _⟩
  | d :: ds, h => by
    have h := (Bool.and_eq_true _ _).mp (show (lay d && lays ds) = true from h)
    obtain ⟨p, e1, e2, e3⟩ := lay_pd (r := r) h.1
    obtain ⟨ps, f1, f2, f3⟩ := lays_pd (r := r) h.2
    refine ⟨p :: ps, ?_, ?_, ?_⟩
    · unfold pdWs
      rw [e1, f1]
    · show (PyData.canLay0 p && PyData.canLayAll0 ps) = true
      rw [e2, f2]; rfl
    · show max _ _ ≤ max _ _
      omega
end
section
end
/-! ### by any wish -/
theorem eq_any {r : R D} {x : D} {h : Hs} (w : ∀ (Q : D → Hs → Prop) (X : XQ), Q x h → Wp r Q X) : r = .ok x h := by
  obtain ⟨d, h', e, rfl, rfl⟩ := wp_get (w (fun d h' => d = x ∧ h' = h) nX ⟨rfl, rfl⟩)
  exact e
theorem closeB {Q : D → Hs → Prop} {b b' : Bool} {h : Hs} (c : Q (.bl b) h) (e : b = b') : Q (.bl b') h := e ▸ c
/-- of which kind -/
def tyIs (d : D) (u : Tn) : Bool := match d with
  | .bl _ => isTn .bool u
  | .int _ => isTn .int u
  | .str _ => isTn .str u
  | .tup _ => isTn .tup u
  | .lst _ => isTn .lst u
  | .dct _ _ => isTn .dct u
  | _ => false
theorem isi_pln {h : Hs} {d : D} {u : Tn} (p : Pln d) : gIsi h [d, .ty u] = some (.bl (tyIs d u)) := by cases p <;> rfl
theorem tx_rep {n m : Nat} {z : Str} {k : Int} (a : Tx n z) (h : k.toNat * n ≤ m) : Tx m (repS z k) := by
  have e : repS z k = G.T (List.replicate k.toNat z.cps.toList).flatten := by rw [T_of z, repS_T, T_cps]
  rw [e]
  refine ⟨okS_iff.mpr fun c hc => ?_, ?_⟩
  · obtain ⟨l, hl, hc⟩ := List.mem_flatten.mp (show c ∈ (List.replicate k.toNat z.cps.toList).flatten from hc)
    rw [(List.mem_replicate.mp hl).2] at hc
    exact okS_lt a.ok c hc
  · rw [T_len, List.length_flatten, List.map_replicate, List.sum_replicate_nat]
    have e2 : z.cps.toList.length = z.length := Array.length_toList
    rw [e2]
    exact Nat.le_trans (Nat.mul_le_mul_left _ a.len) h
section
variable {h : Hs} {x : Str} {i : Int} {xs : List D}
theorem mulS_str (a : 2 ≤ i) (b : i ≤ 10000) (d : x.length ≤ 1000) : gMulS h (.str x) (.int i) = some (.str (repS x i)) := by
  unfold gMulS
  dsimp only
  rw [decide_eq_true a, decide_eq_true b, decide_eq_true d]
  rfl
theorem mulS_tupA (a : 2 ≤ i) (b : i ≤ 1000) (c : xs.isEmpty = false) (d : xs.length ≤ 1000) : gMulS h (.tup xs) (.int i) = some (.tup (List.replicate i.toNat xs).flatten) := mulS_tup a b c d
theorem pow39 : gPow h (.int 10) (.int 39) = some (.int 1000000000000000000000000000000000000000) := rfl
theorem pow30 : gPow h (.int 10) (.int 30) = some (.int 1000000000000000000000000000000) := rfl
theorem pow40 : gPow h (.int 10) (.int 40) = some (.int 10000000000000000000000000000000000000000) := rfl
theorem tru_non : tru h .non = some false := rfl
theorem tru_int : tru h (.int i) = some (i != 0) := rfl
theorem tru_str (q : x.length ≤ 100000) : tru h (.str x) = some ((x.length : Int) != 0) := if_pos (le_line q)
theorem tru_tup : tru h (.tup xs) = some (!xs.isEmpty) := rfl
end
/-! ### lengths of lists, by halves -/
section
variable {t : Type} {xs ys : List t} {k : Nat} {h : Hs} {us vs : List D}
theorem app_half (x : xs.length ≤ k / 2) (y : ys.length ≤ k / 2) : (xs ++ ys).length ≤ k := by rw [List.length_append]; omega
theorem cutL_half {lo hi : Option Int} (x : xs.length ≤ k) : (cutX xs lo hi).length ≤ k := Nat.le_trans ((List.take_sublist ..).trans (List.drop_sublist ..)).length_le x
theorem rev_half (x : xs.length ≤ k) : xs.reverse.length ≤ k := by rw [List.length_reverse]; exact x
theorem cons_half {a : t} (x : xs.length ≤ k / 2) (k1 : 2 ≤ k) : (a :: xs).length ≤ k := by rw [List.length_cons]; omega
theorem map_half {u : Type} {f : t → u} (x : xs.length ≤ k) : (xs.map f).length ≤ k := by rw [List.length_map]; exact x
theorem add_tup2 (a : us.length ≤ 50000) (b : vs.length ≤ 50000) : gAdd h (.tup us) (.tup vs) = some (.tup (us ++ vs)) := add_tup (by omega)
theorem add_lst2 (a : us.length ≤ 50000) (b : vs.length ≤ 50000) : gAdd h (.lst us) (.lst vs) = some (.lst (us ++ vs)) := add_lst (by omega)
end
/-! ### things behind -/
section
variable {L n : Nat} {K : Hs → Prop} {h : Hs} {o : O} {ds : List D} {i : Int} {Q : D → Hs → Prop} {X : XQ}
theorem lst_ref (e : h[n]? = some (.lst ds)) : lstOf h (.ref n) = some ds := by
  unfold lstOf
  dsimp only
  rw [e]
theorem len_ref (e : h[n]? = some (.lst ds)) : gLen h [.ref n] = some (.int ds.length) := len_seq (seq_ref e)
theorem tup_ref (e : h[n]? = some (.lst ds)) : gTuple h [.ref n] = some (.tup ds) := by
  show (match rdOf h (.ref n) with | some xs => some (D.tup xs) | none => none) = _
  rw [rd_ref e]
theorem lt_line {m : Nat} (q : m ≤ 100000) : m < sizeLine := by rw [sizeLine_eq]; omega
theorem app_ref2 {d : D} (e : h[n]? = some (.lst ds)) (q : ds.length ≤ 50000) : mAppend h (.ref n) [d] = some (.non, h.set n (.lst (ds ++ [d]))) := app_ref e (lt_line (by omega))
theorem St.wapp (S : St L K h) (sK : Stb L K) : St L K (h ++ [o]) := (S.app (o := o) sK).weak (Nat.le_succ_of_le S.len) fun k => k.1
theorem St.wset (S : St L K h) (sK : Stb L K) (l : L ≤ n) (l2 : 2 < n) : St L K (h.set n o) := by
  obtain ⟨ne, ⟨s, k, h1⟩, ⟨ns, hl, h2⟩⟩ := S.deck
  refine ⟨⟨ne, ⟨s, k, by rw [get_set_ne (by omega)]; exact h1⟩, ⟨ns, hl, by rw [get_set_ne (by omega)]; exact h2⟩⟩, sK _ _ S.keep S.len fun m hm _ _ => get_set_ne (by omega), ?_⟩
  rw [List.length_set]; exact S.len
end
section
variable {n m : Nat} {h : Hs} {ds es : List D}
theorem addL_of {x y : D} (a : lstOf h x = some ds) (b : lstOf h y = some es) (l : ds.length ≤ 50000) (l2 : es.length ≤ 50000) : gAddL h x y = some (.lst (ds ++ es)) := by
  unfold gAddL
  rw [a]
  dsimp only
  rw [b]
  dsimp only
  rw [if_pos (le_line (by omega))]
theorem add_rl (a : h[n]? = some (.lst ds)) (l : ds.length ≤ 50000) (l2 : es.length ≤ 50000) : gAdd h (.ref n) (.lst es) = some (.lst (ds ++ es)) := show gAddL h (.ref n) (.lst es) = _ from addL_of (x := .ref n) (y := .lst es) (lst_ref a) rfl l l2
theorem add_lr (a : h[n]? = some (.lst es)) (l : ds.length ≤ 50000) (l2 : es.length ≤ 50000) : gAdd h (.lst ds) (.ref n) = some (.lst (ds ++ es)) := show gAddL h (.lst ds) (.ref n) = _ from addL_of (x := .lst ds) (y := .ref n) rfl (lst_ref a) l l2
theorem add_rr (a : h[n]? = some (.lst ds)) (b : h[m]? = some (.lst es)) (l : ds.length ≤ 50000) (l2 : es.length ≤ 50000) : gAdd h (.ref n) (.ref m) = some (.lst (ds ++ es)) := show gAddL h (.ref n) (.ref m) = _ from addL_of (x := .ref n) (y := .ref m) (lst_ref a) (lst_ref b) l l2
end
/-! # G30: plain data by bounds: whole numbers, depth, size; texts of plain signs -/
/-! ### plain texts -/
structure Tz (n : Nat) (z : Str) : Prop where
  asc : Asc z
  len : z.length ≤ n
theorem asc_iff {z : Str} : Asc z ↔ ∀ c ∈ z.cps.toList, c < 128 := by
  unfold Asc
  rw [List.all_eq_true]
  exact ⟨fun h c hc => of_decide_eq_true (h c hc), fun h c hc => decide_eq_true (h c hc)⟩
theorem cps_app (a b : Str) : (a ++ b).cps.toList = a.cps.toList ++ b.cps.toList := by
  show (a.cps ++ b.cps).toList = _
  rw [Array.toList_append]
theorem Tz.tx {n : Nat} {z : Str} (t : Tz n z) : Tx n z := ⟨okS_iff.mpr fun c hc => by have := asc_iff.mp t.asc c hc; omega, t.len⟩
theorem Tz.mono {n m : Nat} {z : Str} (a : Tz n z) (h : n ≤ m) : Tz m z := ⟨a.asc, Nat.le_trans a.len h⟩
theorem Tz.app {n m : Nat} {a b : Str} (x : Tz n a) (y : Tz m b) : Tz (n + m) (a ++ b) :=
  ⟨asc_iff.mpr fun c hc => by rw [cps_app] at hc; exact (List.mem_append.mp hc).elim (asc_iff.mp x.asc c) (asc_iff.mp y.asc c), (x.tx.app y.tx).len⟩
theorem Tz.cut {n : Nat} {a : Str} (x : Tz n a) (lo hi : Option Int) : Tz n (cutS a lo hi) :=
  ⟨asc_iff.mpr fun c hc => by rw [T_of a, T_cut] at hc; exact asc_iff.mp x.asc c (mem_cutX hc), (x.tx.cut lo hi).len⟩
theorem Tz.upper {n : Nat} {a : Str} (x : Tz n a) : Tz n (Txt.upper a) := by
  refine ⟨?_, (tx_upper x.asc x.len).len⟩
  rw [upper_asc x.asc, asc_iff]
  intro c hc
  obtain ⟨b, hb, rfl⟩ := List.mem_map.mp (show c ∈ a.cps.toList.map PyProof.Rows.up1 from hc)
  have := asc_iff.mp x.asc b hb
  unfold PyProof.Rows.up1
  split <;> omega
theorem Tz.rep {n m : Nat} {z : Str} {k : Int} (a : Tz n z) (h : k.toNat * n ≤ m) : Tz m (repS z k) := by
  refine ⟨?_, (tx_rep a.tx h).len⟩
  have e : repS z k = G.T (List.replicate k.toNat z.cps.toList).flatten := by rw [T_of z, repS_T, T_cps]
  rw [e, asc_iff]
  intro c hc
  obtain ⟨l, hl, hc⟩ := List.mem_flatten.mp (show c ∈ (List.replicate k.toNat z.cps.toList).flatten from hc)
  rw [(List.mem_replicate.mp hl).2] at hc
  exact asc_iff.mp a.asc c hc
theorem Tz.T {cs : List Nat} (h : Lw cs) {n : Nat} (l : cs.length ≤ n) : Tz n (G.T cs) := ⟨asc_T h, by rw [T_len]; exact l⟩
theorem Tz.one {c n : Nat} (h : c < 128) : Tz (n + 1) ⟨#[c]⟩ := ⟨asc_iff.mpr fun b hb => by
  have : b = c := by simpa using hb
  omega, Nat.le_add_left 1 n⟩
/-! ### plain data, whole numbers up to B -/
def kdn (B : Nat) : Key → Bool
  | .inl i => decide (i.natAbs ≤ B)
  | .inr s => s.cps.toList.all (· < 128)
mutual
def dn (B : Nat) : D → Bool
  | .non => true
  | .bl _ => true
  | .int i => decide (i.natAbs ≤ B)
  | .str s => s.cps.toList.all (· < 128)
  | .tup ds => dns B ds
  | .lst ds => dns B ds
  | .dct ks ds => ks.all (kdn B) && decide (ks.length = ds.length) && dns B ds
  | _ => false
def dns (B : Nat) : List D → Bool
  | [] => true
  | d :: ds => dn B d && dns B ds
end
theorem dns_cons {B : Nat} {d : D} {ds : List D} : dns B (d :: ds) = true ↔ dn B d = true ∧ dns B ds = true := Bool.and_eq_true _ _ ▸ Iff.rfl
theorem dns_iff {B : Nat} {ds : List D} : dns B ds = true ↔ ∀ x ∈ ds, dn B x = true := by
  induction ds with
  | nil => exact ⟨fun _ x h => (nomatch h), fun _ => rfl⟩
  | cons d ds ih => rw [dns_cons, ih]; simp
theorem asc_ok {z : Str} (a : Asc z) : okS z = true := okS_iff.mpr fun c hc => by have := asc_iff.mp a c hc; omega
theorem kdn_lf {B : Nat} (hB : B < 10 ^ 60) {k : Key} (h : kdn B k = true) : klf k = true := by
  cases k with
  | inl i => exact decide_eq_true (Nat.lt_of_le_of_lt (of_decide_eq_true h) hB)
  | inr s => exact asc_ok h
theorem kdn_mono {B C : Nat} (hB : B ≤ C) {k : Key} (h : kdn B k = true) : kdn C k = true := by
  cases k with
  | inl i => exact decide_eq_true (Nat.le_trans (of_decide_eq_true h) hB)
  | inr s => exact h
theorem all_imp {t : Type} {p q : t → Bool} {xs : List t} (i : ∀ x, p x = true → q x = true) (h : xs.all p = true) : xs.all q = true := by
  rw [List.all_eq_true] at *
  exact fun x hx => i x (h x hx)
theorem dct_iff {B : Nat} {ks : List Key} {ds : List D} : dn B (.dct ks ds) = true ↔ (ks.all (kdn B) = true ∧ ks.length = ds.length) ∧ dns B ds = true := by
  show (ks.all (kdn B) && decide (ks.length = ds.length) && dns B ds) = true ↔ _
  rw [Bool.and_eq_true, Bool.and_eq_true, decide_eq_true_iff]
mutual
theorem dn_lf {B : Nat} (hB : B < 10 ^ 60) : ∀ {d : D}, dn B d = true → lf d = true
  | .non, _ => rfl
  | .bl _, _ => rfl
  | .int _, h => decide_eq_true (Nat.lt_of_le_of_lt (of_decide_eq_true h) hB)
  | .str _, h => asc_ok h
  | .tup ds, h => dns_lf hB (ds := ds) h
  | .lst ds, h => dns_lf hB (ds := ds) h
  | .dct ks ds, h => by
    obtain ⟨⟨a, b⟩, c⟩ := dct_iff.mp h
    show (ks.all klf && decide (ks.length = ds.length) && lfs ds) = true
    rw [all_imp (fun x => kdn_lf hB) a, decide_eq_true b, dns_lf hB c]; rfl
theorem dns_lf {B : Nat} (hB : B < 10 ^ 60) : ∀ {ds : List D}, dns B ds = true → lfs ds = true
  | [], _ => rfl
  | d :: ds, h => lfs_cons.mpr ⟨dn_lf hB (dns_cons.mp h).1, dns_lf hB (dns_cons.mp h).2⟩
end
mutual
theorem dn_mono {B C : Nat} (hB : B ≤ C) : ∀ {d : D}, dn B d = true → dn C d = true
  | .non, _ => rfl
  | .bl _, _ => rfl
  | .int _, h => decide_eq_true (Nat.le_trans (of_decide_eq_true h) hB)
  | .str _, h => h
  | .tup ds, h => dns_mono hB (ds := ds) h
  | .lst ds, h => dns_mono hB (ds := ds) h
  | .dct ks ds, h => by
    obtain ⟨⟨a, b⟩, c⟩ := dct_iff.mp h
    exact dct_iff.mpr ⟨⟨all_imp (fun x => kdn_mono hB) a, b⟩, dns_mono hB c⟩
theorem dns_mono {B C : Nat} (hB : B ≤ C) : ∀ {ds : List D}, dns B ds = true → dns C ds = true
  | [], _ => rfl
  | d :: ds, h => dns_cons.mpr ⟨dn_mono hB (dns_cons.mp h).1, dns_mono hB (dns_cons.mp h).2⟩
end
/-- plain data: whole numbers up to B, so deep, so great -/
structure Dd (B k n : Nat) (d : D) : Prop where
  dn_ : dn B d = true
  dep_ : dep d ≤ k
  blk_ : blk d ≤ n
structure Dds (B k n : Nat) (ds : List D) : Prop where
  dn_ : dns B ds = true
  dep_ : deps ds ≤ k
  blk_ : blks ds ≤ n
section
variable {B C k n m k' n' : Nat} {d : D} {ds xs ys : List D} {z : Str} {i : Int} {b : Bool}
theorem Dd.sm (a : Dd B k n d) (hB : B < 10 ^ 60) : Sm k n d := ⟨dn_lf hB a.dn_, a.dep_, a.blk_⟩
theorem Dd.mono (a : Dd B k n d) (hB : B ≤ C) (hk : k ≤ k') (hn : n ≤ n') : Dd C k' n' d := ⟨dn_mono hB a.dn_, Nat.le_trans a.dep_ hk, Nat.le_trans a.blk_ hn⟩
theorem Dds.mono (a : Dds B k n ds) (hB : B ≤ C) (hk : k ≤ k') (hn : n ≤ n') : Dds C k' n' ds := ⟨dns_mono hB a.dn_, Nat.le_trans a.dep_ hk, Nat.le_trans a.blk_ hn⟩
theorem Dd.pln (a : Dd B k n d) : Pln d := by
  have := a.dn_
  cases d <;> first | constructor | exact absurd this Bool.false_ne_true
theorem Dds.app (a : Dds B k n xs) (b : Dds B k m ys) : Dds B k (n + m) (xs ++ ys) :=
  ⟨dns_iff.mpr fun x hx => (List.mem_append.mp hx).elim (dns_iff.mp a.dn_ x) (dns_iff.mp b.dn_ x), deps_iff.mpr fun x hx => (List.mem_append.mp hx).elim (deps_iff.mp a.dep_ x) (deps_iff.mp b.dep_ x), by rw [blks_app]; exact Nat.add_le_add a.blk_ b.blk_⟩
theorem Dds.sub (a : Dds B k n ys) (h : xs.Sublist ys) : Dds B k n xs :=
  ⟨dns_iff.mpr fun x hx => dns_iff.mp a.dn_ x (h.subset hx), deps_iff.mpr fun x hx => deps_iff.mp a.dep_ x (h.subset hx), Nat.le_trans (blks_sub h) a.blk_⟩
theorem Dds.cut (a : Dds B k n xs) (lo hi : Option Int) : Dds B k n (cutX xs lo hi) := a.sub ((List.take_sublist ..).trans (List.drop_sublist ..))
theorem Dds.mem (a : Dds B k n xs) {x : D} (h : x ∈ xs) : Dd B k n x :=
  ⟨dns_iff.mp a.dn_ x h, deps_iff.mp a.dep_ x h, Nat.le_trans (Nat.le_trans (Nat.le_succ _) (blks_mem h)) a.blk_⟩
theorem Dds.len (a : Dds B k n xs) : xs.length ≤ n := Nat.le_trans blks_len a.blk_
theorem Dd.int (s : Dd B k n (.int i)) : i.natAbs ≤ B := of_decide_eq_true s.dn_
theorem Dd.str (s : Dd B k n (.str z)) : Tz n z := ⟨s.dn_, s.blk_⟩
theorem Dd.tup (s : Dd B k n (.tup ds)) : Dds B (k - 1) n ds := ⟨s.dn_, by have := s.dep_; have h : dep (.tup ds) = deps ds + 1 := rfl; omega, s.blk_⟩
end
/-! ### repr of a list that one keeps -/
/-! ### == () -/
def gEqT (hs : Hs) (d e : D) : Option D := match d, e with
  | .tup ds, .tup [] => some (.bl ds.isEmpty)
  | d, e => gEq hs d e
theorem eqT_tup {h : Hs} {ds : List D} : gEqT h (.tup ds) (.tup []) = some (.bl ds.isEmpty) := rfl
theorem rev_str {h : Hs} {z : Str} (q : z.length ≤ 100000) : gRev h (.str z) = some (.str (G.T z.cps.toList.reverse)) := if_pos (le_line q)
theorem wp_ixD {ds : List D} {i : Int} {h : Hs} {Q : D → Hs → Prop} {X : XQ} (P : D → Prop) (i0 : 0 ≤ i) (i1 : i < ds.length) (hP : ∀ x ∈ ds, P x) (c : ∀ x, P x → Q x h) : Wp (R.ofO (gIx h (.lst ds) (.int i)) h) Q X := wp_ixP P i0 i1 hP c
/-! # G31: enumerate and zip of lists and tuples -/
open PySem.AutoSeq1 (wpAny_loadPart')

/-! ### as functions -/
/-- what is walked, numbered -/
def nxE (nx : Nx) : Nx := fun hs i => (nx hs i).map (Option.map fun d => .tup [.int i, d])
/-- two walked at once -/
def nxZ (nx1 nx2 : Nx) : Nx := fun hs i => match nx1 hs i, nx2 hs i with
  | some (some d), some (some e) => some (some (.tup [d, e]))
  | some none, some _ => some none
  | some _, some none => some none
  | _, _ => none
/-- a list here -/
def lsOf (h : Hs) (d : D) : Option (List D) := match d with
  | .lst ds => some ds
  | .scr ds => some ds
  | .ref n => (match h[n]? with | some (.lst ds) => some ds | _ => none)
  | _ => none
def nxS (d : D) : Nx := fun h i => match lsOf h d with
  | some ds => some ds[i]?
  | none => none
def tpOf (d : D) : Option (List D) := match d with
  | .tup ds => some ds
  | .ctp ds => some ds
  | _ => none
section
end
section
variable {X : Cx} {Wd : WX} {a b : Expr} {fa : FA}
def enOf (h : Hs) (ds : List D) : Option Nx := match ds with
  | [d] => (match tpOf d with
    | some es => some (nxE (nxL es))
    | none => (match lsOf h d with | some _ => some (nxE (nxS d)) | none => none))
  | _ => none
def zpOf (h : Hs) (ds : List D) : Option Nx := match ds with
  | [d, e] => (match tpOf d, tpOf e with
    | some xs, some ys => some (nxZ (nxL xs) (nxL ys))
    | _, _ => (match lsOf h d, lsOf h e with | some _, some _ => some (nxZ (nxS d) (nxS e)) | _, _ => none))
  | _ => none
def iOf (g : Hs → List D → Option Nx) (f : FA) : FI := fun e hs => (f e hs).bind fun ds hs => match g hs ds with | some nx => .ok nx hs | none => .bad
end
/-! ### != () -/
def gNeT (hs : Hs) (d e : D) : Option D := match d, e with
  | .tup ds, .tup [] => some (.bl (!ds.isEmpty))
  | d, e => gNe hs d e
theorem neT_tup {h : Hs} {ds : List D} : gNeT h (.tup ds) (.tup []) = some (.bl (!ds.isEmpty)) := rfl
/-! # G32: enumerate, zip as lists; spots of nested tuples -/
def enumL (ds : List D) : List D := (List.range ds.length).zipWith (fun i d => .tup [.int (i : Nat), d]) ds
def zipL (ds es : List D) : List D := ds.zipWith (fun d e => .tup [d, e]) es
theorem enumL_at {ds : List D} {i : Nat} : (enumL ds)[i]? = ds[i]?.map fun d => .tup [.int i, d] := by
  unfold enumL
  rw [List.getElem?_zipWith]
  by_cases h : i < ds.length
  · rw [List.getElem?_range h, List.getElem?_eq_getElem h]; rfl
  · rw [List.getElem?_eq_none (Nat.le_of_not_lt h)]
    cases (List.range ds.length)[i]? <;> rfl
theorem nxE_L {ds : List D} : nxE (nxL ds) = nxL (enumL ds) := by
  funext h i
  show (some ds[i]?).map _ = some _
  rw [enumL_at]; rfl
theorem nxZ_L {ds es : List D} : nxZ (nxL ds) (nxL es) = nxL (zipL ds es) := by
  funext h i
  unfold nxZ nxL zipL
  rw [List.getElem?_zipWith]
  cases ds[i]? <;> cases es[i]? <;> rfl
section
variable {e : Ev} {h : Hs} {X : XQ} {ds es : List D} {d : D}
theorem wp_iOf {g : Hs → List D → Option Nx} {f : FA} {Q : Nx → Hs → Prop} (q : Wp (f e h) (fun ds h => ∃ nx, g h ds = some nx ∧ Q nx h) X) : Wp (iOf g f e h) Q X := by
  refine wp_bind (wp_mono q (fun ds h' ⟨nx, e1, e2⟩ => ?_) fun _ _ _ x => x)
  rw [e1]
  exact wp_ok e2
theorem en_tup : enOf h [.tup ds] = some (nxL (enumL ds)) := by
  show some (nxE (nxL ds)) = _
  rw [nxE_L]
theorem en_lst : enOf h [.lst ds] = some (nxL (enumL ds)) := by
  show some (nxE (nxL ds)) = _
  rw [nxE_L]
theorem zp_tup : zpOf h [.tup ds, .tup es] = some (nxL (zipL ds es)) := by
  show some (nxZ (nxL ds) (nxL es)) = _
  rw [nxZ_L]
theorem zp_lst : zpOf h [.lst ds, .lst es] = some (nxL (zipL ds es)) := by
  show some (nxZ (nxL ds) (nxL es)) = _
  rw [nxZ_L]
end
section
variable {h : Hs} {ds es : List D} {Q : Nx → Prop}
theorem ex_ent (q : Q (nxL (enumL ds))) : ∃ nx, enOf h [.tup ds] = some nx ∧ Q nx := ⟨_, en_tup, q⟩
theorem ex_enl (q : Q (nxL (enumL ds))) : ∃ nx, enOf h [.lst ds] = some nx ∧ Q nx := ⟨_, en_lst, q⟩
theorem ex_zpt (q : Q (nxL (zipL ds es))) : ∃ nx, zpOf h [.tup ds, .tup es] = some nx ∧ Q nx := ⟨_, zp_tup, q⟩
theorem ex_zpl (q : Q (nxL (zipL ds es))) : ∃ nx, zpOf h [.lst ds, .lst es] = some nx ∧ Q nx := ⟨_, zp_lst, q⟩
end
theorem St.k2 {L n : Nat} {K : Hs → Prop} {o : O} {h : Hs} (S : St L (fun g => K g ∧ g[n]? = some o) h) : h[n]? = some o := S.keep.2
/-! ### spots -/
/-- what stands in nested tuples at a path -/
def sub : D → List Nat → Option D
  | d, [] => some d
  | .tup ds, i :: is => (match ds[i]? with | some d => sub d is | none => none)
  | _, _ :: _ => none
noncomputable section
end
section
variable {h : Hs} {X : XQ} {B k n : Nat}
def pre (i : Nat) : D → D
  | .tup es => .tup (.int (i : Nat) :: es)
  | d => d
end
/-! # G33: a part of nested tuples put otherwise -/
section
end
/-! # G34: instances of the module's own classes -/
/-- the address of the module's class c -/
def IsC (K : PySem.W.Frag) (c : Str) (C : Addr) : Prop := PySem.W.nsIn K mainGlobals c = some (some (.ref C))
theorem IsC.inj {K : PySem.W.Frag} {c : Str} {C C' : Addr} (a : IsC K c C) (b : IsC K c C') : C = C' := by
  unfold IsC at a b
  rw [a] at b; cases b; rfl
/-- an instance's class and attributes -/
def insOf (h : Hs) (d : D) : Option (Str × List (Str × D)) := match d with
  | .ins c ks ds => some (c, ks.zip ds)
  | .ref n => (match h[n]? with | some (.ins c kvs) => some (c, kvs) | _ => none)
  | _ => none
section
variable {K : PySem.W.Frag} {mg : Str → Option Value} {mu mu' : Mp} {H H' : Hp} {hs hs' : Hs} {d : D} {a : Addr} {v : V} {c : Str} {kvs : List (Str × D)}
theorem RKs.zipL {k : Type} : ∀ {ks : List k} {ds : List D} {vs : List V}, ks.length = ds.length → RDs K mu H ds vs → RKs K mu H (ks.zip ds) (ks.zip vs)
  | [], [], _, _, .nil => .nil
  | k :: ks, d :: ds, _, h, .cons r t => .cons r (RKs.zipL (by simpa using h) t)
theorem ins_at (S : Sim K mg mu hs H) (r : RD K mu H d v) (e : insOf hs d = some (c, kvs)) : ∃ a C dx vs, v = .ref a ∧ IsC K c C ∧ H a = some (.ins C dx vs) ∧ RKs K mu H kvs vs := by
  cases r with
  | ins g h z l rr =>
    cases e
    exact ⟨_, _, _, _, rfl, g, h, RKs.zipL l rr⟩
  | ref hn =>
    unfold insOf at e
    dsimp only at e
    split at e
    · rename_i c' k' hd
      cases e
      obtain ⟨u, e1, e2⟩ := S.at hn hd
      cases u <;> first
        | exact ⟨_, _, _, _, rfl, e2.1, e1, e2.2⟩
        | exact e2.elim
    · cases e
  | _ => cases e
end
/-! ### made -/
/-- a new instance, begun by init -/
def mkR (c : Str) (fn : List D → Hs → R D) (ds : List D) (hs : Hs) : R D := match fn ds (hs ++ [.ins c []]) with
  | .ok .non hs' => .ok (.ref hs.length) hs'
  | .ok _ _ => .bad
  | .exc c fs hs' => .exc c fs hs'
  | .bad => .bad
/-- C(e, .., k = ..) -/
def eMk (c : Str) (fn : List D → Hs → R D) (is : List Nat) (dds : List D) (fa fk : FA) : FE := fun e hs => (fa e hs).bind fun ds hs => (fk e hs).bind fun zs hs => mkR c fn (selL is (.ref hs.length :: ds) zs dds) hs
section
variable {X : Cx} {Wd : WX} {k n : Nat} {f C : Addr} {fd : FuncData} {ps ks : List Str} {fn : List D → Hs → R D} {dds : List D} {dvs : List V} {ds : List Value} {is : List Nat} {x c : Str} {p pos kpos : Pos} {e : Expr} {es : List Expr} {fa fk : FA} {kws : List Keyword}
theorem runMk {pins : List (Addr × Obj)} {σ : L2.St} {H : Hp} {s : Shared} {Q : VK} {us ws : List Value} {vs zs : List V} (M : Mk X.K C f) (hC : IsC X.K c C) (F : FnG X.prog X.w X.K X.mg X.base k f fd ps (spU X.K X.mg ps.length fn)) (hr : Room (k + 1) X.A) (hgd : X.A.guards = some []) (tk : Takes X Wd)
    (hb : BindK X.K fd ps (n + 1) ks is ds) (hd : Vals dvs ds) (hdd : ∀ mu H, RDs X.K mu H dds dvs) (I : Inv X pins σ H s) (r : Vals vs us) (rz : Vals zs ws) (hn : us.length = n) (hks : ws.length = ks.length)
    (h : ∃ mu hs es qs, Sim X.K X.mg mu hs H ∧ RDs X.K mu H es vs ∧ RDs X.K mu H qs zs ∧ (selL is (.ref hs.length :: es) qs dds).length = ps.length ∧ Gd (relD X.K) X.K X.mg Wd σ mu H Q (mkR c fn (selL is (.ref hs.length :: es) qs dds) hs)) :
    wpAny (model X.prog X.w) X.A (call (.ref C) us (ks.zip ws)) (EP X pins σ Q) X.xe s := by
  obtain ⟨mu, hs, es, qs, S, r1, r2, hl, g⟩ := h
  have hx := I.hok.fresh (Nat.le_succ s.heap.objs.size)
  have hdx := I.hok.fresh (Nat.le_refl s.heap.objs.size)
  have hne : s.heap.objs.size ≠ s.heap.objs.size + 1 := Nat.ne_of_lt (Nat.lt_succ_self _)
  have I2 := Inv.made (C := C) I
  have S1 := S.new (o := .own (s.heap.objs.size + 1)) hdx
  have hx1 : upd H s.heap.objs.size (.own (s.heap.objs.size + 1)) (s.heap.objs.size + 1) = none := by rw [upd_ne hne.symm]; exact hx
  have ro : RO X.K X.mg mu (upd H s.heap.objs.size (.own (s.heap.objs.size + 1))) (.ins c []) (.ins C s.heap.objs.size []) := ⟨hC, .nil⟩
  have S2 := S1.newOwn hx1 ro
  have l2 : Lat mu H (mu.own (s.heap.objs.size + 1)) (upd (upd H s.heap.objs.size (.own (s.heap.objs.size + 1))) (s.heap.objs.size + 1) (.ins C s.heap.objs.size [])) := (Lat.new hdx).trans (Lat.newOwn S1 hx1)
  have a2 := l2.agr S
  have hsp : spU X.K X.mg ps.length fn (selL is (.ref (s.heap.objs.size + 1) :: vs) zs dvs) (upd (upd H s.heap.objs.size (.own (s.heap.objs.size + 1))) (s.heap.objs.size + 1) (.ins C s.heap.objs.size [])) (fun v H2 => v = .non ∧ Q (.ref (s.heap.objs.size + 1)) H2) (WE Wd σ) := by
    refine ⟨_, _, _, S2, RDs.sel (.cons (.ref (getElem?_own S.len)) (RDs.agr a2 r1)) (RDs.agr a2 r2) (hdd _ _) is, hl, ?_⟩
    unfold mkR at g
    cases q : fn (selL is (.ref hs.length :: es) qs dds) (hs ++ [.ins c []]) with
    | ok d hs' =>
      rw [q] at g
      cases d with
      | non =>
        rintro mu' H' y l s' (_ | _)
        refine ⟨rfl, g mu' H' _ (l2.trans l) s' (.ref ?_)⟩
        obtain ⟨t, e2⟩ := l.pre
        rw [← e2, List.getElem?_append_left (by show _ < (mu.l ++ [_]).length; rw [List.length_append, S.len]; exact Nat.lt_succ_self _)]
        exact getElem?_own S.len
      | _ => exact g.elim
    | exc c fs hs' => rw [q] at g; exact fun mu' H' cls dx l s' rx => g mu' H' cls dx (l2.trans l) s' rx
    | bad => rw [q] at g; exact g.elim
  have rv : Vals (V.ref (s.heap.objs.size + 1) :: vs) (Value.ref (s.heap.objs.size + 1) :: us) := .cons rfl r
  refine wpAny_call (make_map (f := f) I.kIn M.makes M.init (beq_iff_eq.mp M.fn) (codeAny_mono (F.run _ X.stack _ _ ⟨Value.ref (s.heap.objs.size + 1) :: us, ks.zip ws⟩ (selL is (Value.ref (s.heap.objs.size + 1) :: us) ws ds) _ _ (WE Wd σ) (hr.make C us (ks.zip ws)) hgd
    (I2.env0.make C us (ks.zip ws)) (hb _ (Value.ref (s.heap.objs.size + 1) :: us) ws I2.kIn (by rw [List.length_cons, hn]) hks) (Vals.sel rv rz hd is) hsp) fun r s' hq' => ?_))
  cases r with
  | error e => exact passAt tk σ pins _ _ e s' I2 hq'
  | ok fl =>
    cases fl with
    | ret u =>
      obtain ⟨v, H', I3, rv', ev, q3⟩ := I2.after hq'
      subst ev
      exact ⟨rv', ⟨V.ref (s.heap.objs.size + 1), H', I3, rfl, q3⟩⟩
    | next => exact False.elim hq'
    | brk => exact False.elim hq'
    | cont => exact False.elim hq'
/-- what arguments and keywords gave, for a step that takes both -/
theorem tG_argsM {σ : L2.St} {H : Hp} {Q : VK} (h : tG (relD X.K) X.K X.mg Wd (eMk c fn is dds fa fk) σ H Q) :
    tG (relA X.K) X.K X.mg Wd fa σ H (fun vs H1 => tG (relA X.K) X.K X.mg Wd fk σ H1 (fun zs H2 => ∃ mu hs es qs, Sim X.K X.mg mu hs H2 ∧ RDs X.K mu H2 es vs ∧ RDs X.K mu H2 qs zs ∧ (∃ ev h0 h1, fa ev h0 = .ok es h1) ∧ (∃ ev h0 h1, fk ev h0 = .ok qs h1) ∧ Gd (relD X.K) X.K X.mg Wd σ mu H2 Q (mkR c fn (selL is (.ref hs.length :: es) qs dds) hs))) := by
  obtain ⟨ev, mu, hs, S, E, g⟩ := h
  refine ⟨ev, mu, hs, S, E, ?_⟩
  unfold eMk at g
  cases q : fa ev hs with
  | ok es hs1 =>
    rw [q] at g
    rw [R.bind_ok] at g
    intro mu1 H1 vs l1 S1 r1
    refine ⟨ev, mu1, hs1, S1, E.agr (l1.agr S), ?_⟩
    cases q2 : fk ev hs1 with
    | ok qs hs2 =>
      rw [q2] at g
      rw [R.bind_ok] at g
      exact fun mu2 H2 zs l2 S2 r2 => ⟨mu2, hs2, es, qs, S2, RDs.agr (l2.agr S1) r1, r2, ⟨ev, hs, _, q⟩, ⟨ev, hs1, _, q2⟩, Gd.later relD_ok (l1.trans l2) g⟩
    | exc c fs hs' => rw [q2] at g; exact fun mu' H' cls dx l s rr => g mu' H' cls dx (l1.trans l) s rr
    | bad => rw [q2] at g; exact g
  | exc c fs hs' => rw [q] at g; exact g
  | bad => rw [q] at g; exact g
variable {k' : Nat}
/-- all that a call by values, keywords and defaults of a class asks -/
theorem ue_mk (B : Bd X Wd k') (M : Mk X.K C f) (hC : IsC X.K c C) (F : FnG X.prog X.w X.K X.mg X.base k f fd ps (spU X.K X.mg ps.length fn)) (hr : k + 1 ≤ k') (hm : X.mg x = some (.ref C))
    (hb : BindK X.K fd ps ((e :: es).length + 1) ks is ds) (hd : Vals dvs ds) (hdd : ∀ mu H, RDs X.K mu H dds dvs) (ha : UA X Wd (e :: es) fa) (hkw : UK X Wd kws fk)
    (hla : ∀ ev hs qs hs', fa ev hs = .ok qs hs' → qs.length = (e :: es).length) (hlk : ∀ ev hs qs hs', fk ev hs = .ok qs hs' → qs.length = ks.length)
    (hi : is.all (fun i => decide (i < (e :: es).length + 1 + ks.length + dds.length)) = true := by decide) (hl : is.length = ps.length := by rfl) (hg : L2.Gl X x := by rfl)
    (hall : (backToKw pos (keywordEach kws X.env)).all (·.1.isSome) = true := by rfl) (hks : (backToKw pos (keywordEach kws X.env)).filterMap (·.1) = ks := by rfl)
    (hdb : (x == ("__debug__" : Str)) = false := by decide) (he : starEach (e :: es) X.env = (false, eval e X.env) :: starEach es X.env := by rfl)
    (hpl : ((backTo pos (starEach (e :: es) X.env)).any (·.1) || (backToKw pos (keywordEach kws X.env)).any (·.1.isNone)) = false := by rfl) :
    UE X Wd (.Call (.Name x p) (e :: es) kws pos) (eMk c fn is dds fa fk) := by
  refine ⟨fun pins s σ H Q I h => ?_⟩
  refine wpAny_Call_Name_kw (ld_glob I hg hm ?_ hdb)
  refine PySem.W.callWith_KW (h₀ := X.base) I.ok.mod.kin M.kp hall (thn (ha.run pos pins s σ H _ I (tG_argsM h)) fun us s1 ⟨vs, H1, I1, r, q⟩ => ?_) hpl he
  refine thn (hkw.run pos pins s1 σ H1 _ I1 q) fun ws s2 ⟨zs, H2, I2, rz, mu2, hs2, es2, qs2, S2, r1, r2, ⟨_, _, _, q1⟩, ⟨_, _, _, q2⟩, g2⟩ => ⟨I2.kIn, ?_⟩
  rw [hks]
  have z1 := hla _ _ _ _ q1
  have z2 := hlk _ _ _ _ q2
  exact runMk (us := us) (n := (e :: es).length) M hC F (B.room.mono hr) B.gd B.tk hb hd hdd I2 r rz (by rw [← r.length, ← r1.length, z1]) (by rw [← rz.length, ← r2.length, z2])
    ⟨mu2, hs2, es2, qs2, S2, r1, r2, by rw [selL_len _ _ _ _ (by rw [List.length_cons, z1, z2]; exact all_lt hi), hl], g2⟩
end
/-! ### attributes -/
/-- e.f, of an instance of one of the classes cs -/
def gFld (cs : List Str) (f : Str) (h : Hs) (d : D) : Option D := match insOf h d with
  | some (c, kvs) => if cs.contains c then kvs.lookup f else none
  | none => none
/-- each of the classes cs lets its attribute f be -/
def Flds (K : PySem.W.Frag) (cs : List Str) (f : Str) : Prop := ∀ c ∈ cs, ∀ C, IsC K c C → L2.Cls K C ∧ NoAttr K C f
theorem Flds.one {K : PySem.W.Frag} {c f : Str} {C : Addr} (hC : IsC K c C) (a : L2.Cls K C) (b : NoAttr K C f) : Flds K [c] f := fun c' h C' h' => by
  rw [List.mem_singleton.mp h] at h'
  rw [h'.inj hC]
  exact ⟨a, b⟩
theorem contains_mem {cs : List Str} {c : Str} (h : cs.contains c = true) : c ∈ cs := by simpa using h
section
variable {X : Cx} {Wd : WX} {o e value : Expr} {f : Str} {pos pos' : Pos} {fe fv : FE} {cs : List Str}
theorem ue_fld (F : Flds X.K cs f) (he : UE X Wd e fe) (hb : attributeBase e f X.env (eval e X.env) = eval e X.env := by rfl) : UE X Wd (.Attribute e f pos) (eUn (gFld cs f) fe) := by
  refine PE.imp (pe_fld he hb) fun σ H Q h => ?_
  obtain ⟨ev, mu, hs, S, E, q⟩ := tG_seq (r := relD X.K) relD_ok h
  refine ⟨ev, mu, hs, S, E, q.imp fun x H1 ⟨e, mu1, hs1, d, S1, E1, r1, g1⟩ => ?_⟩
  unfold gFld at g1
  cases z : insOf hs1 d with
  | none => rw [z] at g1; exact g1.elim
  | some p =>
    obtain ⟨c, kvs⟩ := p
    rw [z] at g1
    dsimp only at g1
    by_cases hc : cs.contains c = true
    · rw [if_pos hc] at g1
      obtain ⟨a, C, dx, vs, rfl, hC, ha, rk⟩ := ins_at S1 r1 z
      obtain ⟨c1, c2⟩ := F c (contains_mem hc) C hC
      cases q2 : kvs.lookup f with
      | none => rw [q2] at g1; exact g1.elim
      | some w =>
        rw [q2] at g1
        obtain ⟨u, h1, h2⟩ := RKs.lookup rk q2
        exact ⟨a, C, dx, vs, u, rfl, ha, c1, c2, h1, g1 mu1 H1 u .refl S1 h2⟩
    · rw [if_neg hc] at g1; exact g1.elim
end
/-- an attribute put -/
def putD (f : Str) (v : D) : List (Str × D) → List (Str × D)
  | [] => [(f, v)]
  | (g, x) :: r => if g = f then (g, v) :: r else (g, x) :: putD f v r
theorem RKs.putF {K : PySem.W.Frag} {mu : Mp} {H : Hp} {f : Str} {d : D} {v : V} (r : RD K mu H d v) : ∀ {kvs : List (Str × D)} {vs : List (Str × V)}, RKs K mu H kvs vs → RKs K mu H (putD f d kvs) (L2.putF f v vs)
  | _, _, .nil => .cons r .nil
  | _, _, .cons (x := g) q t => by
    show RKs K mu H (if g = f then _ else _) (if g = f then _ else _)
    by_cases h : g = f
    · rw [if_pos h, if_pos h]; exact .cons r t
    · rw [if_neg h, if_neg h]; exact .cons q (RKs.putF r t)
/-- e.f = value -/
def sFld (cs : List Str) (f : Str) (fv fo : FE) : FS := sBind fv fun v => sBind fo fun o e hs => match o with
  | .ref n => (match hs[n]? with
    | some (.ins c kvs) => if cs.contains c = true ∧ kvs.length < 1000 then .nx e (hs.set n (.ins c (putD f v kvs))) else .bad
    | _ => .bad)
  | _ => .bad
section
variable {X : Cx} {Wd : WX} {o value : Expr} {f : Str} {pos pos' : Pos} {fo fv : FE} {cs : List Str}
theorem us_fld (F : Flds X.K cs f) (ho : UE X Wd o fo) (hv : UE X Wd value fv) (hs : swapsWith value (some (.Attribute o f pos')) pos.line X.env = pure false := by rfl) : US X Wd (.Assign [.Attribute o f pos'] value pos) (sFld cs f fv fo) := by
  refine PS.imp (ps_fld ho hv hs) fun D σ H h => ?_
  obtain ⟨e, mu, hs, S, E, q⟩ := tS_bind (r := relD X.K) h
  refine ⟨e, mu, hs, S, E, q.imp fun x H1 ⟨e, mu1, hs1, d, S1, E1, r1, g1⟩ => ?_⟩
  refine ⟨e, mu1, hs1, S1, E1, ?_⟩
  unfold sBind at g1
  cases q2 : fo e hs1 with
  | bad => rw [q2] at g1; exact g1.elim
  | exc c fs hs' => rw [q2] at g1; exact fun mu' H' cls dx l s rx => g1 mu' H' σ cls dx l s (E1.agr (l.agr S1)) rx
  | ok o2 hs2 =>
    rw [q2] at g1
    intro mu2 H2 y l2 S2 r2
    dsimp only at g1
    cases r2 with
    | ref hn =>
      dsimp only at g1
      split at g1
      · rename_i c kvs hd
        split at g1
        · rename_i hc
          obtain ⟨u, e1, e2⟩ := S2.at hn hd
          cases u <;> first
            | (rename_i C dx vs
               obtain ⟨c1, c2⟩ := F c (contains_mem hc.1) C e2.1
               have rk : RKs X.K mu2 H2 kvs vs := e2.2
               refine ⟨_, C, dx, vs, rfl, e1, c1, c2, by rw [← rk.length]; exact hc.2, ?_⟩
               have w := RKs.putF (f := f) (RD.agr (l2.agr S1) r1) rk
               have lw : Lat mu2 H2 mu2 (upd H2 _ (.ins C dx (L2.putF f x vs))) := .write hn (nfI e1)
               exact g1 mu2 _ σ (l2.trans lw) (S2.write hn ⟨e2.1, w⟩) ((E1.agr (l2.agr S1)).agr (lw.agr S2)))
            | exact e2.elim
        · exact g1.elim
      · exact g1.elim
    | _ => exact g1.elim
end
/-! ### methods -/
/-- o.m(e, .., k = ..), o an instance of c -/
def eMth (c m : Str) (fn : List D → Hs → R D) (is : List Nat) (dds : List D) (fo : FE) (fa fk : FA) : FE := fun e hs => (fo e hs).bind fun o hs => match insOf hs o with
  | some (c', kvs) => if c' = c ∧ kvs.lookup m = none then (fa e hs).bind fun ds hs => (fk e hs).bind fun zs hs => fn (selL is (o :: ds) zs dds) hs else .bad
  | none => .bad
section
end
/-! # G35: str, repr, len of own instances; f-strings -/
section
variable {X : Cx} {k : Nat} {f C : Addr} {fd : FuncData} {ps : List Str} {fn : List D → Hs → R D} {c : Str} {pins : List (Addr × Obj)} {σ : L2.St} {s : Shared} {H : Hp} {mu : Mp} {hs hs' : Hs}
/-- a def that ends well, run somewhere below -/
theorem runO {A' : Around} {us : List Value} {vs : List V} {es : List D} {w : D} {Q : VK} (F : FnG X.prog X.w X.K X.mg X.base k f fd ps (spU X.K X.mg ps.length fn)) (hr : Room k A') (hgd : A'.guards = some []) (hfr : A'.frames = X.A.frames)
    (hb : BindsTo s fd ⟨us, []⟩ (ps.zip us)) (I : Inv X pins σ H s) (r : Vals vs us) (S : Sim X.K X.mg mu hs H) (rd : RDs X.K mu H es vs) (hl : es.length = ps.length) (e : fn es hs = .ok w hs')
    (q : ∀ mu' H' y, Lat mu H mu' H' → Sim X.K X.mg mu' hs' H' → RD X.K mu' H' w y → Q y H') : wpAny (model X.prog X.w) A' (call (.ref f) us) (EP X pins σ Q) X.xe s := by
  have hsp : spU X.K X.mg ps.length fn vs H Q (fun _ _ _ => False) := by
    refine ⟨mu, hs, es, S, rd, hl, ?_⟩
    rw [e]
    exact q
  have e0 : Env0 X.prog X.w X.K X.mg X.base A' X.stack s H := by
    have e := I.env0
    exact ⟨by rw [hfr]; exact e.frames, e.mod, e.bs, e.bsz, e.funs, e.frf, e.hok, e.bare⟩
  refine wpAny_call (codeAny_mono (F.run A' X.stack s H ⟨us, []⟩ us vs Q (fun _ _ _ => False) hr hgd e0 hb r hsp) fun rr s' hq => ?_)
  cases rr with
  | error x =>
    obtain ⟨_, _, _, _, _, _, _, _, _, _, _, _, z⟩ := hq
    exact z.elim
  | ok fl =>
    cases fl with
    | ret u => exact I.after hq
    | _ => exact False.elim hq
/-- what str, repr, len ask of a class -/
structure SpK (K : PySem.W.Frag) (c : Str) (C : Addr) (nm : Str) (f : Addr) : Prop where
  isC : IsC K c C
  at_ : PySem.W.findIn K (.ref C) nm = some (some (.ref f))
  fn : PySem.W.isFn K (.ref f) = true
/-- an own method of one argument that ends well -/
def gOwn (c : Str) (fn : List D → Hs → R D) (chk : D → Bool) (hs : Hs) (ds : List D) : Option (D × Hs) := match ds with
  | [d] => (match insOf hs d with
    | some (c', _) => if c' = c then (match fn [d] hs with | .ok w hs' => if chk w = true then some (w, hs') else none | _ => none) else none
    | none => none)
  | _ => none
def eOwn (g : Hs → List D → Option (D × Hs)) (fa : FA) : FE := fun e hs => (fa e hs).bind fun ds hs => R.ofP (g hs ds)
def isStrD : D → Bool
  | .str _ => true
  | _ => false
def isLenD : D → Bool
  | .int i => decide (0 ≤ i) && decide (i < 2 ^ 63)
  | _ => false
/-- a call of a built-in with one instance -/
def rOwn (K : PySem.W.Frag) (mg : Str → Option Value) (c : Str) (fn : List D → Hs → R D) (chk : D → Bool) : List V → Hp → VK → Prop := fun xs H Q =>
  ∃ mu hs ds w hs', Sim K mg mu hs H ∧ RDs K mu H ds xs ∧ gOwn c fn chk hs ds = some (w, hs') ∧ ∀ mu' H' y, Lat mu H mu' H' → Sim K mg mu' hs' H' → RD K mu' H' w y → Q y H'
theorem gOwn_at {ds : List D} {w : D} {chk : D → Bool} (e : gOwn c fn chk hs ds = some (w, hs')) : ∃ d kvs, ds = [d] ∧ insOf hs d = some (c, kvs) ∧ fn [d] hs = .ok w hs' ∧ chk w = true := by
  unfold gOwn at e
  split at e
  · rename_i d
    split at e
    · rename_i c' kvs hi
      split at e
      · rename_i hc
        subst hc
        split at e
        · rename_i w' h' hf
          split at e
          · rename_i hk
            cases e
            exact ⟨d, kvs, rfl, hi, hf, hk⟩
          · cases e
        · cases e
      · cases e
    · cases e
  · cases e
theorem tG_own {Wd : WX} {fa : FA} {chk : D → Bool} {Q : VK} (h : tG (relD X.K) X.K X.mg Wd (eOwn (gOwn c fn chk) fa) σ H Q) : tG (relA X.K) X.K X.mg Wd fa σ H (fun xs H1 => rOwn X.K X.mg c fn chk xs H1 Q) := by
  obtain ⟨e, mu, hs, S, E, q⟩ := tG_seq (r := relA X.K) relD_ok h
  refine ⟨e, mu, hs, S, E, q.imp fun x H1 ⟨e, mu1, hs1, ds, S1, E1, r1, g1⟩ => ?_⟩
  cases z : gOwn c fn chk hs1 ds with
  | none => rw [z] at g1; exact g1.elim
  | some p =>
    obtain ⟨w, hs'⟩ := p
    rw [z] at g1
    exact ⟨mu1, hs1, ds, w, hs', S1, r1, z, g1⟩
theorem bind1 {is : List Nat} (hb : BindK X.K fd ps 1 [] [0] []) {u : Value} (kin : X.K.In s.heap) : BindsTo s fd ⟨[u], []⟩ (ps.zip [u]) := hb s [u] [] kin rfl rfl
theorem bind2 (hb : BindK X.K fd ps 2 [] [0, 1] []) {u v : Value} (kin : X.K.In s.heap) : BindsTo s fd ⟨[u, v], []⟩ (ps.zip [u, v]) := hb s [u, v] [] kin rfl rfl
/-- an instance as the library sees it -/
theorem inst_at {a dx : Addr} {us : List (Str × V)} (I : Inv X pins σ H s) (e : H a = some (.ins C dx us)) : ∃ ox od, PySem.W.InstAt s.heap a ox C od := by
  obtain ⟨mA, J, _⟩ := ins_get I.hok e
  obtain ⟨od, J, _⟩ := J.look
  exact ⟨_, _, J⟩
theorem cr_str (M : SpK X.K c C "__str__" f) (F : FnG X.prog X.w X.K X.mg X.base k f fd ps (spU X.K X.mg ps.length fn)) (hr : Room (k + 2) X.A) (hgd : X.A.guards = some []) (hb : BindK X.K fd ps 1 [] [0] []) (hl : ps.length = 1) : CallR X (.type "str") (rOwn X.K X.mg c fn isStrD) := by
  rintro pins s σ H xs us Q I r ⟨mu, hs, ds, w, hs', S, rd, e, q⟩
  obtain ⟨d, kvs, rfl, hi, hf, hk⟩ := gOwn_at e
  cases rd with
  | cons r1 r2 =>
    cases r2
    obtain ⟨a, C', dx, vs, rfl, hC, ha, _⟩ := ins_at S r1 hi
    cases M.isC.inj hC
    cases r with
    | cons ru rr =>
      cases rr
      cases ru
      obtain ⟨ox, od, J⟩ := inst_at I ha
      have hr2 : Room k X.A.in1.in1 := hr.in1.in1
      refine PySem.W.kso_call hr2.units0 I.kIn J M.at_ M.fn (wpAny_mono (runO (us := [.ref a]) (vs := [.ref a]) F hr2 hgd rfl (bind1 (is := [0]) hb I.kIn) I (.cons rfl .nil) S (.cons r1 .nil) hl.symm hf (Q := fun y H' => (∃ z, y = .str z) ∧ Q y H') fun mu' H' y l s' ry => ⟨?_, q mu' H' y l s' ry⟩) (fun u s' z => ?_) fun _ _ z => z)
      · cases w <;> first
          | (cases ry; exact ⟨_, rfl⟩)
          | exact absurd hk Bool.false_ne_true
      · obtain ⟨v, H', I', rv, ⟨z, rfl⟩, qv⟩ := z
        obtain ⟨t, rfl⟩ := rv
        exact ⟨.str z, H', I', ⟨t, rfl⟩, qv⟩
theorem cr_len (M : SpK X.K c C "__len__" f) (F : FnG X.prog X.w X.K X.mg X.base k f fd ps (spU X.K X.mg ps.length fn)) (hr : Room (k + 1) X.A) (hgd : X.A.guards = some []) (hb : BindK X.K fd ps 1 [] [0] []) (hl : ps.length = 1) : CallR X (.builtin "len") (rOwn X.K X.mg c fn isLenD) := by
  rintro pins s σ H xs us Q I r ⟨mu, hs, ds, w, hs', S, rd, e, q⟩
  obtain ⟨d, kvs, rfl, hi, hf, hk⟩ := gOwn_at e
  cases rd with
  | cons r1 r2 =>
    cases r2
    obtain ⟨a, C', dx, vs, rfl, hC, ha, _⟩ := ins_at S r1 hi
    cases M.isC.inj hC
    cases r with
    | cons ru rr =>
      cases rr
      cases ru
      obtain ⟨ox, od, J⟩ := inst_at I ha
      have hr2 : Room k X.A.in1 := hr.in1
      have run := runO (us := [.ref a]) (vs := [.ref a]) F hr2 hgd rfl (bind1 (is := [0]) hb I.kIn) I (.cons rfl .nil) S (.cons r1 .nil) hl.symm hf (Q := fun y H' => (∃ z : Int, y = .int z ∧ 0 ≤ z ∧ z < 2 ^ 63) ∧ Q y H') fun mu' H' y l s' ry => ⟨by
        cases w <;> first
          | (cases ry
             have hk := (Bool.and_eq_true _ _).mp (show (decide _ && decide _) = true from hk)
             exact ⟨_, rfl, of_decide_eq_true hk.1, of_decide_eq_true hk.2⟩)
          | exact absurd hk Bool.false_ne_true, q mu' H' y l s' ry⟩
      refine Calls.call_function_entry kind_len plain_len entry_len (args_len1 _) ?_
      unfold Builtin.«len»
      refine wpAny_bind (m := oneArg "len" _) (wpAny_pure ?_)
      refine wpAny_bind (m := callSpecial? (.ref a) (Str.ofString "__len__")) (PySem.W.special_fn I.kIn J M.at_ (beq_iff_eq.mp M.fn) (wpAny_mono run (fun r s' hr => ?_) fun _ _ y => y))
      obtain ⟨v, H', I', rv, ⟨n, rfl, h0, h1⟩, qv⟩ := hr
      obtain ⟨t, rfl⟩ := rv
      refine wpAny_bind (wpAny_holding (wpAny_pure ?_))
      refine wpAny_bind (wpAny_letGo ?_)
      show wpAny _ _ (if n < 0 then _ else _) _ _ _
      rw [if_neg (by omega)]
      show wpAny _ _ (if n ≥ 2 ^ 63 then _ else _) _ _ _
      rw [if_neg (by omega)]
      exact wpAny_bind (wpAny_mkInt (wpAny_pure ⟨_, rfl, .int n, H', I'.tok _, ⟨_, rfl⟩, qv⟩))
end
section
variable {X : Cx} {Wd : WX} {k k' : Nat} {f C : Addr} {fd : FuncData} {ps : List Str} {fn : List D → Hs → R D} {c : Str} {e : Expr} {es : List Expr} {fa : FA} {p pos : Pos}
theorem ue_ostr (B : Bd X Wd k') (M : SpK X.K c C "__str__" f) (F : FnG X.prog X.w X.K X.mg X.base k f fd ps (spU X.K X.mg ps.length fn)) (hr : k + 2 ≤ k') (hb : BindK X.K fd ps 1 [] [0] []) (hm : X.mg "str" = none) (ha : UA X Wd (e :: es) fa) (hl : ps.length = 1 := by rfl) (hg : L2.Gl X "str" := by rfl)
    (he : starEach (e :: es) X.env = (false, eval e X.env) :: starEach es X.env := by rfl) (hpl : (backTo pos (starEach es X.env)).any (·.1) = false := by rfl) : UE X Wd (.Call (.Name "str" p) (e :: es) [] pos) (eOwn (gOwn c fn isStrD) fa) :=
  PE.imp (pe_callTy (cr_str M F (B.room.mono hr) B.gd hb hl) hg hm PyProof.Rows.boot_str ha (by decide) (by decide) he hpl) fun _ _ _ h => tG_own h
theorem ue_olen (B : Bd X Wd k') (M : SpK X.K c C "__len__" f) (F : FnG X.prog X.w X.K X.mg X.base k f fd ps (spU X.K X.mg ps.length fn)) (hr : k + 1 ≤ k') (hb : BindK X.K fd ps 1 [] [0] []) (hm : X.mg "len" = none) (ha : UA X Wd (e :: es) fa) (hl : ps.length = 1 := by rfl) (hg : L2.Gl X "len" := by rfl)
    (he : starEach (e :: es) X.env = (false, eval e X.env) :: starEach es X.env := by rfl) (hpl : (backTo pos (starEach es X.env)).any (·.1) = false := by rfl) : UE X Wd (.Call (.Name "len" p) (e :: es) [] pos) (eOwn (gOwn c fn isLenD) fa) :=
  PE.imp (pe_callB (cr_len M F (B.room.mono hr) B.gd hb hl) hg hm PySem.boot_len ha (by decide) (by decide) he hpl) fun _ _ _ h => tG_own h
end
/-! # G36: f-strings; what holds behind the constructs of instances -/
/-! ### f-strings -/
def eJs : List FE → Str → FE
  | [], acc => fun _ hs => .ok (.str acc) hs
  | f :: fs, acc => fun e hs => (f e hs).bind fun d hs => match d with
    | .str y => if (acc ++ y).length ≤ sizeLine then eJs fs (acc ++ y) e hs else .bad
    | _ => .bad
section
end
/-! ### behind them -/
section
variable {a b : Type} {Q : D → Hs → Prop} {X : XQ} {e : Ev} {hs h : Hs} {c m f : Str} {fn : List D → Hs → R D} {is : List Nat} {dds : List D} {fo fv : FE} {fa fk : FA} {P : Po}
theorem wp_mk (q : Wp (fa e h) (fun ds h => Wp (fk e h) (fun zs h => Wp (fn (selL is (.ref h.length :: ds) zs dds) (h ++ [.ins c []])) (fun d h' => d = .non ∧ Q (.ref h.length) h') X) X) X) : Wp (eMk c fn is dds fa fk e h) Q X := by
  refine wp_bind (wp_mono q (fun ds h1 q => wp_bind (wp_mono q (fun zs h2 q => ?_) fun _ _ _ x => x)) fun _ _ _ x => x)
  unfold mkR
  with_unfolding_all
  unfold Wp at q ⊢
  cases z : fn (selL is (.ref h2.length :: ds) zs dds) (h2 ++ [.ins c []]) with
  | ok d h' =>
    rw [z] at q
    obtain ⟨rfl, q⟩ := q
    exact q
  | exc c fs h' => rw [z] at q; exact q
  | bad => rw [z] at q; exact q
theorem wp_mth (q : Wp (fo e h) (fun o h => ∃ kvs, insOf h o = some (c, kvs) ∧ kvs.lookup m = none ∧ Wp (fa e h) (fun ds h => Wp (fk e h) (fun zs h => Wp (fn (selL is (o :: ds) zs dds) h) Q X) X) X) X) : Wp (eMth c m fn is dds fo fa fk e h) Q X := by
  refine wp_bind (wp_mono q (fun o h1 q => ?_) fun _ _ _ x => x)
  obtain ⟨kvs, h2, h3, q⟩ := q
  rw [h2]
  dsimp only
  rw [if_pos ⟨rfl, h3⟩]
  exact wp_bind (wp_mono q (fun _ _ q => wp_bind q) fun _ _ _ x => x)
theorem wp_eown {g : Hs → List D → Option (D × Hs)} (q : Wp (fa e h) (fun ds h => Wp (R.ofP (g h ds)) Q X) X) : Wp (eOwn g fa e h) Q X := wp_bind q
theorem ws_fld {cs : List Str} (q : Wp (fv e h) (fun v h => Wp (fo e h) (fun o h => ∃ n c kvs, o = .ref n ∧ h[n]? = some (.ins c kvs) ∧ cs.contains c = true ∧ kvs.length < 1000 ∧ P.nx e (h.set n (.ins c (putD f v kvs)))) (fun c fs h => P.ex c fs e h)) (fun c fs h => P.ex c fs e h)) : Ws (sFld cs f fv fo e h) P := by
  refine ws_bind (wp_mono q (fun v h1 q => ws_bind (wp_mono q (fun o h2 q => ?_) fun _ _ _ x => x)) fun _ _ _ x => x)
  obtain ⟨n, c, kvs, rfl, h3, h4, h5, q⟩ := q
  dsimp only
  rw [h3]
  dsimp only
  rw [if_pos ⟨h4, h5⟩]
  with_unfolding_all exact q
theorem wp_js0 {acc : Str} (q : Q (.str acc) h) : Wp (eJs [] acc e h) Q X := wp_ok q
theorem wp_js1 {acc : Str} {f : FE} {fs : List FE} (q : Wp (f e h) (fun d h => ∃ y, d = .str y ∧ (acc ++ y).length ≤ sizeLine ∧ Wp (eJs fs (acc ++ y) e h) Q X) X) : Wp (eJs (f :: fs) acc e h) Q X := by
  refine wp_bind (wp_mono q (fun d h1 q => ?_) fun _ _ _ x => x)
  obtain ⟨y, rfl, h2, q⟩ := q
  dsimp only
  rw [if_pos h2]
  exact q
/-! values -/
theorem own_of {d w : D} {kvs : List (Str × D)} {chk : D → Bool} {h' : Hs} (hi : insOf h d = some (c, kvs)) (hf : fn [d] h = .ok w h') (hk : chk w = true) : gOwn c fn chk h [d] = some (w, h') := by
  unfold gOwn
  dsimp only
  rw [hi]
  dsimp only
  rw [if_pos rfl, hf]
  dsimp only
  rw [if_pos hk]
end
/-! # G37: defs with defaults; short forms for the printer -/
/-- a def of the text with defaults dvs -/
abbrev FunF (K : PySem.W.Frag) (x qual : Str) (st : Stmt) (dvs : List V) (f : Addr) (fd : FuncData) : Prop := FunD K x qual (defArgs st) (defBody st) (defScope st) dvs [] f fd
section
variable {P : Program} {w : World} {K : PySem.W.Frag} {mg : Str → Option Value} {base : Heap} {x qual : Str} {st : Stmt} {f : Addr} {fd : FuncData} {ps ks : List Str} {n : Nat} {is : List Nat} {dvs : List V}
theorem funF_ok {N : List Str} {k : Nat} (F : FunF K x qual st dvs f fd) (hsm : ∃ o, base.get? sysModules = some o) (S : FnScope N ps (defScope st)) (b : FS)
    (hb : ∀ (cdv : Value) (A : Around) (outer : List Env) (s : Shared) (H : Hp) (E : XK), Bd (cxOf (L2.CX P w) P w K mg base N qual (defScope st) f cdv A outer s H E) (fun cls dx _ H' => E cls dx H') k →
      USs (cxOf (L2.CX P w) P w K mg base N qual (defScope st) f cdv A outer s H E) (fun cls dx _ H' => E cls dx H') (defBody st) b) : FnG P w K mg base (k + 1) f fd ps (spU K mg ps.length (fnBody N.length b)) := by
  obtain ⟨oc, od, dV, kV, doc, pm, an, cdv, ct, osl, rfl, lk, hcd, hD, hK⟩ := F.ex
  exact fnG_of hsm lk hcd S b fun A outer s H E B => hb cdv A outer s H E B
/-- some defaults are read -/
theorem bindKD_of (F : FunF K x qual st dvs f fd) (hd : dvs ≠ []) (h : ∀ (T : Addr) (kV doc pm : Value) (an : Option Addr) (cdv ct : Value) (us its ws : List Value), us.length = n → its.length = dvs.length → ws.length = ks.length →
      ∃ k, bindArgs (PySem.W.fnOf x qual (defArgs st) (defBody st) (defScope st) (.ref T) kV doc pm an cdv ct) ⟨us, ks.zip ws⟩ = seqItems? (.ref T) >>= k ∧ k (some its.toArray) = pure (ps.zip (selL is us ws its))) : ∃ its, Vals dvs its ∧ BindK K fd ps n ks is its := by
  obtain ⟨oc, od, dV, kV, doc, pm, an, cdv, ct, osl, rfl, lk, hcd, hD, hK⟩ := F.ex
  rcases hD with ⟨e, _⟩ | ⟨_, T, o, its, m, rfl, lT, oT, rT⟩
  · exact absurd e hd
  · refine ⟨its, rT, fun s us ws X l1 l2 => ?_⟩
    obtain ⟨k, e1, e2⟩ := h T kV doc pm an cdv ct us its ws l1 rT.length.symm l2
    refine BindsTo.of_looks fun M => ?_
    rw [e1]
    exact looks_items X lT oT (.of_pure e2)
/-- none is read -/
theorem bindKN_of (F : FunF K x qual st dvs f fd) (hd : dvs ≠ []) (h : ∀ (T : Addr) (kV doc pm : Value) (an : Option Addr) (cdv ct : Value) (us its ws : List Value), us.length = n → its.length = dvs.length → ws.length = ks.length →
      bindArgs (PySem.W.fnOf x qual (defArgs st) (defBody st) (defScope st) (.ref T) kV doc pm an cdv ct) ⟨us, ks.zip ws⟩ = pure (ps.zip (selL is us ws its))) : ∃ its, Vals dvs its ∧ BindK K fd ps n ks is its := by
  obtain ⟨oc, od, dV, kV, doc, pm, an, cdv, ct, osl, rfl, lk, hcd, hD, hK⟩ := F.ex
  rcases hD with ⟨e, _⟩ | ⟨_, T, o, its, m, rfl, lT, oT, rT⟩
  · exact absurd e hd
  · exact ⟨its, rT, fun s us ws X l1 l2 => .of_eq (h T kV doc pm an cdv ct us its ws l1 rT.length.symm l2)⟩
theorem funF_mk {oc : Value} {od an : Option Addr} {osl : Array (Option Value)} {dV kV doc pm cdv ct : Value} (l : K.lookup f = some ⟨oc, od, .func (PySem.W.fnOf x qual (defArgs st) (defBody st) (defScope st) dV kV doc pm an cdv ct), osl⟩)
    (c : PySem.W.codeIn K cdv qual = true) (k : PySem.W.keepIn K (.ref f) = true) (d : DflV K dV dvs) : FunF K x qual st dvs f (PySem.W.fnOf x qual (defArgs st) (defBody st) (defScope st) dV kV doc pm an cdv ct) :=
  ⟨⟨oc, od, dV, kV, doc, pm, an, cdv, ct, osl, rfl, l, c, d, .inl rfl⟩, k⟩
end
section
variable {X : Cx} {Wd : WX} {k k' n : Nat} {f C : Addr} {fd : FuncData} {ps ks : List Str} {fn : List D → Hs → R D} {dds : List D} {dvs : List V} {is : List Nat} {x : Str} {p pos kpos : Pos} {e : Expr} {es : List Expr} {fa fk : FA} {kws : List Keyword}
theorem ue_mkD {c : Str} (B : Bd X Wd k') (M : Mk X.K C f) (hC : IsC X.K c C) (F : FnG X.prog X.w X.K X.mg X.base k f fd ps (spU X.K X.mg ps.length fn)) (hr : k + 1 ≤ k') (hm : X.mg x = some (.ref C))
    (hbd : ∃ its, Vals dvs its ∧ BindK X.K fd ps ((e :: es).length + 1) ks is its) (hdd : ∀ mu H, RDs X.K mu H dds dvs) (ha : UA X Wd (e :: es) fa) (hkw : UK X Wd kws fk)
    (hla : ∀ ev hs qs hs', fa ev hs = .ok qs hs' → qs.length = (e :: es).length) (hlk : ∀ ev hs qs hs', fk ev hs = .ok qs hs' → qs.length = ks.length)
    (hi : is.all (fun i => decide (i < (e :: es).length + 1 + ks.length + dds.length)) = true := by decide) (hl : is.length = ps.length := by rfl) (hg : L2.Gl X x := by rfl)
    (hall : (backToKw pos (keywordEach kws X.env)).all (·.1.isSome) = true := by rfl) (hks : (backToKw pos (keywordEach kws X.env)).filterMap (·.1) = ks := by rfl)
    (hdb : (x == ("__debug__" : Str)) = false := by decide) (he : starEach (e :: es) X.env = (false, eval e X.env) :: starEach es X.env := by rfl)
    (hpl : ((backTo pos (starEach (e :: es) X.env)).any (·.1) || (backToKw pos (keywordEach kws X.env)).any (·.1.isNone)) = false := by rfl) :
    UE X Wd (.Call (.Name x p) (e :: es) kws pos) (eMk c fn is dds fa fk) := by
  obtain ⟨its, hd, hb⟩ := hbd
  exact ue_mk B M hC F hr hm hb hd hdd ha hkw hla hlk hi hl hg hall hks hdb he hpl
end
/-! attributes of several classes -/
theorem Flds.nil {K : PySem.W.Frag} {f : Str} : Flds K [] f := fun c h => by cases h
theorem Flds.cons {K : PySem.W.Frag} {c f : Str} {cs : List Str} {C : Addr} (hC : IsC K c C) (a : L2.Cls K C) (b : NoAttr K C f) (r : Flds K cs f) : Flds K (c :: cs) f := fun c' h C' h' => by
  rcases List.mem_cons.mp h with rfl | h
  · rw [h'.inj hC]; exact ⟨a, b⟩
  · exact r c' h C' h'
/-- a value made, by value -/
theorem wp_egc {f : FE} {e : Ev} {hs : Hs} {Q : D → Hs → Prop} {X : XQ} (h : Wp (f e hs) (fun d h1 => ∃ d', dW (dH h1 hs.length 50) d = some d' ∧ Cls hs h1 ∧ Q d' (h1.take hs.length))
    (fun c fs h1 => ∃ ds, dWs (dH h1 hs.length 50) (fs.map (·.2)) = some ds ∧ Cls hs h1 ∧ X c ((fs.map (·.1)).zip ds) (h1.take hs.length))) : Wp (eGc f e hs) Q X := wp_gcR h
/-- nothing below has changed -/
theorem cls_app {hs t : Hs} : Cls hs (hs ++ t) := fun k hk => .inl (List.getElem?_append_left hk)
theorem take_app {hs t : Hs} : (hs ++ t).take hs.length = hs := List.take_left
theorem set_app {hs : Hs} {o o' : O} : (hs ++ [o]).set hs.length o' = hs ++ [o'] := by
  rw [List.set_append_right _ _ (Nat.le_refl _), Nat.sub_self]; rfl
/-! # G38: Skins: made, their attributes, len and text -/
noncomputable section
abbrev k_ALONG : D := (.str "along")
def f_sign_of : FS := (sSeq (sIf (eB (eBin gEq (eName 0) (eC k_ALONG))) (sRet (eC (.str "a"))) sSkip)
  (sRet (eC (.str "x"))))
def c_sign_of : List D → Hs → R D := fnBody 1 f_sign_of
def f_zone_word : FS := (sRet (eBin gAdd (eFn c_sign_of [0] [] (aCons (eBin gIx (eName 0) (eC (.int 0))) aNil)) (eCall gStr (aCons (eBin gIx (eName 0) (eC (.int 1))) aNil))))
def c_zone_word : List D → Hs → R D := fnBody 1 f_zone_word
def f_Skin_init : FS := (sSeq (sFld ["Skin"] "zones" (eName 1) (eName 0))
  (sSeq (sFld ["Skin"] "stretch" (eName 2) (eName 0))
  (sFld ["Skin"] "grade" (eName 3) (eName 0))))
def c_Skin_init : List D → Hs → R D := fnBody 4 f_Skin_init
def f_Skin_str : FS := (sSeq (sSetC 1 false (lComp (iAny (eUn (gFld ["Skin"] "zones") (eName 0))) (nSet 2) tYesF (eFn c_zone_word [0] [] (aCons (eName 2) aNil)) [2]))
  (sRet (eMt (fun _ => isS) mJoin (eC (.str " ")) (aCons (eBin gAdd (eName 1) (eV (aCons (eBin gAdd (eC (.str "s")) (eCall gStr (aCons (eUn (gFld ["Skin"] "stretch") (eName 0)) aNil))) (aCons (eBin gAdd (eC (.str "g")) (eCall gStr (aCons (eUn (gFld ["Skin"] "grade") (eName 0)) aNil))) aNil)))) aNil))))
def c_Skin_str : List D → Hs → R D := fnBody 3 f_Skin_str
def f_Skin_len : FS := (sRet (eCall gLen (aCons (eUn (gFld ["Skin"] "zones") (eName 0)) aNil)))
def c_Skin_len : List D → Hs → R D := fnBody 1 f_Skin_len

end
end G
local macro_rules | `(tactic| fail "P1") => `(tactic| first
  | ((with_reducible show Wp (c_is_size _ _) _ _); refine wp_of (size_eq ?p) ?_; (case p => fail "p"))
  | ((with_reducible show Wp (c_is_moment _ _) _ _); refine wp_of (moment_eq ?p) ?_; (case p => fail "p"))
  | ((with_reducible show Wp (c_is_side _ _) _ _); refine wp_of (side_eq ?p) ?_; (case p => fail "p"))
  | ((with_reducible show Wp (c_is_grade _ _) _ _); refine wp_of (grade_eq ?p) ?_; (case p => fail "p"))
  | ((with_reducible show Wp (c_is_name _ _) _ _); refine wp_of (name_eq ?p ?q) ?_; (case p => fail "p"); (case q => first | assumption | omega))
  | ((with_reducible show Wp (c_is_ident _ _) _ _); refine wp_of (ident_eq ?p) ?_; (case p => assumption))
  | ((with_reducible show Wp (c_is_glove _ _) _ _); refine wp_of (glove_eq ?p ?q) ?_; (case p => assumption); (case q => first | assumption | omega)))
local macro_rules | `(tactic| fail "d1") => `(tactic| first
  | ((with_reducible show Wp (c_draw _ _) _ _); refine' dr ?s ?k ?a ?b ?_; (case s => assumption); (case k => assumption); (case a => first | decide | omega); (case b => first | decide | omega); intro _ _ _ _ _))
local macro_rules | `(tactic| fail "d") => `(tactic| repeat (first | fail "s1" | fail "e1" | fail "h1" | fail "P1" | fail "d1"))
local macro_rules | `(tactic| fail "db") => `(tactic| repeat' (first | fail "s1" | fail "e1" | fail "h1" | fail "P1" | fail "d1" | fail "b1"))
local macro_rules | `(tactic| fail "tl") => `(tactic| repeat' (first | assumption | omega | decide | (with_reducible refine len_half ?_ ?_) | (with_reducible refine lit_half ?_) | (with_reducible refine cut_half ?_) | (with_reducible refine T_half ?_)))
local macro_rules | `(tactic| fail "t1") => `(tactic| first
  | ((with_reducible refine wp_some (add_str ?q ?r) ?_); (case q => fail "tl"); (case r => fail "tl"))
  | ((with_reducible refine wp_some (sl_str ?q) ?_); (case q => fail "tl"))
  | ((with_reducible refine wp_some (len_str ?q) ?_); (case q => fail "tl"))
  | ((with_reducible refine wp_someP (upper_str ?q) ?_); (case q => fail "tl"))
  | ((with_reducible refine wp_some (str_int ?q) ?_); (case q => first | assumption | omega))
  | with_reducible (first | refine wp_some rev_tup ?_ | refine wp_some rev_lst ?_ | refine wp_some is_bl ?_ | refine wp_some isN_bl ?_ | refine wp_some neg_i ?_ | refine wp_lAdd ?_ | refine And.intro rfl ?_))
local macro_rules | `(tactic| fail "d") => `(tactic| repeat (first | fail "s1" | fail "e1" | fail "h1" | fail "t1" | fail "P1" | fail "d1"))
local macro_rules | `(tactic| fail "db") => `(tactic| repeat' (first | fail "s1" | fail "e1" | fail "h1" | fail "t1" | fail "P1" | fail "d1" | fail "b1"))
local macro_rules | `(tactic| fail "dz") => `(tactic| (fail "db" <;> try fail "z"))
local macro_rules | `(tactic| fail "hg") => `(tactic| first | assumption | exact get_new | (refine get_app ?_; fail "hg") | (refine' get_set_eq ?e; (case e => fail "hg")) | (refine (get_set_ne ?_).trans ?_; (first | omega | (simp only [List.length_append, List.length_set, List.length_cons, List.length_nil]; omega)); fail "hg"))
local macro_rules | `(tactic| fail "st") => `(tactic| repeat' (first | assumption | (with_reducible refine St.wapp ?_ ?_) | (with_reducible refine St.wset ?_ ?_ ?_ ?_) | (simp only [List.length_append, List.length_set, List.length_cons, List.length_nil]; omega) | omega))
local macro_rules | `(tactic| fail "ll") => `(tactic| repeat' (first | assumption | omega | exact Nat.le_of_ble_eq_true rfl | (with_reducible refine app_half ?_ ?_) | (with_reducible refine cutL_half ?_) | (with_reducible refine rev_half ?_) | (with_reducible refine map_half ?_) | (with_reducible refine cons_half ?_ ?_)))
local macro_rules | `(tactic| fail "n") => `(tactic| repeat (fail "n1"))
local macro_rules | `(tactic| fail "nb") => `(tactic| repeat' (first | fail "n1" | fail "b1"))
local macro_rules | `(tactic| fail "c") => `(tactic| first
  | assumption
  | (refine closeB (by assumption) ?_; first | rfl | (simp_all; done) | (simp_all <;> omega)))
local macro_rules | `(tactic| fail "nc") => `(tactic| (fail "nb" <;> try fail "c"))
local macro_rules | `(tactic| fail "q") => `(tactic| exact Int.natCast_pos.mpr (Nat.succ_pos _))
local macro_rules | `(tactic| fail "hg") => `(tactic| with_reducible exact St.k2 (by assumption))
namespace G
open PySem PySem.Spec PyProof.Rows L2
local macro_rules | `(tactic| fail "n1") => `(tactic| first
  | ((with_reducible show Wp (R.ofO _ _) _ _); first
    | with_reducible apply wp_some eq_same
    | with_reducible apply wp_some ne_same
    | with_reducible apply wp_some add_i
    | with_reducible apply wp_some sub_i
    | with_reducible apply wp_some lt_i
    | with_reducible apply wp_some le_i
    | with_reducible apply wp_some gt_i
    | with_reducible apply wp_some ge_i
    | with_reducible apply wp_some eq_i
    | with_reducible apply wp_some ne_i
    | with_reducible apply wp_some eq_b
    | with_reducible apply wp_some max_i
    | with_reducible apply wp_some min_i
    | with_reducible apply wp_some tup_tup
    | with_reducible apply wp_some tup_lst
    | with_reducible apply wp_some len_tup
    | with_reducible apply wp_some len_lst
    | with_reducible apply wp_some sl_tup
    | with_reducible apply wp_some sl_lst
    | with_reducible apply wp_some tru_b
    | with_reducible apply wp_some repr_b
    | with_reducible refine wp_eq_sb ?_
    | with_reducible apply wp_some seq_lst
    | with_reducible apply wp_some seq_tup
    | ((with_reducible apply wp_ix_tup); (case q => rfl))
    | ((with_reducible apply wp_ix_lst); (case q => rfl))
    | ((with_reducible apply wp_ix_ref); (case p => assumption); (case q => rfl))
    | with_reducible apply wp_some eq_s
    | ((with_reducible apply wp_some (mod_int ?q)); (case q => fail "q"))
    | ((with_reducible apply wp_some (div_int ?p ?q)); (case p => fail "q"); (case q => fail "q"))
    | ((with_reducible apply wp_some (mul_int ?q)); (case q => fail "q"))
    | ((with_reducible apply wp_some (add_tup2 ?a ?b)); (case a => fail "ll"); (case b => fail "ll"))
    | ((with_reducible apply wp_some (add_lst2 ?a ?b)); (case a => fail "ll"); (case b => fail "ll"))
    | with_reducible apply wp_some ne_b
    | with_reducible refine wp_ne_sb ?_
    | with_reducible apply wp_some ne_s
    | with_reducible apply wp_some reprA_b
    | with_reducible apply wp_some isi_non
    | with_reducible apply wp_some isi_bl
    | with_reducible apply wp_some isi_int
    | with_reducible apply wp_some isi_str
    | with_reducible apply wp_some isi_tup
    | with_reducible apply wp_some isi_lst
    | with_reducible apply wp_some isi_dct
    | ((with_reducible apply wp_some (add_str ?q ?r)); (case q => fail "tl"); (case r => fail "tl"))
    | ((with_reducible apply wp_some (sl_str ?q)); (case q => fail "tl"))
    | ((with_reducible apply wp_some (len_str ?q)); (case q => fail "tl"))
    | ((with_reducible apply wp_some (str_int ?q)); (case q => first | assumption | omega))
    | with_reducible apply wp_some rev_tup
    | with_reducible apply wp_some rev_lst
    | with_reducible apply wp_some is_bl
    | with_reducible apply wp_some isN_bl
    | with_reducible apply wp_some neg_i
    | ((with_reducible apply wp_some (isi_pln ?q)); (case q => fail "p"))
    | with_reducible apply wp_some pow6
    | with_reducible apply wp_some eqT_tup
    | ((with_reducible apply wp_some (rev_str ?q)); (case q => fail "tl"))
    | ((with_reducible apply wp_some (add_rl ?q ?a ?b)); (case q => fail "hg"); (case a => fail "ll"); (case b => fail "ll"))
    | ((with_reducible apply wp_some (add_lr ?q ?a ?b)); (case q => fail "hg"); (case a => fail "ll"); (case b => fail "ll"))
    | ((with_reducible apply wp_some (add_rr ?q ?r ?a ?b)); (case q => fail "hg"); (case r => fail "hg"); (case a => fail "ll"); (case b => fail "ll"))
    | with_reducible apply wp_some lst_lst
    | ((with_reducible apply wp_some (lst_ref ?q)); (case q => fail "hg"))
    | ((with_reducible apply wp_some (len_ref ?q)); (case q => fail "hg"))
    | ((with_reducible apply wp_some (tup_ref ?q)); (case q => fail "hg"))
    | with_reducible apply wp_some pow39
    | with_reducible apply wp_some pow30
    | with_reducible apply wp_some pow40
    | with_reducible apply wp_some tru_non
    | with_reducible apply wp_some tru_int
    | with_reducible apply wp_some tru_tup
    | ((with_reducible apply wp_some (tru_str ?q)); (case q => fail "tl"))
    | ((with_reducible apply wp_some (mulS_str ?a ?b ?d)); (case a => fail "tl"); (case b => fail "tl"); (case d => fail "tl"))
    | ((with_reducible apply wp_some (mulS_tupA ?a ?b ?c ?d)); (case a => fail "tl"); (case b => fail "tl"); (case c => first | rfl | assumption); (case d => fail "tl")))
  | ((with_reducible show Wp (R.ofP _) _ _); first
    | ((with_reducible apply wp_someP (app_ref2 ?e ?q)); (case e => fail "hg"); (case q => fail "ll"))
    | ((with_reducible apply wp_someP (upper_str ?q)); (case q => fail "tl")))
  | ((with_reducible show Ws _ _); first
    | with_reducible refine ws_seq ?_
    | with_reducible refine ws_set ?_
    | with_reducible refine ws_setC ?_
    | with_reducible refine ws_setCM ?_
    | with_reducible refine ws_if ?_
    | with_reducible refine ws_ret ?_
    | with_reducible refine ws_retN ?_
    | with_reducible refine ws_drop ?_
    | with_reducible refine ws_skip ?_
    | with_reducible refine ws_asg ?_
    | with_reducible refine ws_par ?_
    | with_reducible refine ws_sub ?_)
  | ((with_reducible refine' And.intro (isL_ref ?e) ?_); (case e => fail "hg"))
  | ((with_reducible refine And.intro (And.intro ?a ?b) ?_); (case a => fail "ll"); (case b => fail "ll"))
  | with_reducible (first | refine Exists.intro _ (And.intro rfl ?_) | refine Exists.intro _ (Exists.intro _ (And.intro rfl ?_)) | refine And.intro rfl ?_)
  | ((with_reducible show Wp _ _ _); first
    | ((with_reducible apply wp_name); (case q => rfl))
    | with_reducible refine wp_c ?_
    | with_reducible refine wp_bin ?_
    | with_reducible refine wp_acons ?_
    | with_reducible refine wp_anil ?_
    | with_reducible refine wp_call ?_
    | with_reducible refine wp_fn ?_
    | with_reducible refine wp_fnK ?_
    | with_reducible refine wp_ev ?_
    | with_reducible refine wp_em ?_
    | with_reducible refine wp_tup ?_
    | with_reducible refine wp_eb ?_
    | with_reducible refine wp_et ?_
    | with_reducible refine wp_un ?_
    | with_reducible refine wp_chain ?_
    | with_reducible refine wp_and ?_
    | with_reducible refine wp_or ?_
    | with_reducible refine wp_not ?_
    | with_reducible refine wp_andF ?_
    | with_reducible refine wp_orF ?_
    | with_reducible refine wp_notF ?_
    | with_reducible refine wp_yes ?_
    | with_reducible refine wp_if ?_
    | with_reducible refine wp_sl ?_
    | with_reducible refine wp_onone ?_
    | with_reducible refine wp_osome ?_
    | with_reducible refine wp_rev ?_
    | with_reducible refine wp_list ?_
    | with_reducible refine wp_mt ?_
    | with_reducible refine wp_any ?_
    | with_reducible refine wp_r1 ?_
    | with_reducible refine wp_r2 ?_
    | with_reducible refine wp_body ?_
    | with_reducible refine wp_d0t ?_
    | with_reducible refine wp_d0k ?_
    | with_reducible refine wp_d0 ?_
    | with_reducible refine wp_valsT ?_
    | with_reducible refine wp_d1 ?_
    | with_reducible refine wp_lAdd ?_
    | fail "P1"
    | fail "d1")
  | ((fail_if_success (with_reducible show Ws _ _)); (fail_if_success (with_reducible show Wp _ _ _)); show Ws _ _))
local macro_rules | `(tactic| fail "n1") => `(tactic| first
  | with_reducible refine wp_iOf ?_
  | with_reducible apply wp_some neT_tup
  | with_reducible (first | refine ex_ent ?_ | refine ex_enl ?_ | refine ex_zpt ?_ | refine ex_zpl ?_))
local macro_rules | `(tactic| fail "n1") => `(tactic| first
  | with_reducible (first | refine wp_mk ?_ | refine wp_mth ?_ | refine wp_eown ?_ | refine ws_fld ?_ | refine wp_js1 ?_ | refine wp_js0 ?_))
section
variable {h : Hs} {Q : D → Hs → Prop} {X : XQ} {z s g d : D}
/-- a Skin -/
def skD (z s g : D) : D := .ins "Skin" ["zones", "stretch", "grade"] [z, s, g]
def skF (z s g : D) : List (Str × D) := [("zones", z), ("stretch", s), ("grade", g)]
theorem sk_ins : insOf h (skD z s g) = some (Str.ofString "Skin", skF z s g) := rfl
theorem sk_sk : ([Str.ofString "Skin"].contains (Str.ofString "Skin")) = true := by decide +kernel
theorem sk_ne1 : (Str.ofString "stretch" == Str.ofString "zones") = false := by decide +kernel
theorem sk_ne2 : (Str.ofString "grade" == Str.ofString "zones") = false := by decide +kernel
theorem sk_ne3 : (Str.ofString "grade" == Str.ofString "stretch") = false := by decide +kernel
theorem lk_here {k : Str} {d : D} {r : List (Str × D)} : List.lookup k ((k, d) :: r) = some d := by rw [List.lookup_cons, beq_self_eq_true]
theorem lk_next {k k' : Str} {d : D} {r : List (Str × D)} (n : (k == k') = false) : List.lookup k ((k', d) :: r) = List.lookup k r := by rw [List.lookup_cons, n]
theorem fld_at {c f : Str} {kvs : List (Str × D)} {cs : List Str} {o : D} (hi : insOf h o = some (c, kvs)) (hc : cs.contains c = true) : gFld cs f h o = kvs.lookup f := by
  unfold gFld
  rw [hi]
  exact if_pos hc
theorem sk_zones : gFld ["Skin"] "zones" h (skD z s g) = some z := (fld_at sk_ins sk_sk).trans lk_here
theorem sk_stretch : gFld ["Skin"] "stretch" h (skD z s g) = some s := (fld_at sk_ins sk_sk).trans ((lk_next sk_ne1).trans lk_here)
theorem sk_grade : gFld ["Skin"] "grade" h (skD z s g) = some g := (fld_at sk_ins sk_sk).trans ((lk_next sk_ne2).trans ((lk_next sk_ne3).trans lk_here))
theorem nq {a b : String} (h : (Str.ofString a == Str.ofString b) = false) : Str.ofString a ≠ Str.ofString b := fun e => by rw [e, beq_self_eq_true] at h; cases h
/-- Skin(z, s, g) -/
theorem mk_skin {R : Hs → Prop} (q : R (h ++ [.ins "Skin" (skF z s g)])) : Wp (c_Skin_init [.ref h.length, z, s, g] (h ++ [.ins "Skin" []])) (fun d h' => d = .non ∧ R h') X := by
  unfold c_Skin_init f_Skin_init
  refine wp_bodyE [some (.ref h.length), some z, some s, some g] rfl ?_
  fail "n"
  refine ⟨_, _, _, rfl, get_new, sk_sk, by decide, ?_⟩
  rw [set_app]
  fail "n"
  refine ⟨_, _, _, rfl, get_new, sk_sk, by show 1 < 1000; decide, ?_⟩
  rw [set_app]
  fail "n"
  refine ⟨_, _, _, rfl, get_new, sk_sk, ?_, ?_⟩
  · show (if Str.ofString "zones" = Str.ofString "stretch" then _ else _ : List (Str × D)).length < 1000
    rw [if_neg (nq sk_ne1).symm]
    show 2 < 1000
    decide
  rw [set_app]
  have e : putD "grade" g (putD "stretch" s (putD "zones" z [])) = skF z s g := by
    show putD "grade" g (if Str.ofString "zones" = Str.ofString "stretch" then _ else _) = _
    rw [if_neg (nq sk_ne1).symm]
    show (if Str.ofString "zones" = Str.ofString "grade" then _ else _) = _
    rw [if_neg (nq sk_ne2).symm]
    show _ :: (if Str.ofString "stretch" = Str.ofString "grade" then _ else _) = _
    rw [if_neg (nq sk_ne3).symm]
    rfl
  rw [e]
  exact ⟨rfl, q⟩
/-! ### its text -/
/-- a zone as a word -/
def zw : D → Str
  | .tup [.str g, .int n] => (if g == Str.ofString "along" then Str.ofString "a" else Str.ofString "x") ++ (toString n : String)
  | _ => Str.ofString ""
def Zn (d : D) : Prop := ∃ g n, d = .tup [.str g, .int n] ∧ n.natAbs < 10 ^ 60
def numT (c : String) (n : Int) : Str := Str.ofString c ++ (toString n : String)
def skW (zs : List D) (s g : Int) : List Str := zs.map zw ++ [numT "s" s, numT "g" g]
def skT (zs : List D) (s g : Int) : Str := Txt.join " " (skW zs s g)
theorem sign_eq {z : Str} : c_sign_of [.str z] h = .ok (.str (if z == Str.ofString "along" then Str.ofString "a" else Str.ofString "x")) h := by
  refine eq_any fun Q X q => ?_
  unfold c_sign_of f_sign_of
  refine wp_bodyE [some (.str z)] rfl ?_
  fail "n"
  refine ⟨fun e => ?_, fun e => ?_⟩
  · rw [e] at q
    fail "n"
    exact q
  · rw [e] at q
    fail "n"
    exact q
theorem zword_eq (hz : Zn d) : c_zone_word [d] h = .ok (.str (zw d)) h := by
  obtain ⟨g, n, rfl, hn⟩ := hz
  refine eq_any fun Q X q => ?_
  unfold c_zone_word f_zone_word
  refine wp_bodyE [some (.tup [.str g, .int n])] rfl ?_
  fail "n"
  refine wp_of sign_eq ?_
  fail "n"
  have l1 : (if g == Str.ofString "along" then Str.ofString "a" else Str.ofString "x").length ≤ 50000 := by
    split <;> exact Nat.le_trans (Nat.le_of_eq (PySem.ofString_length _)) (by decide)
  have l2 := (tx_int hn).len
  refine wp_some (add_str l1 (by omega)) ?_
  fail "n"
  exact q
theorem zw_len (hz : Zn d) : (zw d).length ≤ 62 := by
  obtain ⟨g, n, rfl, hn⟩ := hz
  have l2 := (tx_int hn).len
  show ((if g == Str.ofString "along" then Str.ofString "a" else Str.ofString "x") ++ _ : Str).length ≤ 62
  rw [str_len]
  have l1 : (if g == Str.ofString "along" then Str.ofString "a" else Str.ofString "x").length = 1 := by
    split <;> exact PySem.ofString_length _
  omega
theorem join_gen {sep : Str} {ys : List Str} (l : (ys.map (·.length)).sum + ys.length * sep.length ≤ 16777216) : mJoin h (.str sep) [.lst (ys.map D.str)] = some (.str (Txt.join sep ys), h) := by
  unfold mJoin
  dsimp only
  rw [seq_lst]
  dsimp only
  rw [strsOf_map]
  dsimp only
  rw [if_pos l]
theorem skin_str {zs : List D} {s g : Int} (hz : ∀ z ∈ zs, Zn z) (hl : zs.length ≤ 1000) (hs : s.natAbs < 10 ^ 60) (hg : g.natAbs < 10 ^ 60) : c_Skin_str [skD (.tup zs) (.int s) (.int g)] h = .ok (.str (skT zs s g)) h := by
  refine eq_any fun Q X q => ?_
  unfold c_Skin_str f_Skin_str
  refine wp_bodyE [some (skD (.tup zs) (.int s) (.int g)), none, none] rfl ?_
  fail "n"
  refine wp_cmap (fun d => .str (zw d)) ?_
  fail "n"
  refine wp_some sk_zones ?_
  fail "n"
  refine ⟨by omega, fun d hd => ?_, ?_⟩
  · refine ⟨_, rfl, ?_⟩
    fail "n"
    refine wp_of (zword_eq (hz d hd)) ?_
    exact ⟨rfl, rfl⟩
  have l1 := (tx_int hs).len
  have l2 := (tx_int hg).len
  fail "n"
  refine wp_some sk_stretch ?_
  fail "n"
  refine wp_some sk_grade ?_
  fail "n"
  have e : List.map (fun d => D.str (zw d)) zs ++ [D.str (Str.ofString "s" ++ Str.ofString (toString s)), D.str (Str.ofString "g" ++ Str.ofString (toString g))] = (skW zs s g).map D.str := by
    unfold skW numT
    rw [List.map_append, List.map_map]
    rfl
  rw [e]
  have sl : ∀ ws : List D, (∀ z ∈ ws, Zn z) → ((ws.map zw).map (·.length)).sum ≤ 62 * ws.length := by
    intro ws
    induction ws with
    | nil => intro _; exact Nat.le_refl _
    | cons w ws ih =>
      intro hw
      have h1 := zw_len (hw w List.mem_cons_self)
      have h2 := ih fun z hz => hw z (List.mem_cons_of_mem _ hz)
      show (zw w).length + ((ws.map zw).map (·.length)).sum ≤ 62 * (ws.length + 1)
      omega
  have n1 : (numT "s" s).length ≤ 62 := by unfold numT; rw [str_len, PySem.ofString_length]; have : "s".length = 1 := rfl; omega
  have n2 : (numT "g" g).length ≤ 62 := by unfold numT; rw [str_len, PySem.ofString_length]; have : "g".length = 1 := rfl; omega
  refine wp_someP (join_gen ?_) q
  have s1 := sl zs hz
  have e1 : (Str.ofString " ").length = 1 := PySem.ofString_length _
  unfold skW
  rw [List.map_append, List.sum_append, List.length_append, List.length_map, e1]
  show ((zs.map zw).map (·.length)).sum + ((numT "s" s).length + ((numT "g" g).length + 0)) + (zs.length + 2) * 1 ≤ 16777216
  omega
/-- len -/
theorem skin_len {zs : List D} : c_Skin_len [skD (.tup zs) s g] h = .ok (.int zs.length) h := by
  refine eq_any fun Q X q => ?_
  unfold c_Skin_len f_Skin_len
  refine wp_bodyE [some (skD (.tup zs) s g)] rfl ?_
  fail "n"
  refine wp_some sk_zones ?_
  fail "n"
  exact q
theorem own_str {zs : List D} {s g : Int} (hz : ∀ z ∈ zs, Zn z) (hl : zs.length ≤ 1000) (hs : s.natAbs < 10 ^ 60) (hg : g.natAbs < 10 ^ 60) : gOwn "Skin" c_Skin_str isStrD h [skD (.tup zs) (.int s) (.int g)] = some (.str (skT zs s g), h) :=
  own_of sk_ins (skin_str hz hl hs hg) rfl
theorem own_len {zs : List D} (hl : zs.length ≤ 1000000) : gOwn "Skin" c_Skin_len isLenD h [skD (.tup zs) s g] = some (.int zs.length, h) :=
  own_of sk_ins skin_len (by
    unfold isLenD
    dsimp only
    rw [decide_eq_true (show (0 : Int) ≤ zs.length by omega), decide_eq_true (show (zs.length : Int) < 2 ^ 63 by omega)]; rfl)
end
/-! # G39: a list times a number; == of like data -/
section
end
section
variable {e : Ev} {h : Hs} {X : XQ} {xs : List D} {i : Int}
/-! ### like data -/
theorem eqD_same {d : D} (hl : lay d = true) (hd : dep d ≤ 60) : gEqD h d d = some true := by
  obtain ⟨p, h1, h2, h3⟩ := lay_pd (r := pdH h 40) hl
  have e : pd h d = some p := by
    have hc := h1
    cases d <;> first | exact h1 | (exact absurd hl Bool.false_ne_true)
  unfold gEqD
  rw [e]
  dsimp only
  have sh : SeqAt.shaped p = true := by
    unfold SeqAt.shaped
    rw [h2, decide_eq_true (show p.depth ≤ 64 by omega)]; rfl
  rw [sh]
  exact congrArg some (PySem.SeqAt.eqv_refl p h2)
theorem eqB_same {d : D} (hl : lay d = true) (hd : dep d ≤ 60) : gEqB h d d = some true := by
  have := eqD_same (h := h) hl hd
  cases d <;> first
    | exact this
    | (show some (_ == _) = _; rw [beq_self_eq_true])
theorem eq_like {d : D} (hl : lay d = true) (hd : dep d ≤ 60) : gEq h d d = some (.bl true) := by
  unfold gEq
  rw [eqB_same hl hd]; rfl
end
/-! # G40: gloves: what they are, their measures -/
section
variable {h : Hs} {Q : D → Hs → Prop} {X : XQ} {d : D} {n k : Nat}
theorem int_bl {b : Bool} : gInt h [.bl b] = some (.int (if b then 1 else 0)) := by cases b <;> rfl
theorem ne_ss {z : Str} : gNe h (.str z) (.str z) = some (.bl false) := by unfold gNe; rw [eq_str, beq_self_eq_true]; rfl
theorem okR_in {i : Int} (h : 0 ≤ i) (h' : i ≤ 1000000) : okR i = true := by
  unfold okR
  rw [decide_eq_true (by omega), decide_eq_true (by omega)]; rfl
theorem Gl.is {g : D} (hg : Gl g) : isGv g = true := by
  obtain ⟨m, n, sd, st, lo, hi, gr, rfl, m0, m1, n0, n1, hsd, ⟨s1, s8, lw⟩, a, b, c, d, e, f⟩ := hg.ex
  have hs : isSd (.str (T sd)) = true := by rcases hsd with rfl | rfl <;> decide +kernel
  have hn : isNa (.str (T st)) = true := by
    show ((decide ((1 : Int) ≤ (T st).length) && decide (((T st).length : Int) ≤ 8)) && (T st).cps.toList.all isC) = true
    rw [T_len, T_cps, decide_eq_true (by omega), decide_eq_true (by omega), List.all_eq_true.mpr fun c hc => by
      have := lw c hc
      unfold isC
      rw [decide_eq_true (by omega), decide_eq_true (by omega)]; rfl]
    rfl
  show ((isB 0 999999 (.int m) && (isB 0 99 (.int n) && isSd (.str (T sd)))) && (isNa (.str (T st)) && _)) = true
  rw [hs, hn]
  simp only [isB, isW, leD, decide_eq_true m0, decide_eq_true m1, decide_eq_true n0, decide_eq_true n1, decide_eq_true a, decide_eq_true b, decide_eq_true c, decide_eq_true d, decide_eq_true e, decide_eq_true f]
  rfl
theorem Gl.sm {g : D} (hg : Gl g) : Sm 1 40 g := by
  obtain ⟨m, n, sd, st, lo, hi, gr, rfl, m0, m1, n0, n1, hsd, ⟨s1, s8, lw⟩, a, b, c, d, e, f⟩ := hg.ex
  have hs : okS (T sd) = true ∧ (T sd).length ≤ 1 := by rcases hsd with rfl | rfl <;> exact ⟨by decide +kernel, Nat.le_refl _⟩
  have i : ∀ j : Int, -1000000 ≤ j → j ≤ 1000000 → Sm 0 0 (.int j) := fun j h1 h2 => sm_int (by
    have : (10 : Nat) ^ 60 ≥ 10000000 := by decide
    omega)
  refine (sm_tup (sms_cons (i m (by omega) (by omega)) (sms_cons (i n (by omega) (by omega)) (sms_cons (sm_str (k := 0) (n := 1) hs.1 hs.2) (sms_cons (sm_str (k := 0) (n := 8) (lw_ok lw) (by rw [T_len]; exact s8)) (sms_cons (i lo (by omega) (by omega)) (sms_cons (i hi (by omega) (by omega)) (sms_cons (i gr (by omega) (by omega)) sms_nil)))))))).mono (by decide) (by decide)
theorem Gl.val {g : D} (hg : Gl g) : val g = true := by
  obtain ⟨m, n, sd, st, lo, hi, gr, rfl, _⟩ := hg.ex
  rfl
end
/-! # G41: != [] of any list; loops over lists told part by part -/
def gNeL (hs : Hs) (d e : D) : Option D := match lstOf hs d with
  | some ds => (match e with | .lst [] => some (.bl (!ds.isEmpty)) | _ => none)
  | none => none
theorem og_neL {X : Cx} (hu : X.A.units + 64 < cLine) : OpR X (compareOp .NotEq) (rB X.K X.mg gNeL) := by
  rintro pins s σ H x y v u Q I rx ry ⟨mu, hs, d, e, w, S, r1, r2, hg, q⟩
  unfold gNeL at hg
  split at hg
  · rename_i ds hd
    split at hg
    · cases hg
      obtain ⟨a, vs, rfl, ha, ra⟩ := lstOf_at S r1 hd
      cases r2 with
      | lst h2 n2 rr2 =>
        cases rx; cases ry
        obtain ⟨its, rv, it, _⟩ := I.list (.of ha)
        obtain ⟨its2, rv2, it2, _⟩ := I.list (.of h2)
        have z2 : its2 = [] := by
          cases rr2
          cases rv2
          rfl
        subst z2
        have hl : its.length = ds.length := by rw [← rv.length, ← ra.length]
        by_cases hz : ds = []
        · subst hz
          have z1 : its = [] := List.eq_nil_of_length_eq_zero hl
          subst z1
          refine SeqAt.RcNeAt.lists (e := fun _ => true) it.isList it2.isList rfl (by omega) (fun j h1 h2 => by simp at h2) X.prog X.w X.xe _ ?_
          exact ⟨.bl false, H, I, rfl, fin0 S q (.bl false)⟩
        · have hn : its.length ≠ 0 := fun z => hz (List.eq_nil_of_length_eq_zero (by omega))
          refine SeqAt.RcNeAt.lists_lengths it.isList it2.isList (by simp; intro z; exact hn (by rw [z]; rfl)) (by omega) X.prog X.w X.xe _ ?_
          have e : (!ds.isEmpty) = true := by cases ds <;> first | exact absurd rfl hz | rfl
          rw [e] at q
          exact ⟨.bl true, H, I, rfl, fin0 S q (.bl true)⟩
    · cases hg
  · cases hg
theorem neL_lst {h : Hs} {ds : List D} : gNeL h (.lst ds) (.lst []) = some (.bl (!ds.isEmpty)) := rfl
/-! ### and, or as values, by truth -/
section
end
section
end
/-- the rest of a walk over a list -/
def Wl (g : FG) (body : FS) (P : Po) : List D → Ev → Hs → Prop
  | [], e, h => P.nx e h
  | d :: ds, e, h => ∃ e', g d e = some e' ∧ Ws (body e' h) (P.lp (Wl g body P ds))
/-! # G42: a tuple times one -/
section
end
/-! # G43: partition -/
section
/-! ### dict.get(key, default) -/
end
section
end
/-! # G44: int(word, 36); a dict's entry read; sorted(dict) -/
namespace B36
open PySem.NumText PySem.Calls
end B36
section
variable {X : Cx} {Wd : WX}
/-! ### d[key] -/
def gDget (hs : Hs) (d k : D) : Option D := match atD hs d k with | some o => o | none => none
theorem ue_dget {o i : Expr} {fo fi : FE} {pos : Pos} (hu : X.A.units + 1 < cLine) (ho : UE X Wd o fo) (hi : UE X Wd i fi) (hs : NoSl i := by exact fun _ _ => rfl) : UE X Wd (.Subscript o i pos) (eBin gDget fo fi) := by
  refine PE.imp (pe_dget hu ho hi hs) fun σ H Q h => ?_
  obtain ⟨e, mu, hs, S, E, q⟩ := tG_seq (r := relD X.K) relD_ok h
  refine ⟨e, mu, hs, S, E, q.imp fun x H1 ⟨e, mu1, hs1, d, S1, E1, r1, g1⟩ => ?_⟩
  refine ⟨e, mu1, hs1, S1, E1, (Gd.bind (r := relD X.K) relD_ok g1).imp fun y H2 ⟨mu2, hs2, k, l2, S2, r2, g2⟩ => ?_⟩
  cases e1 : atD hs2 d k with
  | none => unfold gDget at g2; rw [e1] at g2; exact g2.elim
  | some o =>
    cases o with
    | none => unfold gDget at g2; rw [e1] at g2; exact g2.elim
    | some w =>
      unfold gDget at g2
      rw [e1] at g2
      obtain ⟨a, ov, rfl, hd, _, hw⟩ := atD_at S2 r2 (RD.agr (l2.agr S1) r1) e1
      obtain ⟨v, rfl, rv⟩ := hw w rfl
      exact ⟨a, v, rfl, hd, g2 mu2 H2 _ .refl S2 rv⟩
/-! ### sorted(dict), its keys texts -/
theorem RDs.strs {K : PySem.W.Frag} {mu : Mp} {H : Hp} : ∀ ks : List Str, RDs K mu H (ks.map D.str) (ks.map V.str)
  | [] => .nil
  | k :: ks => .cons (.str k) (RDs.strs ks)
end
section
end
end G

/-! # G45: numbers to the base 36, stamps -/
namespace G
open PySem PySem.Spec PyProof.Rows L2
noncomputable section
abbrev k_FIGURES : D := (.str "0123456789abcdefghijklmnopqrstuvwxyz")
end
section
/-! ### words to the base 36 -/
end
/-! # G46: tuples of ints and texts: their order, sorted -/
/-! ### the order -/
def ltK : Key → Key → Bool
  | .inl i, .inl j => decide (i < j)
  | .inr x, .inr y => decide (x.cps.toList < y.cps.toList)
  | .inl _, .inr _ => true
  | .inr _, .inl _ => false
def lexK : List Key → List Key → Bool
  | [], [] => false
  | [], _ :: _ => true
  | _ :: _, [] => false
  | x :: xs, y :: ys => if x = y then lexK xs ys else ltK x y
/-! ### as the model compares -/
section
end
/-! # G47: t < u of tuples of ints and texts; sorted of lists of them, of dicts with such keys -/
section
open PySem.SeqAt
open PySem.AutoSeq1 (wpAny_loadPart')
open PySem.MeetsSeq PySem.MeetsSeq2 PySem.MeetsSeq3
end
section
end
section
end
/-! # G48: sorted, of what holds tuples of ints and texts -/
section
end
/-! ### by the heap of the layer -/
/-- in their order -/
def insK (x : List Key) : List (List Key) → List (List Key)
  | [] => [x]
  | y :: r => if lexK y x = true then y :: insK x r else x :: y :: r
def sortK : List (List Key) → List (List Key)
  | [] => []
  | x :: r => insK x (sortK r)
/-! # G49: sorted(x) as a function of ours -/
def keyV : Key → D
  | .inl i => .int i
  | .inr z => .str z
def tupK (ks : List Key) : D := .tup (ks.map keyV)
section
variable {K : PySem.W.Frag} {mg : Str → Option Value} {mu : Mp} {hs : Hs} {H : Hp}
theorem RKs.fsts {k : Type} : ∀ {ds : List (k × D)} {vs : List (k × V)}, RKs K mu H ds vs → ds.map (·.1) = vs.map (·.1)
  | _, _, .nil => rfl
  | _, _, .cons _ t => by rw [List.map_cons, List.map_cons, RKs.fsts t]
end
section
end
section
end
/-! # G50: exceptions: raise, try .. except X as e, isinstance of what is caught, its fields -/
/-! ### the caught thing, tracked -/
def ExT (C : Addr) (d : Option Addr) (a : Addr) : HO := .ext (ExPl C d a)
theorem exT_ok {P : Program} {w : World} {H : Hp} {h : Heap} {a C : Addr} {d : Option Addr} (e : ExPl C d a h) : ObjOk P w H h a (ExT C d a) :=
  ⟨e, let ⟨oe, _, q, _⟩ := e; ⟨oe, q⟩, fun _ _ ⟨o, v, q, r⟩ k => ⟨o, v, k o q, r⟩⟩
section
variable {X : Cx} {pins : List (Addr × Obj)} {σ : L2.St} {H : Hp} {s : Shared}
theorem inv_suite (I : L2.Inv X pins σ H s) (a : Addr) : L2.Inv (X.suite a (X.pn ++ pins)) [] σ H s :=
  ⟨I.ok.suite _ _, I.os, I.bare, I.base, I.loc, I.cell, I.free, I.freeC, fun p hp => I.pin p (by rw [List.append_nil] at hp; exact hp), I.hok, I.len⟩
theorem inv_unsuite {a : Addr} {pn' : List (Addr × Obj)} (I : L2.Inv (X.suite a (X.pn ++ pins)) pn' σ H s) (ok : X.Ok) : L2.Inv X pins σ H s :=
  ⟨ok, I.os, I.bare, I.base, I.loc, I.cell, I.free, I.freeC, fun p hp => I.pin p (List.mem_append_left _ hp), I.hok, I.len⟩
end
/-- what the clause 'except x as n' wishes of an exception of the body: slot i is n's -/
def wAsT (K : PySem.W.Frag) (c : Value) (i : Nat) (ts : TS) (Wout : WX) (D : Ends) : WX := fun cls d σ H =>
  ∃ C b, cls = .ref C ∧ PySem.W.exmOne K cls c = some b ∧ (b = true → ∀ a, H a = none → ts { nx := fun σ' H' => D.nx (σ'.set i none) H', rt := D.rt, bk := fun σ' H' => D.bk (σ'.set i none) H', ct := fun σ' H' => D.ct (σ'.set i none) H' } (σ.set i (some (.ref a))) (upd H a (ExT C d a))) ∧
    (b = false → Wout cls d σ H)
section
variable {X : Cx} {x n : Str} {c : Value} {i : Nat} {body suite : List Stmt} {b₀ : Stmt} {np pos pos' : Pos} {tb : WX → TS} {ts : TS} {Wout : WX}
theorem ps_try_asT (hs : X.stack = X.env :: X.outer) (hf : X.env.frame = some X.env.locals) (hN : X.N.Nodup) (hi : X.N[i]? = some n) (hln : X.env.kindOf n = some .local) (hc : Names X x c) (tk : Takes X Wout)
    (hb : ∀ (W : WX) (pn : List (Addr × Obj)) (xe : Value → Shared → Prop), Takes (X.tr pn xe) W → PassesOwn (model X.prog X.w) X.A X.env xe → PSs (X.tr pn xe) body (tb W))
    (hsu : ∀ (a : Addr) (pn : List (Addr × Obj)), PSs (X.suite a pn) (b₀ :: suite) ts) :
    PS X (.Try body [.ExceptHandler (some (.Name x np)) (some n) (b₀ :: suite) pos'] [] [] pos) (fun D σ H => tb (wAsT X.K c i ts Wout D) D σ H) := by
  refine ⟨fun pins s σ H D I h => ?_⟩
  have ok := I.ok
  have hfr : X.A.frames = some (X.env :: X.outer) := by rw [ok.frames, hs]
  have hloc : Loc X.env.scope n := .inl hln
  refine wpAny_Try_except ?_
  refine wpAny_mono ((hb (wAsT X.K c i ts Wout D) (X.pn ++ pins) (fun e s₁ => wpAny (model X.prog X.w) X.A (noteFrame e X.env) (fun _ s₂ => wpAny (model X.prog X.w) X.A (setFlight e none) (fun _ s₃ =>
    wpAny (model X.prog X.w) X.A (handleBy e X.env [.ExceptHandler (some (.Name x np)) (some n) (b₀ :: suite) pos']) (SP X pins D) X.xe s₃) X.xe s₂) X.xe s₁) (fun u s' xx => ?_) PassesOwn.looking).run [] s σ H D (I.toTry _) h) (fun f s1 hsp => ?_) (fun e s1 he => he)
  · -- the catch
    obtain ⟨a, B, sI, pins', σ', H', cls, d, rfl, J', nb, up, sky, na, os, ag, C, b, rfl, hb1, hyes, hno⟩ := xx
    have J : L2.Inv X pins σ' H' sI := J'.ofTry ok
    have sky' : Sky B (X.env :: X.outer) a (Zc (.ref C) d) X.env.locals s'.heap := by rw [← hs]; exact sky
    show wpAny (model X.prog X.w) X.A (noteFrame (.ref a) X.env) _ _ _
    refine Sky.land Zc.steady hfr hf sky' fun h3 fl3 up3 => ?_
    have J3 : L2.Inv X pins σ' H' { s' with heap := h3 } := J.landed nb fl3.1 (up.trans up3) os ag
    obtain ⟨oe3, vs3, he3, hz3, hd3⟩ := fl3.there
    have notFr : ∀ {h : Heap} {o : Obj} {vs : Array Value}, h.FunFrames B (X.env :: X.outer) → h.get? a = some o → o.data = .fields vs → a ∉ frs (X.env :: X.outer) := fun {h o vs} ff e dd hm => by
      obtain ⟨_, o', e', hnf⟩ := ff.mem hm
      rw [e] at e'; cases e'
      exact hnf _ dd
    have nfr := notFr fl3.2.2.1 he3 hd3
    have nI : sI.heap.get? a = none := by
      cases q : sI.heap.get? a with
      | none => rfl
      | some o =>
        have z := nb a o q (by rw [hs]; exact nfr)
        rw [fl3.2.1] at z; cases z
    have S3 := inv_suite J3 a
    refine wpAny_handleBy_cons (codeAny_handlers_test ?_) (by intro q; cases q)
    have LT : PySem.W.Looks (model X.prog X.w) h3 (typeOf (.ref a)) (.ref C) := fun A Q E s k q => wpAny_typeOf_ref (k _ _ he3) (by rw [hz3.1]; exact q)
    have LM := PySem.W.exm_one (M := model X.prog X.w) (J3.kIn) LT hb1
    have test : ∀ {Q : Value → Shared → Prop} {E : Value → Shared → Prop}, Q c { s' with heap := h3 } → wpAny (model X.prog X.w) (X.A.mark (some (.ref a))) (eval (.Name x np) X.env) Q E { s' with heap := h3 } := fun {Q E} q => by
      obtain ⟨hg, hdbg, hm | ⟨hm, hv, hnn⟩⟩ := hc
      · exact ld_glob (X := X.suite a (X.pn ++ pins)) S3 hg hm q hdbg
      · exact ld_blt (X := X.suite a (X.pn ++ pins)) S3 hg hm hv q hnn hdbg
    refine test (LM.here ?_)
    cases b with
    | true =>
      refine codeAny_handlers_suite_as ?_
      refine HandSPX.lands_againZ fl3 fun h4 fl4 up4 => ?_
      obtain ⟨oe4, vs4, he4, hz4, hd4⟩ := fl4.there
      obtain ⟨G, g1, g2⟩ := restrict h4 fun b => decide (b ≠ a)
      have gk : ∀ b o, b ≠ a → h4.get? b = some o → G.get? b = some o := fun b o hb e => by
        rw [g1 b (decide_eq_true hb)]; exact e
      have ga : G.get? a = none := g2 a (decide_eq_false fun z => z rfl)
      have gs : ∀ b o, G.get? b = some o → h4.get? b = some o := fun b o e => by
        by_cases hb : b = a
        · rw [hb, ga] at e; cases e
        · rw [← g1 b (decide_eq_true hb)]; exact e
      have J4 : L2.Inv X pins σ' H' { s' with heap := G } := J.landed nb (fun b o e => gk b o (fun z => by rw [z, fl4.2.1] at e; cases e) (fl4.1 b o e))
        (fun b o e hd => by
          obtain ⟨sl, q⟩ := ((up.trans up3).trans up4) b o e hd
          exact ⟨sl, gk b _ (fun z => by rw [z, nI] at e; cases e) q⟩) os ag
      have J5 : L2.Inv X pins σ' (upd H' a (ExT C d a)) { s' with heap := h4 } := Inv.laidN (s := { s' with heap := G }) (t' := s'.toks) J4 gs ga na (exT_ok ⟨oe4, vs4, he4, hz4, hd4⟩)
      refine store_ok (X := X.suite a (X.pn ++ pins)) (v := .ref a) (inv_suite J5 a) hN hi hloc rfl (fun s5 S5 => ?_) (.inr hln)
      refine wpAny_mono ((hsu a (X.pn ++ pins)).run [] s5 _ _ _ S5 (hyes rfl a na)) (fun f s6 hsp => ?_) (fun _ _ z => False.elim z)
      have end_ : ∀ {σ6 : L2.St} {H6 : Hp} {Q : Shared → Prop}, L2.Inv (X.suite a (X.pn ++ pins)) [] σ6 H6 s6 → (∀ s7, L2.Inv X pins (σ6.set i none) H6 s7 → Q s7) →
          wpAny (model X.prog X.w) X.A (do bindName X.env n .none; unbindBehindTheSuite X.env n pos') (fun _ s7 => Q s7) X.xe s6 := fun {σ6 H6 Q} S6 hq => gone_ok (inv_unsuite S6 ok) hN hi hln hq
      cases f with
      | next =>
        obtain ⟨σ6, H6, S6, q6⟩ := hsp
        exact end_ S6 fun s7 J7 => ⟨_, _, J7, q6⟩
      | brk =>
        obtain ⟨σ6, H6, S6, q6⟩ := hsp
        exact end_ S6 fun s7 J7 => ⟨_, _, J7, q6⟩
      | cont =>
        obtain ⟨σ6, H6, S6, q6⟩ := hsp
        exact end_ S6 fun s7 J7 => ⟨_, _, J7, q6⟩
      | ret u =>
        obtain ⟨v6, σ6, H6, S6, r6, q6⟩ := hsp
        exact end_ S6 fun s7 J7 => ⟨_, _, _, J7, r6, q6⟩
    | false =>
      show wpAny _ X.A (handleBy (.ref a) X.env []) _ _ _
      refine wpAny_handleBy_nil ?_
      obtain ⟨k1, k2, k3, oe, vs, T, oT, ts', he, hz, hd, h1, hr⟩ := id fl3
      unfold PySem.passOn
      refine wpAny_bind (wpAny_field he hd h1 ?_)
      rw [if_neg (show ¬ ((Value.ref T == Value.none) = true) from by simp)]
      have fin : wpAny (model X.prog X.w) X.A (setFlight (.ref a) X.env.frame) (fun _ s4 => wpAny (model X.prog X.w) X.A (throw (.ref a) : Sem Flow) (SP X pins D) X.xe s4) X.xe { s' with heap := h3 } := by
        rw [hf]
        refine HandSPX.setFlight_upZ fl3 fun h4 hh4 up4 => wpAny_throw (tk _ _ ?_)
        exact ⟨a, B, sI, pins, σ', H', .ref C, d, rfl, J, nb, (up.trans up3).trans up4, .inr (.inr (by rw [hs]; exact hh4)), na, os, ag, hno rfl⟩
      first
        | exact wpAny_bind (wpAny_pure (wpAny_bind fin))
        | exact wpAny_bind fin
  · cases f with
    | next =>
      obtain ⟨σ', H', J', q⟩ := hsp
      exact wpAny_execs_nil ⟨σ', H', J'.ofTry ok, q⟩
    | brk =>
      obtain ⟨σ', H', J', q⟩ := hsp
      exact ⟨σ', H', J'.ofTry ok, q⟩
    | cont =>
      obtain ⟨σ', H', J', q⟩ := hsp
      exact ⟨σ', H', J'.ofTry ok, q⟩
    | ret u =>
      obtain ⟨v, σ', H', J', r, q⟩ := hsp
      exact ⟨v, σ', H', J'.ofTry ok, r, q⟩
end
/-! # G51: try, raise, isinstance and fields of exceptions as functions of ours -/
/-! ### try .. except X as e -/
def sufR (i : Nat) : SR → SR
  | .nx e h => .nx (e.set i none) h
  | .brk e h => .brk (e.set i none) h
  | .cnt e h => .cnt (e.set i none) h
  | .ret d h => .ret d h
  | .exc _ _ _ _ => .bad
  | .bad => .bad
def tryR (i : Nat) (T : List (Str × Bool)) (g : FS) : SR → SR
  | .exc c fs e h => (match T.lookup c with
    | some true => sufR i (g (e.set i (some (.exn c (fs.map (·.1)) (fs.map (·.2))))) h)
    | some false => .exc c fs e h
    | none => .bad)
  | r => r
def sTry (i : Nat) (T : List (Str × Bool)) (f g : FS) : FS := fun e hs => tryR i T g (f e hs)
/-- which of the classes told the clause's class catches -/
inductive Cats (K : PySem.W.Frag) (c : Value) : List (Str × Bool) → Prop
  | nil : Cats K c []
  | cons {x : Str} {C : Addr} {b : Bool} {T : List (Str × Bool)} : PySem.W.nsIn K mainGlobals x = some (some (.ref C)) → PySem.W.exmOne K (.ref C) c = some b → Cats K c T → Cats K c ((x, b) :: T)
theorem Cats.get {K : PySem.W.Frag} {c : Value} {x : Str} {C : Addr} {b : Bool} : ∀ {T : List (Str × Bool)}, Cats K c T → T.lookup x = some b → PySem.W.nsIn K mainGlobals x = some (some (.ref C)) → PySem.W.exmOne K (.ref C) c = some b
  | _, .nil, e, _ => by cases e
  | _, .cons (x := y) h1 h2 t, e, g => by
    rw [List.lookup_cons] at e
    cases q : (x == y) with
    | true =>
      rw [q] at e
      cases e
      have := beq_iff_eq.mp q
      subst this
      rw [g] at h1; cases h1
      exact h2
    | false => rw [q] at e; exact t.get e g
theorem RE.unset {K : PySem.W.Frag} {mu : Mp} {H : Hp} {e : Ev} {σ : L2.St} (h : RE K mu H e σ) (i : Nat) : RE K mu H (e.set i none) (σ.set i none) := by
  refine ⟨by rw [List.length_set, List.length_set]; exact h.len, fun j x q => ?_⟩
  by_cases hj : i = j
  · subst hj
    by_cases hi : i < e.length
    · rw [List.getElem?_set_self hi] at q
      cases q
    · rw [List.getElem?_eq_none (by simpa using hi)] at q; cases q
  · rw [List.getElem?_set_ne hj] at q
    rw [List.getElem?_set_ne hj]
    exact h.at_ j x q
theorem zip_map {k : Type} {a : Type} : ∀ (l : List (k × a)), (l.map (·.1)).zip (l.map (·.2)) = l
  | [] => rfl
  | (x, y) :: l => by simp [zip_map l]
/-- an exception caught is a value -/
theorem rx_exn {K : PySem.W.Frag} {mg : Str → Option Value} {mu : Mp} {hs : Hs} {H : Hp} {c : Str} {fs : List (Str × D)} {C : Addr} {dx : Option Addr} {a : Addr} (S : Sim K mg mu hs H) (r : RX K mg mu H c fs (.ref C) dx) (hn : H a = none) :
    RD K mu (upd H a (ExT C dx a)) (.exn c (fs.map (·.1)) (fs.map (·.2))) (.ref a) := by
  obtain ⟨C', e, hc, h⟩ := r
  cases e
  have hse : StE mu (upd H a (ExT C dx a)) C dx a := ⟨S.fresh hn, _, upd_same, fun _ q => q⟩
  rcases h with ⟨rfl, rfl⟩ | ⟨b, vs, rfl, h2, h3, h4⟩
  · exact .exn0 hc hse
  · refine .exnd hc hse (vs := vs.map (·.2)) ⟨?_, h3⟩ (by simp) ?_
    · rw [upd_ne (ne_of_none h2 hn), h2, ← h4.keys, zip_map]
    · exact RDs.agr (Lat.agr (.new hn) S) h4.vals
/-- what the suite is wished -/
def sufE (i : Nat) (D : Ends) : Ends := { nx := fun σ' H' => D.nx (σ'.set i none) H', rt := D.rt, bk := fun σ' H' => D.bk (σ'.set i none) H', ct := fun σ' H' => D.ct (σ'.set i none) H' }
theorem gdS_suf {K : PySem.W.Frag} {mg : Str → Option Value} {Wd W' : WX} {D : Ends} {i : Nat} {mu : Mp} {H : Hp} {r : SR} (h : GdS K mg Wd D mu H (sufR i r)) : GdS K mg W' (sufE i D) mu H r := by
  cases r with
  | nx e hs => exact fun mu' H' σ' l s q => h mu' H' _ l s (q.unset i)
  | brk e hs => exact fun mu' H' σ' l s q => h mu' H' _ l s (q.unset i)
  | cnt e hs => exact fun mu' H' σ' l s q => h mu' H' _ l s (q.unset i)
  | ret d hs => exact h
  | exc c fs e hs => exact h.elim
  | bad => exact h
section
variable {X : Cx} {Wd : WX} {x n : Str} {c : Value} {i : Nat} {body suite : List Stmt} {b₀ : Stmt} {np pos pos' : Pos} {f g : FS} {T : List (Str × Bool)}
theorem us_try (hs : X.stack = X.env :: X.outer) (hf : X.env.frame = some X.env.locals) (hN : X.N.Nodup) (tk : Takes X Wd) (hc : Names X x c) (hT : Cats X.K c T)
    (hb : ∀ (W : WX) (pn : List (Addr × Obj)) (xe : Value → Shared → Prop), Takes (X.tr pn xe) W → PassesOwn (model X.prog X.w) X.A X.env xe → USs (X.tr pn xe) W body f)
    (hsu : ∀ (a : Addr) (pn : List (Addr × Obj)), USs (X.suite a pn) W0 (b₀ :: suite) g) (hi : X.N[i]? = some n := by rfl) (hln : X.env.kindOf n = some .local := by rfl) :
    US X Wd (.Try body [.ExceptHandler (some (.Name x np)) (some n) (b₀ :: suite) pos'] [] [] pos) (sTry i T f g) := by
  refine PS.imp (ps_try_asT (i := i) (tb := fun W => tS X.K X.mg W f) (ts := tS X.K X.mg W0 g) hs hf hN hi hln hc tk hb hsu) fun D σ H ⟨e, mu, hs, S, E, q⟩ => ⟨e, mu, hs, S, E, ?_⟩
  unfold sTry at q
  cases r : f e hs with
  | exc k fs e1 h1 =>
    rw [r] at q
    intro mu1 H1 σ1 cls dx l1 S1 E1 rx
    obtain ⟨C, e2, hk, _⟩ := id rx
    subst e2
    unfold tryR at q
    dsimp only at q
    cases z : T.lookup k with
    | none => rw [z] at q; exact q.elim
    | some b =>
      rw [z] at q
      refine ⟨C, b, rfl, hT.get z hk, fun hb a ha => ?_, fun hb => ?_⟩
      · subst hb
        dsimp only at q
        have l2 : Lat mu1 H1 mu1 (upd H1 a (ExT C dx a)) := .new ha
        refine ⟨_, mu1, h1, S1.new ha, (E1.agr (l2.agr S1)).set i (rx_exn S1 rx ha), ?_⟩
        exact gdS_suf (GdS.later (l1.trans l2) q)
      · subst hb
        exact q mu1 H1 σ1 _ _ l1 S1 E1 rx
  | nx e1 h1 => rw [r] at q; exact q
  | brk e1 h1 => rw [r] at q; exact q
  | cnt e1 h1 => rw [r] at q; exact q
  | ret e1 h1 => rw [r] at q; exact q
  | bad => rw [r] at q; exact q

/-! ### raise X('m') -/
def sRaise (x : Str) : FS := fun e hs => .exc x [] e hs
/-- an own exception class without own __init__ -/
structure ExcK (K : PySem.W.Frag) (x : Str) (C : Addr) (bmB : List Value) (B newId initId : String) : Prop where
  ns : PySem.W.nsIn K mainGlobals x = some (some (.ref C))
  ba : ExcBaseFacts B newId initId bmB
  ex : PySem.W.excIn K C bmB newId = true
  kp : PySem.W.keepIn K (.ref C) = true
  sb : PySem.W.subIn K (.ref C) (.type "BaseException") = some true
  ty : PySem.W.typeIn K (.ref C) = some (.type "type")
theorem us_raise {C : Addr} {bmB : List Value} {B newId initId : String} {m : Str} {j : Nat} {p p2 : Pos} (hc : X.calm = true) (tk : Takes X Wd) (F : ExcK X.K x C bmB B newId initId) (gC : X.mg x = some (.ref C)) (hg : L2.Gl X x := by exact rfl)
    (hdb : (x == ("__debug__" : Str)) = false := by decide) : US X Wd (.Raise (some (.Call (.Name x p) [.Constant (.str m) j p2] [] pos')) none pos) (sRaise x) := by
  refine PS.imp (ps_raise hc tk (pmk_own F.ba F.ex gC F.kp (raises_own F.sb F.ty) hg hdb)) fun D σ H ⟨e, mu, hs, S, E, q⟩ => ?_
  exact q mu H σ _ _ .refl S E ⟨C, rfl, F.ns, .inl ⟨rfl, rfl⟩⟩
end

/-! ### isinstance of an exception -/
theorem exn_at {K : PySem.W.Frag} {mu : Mp} {H : Hp} {c : Str} {ks : List Str} {ds : List D} {v : V} (r : RD K mu H (.exn c ks ds) v) :
    ∃ a C dx, v = .ref a ∧ PySem.W.nsIn K mainGlobals c = some (some (.ref C)) ∧ StE mu H C dx a ∧ ((ks = [] ∧ ds = [] ∧ dx = none) ∨ ∃ b vs, dx = some b ∧ StX mu H b (ks.zip vs) ∧ ks.length = ds.length ∧ RDs K mu H ds vs) := by
  cases r with
  | exn0 g q => exact ⟨_, _, _, rfl, g, q, .inl ⟨rfl, rfl, rfl⟩⟩
  | exnd g q x z r => exact ⟨_, _, _, rfl, g, q, .inr ⟨_, _, rfl, x, z, r⟩⟩
theorem exn_inst {X : Cx} {pins : List (Addr × Obj)} {σ : L2.St} {H : Hp} {s : Shared} {mu : Mp} {a C : Addr} {dx : Option Addr} (I : L2.Inv X pins σ H s) (q : StE mu H C dx a) (h : dx = none ∨ ∃ b kvs, dx = some b ∧ H b = some (.xd kvs)) :
    ∃ oe od, PySem.W.InstAt s.heap a oe C od := by
  obtain ⟨_, φ, h1, h2⟩ := q
  obtain ⟨oe, us, e1, e2, e3⟩ := h2 _ (I.hok a _ h1).1
  have hno : PySem.W.notCls oe = true := by unfold PySem.W.notCls; rw [e3] <;> rfl
  rcases h with rfl | ⟨b, kvs, rfl, hb⟩
  · exact ⟨oe, none, e1, e2.1, hno, by rw [e2.2]; trivial⟩
  · obtain ⟨mA, hns, hr⟩ := (show ObjOk X.prog X.w H s.heap b (.xd kvs) from I.hok b _ hb)
    obtain ⟨od, ho, hl⟩ := lookIn_ns hns
    exact ⟨oe, some od, e1, e2.1, hno, by rw [e2.2]; exact ho⟩
/-- a class that is asked for -/
def Cn (mg : Str → Option Value) (x : Str) (u : Value) : Prop := ∃ v, ClsV v u ∧ RelV v u ∧ (mg x = some u ∨ (mg x = none ∧ bootBuiltins x = some u ∧ x ≠ "__name__"))
theorem cn_own {mg : Str → Option Value} {x : Str} {C : Addr} (h : mg x = some (.ref C)) : Cn mg x (.ref C) := ⟨_, .own C, rfl, .inl h⟩
theorem cn_ty {mg : Str → Option Value} {x : Str} {t : String} (h : mg x = none) (hv : bootBuiltins x = some (.type t)) (hn : x ≠ "__name__" := by decide) : Cn mg x (.type t) := ⟨_, .ty t, rfl, .inr ⟨h, hv, hn⟩⟩
theorem pe_cn {X : Cx} {x : Str} {u : Value} {pos : Pos} (h : Cn X.mg x u) (hg : L2.Gl X x) (hd : (x == ("__debug__" : Str)) = false) : ∃ v, ClsV v u ∧ PE X (.Name x pos) (tC v) := by
  obtain ⟨v, k, r, h | ⟨h, hv, hn⟩⟩ := h
  · exact ⟨v, k, pe_glob hg h r hd⟩
  · exact ⟨v, k, pe_bltn hg h hv r hn hd⟩
/-- the classes of a tuple -/
def PAc (X : Cx) (es : List Expr) (us : List Value) : Prop := ∃ vs, Paired ClsV vs us ∧ PA X es (fun _ H Q => Q vs H)
theorem pac_nil {X : Cx} : PAc X [] [] := ⟨[], .nil, pa_nil⟩
theorem pac_cons {X : Cx} {x : Str} {u : Value} {us : List Value} {es : List Expr} {pos : Pos} (h : Cn X.mg x u) (r : PAc X es us) (hg : L2.Gl X x := by exact rfl) (hd : (x == ("__debug__" : Str)) = false := by decide)
    (hs : starEach (.Name x pos :: es) X.env = (false, eval (.Name x pos) X.env) :: starEach es X.env := by rfl) : PAc X (.Name x pos :: es) (u :: us) := by
  obtain ⟨v, k, p⟩ := pe_cn (pos := pos) h hg hd
  obtain ⟨vs, ks, ps⟩ := r
  refine ⟨v :: vs, .cons k ks, ?_⟩
  have z := pa_cons p ps hs
  exact ⟨fun pos pins s σ H Q I h => z.run pos pins s σ H Q I h⟩
/-- one class, or a tuple of classes -/
inductive CArg (X : Cx) : Expr → List Value → Prop
  | one {x : Str} {u : Value} {pos : Pos} (h : Cn X.mg x u) (hg : L2.Gl X x := by exact rfl) (hd : (x == ("__debug__" : Str)) = false := by decide) : CArg X (.Name x pos) [u]
  | tup {es : List Expr} {us : List Value} {k : Nat} {pos : Pos} (h : PAc X es us) (hl : us.length ≤ sizeLine) : CArg X (.Tuple es k pos) us
/-- what isinstance asks of the classes of exceptions -/
inductive Exs (K : PySem.W.Frag) (us : List Value) : List (Str × Bool) → Prop
  | nil : Exs K us []
  | cons {x : Str} {C : Addr} {b : Bool} {T : List (Str × Bool)} : PySem.W.nsIn K mainGlobals x = some (some (.ref C)) → ExcC K C → PySem.W.kitAny K (.ref C) us = some b → Exs K us T → Exs K us ((x, b) :: T)
theorem Exs.get {K : PySem.W.Frag} {us : List Value} {x : Str} {C : Addr} {b : Bool} : ∀ {T : List (Str × Bool)}, Exs K us T → T.lookup x = some b → PySem.W.nsIn K mainGlobals x = some (some (.ref C)) → ExcC K C ∧ PySem.W.kitAny K (.ref C) us = some b
  | _, .nil, e, _ => by cases e
  | _, .cons (x := y) h1 h2 h3 t, e, g => by
    rw [List.lookup_cons] at e
    cases q : (x == y) with
    | true =>
      rw [q] at e
      cases e
      have := beq_iff_eq.mp q
      subst this
      rw [g] at h1; cases h1
      exact ⟨h2, h3⟩
    | false => rw [q] at e; exact t.get e g
theorem excC_kit {K : PySem.W.Frag} {C a : Addr} (c : ExcC K C) {od : Option Obj} {oe : Obj} : PySem.W.KitX K (.ref a) (.ref C) (fun h => PySem.W.InstAt h a oe C od) := by
  obtain ⟨cd, hc, _⟩ := PySem.W.any_some c.hd
  exact PySem.W.kitx_exc (by rw [hc]; rfl) c.hg c.hk c.hs c.ha c.hn c.ht c.hm
theorem kit_any1 {K : PySem.W.Frag} {t u : Value} {b : Bool} (h : PySem.W.kitAny K t [u] = some b) : PySem.W.kitOne K t u = some b := by
  unfold PySem.W.kitAny at h
  cases q : PySem.W.kitOne K t u with
  | none => rw [q] at h; cases h
  | some z => rw [q] at h; cases z <;> exact h
def eIsE (T : List (Str × Bool)) (f : FE) : FE := fun e hs => (f e hs).bind fun d hs => match d with
  | .exn c _ _ => (match T.lookup c with | some b => .ok (.bl b) hs | none => .bad)
  | _ => .bad
section
variable {X : Cx} {Wd : WX} {a c : Expr} {f : FE} {us : List Value} {T : List (Str × Bool)} {p pos : Pos}
theorem ue_isE (hT : Exs X.K us T) (hm : X.mg "isinstance" = none) (ha : UE X Wd a f) (hc : CArg X c us) (hg : L2.Gl X "isinstance" := by exact rfl)
    (he : starEach [a, c] X.env = (false, eval a X.env) :: starEach [c] X.env := by rfl) (he2 : starEach [c] X.env = (false, eval c X.env) :: starEach [] X.env := by rfl) (hpl : (backTo pos (starEach [c] X.env)).any (·.1) = false := by rfl) :
    UE X Wd (.Call (.Name "isinstance" p) [a, c] [] pos) (eIsE T f) := by
  have main : ∀ (σ : L2.St) (H : Hp) (Q : VK), tG (relD X.K) X.K X.mg Wd (eIsE T f) σ H Q → tG (relD X.K) X.K X.mg Wd f σ H fun v H1 => ∃ mu a C dx b, v = .ref a ∧ StE mu H1 C dx a ∧ (dx = none ∨ ∃ b kvs, dx = some b ∧ StX mu H1 b kvs) ∧ ExcC X.K C ∧ PySem.W.kitAny X.K (.ref C) us = some b ∧
      ∀ H2, Lat mu H1 mu H2 → (∀ x ∈ mu.l, ∀ u, H1 x = some u → H2 x = some u) → Q (.bl b) H2 := by
    intro σ H Q h
    obtain ⟨e, mu, hs, S, E, q⟩ := tG_seq (r := relD X.K) relD_ok h
    refine ⟨e, mu, hs, S, E, q.imp fun v H1 ⟨e, mu1, hs1, d, S1, E1, r1, g1⟩ => ?_⟩
    cases d with
    | exn k ks ds =>
      dsimp only at g1
      have r1 : RD X.K mu1 H1 (.exn k ks ds) v := r1
      obtain ⟨a, C, dx, rfl, hk, hse, hd⟩ := exn_at r1
      cases z : T.lookup k with
      | none => rw [z] at g1; exact g1.elim
      | some b =>
        rw [z] at g1
        obtain ⟨h1, h2⟩ := hT.get z hk
        exact ⟨mu1, a, C, dx, b, rfl, hse, hd.elim (fun h => .inl h.2.2) fun ⟨b, vs, e, h, _⟩ => .inr ⟨b, _, e, h⟩, h1, h2, fun H2 l k => g1 mu1 H2 _ l (S1.mono l k) (.bl b)⟩
    | _ => exact g1.elim
  cases hc with
  | one h hg' hd =>
    rename_i x u pos2
    obtain ⟨v, k, pc⟩ := pe_cn (pos := pos2) h hg' hd
    have pa := pa_cons ha (pa_cons pc pa_nil he2) he
    refine PE.imp (pe_callB (r := fun xs H Q => ∃ mu a C dx b, xs = [.ref a, v] ∧ StE mu H C dx a ∧ (dx = none ∨ ∃ b kvs, dx = some b ∧ StX mu H b kvs) ∧ ExcC X.K C ∧ PySem.W.kitAny X.K (.ref C) [u] = some b ∧ Q (.bl b) H) ?_ hg hm bt_isi pa (by decide) (by decide) he hpl) fun σ H Q h => ?_
    · rintro pins s σ H xs ws Q I r ⟨mu, a, C, dx, b, rfl, hse, hd, hC, hk, q⟩
      obtain ⟨u1, u2, rfl, r1, r2⟩ := vals2 r
      have e2 := k.eq r2
      subst e2
      cases (show u1 = Value.ref a from r1)
      obtain ⟨oe, od, J⟩ := exn_inst I hse (hd.imp id fun ⟨b, kvs, e, h⟩ => ⟨b, kvs, e, h.1⟩)
      exact PySem.W.kia_one (excC_kit hC) I.kIn J (kit_any1 hk) (fun z => nomatch z) fun tk => ⟨.bl b, H, I.tok tk, rfl, q⟩
    · obtain ⟨e, mu, hs, S, E, q⟩ := main σ H Q h
      exact ⟨e, mu, hs, S, E, q.imp fun v1 H1 ⟨mu1, a, C, dx, b, e, hse, hd, hC, hk, q⟩ => ⟨mu1, a, C, dx, b, by rw [e], hse, hd, hC, hk, q H1 .refl fun _ _ _ z => z⟩⟩
  | tup h hl =>
    rename_i es k pos2
    obtain ⟨vs, ks, pv⟩ := h
    have hvl : vs.length = us.length := ks.length
    have pt := pe_tup (x1 := k) (pos := pos2) pv
    have pa := pa_cons ha (pa_cons pt pa_nil he2) he
    refine PE.imp (pe_callB (r := fun xs H Q => ∃ mu a C dx b tp, xs = [.ref a, .ref tp] ∧ H tp = some (.tup vs) ∧ StE mu H C dx a ∧ (dx = none ∨ ∃ b kvs, dx = some b ∧ StX mu H b kvs) ∧ ExcC X.K C ∧ PySem.W.kitAny X.K (.ref C) us = some b ∧ Q (.bl b) H) ?_ hg hm bt_isi pa (by decide) (by decide) he hpl) fun σ H Q h => ?_
    · rintro pins s σ H xs ws Q I r ⟨mu, a, C, dx, b, tp, rfl, hT, hse, hd, hC, hk, q⟩
      obtain ⟨u1, u2, rfl, r1, r2⟩ := vals2 r
      cases (show u1 = Value.ref a from r1)
      cases (show u2 = Value.ref tp from r2)
      obtain ⟨oe, od, J⟩ := exn_inst I hse (hd.imp id fun ⟨b, kvs, e, h⟩ => ⟨b, kvs, e, h.1⟩)
      obtain ⟨_, its, rv, o, h1, h2, n, h3⟩ := (show ObjOk X.prog X.w H s.heap tp (.tup vs) from I.hok tp _ hT)
      have e3 := ClsV.all ks rv
      subst e3
      obtain ⟨oc, od', dt, sl⟩ := o
      simp only at h2 h3
      subst h2 h3
      exact PySem.W.kia_tup (excC_kit hC) I.kIn J h1 hk (fun z => nomatch z) fun tk => ⟨.bl b, H, I.tok tk, rfl, q⟩
    · obtain ⟨e, mu, hs, S, E, q⟩ := main σ H Q h
      refine ⟨e, mu, hs, S, E, q.imp fun v1 H1 ⟨mu1, a, C, dx, b, e, hse, hd, hC, hk, q⟩ => ⟨by rw [hvl]; exact hl, fun tp htp => ?_⟩⟩
      have l : Lat mu1 H1 mu1 (upd H1 tp (.tup vs)) := .new htp
      have ag : ∀ b o, H1 b = some o → upd H1 tp (.tup vs) b = some o := fun b o z => by rw [upd_ne (ne_of_none z htp)]; exact z
      refine ⟨mu1, a, C, dx, b, tp, by rw [e], upd_same, ?_, ?_, hC, hk, q _ l fun x _ u z => ag x u z⟩
      · obtain ⟨n1, φ, n2, n3⟩ := hse
        exact ⟨n1, φ, ag _ _ n2, n3⟩
      · exact hd.imp id fun ⟨b, kvs, e, h⟩ => ⟨b, kvs, e, ag _ _ h.1, h.2⟩
end

/-! ### e.f -/
/-! # G52: own == and !=; isinstance of own instances; dict.get(key); what holds behind try -/
/-! ### own ==, != -/
section
end
open Classical in
/-- two instances of the class c, by its own __eq__ that changes nothing of ours -/
noncomputable def gOeq (c : Str) (fn : List D → Hs → R D) (hs : Hs) (d e : D) : Option D := match insOf hs d, insOf hs e with
  | some (c1, _), some (c2, _) => if c1 = c ∧ c2 = c then (match fn [d, e] hs with | .ok (.bl b) h' => if h' = hs then some (.bl b) else none | _ => none) else none
  | _, _ => none
theorem gOeq_at {c : Str} {fn : List D → Hs → R D} {hs : Hs} {d e w : D} (h : gOeq c fn hs d e = some w) : ∃ k1 k2 b, insOf hs d = some (c, k1) ∧ insOf hs e = some (c, k2) ∧ fn [d, e] hs = .ok (.bl b) hs ∧ w = .bl b := by
  unfold gOeq at h
  split at h
  · rename_i c1 k1 c2 k2 h1 h2
    split at h
    · rename_i hc
      obtain ⟨rfl, rfl⟩ := hc
      split at h
      · rename_i b h' hf
        split at h
        · rename_i he
          subst he
          cases h
          exact ⟨k1, k2, b, h1, h2, hf, rfl⟩
        · cases h
      · cases h
    · cases h
  · cases h
theorem oeq_of {c : Str} {fn : List D → Hs → R D} {hs : Hs} {d e : D} {b : Bool} {k1 k2 : List (Str × D)} (h1 : insOf hs d = some (c, k1)) (h2 : insOf hs e = some (c, k2)) (hf : fn [d, e] hs = .ok (.bl b) hs) : gOeq c fn hs d e = some (.bl b) := by
  unfold gOeq
  rw [h1, h2, hf]
  dsimp only
  rw [if_pos ⟨rfl, rfl⟩, if_pos rfl]
section
variable {X : Cx} {Wd : WX} {k : Nat} {f C : Addr} {fd : FuncData} {ps : List Str} {fn : List D → Hs → R D} {c : Str}
/-- what == and != ask of a class with an own __eq__ -/
structure EqK (K : PySem.W.Frag) (c : Str) (C : Addr) (f : Addr) : Prop extends SpK K c C "__eq__" f where
  nf : PySem.W.notFirst K C (.ref C) = true
  ne : PySem.W.findIn K (.ref C) "__ne__" = some (some (.builtin "object.__ne__"))
  ob : PySem.W.mroIn K C (.type "object") = some true
theorem og_oeq (M : EqK X.K c C f) (F : FnG X.prog X.w X.K X.mg X.base k f fd ps (spU X.K X.mg ps.length fn)) (hr : Room k X.A) (hgd : X.A.guards = some []) (hb : BindK X.K fd ps 2 [] [0, 1] []) (hl : ps.length = 2 := by rfl) :
    OpR X (compareOp .Eq) (rB X.K X.mg (gOeq c fn)) := by
  rintro pins s σ H x y v u Q I rx ry ⟨mu, hs, d, e, w, S, r1, r2, hg, q⟩
  obtain ⟨k1, k2, b, h1, h2, hf, rfl⟩ := gOeq_at hg
  obtain ⟨a, C1, dx, vs, rfl, hC1, ha, _⟩ := ins_at S r1 h1
  obtain ⟨a2, C2, dx2, vs2, rfl, hC2, ha2, _⟩ := ins_at S r2 h2
  cases M.isC.inj hC1
  cases M.isC.inj hC2
  cases rx
  cases ry
  obtain ⟨ox, od, J⟩ := inst_at I ha
  obtain ⟨ox2, od2, J2⟩ := inst_at I ha2
  obtain ⟨m, hF⟩ := I.fr
  show wpAny (model X.prog X.w) X.A (richCompare .Eq (.ref a) (.ref a2)) (EP X pins σ Q) X.xe s
  refine PySem.W.cmp_K (op := .Eq) (tb := .ref C) hr.units0 hF I.ok.mod.kin J J2.type M.nf M.at_ M.fn ?_
  refine wpAny_mono (runO (us := [.ref a, .ref a2]) (vs := [.ref a, .ref a2]) F hr hgd rfl (bind2 hb I.kIn) I (.cons rfl (.cons rfl .nil)) S (.cons r1 (.cons r2 .nil)) hl.symm hf (Q := fun y H' => y = .bl b ∧ Q y H') fun mu' H' y l s' ry => ⟨by cases ry; rfl, q mu' H' y l s' ry⟩) (fun u s' z => ?_) fun _ _ z => z
  obtain ⟨v, H', I', rv, rfl, qv⟩ := z
  cases (show u = Value.bool b from rv)
  exact ⟨.bl b, H', I', rfl, qv⟩
end

/-! ### isinstance(x, C), x an instance -/
/-- what isinstance asks of the classes of instances -/
structure IsK (K : PySem.W.Frag) (C : Addr) : Prop where
  cl : L2.Cls K C
  ha : PySem.W.findIn K (.ref C) "__class__" = some (some (.builtin "object.__class__"))
  hn : PySem.W.specialIn K (.builtin "object.__class__") "__get__" = some (some (.builtin "getset_descriptor.__get__"))
  ht : PySem.W.takesIn K (.builtin "object.__class__") = some true
  hm : PySem.W.mroIn K C (.type "object") = some true
inductive Iss (K : PySem.W.Frag) (u : Value) : List (Str × Bool) → Prop
  | nil : Iss K u []
  | cons {x : Str} {C : Addr} {b : Bool} {T : List (Str × Bool)} : IsC K x C → IsK K C → PySem.W.kitOne K (.ref C) u = some b → Iss K u T → Iss K u ((x, b) :: T)
theorem Iss.get {K : PySem.W.Frag} {u : Value} {x : Str} {C : Addr} {b : Bool} : ∀ {T : List (Str × Bool)}, Iss K u T → T.lookup x = some b → IsC K x C → IsK K C ∧ PySem.W.kitOne K (.ref C) u = some b
  | _, .nil, e, _ => by cases e
  | _, .cons (x := y) h1 h2 h3 t, e, g => by
    rw [List.lookup_cons] at e
    cases q : (x == y) with
    | true =>
      rw [q] at e
      cases e
      have := beq_iff_eq.mp q
      subst this
      cases h1.inj g
      exact ⟨h2, h3⟩
    | false => rw [q] at e; exact t.get e g
/-! ### d.get(k) -/
/-! ### what holds behind them -/
section
variable {Q : D → Hs → Prop} {X : XQ} {e : Ev} {hs : Hs} {P : Po}
@[reducible] def Po.tr (P : Po) (i : Nat) (T : List (Str × Bool)) (g : FS) : Po := { P with ex := fun c fs e h => match T.lookup c with
    | some true => Ws (g (e.set i (some (.exn c (fs.map (·.1)) (fs.map (·.2))))) h) { nx := fun e h => P.nx (e.set i none) h, rt := P.rt, bk := fun e h => P.bk (e.set i none) h, ct := fun e h => P.ct (e.set i none) h }
    | some false => P.ex c fs e h
    | none => False }
theorem ws_try {i : Nat} {T : List (Str × Bool)} {f g : FS} (h : Ws (f e hs) (P.tr i T g)) : Ws (sTry i T f g e hs) P := by
  with_unfolding_all
  unfold sTry
  cases q : f e hs with
  | exc c fs e1 h1 =>
    rw [q] at h
    have h : (match T.lookup c with
      | some true => Ws (g (e1.set i (some (.exn c (fs.map (·.1)) (fs.map (·.2))))) h1) { nx := fun e h => P.nx (e.set i none) h, rt := P.rt, bk := fun e h => P.bk (e.set i none) h, ct := fun e h => P.ct (e.set i none) h }
      | some false => P.ex c fs e1 h1
      | none => False) := h
    unfold tryR
    dsimp only
    cases z : T.lookup c with
    | none => rw [z] at h; exact h.elim
    | some b =>
      rw [z] at h
      cases b with
      | true =>
        dsimp only at h ⊢
        cases y : g (e1.set i (some (.exn c (fs.map (·.1)) (fs.map (·.2))))) h1 with
        | nx e2 h2 => rw [y] at h; exact h
        | brk e2 h2 => rw [y] at h; exact h
        | cnt e2 h2 => rw [y] at h; exact h
        | ret e2 h2 => rw [y] at h; exact h
        | exc c2 f2 e2 h2 => rw [y] at h; exact h.elim
        | bad => rw [y] at h; exact h.elim
      | false => exact h
  | nx e1 h1 => rw [q] at h; exact h
  | brk e1 h1 => rw [q] at h; exact h
  | cnt e1 h1 => rw [q] at h; exact h
  | ret e1 h1 => rw [q] at h; exact h
  | bad => rw [q] at h; exact h
theorem ws_raise {c : Str} (h : P.ex c [] e hs) : Ws (sRaise c e hs) P := by with_unfolding_all exact h
theorem wp_isE {T : List (Str × Bool)} {f : FE} (h : Wp (f e hs) (fun d h => ∃ c ks ds b, d = .exn c ks ds ∧ T.lookup c = some b ∧ Q (.bl b) h) X) : Wp (eIsE T f e hs) Q X := by
  refine wp_bind (wp_mono h (fun d h' q => ?_) fun _ _ _ x => x)
  obtain ⟨c, ks, ds, b, rfl, z, q⟩ := q
  dsimp only
  rw [z]
  exact wp_ok q
end
theorem Bd.tr {X : Cx} {Wd W : WX} {k : Nat} {pn : List (Addr × Obj)} {xe : Value → Shared → Prop} (B : Bd X Wd k) (tk : Takes (X.tr pn xe) W) (po : PassesOwn (model X.prog X.w) X.A X.env xe) : Bd (X.tr pn xe) W k :=
  ⟨B.calm, B.room, B.gd, tk, po, B.sm⟩
/-! # G53: sorted(dict) of text keys, however many -/
section
end
/-! ### as a function of ours -/
section
end
/-! # G54: text.count, text.split, text.replace (with a token given out ahead) -/
/-! ### count, split -/
section
variable {X : Cx}
def mSplit (hs : Hs) (d : D) (ds : List D) : Option (D × Hs) := match d with
  | .str a => (match ds with | [.str b] => if (b.length == 0) = false ∧ a.length + 2 ≤ sizeLine then some (.lst ((Txt.split a b).map D.str), hs) else none | _ => none)
  | _ => none
theorem mg_split : MtR X "str.split" (rMd X.K X.mg mSplit) := by
  rintro pins s σ H x xs v us Q I rx rxs ⟨mu, hs, d, ds, w, hs', S, r1, r2, hg, q⟩
  unfold mSplit at hg
  split at hg
  · rename_i a
    split at hg
    · rename_i b
      split at hg
      · rename_i hz
        cases hg
        cases r1
        cases r2 with
        | cons r3 r4 =>
          cases r3; cases r4
          exact mt_split pins s σ H _ _ v us Q I rx rxs ⟨a, b, rfl, rfl, hz.1, hz.2, fun p hp => q (mu.still p) _ _ (.newStill hp) (S.newStill hp) (.lst upd_same (.inl rfl) (RDs.strs _))⟩
      · cases hg
    · cases hg
  · cases hg
end
/-! ### one token is out -/
section
end
section
end
section
end
/-! # G55: exceptions of own classes with their own __init__ -/
section
open Builtin Builtin.ObjectAttr PySem.W PySem.HandSPX
end
section
end
section
end
/-! ### the def __init__ -/
theorem upd_upd {H : Hp} {a : Addr} {o p : HO} : upd (upd H a o) a p = upd H a p := by
  funext b
  by_cases h : b = a
  · rw [h, upd_same, upd_same]
  · rw [upd_ne h, upd_ne h, upd_ne h]
section
end
section
end
/-! ### the body of such an __init__ -/
section
end

/-! ### X(e, ..) -/
section
variable {X : Cx} {e : Expr} {es : List Expr} {ta : TA} {p pos : Pos} {bmB : List Value} {B newId initId : String} {x : Str} {C fI : Addr} {k : Nat} {fd : FuncData} {ps fs : List Str} {Wd : WX}
theorem RKs.app {K : PySem.W.Frag} {mu : Mp} {H : Hp} {a b : List (Str × D)} {c d : List (Str × V)} (h : RKs K mu H a c) (g : RKs K mu H b d) : RKs K mu H (a ++ b) (c ++ d) := by
  induction h with
  | nil => exact g
  | cons r t ih => exact .cons r ih
end
/-! ### short forms for the printer -/
section
end
section
variable {X : Cx} {Wd : WX} {i : Nat} {x : Str} {pos : Pos}
/-- a name's reading, short -/
theorem pv (i : Nat) {x : Str} {pos : Pos} (hN : X.N[i]? = some x := by rfl) (hv : Vis X.env.scope x := by first | exact Or.inl rfl | exact Or.inr (Or.inl rfl) | exact Or.inr (Or.inr rfl)) (hd : (x == ("__debug__" : Str)) = false := by decide)
    (hcd : (x == ("__classdict__" : Str)) = false := by decide) : PE X (.Name x pos) (tVar i) := pe_var hN hv hd hcd
end
/-! # G56: dict(a list of pairs) -/
def pairK : D → Option (Key × D)
  | .tup [k, v] => (match keyD k with | some x => some (x, v) | none => none)
  | _ => none
def pairsK : List D → Option (List (Key × D))
  | [] => some []
  | d :: ds => match pairK d with | some kv => (match pairsK ds with | some r => some (kv :: r) | none => none) | none => none
def mrgG {k : Type} [DecidableEq k] (kvs more : List (k × D)) : List (k × D) := more.foldl (fun acc kv => putG acc kv.1 kv.2) kvs
def mrgV {k : Type} [DecidableEq k] (kvs more : List (k × V)) : List (k × V) := more.foldl (fun acc kv => putK acc kv.1 kv.2) kvs
theorem RKs.mrg {K : PySem.W.Frag} {mu : Mp} {H : Hp} {k : Type} [DecidableEq k] {more : List (k × D)} {moreV : List (k × V)} (h : RKs K mu H more moreV) : ∀ {kvs : List (k × D)} {vs : List (k × V)}, RKs K mu H kvs vs → RKs K mu H (mrgG kvs more) (mrgV vs moreV) := by
  induction h with
  | nil => exact fun q => q
  | cons r t ih => exact fun q => ih (q.put r)
def gDictP (ds : List D) : Option D := match pairsK ds with
  | some kvs => some (.dlk ((mrgG [] kvs).map (·.1)) ((mrgG [] kvs).map (·.2)))
  | none => none
/-- dict(xs): by value -/
def eDictP (f : FL) : FE := fun e hs => (f e hs).bind fun ds hs => R.ofO (gDictP ds) hs
theorem pairs_at {K : PySem.W.Frag} {mu : Mp} {H : Hp} : ∀ {ds : List D} {vs : List V} {kvs : List (Key × D)}, RDs K mu H ds vs → pairsK ds = some kvs →
    ∃ (ps : List Addr) (ws : List (Key × V)), vs = ps.map V.ref ∧ Paired (fun p kv => SqT K H p [kV kv.1, kv.2]) ps ws ∧ RKs K mu H kvs ws
  | _, _, _, .nil, e => by cases e; exact ⟨[], [], rfl, .nil, .nil⟩
  | d :: ds, v :: vs, kvs, .cons r t, e => by
    unfold pairsK at e
    split at e
    · rename_i kv hk
      split at e
      · rename_i rs hr
        cases e
        obtain ⟨ps, ws, e1, e2, e3⟩ := pairs_at t hr
        unfold pairK at hk
        split at hk
        · rename_i k x
          split at hk
          · rename_i y hy
            cases hk
            cases r with
            | tup hst rr =>
              cases rr with
              | cons ra rb =>
                cases rb with
                | cons rc rd =>
                  cases rd
                  have ek := keyD_at ra hy
                  subst ek
                  subst e1
                  exact ⟨_ :: ps, (y, _) :: ws, rfl, .cons hst.sq e2, .cons rc e3⟩
          · cases hk
        · cases hk
      · cases e
    · cases e
section
variable {X : Cx} {Wd : WX} {a : Expr} {p pos : Pos} {f : FL}
/-- dict(xs), locked -/
theorem call_dictL (hc : X.calm = true) : CallR X (.type "dict") (fun xs H Q => ∃ (a : Addr) (ps : List Addr) (kvs : List (Key × V)), xs = [.ref a] ∧ SqL X.K H a (ps.map V.ref) ∧ Paired (fun p kv => SqT X.K H p [kV kv.1, kv.2]) ps kvs ∧
    ∀ p od, H p = none → Q (.ref p) (upd H p (.frz od (.dK (mrgV [] kvs))))) := by
  intro pins s σ H xs us Q I r ⟨a, ps, kvs, e1, e2, e3, q⟩
  refine thn (call_dictP hc pins s σ H xs us (fun v H1 => ∃ p, v = .ref p ∧ H p = none ∧ H1 = upd H p (.dK (mergeK [] kvs))) I r ⟨a, ps, kvs, e1, e2, e3, fun p hp => ⟨p, rfl, hp, rfl⟩⟩) fun v s1 ⟨x, H1, J, rv, p, ex, hp, eH⟩ => ?_
  subst ex
  subst eH
  obtain ⟨od, J2⟩ := J.lock upd_same trivial
  rw [upd_upd] at J2
  exact ⟨.ref p, _, J2, rv, q p od hp⟩
theorem ue_dictP (hc : X.calm = true) (hg : L2.Gl X "dict") (hm : X.mg "dict" = none) (ha : UF X Wd a f)
    (hs1 : starEach [a] X.env = [(false, eval a X.env)] := by rfl) : UE X Wd (.Call (.Name "dict" p) [a] [] pos) (eDictP f) := by
  refine PE.imp (pe_callTy (call_dictL hc) hg hm PyProof.Rows.boot_dict (pa_cons ha pa_nil hs1) (by decide) (by decide) hs1 rfl) fun σ H Q h => ?_
  obtain ⟨e, mu, hs, S, E, q⟩ := tG_seq (r := relF X.K X.mg) relD_ok h
  refine ⟨e, mu, hs, S, E, q.imp fun x H1 ⟨e, mu1, hs1, ds, S1, E1, r1, g1⟩ => ?_⟩
  obtain ⟨b, vs, rfl, hb, n1, n2, n3, rr⟩ := r1
  unfold gDictP at g1
  cases q : pairsK ds with
  | none => rw [q] at g1; exact g1.elim
  | some kvs =>
    rw [q] at g1
    obtain ⟨ps, ws, e1, e2, e3⟩ := pairs_at rr q
    subst e1
    refine ⟨b, ps, ws, rfl, .inl (.inl hb), e2, fun p od hp => ?_⟩
    have rk : RKs X.K mu1 H1 (mrgG [] kvs) (mrgV [] ws) := e3.mrg .nil
    have l : Lat mu1 H1 mu1 (upd H1 p (.frz od (.dK (mrgV [] ws)))) := .new hp
    have hu : StF mu1 (upd H1 p (.frz od (.dK (mrgV [] ws)))) p (.dK (((mrgG [] kvs).map (·.1)).zip ((mrgV [] ws).map (·.2)))) := by
      refine ⟨⟨od, ?_⟩, S1.fresh hp⟩
      rw [upd_same, rk.fsts, zip_map]
    exact g1 mu1 _ (.ref p) l (S1.new hp) (.dlk hu (by simp) (RDs.agr (l.agr S1) rk.snds))
end
section
variable {e : Ev} {hs : Hs} {X : XQ}
theorem wp_dictP {f : FL} {Q : D → Hs → Prop} (h : Wp (f e hs) (fun ds h => Wp (R.ofO (gDictP ds) h) Q X) X) : Wp (eDictP f e hs) Q X := wp_bind h
end
/-! # G57: dict(a list of pairs), the keys tuples -/
/-- the pairs, told by their keys' addresses -/
abbrev PTs (K : PySem.W.Frag) (H : Hp) : List Addr → List (List Key × Addr × V) → Prop := Paired fun p x => SqT K H p [.ref x.2.1, x.2.2] ∧ H x.2.1 = some (.tup (x.1.map kV))
section
variable {X : Cx} {pins : List (Addr × Obj)} {σ : L2.St} {H : Hp} {s : Shared}
theorem KT.all {kvs : List (List Key × Addr × V)} {xs : List (List Key × Addr × Value)} (r : Paired (fun (x : List Key × Addr × V) (y : List Key × Addr × Value) => x.1 = y.1 ∧ x.2.1 = y.2.1 ∧ H y.2.1 = some (.tup (x.1.map kV)) ∧ RelV x.2.2 y.2.2) kvs xs) :
    ∀ {acc : List (List Key × V)} {ys : List (List Key × Addr × Value)}, KT H acc ys → KT H (mrgV acc (kvs.map fun x => (x.1, x.2.2))) (storedAllH ys xs) := by
  induction r with
  | nil => exact fun q => q
  | @cons x y l m h t ih =>
    intro acc ys q
    obtain ⟨h1, h2, h3, h4⟩ := h
    have z := q.put x.1 h3 h4
    rw [h1] at z
    show KT H (mrgV (putK acc x.1 x.2.2) _) (storedAllH (storedH ys y.1 y.2.1 y.2.2) m)
    rw [h1]
    exact ih z
end
section
end
section
end
/-! # G58: for k in d, d locked -/
section
end
section
end
end G

/-! # G59: own == beside other kinds, in lists and tuples (the model's side) -/
namespace G
open PySem PySem.Spec PyProof.Rows
open PySem.SeqAt
open PySem.AutoSeq1 (wpAny_loadPart')
open MeetsSeq MeetsSeq2 MeetsSeq3 SeqRoads2
section
end
section
end
/-! # G60: == and != of other kinds beside an instance: they decline, the own one answers -/
open PySem.SeqAt
open PySem.AutoSeq1 (wpAny_loadPart')
open MeetsSeq MeetsSeq2 MeetsSeq3 SeqRoads2
section
variable {prog : Program} {w : World} {A : Around} {E : Value → Shared → Prop} {s : Shared} {x C dx : Addr} {K : PySem.W.Frag} {R : Result → Shared → Prop}
theorem str_dec (b : Str) (u : Tok) (hx : s.heap.get? x = some (PySem.W.instObj C dx)) (h : R (.ok (.ret .notImplemented)) s) :
    wpAny (model prog w) A.in1 (Builtin.«str.__eq__» ⟨[.str b u, .ref x], []⟩) (GQ.FinOf prog w A R) (fun e s' => R (.error e) s') s := by
  obtain ⟨hp, g, d, tk, os⟩ := s
  unfold PySem.W.instObj at hx
  wp_walk using wpAny_loadPart' hx, wpAny_load hx
  exact h
theorem str_ndec (b : Str) (u : Tok) (hx : s.heap.get? x = some (PySem.W.instObj C dx)) (h : R (.ok (.ret .notImplemented)) s) :
    wpAny (model prog w) A.in1 (Builtin.«str.__ne__» ⟨[.str b u, .ref x], []⟩) (GQ.FinOf prog w A R) (fun e s' => R (.error e) s') s := by
  obtain ⟨hp, g, d, tk, os⟩ := s
  unfold PySem.W.instObj at hx
  wp_walk using wpAny_loadPart' hx, wpAny_load hx
  exact h
end
/-- what == asks of a class beside other kinds -/
structure OthK (K : PySem.W.Frag) (C : Addr) : Prop where
  a1 : PySem.W.subIn K (.ref C) (.type "NoneType") = some false
  a2 : PySem.W.subIn K (.ref C) (.type "bool") = some false
  a3 : PySem.W.subIn K (.ref C) (.type "int") = some false
  a4 : PySem.W.subIn K (.ref C) (.type "str") = some false
  a5 : PySem.W.subIn K (.ref C) (.type "list") = some false
  a6 : PySem.W.subIn K (.ref C) (.type "tuple") = some false
  a7 : PySem.W.subIn K (.ref C) (.type "dict") = some false
  b1 : PySem.W.subIn K (.type "NoneType") (.ref C) = some false
  b2 : PySem.W.subIn K (.type "bool") (.ref C) = some false
  b3 : PySem.W.subIn K (.type "int") (.ref C) = some false
  b4 : PySem.W.subIn K (.type "str") (.ref C) = some false
  b5 : PySem.W.subIn K (.type "list") (.ref C) = some false
  b6 : PySem.W.subIn K (.type "tuple") (.ref C) = some false
  b7 : PySem.W.subIn K (.type "dict") (.ref C) = some false
/-- a value whose == and != decline beside an instance -/
structure Dec (prog : Program) (w : World) (K : PySem.W.Frag) (C : Addr) (s : Shared) (u : Value) (T : String) : Prop where
  ty : s.TypeIs u T
  fst : PySem.W.notFirst K C (.type T) = true
  sub : PySem.W.subIn K (.ref C) (.type T) = some false
  eq : ∀ (A : Around) (E : Value → Shared → Prop) (x dx : Addr) (Q : Option Value → Shared → Prop), s.heap.get? x = some (PySem.W.instObj C dx) → Q none s → wpAny (model prog w) A (tryCompare u "__eq__" (.ref x)) Q E s
  ne : ∀ (A : Around) (E : Value → Shared → Prop) (x dx : Addr) (Q : Option Value → Shared → Prop), s.heap.get? x = some (PySem.W.instObj C dx) → Q none s → wpAny (model prog w) A (tryCompare u "__ne__" (.ref x)) Q E s
section
variable {prog : Program} {w : World} {s : Shared} {C : Addr} {K : PySem.W.Frag}
theorem nf_of {K : PySem.W.Frag} {C : Addr} {T : String} (h : PySem.W.subIn K (.type T) (.ref C) = some false) : PySem.W.notFirst K C (.type T) = true := by
  unfold PySem.W.notFirst
  rw [h]
  simp
theorem dec_str (O : OthK K C) (b : Str) (u : Tok) : Dec prog w K C s (.str b u) "str" where
  ty := typeIs_str s b u
  fst := nf_of O.b4
  sub := O.a4
  eq := fun A E x dx Q hx q => wpAny_tryCompare_declines (typeIs_str s b u) F.slot_str_eq (GQ.call_here F.slot_str_eq (typeIs_str s b u) F.entry_str_eq (F.args_str_eq_2 _ _) (str_dec (R := wants (fun v s' => v = .notImplemented ∧ Q none s') E) b u hx ⟨rfl, q⟩))
  ne := fun A E x dx Q hx q => wpAny_tryCompare_declines (typeIs_str s b u) F.slot_str_ne (GQ.call_here F.slot_str_ne (typeIs_str s b u) F.entry_str_ne (F.args_str_ne_2 _ _) (str_ndec (R := wants (fun v s' => v = .notImplemented ∧ Q none s') E) b u hx ⟨rfl, q⟩))
end
section
end
end G

/-! # G61: == and != by an own __eq__, beside other kinds, in lists and tuples -/
namespace G
open PySem PySem.Spec PyProof.Rows L2
/-! ### what is surely not the same object -/
section
end
/-! ### what == answers -/
section
section
end
/-! ### plain data -/
/-! ### lists, tuples -/
section
end
end
/-! # G62: ==, != and in by an own __eq__: the rules -/
section
section
end
end
/-! # G63: isinstance(x, Own) of anything; what == by an own __eq__ answers -/
structure OnK (K : PySem.W.Frag) (u : Value) : Prop where
  t1 : PySem.W.kitOne K (.type "int") u = some false
  t2 : PySem.W.kitOne K (.type "str") u = some false
  t3 : PySem.W.kitOne K (.type "bool") u = some false
  t4 : PySem.W.kitOne K (.type "tuple") u = some false
  t5 : PySem.W.kitOne K (.type "list") u = some false
  t6 : PySem.W.kitOne K (.type "dict") u = some false
  t7 : PySem.W.kitOne K (.type "NoneType") u = some false
theorem OnK.at_ {K : PySem.W.Frag} {u : Value} (h : OnK K u) (t : Tn) : PySem.W.kitOne K (.type t.nm) u = some false := by
  cases t
  · exact h.t1
  · exact h.t2
  · exact h.t3
  · exact h.t4
  · exact h.t5
  · exact h.t6
def isNonD : D → Bool
  | .non => true
  | _ => false
def eIsO2 (T : List (Str × Bool)) (f : FE) : FE := fun e hs => (f e hs).bind fun d hs => match insOf hs d with
  | some (c, _) => (match T.lookup c with | some b => .ok (.bl b) hs | none => .bad)
  | none => if isNonD d = true then .ok (.bl false) hs else match tnOf hs d with | some _ => .ok (.bl false) hs | none => .bad
theorem ue_isO2 {X : Cx} {Wd : WX} {a : Expr} {x : Str} {f : FE} {u : Value} {T : List (Str × Bool)} {p pos pos2 : Pos} (hT : Iss X.K u T) (hN : OnK X.K u) (hm : X.mg "isinstance" = none) (ha : UE X Wd a f) (hc : Cn X.mg x u) (hg : L2.Gl X "isinstance" := by exact rfl)
    (hg2 : L2.Gl X x := by exact rfl) (hd : (x == ("__debug__" : Str)) = false := by decide)
    (he : starEach [a, .Name x pos2] X.env = (false, eval a X.env) :: starEach [.Name x pos2] X.env := by rfl) (he2 : starEach [.Name x pos2] X.env = (false, eval (.Name x pos2) X.env) :: starEach [] X.env := by rfl) (hpl : (backTo pos (starEach [.Name x pos2] X.env)).any (·.1) = false := by rfl) :
    UE X Wd (.Call (.Name "isinstance" p) [a, .Name x pos2] [] pos) (eIsO2 T f) := by
  obtain ⟨v, k, pc⟩ := pe_cn (pos := pos2) hc hg2 hd
  have pa := pa_cons ha (pa_cons pc pa_nil he2) he
  refine PE.imp (pe_callB call_isi hg hm bt_isi pa (by decide) (by decide) he hpl) fun σ H Q h => ?_
  obtain ⟨e, mu, hs, S, E, q⟩ := tG_seq (r := relD X.K) relD_ok h
  refine ⟨e, mu, hs, S, E, q.imp fun v1 H1 ⟨e, mu1, hs1, d, S1, E1, r1, g1⟩ => ?_⟩
  cases z : insOf hs1 d with
  | none =>
    rw [z] at g1
    dsimp only at g1
    have r1 : RD X.K mu1 H1 d v1 := r1
    split at g1
    · rename_i hn
      cases d with
      | non => cases r1; exact ⟨_, v, .type "NoneType", u, false, rfl, k, .base .non, hN.t7, g1 _ H1 _ .refl S1 (.bl false)⟩
      | _ => exact absurd hn Bool.false_ne_true
    · cases y : tnOf hs1 d with
      | none => rw [y] at g1; exact g1.elim
      | some t =>
        rw [y] at g1
        exact ⟨_, v, .type t.nm, u, false, rfl, k, tyx_of S1 r1 y, hN.at_ t, g1 _ H1 _ .refl S1 (.bl false)⟩
  | some p =>
    obtain ⟨c, kvs⟩ := p
    rw [z] at g1
    dsimp only at g1
    obtain ⟨a, C, dx, vs, rfl, hC, ha, _⟩ := ins_at S1 r1 z
    cases y : T.lookup c with
    | none => rw [y] at g1; exact g1.elim
    | some b =>
      rw [y] at g1
      obtain ⟨h1, h2⟩ := hT.get y hC
      exact ⟨_, v, .ref C, u, b, rfl, k, .base (.ins ha h1.cl h1.ha h1.hn h1.ht h1.hm), h2, g1 _ H1 _ .refl S1 (.bl b)⟩
section
variable {Q : D → Hs → Prop} {X : XQ} {e : Ev} {hs : Hs} {P : Po}
/-- what isinstance answers -/
def isO2 (T : List (Str × Bool)) (h : Hs) (d : D) : Option Bool := match insOf h d with
  | some (c, _) => T.lookup c
  | none => if isNonD d = true then some false else (tnOf h d).map fun _ => false
theorem wp_isO2 {T : List (Str × Bool)} {f : FE} (h : Wp (f e hs) (fun d h => ∃ b, isO2 T h d = some b ∧ Q (.bl b) h) X) : Wp (eIsO2 T f e hs) Q X := by
  refine wp_bind (wp_mono h (fun d h' q => ?_) fun _ _ _ x => x)
  obtain ⟨b, z, q⟩ := q
  unfold isO2 at z
  cases y : insOf h' d with
  | none =>
    rw [y] at z
    dsimp only at z ⊢
    split at z
    · rename_i hn
      cases z
      rw [if_pos hn]
      exact wp_ok q
    · rename_i hn
      rw [if_neg hn]
      obtain ⟨t, e1, e2⟩ := Option.map_eq_some_iff.mp z
      rw [e1]
      cases e2
      exact wp_ok q
  | some p =>
    obtain ⟨c, k⟩ := p
    rw [y] at z
    dsimp only at z ⊢
    rw [z]
    exact wp_ok q
end
/-! ### answers -/
section
end
end G

/-! # G64: walks over a list of ours that stands still, its last item, its parts -/
namespace G
open PySem PySem.Spec L2
section
end
end G

/-! # G65: {k: v, ..} with keys numbers and texts, by value and as a thing of ours -/
namespace G
open PySem PySem.Spec PyProof.Rows L2
section
end
def relP (K : PySem.W.Frag) : Rel (List (D × D)) (List (V × V)) := fun _ mu _ H ds vs => RDs K mu H (ds.map (·.1)) (vs.map (·.1)) ∧ RDs K mu H (ds.map (·.2)) (vs.map (·.2)) ∧ ds.length = vs.length
theorem relP_ok {K : PySem.W.Frag} : (relP K).Ok := fun _ _ _ _ _ _ _ _ _ _ _ h => h
abbrev FPs := Ev → Hs → R (List (D × D))
def pNil : FPs := fun _ hs => .ok [] hs
def pCons (fk fv : FE) (g : FPs) : FPs := fun e hs => (fk e hs).bind fun k hs => (fv e hs).bind fun v hs => (g e hs).bind fun l hs => .ok ((k, v) :: l) hs
def dispD (l : List (D × D)) : Option (List (Key × D)) := match keysD (l.map (·.1)) with
  | some ks => if l.length ≤ 15 then some (mrgG [] (ks.zip (l.map (·.2)))) else none
  | none => none
/-- by value -/
def eDisp (g : FPs) : FE := fun e hs => (g e hs).bind fun l hs => match dispD l with
  | some m => .ok (.dct (m.map (·.1)) (m.map (·.2))) hs
  | none => .bad
def UPs (X : Cx) (Wd : WX) (pos : Pos) (keys : List (Option Expr)) (values : List Expr) (g : FPs) : Prop :=
  ∃ trs, PPs X pos keys values trs ∧ ∀ σ H Q, tG (relP X.K) X.K X.mg Wd g σ H Q → tPairs trs σ H Q
section
variable {X : Cx} {Wd : WX} {pos : Pos} {keys : List (Option Expr)} {values : List Expr} {g : FPs}
theorem ups_nil : UPs X Wd pos [] [] pNil := ⟨[], pps_nil, fun σ H Q h => by
  obtain ⟨e, mu, hs, S, E, q⟩ := h
  exact q mu H [] .refl S ⟨.nil, .nil, rfl⟩⟩
theorem ups_cons {k v : Expr} {fk fv : FE} (hk : UE X Wd k fk) (hv : UE X Wd v fv) (hr : UPs X Wd pos keys values g) : UPs X Wd pos (some k :: keys) (v :: values) (pCons fk fv g) := by
  obtain ⟨trs, P, i⟩ := hr
  refine ⟨_, pps_cons hk hv P, fun σ H Q h => ?_⟩
  obtain ⟨e, mu, hs, S, E, q⟩ := tG_seq (r := relD X.K) relP_ok h
  refine ⟨e, mu, hs, S, E, q.imp fun x H1 ⟨e, mu1, hs1, d, S1, E1, r1, g1⟩ => ?_⟩
  obtain ⟨e2, mu2, hs2, S2, E2, q2⟩ := tG_seq (r := relD X.K) (a' := List (D × D)) (b' := List (V × V)) relP_ok (f := fun e' hs' => fv e' hs') (k := fun e' v hs' => (g e' hs').bind fun l hs => .ok ((d, v) :: l) hs) (K := X.K) (mg := X.mg) (Wd := Wd) (σ := σ) (H := H1) (Q := Q) ⟨e, mu1, hs1, S1, E1, g1⟩
  refine ⟨e, mu1, hs1, S1, E1, (Gd.bind (r := relD X.K) relP_ok g1).imp fun y H2 ⟨mu2, hs2, d2, l2, S2, r2, g2⟩ => ?_⟩
  refine i σ H2 _ ⟨e, mu2, hs2, S2, E1.agr (l2.agr S1), (Gd.bind (r := relP X.K) relP_ok g2).imp fun ps H3 ⟨mu3, hs3, ds, l3, S3, ⟨r31, r32, r33⟩, g3⟩ => ?_⟩
  exact g3 mu3 H3 _ .refl S3 ⟨.cons (RD.agr (l3.agr S2) (RD.agr (l2.agr S1) r1)) r31, .cons (RD.agr (l3.agr S2) r2) r32, by rw [List.length_cons, List.length_cons, r33]⟩
theorem zip_self : ∀ {k a : Type} (l : List (k × a)), (l.map (·.1)).zip (l.map (·.2)) = l
  | _, _, [] => rfl
  | _, _, p :: l => by rw [List.map_cons, List.map_cons, List.zip_cons_cons, zip_self l]
theorem keysD_len : ∀ {ds : List D} {ks : List Key}, keysD ds = some ks → ks.length = ds.length
  | [], _, h => by cases h; rfl
  | d :: ds, ks, h => by
    unfold keysD at h
    split at h
    · split at h
      · rename_i k _ ks' h2
        cases h
        rw [List.length_cons, List.length_cons, keysD_len h2]
      · cases h
    · cases h
/-- what the display holds -/
theorem disp_at {mu : Mp} {H : Hp} {l : List (D × D)} {ps : List (V × V)} {m : List (Key × D)} (r : relP X.K H mu [] H l ps) (h : dispD l = some m) :
    ∃ kvs : List (Key × V), ps = kvs.map (fun kv => (kV kv.1, kv.2)) ∧ kvs.length ≤ 15 ∧ RKs X.K mu H m (mrgV [] kvs) := by
  obtain ⟨r1, r2, r3⟩ := r
  unfold dispD at h
  split at h
  · rename_i ks hk
    split at h
    · rename_i hl
      cases h
      have e1 := keysD_at r1 hk
      have lk := keysD_len hk
      rw [List.length_map] at lk
      have lv : ks.length = (ps.map (·.2)).length := by rw [List.length_map, lk, r3]
      refine ⟨ks.zip (ps.map (·.2)), ?_, by rw [List.length_zip, lk]; omega, (RKs.zip r2).mrg .nil⟩
      rw [← zip_self ps, e1]
      clear e1 r1 r2 hk hl lk r3
      induction ks generalizing ps with
      | nil => simp
      | cons k ks ih =>
        cases ps with
        | nil => simp at lv
        | cons p ps =>
          simp only [List.map_cons, List.zip_cons_cons, List.cons.injEq, true_and]
          have := ih (ps := ps) (by simpa using lv)
          simpa [zip_self] using this
    · cases h
  · cases h
theorem ue_disp (h : UPs X Wd pos keys values g) (hall : keys.all (·.isSome) = true := by rfl) (hl : keys.length = values.length := by rfl) (h0 : keys ≠ [] := by exact List.cons_ne_nil _ _) (h15 : keys.length ≤ 15 := by exact Nat.le_of_ble_eq_true rfl) : UE X Wd (.Dict keys values pos) (eDisp g) := by
  obtain ⟨trs, P, i⟩ := h
  refine PE.imp (pe_disp P hall hl h0 h15) fun σ H Q h p hp => ?_
  obtain ⟨e, mu, hs, S, E, q⟩ := h
  have l0 : Lat mu H mu (upd H p (.dK [])) := .new hp
  refine i σ _ _ ⟨e, mu, hs, S.new hp, E.agr (l0.agr S), ?_⟩
  unfold eDisp at q
  cases z : g e hs with
  | bad => rw [z] at q; exact q
  | exc c fs hs' => rw [z] at q; exact fun mu' H' cls dx l s rr => q mu' H' cls dx (l0.trans l) s rr
  | ok l hs' =>
    rw [z] at q
    intro mu1 H1 ps l1 S1 r1
    have q : Gd (relD X.K) X.K X.mg Wd σ mu H Q (match dispD l with | some m => .ok (.dct (m.map (·.1)) (m.map (·.2))) hs' | none => .bad) := q
    cases y : dispD l with
    | none => rw [y] at q; exact q.elim
    | some m =>
      rw [y] at q
      obtain ⟨e1, n1, z1⟩ := l1.ext p _ upd_same (S.fresh hp)
      have nz : ¬ mu1.fz p := fun z => S.freshz hp (z1 z)
      have ni : ¬ Imm (.dK []) := fun z => z
      obtain ⟨kvs, ek, lk, rk⟩ := disp_at (X := X) r1 y
      refine ⟨e1, kvs, ek, lk, ?_⟩
      have S2 := S1.privI (o := .dK (mrgV [] kvs)) e1 ni n1 nz
      have hz : upd H1 p (.dK (mrgV [] kvs)) p = some (.dK ((m.map (·.1)).zip ((mrgV [] kvs).map (·.2)))) := by rw [upd_same, rk.fsts, zip_map]
      refine q (mu1.still p) _ (.ref p) ⟨l1.pre, fun a z => .inr (l1.sub a z), fun b o hb nb => ?_, fun b o v hb => by have hbp : b ≠ p := ne_of_none hb hp; show upd H1 p _ b = _; rw [upd_ne hbp]; exact l1.frz b o v (by rw [upd_ne hbp]; exact hb)⟩ (S2.still upd_same n1) (show RD X.K (mu1.still p) _ (.dct (m.map (·.1)) (m.map (·.2))) (.ref p) from .dct hz (.inl rfl) (by simp) (RDs.agr .still (RDs.agr (.privI e1 ni nz) rk.snds)))
      have hbp : b ≠ p := ne_of_none hb hp
      obtain ⟨a1, a2, a3⟩ := l1.ext b o (by rw [upd_ne hbp]; exact hb) nb
      exact ⟨by show upd H1 p _ b = _; rw [upd_ne hbp]; exact a1, a2, fun z => z.elim (fun e => absurd e hbp) a3⟩
end
section
variable {e : Ev} {hs : Hs} {X : XQ}
theorem wp_pNil {Q : List (D × D) → Hs → Prop} (h : Q [] hs) : Wp (pNil e hs) Q X := wp_ok h
theorem wp_pCons {fk fv : FE} {g : FPs} {Q : List (D × D) → Hs → Prop} (h : Wp (fk e hs) (fun k h => Wp (fv e h) (fun v h => Wp (g e h) (fun l h => Q ((k, v) :: l) h) X) X) X) : Wp (pCons fk fv g e hs) Q X :=
  wp_bind (wp_mono h (fun _ _ q => wp_bind (wp_mono q (fun _ _ q => wp_bind (wp_mono q (fun _ _ q => wp_ok q) fun _ _ _ x => x)) fun _ _ _ x => x)) fun _ _ _ x => x)
theorem wp_disp {g : FPs} {Q : D → Hs → Prop} (h : Wp (g e hs) (fun l h => ∃ m, dispD l = some m ∧ Q (.dct (m.map (·.1)) (m.map (·.2))) h) X) : Wp (eDisp g e hs) Q X := by
  refine wp_bind (wp_mono h (fun l h' q => ?_) fun _ _ _ x => x)
  obtain ⟨m, z, q⟩ := q
  rw [z]
  exact wp_ok q
end
/-! # G66: the truth of an instance by its own __len__; bool(x) -/
section
end
section
end
end G

/-! # G67: == of numbers, texts and tuples of these is being the same -/
namespace G
open PySem PySem.Spec L2
mutual
/-- numbers, texts, tuples of these -/
def pt : D → Bool
  | .int _ => true
  | .str _ => true
  | .tup ds => pts ds
  | _ => false
def pts : List D → Bool
  | [] => true
  | d :: ds => pt d && pts ds
end
section
end
open Classical in
/-- whether they are the same -/
noncomputable def sameD (d e : D) : Bool := decide (d = e)
end G

/-! # G68: not x of an instance by its own __len__; more rules of what holds -/
namespace G
open PySem PySem.Spec PyProof.Rows L2
section
end
section
variable {e : Ev} {hs : Hs} {X : XQ} {h : Hs} {P : Po}
theorem all_app {P : D → Prop} {xs ys : List D} (a : ∀ x ∈ xs, P x) (b : ∀ x ∈ ys, P x) : ∀ x ∈ xs ++ ys, P x := fun x h => (List.mem_append.mp h).elim (a x) (b x)
end
/-! # G69: xs.pop(i), xs.extend(ys) -/
section
end
section
end
end G

/-! # G70: tuples in lists of plain data; changes of things that stand -/
namespace G
open PySem PySem.Spec L2
section
end
end G

/-! # G71: exceptions made by keywords -/
namespace PySem.HandSPX
open PySem PySem.Spec PyProof.Rows
section
end
section
end
end PySem.HandSPX
namespace G
open PySem PySem.Spec PyProof.Rows L2
section
end
section
end
/-! ### how to walk them -/
section
end
/-! # G72: functions that may run while a repr is under way; repr of a tuple in which own instances stand -/
section
end
section
end
section
end
section
variable {X : Cx} {k : Nat} {f C : Addr} {fd : FuncData} {ps : List Str} {fn : List D → Hs → R D} {c : Str} {pins : List (Addr × Obj)} {σ : L2.St} {s : Shared} {H : Hp} {mu : Mp} {hs hs' : Hs}
/-! ### a tuple's repr -/
theorem RDs.mem {K : PySem.W.Frag} {d : D} : ∀ {ds : List D} {vs : List V}, RDs K mu H ds vs → d ∈ ds → ∃ v, v ∈ vs ∧ RD K mu H d v
  | _, _, .cons r t, hd => by
    rcases List.mem_cons.mp hd with rfl | hd
    · exact ⟨_, List.mem_cons_self, r⟩
    · obtain ⟨v, a, b⟩ := RDs.mem t hd
      exact ⟨v, List.mem_cons_of_mem _ a, b⟩
  | _, _, .nil, hd => nomatch hd
theorem rep_depth {A : Around} {a : Addr} : (A.under (.builtin "tuple.__repr__" ⟨[.ref a], []⟩)).depth ≤ A.depth + 1 := by
  first
    | exact Nat.le_of_eq rfl
    | (simp [Around.under, Code.weight, Code.isCreation, Code.isGuard, Code.isCaller, Code.frames, Code.isFrame, guardIds])
theorem Room.rep {A : Around} {a : Addr} (r : Room (k + 1) A) : Room k (A.under (.builtin "tuple.__repr__" ⟨[.ref a], []⟩)) :=
  ⟨r.hd, by have := r.dp; have := rep_depth (A := A) (a := a); omega, by have := r.un; rw [units_under_tuple_repr]; omega⟩
end
/-! # G73: min, max of a list of numbers -/
def minI : List Int → Int
  | [] => 0
  | [x] => x
  | x :: y :: r => let m := minI (y :: r); if m < x then m else x
def gMinL (hs : Hs) (ds : List D) : Option D := match ds with
  | [d] => (match rdOf hs d with | some xs => (match intsOf xs with | some (n :: ns) => some (.int (minI (n :: ns))) | _ => none) | none => none)
  | _ => none
section
end
section
variable {h : Hs} {ds : List D} {ns : List Int} {n : Int}
theorem min_l : gMinL h [.lst ((n :: ns).map D.int)] = some (.int (minI (n :: ns))) := by
  show (match intsOf ((n :: ns).map D.int) with | some (n :: ns) => some (D.int (minI (n :: ns))) | _ => none) = _
  rw [intsOf_map]
end
/-! # G74: zip of a tuple and a list -/
/-! # G75: sum of a tuple of numbers -/
/-! # G76: dicts of ours: locked, walked, listed, sorted, counted, put into one another -/
/-! ### locked from now on -/
section
/-! ### for v in d.values() -/
end
section
end
/-! ### dict(xs) as a thing of ours -/
section
end
section
end
/-! ### dicts read -/
section
end
/-! ### sorted(d), whole numbers as keys -/
/-! ### len(d) -/
/-! ### d.update(e) -/
/-! # G77: sorted of a list of any data that may be compared (pairs of tuples ..) -/
section
end
section
end
/-! # Steps as instances: what comes next of a goal is found by its head -/
/-- p holds if q does -/
class Stp (p : Prop) (q : outParam Prop) : Prop where
  go : q → p
class Run (p : Prop) (q : outParam Prop) : Prop where
  go : q → p
class Rnn (p : Prop) (q : outParam Prop) : Prop where
  go : q → p
instance (priority := low) rnn_end {p : Prop} : Rnn p p := ⟨id⟩
instance rnn_go {p q : Prop} [s : Run p q] : Rnn p q := ⟨s.go⟩
instance run_go {p q r : Prop} [s : Stp p q] [t : Rnn q r] : Run p r := ⟨fun z => s.go (t.go z)⟩
/-- o is some x -/
class Evt {a : Type} (o : Option a) (x : outParam a) : Prop where
  is : o = some x
class Nth (e : Ev) (i : Nat) (d : outParam D) : Prop where
  is : e[i]? = some (some d)
instance nth_0 {d : D} {e : Ev} : Nth (some d :: e) 0 d := ⟨rfl⟩
instance nth_s {d : D} {o : Option D} {e : Ev} {i : Nat} [n : Nth e i d] : Nth (o :: e) (i + 1) d := ⟨n.is⟩
class SetE (e : Ev) (i : Nat) (f : outParam (Option D → Ev)) : Prop where
  is : ∀ x, e.set i x = f x
instance setE_0 {o : Option D} {e : Ev} : SetE (o :: e) 0 (fun x => x :: e) := ⟨fun _ => rfl⟩
instance setE_s {o : Option D} {e : Ev} {i : Nat} {f : Option D → Ev} [n : SetE e i f] : SetE (o :: e) (i + 1) (fun x => o :: f x) := ⟨fun x => by show o :: e.set i x = _; rw [n.is]⟩
class Nts (gs : FGs) (ds : List D) (e : Ev) (e' : outParam Ev) : Prop where
  is : gs ds e = some e'
instance nts_nil {e : Ev} : Nts nNil [] e e := ⟨rfl⟩
instance nts_cons {g : FG} {gs : FGs} {d : D} {ds : List D} {e e1 e2 : Ev} [s : Evt (g d e) e1] [t : Nts gs ds e1 e2] : Nts (nCons g gs) (d :: ds) e e2 := ⟨by unfold nCons; dsimp only; rw [s.is]; exact t.is⟩
class Lng {t : Type} (l : List t) (n : Nat) : Prop where
  is : l.length = n
instance lng_0 {t : Type} : Lng ([] : List t) 0 := ⟨rfl⟩
instance lng_s {t : Type} {x : t} {l : List t} {n : Nat} [s : Lng l n] : Lng (x :: l) (n + 1) := ⟨by rw [List.length_cons, s.is]⟩
section
variable {a b : Type} {Q : D → Hs → Prop} {X : XQ} {e e1 e2 : Ev} {hs h : Hs} {c m f : Str} {fn : List D → Hs → R D} {is : List Nat} {dds : List D} {fo fv : FE} {fa fk : FA} {P : Po} {x y z s g : D} {xs ds es : List D} {i j : Int} {p q : Bool} {d : D} {ks : List Key} {u : Tn}
instance evt_set {n : Nat} {t : Option D → Ev} [s : SetE e n t] : Evt (nSet n d e) (t (some d)) := ⟨by unfold nSet; rw [s.is]⟩
instance evt_tup {n : Nat} {gs : FGs} [l : Lng ds n] [s : Nts gs ds e e1] : Evt (nTup n gs (.tup ds) e) e1 := ⟨by unfold nTup; dsimp only; rw [if_pos l.is]; exact s.is⟩
instance evt_lst {n : Nat} {gs : FGs} [l : Lng ds n] [s : Nts gs ds e e1] : Evt (nTup n gs (.lst ds) e) e1 := ⟨by unfold nTup; dsimp only; rw [if_pos l.is]; exact s.is⟩
instance evt_itT : Evt (itOf h (.tup ds)) (nxL ds) := ⟨rfl⟩
instance evt_itL : Evt (itOf h (.lst ds)) (nxL ds) := ⟨rfl⟩
instance (priority := high) st_ent {Q : Nx → Prop} : Stp (∃ nx, enOf h [.tup ds] = some nx ∧ Q nx) (Q (nxL (enumL ds))) := ⟨fun q => ex_ent q⟩
instance (priority := high) st_enl {Q : Nx → Prop} : Stp (∃ nx, enOf h [.lst ds] = some nx ∧ Q nx) (Q (nxL (enumL ds))) := ⟨fun q => ex_enl q⟩
instance (priority := high) st_zpt {Q : Nx → Prop} : Stp (∃ nx, zpOf h [.tup ds, .tup es] = some nx ∧ Q nx) (Q (nxL (zipL ds es))) := ⟨fun q => ex_zpt q⟩
instance (priority := high) st_zpl {Q : Nx → Prop} : Stp (∃ nx, zpOf h [.lst ds, .lst es] = some nx ∧ Q nx) (Q (nxL (zipL ds es))) := ⟨fun q => ex_zpl q⟩
instance evt_ix_tup0 {d0 : D} : Evt (gIx h (.tup (d0 :: ds)) (.int 0)) d0 := ⟨ix_tup (atI_nat (by decide) rfl)⟩
instance evt_ix_tup1 {d0 d1 : D} : Evt (gIx h (.tup (d0 :: d1 :: ds)) (.int 1)) d1 := ⟨ix_tup (atI_nat (by decide) rfl)⟩
instance evt_ix_tup2 {d0 d1 d2 : D} : Evt (gIx h (.tup (d0 :: d1 :: d2 :: ds)) (.int 2)) d2 := ⟨ix_tup (atI_nat (by decide) rfl)⟩
instance evt_ix_tup3 {d0 d1 d2 d3 : D} : Evt (gIx h (.tup (d0 :: d1 :: d2 :: d3 :: ds)) (.int 3)) d3 := ⟨ix_tup (atI_nat (by decide) rfl)⟩
instance evt_ix_tup4 {d0 d1 d2 d3 d4 : D} : Evt (gIx h (.tup (d0 :: d1 :: d2 :: d3 :: d4 :: ds)) (.int 4)) d4 := ⟨ix_tup (atI_nat (by decide) rfl)⟩
instance evt_ix_tup5 {d0 d1 d2 d3 d4 d5 : D} : Evt (gIx h (.tup (d0 :: d1 :: d2 :: d3 :: d4 :: d5 :: ds)) (.int 5)) d5 := ⟨ix_tup (atI_nat (by decide) rfl)⟩
instance evt_ix_tup6 {d0 d1 d2 d3 d4 d5 d6 : D} : Evt (gIx h (.tup (d0 :: d1 :: d2 :: d3 :: d4 :: d5 :: d6 :: ds)) (.int 6)) d6 := ⟨ix_tup (atI_nat (by decide) rfl)⟩
instance evt_ix_lst0 {d0 : D} : Evt (gIx h (.lst (d0 :: ds)) (.int 0)) d0 := ⟨ix_lst (atI_nat (by decide) rfl)⟩
instance evt_ix_lst1 {d0 d1 : D} : Evt (gIx h (.lst (d0 :: d1 :: ds)) (.int 1)) d1 := ⟨ix_lst (atI_nat (by decide) rfl)⟩
instance evt_ix_lst2 {d0 d1 d2 : D} : Evt (gIx h (.lst (d0 :: d1 :: d2 :: ds)) (.int 2)) d2 := ⟨ix_lst (atI_nat (by decide) rfl)⟩
instance evt_ix_lst3 {d0 d1 d2 d3 : D} : Evt (gIx h (.lst (d0 :: d1 :: d2 :: d3 :: ds)) (.int 3)) d3 := ⟨ix_lst (atI_nat (by decide) rfl)⟩
instance evt_ix_lst4 {d0 d1 d2 d3 d4 : D} : Evt (gIx h (.lst (d0 :: d1 :: d2 :: d3 :: d4 :: ds)) (.int 4)) d4 := ⟨ix_lst (atI_nat (by decide) rfl)⟩
instance evt_ix_lst5 {d0 d1 d2 d3 d4 d5 : D} : Evt (gIx h (.lst (d0 :: d1 :: d2 :: d3 :: d4 :: d5 :: ds)) (.int 5)) d5 := ⟨ix_lst (atI_nat (by decide) rfl)⟩
instance evt_ix_lst6 {d0 d1 d2 d3 d4 d5 d6 : D} : Evt (gIx h (.lst (d0 :: d1 :: d2 :: d3 :: d4 :: d5 :: d6 :: ds)) (.int 6)) d6 := ⟨ix_lst (atI_nat (by decide) rfl)⟩
instance st_some {α : Type} {o : Option α} {x : α} {Q : α → Hs → Prop} [v : Evt o x] : Stp (Wp (R.ofO o h) Q X) (Q x h) := ⟨fun z => wp_some v.is z⟩
instance st_ex {α : Type} {o : Option α} {x : α} {Q : α → Prop} [v : Evt o x] : Stp (∃ y, o = some y ∧ Q y) (Q x) := ⟨fun z => ⟨x, v.is, z⟩⟩
instance st_xb {b : Bool} {Q : Bool → Prop} : Stp (∃ c, D.bl b = .bl c ∧ Q c) (Q b) := ⟨fun z => ⟨b, rfl, z⟩⟩
instance st_xi {Q : Int → Prop} : Stp (∃ j, D.int i = .int j ∧ Q j) (Q i) := ⟨fun z => ⟨i, rfl, z⟩⟩
instance st_xp {Q : D → D → Prop} : Stp (∃ d1 d2, [x, y] = [d1, d2] ∧ Q d1 d2) (Q x y) := ⟨fun z => ⟨x, y, rfl, z⟩⟩
instance st_name {i : Nat} [n : Nth e i d] : Stp (Wp (eName i e hs) Q X) (Q d hs) := ⟨fun z => wp_name n.is z⟩
instance st_ws_set {i : Nat} {f : FE} {t : Option D → Ev} [s : SetE e i t] : Stp (Ws (sSet i f e hs) P) (Wp (f e hs) (fun d h => P.nx (t (some d)) h) (fun c fs h => P.ex c fs e h)) := ⟨fun z => ws_set (by simp only [s.is]; exact z)⟩
instance st_ws_setC {i : Nat} {f : FL} {t : Option D → Ev} [s : SetE e i t] : Stp (Ws (sSetC i false f e hs) P) (Wp (f e hs) (fun ds h => P.nx (t (some (.lst ds))) h) (fun c fs h => P.ex c fs e h)) := ⟨fun z => ws_setC (by simp only [s.is]; exact z)⟩
instance st_ws_setCM {i : Nat} {f : FL} {t : Option D → Ev} [s : SetE e i t] : Stp (Ws (sSetC i true f e hs) P) (Wp (f e hs) (fun ds h => P.nx (t (some (.ref h.length))) (h ++ [.lst ds])) (fun c fs h => P.ex c fs e h)) := ⟨fun z => ws_setCM (by simp only [s.is]; exact z)⟩
instance st_ws_par {i j : Nat} {f : FA} : Stp (Ws (sPar i j f e hs) P) (Wp (f e hs) (fun ds h => ∃ d1 d2, ds = [d1, d2] ∧ P.nx ((e.set i (some d1)).set j (some d2)) h) (fun c fs h => P.ex c fs e h)) := ⟨fun z => ws_par z⟩
instance st_wp_c {d : D} : Stp (Wp (eC d e hs) Q X) (Q d hs) := ⟨fun z => wp_c z⟩
instance st_wp_bin {g : Hs → D → D → Option D} {f1 f2 : FE} : Stp (Wp (eBin g f1 f2 e hs) Q X) (Wp (f1 e hs) (fun x h1 => Wp (f2 e h1) (fun y h2 => Wp (R.ofO (g h2 x y) h2) Q X) X) X) := ⟨fun z => wp_bin z⟩
instance st_wp_acons {f : FE} {g : FA} {Q : List D → Hs → Prop} : Stp (Wp (aCons f g e hs) Q X) (Wp (f e hs) (fun d h => Wp (g e h) (fun ds h => Q (d :: ds) h) X) X) := ⟨fun z => wp_acons z⟩
instance st_wp_anil {Q : List D → Hs → Prop} : Stp (Wp (aNil e hs) Q X) (Q [] hs) := ⟨fun z => wp_anil z⟩
instance st_wp_call {g : Hs → List D → Option D} {f : FA} : Stp (Wp (eCall g f e hs) Q X) (Wp (f e hs) (fun ds h => Wp (R.ofO (g h ds) h) Q X) X) := ⟨fun z => wp_call z⟩
instance st_wp_fn {fn : List D → Hs → R D} {is : List Nat} {dds : List D} {fa : FA} : Stp (Wp (eFn fn is dds fa e hs) Q X) (Wp (fa e hs) (fun ds h => Wp (fn (selL is ds [] dds) h) Q X) X) := ⟨fun z => wp_fn z⟩
instance st_wp_fnK {fn : List D → Hs → R D} {is : List Nat} {dds : List D} {fa fk : FA} : Stp (Wp (eFnK fn is dds fa fk e hs) Q X) (Wp (fa e hs) (fun ds h => Wp (fk e h) (fun zs h => Wp (fn (selL is ds zs dds) h) Q X) X) X) := ⟨fun z => wp_fnK z⟩
instance st_wp_ev {f : FL} : Stp (Wp (eV f e hs) Q X) (Wp (f e hs) (fun ds h => Q (.lst ds) h) X) := ⟨fun z => wp_ev z⟩
instance st_wp_em {f : FL} : Stp (Wp (eM f e hs) Q X) (Wp (f e hs) (fun ds h => Q (.ref h.length) (h ++ [.lst ds])) X) := ⟨fun z => wp_em z⟩
instance st_wp_tup {f : FA} : Stp (Wp (eTup f e hs) Q X) (Wp (f e hs) (fun ds h => Q (.tup ds) h) X) := ⟨fun z => wp_tup z⟩
instance st_wp_eb {f : FE} {Q : Bool → Hs → Prop} : Stp (Wp (eB f e hs) Q X) (Wp (f e hs) (fun d h => ∃ c, d = .bl c ∧ Q c h) X) := ⟨fun z => wp_eb z⟩
instance st_wp_et {f : FE} {Q : Bool → Hs → Prop} : Stp (Wp (eT f e hs) Q X) (Wp (f e hs) (fun d h => Wp (R.ofO (tru h d) h) Q X) X) := ⟨fun z => wp_et z⟩
instance st_wp_un {g : Hs → D → Option D} {f1 : FE} : Stp (Wp (eUn g f1 e hs) Q X) (Wp (f1 e hs) (fun x h1 => Wp (R.ofO (g h1 x) h1) Q X) X) := ⟨fun z => wp_un z⟩
instance st_wp_chain {g g' : Hs → D → D → Option D} {f1 f2 f3 : FE} : Stp (Wp (eChain g g' f1 f2 f3 e hs) Q X) (Wp (f1 e hs) (fun x h1 => Wp (f2 e h1) (fun y h2 => Wp (R.ofO (g h2 x y) h2) (fun k h3 => ∃ c, k = .bl c ∧ (c = true → Wp (f3 e h3) (fun z h4 => Wp (R.ofO (g' h4 y z) h4) Q X) X) ∧ (c = false → Q (.bl false) h3)) X) X) X) := ⟨fun z => wp_chain z⟩
instance st_wp_and {f g : FE} : Stp (Wp (eAnd f g e hs) Q X) (Wp (f e hs) (fun d h => ∃ c, d = .bl c ∧ (c = true → Wp (g e h) Q X) ∧ (c = false → Q (.bl false) h)) X) := ⟨fun z => wp_and z⟩
instance st_wp_or {f g : FE} : Stp (Wp (eOr f g e hs) Q X) (Wp (f e hs) (fun d h => ∃ c, d = .bl c ∧ (c = true → Q (.bl true) h) ∧ (c = false → Wp (g e h) Q X)) X) := ⟨fun z => wp_or z⟩
instance st_wp_not {f : FE} : Stp (Wp (eNot f e hs) Q X) (Wp (f e hs) (fun d h => ∃ c, d = .bl c ∧ Q (.bl (!c)) h) X) := ⟨fun z => wp_not z⟩
instance st_wp_andF {f g : FT} {Q : Bool → Hs → Prop} : Stp (Wp (tAndF f g e hs) Q X) (Wp (f e hs) (fun c h => (c = true → Wp (g e h) Q X) ∧ (c = false → Q false h)) X) := ⟨fun z => wp_andF z⟩
instance st_wp_orF {f g : FT} {Q : Bool → Hs → Prop} : Stp (Wp (tOrF f g e hs) Q X) (Wp (f e hs) (fun c h => (c = true → Q true h) ∧ (c = false → Wp (g e h) Q X)) X) := ⟨fun z => wp_orF z⟩
instance st_wp_notF {f : FT} {Q : Bool → Hs → Prop} : Stp (Wp (tNotF f e hs) Q X) (Wp (f e hs) (fun c h => Q (!c) h) X) := ⟨fun z => wp_notF z⟩
instance st_wp_yes {Q : Bool → Hs → Prop} : Stp (Wp (tYesF e hs) Q X) (Q true hs) := ⟨fun z => wp_yes z⟩
instance st_wp_if {t : FT} {f g : FE} : Stp (Wp (eIf t f g e hs) Q X) (Wp (t e hs) (fun c h => (c = true → Wp (f e h) Q X) ∧ (c = false → Wp (g e h) Q X)) X) := ⟨fun z => wp_if z⟩
instance st_wp_sl {f : FE} {lo hi : FO} : Stp (Wp (eSl f lo hi e hs) Q X) (Wp (f e hs) (fun d h => Wp (lo e h) (fun l h => Wp (hi e h) (fun u h => Wp (R.ofO (gSl h d l u) h) Q X) X) X) X) := ⟨fun z => wp_sl z⟩
instance st_wp_onone {Q : Option Int → Hs → Prop} : Stp (Wp (oNone e hs) Q X) (Q none hs) := ⟨fun z => wp_onone z⟩
instance st_wp_osome {f : FE} {Q : Option Int → Hs → Prop} : Stp (Wp (oSome f e hs) Q X) (Wp (f e hs) (fun d h => ∃ i, d = .int i ∧ Q (some i) h) X) := ⟨fun z => wp_osome z⟩
instance st_wp_rev {f : FE} {Q : List D → Hs → Prop} : Stp (Wp (lRev f e hs) Q X) (Wp (f e hs) (fun d h => Wp (R.ofO ((rdOf h d).map List.reverse) h) Q X) X) := ⟨fun z => wp_rev z⟩
instance st_wp_list {f : FE} {Q : List D → Hs → Prop} : Stp (Wp (lList f e hs) Q X) (Wp (f e hs) (fun d h => Wp (R.ofO (seqOf h d) h) Q X) X) := ⟨fun z => wp_list z⟩
instance st_wp_mt {c : Hs → D → Bool} {g : Hs → D → List D → Option (D × Hs)} {f1 : FE} {f : FA} : Stp (Wp (eMt c g f1 f e hs) Q X) (Wp (f1 e hs) (fun d h => c h d = true ∧ Wp (f e h) (fun ds h => Wp (R.ofP (g h d ds)) Q X) X) X) := ⟨fun z => wp_mt z⟩
instance st_wp_any {f : FE} {Q : Nx → Hs → Prop} : Stp (Wp (iAny f e hs) Q X) (Wp (f e hs) (fun d h => ∃ nx, itOf h d = some nx ∧ Q nx h) X) := ⟨fun z => wp_any z⟩
instance st_wp_r1 {f : FA} {Q : Nx → Hs → Prop} : Stp (Wp (iR1 f e hs) Q X) (Wp (f e hs) (fun ds h => ∃ j, ds = [.int j] ∧ okR j = true ∧ Q (nxN 0 j.toNat) h) X) := ⟨fun z => wp_r1 z⟩
instance st_wp_r2 {f : FA} {Q : Nx → Hs → Prop} : Stp (Wp (iR2 f e hs) Q X) (Wp (f e hs) (fun ds h => ∃ i j, ds = [.int i, .int j] ∧ okR i = true ∧ okR j = true ∧ Q (nxN i (j - i).toNat) h) X) := ⟨fun z => wp_r2 z⟩
instance st_wp_d0t {e : Ev} {h : Hs} {Q : D → Hs → Prop} {X : XQ} : Stp (Wp (eD0T e h) Q X) (Q (.ref h.length) (h ++ [.dt []])) := ⟨fun z => wp_d0t z⟩
instance st_wp_d0k {e : Ev} {h : Hs} {Q : D → Hs → Prop} {X : XQ} : Stp (Wp (eD0K e h) Q X) (Q (.ref h.length) (h ++ [.dk []])) := ⟨fun z => wp_d0k z⟩
instance st_wp_d0 {e : Ev} {h : Hs} {Q : D → Hs → Prop} {X : XQ} : Stp (Wp (eD0 e h) Q X) (Q (.dct [] []) h) := ⟨fun z => wp_d0 z⟩
instance st_wp_valsT {f : FE} {e : Ev} {h : Hs} {Q : List D → Hs → Prop} {X : XQ} : Stp (Wp (lValsT f e h) Q X) (Wp (f e h) (fun d h => ∃ n kvs, d = .ref n ∧ h[n]? = some (.dt kvs) ∧ Q (kvs.map (·.2)) h) X) := ⟨fun z => wp_valsT z⟩
instance st_wp_d1 {k : Key} {f : FE} : Stp (Wp (eD1 k f e hs) Q X) (Wp (f e hs) (fun d h => Q (.dct [k] [d]) h) X) := ⟨fun z => wp_d1 z⟩
instance st_wp_lAdd {f1 f2 : FE} {Q : List D → Hs → Prop} : Stp (Wp (lAdd f1 f2 e h) Q X) (Wp (f1 e h) (fun x h1 => Wp (f2 e h1) (fun y h2 => Wp (R.ofO (lstOf h2 x) h2) (fun xs h3 => Wp (R.ofO (lstOf h3 y) h3) (fun ys h4 => (xs.length ≤ 50000 ∧ ys.length ≤ 50000) ∧ Q (xs ++ ys) h4) X) X) X) X) := ⟨fun z => wp_lAdd z⟩
instance st_wp_iOf {g : Hs → List D → Option Nx} {f : FA} {Q : Nx → Hs → Prop} : Stp (Wp (iOf g f e h) Q X) (Wp (f e h) (fun ds h => ∃ nx, g h ds = some nx ∧ Q nx h) X) := ⟨fun z => wp_iOf z⟩
instance st_wp_mk  : Stp (Wp (eMk c fn is dds fa fk e h) Q X) (Wp (fa e h) (fun ds h => Wp (fk e h) (fun zs h => Wp (fn (selL is (.ref h.length :: ds) zs dds) (h ++ [.ins c []])) (fun d h' => d = .non ∧ Q (.ref h.length) h') X) X) X) := ⟨fun z => wp_mk z⟩
instance st_wp_mth  : Stp (Wp (eMth c m fn is dds fo fa fk e h) Q X) (Wp (fo e h) (fun o h => ∃ kvs, insOf h o = some (c, kvs) ∧ kvs.lookup m = none ∧ Wp (fa e h) (fun ds h => Wp (fk e h) (fun zs h => Wp (fn (selL is (o :: ds) zs dds) h) Q X) X) X) X) := ⟨fun z => wp_mth z⟩
instance st_wp_eown {g : Hs → List D → Option (D × Hs)} : Stp (Wp (eOwn g fa e h) Q X) (Wp (fa e h) (fun ds h => Wp (R.ofP (g h ds)) Q X) X) := ⟨fun z => wp_eown z⟩
instance st_wp_js1 {acc : Str} {f : FE} {fs : List FE} : Stp (Wp (eJs (f :: fs) acc e h) Q X) (Wp (f e h) (fun d h => ∃ y, d = .str y ∧ (acc ++ y).length ≤ sizeLine ∧ Wp (eJs fs (acc ++ y) e h) Q X) X) := ⟨fun z => wp_js1 z⟩
instance st_wp_js0 {acc : Str} : Stp (Wp (eJs [] acc e h) Q X) (Q (.str acc) h) := ⟨fun z => wp_js0 z⟩
instance st_wp_disp {g : FPs} {Q : D → Hs → Prop} : Stp (Wp (eDisp g e hs) Q X) (Wp (g e hs) (fun l h => ∃ m, dispD l = some m ∧ Q (.dct (m.map (·.1)) (m.map (·.2))) h) X) := ⟨fun z => wp_disp z⟩
instance st_wp_pCons {fk fv : FE} {g : FPs} {Q : List (D × D) → Hs → Prop} : Stp (Wp (pCons fk fv g e hs) Q X) (Wp (fk e hs) (fun k h => Wp (fv e h) (fun v h => Wp (g e h) (fun l h => Q ((k, v) :: l) h) X) X) X) := ⟨fun z => wp_pCons z⟩
instance st_wp_pNil {Q : List (D × D) → Hs → Prop} : Stp (Wp (pNil e hs) Q X) (Q [] hs) := ⟨fun z => wp_pNil z⟩
instance st_wp_isO2 {T : List (Str × Bool)} {f : FE} : Stp (Wp (eIsO2 T f e hs) Q X) (Wp (f e hs) (fun d h => ∃ b, isO2 T h d = some b ∧ Q (.bl b) h) X) := ⟨fun z => wp_isO2 z⟩
instance st_wp_eq_sb {h : Hs} {p : Bool} {Q : D → Hs → Prop} {X : XQ} : Stp (Wp (R.ofO (gEq h (.str (sB p)) (.str (sB p))) h) Q X) (Q (.bl true) h) := ⟨fun z => wp_eq_sb z⟩
instance st_wp_ne_sb {h : Hs} {p : Bool} {Q : D → Hs → Prop} {X : XQ} : Stp (Wp (R.ofO (gNe h (.str (sB p)) (.str (sB p))) h) Q X) (Q (.bl false) h) := ⟨fun z => wp_ne_sb z⟩
instance st_ws_seq {f g : FS} : Stp (Ws (sSeq f g e hs) P) (Ws (f e hs) (P.wnx fun e' h' => Ws (g e' h') P)) := ⟨fun z => ws_seq z⟩
instance st_ws_if {t : FT} {f g : FS} : Stp (Ws (sIf t f g e hs) P) (Wp (t e hs) (fun c h => (c = true → Ws (f e h) P) ∧ (c = false → Ws (g e h) P)) (fun c fs h => P.ex c fs e h)) := ⟨fun z => ws_if z⟩
instance st_ws_ret {f : FE} : Stp (Ws (sRet f e hs) P) (Wp (f e hs) (fun d h => P.rt d h) (fun c fs h => P.ex c fs e h)) := ⟨fun z => ws_ret z⟩
instance st_ws_retN  : Stp (Ws (sRetN e hs) P) (P.rt .non hs) := ⟨fun z => ws_retN z⟩
instance st_ws_drop {f : FE} : Stp (Ws (sDrop f e hs) P) (Wp (f e hs) (fun _ h => P.nx e h) (fun c fs h => P.ex c fs e h)) := ⟨fun z => ws_drop z⟩
instance st_ws_skip  : Stp (Ws (sSkip e hs) P) (P.nx e hs) := ⟨fun z => ws_skip z⟩
instance st_ws_asg {g : FG} {f : FE} : Stp (Ws (sAsg g f e hs) P) (Wp (f e hs) (fun d h => ∃ e', g d e = some e' ∧ P.nx e' h) (fun c fs h => P.ex c fs e h)) := ⟨fun z => ws_asg z⟩
instance st_ws_sub {g : Hs → D → D → D → Option Hs} {fv fo fi : FE} : Stp (Ws (sSub g fv fo fi e hs) P) (Wp (fv e hs) (fun v h => Wp (fo e h) (fun o h => Wp (fi e h) (fun i h => ∃ h', g h o i v = some h' ∧ P.nx e h') (fun c fs h => P.ex c fs e h)) (fun c fs h => P.ex c fs e h)) (fun c fs h => P.ex c fs e h)) := ⟨fun z => ws_sub z⟩
instance st_ws_fld {cs : List Str} : Stp (Ws (sFld cs f fv fo e h) P) (Wp (fv e h) (fun v h => Wp (fo e h) (fun o h => ∃ n c kvs, o = .ref n ∧ h[n]? = some (.ins c kvs) ∧ cs.contains c = true ∧ kvs.length < 1000 ∧ P.nx e (h.set n (.ins c (putD f v kvs)))) (fun c fs h => P.ex c fs e h)) (fun c fs h => P.ex c fs e h)) := ⟨fun z => ws_fld z⟩
instance (priority := high) st_eq_same {x : Str} : Evt (gEq h (.str x) (.str x)) ((.bl true)) := ⟨eq_same⟩
instance (priority := high) st_ne_same {x : Str} : Evt (gNe h (.str x) (.str x)) ((.bl false)) := ⟨ne_same⟩
instance st_add_i  : Evt (gAdd h (.int i) (.int j)) ((.int (i + j))) := ⟨add_i⟩
instance st_sub_i  : Evt (gSub h (.int i) (.int j)) ((.int (i - j))) := ⟨sub_i⟩
instance st_lt_i  : Evt (gLt h (.int i) (.int j)) ((.bl (decide (i < j)))) := ⟨lt_i⟩
instance st_le_i  : Evt (gLe h (.int i) (.int j)) ((.bl (decide (i ≤ j)))) := ⟨le_i⟩
instance st_gt_i  : Evt (gGt h (.int i) (.int j)) ((.bl (decide (j < i)))) := ⟨gt_i⟩
instance st_ge_i  : Evt (gGe h (.int i) (.int j)) ((.bl (decide (j ≤ i)))) := ⟨ge_i⟩
instance st_eq_i  : Evt (gEq h (.int i) (.int j)) ((.bl (i == j))) := ⟨eq_i⟩
instance st_ne_i  : Evt (gNe h (.int i) (.int j)) ((.bl (!(i == j)))) := ⟨ne_i⟩
instance st_eq_b  : Evt (gEq h (.bl p) (.bl q)) ((.bl (p == q))) := ⟨eq_b⟩
instance st_max_i  : Evt (gMax2 h [.int i, .int j]) ((.int (if j > i then j else i))) := ⟨max_i⟩
instance st_min_i  : Evt (gMin2 h [.int i, .int j]) ((.int (if j < i then j else i))) := ⟨min_i⟩
instance st_tup_tup  : Evt (gTuple h [.tup xs]) ((.tup xs)) := ⟨tup_tup⟩
instance st_tup_lst  : Evt (gTuple h [.lst xs]) ((.tup xs)) := ⟨tup_lst⟩
instance st_len_tup  : Evt (gLen h [.tup xs]) ((.int xs.length)) := ⟨len_tup⟩
instance st_len_lst  : Evt (gLen h [.lst xs]) ((.int xs.length)) := ⟨len_lst⟩
instance st_sl_tup {lo hi : Option Int} : Evt (gSl h (.tup xs) lo hi) ((.tup (cutX xs lo hi))) := ⟨sl_tup⟩
instance st_sl_lst {lo hi : Option Int} : Evt (gSl h (.lst xs) lo hi) ((.lst (cutX xs lo hi))) := ⟨sl_lst⟩
instance st_tru_b  : Evt (tru h (.bl p)) (p) := ⟨tru_b⟩
instance st_repr_b  : Evt (gRepr h [.bl p]) ((.str (sB p))) := ⟨repr_b⟩
instance st_seq_lst {h : Hs} {ds : List D} : Evt (seqOf h (.lst ds)) (ds) := ⟨seq_lst⟩
instance st_seq_tup {h : Hs} {ds : List D} : Evt (seqOf h (.tup ds)) (ds) := ⟨seq_tup⟩
instance st_eq_s {x y : Str} : Evt (gEq h (.str x) (.str y)) ((.bl (x == y))) := ⟨eq_s⟩
instance st_ne_b {h : Hs} {p q : Bool} : Evt (gNe h (.bl p) (.bl q)) ((.bl (!(p == q)))) := ⟨ne_b⟩
instance st_ne_s {x y : Str} : Evt (gNe h (.str x) (.str y)) ((.bl (!(x == y)))) := ⟨ne_s⟩
instance st_reprA_b  : Evt (gReprA h [.bl p]) ((.str (sB p))) := ⟨reprA_b⟩
instance st_isi_non  : Evt (gIsi h [.non, .ty u]) ((.bl false)) := ⟨isi_non⟩
instance st_isi_bl {b : Bool} : Evt (gIsi h [.bl b, .ty u]) ((.bl (isTn .bool u))) := ⟨isi_bl⟩
instance st_isi_int  : Evt (gIsi h [.int i, .ty u]) ((.bl (isTn .int u))) := ⟨isi_int⟩
instance st_isi_str {z : Str} : Evt (gIsi h [.str z, .ty u]) ((.bl (isTn .str u))) := ⟨isi_str⟩
instance st_isi_tup  : Evt (gIsi h [.tup ds, .ty u]) ((.bl (isTn .tup u))) := ⟨isi_tup⟩
instance st_isi_lst  : Evt (gIsi h [.lst ds, .ty u]) ((.bl (isTn .lst u))) := ⟨isi_lst⟩
instance st_isi_dct  : Evt (gIsi h [.dct ks ds, .ty u]) ((.bl (isTn .dct u))) := ⟨isi_dct⟩
instance st_rev_tup  : Evt (gRev h (.tup xs)) ((.tup xs.reverse)) := ⟨rev_tup⟩
instance st_rev_lst  : Evt (gRev h (.lst xs)) ((.lst xs.reverse)) := ⟨rev_lst⟩
instance st_is_bl {p q : Bool} : Evt (gIs h (.bl p) (.bl q)) ((.bl (decide (p = q)))) := ⟨is_bl⟩
instance st_isN_bl {p q : Bool} : Evt (gIsN h (.bl p) (.bl q)) ((.bl (!decide (p = q)))) := ⟨isN_bl⟩
instance st_neg_i  : Evt (gNeg h (.int i)) ((.int (-i))) := ⟨neg_i⟩
instance st_pow6 {h : Hs} : Evt (gPow h (.int 10) (.int 6)) ((.int 1000000)) := ⟨pow6⟩
instance st_eqT_tup {h : Hs} {ds : List D} : Evt (gEqT h (.tup ds) (.tup [])) ((.bl ds.isEmpty)) := ⟨eqT_tup⟩
instance st_lst_lst  : Evt (lstOf h (.lst xs)) (xs) := ⟨lst_lst⟩
instance st_pow39  : Evt (gPow h (.int 10) (.int 39)) ((.int 1000000000000000000000000000000000000000)) := ⟨pow39⟩
instance st_pow30  : Evt (gPow h (.int 10) (.int 30)) ((.int 1000000000000000000000000000000)) := ⟨pow30⟩
instance st_pow40  : Evt (gPow h (.int 10) (.int 40)) ((.int 10000000000000000000000000000000000000000)) := ⟨pow40⟩
instance st_tru_non  : Evt (tru h .non) (false) := ⟨tru_non⟩
instance st_tru_int  : Evt (tru h (.int i)) ((i != 0)) := ⟨tru_int⟩
instance st_tru_tup  : Evt (tru h (.tup xs)) ((!xs.isEmpty)) := ⟨tru_tup⟩
instance st_neT_tup {h : Hs} {ds : List D} : Evt (gNeT h (.tup ds) (.tup [])) ((.bl (!ds.isEmpty))) := ⟨neT_tup⟩
instance st_sk_zones  : Evt (gFld ["Skin"] "zones" h (skD z s g)) (z) := ⟨sk_zones⟩
instance st_sk_stretch  : Evt (gFld ["Skin"] "stretch" h (skD z s g)) (s) := ⟨sk_stretch⟩
instance st_sk_grade  : Evt (gFld ["Skin"] "grade" h (skD z s g)) (g) := ⟨sk_grade⟩
instance st_neL_lst {h : Hs} {ds : List D} : Evt (gNeL h (.lst ds) (.lst [])) ((.bl (!ds.isEmpty))) := ⟨neL_lst⟩
instance st_int_bl {b : Bool} : Evt (gInt h [.bl b]) ((.int (if b then 1 else 0))) := ⟨int_bl⟩
instance (priority := high) st_ne_ss {z : Str} : Evt (gNe h (.str z) (.str z)) ((.bl false)) := ⟨ne_ss⟩
end
/-! # G78: gloves by their parts; their order; Lots made; who matches whom -/
noncomputable section
end
/-- a glove by its parts -/
structure Gv where
  m : Nat
  n : Nat
  sd : List Nat
  st : List Nat
  lo : Int
  hi : Int
  gr : Int
def Gv.k (g : Gv) : List Key := [.inl g.m, .inl g.n, .inr (T g.sd), .inr (T g.st), .inl g.lo, .inl g.hi, .inl g.gr]
abbrev Gv.d (g : Gv) : D := .tup [.int g.m, .int g.n, .str (T g.sd), .str (T g.st), .int g.lo, .int g.hi, .int g.gr]
theorem Gv.tup (g : Gv) : tupK g.k = g.d := rfl
structure Gv.Ok (g : Gv) : Prop where
  m1 : g.m ≤ 999999
  n1 : g.n ≤ 99
  sd : IsSide g.sd
  st : NmT g.st
  lo0 : 0 ≤ g.lo
  lh : g.lo ≤ g.hi
  hi1 : g.hi ≤ 300
  gr0 : 0 ≤ g.gr
  gr1 : g.gr ≤ 10
section
variable {L : Nat} {K : Hs → Prop} {h : Hs} {Q : D → Hs → Prop} {X : XQ} {d : D} {g g' : Gv} {gs gs' : List Gv}
theorem num_in {n : Int} (a : -1000000 ≤ n) (b : n ≤ 1000000) : n.natAbs < 10 ^ 60 := by
  have : n.natAbs ≤ 1000000 := by omega
  exact Nat.lt_of_le_of_lt this (by decide)
theorem side_len {sd : List Nat} (h : IsSide sd) : sd.length = 1 ∧ Lw sd := by
  rcases h with rfl | rfl
  · exact ⟨rfl, fun x hx => by rw [List.mem_singleton.mp hx]; exact ⟨by decide, by decide⟩⟩
  · exact ⟨rfl, fun x hx => by rw [List.mem_singleton.mp hx]; exact ⟨by decide, by decide⟩⟩
theorem Gv.Ok.sm (o : g.Ok) : Sm 2 20 g.d := by
  have ⟨s1, s2⟩ := side_len o.sd
  have := o.m1; have := o.n1; have := o.lo0; have := o.lh; have := o.hi1; have := o.gr0; have := o.gr1
  exact (sm_tup (k := 1) (sms_cons (n := 0) (sm_int (num_in (by omega) (by omega))) (sms_cons (n := 0) (sm_int (num_in (by omega) (by omega))) (sms_cons (n := 1) (sm_str (lw_ok s2) (by rw [T_len]; omega)) (sms_cons (n := 8) (sm_str (lw_ok o.st.2.2) (by rw [T_len]; exact o.st.2.1))
    (sms_cons (n := 0) (sm_int (num_in (by omega) (by omega))) (sms_cons (n := 0) (sm_int (num_in (by omega) (by omega))) (sms_cons (n := 0) (sm_int (num_in (by omega) (by omega))) sms_nil)))))))).mono (by decide) (by decide)
theorem Gv.pt : pt g.d = true := rfl
/-! ### sorted -/
/-! ### Lots -/
/-! ### who matches whom -/
end
/-! # G79: the most pairs that match: searches, what is taken, what is come to -/
noncomputable section
end
end G
namespace MT
/-! ### taken: which right one goes with which left one -/
abbrev Tk := List (Nat × Nat)
def lk (T : Tk) (r : Nat) : Option Nat := (T.find? fun p => decide (p.1 = r)).map (·.2)
def up (T : Tk) (r l : Nat) : Tk := T.map fun p => if p.1 = r then (p.1, l) else p
def pt (T : Tk) (r l : Nat) : Tk := if (T.any fun p => decide (p.1 = r)) = true then up T r l else T ++ [(r, l)]
/-! ### a search -/
section
end
end MT
namespace MT
open PySem PySem.Spec L2 G
section
variable {h : Hs} {Q : D → Hs → Prop} {X : XQ} {T : Tk} {S : List Nat} {r l : Nat} {N : List (List Nat)} {R : Nat}
/-! ### as things of the heap -/
def rowD (ks : List Nat) : D := .lst (ks.map fun k => .int (k : Nat))
def nD (N : List (List Nat)) : D := .lst (N.map rowD)
/-- how many of the taken ones are seen -/
def cnt (T : Tk) (S : List Nat) : Nat := (T.filter fun p => decide (p.1 ∈ S)).length
end
section
end
section
variable {h : Hs} {Q : D → Hs → Prop} {X : XQ} {T : Tk} {S F W : List Nat} {r l : Nat} {N : List (List Nat)} {R : Nat}
def nI (x : Nat) : D := .int (x : Nat)
end
end MT

/-! # G80: the program's matched, of a Lot -/
namespace G
open PySem PySem.Spec PyProof.Rows L2
section
variable {e : Ev} {hs : Hs} {X : XQ} {α : Type}
/-- a comprehension over things of one kind: those of which p is true, each as F says -/
theorem wp_cga {f : FI} {g : FG} {t : FT} {el : FE} {vs : List Nat} {Q : List D → Hs → Prop} (i : α → D) (p : α → Bool) (F : α → D) (h : Wp (f e hs) (fun nx h => ∃ xs : List α, nx = nxL (xs.map i) ∧ xs.length ≤ 100000 ∧
    (∀ a ∈ xs, ∃ e', g (i a) (wipeE e vs) = some e' ∧ Wp (t e' h) (fun c h1 => h1 = h ∧ c = p a ∧ (c = true → Wp (el e' h) (fun y h' => y = F a ∧ h' = h) nX)) nX) ∧ Q ((xs.filter p).map F) h) X) : Wp (lComp f g t el vs e hs) Q X := by
  refine wp_comp (wp_mono h (fun nx h' q => ?_) fun _ _ _ x => x)
  obtain ⟨xs, rfl, hl, hd, q⟩ := q
  refine ⟨xs.length, fun i acc h => h = h' ∧ acc = ((xs.take i).filter p).map F, hl, ⟨rfl, rfl⟩, fun i acc h hi ⟨e1, e2⟩ => ?_, fun acc h ⟨e1, e2⟩ => ?_⟩
  · subst e1 e2
    obtain ⟨e', h1, h2⟩ := hd xs[i] (List.getElem_mem hi)
    refine ⟨_, e', ?_, h1, wp_mono h2 (fun c h3 ⟨z1, z2, z3⟩ => ?_) fun _ _ _ x => x⟩
    · unfold nxL
      rw [List.getElem?_map, List.getElem?_eq_getElem hi]; rfl
    subst z1
    have ht : xs.take (i + 1) = xs.take i ++ [xs[i]] := List.take_succ_eq_append_getElem hi
    have hl2 : (((xs.take i).filter p).map F).length ≤ i := by
      rw [List.length_map]
      exact Nat.le_trans (List.length_filter_le _ _) (by rw [List.length_take]; omega)
    refine ⟨fun hc => ⟨by rw [sizeLine_eq]; omega, wp_mono (z3 hc) (fun y h4 ⟨r, z4⟩ => ⟨z4, ?_⟩) fun _ _ _ x => x⟩, fun hc => ⟨rfl, ?_⟩⟩
    · rw [ht, List.filter_append, List.map_append, r]
      congr 1
      rw [List.filter_cons_of_pos (by rw [← z2]; exact hc)]; rfl
    · rw [ht, List.filter_append, List.filter_cons_of_neg (by rw [← z2, hc]; exact Bool.false_ne_true), List.filter_nil, List.append_nil]
  · subst e1 e2
    rw [List.take_length]
    exact ⟨by unfold nxL; rw [List.getElem?_eq_none (by rw [List.length_map]; exact Nat.le_refl _)], q⟩
theorem wp_cma {f : FI} {g : FG} {el : FE} {vs : List Nat} {Q : List D → Hs → Prop} (i : α → D) (F : α → D) (h : Wp (f e hs) (fun nx h => ∃ xs : List α, nx = nxL (xs.map i) ∧ xs.length ≤ 100000 ∧
    (∀ a ∈ xs, ∃ e', g (i a) (wipeE e vs) = some e' ∧ Wp (el e' h) (fun y h' => y = F a ∧ h' = h) nX) ∧ Q (xs.map F) h) X) : Wp (lComp f g tYesF el vs e hs) Q X := by
  refine wp_cga i (fun _ => true) F (wp_mono h (fun nx h' q => ?_) fun _ _ _ x => x)
  obtain ⟨xs, rfl, hl, hd, q⟩ := q
  refine ⟨xs, rfl, hl, fun a ha => ?_, by rw [List.filter_eq_self.mpr fun _ _ => rfl]; exact q⟩
  obtain ⟨e', h1, h2⟩ := hd a ha
  exact ⟨e', h1, wp_yes ⟨rfl, rfl, fun _ => h2⟩⟩
end
/-! ### both sides -/
section
/-! ### pairs, sorted -/
end
/-! # G81: gloves drawn into dicts by their idents; gloves of unlike idents -/
/-! # G82: the most pairs: pairs and bars -/
/-! ### what the searches leave -/
/-! ### by all choices -/
/-! ### sides exchanged, one glove fewer -/
/-! # G83: x in a tuple of data of any depth -/
end G
namespace PySem.SeqAt
open PySem.AutoSeq1 (wpAny_loadPart')
open MeetsSeq
end PySem.SeqAt
namespace G
open PySem PySem.Spec PyProof.Rows L2
section
end
section
end
end G

/-! # G84: sets of things of any kind that are hashed and compared quietly (tuples of ints and texts ..): the tables of sets of up to 4000 things; added one by one, made of lists -/
namespace Sg
open PySem PySem.Spec PyProof.Rows L2
theorem pow5 : ∀ s : Nat, ∃ q, 5 ^ (2 ^ s) = 1 + 2 ^ (s + 2) * (2 * q + 1)
  | 0 => ⟨0, rfl⟩
  | s + 1 => by
    obtain ⟨q, e⟩ := pow5 s
    refine ⟨q + 2 ^ s * (2 * q + 1) * (2 * q + 1), ?_⟩
    rw [Nat.pow_succ 2 s, Nat.pow_mul, e]
    have h : 2 ^ (s + 1 + 2) = 8 * 2 ^ s := by rw [Nat.pow_add, Nat.pow_add]; omega
    have h2 : 2 ^ (s + 2) = 4 * 2 ^ s := by rw [Nat.pow_add]; omega
    rw [h, h2]
    generalize 2 ^ s = t
    grind
theorem podd (s q : Nat) : ∀ p, ∃ r, (1 + 2 ^ (s + 2) * (2 * q + 1)) ^ (2 * p + 1) = 1 + 2 ^ (s + 2) * (2 * r + 1)
  | 0 => ⟨q, Nat.pow_one _⟩
  | p + 1 => by
    obtain ⟨r, e⟩ := podd s q p
    have h2 : 2 ^ (s + 2) = 2 * 2 ^ (s + 1) := by rw [Nat.pow_succ]; omega
    refine ⟨r + (2 * q + 1) + 2 ^ (s + 1) * (2 * q + 1) * (2 * q + 1) + 2 * 2 ^ (s + 1) * (2 * r + 1) * (2 * q + 1) + 2 ^ (s + 1) * (2 * 2 ^ (s + 1)) * (2 * r + 1) * (2 * q + 1) * (2 * q + 1), ?_⟩
    have e3 : 2 * (p + 1) + 1 = (2 * p + 1) + 2 := by omega
    rw [e3, Nat.pow_add, e, h2]
    generalize 2 ^ (s + 1) = t
    grind
theorem two_part : ∀ d : Nat, 0 < d → ∃ s p, d = 2 ^ s * (2 * p + 1) := by
  intro d
  induction d using Nat.strongRecOn with
  | ind d ih =>
    intro h
    by_cases e : d % 2 = 0
    · obtain ⟨s, p, e2⟩ := ih (d / 2) (by omega) (by omega)
      refine ⟨s + 1, p, ?_⟩
      rw [Nat.pow_succ, Nat.mul_assoc, Nat.mul_left_comm, ← e2]
      omega
    · exact ⟨0, d / 2, by rw [Nat.pow_zero]; omega⟩
theorem ord5 {n d : Nat} (h : 5 ^ d % 2 ^ (n + 2) = 1) : 2 ^ n ∣ d := by
  by_cases h0 : d = 0
  · rw [h0]; exact Nat.dvd_zero _
  obtain ⟨s, p, e⟩ := two_part d (by omega)
  by_cases hs : n ≤ s
  · rw [e]; exact Nat.dvd_trans (Nat.pow_dvd_pow 2 hs) (Nat.dvd_mul_right _ _)
  · exfalso
    obtain ⟨q, e1⟩ := pow5 s
    obtain ⟨r, e2⟩ := podd s q p
    have e3 : 5 ^ d = 1 + 2 ^ (s + 2) * (2 * r + 1) := by rw [e, Nat.pow_mul, e1, e2]
    obtain ⟨k, ek⟩ : ∃ k, 2 ^ (n + 2) = 2 ^ (s + 3) * k := ⟨2 ^ (n + 2 - (s + 3)), by rw [← Nat.pow_add]; congr 1; omega⟩
    have e4 : 5 ^ d = 2 ^ (n + 2) * (5 ^ d / 2 ^ (n + 2)) + 1 := by have := Nat.div_add_mod (5 ^ d) (2 ^ (n + 2)); omega
    rw [ek] at e4
    generalize 5 ^ d / _ = z at e4
    rw [e3] at e4
    have h8 : 2 ^ (s + 3) = 2 ^ (s + 2) * 2 := by rw [Nat.pow_succ]
    rw [h8] at e4
    have e5 : 2 ^ (s + 2) * (2 * r + 1) = 2 ^ (s + 2) * (2 * (k * z)) := by grind
    have := Nat.eq_of_mul_eq_mul_left (Nat.pow_pos (by decide)) e5
    omega
theorem lcg_pow (m : Nat) : ∀ k, (4 * lcgN m k + 1) % (4 * (m + 1)) = 5 ^ k % (4 * (m + 1))
  | 0 => rfl
  | k + 1 => by
    have ih := lcg_pow m k
    have e1 : 4 * lcgN m (k + 1) = (4 * (lcgN m k * 5 + 1)) % (4 * (m + 1)) := by
      show 4 * ((lcgN m k * 5 + 1) % (m + 1)) = _
      rw [Nat.mul_mod_mul_left]
    rw [e1, Nat.mod_add_mod, show 4 * (lcgN m k * 5 + 1) + 1 = (4 * lcgN m k + 1) * 5 by omega, Nat.mul_mod, ih, ← Nat.mul_mod, Nat.pow_succ]
theorem lcg_lt (m k : Nat) : lcgN m k < m + 1 := by
  cases k with
  | zero => exact Nat.succ_pos _
  | succ k => exact Nat.mod_lt _ (Nat.succ_pos _)
theorem pow_cancel {n a d : Nat} (h : 5 ^ (a + d) % 2 ^ n = 5 ^ a % 2 ^ n) : 5 ^ d % 2 ^ n = 1 % 2 ^ n := by
  induction a with
  | zero => rw [Nat.zero_add, Nat.pow_zero] at h; exact h
  | succ a ih =>
    refine ih ?_
    rw [show a + 1 + d = (a + d) + 1 by omega, Nat.pow_succ, Nat.pow_succ] at h
    -- 5 is odd: cancel
    generalize 5 ^ (a + d) = x at h ⊢
    generalize 5 ^ a = y at h ⊢
    clear ih
    have key : ∀ (n x y : Nat), x * 5 % 2 ^ n = y * 5 % 2 ^ n → x % 2 ^ n = y % 2 ^ n := by
      intro n
      induction n with
      | zero => intro x y _; rw [Nat.pow_zero, Nat.mod_one, Nat.mod_one]
      | succ n ih =>
        intro x y h
        have hn : 2 ^ (n + 1) = 2 * 2 ^ n := by rw [Nat.pow_succ]; omega
        rw [hn] at h ⊢
        have hx : x % 2 = y % 2 := by
          have h1 : x * 5 % (2 * 2 ^ n) % 2 = y * 5 % (2 * 2 ^ n) % 2 := by rw [h]
          rw [Nat.mod_mul_right_mod, Nat.mod_mul_right_mod] at h1
          omega
        have h2 : (x / 2) * 5 % 2 ^ n = (y / 2) * 5 % 2 ^ n ∨ True := .inr trivial
        rw [Nat.mod_mul, Nat.mod_mul]
        rw [Nat.mod_mul, Nat.mod_mul] at h
        have hx5 : x * 5 % 2 = y * 5 % 2 := by omega
        rw [hx5] at h
        have h3 : x * 5 / 2 % 2 ^ n = y * 5 / 2 % 2 ^ n := by omega
        rcases Nat.mod_two_eq_zero_or_one x with e | e
        · have ex : x * 5 / 2 = (x / 2) * 5 := by omega
          have ey : y * 5 / 2 = (y / 2) * 5 := by omega
          rw [ex, ey] at h3
          rw [ih _ _ h3, hx]
        · have ex : x * 5 / 2 = (x / 2) * 5 + 2 := by omega
          have ey : y * 5 / 2 = (y / 2) * 5 + 2 := by omega
          rw [ex, ey] at h3
          have h4 : (x / 2) * 5 % 2 ^ n = (y / 2) * 5 % 2 ^ n := by
            have := congrArg (fun z => (z + (2 ^ n * 2 - 2)) % 2 ^ n) h3
            have hp : 0 < 2 ^ n := Nat.pow_pos (by decide)
            rw [Nat.mod_add_mod, Nat.mod_add_mod] at this
            rw [show (x / 2) * 5 + 2 + (2 ^ n * 2 - 2) = (x / 2) * 5 + 2 ^ n * 2 by omega, show (y / 2) * 5 + 2 + (2 ^ n * 2 - 2) = (y / 2) * 5 + 2 ^ n * 2 by omega, Nat.add_mul_mod_self_left, Nat.add_mul_mod_self_left] at this
            exact this
          rw [ih _ _ h4, hx]
    exact key n x y h
theorem lcg_inj {n a d : Nat} (hd : d < 2 ^ n) (h : lcgN (2 ^ n - 1) a = lcgN (2 ^ n - 1) (a + d)) : d = 0 := by
  have hp : 0 < 2 ^ n := Nat.pow_pos (by decide)
  have em : 4 * (2 ^ n - 1 + 1) = 2 ^ (n + 2) := by rw [Nat.pow_add]; omega
  have h1 := lcg_pow (2 ^ n - 1) a
  have h2 := lcg_pow (2 ^ n - 1) (a + d)
  rw [em] at h1 h2
  rw [← h, h1] at h2
  have h3 := pow_cancel h2.symm
  rw [Nat.mod_eq_of_lt (show 1 < 2 ^ (n + 2) by rw [Nat.pow_add]; omega)] at h3
  obtain ⟨k, ek⟩ := ord5 h3
  cases k with
  | zero => omega
  | succ k =>
    exfalso
    rw [ek, Nat.mul_succ] at hd
    omega
theorem lcg_back {n : Nat} : lcgN (2 ^ n - 1) (2 ^ n) = 0 := by
  have hp : 0 < 2 ^ n := Nat.pow_pos (by decide)
  have em : 4 * (2 ^ n - 1 + 1) = 2 ^ (n + 2) := by rw [Nat.pow_add]; omega
  have h1 := lcg_pow (2 ^ n - 1) (2 ^ n)
  rw [em] at h1
  obtain ⟨q, e⟩ := pow5 n
  rw [e, Nat.add_mul_mod_self_left, Nat.mod_eq_of_lt (show 1 < 2 ^ (n + 2) by rw [Nat.pow_add]; omega)] at h1
  have hl := lcg_lt (2 ^ n - 1) (2 ^ n)
  have e4 : 2 ^ (n + 2) = 4 * 2 ^ n := by rw [Nat.pow_add]; omega
  rw [Nat.mod_eq_of_lt (by omega)] at h1
  omega
/-! ### the masks that come, and what each needs -/
def Mk (m : Nat) : Prop := m = 7 ∨ m = 15 ∨ m = 31 ∨ m = 63 ∨ m = 127 ∨ m = 255 ∨ m = 511 ∨ m = 1023 ∨ m = 2047 ∨ m = 4095 ∨ m = 8191
theorem Mk.pow {m : Nat} (H : Mk m) : ∃ n, m = 2 ^ n - 1 := by
  rcases H with e | e | e | e | e | e | e | e | e | e | e
  · exact ⟨3, e⟩
  · exact ⟨4, e⟩
  · exact ⟨5, e⟩
  · exact ⟨6, e⟩
  · exact ⟨7, e⟩
  · exact ⟨8, e⟩
  · exact ⟨9, e⟩
  · exact ⟨10, e⟩
  · exact ⟨11, e⟩
  · exact ⟨12, e⟩
  · exact ⟨13, e⟩
theorem Mk.le {m : Nat} (H : Mk m) : m ≤ 8191 := by
  rcases H with e | e | e | e | e | e | e | e | e | e | e <;> omega
/-- a round goes through all -/
theorem Mk.all {m : Nat} (H : Mk m) (j : Nat) (hj : j ≤ m) : ∃ b, b ≤ m ∧ lcgN m b = j := by
  obtain ⟨n, rfl⟩ := H.pow
  have hp : 0 < 2 ^ n := Nat.pow_pos (by decide)
  have en : 2 ^ n - 1 + 1 = 2 ^ n := by omega
  apply Classical.byContradiction
  intro no
  have un : ∀ k : Nat, k ≤ 2 ^ n → ((List.range k).map (lcgN (2 ^ n - 1))).Nodup := by
    intro k
    induction k with
    | zero => exact fun _ => .nil
    | succ k ih =>
      intro hk
      rw [List.range_succ, List.map_append]
      refine List.nodup_append.mpr ⟨ih (by omega), List.nodup_cons.mpr ⟨nofun, .nil⟩, fun x hx y hy => ?_⟩
      obtain ⟨a, ha, rfl⟩ := List.mem_map.mp hx
      have la := List.mem_range.mp ha
      rw [List.mem_singleton.mp hy]
      intro e
      obtain ⟨d, rfl⟩ : ∃ d, k = a + d := ⟨k - a, by omega⟩
      have := lcg_inj (by omega) e
      omega
  have key := nat_nodup_len (j :: (List.range (2 ^ n)).map (lcgN (2 ^ n - 1))) (List.range (2 ^ n)) (List.nodup_cons.mpr ⟨fun z => ?_, un _ (Nat.le_refl _)⟩) fun x hx => ?_
  · rw [List.length_cons, List.length_map] at key
    omega
  · obtain ⟨b, hb, e⟩ := List.mem_map.mp z
    exact no ⟨b, by have := List.mem_range.mp hb; omega, e⟩
  · rw [List.mem_range]
    rcases List.mem_cons.mp hx with rfl | hx
    · omega
    · obtain ⟨b, _, rfl⟩ := List.mem_map.mp hx
      have := lcg_lt (2 ^ n - 1) b
      omega
theorem Mk.turn {m : Nat} (H : Mk m) : ∀ k, lcgN m (m + 1 + k) = lcgN m k := by
  obtain ⟨n, rfl⟩ := H.pow
  have hp : 0 < 2 ^ n := Nat.pow_pos (by decide)
  intro k
  induction k with
  | zero =>
    have := lcg_back (n := n)
    rwa [show 2 ^ n - 1 + 1 + 0 = 2 ^ n by omega]
  | succ k ih => exact congrArg (fun z => (z * 5 + 1) % (2 ^ n - 1 + 1)) ih
theorem Mk.from_ {m i j : Nat} (H : Mk m) (hi : i ≤ m) (hj : j ≤ m) : ∃ k, k ≤ m ∧ lcgI m i k = j := by
  obtain ⟨a, ha, rfl⟩ := H.all i hi
  obtain ⟨b, hb, rfl⟩ := H.all j hj
  by_cases c : a ≤ b
  · exact ⟨b - a, by omega, by rw [lcgN_add, Nat.add_sub_cancel' c]⟩
  · refine ⟨m + 1 + b - a, by omega, ?_⟩
    rw [lcgN_add, Nat.add_sub_cancel' (by omega), H.turn]
theorem Mk.run {m : Nat} (H : Mk m) (x : Int) {j : Nat} (hj : j ≤ m) : ∃ n, n ≤ m + 12 ∧ runI m (SetTable.bits x) n = j := by
  obtain ⟨k, hk, e⟩ := H.from_ (runI_le m (SetTable.bits x) 12) hj
  refine ⟨12 + k, by omega, ?_⟩
  rw [runI_tail (bits_lt x), e]
section
end
/-! ### laid anew -/
/-! ### the way of a hash through a table -/
section
end
/-! ### kinds -/
section
variable {P : Program} {w : World} {A : Around} {E : Value → Shared → Prop} {s : Shared} {κ : Type} [DecidableEq κ] {HD : HeapKind P w κ}
/-! ### a set -/
abbrev ent (HD : HeapKind P w κ) (p : Addr × κ) : Int × Value := (HD.hash p.2, Value.ref p.1)
end
/-! # G85: a thing put into a set of its kind; set(list) -/
section
end
/-! # G86: set(list) of things of a calm kind -/
section
end
/-! # G87: len(set(a list of tuples of numbers and texts)) -/
end Sg
namespace G
open PySem PySem.Spec PyProof.Rows L2
/-- each once -/
def uq {t : Type} [DecidableEq t] : List t → List t
  | [] => []
  | x :: l => if x ∈ l then uq l else x :: uq l
section
end
/-! # G88: any(list of truths); x < y of any data; sorted pairs rise -/
section
/-! ### x < y -/
end
/-! ### the order of idents and pairs -/
section
end
/-! # G89: the program's small checkers of pairs and of bars, of anything -/
noncomputable section
end
/-! ### the glove of an ident -/
/-! ### the dict by idents -/
section
/-! ### rising -/
/-! ### pairs -/
/-! ### bars -/
end
/-! # G90: the laws' own checkers of pairs and bars, of anything -/
noncomputable section
end
section
/-! ### idents, as the laws look -/
/-! ### pairs, as the laws look -/
/-! ### bars, as the laws look -/
end
/-! # G91: Lots' texts -/
noncomputable section
end
section
end
end G

/-! # G92: what matched tells is let by -/
namespace G
open PySem PySem.Spec PyProof.Rows L2 MT
section
end
end G

/-! # G93: xs.remove(y) of data -/
namespace G
open PySem PySem.Spec PyProof.Rows L2
section
end
section
end
end G

/-! # G94: sorted, of a tuple of data -/
namespace G
open PySem PySem.Spec PySem.Calls PyProof.Rows L2
section
end
section
end
section
end
end G

/-! # G95: sorted(set(xs)): tuples of numbers and texts, numbers -/
namespace Sg
open PySem PySem.Spec PyProof.Rows L2
section
end
/-! ### set of a dict -/
section
end
section
end
section
end
end Sg
namespace G
open PySem PySem.Spec PySem.Calls PyProof.Rows L2
section
end
/-- numbers, rising, each once -/
def sI (is : List Int) : List Int := (uq is).mergeSort fun a b => decide (a ≤ b)
section
end
section
end
end G

/-! # G96: for a, b, c in xs, where xs holds lists of the heap -/
namespace G
open PySem PySem.Spec PyProof.Rows L2
section
end
section
end
/-! # G97: list(d.values()) of a locked dict with numbers or texts as keys -/
section
end
section
end
end G

/-! # G98: a search with the ways laid on a pile (plain) -/
namespace MT
open PySem PySem.Spec L2 G
section
end
end MT

/-! # G99: the laws' led: the most pairs by ways laid on a pile -/
namespace G
open PySem PySem.Spec PyProof.Rows L2
noncomputable section
end
end G
namespace MT
open PySem PySem.Spec L2 G
section
end
section
end
end MT

/-! # G100: the laws' own pairs and bar of gloves -/
namespace G
open PySem PySem.Spec PyProof.Rows L2
noncomputable section
end
section
end
/-! # G101: defs with defaults that run while a repr is under way -/
section
end
section
end
/-! # G102: {t: v}, t a tuple of numbers and texts -/
section
end
section
end
/-! # G103: <<, >>, &, | of whole numbers that are not below nought -/
section
end
/-! # G104: zip(a, b, strict=True) of lists and tuples of one length: the iterator itself -/
open PySem.Sem (wp)
section
end
/-! # G105: the call zip(a, b, strict=True) -/
open PySem.Sem (wp)
section
end
/-! # G106: walks over zip(a, b, strict=True), lists and tuples, in comprehensions and in for -/
section
end
/-! ### made -/
/-! ### walked -/
/-! # G107: for .. in zip(a, b, strict=True), as a function (a, b: tuples, lists that stand still) -/
section
end
end G

/-! # G108: list(zip(a, b, strict=True)): the library's level -/
namespace G
open PySem PySem.Calls PySem.Spec PyProof.Rows L2

open PySem.Sem (wp)
section
end
section
end
/-! # G109: list(zip(a, b, strict=True)): the loop, the call -/
open PySem.Sem (wp)
section
end
end G

/-! # G110: list(zip(a, b, strict=True)) as a function -/
namespace G
open PySem PySem.Spec PyProof.Rows L2
section
end
section
end
section
end
/-! # G111: list(zip(a, b, strict=True)) as a function; its rule -/
section
end
/-! # G112: a, b, c = x, y, z -/
section
end
section
end
/-! # G113: behind two statements: two dicts of ours are locked, what is new stands by value from then on -/
section
end
section
end
/-! # G114: d.get(k, x) of any dict, d.update(a list of pairs), keys tuples -/
section
end
section
end
/-! # G115: d.update(a list of pairs), keys tuples -/
end G

/-! # G116: orders are filled, in plain words: who has what, ways to one more, counts -/
namespace FL
variable {κ : Type} [DecidableEq κ]
/-- i goes to h -/
def upd (O : κ → Option Nat) (i : κ) (h : Nat) : κ → Option Nat := fun x => if x = i then some h else O x
/-- how many h has -/
def cnt (V : List κ) (O : κ → Option Nat) (h : Nat) : Nat := V.countP fun i => O i == some h
variable {V : List κ} {p : Nat → κ → Bool} {O : κ → Option Nat} {num : Nat}
theorem upd_ne {i x : κ} {h : Nat} (n : x ≠ i) : upd O i h x = O x := if_neg n
/-! ### the search -/
/-! ### counts of sets of orders -/
end FL

/-! # G117: orders are filled: the walk back, the search -/
namespace G
open PySem PySem.Spec PyProof.Rows L2
noncomputable section
end
end G
namespace G
open PySem PySem.Spec PyProof.Rows L2 FL
section
end
/-- numbers, idents and none, as values -/
abbrev oD (h : Nat) : D := .int (h : Int)
section
end
/-! # G118: orders are filled: the search for one more -/
section
section
end
end
/-! # G119: orders are filled: what suits -/
/-- an order -/
structure Ov where
  nm : List Nat
  sy : List Nat
  sz : Int
  gr : Int
  n : Nat
abbrev Ov.d (o : Ov) : D := .tup [.str (T o.nm), .str (T o.sy), .int o.sz, .int o.gr, .int (o.n : Int)]
section
end
section
end
/-! # G120: orders are filled: one more, as many as can be -/
section
end
section
end
/-! # G121: orders are filled: as many as can be -/
section
end
/-! # G122: orders are filled: the pairs that an order has got -/
section
end
/-! # G123: orders are filled -/
section
end
section
end
end G

/-! # G124: how many each order is due, by all sets of those ahead of it, in plain words; masks -/
namespace FL
section
end
end FL

/-! # G125: what orders get is what is due -/
namespace G
open PySem PySem.Spec PyProof.Rows L2 FL
section
end
/-! # G126: what the laws draw of gloves and orders; what they reckon as due -/
noncomputable section
end
/-- an order as drawn -/
structure Ov.Ok (o : Ov) : Prop where
  nm : NmT o.nm
  sy : NmT o.sy
  sz0 : 28 ≤ o.sz
  sz1 : o.sz ≤ 36
  gr0 : 0 ≤ o.gr
  gr1 : o.gr ≤ 2
  n0 : 1 ≤ o.n
  n1 : o.n ≤ 9
section
end
/-! ### what is due -/
section
end
/-! # G127: how many each order is due, as the laws reckon it -/
section
variable {X : XQ} {Q : D → Hs → Prop} {h : Hs} {gs : List Gv} {os : List Ov} {g : Gv} {o : Ov} {sd : List Nat}
theorem sum_nat : ∀ {l : List Nat}, gSum h [.lst (l.map oD)] = some (oD l.sum) := by
  intro l
  have e : l.map oD = (l.map fun n : Nat => (n : Int)).map D.int := by rw [List.map_map]; rfl
  rw [e]
  show (match intsOf ((l.map fun n : Nat => (n : Int)).map D.int) with | some ns => some (D.int ns.sum) | none => none) = _
  rw [intsOf_map]
  dsimp only
  have : ∀ l : List Nat, (l.map fun n : Nat => (n : Int)).sum = ((l.sum : Nat) : Int) := by
    intro l
    induction l with
    | nil => rfl
    | cons x l ih => rw [List.map_cons, List.sum_cons, List.sum_cons, ih]; omega
  rw [this]
end
/-! # G128: what is told of orders is small data -/
section
end
end G

/-! # G129: zip of a list and a tuple -/
namespace G
open PySem PySem.Spec PyProof.Rows L2
/-! # G130: sum(a list of whole numbers, start=1) -/
section
end
section
end
/-! # G131: list(range(n)) -/
section
end
end G

/-! # G132: the small checker of what orders get, of anything: pairs -/
namespace G
open PySem PySem.Spec PyProof.Rows L2 FL
noncomputable section
end
section
/-! ### an order's pairs -/
end
/-! # G133: the small checker of what orders get, of anything: papers, the whole -/
section
end
/-! # G134: the small checker of what orders get, of anything -/
abbrev rowD (r : D × D) : D := .tup [r.1, r.2]
section
end
/-! # G135: filled_holds of anything -/
section
end
/-! # G136: what is told of orders passes the small checker -/
section
end
/-! # G137: what is told of orders passes the small checker: the whole -/
section
end
end G

/-! # G138: x <= y of any data; counts that are due, once and with a glove less -/
namespace FL
end FL
namespace G
open PySem PySem.Spec PyProof.Rows L2 FL
section
end
/-! # G139: the small checker of what orders get looks at idents, and at what suits, alone -/
section
end
end G

/-! # G140: sorted(set(xs)) of tuples of any depth (numbers, texts, None) -/
namespace Sg
open PySem PySem.Spec PyProof.Rows L2
section
/-! ### keys of any depth are quiet -/
end
end Sg
namespace G
open PySem PySem.Spec PySem.Calls PyProof.Rows L2
/-! ### keys of data -/
/-! # G141: the rule for sorted(set(xs)), xs tuples of any depth -/
section
end
section
end
section
end
end G

/-! # G142: what orders get, of anything, as the laws look at it (k36, k37): idents and pairs -/
namespace G
open PySem PySem.Spec PyProof.Rows L2 FL
noncomputable section
end
section
/-! ### rising, by a set -/
/-! ### pairs as keys -/
end
/-! # G143: pairs for an order, of anything, as the laws look at it -/
section
end
/-! # G144: a paper, of anything, as the laws look at it -/
section
end
/-! # G145: what orders get, of anything, as the laws look at it -/
section
end
/-! # G146: what the small checker lets by gives each order as many as are due (plain) -/
section
end
end G

/-! # G147: the items of zip(a, b), a and b lists, gathered -/
namespace G
open PySem PySem.Calls PySem.Spec PyProof.Rows L2
open PySem.Sem (wp)
section
end
section
end
end G

/-! # G148: the rule for sorted(zip(a, b)), a and b lists of data -/
namespace G
open PySem PySem.Spec PySem.Calls PyProof.Rows L2
section
end
section
end
section
end
end G

/-! # G149: dicts of ours with tuples as keys: locked -/
namespace G
open PySem PySem.Spec PyProof.Rows L2
section
end
section
end
/-! # G150: functions as values: the module's tables of functions, calls of what an expression gives -/
section
/-! ### calls of what an expression gives -/
end
section
end
/-! # G151: == [] of any list -/
def gEqL (hs : Hs) (d e : D) : Option D := match lstOf hs d with
  | some ds => (match e with | .lst [] => some (.bl ds.isEmpty) | _ => none)
  | none => none
theorem og_eqL {X : Cx} (hu : X.A.units + 64 < cLine) : OpR X (compareOp .Eq) (rB X.K X.mg gEqL) := by
  rintro pins s σ H x y v u Q I rx ry ⟨mu, hs, d, e, w, S, r1, r2, hg, q⟩
  unfold gEqL at hg
  split at hg
  · rename_i ds hd
    split at hg
    · cases hg
      obtain ⟨a, vs, rfl, ha, ra⟩ := lstOf_at S r1 hd
      cases r2 with
      | lst h2 n2 rr2 =>
        cases rx; cases ry
        obtain ⟨its, rv, it, _⟩ := I.list (.of ha)
        obtain ⟨its2, rv2, it2, _⟩ := I.list (.of h2)
        have z2 : its2 = [] := by
          cases rr2
          cases rv2
          rfl
        subst z2
        have hl : its.length = ds.length := by rw [← rv.length, ← ra.length]
        by_cases hz : ds = []
        · subst hz
          have z1 : its = [] := List.eq_nil_of_length_eq_zero hl
          subst z1
          refine SeqAt.RcAt.lists (e := fun _ => true) it.isList it2.isList rfl (by omega) (fun j h1 h2 => by simp at h2) X.prog X.w X.xe _ ?_
          exact ⟨.bl true, H, I, rfl, fin0 S q (.bl true)⟩
        · have hn : its.length ≠ 0 := fun z => hz (List.eq_nil_of_length_eq_zero (by omega))
          refine SeqAt.RcAt.lists_lengths it.isList it2.isList (by simp; intro z; exact hn (by rw [z]; rfl)) (by omega) X.prog X.w X.xe _ ?_
          have e : ds.isEmpty = false := by cases ds <;> first | exact absurd rfl hz | rfl
          rw [e] at q
          exact ⟨.bl false, H, I, rfl, fin0 S q (.bl false)⟩
    · cases hg
  · cases hg
theorem eqL_lst {h : Hs} {ds : List D} : gEqL h (.lst ds) (.lst []) = some (.bl ds.isEmpty) := rfl
/-! # G152: a module's tables of whole numbers: word in TABLE, word not in TABLE, TABLE[word] -/
section
end
/-! # G153: str of any data -/
/-! # G154: sorted(x), x a tuple of data of any kind -/
section
end
section
end
section
end
/-! # G155: a dict that a function builds and then only reads: locked, by value from there on, within the function -/
open Classical in
/-- behind f: the dict of the name v is locked and stands by itself, what else is new is forgotten -/
noncomputable def sGcL (v : Nat) (f : FS) : FS := fun e hs => match f e hs with
  | .nx e1 h1 => (match e1[v]? with
    | some (some (.ref n)) => (match h1[n]? with
      | some (.dt kvs) => (match dH (h1.set n (.lkd (.dt kvs))) hs.length 50 n with
        | some d' => if Cls hs (h1.set n (.lkd (.dt kvs))) ∧ (∀ i x, i ≠ v → e1[i]? = some (some x) → bel hs.length x = true) then .nx (e1.set v (some d')) ((h1.set n (.lkd (.dt kvs))).take hs.length) else .bad
        | none => .bad)
      | _ => .bad)
    | _ => .bad)
  | .brk e1 h1 => .brk e1 h1
  | .cnt e1 h1 => .cnt e1 h1
  | .ret d h1 => .ret d h1
  | .exc c fs e1 h1 => .exc c fs e1 h1
  | .bad => .bad
section
end
section
end
section
end
/-! # G156: what is shown of plain data of plain signs are plain signs; str(d)[:n] -/
section
end
/-! # G157: sorted(a list of tuples of numbers and texts, reverse=True) -/
section
end
section
end
section
end
/-! # G158: list(d) of a dict with tuples as keys; {t: v} that is locked from its making -/
section
end
section
end
section
end
section
end
end G

/-! # G159: rows of three numbers, the greatest of them, cuts of a zone: in plain Lean -/
namespace MR
open PySem PySem.Spec PyProof.Rows L2 G
abbrev R3 := Nat × Nat × Nat
def le3 (x y : R3) : Bool := decide (x.1 ≤ y.1) && (decide (x.2.1 ≤ y.2.1) && decide (x.2.2 ≤ y.2.2))
def ad3 (x y : R3) : R3 := (x.1 + y.1, x.2.1 + y.2.1, x.2.2 + y.2.2)
def key3 (x : R3) : List Key := [.inl (x.1 : Int), .inl (x.2.1 : Int), .inl (x.2.2 : Int)]
def r3D (x : R3) : D := .tup [.int (x.1 : Int), .int (x.2.1 : Int), .int (x.2.2 : Int)]
def kR : List Key → R3
  | [.inl a, .inl b, .inl c] => (a.toNat, b.toNat, c.toNat)
  | _ => (0, 0, 0)
/-- in order -/
def srt (rows : List R3) : List R3 := (sortK (rows.map key3)).map kR
/-- covered by some -/
def cov (found : List R3) (r : R3) : Bool := found.any (le3 r)
def gre : List R3 → List R3 → List R3
  | acc, [] => acc
  | acc, r :: rs => gre (if cov acc r = true then acc else acc ++ [r]) rs
/-- the greatest ones -/
def grt (rows : List R3) : List R3 := gre [] (srt rows).reverse
/-! ### cuts -/
def ops : Option Nat → Nat → List (Nat × Nat)
  | none, r => [(0, r)]
  | some l, r => (List.range (1 + r / l)).map fun m => (m, r - m * l)
def cutsOf (L : Nat) (a b c : Option Nat) : List R3 := (ops a L).flatMap fun p => (ops b p.2).flatMap fun q => (ops c q.2).map fun s => (p.1, q.1, s.1)
/-! ### sums -/
def ins3 (acc : List R3) (x : R3) : List R3 := if x ∈ acc then acc else acc ++ [x]
def sums (rows cuts : List R3) : List R3 := (rows.flatMap fun r => cuts.map (ad3 r)).foldl ins3 []
/-! ### papers -/
def pr3 (m r : R3) : Nat := min (min (r.1 / m.1) (r.2.1 / m.2.1)) (r.2.2 / m.2.2)
abbrev Zo := Bool × Nat
abbrev Pt3 := Option Nat × Option Nat × Nat
def lenP (z : Zo) (p : Pt3) : Option Nat := if z.1 = true then p.2.1 else p.1
structure Tb where
  a : Pt3
  b : Pt3
  c : Pt3
def Tb.m (t : Tb) : R3 := (t.a.2.2, t.b.2.2, t.c.2.2)
def zcuts (t : Tb) (z : Zo) : List R3 := cutsOf z.2 (lenP z t.a) (lenP z t.b) (lenP z t.c)
def gcuts (t : Tb) (z : Zo) : List R3 := grt (zcuts t z)
/-- the rows behind each zone -/
def fronts (t : Tb) : List R3 → List Zo → List (List R3)
  | _, [] => []
  | ah, z :: zs => grt (sums ah (gcuts t z)) :: fronts t (grt (sums ah (gcuts t z))) zs
def lastF (ah : List R3) (fr : List (List R3)) : List R3 := (fr.getLast?).getD ah
end MR

/-! # G160: the program's mostchecks: cuts of a zone, the greatest rows, what rows and cuts come to -/
namespace G
open PySem PySem.Spec PyProof.Rows L2 MR
noncomputable section
end
end G
local macro_rules | `(tactic| fail "tl") => `(tactic| repeat' (first | assumption | omega | exact Nat.le_of_ble_eq_true rfl | (with_reducible refine len_half ?_ ?_) | (with_reducible refine lit_half ?_) | (with_reducible refine cut_half ?_) | (with_reducible refine T_half ?_) | (simp only [List.length_append, List.length_cons, List.length_nil]; omega)))
local macro_rules | `(tactic| fail "nO") => `(tactic| first
    | ((with_reducible apply wp_ix_tup); (case q => rfl))
    | ((with_reducible apply wp_ix_lst); (case q => rfl))
    | ((with_reducible apply wp_ix_ref); (case p => assumption); (case q => rfl))
    | ((with_reducible apply wp_some (mod_int ?q)); (case q => fail "q"))
    | ((with_reducible apply wp_some (div_int ?p ?q)); (case p => fail "q"); (case q => fail "q"))
    | ((with_reducible apply wp_some (mul_int ?q)); (case q => fail "q"))
    | ((with_reducible apply wp_some (add_tup2 ?a ?b)); (case a => fail "ll"); (case b => fail "ll"))
    | ((with_reducible apply wp_some (add_lst2 ?a ?b)); (case a => fail "ll"); (case b => fail "ll"))
    | ((with_reducible apply wp_some (add_str ?q ?r)); (case q => fail "tl"); (case r => fail "tl"))
    | ((with_reducible apply wp_some (sl_str ?q)); (case q => fail "tl"))
    | ((with_reducible apply wp_some (len_str ?q)); (case q => fail "tl"))
    | ((with_reducible apply wp_some (str_int ?q)); (case q => first | assumption | omega))
    | ((with_reducible apply wp_some (isi_pln ?q)); (case q => fail "p"))
    | ((with_reducible apply wp_some (rev_str ?q)); (case q => fail "tl"))
    | ((with_reducible apply wp_some (add_rl ?q ?a ?b)); (case q => fail "hg"); (case a => fail "ll"); (case b => fail "ll"))
    | ((with_reducible apply wp_some (add_lr ?q ?a ?b)); (case q => fail "hg"); (case a => fail "ll"); (case b => fail "ll"))
    | ((with_reducible apply wp_some (add_rr ?q ?r ?a ?b)); (case q => fail "hg"); (case r => fail "hg"); (case a => fail "ll"); (case b => fail "ll"))
    | ((with_reducible apply wp_some (lst_ref ?q)); (case q => fail "hg"))
    | ((with_reducible apply wp_some (len_ref ?q)); (case q => fail "hg"))
    | ((with_reducible apply wp_some (tup_ref ?q)); (case q => fail "hg"))
    | ((with_reducible apply wp_some (tru_str ?q)); (case q => fail "tl"))
    | ((with_reducible apply wp_some (mulS_str ?a ?b ?d)); (case a => fail "tl"); (case b => fail "tl"); (case d => fail "tl"))
    | ((with_reducible apply wp_some (mulS_tupA ?a ?b ?c ?d)); (case a => fail "tl"); (case b => fail "tl"); (case c => first | rfl | assumption); (case d => fail "tl")))
local macro_rules | `(tactic| fail "nW") => `(tactic| first
    | ((with_reducible apply wp_name); (case q => rfl))
    | with_reducible refine ws_set ?_
    | with_reducible refine ws_setC ?_
    | with_reducible refine ws_setCM ?_
    | with_reducible refine wp_body ?_
    | fail "P1"
    | fail "d1")
local macro_rules | `(tactic| fail "n2") => `(tactic| first
  | ((with_reducible show Wp (R.ofO _ _) _ _); fail "nO")
  | ((with_reducible show Wp (R.ofP _) _ _); first
    | ((with_reducible apply wp_someP (app_ref2 ?e ?q)); (case e => fail "hg"); (case q => fail "ll"))
    | ((with_reducible apply wp_someP (upper_str ?q)); (case q => fail "tl")))
  | ((with_reducible show Ws _ _); fail "nW")
  | ((with_reducible refine' And.intro (isL_ref ?e) ?_); (case e => fail "hg"))
  | ((with_reducible refine And.intro (And.intro ?a ?b) ?_); (case a => fail "ll"); (case b => fail "ll"))
  | with_reducible (first | refine Exists.intro _ (And.intro rfl ?_) | refine Exists.intro _ (Exists.intro _ (And.intro rfl ?_)) | refine And.intro rfl ?_)
  | ((with_reducible show Wp _ _ _); fail "nW")
  | ((fail_if_success (with_reducible show Ws _ _)); (fail_if_success (with_reducible show Wp _ _ _)); show Ws _ _))
local macro_rules | `(tactic| fail "n1") => `(tactic| first
  | (set_option synthInstance.maxSize 100000 in set_option synthInstance.maxHeartbeats 0 in with_reducible refine Run.go ?_)
  | fail "n2")
namespace G
open PySem PySem.Spec PyProof.Rows L2 MR
section
variable {X : XQ} {Q : D → Hs → Prop} {h : Hs} {x y : R3}
def oN : Option Nat → D
  | none => .non
  | some n => .int (n : Int)
def p3D (p : Pt3) : D := .tup [oN p.1, oN p.2.1, .int (p.2.2 : Int)]
def tbD (t : Tb) : D := .tup [p3D t.a, p3D t.b, p3D t.c]
def grS (x : Bool) : Str := if x then Str.ofString "across" else Str.ofString "along"
def znD (z : Zo) : D := .tup [.str (grS z.1), .int (z.2 : Int)]
theorem gAll_map {α : Type} (f : α → Bool) (l : List α) : gAll h [.lst (l.map fun p => .bl (f p))] = some (.bl (l.all f)) := by
  have e : (l.map fun p => D.bl (f p)) = (l.map f).map D.bl := by rw [List.map_map]; rfl
  rw [e, gAll_bls, List.all_map]; rfl
/-- what is walked, one by one, whatever comes behind in the heap -/
def Itr (h : Hs) (d : D) (ds : List D) : Prop := ∃ nx, ∀ t, itOf (h ++ t) d = some nx ∧ ∀ i, nx (h ++ t) i = some ds[i]?
theorem Itr.app {d : D} {ds : List D} {t : Hs} (I : Itr h d ds) : Itr (h ++ t) d ds := by
  obtain ⟨nx, e⟩ := I
  exact ⟨nx, fun u => by rw [List.append_assoc]; exact e _⟩
theorem Itr.here {d : D} {ds : List D} (I : Itr h d ds) : ∃ nx, itOf h d = some nx ∧ ∀ i, nx h i = some ds[i]? := by
  obtain ⟨nx, e⟩ := I
  have := e []
  rw [List.append_nil] at this
  exact ⟨nx, this⟩
/-! ### sums, pairs -/
/-- so many of each part that a pair wants -/
def TbM (t : Tb) : Prop := (0 < t.a.2.2 ∧ t.a.2.2 < 1000) ∧ (0 < t.b.2.2 ∧ t.b.2.2 < 1000) ∧ 0 < t.c.2.2 ∧ t.c.2.2 < 1000
/-! ### cuts of a zone -/
def stp3 (fl : List (List Nat × Nat)) (l : Option Nat) : List (List Nat × Nat) := fl.flatMap fun p => (ops l p.2).map fun q => (p.1 ++ [q.1], q.2)
def nsD (ns : List Nat) : D := .tup (ns.map fun n : Nat => .int (n : Int))
theorem st3 {L : Nat} {a b c : Option Nat} : (stp3 (stp3 (stp3 [([], L)] a) b) c).map (fun p => nsD p.1) = (cutsOf L a b c).map r3D := by
  unfold stp3 cutsOf
  simp [List.flatMap_assoc, List.map_flatMap, List.flatMap_map, List.map_map, Function.comp_def, nsD, r3D]
/-- a comprehension over what is walked one by one -/
theorem wp_cgI {α : Type} {e : Ev} {hs : Hs} {f : FI} {g : FG} {t : FT} {el : FE} {vs : List Nat} {Q : List D → Hs → Prop} (i : α → D) (p : α → Bool) (F : α → D) (h : Wp (f e hs) (fun nx h => ∃ xs : List α, (∀ j, nx h j = some (xs.map i)[j]?) ∧ xs.length ≤ 100000 ∧
    (∀ a ∈ xs, ∃ e', g (i a) (wipeE e vs) = some e' ∧ Wp (t e' h) (fun c h1 => h1 = h ∧ c = p a ∧ (c = true → Wp (el e' h) (fun y h' => y = F a ∧ h' = h) nX)) nX) ∧ Q ((xs.filter p).map F) h) X) : Wp (lComp f g t el vs e hs) Q X := by
  refine wp_comp (wp_mono h (fun nx h' q => ?_) fun _ _ _ x => x)
  obtain ⟨xs, hx, hl, hd, q⟩ := q
  refine ⟨xs.length, fun i acc h => h = h' ∧ acc = ((xs.take i).filter p).map F, hl, ⟨rfl, rfl⟩, fun i acc h hi ⟨e1, e2⟩ => ?_, fun acc h ⟨e1, e2⟩ => ?_⟩
  · subst e1 e2
    obtain ⟨e', h1, h2⟩ := hd xs[i] (List.getElem_mem hi)
    refine ⟨_, e', ?_, h1, wp_mono h2 (fun c h3 ⟨z1, z2, z3⟩ => ?_) fun _ _ _ x => x⟩
    · rw [hx, List.getElem?_map, List.getElem?_eq_getElem hi]; rfl
    subst z1
    have ht : xs.take (i + 1) = xs.take i ++ [xs[i]] := List.take_succ_eq_append_getElem hi
    have hl2 : (((xs.take i).filter p).map F).length ≤ i := by
      rw [List.length_map]
      exact Nat.le_trans (List.length_filter_le _ _) (by rw [List.length_take]; omega)
    refine ⟨fun hc => ⟨by rw [sizeLine_eq]; omega, wp_mono (z3 hc) (fun y h4 ⟨r, z4⟩ => ⟨z4, ?_⟩) fun _ _ _ x => x⟩, fun hc => ⟨rfl, ?_⟩⟩
    · rw [ht, List.filter_append, List.map_append, r]
      congr 1
      rw [List.filter_cons_of_pos (by rw [← z2]; exact hc)]; rfl
    · rw [ht, List.filter_append, List.filter_cons_of_neg (by rw [← z2, hc]; exact Bool.false_ne_true), List.filter_nil, List.append_nil]
  · subst e1 e2
    rw [List.take_length]
    exact ⟨by rw [hx, List.getElem?_eq_none (by rw [List.length_map]; exact Nat.le_refl _)], q⟩
theorem wp_cmI {α : Type} {e : Ev} {hs : Hs} {f : FI} {g : FG} {el : FE} {vs : List Nat} {Q : List D → Hs → Prop} (i : α → D) (F : α → D) (h : Wp (f e hs) (fun nx h => ∃ xs : List α, (∀ j, nx h j = some (xs.map i)[j]?) ∧ xs.length ≤ 100000 ∧
    (∀ a ∈ xs, ∃ e', g (i a) (wipeE e vs) = some e' ∧ Wp (el e' h) (fun y h' => y = F a ∧ h' = h) nX) ∧ Q (xs.map F) h) X) : Wp (lComp f g tYesF el vs e hs) Q X := by
  refine wp_cgI i (fun _ => true) F (wp_mono h (fun nx h' q => ?_) fun _ _ _ x => x)
  obtain ⟨xs, hx, hl, hd, q⟩ := q
  refine ⟨xs, hx, hl, fun a ha => ?_, by rw [List.filter_eq_self.mpr fun _ _ => rfl]; exact q⟩
  obtain ⟨e', h1, h2⟩ := hd a ha
  exact ⟨e', h1, wp_yes ⟨rfl, rfl, fun _ => h2⟩⟩
/-! ### rows, papers: of anything -/
@[reducible] def rowsD (rs : List R3) : D := .tup (rs.map r3D)
/-! ### sums -/
/-! ### papers -/
end
/-! # G161: what the laws reckon of cuts and papers -/
noncomputable section
end
section
variable {X : XQ} {Q : D → Hs → Prop} {h : Hs} {x y : R3} {e : Ev} {hs : Hs} {ds : List D} {z : Zo} {t : Tb}
instance evt_eqL : Evt (gEqL h (.lst ds) (.lst [])) (.bl ds.isEmpty) := ⟨eqL_lst⟩
/-! ### what is drawn -/
def Pok (p : Pt3) : Prop := (∀ v, p.1 = some v → 4 ≤ v ∧ v ≤ 1000) ∧ (∀ v, p.2.1 = some v → 4 ≤ v ∧ v ≤ 1000) ∧ 0 < p.2.2 ∧ p.2.2 < 5
structure Tok (t : Tb) : Prop where
  a : Pok t.a
  b : Pok t.b
  c : Pok t.c
theorem Tok.m (T : Tok t) : TbM t := ⟨⟨T.a.2.2.1, Nat.lt_trans T.a.2.2.2 (by decide)⟩, ⟨T.b.2.2.1, Nat.lt_trans T.b.2.2.2 (by decide)⟩, T.c.2.2.1, Nat.lt_trans T.c.2.2.2 (by decide)⟩
theorem Pok.l {p : Pt3} (h : Pok p) : ∀ v, lenP z p = some v → 4 ≤ v ∧ v ≤ 1000 := fun v hv => by
  unfold lenP at hv
  split at hv
  · exact h.2.1 v hv
  · exact h.1 v hv
section
end
/-! ### what fits -/
def xs3 (t : Tb) (x : R3) : List (Pt3 × Nat) := [(t.a, x.1), (t.b, x.2.1), (t.c, x.2.2)]
theorem sum_nats {α : Type} {f : α → Nat} {l : List α} : gSum h [.lst (l.map fun p => .int (f p : Int))] = some (.int ((l.map f).sum : Int)) := by
  have := sum_nat (h := h) (l := l.map f)
  rw [List.map_map] at this
  exact this
/-! ### counts -/
end
/-! # G162: the laws' greatest rows, sums, papers: as the program's -/
section
end
/-! # G163: the laws' own checker of papers answers as most_holds -/
section
end
end G

/-! # G164: how many greatest rows there can be; the rows behind each zone, and how they came -/
namespace MR
open PySem PySem.Spec PyProof.Rows L2 G
/-! ### how they came -/
end MR

/-! # G165: the laws' _law_fronts: the rows behind each zone, each with a way to it -/
namespace G
open PySem PySem.Spec PyProof.Rows L2 MR
section
end
/-! # G166: what the laws of papers share (k16 .. k18, k14, k84) -/
instance evt_r3_0 {h : Hs} {x : R3} : Evt (gIx h (r3D x) (.int 0)) (.int (x.1 : Int)) := ⟨ix_tup (atI_nat (by decide) rfl)⟩
instance evt_r3_1 {h : Hs} {x : R3} : Evt (gIx h (r3D x) (.int 1)) (.int (x.2.1 : Int)) := ⟨ix_tup (atI_nat (by decide) rfl)⟩
instance evt_r3_2 {h : Hs} {x : R3} : Evt (gIx h (r3D x) (.int 2)) (.int (x.2.2 : Int)) := ⟨ix_tup (atI_nat (by decide) rfl)⟩
section
variable {L : Nat} {K : Hs → Prop} {h : Hs} {Q : D → Hs → Prop} {X : XQ} {d : D} {n k B : Nat} {t : Tb} {zs : List Zo} {z : Zo}
theorem sk_new2 {z s g : D} {N : Nat} (l : N ≤ h.length) (vz : val z = true) (vs : val s = true) (vg : val g = true) : dW (dH (h ++ [.ins "Skin" (skF z s g)]) N 50) (.ref h.length) = some (skD z s g) := by
  have v : vals ((skF z s g).map (·.2)) = true := by
    show (val z && (val s && (val g && true))) = true
    rw [vz, vs, vg]; rfl
  exact dH_ins (k := 49) get_new l v
end
end G

/-! # G167: min of a tuple of numbers -/
namespace G
open PySem PySem.Spec PyProof.Rows L2
section
end
/-! # G168: for x in reversed(list) -/
section
end
section
end
end G

/-! # G169: the program's most_pairs: the ways behind each zone -/
namespace G
open PySem PySem.Spec PyProof.Rows L2 MR
noncomputable section
end
section
variable {X : XQ} {Q : D → Hs → Prop} {h : Hs} {x y : R3} {e : Ev} {hs : Hs} {ds : List D} {z : Zo} {t : Tb} {zs : List Zo}
/-! ### dicts of rows and what led there -/
def putP (kw : List (R3 × (R3 × R3))) (r : R3) (w : R3 × R3) : List (R3 × (R3 × R3)) := if r ∈ kw.map (·.1) then kw.map (fun p => if p.1 = r then (p.1, w) else p) else kw ++ [(r, w)]
def wOp (kw : List (R3 × (R3 × R3))) (r : R3) : R3 × R3 := ((kw.find? fun p => decide (p.1 = r)).map (·.2)).getD ((0, 0, 0), (0, 0, 0))
/-! ### sums are few -/
abbrev KW := List (R3 × (R3 × R3))
/-- the dict of sums and what they come of, behind i rows -/
def fldW (rows cs : List R3) (i : Nat) : KW := ((rows.take i).flatMap fun r => cs.map fun c => (ad3 r c, (r, c))).foldl (fun kw p => putP kw p.1 p.2) []
/-- what ways_behind tells -/
def waysOf (t : Tb) (rows : List R3) (z : Zo) : KW := (grt (sums rows (gcuts t z))).map fun r => (r, wOp (fldW rows (gcuts t z) rows.length) r)
/-! ### whole cuts -/
/-! ### what is beneath, what they sum up to -/
def sum3 : List R3 → R3
  | [] => (0, 0, 0)
  | c :: cs => ad3 c (sum3 cs)
end
/-! # G170: the program's most_pairs -/
section
variable {X : XQ} {Q : D → Hs → Prop} {h : Hs} {x y : R3} {e : Ev} {hs : Hs} {ds : List D} {z : Zo} {t : Tb} {zs : List Zo}
/-- the steps of most_pairs -/
def stepsOf (t : Tb) : List R3 → List Zo → List KW
  | _, [] => []
  | ah, z :: zs => waysOf t ah z :: stepsOf t (grt (sums ah (gcuts t z))) zs
/-- the way back -/
def bkw : List KW → R3 → List R3
  | [], _ => []
  | k :: ks, r => (wOp k r).2 :: bkw ks (wOp k r).1
/-- rows behind all zones -/
abbrev lastR (t : Tb) (zs : List Zo) : List R3 := lastF [(0, 0, 0)] (fronts t [(0, 0, 0)] zs)
/-! ### the most -/
def mostN (t : Tb) (rs : List R3) : Nat := (rs.map (pr3 t.m)).foldr max 0
def hereOf (t : Tb) (rs : List R3) : R3 := ((rs.filter fun r => decide (pr3 t.m r = mostN t rs)).head?).getD (0, 0, 0)
/-- the cut on the way back, from the first zone on -/
def cutW (t : Tb) (zs : List Zo) : List R3 := (bkw (stepsOf t [(0, 0, 0)] zs).reverse (hereOf t (lastR t zs))).reverse
def wanted (t : Tb) (n : Nat) : R3 := (n * t.m.1, n * t.m.2.1, n * t.m.2.2)
/-! ### the walk -/
end
/-! # G171: what most_pairs tells: its cut fits, uses what is wanted, its paper is right -/
/-! ### the functions -/
noncomputable section
end
section
section
end
end
/-! # G172: no cut gives more than mostM (plain) -/
section
variable {x y : R3} {z : Zo} {t t' : Tb} {zs zs' : List Zo} {cs ds : List R3}
/-- grains turned about -/
def turnP (p : Pt3) : Pt3 := (p.2.1, p.1, p.2.2)
def turnT (t : Tb) : Tb := ⟨turnP t.a, turnP t.b, turnP t.c⟩
theorem Tok.turn (T : Tok t) : Tok (turnT t) := ⟨⟨T.a.2.1, T.a.1, T.a.2.2⟩, ⟨T.b.2.1, T.b.1, T.b.2.2⟩, ⟨T.c.2.1, T.c.1, T.c.2.2⟩⟩
end
end G

/-! # G173: functions that may run while an exception is handled (they raise nothing, walk over nothing) -/
namespace L2H
open PySem PySem.Spec PyProof.Rows L2
theorem RoomH.units {k : Nat} {A : Around} (r : RoomH k A) : A.units + 64 < cLine := by have := r.un; omega
end L2H
namespace G
open PySem PySem.Spec PyProof.Rows L2
/-- the context of such a function's body -/
def cxC (P : Program) (w : World) (K : PySem.W.Frag) (mg : Str → Option Value) (base : Heap) (N : List Str) (qual : Str) (scope : Scope) (f : Addr) (cd : Value) (A : Around) (outer : List Env) (s : Shared) (H : Hp) (E : XK) : Cx :=
  { cxOf (L2.CX P w) P w K mg base N qual scope f cd A outer s H E with calm := false }
theorem inv_startC {P : Program} {w : World} {K : PySem.W.Frag} {mg : Str → Option Value} {base : Heap} {N ps : List Str} {qual : Str} {scope : Scope} {f : Addr} {cd : Value} {A : Around} {outer : List Env} {s s1 : Shared} {H : Hp} {E : XK} {us : List Value} {vs : List V}
    (S : FnScope N ps scope) (e0 : Env0 P w K mg base A outer s H) (hl : vs.length = ps.length) (r : Vals vs us)
    (x : InCallC s s.heap.objs.size (bindL (envOfC qual scope s.heap.objs.size f cd).kindOf (ps.zip us) fun _ => none) (cellsFrom (s.heap.objs.size + 1) scope.names []) (bindC (envOfC qual scope s.heap.objs.size f cd).kindOf (ps.zip us) fun _ => none) s1) :
    Inv (cxC P w K mg base N qual scope f cd A outer s H E) [] (start N vs) H s1 := by
  have e1 : Env0 P w K mg base ({ A with handled := none } : Around) outer s H := ⟨e0.frames, e0.mod, e0.bs, e0.bsz, e0.funs, e0.frf, e0.hok, e0.bare⟩
  have I : Inv (cxOf (L2.CX P w) P w K mg base N qual scope f cd ({ A with handled := none } : Around) outer s H E) [] (start N vs) H s1 := inv_start S rfl e1 hl r x
  have ok := I.ok
  exact ⟨⟨ok.mod, ok.kind, ok.glob, ok.blt, ok.above, ok.inj, ok.has, ok.cab, (fun z => absurd (show false = true from z) Bool.false_ne_true), ok.frames, ok.stk, ok.exf, ok.bs, ok.bsz, ok.noex, ok.exfs, ok.funs, ok.frf⟩, I.os, I.bare, I.base, I.loc, I.cell, I.free, I.freeC, I.pin, I.hok, I.len⟩
/-- a def's promise, whatever exception is handled -/
structure FnC (P : Program) (w : World) (K : PySem.W.Frag) (mg : Str → Option Value) (base : Heap) (k : Nat) (f : Addr) (fd : FuncData) (ps : List Str) (sp : Sp) : Prop where
  len : ∀ vs H Q E, sp vs H Q E → vs.length = ps.length
  run : ∀ (A : Around) (outer : List Env) (s : Shared) (H : Hp) (args : Args) (us : List Value) (vs : List V) (Q : VK) (E : XK), L2H.RoomH k A → A.guards = some [] → Env0 P w K mg base A outer s H →
    BindsTo s fd args (ps.zip us) → Vals vs us → sp vs H Q E → codeAny (model P w) A (.call (.ref f) args) (CR (L2.CX P w) outer P w H s Q E) s
structure BdC (X : Cx) (Wd : WX) (k : Nat) : Prop where
  room : L2H.RoomH k X.A
  gd : X.A.guards = some []
  tk : Takes X Wd
  po : PassesOwn (model X.prog X.w) X.A X.env X.xe
  sm : ∃ o, X.base.get? sysModules = some o
section
variable {P : Program} {w : World} {K : PySem.W.Frag} {mg : Str → Option Value} {base : Heap}
theorem fnC_of {qual : Str} {f : Addr} {N ps : List Str} {k : Nat} {params : Arguments} {body : List Stmt} {scope : Scope} {x : Str} {oc dV kV doc pm cdv ct : Value} {od an : Option Addr} {osl : Array (Option Value)}
    (hsm : ∃ o, base.get? sysModules = some o) (lk : K.lookup f = some ⟨oc, od, .func (PySem.W.fnOf x qual params body scope dV kV doc pm an cdv ct), osl⟩) (hcd : PySem.W.codeIn K cdv qual = true) (S : FnScope N ps scope) (b : FS)
    (hb : ∀ (A : Around) (outer : List Env) (s : Shared) (H : Hp) (E : XK), BdC (cxC P w K mg base N qual scope f cdv A outer s H E) (fun cls dx _ H' => E cls dx H') k →
      USs (cxC P w K mg base N qual scope f cdv A outer s H E) (fun cls dx _ H' => E cls dx H') body b) :
    FnC P w K mg base (k + 1) f (PySem.W.fnOf x qual params body scope dV kV doc pm an cdv ct) ps (spU K mg ps.length (fnBody N.length b)) := by
  have len : ∀ vs H Q E, spU K mg ps.length (fnBody N.length b) vs H Q E → vs.length = ps.length := fun vs H Q E ⟨mu, hs, ds, _, r, l, _⟩ => by rw [← r.length, l]
  refine ⟨len, fun A outer s H args us vs Q E hr hgd e0 hbi r hsp => ?_⟩
  have hl := len _ _ _ _ hsp
  have KX : K.In s.heap := e0.mod.kin.keeps fun b o e => (e0.bs b o e).1
  have lim : s.heap.NoLimit := e0.mod.nolimit.keeps fun b o e => (e0.bs b o e).1
  have hkind : ∀ y ∈ ps.zip us, scope.names.lookup y.1 = some .local ∨ (scope.names.lookup y.1 = some .cell ∧ ((cellsFrom (s.heap.objs.size + 1) scope.names []).lookup y.1).isSome = true) := by
    rintro ⟨n, v⟩ hy
    exact (S.par n (List.of_mem_zip hy).1).elim .inl fun q => .inr ⟨q, PySem.W.cellsFrom_some _ _ _ (.inl q)⟩
  apply codeAny_call_function hr.depth (KX _ _ lk) rfl S.co S.gen rfl (PySem.W.codeRec_of KX hcd)
  apply hbi
  apply wpAny_newFunctionEnv_cells S.kind hkind
  rintro env rfl s1 x1
  refine ⟨lim.keeps x1.toInCall.keep, codeAny_func ?_⟩
  have I : Inv (cxC P w K mg base N qual scope f cdv A outer s H E) [] (start N vs) H s1 := inv_startC S e0 hl r x1
  have B : BdC (cxC P w K mg base N qual scope f cdv A outer s H E) (fun cls dx _ H' => E cls dx H') k := ⟨hr.deeper _, hgd, takes_of rfl rfl rfl rfl, passes_of rfl, hsm⟩
  obtain ⟨mu, hs, ds, Sm, rd, ld, g⟩ := hsp
  have hq : tS K mg (fun cls dx _ H' => E cls dx H') b { nx := fun _ H' => Q .non H', rt := Q } (start N vs) H := by
    refine ⟨_, mu, hs, Sm, RE.start rd N, ?_⟩
    unfold fnBody at g
    cases q : b (ds.map some ++ List.replicate (N.length - ds.length) none) hs with
    | nx e hs' => rw [q] at g; exact fun mu' H' σ' l s' _ => g mu' H' .non l s' .non
    | ret d hs' => rw [q] at g; exact fun mu' H' v l s' rv => g mu' H' v l s' rv
    | exc c fs e hs' => rw [q] at g; exact fun mu' H' σ' cls dx l s' _ rx => g mu' H' cls dx l s' rx
    | brk e hs' => rw [q] at g; exact g.elim
    | cnt e hs' => rw [q] at g; exact g.elim
    | bad => rw [q] at g; exact g.elim
  refine wpAny_mono ((hb A outer s H E B).run [] s1 (start N vs) H _ I hq) (fun fl s' h => ?_) fun _ _ h => h
  cases fl with
  | ret u => obtain ⟨v, σ', H', J, rv, q⟩ := h; exact ⟨v, H', J.os, J.bare, J.base, J.hok, rv, q⟩
  | next => obtain ⟨σ', H', J, q⟩ := h; exact ⟨.non, H', J.os, J.bare, J.base, J.hok, rfl, q⟩
  | brk => obtain ⟨_, _, _, z⟩ := h; exact z.elim
  | cont => obtain ⟨_, _, _, z⟩ := h; exact z.elim
end
section
variable {K : PySem.W.Frag} {x qual : Str} {st : Stmt} {f : Addr} {fd : FuncData} {ps : List Str}
theorem fun_okC {P : Program} {w : World} {mg : Str → Option Value} {base : Heap} {N : List Str} {k : Nat} (F : Fun K x qual st f fd) (hsm : ∃ o, base.get? sysModules = some o) (S : FnScope N ps (defScope st)) (b : FS)
    (hb : ∀ (cdv : Value) (A : Around) (outer : List Env) (s : Shared) (H : Hp) (E : XK), BdC (cxC P w K mg base N qual (defScope st) f cdv A outer s H E) (fun cls dx _ H' => E cls dx H') k →
      USs (cxC P w K mg base N qual (defScope st) f cdv A outer s H E) (fun cls dx _ H' => E cls dx H') (defBody st) b) : FnC P w K mg base (k + 1) f fd ps (spU K mg ps.length (fnBody N.length b)) := by
  obtain ⟨oc, od, kV, doc, pm, an, cdv, ct, osl, rfl, lk, hcd⟩ := F.ex
  exact fnC_of hsm lk hcd S b fun A outer s H E B => hb cdv A outer s H E B
end
section
variable {X : Cx} {Wd : WX} {k k' n : Nat} {f : Addr} {fd : FuncData} {ps ks : List Str} {fn : List D → Hs → R D} {dds : List D} {dvs : List V} {ds : List Value} {is : List Nat} {x : Str} {p pos kpos : Pos} {e : Expr} {es : List Expr} {fa fk : FA} {kws : List Keyword}
theorem runC {pins : List (Addr × Obj)} {σ : L2.St} {H : Hp} {s : Shared} {Q : VK} {us ws : List Value} {vs zs : List V} (F : FnC X.prog X.w X.K X.mg X.base k f fd ps (spU X.K X.mg ps.length fn)) (hr : L2H.RoomH k X.A) (hgd : X.A.guards = some []) (tk : Takes X Wd)
    (hb : BindK X.K fd ps n ks is ds) (hd : Vals dvs ds) (hdd : ∀ mu H, RDs X.K mu H dds dvs) (I : Inv X pins σ H s) (r : Vals vs us) (rz : Vals zs ws) (hn : us.length = n) (hks : ws.length = ks.length)
    (h : ∃ mu hs es qs, Sim X.K X.mg mu hs H ∧ RDs X.K mu H es vs ∧ RDs X.K mu H qs zs ∧ (selL is es qs dds).length = ps.length ∧ Gd (relD X.K) X.K X.mg Wd σ mu H Q (fn (selL is es qs dds) hs)) :
    wpAny (model X.prog X.w) X.A (call (.ref f) us (ks.zip ws)) (EP X pins σ Q) X.xe s := by
  obtain ⟨mu, hs, es, qs, S, r1, r2, hl, g⟩ := h
  have hsp : spU X.K X.mg ps.length fn (selL is vs zs dvs) H Q (WE Wd σ) := by
    refine ⟨mu, hs, _, S, RDs.sel r1 r2 (hdd mu H) is, hl, ?_⟩
    cases q : fn (selL is es qs dds) hs with
    | ok d hs' => rw [q] at g; exact g
    | exc c fs hs' => rw [q] at g; exact g
    | bad => rw [q] at g; exact g
  have c := F.run X.A X.stack s H ⟨us, ks.zip ws⟩ (selL is us ws ds) (selL is vs zs dvs) Q (WE Wd σ) hr hgd I.env0 (hb s us ws I.kIn hn hks) (Vals.sel r rz hd is) hsp
  refine wpAny_call (codeAny_mono c fun rr s' hq => ?_)
  cases rr with
  | error x => exact passAt tk σ pins H s x s' I hq
  | ok fl =>
    cases fl with
    | ret u => exact I.after hq
    | _ => exact False.elim hq
theorem ue_fnC (B : BdC X Wd k') (F : FnC X.prog X.w X.K X.mg X.base k f fd ps (spU X.K X.mg ps.length fn)) (hr : k ≤ k') (hm : X.mg x = some (.ref f)) (hk : PySem.W.keepIn X.K (.ref f) = true)
    (hb : BindK X.K fd ps (e :: es).length [] is []) (ha : UA X Wd (e :: es) fa) (hla : ∀ ev hs qs hs', fa ev hs = .ok qs hs' → qs.length = (e :: es).length) (hi : is.all (fun i => decide (i < (e :: es).length)) = true := by decide) (hl : is.length = ps.length := by rfl) (hg : L2.Gl X x := by rfl)
    (hdb : (x == ("__debug__" : Str)) = false := by decide) (he : starEach (e :: es) X.env = (false, eval e X.env) :: starEach es X.env := by rfl) (hpl : (backTo pos (starEach es X.env)).any (·.1) = false := by rfl) :
    UE X Wd (.Call (.Name x p) (e :: es) [] pos) (eFn fn is [] fa) := by
  refine ⟨fun pins s σ H Q I h => ?_⟩
  obtain ⟨ev, mu, hs, S, E, g⟩ := h
  unfold eFn at g
  refine wpAny_Call_Name_kw (ld_glob I hg hm ?_ hdb)
  refine PySem.W.callWith_K (h₀ := X.base) I.ok.mod.kin hk (thn (ha.run pos pins s σ H (fun vs H1 => ∃ mu hs es, Sim X.K X.mg mu hs H1 ∧ RDs X.K mu H1 es vs ∧ (∃ ev h0, fa ev h0 = .ok es hs) ∧ Gd (relD X.K) X.K X.mg Wd σ mu H1 Q (fn (selL is es [] []) hs)) I ⟨ev, mu, hs, S, E, ?_⟩) fun us s1 ⟨vs, H1, I1, r, mu1, hs1, es1, S1, r1, ⟨ev1, h01, q1⟩, g1⟩ => ⟨I1.kIn, ?_⟩) he hpl
  · cases q : fa ev hs with
    | ok qs hs' => rw [q] at g; exact fun mu' H' y l s rr => ⟨mu', hs', qs, s, rr, ⟨ev, hs, q⟩, Gd.later relD_ok l g⟩
    | exc c fs hs' => rw [q] at g; exact g
    | bad => rw [q] at g; exact g
  · have h1 := hla _ _ _ _ q1
    have l1 : (selL is es1 [] []).length = ps.length := by rw [selL_len _ _ _ _ (by rw [h1]; exact all_lt hi), hl]
    exact runC (us := us) (ws := []) (vs := vs) (zs := []) (ks := []) F (B.room.mono hr) B.gd B.tk hb .nil (fun _ _ => .nil) I1 r .nil (by rw [← r.length, ← r1.length, h1]) rfl ⟨mu1, hs1, es1, [], S1, r1, .nil, l1, g1⟩
end
section
variable {P : Program} {w : World} {K : PySem.W.Frag} {mg : Str → Option Value} {base : Heap} {k : Nat} {f : Addr} {fd : FuncData} {ps : List Str} {sp : Sp}
/-- where nothing is handled it is a function as others -/
theorem FnC.g (F : FnC P w K mg base k f fd ps sp) : FnG P w K mg base k f fd ps sp :=
  ⟨F.len, fun A outer s H args us vs Q E hr hg => F.run A outer s H args us vs Q E (L2H.roomH_of hr) hg⟩
theorem FnC.eq {n : Nat} {fn fn' : List D → Hs → R D} (F : FnC P w K mg base k f fd ps (spU K mg n fn)) (h : ∀ ds hs, fn' ds hs = fn ds hs) : FnC P w K mg base k f fd ps (spU K mg n fn') := by
  have e : fn' = fn := funext fun ds => funext fun hs => h ds hs
  rw [e]; exact F
/-- what stands in an except suite -/
theorem Bd.suC {X : Cx} {Wd : WX} {k : Nat} (B : Bd X Wd k) (a : Addr) (pn : List (Addr × Obj)) : BdC (X.suite a pn) W0 k := ⟨L2H.roomH_mark B.room _, B.gd, takes0, PassesOwn.never, B.sm⟩
end
/-! # G174: sum(a tuple of whole numbers, start=0) -/
section
end

section
end
/-! ### int(text) -/
def gIntT (hs : Hs) (ds : List D) : Option D := match ds with
  | [.str a] => if a.length ≤ 640 then (match intText? a with | some n => some (.int n) | none => none) else none
  | ds => gInt hs ds
theorem cg_intT {X : Cx} : CallR X (.type "int") (rC X.K X.mg gIntT) := by
  rintro pins s σ H xs us Q I r ⟨mu, hs, ds, w, S, rs, hg, q⟩
  unfold gIntT at hg
  split at hg
  · split at hg
    · rename_i hl
      split at hg
      · rename_i n hn
        cases hg
        cases rs with
        | cons r1 r2 => cases r1; cases r2; exact L2.call_int_str pins s σ H _ us Q I r ⟨_, _, rfl, hn, hl, fin0 S q (.int _)⟩
      · cases hg
    · cases hg
  · exact cg_int pins s σ H xs us Q I r ⟨mu, hs, _, w, S, rs, hg, q⟩
theorem intT_str {h : Hs} {a : Str} {n : Int} (l : a.length ≤ 640) (e : intText? a = some n) : gIntT h [.str a] = some (.int n) := by
  show (if a.length ≤ 640 then (match intText? a with | some n => some (D.int n) | none => none) else none) = _
  rw [if_pos l, e]
/-! # G175: calls of methods with defaults -/
section
end
/-! # G176: o.f += whole number -/
section
end
/-! # G177: comprehensions over the keys of a dict of ours that goes on living: locked meanwhile -/
section
end
/-! # G178: d.pop(k) of a dict of ours, k there -/
def dropG {k : Type} [DecidableEq k] (kvs : List (k × D)) (x : k) : List (k × D) := kvs.filter fun kv => decide (kv.1 ≠ x)
theorem RKs.drop {K : PySem.W.Frag} {mu : Mp} {H : Hp} {k : Type} [DecidableEq k] {x : k} : ∀ {ds : List (k × D)} {vs : List (k × V)}, RKs K mu H ds vs → RKs K mu H (dropG ds x) (dropK vs x)
  | _, _, .nil => .nil
  | _, _, .cons (x := y) (d := d0) (v := v0) (ds := ds) (vs := vs) q t => by
    have ih := RKs.drop (x := x) t
    unfold dropG dropK at ih ⊢
    rw [List.filter_cons, List.filter_cons]
    by_cases h : y = x
    · rw [if_neg (by simp [h]), if_neg (by simp [h])]; exact ih
    · rw [if_pos (by simp [h]), if_pos (by simp [h])]; exact .cons q ih
/-! # G179: try, where nothing is raised in the body -/
section
end
/-! # G180: the program's look at a deed -/
noncomputable section
abbrev k_ACROSS : D := (.str "across")
abbrev k_MOST_LENGTH : D := (.int 24)
abbrev k_MOST_STRETCH : D := (.int 40)
abbrev k_MOST_ZONES : D := (.int 4)
abbrev k_PARTS : D := (.int 3)
end
end G
namespace G.SD
open PySem PySem.Spec L2 G
@[simp] def isZn : D → Bool
  | .tup [.str z, b] => ((z == Str.ofString "along") || (z == Str.ofString "across")) && isB 1 24 b
  | _ => false
def areZ : D → Bool
  | .tup ds => (decide (1 ≤ ds.length) && decide (ds.length ≤ 4)) && ds.all isZn
  | _ => false
section
variable {h : Hs} {d : D} {k n : Nat}
theorem nf {b : Bool} (h : (!b) = false) : b = true := by cases b <;> first | rfl | cases h
end
/-! ### idents, pairs, results -/
section
end
/-! ### the parts of a deed -/
def skinB : List D → Bool
  | [n, z, s, g] => isNa n && (areZ z && (isB 0 40 s && isB 0 2 g))
  | _ => false
section
end
/-! ### the program's look at a deed -/
section
variable {h : Hs} {d : D} {k n : Nat} {a b c e f : D} {Q : D → Hs → Prop} {X : XQ} {w z u v : Str} {ps : List D}
theorem skin_len (h : ps.length ≠ 4) : skinB ps = false := by
  match ps, h with
  | [], _ => rfl
  | [_], _ => rfl
  | [_, _], _ => rfl
  | [_, _, _], _ => rfl
  | [_, _, _, _], h => exact absurd rfl h
  | _ :: _ :: _ :: _ :: _ :: _, _ => rfl
theorem w_on (e : (w == Str.ofString "on") = true) : (w == Str.ofString "skin") = false ∧ (w == Str.ofString "cut") = false ∧ (w == Str.ofString "out") = false ∧ (w == Str.ofString "in") = false ∧ (w == Str.ofString "order") = false ∧ (w == Str.ofString "ship") = false := by
  rw [eq_of_beq e]; decide +kernel
end
end G.SD

/-! # G181: the program's cuts, tables, gloves of a cut -/
namespace G
open PySem PySem.Spec PyProof.Rows L2
noncomputable section
def f_cut_in_all : FS := (sRet (eCall gTuple (aCons (eV (lComp (iR1 (aCons (eC k_PARTS) aNil)) (nSet 1) tYesF (eCall gSum (aCons (eV (lComp (iAny (eName 0)) (nSet 2) tYesF (eBin gIx (eName 2) (eName 1)) [2])) aNil)) [1])) aNil)))
def c_cut_in_all : List D → Hs → R D := fnBody 3 f_cut_in_all
def f_pairs_given : FS := (sRet (eCall gMinL (aCons (eV (lComp (iOf zpOf (aCons (eName 0) (aCons (eFn c_cut_in_all [0] [] (aCons (eName 1) aNil)) aNil))) (nTup 2 (nCons (nSet 2) (nCons (nSet 3) nNil))) tYesF (eBin gDiv (eName 3) (eBin gIx (eName 2) (eC (.int 2)))) [2, 3])) aNil)))
def c_pairs_given : List D → Hs → R D := fnBody 4 f_pairs_given
def f_is_whole_cut : FS := (sSeq (sSet 2 (eFn c_pairs_given [0, 1] [] (aCons (eName 0) (aCons (eName 1) aNil))))
  (sRet (eCall gAll (aCons (eV (lComp (iOf zpOf (aCons (eName 0) (aCons (eFn c_cut_in_all [0] [] (aCons (eName 1) aNil)) aNil))) (nTup 2 (nCons (nSet 3) (nCons (nSet 4) nNil))) tYesF (eBin gEq (eName 4) (eBin gMul (eName 2) (eBin gIx (eName 3) (eC (.int 2))))) [3, 4])) aNil))))
def c_is_whole_cut : List D → Hs → R D := fnBody 5 f_is_whole_cut
end
end G
namespace G.SC
open PySem PySem.Spec L2 G MR
section
variable {L : Nat} {K : Hs → Prop} {h : Hs} {Q : D → Hs → Prop} {X : XQ} {d : D} {k B : Nat} {t : Tb} {zs : List Zo} {z : Zo} {x : R3} {cs : List R3} {s g : D}
/-! ### the program's cuts -/
def co3 (x : R3) : Nat → Nat
  | 0 => x.1
  | 1 => x.2.1
  | _ => x.2.2
theorem sum_co : ∀ (cs : List R3) (k : Nat), (cs.map fun c => co3 c k).sum = co3 (sum3 cs) k
  | [], 0 => rfl
  | [], 1 => rfl
  | [], _ + 2 => rfl
  | c :: cs, 0 => congrArg (c.1 + ·) (sum_co cs 0)
  | c :: cs, 1 => congrArg (c.2.1 + ·) (sum_co cs 1)
  | c :: cs, k + 2 => congrArg (c.2.2 + ·) (sum_co cs (k + 2))
theorem ix_co {x : R3} {k : Nat} (hk : k < 3) : gIx h (r3D x) (.int (k : Int)) = some (.int (co3 x k : Int)) := by
  have : k = 0 ∨ k = 1 ∨ k = 2 := by omega
  rcases this with rfl | rfl | rfl
  · exact ix_tup (atI_nat (by decide) rfl)
  · exact ix_tup (atI_nat (by decide) rfl)
  · exact ix_tup (atI_nat (by decide) rfl)
theorem in_all_eq (l4 : cs.length ≤ 4) : c_cut_in_all [rowsD cs] h = .ok (r3D (sum3 cs)) h := by
  refine eq_any fun Q X c => ?_
  unfold c_cut_in_all f_cut_in_all
  refine wp_bodyE [some (rowsD cs), none, none] rfl ?_
  fail "n"
  refine wp_cmI (fun k : Nat => .int (k : Int)) (fun k => .int (co3 (sum3 cs) k : Int)) (wp_r1 (wp_acons (wp_c (wp_anil ?_))))
  refine ⟨_, rfl, rfl, [0, 1, 2], fun j => ?_, by decide, fun k hk => ⟨_, rfl, ?_⟩, ?_⟩
  · rcases j with _ | _ | _ | j
    · rfl
    · rfl
    · rfl
    · show nxN 0 3 h (j + 3) = _
      unfold nxN
      rw [if_neg (by omega)]; rfl
  · have hk3 : k < 3 := by
      simp only [List.mem_cons, List.not_mem_nil, or_false] at hk
      omega
    fail "n"
    refine wp_cma r3D (fun c => .int (co3 c k : Int)) (wp_any ?_)
    fail "n"
    refine ⟨by omega, fun x hx => ⟨_, rfl, ?_⟩, ?_⟩
    · fail "n"
      refine wp_some (ix_co hk3) ?_
      first | rfl | exact ⟨rfl, rfl⟩
    fail "n"
    refine wp_some sum_nats ?_
    rw [sum_co]
    fail "n"
    first | rfl | exact ⟨rfl, rfl⟩
  fail "n"
  exact c
theorem given3 : minI [(x.1 : Int) / (t.a.2.2 : Int), (x.2.1 : Int) / (t.b.2.2 : Int), (x.2.2 : Int) / (t.c.2.2 : Int)] = (pr3 t.m x : Int) := by
  unfold pr3 Tb.m
  show (let m := (let m := (x.2.2 : Int) / (t.c.2.2 : Int); if m < (x.2.1 : Int) / (t.b.2.2 : Int) then m else (x.2.1 : Int) / (t.b.2.2 : Int)); if m < (x.1 : Int) / (t.a.2.2 : Int) then m else (x.1 : Int) / (t.a.2.2 : Int)) = _
  dsimp only
  rw [← Int.natCast_ediv, ← Int.natCast_ediv, ← Int.natCast_ediv]
  generalize x.1 / t.a.2.2 = u
  generalize x.2.1 / t.b.2.2 = v
  generalize x.2.2 / t.c.2.2 = w
  split <;> split <;> omega
theorem pairs_given_eq (M : TbM t) (l4 : cs.length ≤ 4) : c_pairs_given [tbD t, rowsD cs] h = .ok (.int (pr3 t.m (sum3 cs) : Int)) h := by
  refine eq_any fun Q X c => ?_
  unfold c_pairs_given f_pairs_given
  refine wp_bodyE [some (tbD t), some (rowsD cs), none, none] rfl ?_
  fail "n"
  refine wp_cma (fun p : Pt3 × Nat => .tup [p3D p.1, .int (p.2 : Int)]) (fun p => .int ((p.2 : Int) / (p.1.2.2 : Int))) ?_
  fail "n"
  refine wp_of (in_all_eq l4) ?_
  fail "n"
  refine ⟨xs3 t (sum3 cs), (by rw [nxZ_L]; rfl), Nat.le_of_ble_eq_true rfl, fun p hp => ⟨_, rfl, ?_⟩, ?_⟩
  · have hp : 0 < p.1.2.2 ∧ p.1.2.2 < 1000 := by
      unfold xs3 at hp
      simp only [List.mem_cons, List.not_mem_nil, or_false] at hp
      rcases hp with rfl | rfl | rfl
      · exact M.1
      · exact M.2.1
      · exact M.2.2
    fail "n"
    refine wp_some (show gIx h (p3D p.1) (.int 2) = some (.int (p.1.2.2 : Int)) from rfl) ?_
    refine wp_some (div_int (by omega) (by omega)) ?_
    first | rfl | exact ⟨rfl, rfl⟩
  · fail "n"
    refine wp_some (min_l (n := ((sum3 cs).1 : Int) / (t.a.2.2 : Int)) (ns := [((sum3 cs).2.1 : Int) / (t.b.2.2 : Int), ((sum3 cs).2.2 : Int) / (t.c.2.2 : Int)])) ?_
    rw [given3]
    fail "n"
    exact c
theorem whole_eq (M : TbM t) (l4 : cs.length ≤ 4) (hs : sum3 cs = wanted t (pr3 t.m (sum3 cs))) : c_is_whole_cut [tbD t, rowsD cs] h = .ok (.bl true) h := by
  obtain ⟨P, eP⟩ : ∃ P, P = pr3 t.m (sum3 cs) := ⟨_, rfl⟩
  refine eq_any fun Q X c => ?_
  unfold c_is_whole_cut f_is_whole_cut
  refine wp_bodyE [some (tbD t), some (rowsD cs), none, none, none] rfl ?_
  fail "n"
  refine wp_of (pairs_given_eq M l4) ?_
  fail "n"
  refine wp_cma (fun p : Pt3 × Nat => .tup [p3D p.1, .int (p.2 : Int)]) (fun p => .bl true) ?_
  fail "n"
  refine wp_of (in_all_eq l4) ?_
  fail "n"
  rw [← eP] at hs ⊢
  rw [hs]
  refine ⟨[(t.a, P * t.m.1), (t.b, P * t.m.2.1), (t.c, P * t.m.2.2)], (by rw [nxZ_L]; rfl), Nat.le_of_ble_eq_true rfl, fun p hp => ⟨_, rfl, ?_⟩, ?_⟩
  · have hp : p.2 = P * p.1.2.2 ∧ p.1.2.2 < 1000 := by
      simp only [List.mem_cons, List.not_mem_nil, or_false] at hp
      rcases hp with rfl | rfl | rfl
      · exact ⟨rfl, M.1.2⟩
      · exact ⟨rfl, M.2.1.2⟩
      · exact ⟨rfl, M.2.2.2⟩
    fail "n"
    refine wp_some (show gIx h (p3D p.1) (.int 2) = some (.int (p.1.2.2 : Int)) from rfl) ?_
    refine wp_some (mul_int (by rw [small_of (i := (p.1.2.2 : Int)) (Int.natCast_nonneg _) (by omega), Bool.or_true])) ?_
    fail "n"
    rw [hp.1, Int.natCast_mul, beq_self_eq_true]
    first | rfl | exact ⟨rfl, rfl⟩
  fail "n"
  refine wp_some (gAll_map (fun _ : Pt3 × Nat => true) [(t.a, P * t.m.1), (t.b, P * t.m.2.1), (t.c, P * t.m.2.2)]) ?_
  fail "n"
  exact c
end
section
end
section
end
end G.SC

/-! # G182: xs.count(y) of data -/
namespace G
open PySem PySem.Spec PyProof.Rows L2
section
end
/-! ### len of a dict with tuples as keys -/
/-! ### min of three -/
section
end
/-! # G183: [f(x) for x in ..], f a def of ours that may raise -/
/-- behind a call that let an exception out, in the block of a comprehension -/
def BlkX (XB : Cx) (EK : XK) (u : Value) (s' : Shared) : Prop := ∃ pins σ H s, Inv XB pins σ H s ∧ CX XB.prog XB.w XB.stack H s EK u s'
section
variable {X : Cx} {W : WX} {EK : XK} {σ : L2.St} {H3 : Hp} {s3 : Shared} {scope : Scope} {ce : Env} {fp : List Addr}
/-- it leaves the block: its names are let go, then it goes on in the def -/
theorem blkx_out (hs : X.stack = X.env :: X.outer) (hf : X.env.frame = some X.env.locals) (tk : Takes X W) (I3 : Inv X [] σ H3 s3) (hce : ce.frame = X.env.frame) (hC : s3.heap.objs.size ≤ ce.locals) (hfp : ∀ b ∈ fp, FpOk X [] H3 b)
    (hW : ∀ cls d H', EK cls d H' → W cls d σ H') {u : Value} {s' : Shared} (x : BlkX (X.blk s3 H3 scope ce fp) EK u s') :
    notedBy (model X.prog X.w) X.A ce (CompFails (model X.prog X.w) X.A X.xe ce) u s' := by
  obtain ⟨pins', σ', H1, s1, I1, a, B, H', cls, d, rfl, fl, hok, ub, na, os, ag, hE⟩ := x
  have nC : H1 ce.locals = none := I1.free
  have IX : Inv X [] σ H1 s1 := I3.call' (ch := fp) I1.os I1.base I1.hok I1.bare fun b hb =>
    let ⟨_, z1, _, z2, z3, z4⟩ := hfp b hb
    ⟨z2, z1, z3, z4⟩
  obtain ⟨_, c1, c2, c3, c4, c5⟩ : FpOk X [] H3 ce.locals := I3.fpOk hC (by
    have h1 : H3 ce.locals = none := I3.hok.fresh hC
    exact h1)
  have cS : ce.locals ∉ frs X.stack := fun hm => by
    rw [hs] at hm
    unfold frs at hm
    rw [List.filterMap_cons, hf] at hm
    exact (List.mem_cons.mp hm).elim c1 c2
  -- the block's names stand yet
  obtain ⟨m, ⟨oL, es, ep, hoL, hdL, hr⟩, _⟩ := I1.loc
  have hoL : s1.heap.get? ce.locals = some oL := hoL
  have hn : s'.heap.Ns ce.locals m := ⟨oL, es, ep, fl.1 _ _ (ub.keep _ _ hoL nC cS), hdL, hr⟩
  have nH' : H' ce.locals = none := ub.free _ _ hoL nC
  -- the exception, as the def would have it
  obtain ⟨a2, B2, sI, pins2, σ2, H2, cls2, d2, e2, I2, nb, up, sky, na2, os2, ag2, rfl, hHC, w2⟩ :=
    XE.of_call (X := X) (W := fun cls d τ H => τ = σ ∧ H ce.locals = none ∧ W cls d σ H) (E := fun cls d H => EK cls d H ∧ H ce.locals = none) IX (fun cls d H' z => ⟨rfl, z.2, hW _ _ _ z.1⟩)
      (u := .ref a) (s' := s') ⟨a, B, H', cls, d, rfl, fl, hok, ub, na, os, ag, hE, nH'⟩
  cases e2
  have hfr : X.A.frames = some (X.env :: X.outer) := by rw [I2.ok.frames, hs]
  show wpAny _ _ (noteFrame (.ref a) ce) _ _ _
  rw [noteFrame_env _ hce]
  have fin : ∀ h1, HandSPX.HeldZ B2 (X.env :: X.outer) a (Zc cls2 d2) X.env.locals h1 → s'.heap.UpToSlots h1 → CompFails (model X.prog X.w) X.A X.xe ce (.ref a) { s' with heap := h1 } := by
    rintro h1 ⟨f1, f2, f3, oe, vs, T, oT, ts, he, hz, hd, hv1, hnT, hTe, hT, hdT, ht3⟩ up1
    have hn1 : h1.Ns ce.locals m := Heap.Ns.upToSlots hn up1
    refine ⟨m, hn1, fun h' m' hn' sb => ?_⟩
    have notC : ∀ {b : Addr} {o : Obj} {zs : Array Value}, h1.get? b = some o → o.data = .fields zs → b ≠ ce.locals := fun {b o zs} g1 g2 e => by
      obtain ⟨oC, _, _, q1, q2, _⟩ := hn1
      rw [e, q1] at g1
      cases g1
      rw [q2] at g2
      cases g2
    have keep : ∀ b, b ≠ ce.locals → ∀ o, h1.get? b = some o → h'.get? b = some o := fun b hb o g => (sb.2 b hb).trans g
    obtain ⟨B3, eB3⟩ : ∃ B3, B3 = PySem.W.hideAll B2 [ce.locals] := ⟨_, rfl⟩
    have b3 : ∀ {b o}, B3.get? b = some o → B2.get? b = some o ∧ b ≠ ce.locals := fun {b o} g => by
      rw [eB3] at g
      refine ⟨PySem.W.of_hideAll _ g, fun e => ?_⟩
      rw [e, PySem.W.hideAll_none _ List.mem_cons_self] at g
      cases g
    have b3n : ∀ {b}, B2.get? b = none → B3.get? b = none := fun {b} g => by
      cases q : B3.get? b with
      | none => rfl
      | some o => have z := (b3 q).1; rw [g] at z; cases z
    have ff : h'.FunFrames B3 (X.env :: X.outer) := funFrames_none (Heap.FunFrames.sameBut sb hn' f3) fun F hF => b3n (Heap.FunFrames.mem f3 hF).1
    unfold PySem.passOn
    refine wpAny_bind (wpAny_field (keep _ (notC he hd) _ he) hd hv1 ?_)
    rw [if_neg (show ¬ ((Value.ref T == Value.none) = true) from fun z => by simp at z), hce, hf]
    refine wpAny_bind (HandSPX.setFlight_anyZ (base := B3) (l := X.env :: X.outer) (Z := Zc cls2 d2) (fl := rawInt X.env.locals) (fun b o g => ?_) ff ⟨oe, vs, T, oT, ts, keep _ (notC he hd) _ he, hz, hd, hv1, b3n hnT, hTe, keep _ (notC hT hdT) _ hT, hdT, ht3⟩ fun h2 k1 k2 k3 k4 => wpAny_throw ?_)
    · exact keep b (b3 g).2 o (f1 b o (b3 g).1)
    refine tk _ _ ⟨a, B3, { sI with heap := PySem.W.hideAll sI.heap [ce.locals] }, [], σ2, H2, cls2, d2, rfl, ?_, fun b o g hb => ?_, fun b o g hnf => ?_, ?_, na2, os2, ag2, w2⟩
    · refine (Inv.unpinned (pins := []) (pl := pins2) I2).turned (t' := sI.toks) (it := ce.locals) (fun b o hb g => PySem.W.hideAll_get _ g (fun z => hb (List.mem_singleton.mp z))) hHC c1 c3 c4 c5
    · have g1 := nb b o (PySem.W.of_hideAll _ g) hb
      rw [eB3]
      refine PySem.W.hideAll_get _ g1 fun z => ?_
      rw [List.mem_singleton.mp z, PySem.W.hideAll_none _ List.mem_cons_self] at g
      cases g
    · have hb : b ≠ ce.locals := fun z => by
        rw [z, PySem.W.hideAll_none _ List.mem_cons_self] at g
        cases g
      obtain ⟨sl1, g1⟩ := (up.trans up1) b o (PySem.W.of_hideAll _ g) hnf
      obtain ⟨sl2, g2⟩ := k4 b _ (keep b hb _ g1) hnf
      exact ⟨sl2, g2⟩
    · rw [hs]
      exact .inr (.inr ⟨k1, b3n f2, k2, k3⟩)
  rw [hs] at sky
  refine sky.elim (fun z => ?_) fun z => z.elim (fun z => HandSPX.looks_onZ Zc.steady hfr hf z fin) fun z => HandSPX.againZ hf z.2.2.2 (fin s'.heap z (Heap.UpToSlots.refl _))
  obtain ⟨q1, q2, q3, oe, vs, q4, q5, q6, q7⟩ := z
  exact HandSPX.look_newZ Zc.steady hfr q3 hf q4 q1 q2 q6 q7 q5 fin
end
/-! ### the loop -/
/-- an element that may raise by a call -/
structure PEX (XB : Cx) (elt : Expr) (te : L2.St → Hp → VK → XK → Prop) : Prop where
  run : ∀ pins s σ H Q EK, Inv XB pins σ H s → te σ H Q EK → wpAny (model XB.prog XB.w) XB.A (eval elt XB.env) (EP XB pins σ Q) (BlkX XB EK) s
/-- what a turn leaves: the list D grown, the next turn -/
def Grown (D : Addr) (Nx : Hp → Prop) : VK := fun y K => ∃ acc, K D = some (.lst acc) ∧ acc.length < sizeLine ∧ Nx (upd K D (.lst (acc ++ [y])))
def Step (J : It) (g : TG) (tt : TT) (te : L2.St → Hp → VK → XK → Prop) (vs : List Nat) (EK : XK) (σ : L2.St) (D : Addr) (i : Nat) (H : Hp) (Nx : Hp → Prop) : Prop :=
  ∀ x K1, J.yld i H x K1 → g x (wipe σ vs) K1 fun τ K2 => wipe τ vs = wipe σ vs ∧ tt τ K2 fun b K3 => (b = true → te τ K3 (Grown D Nx) EK) ∧ (b = false → Nx K3)
def tLcX (wi : TI) (g : TG) (tt : TT) (te : L2.St → Hp → VK → XK → Prop) (vs : List Nat) (EK : L2.St → XK) : TE := fun σ H Q =>
  wi σ H fun J H1 => ∀ D, H1 D = none → ∃ Iv : Nat → Nat → Hp → Prop, (∃ m, Iv 0 m (upd H1 D (.lst []))) ∧
    ∀ i m K, Iv i m K → (J.stop i K ∧ Q (.ref D) K) ∨
      (J.go i K ∧ ∃ Nx : Hp → Prop, (∀ K', Nx K' → ∃ m', m' < m ∧ Iv (i + 1) m' K') ∧ Step J g tt te vs (EK σ) σ D i K Nx)
theorem noE {α : Type} {c : Sem α} {Q Q' : α → Shared → Prop} {M : Model} {A : Around} {E : Value → Shared → Prop} {s : Shared} (a : wpAny M A c Q (fun _ _ => False) s) (b : ∀ x s, Q x s → Q' x s) : wpAny M A c Q' E s :=
  wpAny_mono a b fun _ _ z => z.elim
section
variable {X : Cx} {W : WX} {elt tg iter : Expr} {ifs : List Expr} {scope : Scope} {own : List (Str × Nat)} {pos : Pos} {wi : TI} {g : TG} {tt : TT} {te : L2.St → Hp → VK → XK → Prop}
theorem pe_lcX (hc : X.calm = true) (hN : X.N.Nodup) (hst : X.stack = X.env :: X.outer) (hf : X.env.frame = some X.env.locals) (tk : Takes X W) (hi : PI X tg iter wi) (ok : BlkOk X.N X.env.scope scope own)
    (hg : ∀ (s : Shared) (H : Hp) (C : Addr) (cl : List (Str × Addr)) (fp : List Addr), PG (X.blk s H scope (compEnvC scope cl C X.env) fp) tg g)
    (ht : ∀ (s : Shared) (H : Hp) (C : Addr) (cl : List (Str × Addr)) (fp : List Addr), L2.PTs (X.blk s H scope (compEnvC scope cl C X.env) fp) ifs tt)
    (he : ∀ (s : Shared) (H : Hp) (C : Addr) (cl : List (Str × Addr)) (fp : List Addr), PEX (X.blk s H scope (compEnvC scope cl C X.env) fp) elt te)
    (hset : ∀ x, foldedSetIterable iter X.env x = pure x := by intro _; rfl) :
    PE X (.ListComp elt [⟨tg, iter, ifs, 0⟩] scope pos) (tLcX wi g tt te (own.map (·.2)) fun σ cls d H' => W cls d σ H') := by
  refine ⟨fun pins s σ H Q I h => ?_⟩
  rw [eval_ListComp]
  have clo : ∀ y ∈ scope.names, y.2 = .free → ∃ c, X.env.cells.lookup y.1 = some c := fun y hy e =>
    (ok.free y hy e).elim (fun k => I.ok.has _ (.inl k)) fun k => I.ok.has _ (.inr k)
  refine comprehension_at (use := none) rfl hset (closure_ok clo) ok.kind (fun y hy e => (ok.uniq y hy).trans (congrArg some e)) (wpAny_mono (hi.run pins s σ H _ I h) (fun v s1 h1 => wpAny_mono h1 (fun itv s2 h2 => ?_) fun _ _ e => e) fun _ _ e => e)
  obtain ⟨it, fp, tn, J, H2, rfl, I2, T, st2, f2, q⟩ := h2
  refine wpAny_newObj_type (newEnv_comp ?_) (Nat.zero_le _)
  obtain ⟨D, eD⟩ : ∃ D, D = s2.heap.objs.size := ⟨_, rfl⟩
  have dn : H2 D = none := I2.hok.fresh (Nat.le_of_eq eD.symm)
  obtain ⟨Iv, ⟨m0, v0⟩, turn⟩ := q D dn
  rw [← eD]
  obtain ⟨t3, et3⟩ : ∃ t3 : Shared, t3 = { s2 with heap := s2.heap.push { cls := .type "list", data := .seq ([] : List Value).toArray } } := ⟨_, rfl⟩
  have hp3 : t3.heap = s2.heap.push { cls := .type "list", data := .seq ([] : List Value).toArray } := by rw [et3]
  have J3 : Inv X pins σ (upd H2 D (.lst [])) t3 := by
    rw [et3]
    refine I2.laid (t' := s2.toks) (fun b o g => Heap.get?_push_of_some _ g) (Nat.le_of_eq eD.symm) ⟨Nat.zero_le _, [], 0, .nil, ?_⟩
    rw [eD]
    exact Heap.get?_push_size _ rfl
  have small : ∀ b ∈ fp, b < s2.heap.objs.size := fun b hb => (T.obj _ _ st2 b hb).elim fun o z => Heap.lt_size z.1
  have fp3 : ∀ b ∈ fp, FpOk X pins (upd H2 D (.lst [])) b ∧ b < t3.heap.objs.size := fun b hb => by
    have lt := small b hb
    obtain ⟨z1, z2⟩ := f2 b hb
    refine ⟨⟨(upd_ne (fun e => Nat.lt_irrefl _ (by rw [e, eD] at lt; exact lt))).trans z1, z2⟩, ?_⟩
    rw [hp3, Heap.size_push]
    exact Nat.lt_succ_of_lt lt
  have st3 : tn 0 t3.heap := T.keep _ _ _ st2 fun b _ o z => by rw [hp3]; exact Heap.get?_push_of_some _ z
  have IB := block_start J3 ok hN fp3
  obtain ⟨cl, ecl⟩ : ∃ cl, cl = cellsFrom (t3.heap.objs.size + 1) scope.names (cloFrom X.env.cells scope.names []) := ⟨_, rfl⟩
  rw [← ecl] at IB
  obtain ⟨H4, eH4⟩ : ∃ H4, H4 = upd H2 D (.lst []) := ⟨_, rfl⟩
  rw [← eH4] at IB J3 fp3 v0
  have J0 : Inv X [] σ H4 t3 := Inv.unpinned (pins := []) (pl := pins) J3
  have fp0 : ∀ b ∈ fp, FpOk X [] H4 b := fun b hb => by
    obtain ⟨⟨z1, z2, z3, z4, z5, z6⟩, _⟩ := fp3 b hb
    exact ⟨z1, z2, z3, z4, z5, fun p hp => z6 p (List.mem_append_left _ (by simpa using hp))⟩
  obtain ⟨ce, ece⟩ : ∃ ce, ce = compEnvC scope cl t3.heap.objs.size X.env := ⟨_, rfl⟩
  have pg := hg t3 H4 t3.heap.objs.size cl fp
  have pt := ht t3 H4 t3.heap.objs.size cl fp
  have pe := he t3 H4 t3.heap.objs.size cl fp
  have ceL : ce.locals = t3.heap.objs.size := by rw [ece]; rfl
  have ceF : ce.frame = X.env.frame := by rw [ece]; rfl
  rw [← ece] at IB pg pt pe
  obtain ⟨t4, et4⟩ : ∃ t4 : Shared, t4 = { t3 with heap := pushCells (t3.heap.push { cls := .type "dict", data := .dict #[] }) scope.names } := ⟨_, rfl⟩
  rw [← et4] at IB
  have st4 : tn 0 t4.heap := T.keep _ _ _ st3 fun b _ o z => by rw [et4]; exact pushCells_keeps _ _ _ _ (Heap.get?_push_of_some _ z)
  have none4 : ∀ b ∈ fp, H4 b = none := fun b hb => (fp0 b hb).1
  have still : ∀ {τ : L2.St} {K : Hp} {t : Shared}, Inv (X.blk t3 H4 scope ce fp) [] τ K t → (∀ b ∈ fp, K b = none) → ∀ b ∈ fp, FpOk (X.blk t3 H4 scope ce fp) [] K b := fun {τ K t} i n b hb =>
    ⟨n b hb, (i.ok.exf b hb).1, i.ok.exfs b hb, .inl hb, fun x c e => (i.ok.exf b hb).2 x c e, fun p hp => nomatch (show p ∈ ([] : List (Addr × Obj)) from hp)⟩
  have loop : codeAny (model X.prog X.w) X.A (.compLoop (.ListComp elt [⟨tg, iter, ifs, 0⟩] scope pos) 0 (.ref it) (.ref D) ce) (compEnds (model X.prog X.w) X.A X.xe none (EP X pins σ Q) (.ref D) ce) t4 := by
    refine compLoop_any (fun n t => ∃ i K, Inv (X.blk t3 H4 scope ce fp) [] (wipe σ (own.map (·.2))) K t ∧ tn i t.heap ∧ (∀ b ∈ fp, K b = none) ∧ Iv i n K) (fun n t5 ⟨i, K5, I5, st5, n5, v5⟩ => ?_) m0 ⟨0, H4, IB, st4, none4, v0⟩
    rcases turn i n K5 v5 with ⟨stop, qq⟩ | ⟨go, Nx, hNx, step⟩
    · refine noE (T.done (X.blk t3 H4 scope ce fp) rfl rfl rfl hc i [] t5 _ K5 (fun _ _ => False) I5 (still I5 n5) st5 stop) fun r t6 z => ?_
      obtain ⟨rfl, I6⟩ := z
      have I7 : Inv X pins σ K5 t6 := J3.call' (ch := fp) I6.os I6.base I6.hok I6.bare fun b hb =>
        let ⟨⟨_, z1, _, z2, z3, z4⟩, _⟩ := fp3 b hb
        ⟨z2, z1, z3, z4⟩
      obtain ⟨m, hn, _⟩ := I6.loc
      have nC : K5 ce.locals = none := I6.free
      obtain ⟨f0, f1, _, f3, f4, f5⟩ : FpOk X pins K5 ce.locals := J3.fpOk (by rw [ceL]; exact Nat.le_refl _) nC
      refine ⟨m, hn, fun h' sb => ⟨.ref D, K5, ?_, rfl, qq⟩⟩
      exact I7.turned (t' := t6.toks) (fun b o hb e => (sb.2 b hb).trans e) f0 f1 f3 f4 f5
    · refine noE (T.item (X.blk t3 H4 scope ce fp) rfl rfl rfl hc i [] t5 _ K5 (fun _ _ => False) I5 (still I5 n5) st5 go) fun r t6 z => ?_
      obtain ⟨u, rfl, h6⟩ := z
      refine noE h6 fun _ t7 z => ?_
      obtain ⟨x, K7, I7, r7, y7, st7, n7⟩ := z
      have P7 := I7.pinned (still I7 n7) (T.obj _ _ st7)
      refine noE (pg.run _ t7 _ K7 x u _ P7 r7 (step x K7 y7)) fun _ t8 z => ?_
      obtain ⟨τ, K8, I8, w8, q8⟩ := z
      refine noE (pt.run _ t8 τ K8 _ I8 q8) fun b t9 z => ?_
      obtain ⟨K9, I9, q9t, q9f⟩ := z
      have next : ∀ {t : Shared} {K : Hp}, Inv (X.blk t3 H4 scope ce fp) ([] ++ pinsAt fp t7.heap) τ K t → Nx K → ∃ m, m < n ∧ ∃ i K, Inv (X.blk t3 H4 scope ce fp) [] (wipe σ (own.map (·.2))) K t ∧ tn i t.heap ∧ (∀ b ∈ fp, K b = none) ∧ Iv i m K := fun {t K} i9 nx => by
        obtain ⟨m', lt, v'⟩ := hNx K nx
        have held : ∀ b ∈ fp, ∀ o, t7.heap.get? b = some o → t.heap.get? b = some o ∧ K b = none := fun b hb o z => by
          have y := i9.pin (b, o) (List.mem_append_right _ (List.mem_append_right _ (mem_pinsAt hb z)))
          exact ⟨y.1, y.2.1⟩
        refine ⟨m', lt, i + 1, K, Inv.weak (Inv.unpinned (pins := []) i9) ?_ (fun j v z => ?_), T.keep _ _ _ st7 fun b hb o z => (held b hb o z).1, fun b hb => ?_, v'⟩
        · rw [← w8, wipe_length]
        · rw [← w8] at z
          exact (wipe_some z).1
        · exact (T.obj _ _ st7 b hb).elim fun o z => (held b hb o z.1).2
      cases b with
      | false => exact next I9 (q9f rfl)
      | true =>
        refine wpAny_mono (pe.run _ t9 τ K9 _ _ I9 (q9t rfl)) (fun z t10 y => ?_) fun u t10 y => ?_
        · obtain ⟨yv, K10, I10, r10, acc, hD, hz, nx⟩ := y
          exact app_ok (X := X.blk t3 H4 scope ce fp) I10 hD hz r10 fun t11 I11 => next I11 nx
        · exact blkx_out hst hf tk J0 ceF (by rw [ceL]; exact Nat.le_refl _) fp0 (fun _ _ _ z => z) y
  rw [ece, ecl, et4, et3] at loop
  exact codeAny_compStart_list loop (T.self X.A 0 _ _ _ (by rw [et4, et3] at st4; exact st4) loop)
end
/-! ### as functions of ours -/
def compX (nx : Nx) (g : FG) (t : FT) (el : FE) (e : Ev) : Nat → Nat → List D → Hs → R (List D)
  | fuel, i, acc, hs => match nx hs i with
    | none => .bad
    | some none => .ok acc hs
    | some (some d) => match fuel with
      | 0 => .bad
      | k + 1 => match g d e with
        | none => .bad
        | some e' => match t e' hs with
          | .ok b hs2 => if b = true then (match el e' hs2 with
              | .ok y hs3 => if acc.length < sizeLine then compX nx g t el e k (i + 1) (acc ++ [y]) hs3 else .bad
              | .exc c fs hs3 => .exc c fs hs3
              | .bad => .bad) else compX nx g t el e k (i + 1) acc hs2
          | _ => .bad
def lCompX (f : FI) (g : FG) (t : FT) (el : FE) (vs : List Nat) : FL := fun e hs => (f e hs).bind fun nx hs => compX nx g t el (wipeE e vs) fuel 0 [] hs
/-- the element's reading -/
def tGX (K : PySem.W.Frag) (mg : Str → Option Value) (el : FE) : L2.St → Hp → VK → XK → Prop := fun σ H Q EK => tG (relD K) K mg (fun cls dx _ H' => EK cls dx H') el σ H Q
theorem tG_compX {K : PySem.W.Frag} {mg : Str → Option Value} {Wd : WX} {f : FI} {g : FG} {t : FT} {el : FE} {vs : List Nat} {σ : L2.St} {H : Hp} {Q : VK} (h : tG (relF K mg) K mg Wd (lCompX f g t el vs) σ H Q) :
    tLcX (tG (relI K mg) K mg Wd f) (tGt K mg vs g) (tG relB K mg W0 t) (tGX K mg el) vs (fun σ cls d H' => Wd cls d σ H') σ H Q := by
  obtain ⟨e, mu, hs, S, E, q⟩ := h
  refine ⟨e, mu, hs, S, E, ?_⟩
  unfold lCompX at q
  cases r : f e hs with
  | bad => rw [r] at q; exact q
  | exc c fs hs' => rw [r] at q; exact q
  | ok nx hs1 =>
    rw [r] at q
    rw [R.bind_ok] at q
    intro mu1 H1 J l1 S1 ri Dd hD
    have E1 := (E.agr (l1.agr S)).wipe vs
    refine ⟨fun i m H2 => ∃ mu2 hs2 acc vacc, Lat mu1 H1 mu2 H2 ∧ Lat mu H mu2 H2 ∧ Sim K mg mu2 hs2 H2 ∧ H2 Dd = some (.lst vacc) ∧ Dd ∉ mu2.l ∧ ¬ mu2.fz Dd ∧ RDs K mu2 H2 acc vacc ∧
        Gd (relF K mg) K mg Wd σ mu H Q (compX nx g t el (wipeE e vs) m i acc hs2),
      ⟨fuel, mu1, hs1, [], [], .new hD, l1.trans (.new hD), S1.new hD, upd_same, S1.fresh hD, S1.freshz hD, .nil, q⟩, ?_⟩
    rintro i m H2 ⟨mu2, hs2, acc, vacc, l2, l02, S2, hD2, nD, nz, ra, q2⟩
    have hD0 : H Dd = none := l1.back hD fun z => nD (l2.pre.subset (l1.pre.subset z))
    have r2 := ri mu2 H2 hs2 l2 S2 i
    unfold compX at q2
    split at q2
    · exact q2.elim
    · rename_i hn
      exact .inl ⟨r2.1 hn, q2 mu2 H2 _ l02 S2 ⟨Dd, vacc, rfl, hD2, nD, nz, hD0, ra⟩⟩
    · rename_i d hd
      obtain ⟨go, yl⟩ := r2.2 d hd
      refine .inr ⟨go, ?_⟩
      split at q2
      · exact q2.elim
      · rename_i k
        split at q2
        · exact q2.elim
        · rename_i e' he'
          refine ⟨fun H3 => ∃ mu2 hs2 acc vacc, Lat mu1 H1 mu2 H3 ∧ Lat mu H mu2 H3 ∧ Sim K mg mu2 hs2 H3 ∧ H3 Dd = some (.lst vacc) ∧ Dd ∉ mu2.l ∧ ¬ mu2.fz Dd ∧ RDs K mu2 H3 acc vacc ∧
              Gd (relF K mg) K mg Wd σ mu H Q (compX nx g t el (wipeE e vs) k (i + 1) acc hs2), fun H' h => ⟨k, Nat.lt_succ_self k, h⟩, fun x H3 y => ?_⟩
          obtain ⟨l3, S3, r3⟩ := yl x H3 y
          have E3 : RE K mu2 H3 (wipeE e vs) (wipe σ vs) := (E1.agr (l2.agr S1)).agr (l3.agr S2)
          refine ⟨wipeE e vs, mu2, hs2, d, e', S3, E3, r3, he', fun σ3 E4 w3 => ⟨w3.trans (wipe_idem σ vs), e', mu2, hs2, S3, E4, ?_⟩⟩
          cases rt : t e' hs2 with
          | bad => rw [rt] at q2; exact q2
          | exc c fs hs' => rw [rt] at q2; exact q2.elim
          | ok b hs4 =>
            rw [rt] at q2
            intro mu4 H4 b' l4 S4 rb
            have rb : b = b' := rb
            subst rb
            dsimp only at q2
            have lD3 := l3.ext Dd _ hD2 nD
            have lD4 := l4.ext Dd _ lD3.1 nD
            refine ⟨fun eb => ?_, fun eb => ?_⟩ <;> subst eb
            · rw [if_pos rfl] at q2
              refine ⟨e', mu4, hs4, S4, E4.agr (l4.agr S3), ?_⟩
              cases re : el e' hs4 with
              | bad => rw [re] at q2; exact q2
              | exc c fs hs' =>
                rw [re] at q2
                exact fun mu5 H5 cls dx l5 S5 rx => q2 mu5 H5 cls dx ((l02.trans (l3.trans l4)).trans l5) S5 rx
              | ok y hs5 =>
                rw [re] at q2
                intro mu5 H5 yv l5 S5 ry
                dsimp only at q2
                split at q2
                · rename_i hz
                  have nz4 : ¬ mu4.fz Dd := fun z => nz (lD4.2.2 z)
                  have lD5 := l5.ext Dd _ lD4.1 lD4.2.1
                  have nz5 : ¬ mu5.fz Dd := fun z => nz4 (lD5.2.2 z)
                  have ra5 : RDs K mu5 H5 acc vacc := RDs.agr (l5.agr S4) (RDs.agr (l4.agr S3) (RDs.agr (l3.agr S2) ra))
                  have pv : Agr mu5 H5 mu5 (upd H5 Dd (.lst (vacc ++ [yv]))) := .priv lD5.1 nz5
                  have lall : ∀ {m0 : Mp} {H0 : Hp}, H0 Dd = none → Lat m0 H0 mu5 H5 → Lat m0 H0 mu5 (upd H5 Dd (.lst (vacc ++ [yv]))) := fun {m0 H0} h0 l => ⟨l.pre, l.sub, fun b o hb nb => by
                    have := l.ext b o hb nb
                    exact ⟨by rw [upd_ne (ne_of_none hb h0)]; exact this.1, this.2⟩, fun b o v hb => by rw [upd_ne (ne_of_none hb h0)]; exact l.frz b o v hb⟩
                  exact ⟨vacc, lD5.1, by rw [← ra.length]; exact hz, mu5, hs5, acc ++ [y], vacc ++ [yv], lall hD (l2.trans (l3.trans (l4.trans l5))), lall hD0 (l02.trans (l3.trans (l4.trans l5))), S5.priv lD5.1 lD5.2.1 nz5, upd_same, lD5.2.1, nz5, RDs.agr pv (ra5.snoc ry), q2⟩
                · exact q2.elim
            · rw [if_neg Bool.false_ne_true] at q2
              exact ⟨mu4, hs4, acc, vacc, l2.trans (l3.trans l4), l02.trans (l3.trans l4), S4, lD4.1, lD4.2.1, fun z => nz (lD4.2.2 z), RDs.agr (l4.agr S3) (RDs.agr (l3.agr S2) ra), q2⟩
section
variable {X : Cx} {Wd : WX} {elt tg iter : Expr} {ifs : List Expr} {scope : Scope} {own : List (Str × Nat)} {pos : Pos} {f : FI} {g : FG} {t : FT} {el : FE}
theorem uf_compX (hc : X.calm = true) (hN : X.N.Nodup) (tk : Takes X Wd) (hi : UI X Wd tg iter f) (ok : BlkOk X.N X.env.scope scope own)
    (hg : ∀ (s : Shared) (H : Hp) (C : Addr) (cl : List (Str × Addr)) (fp : List Addr), UG (X.blk s H scope (compEnvC scope cl C X.env) fp) (own.map (·.2)) tg g)
    (ht : ∀ (s : Shared) (H : Hp) (C : Addr) (cl : List (Str × Addr)) (fp : List Addr), UTs (X.blk s H scope (compEnvC scope cl C X.env) fp) W0 ifs t)
    (he : ∀ (s : Shared) (H : Hp) (C : Addr) (cl : List (Str × Addr)) (fp : List Addr), PEX (X.blk s H scope (compEnvC scope cl C X.env) fp) elt (tGX X.K X.mg el))
    (hst : X.stack = X.env :: X.outer := by rfl) (hf : X.env.frame = some X.env.locals := by rfl) (hs : ∀ x, foldedSetIterable iter X.env x = pure x := by intro _; rfl) :
    UF X Wd (.ListComp elt [⟨tg, iter, ifs, 0⟩] scope pos) (lCompX f g t el (own.map (·.2))) := PE.imp (pe_lcX hc hN hst hf tk hi ok hg ht he hs) fun σ H Q h => tG_compX h
end
/-! ### an own def, called in the element -/
section
variable {X : Cx} {Wd : WX} {k k' : Nat} {f : Addr} {fd : FuncData} {ps : List Str} {fn : List D → Hs → R D} {is : List Nat} {x : Str} {p pos : Pos} {e : Expr} {es : List Expr} {fa : FA} {s0 : Shared} {H0 : Hp} {scope : Scope} {ce : Env} {fp : List Addr}
theorem pex_fn (B : Bd X Wd k') (F : FnG X.prog X.w X.K X.mg X.base k f fd ps (spU X.K X.mg ps.length fn)) (hr : k ≤ k') (hm : X.mg x = some (.ref f)) (hk : PySem.W.keepIn X.K (.ref f) = true)
    (hb : BindK X.K fd ps (e :: es).length [] is []) (ha : UA (X.blk s0 H0 scope ce fp) W0 (e :: es) fa) (hla : ∀ ev hs qs hs', fa ev hs = .ok qs hs' → qs.length = (e :: es).length) (hx : ∀ ev hs c fs h', fa ev hs ≠ .exc c fs h') (hi : is.all (fun i => decide (i < (e :: es).length)) = true := by decide) (hl : is.length = ps.length := by rfl)
    (hg : L2.Gl (X.blk s0 H0 scope ce fp) x := by rfl) (hdb : (x == ("__debug__" : Str)) = false := by decide) (he : starEach (e :: es) ce = (false, eval e ce) :: starEach es ce := by rfl) (hpl : (backTo pos (starEach es ce)).any (·.1) = false := by rfl) :
    PEX (X.blk s0 H0 scope ce fp) (.Call (.Name x p) (e :: es) [] pos) (tGX X.K X.mg (eFn fn is [] fa)) := by
  refine ⟨fun pins s σ H Q EK I h => ?_⟩
  obtain ⟨ev, mu, hs, S, E, g⟩ := h
  unfold eFn at g
  refine wpAny_Call_Name_kw (ld_glob I hg hm ?_ hdb)
  refine PySem.W.callWith_K (h₀ := X.base) I.ok.mod.kin hk (noE (ha.run pos pins s σ H (fun vs H1 => ∃ mu hs es, Sim X.K X.mg mu hs H1 ∧ RDs X.K mu H1 es vs ∧ (∃ ev h0, fa ev h0 = .ok es hs) ∧ Gd (relD X.K) X.K X.mg (fun cls dx _ H' => EK cls dx H') σ mu H1 Q (fn (selL is es [] []) hs)) I ⟨ev, mu, hs, S, E, ?_⟩) fun us s1 z => ?_) he hpl
  · cases q : fa ev hs with
    | ok qs hs' => rw [q] at g; exact fun mu' H' y l s rr => ⟨mu', hs', qs, s, rr, ⟨ev, hs, q⟩, Gd.later relD_ok l g⟩
    | exc c fs hs' => exact absurd q (hx _ _ _ _ _)
    | bad => rw [q] at g; exact g
  · obtain ⟨vs, H1, I1, r, mu1, hs1, es1, S1, r1, ⟨ev1, h01, q1⟩, g1⟩ := z
    have l1 := hla _ _ _ _ q1
    have l2 : us.length = (e :: es).length := by rw [← r.length, ← r1.length, l1]
    refine ⟨I1.kIn, ?_⟩
    have hsp : spU X.K X.mg ps.length fn (selL is vs [] []) H1 Q EK := by
      refine ⟨mu1, hs1, _, S1, RDs.sel r1 .nil .nil is, by rw [selL_len _ _ _ _ (by rw [l1]; exact all_lt hi), hl], ?_⟩
      cases q : fn (selL is es1 [] []) hs1 with
      | ok d hs' => rw [q] at g1; exact g1
      | exc c fs hs' => rw [q] at g1; exact g1
      | bad => rw [q] at g1; exact g1
    have run := (F.mono hr).run X.A X.stack s1 H1 ⟨us, ([] : List Str).zip []⟩ (selL is us [] []) (selL is vs [] []) Q EK B.room B.gd I1.env0 (hb s1 us [] I1.kIn l2 rfl) (Vals.sel r .nil .nil is) hsp
    refine wpAny_call (codeAny_mono run fun rr s' hq => ?_)
    cases rr with
    | error u => exact ⟨pins, σ, H1, s1, I1, hq⟩
    | ok fl =>
      cases fl with
      | ret u => exact I1.after hq
      | _ => exact False.elim hq
theorem name_nx {i : Nat} : ∀ ev hs c fs h', aCons (eName i) aNil ev hs ≠ .exc c fs h' := fun ev hs c fs h' z => by
  unfold aCons eName aNil at z
  cases q : ev[i]? with
  | none => rw [q] at z; cases z
  | some o => rw [q] at z; cases o <;> cases z
end
/-! ### what it gives -/
section
variable {f : FI} {g : FG} {t : FT} {el : FE} {vs : List Nat} {e : Ev} {h : Hs} {α : Type}
/-- a walk of things that stand still; the first one refused raises -/
def mapX (p : α → Option D) : List α → Option (List D)
  | [] => some []
  | a :: l => match p a with
    | none => none
    | some d => (mapX p l).map (d :: ·)
/-- what an element gives: a value, or the exception -/
def orX (Xc : Str) (Xf : List (Str × D)) (h : Hs) : Option D → R D
  | some d => .ok d h
  | none => .exc Xc Xf h
def orXs (Xc : Str) (Xf : List (Str × D)) (h : Hs) (acc : List D) : Option (List D) → R (List D)
  | some ds => .ok (acc ++ ds) h
  | none => .exc Xc Xf h
theorem compX_eq {i0 : α → D} {p : α → Option D} {Xc : Str} {Xf : List (Str × D)} {ds0 : List D} : ∀ (l : List α) (i k : Nat) (acc : List D), (∀ j, ds0[i + j]? = (l.map i0)[j]?) → l.length ≤ k → acc.length + l.length ≤ 100000 →
    (∀ a ∈ l, ∃ e', g (i0 a) e = some e' ∧ el e' h = orX Xc Xf h (p a)) → compX (nxL ds0) g tYesF el e k i acc h = orXs Xc Xf h acc (mapX p l)
  | [], i, k, acc, hd, _, _, _ => by
    have q : nxL ds0 h i = some none := by
      show some ds0[i]? = _
      have := hd 0
      rw [Nat.add_zero] at this
      rw [this]; rfl
    have e1 : compX (nxL ds0) g tYesF el e k i acc h = .ok acc h := by
      cases k <;> (unfold compX; rw [q])
    rw [e1]
    show _ = R.ok (acc ++ []) h
    rw [List.append_nil]
  | a :: l, i, 0, acc, _, hk, _, _ => absurd hk (by rw [List.length_cons]; omega)
  | a :: l, i, k + 1, acc, hd, hk, hz, he => by
    have q : nxL ds0 h i = some (some (i0 a)) := by
      show some ds0[i]? = _
      have := hd 0
      rw [Nat.add_zero] at this
      rw [this]; rfl
    obtain ⟨e', h1, h2⟩ := he a List.mem_cons_self
    rw [List.length_cons] at hk hz
    unfold compX
    rw [q]
    dsimp only
    rw [h1]
    dsimp only [tYesF]
    rw [if_pos rfl, h2]
    cases pa : p a with
    | none =>
      have em : mapX p (a :: l) = none := by rw [mapX, pa]
      rw [em]; rfl
    | some d =>
      dsimp only [orX]
      rw [if_pos (by rw [sizeLine_eq]; omega), compX_eq l (i + 1) k (acc ++ [d]) (fun j => by
        have := hd (j + 1)
        rw [show i + 1 + j = i + (j + 1) by omega, this]; rfl) (by omega) (by rw [List.length_append, List.length_singleton]; omega) fun b hb => he b (List.mem_cons_of_mem _ hb)]
      have em : mapX p (a :: l) = (mapX p l).map (d :: ·) := by rw [mapX, pa]
      rw [em]
      cases mapX p l with
      | none => rfl
      | some ds =>
        show R.ok (acc ++ [d] ++ ds) h = R.ok (acc ++ d :: ds) h
        rw [List.append_assoc]; rfl
theorem wp_cmX {X : XQ} {Q : List D → Hs → Prop} (i0 : α → D) (p : α → Option D) (Xc : Str) (Xf : List (Str × D)) (q : Wp (f e h) (fun nx h1 => ∃ xs : List α, nx = nxL (xs.map i0) ∧ xs.length ≤ 1000 ∧
    (∀ a ∈ xs, ∃ e', g (i0 a) (wipeE e vs) = some e' ∧ el e' h1 = orX Xc Xf h1 (p a)) ∧ (∀ ds, mapX p xs = some ds → Q ds h1) ∧ (mapX p xs = none → X Xc Xf h1)) X) : Wp (lCompX f g tYesF el vs e h) Q X := by
  refine wp_bind (wp_mono q (fun nx h1 z => ?_) fun _ _ _ z => z)
  obtain ⟨xs, rfl, hl, he, hq, hx⟩ := z
  rw [compX_eq (e := wipeE e vs) xs 0 fuel [] (fun j => by rw [Nat.zero_add]) (Nat.le_trans hl (Nat.le_of_ble_eq_true rfl)) (by rw [List.length_nil]; omega) he]
  cases m : mapX p xs with
  | none => with_unfolding_all exact hx m
  | some ds => with_unfolding_all exact hq ds m
end
end G

namespace K09
open PySem PySem.Spec PyProof.Rows L2 G
/-! ### the functions -/
noncomputable section
abbrev k_FIGURES : D := (.str "0123456789")
def f_number_behind : FS := (sSeq (sSet 4 (eSl (eName 0) (oSome (eC (.int 1))) oNone))
  (sSeq (sIf (tOrF (eB (eBin gNe (eSl (eName 0) oNone (oSome (eC (.int 1)))) (eName 1))) (tOrF (tNotF (eB (eChain gLe gLe (eC (.int 1)) (eCall gLen (aCons (eName 4) aNil)) (eC (.int 2))))) (tNotF (eT (eCall gAll (aCons (eV (lComp (iAny (eName 4)) (nSet 6) tYesF (eBin gInA (eName 6) (eC k_FIGURES)) [6])) aNil)))))) (sRet (eC .non)) sSkip)
  (sSeq (sSet 5 (eCall gIntT (aCons (eName 4) aNil)))
  (sSeq (sIf (tOrF (eB (eBin gNe (eCall gStr (aCons (eName 5) aNil)) (eName 4))) (tNotF (eB (eChain gLe gLe (eName 2) (eName 5) (eName 3))))) (sRet (eC .non)) sSkip)
  (sRet (eName 5))))))
def c_number_behind : List D → Hs → R D := fnBody 7 f_number_behind
def f_zone_read : FS := (sSeq (sFor (iAny (eTup (aCons (eC k_ALONG) (aCons (eC k_ACROSS) aNil)))) (nSet 1)
  (sSeq (sSet 2 (eFn c_number_behind [0, 1, 2, 3] [] (aCons (eName 0) (aCons (eFn c_sign_of [0] [] (aCons (eName 1) aNil)) (aCons (eC (.int 1)) (aCons (eC k_MOST_LENGTH) aNil))))))
  (sIf (eB (eBin gIsN (eName 2) (eC .non))) (sRet (eTup (aCons (eName 1) (aCons (eName 2) aNil)))) sSkip)))
  (sRaise "NoText"))
def c_zone_read : List D → Hs → R D := fnBody 3 f_zone_read
def f_read_skin : FS := (sSeq (sIf (tNotF (eT (eCall gIsi (aCons (eName 0) (aCons (eC (.ty .str)) aNil))))) (sRaise "NoText") sSkip)
  (sSeq (sSet 1 (eMt (fun _ => isS) mSplit (eName 0) (aCons (eC (.str " ")) aNil)))
  (sSeq (sIf (tNotF (eB (eChain gLe gLe (eC (.int 3)) (eCall gLen (aCons (eName 1) aNil)) (eBin gAdd (eC (.int 2)) (eC k_MOST_ZONES))))) (sRaise "NoText") sSkip)
  (sSeq (sSet 2 (eFn c_number_behind [0, 1, 2, 3] [] (aCons (eBin gIx (eName 1) (eUn gNeg (eC (.int 2)))) (aCons (eC (.str "s")) (aCons (eC (.int 0)) (aCons (eC k_MOST_STRETCH) aNil))))))
  (sSeq (sSet 3 (eFn c_number_behind [0, 1, 2, 3] [] (aCons (eBin gIx (eName 1) (eUn gNeg (eC (.int 1)))) (aCons (eC (.str "g")) (aCons (eC (.int 0)) (aCons (eC k_MOST_GRADE) aNil))))))
  (sSeq (sIf (tOrF (eB (eBin gIs (eName 2) (eC .non))) (eB (eBin gIs (eName 3) (eC .non)))) (sRaise "NoText") sSkip)
  (sRet (eGc (eMk "Skin" c_Skin_init [0, 1, 2, 3] [(.int 0), (.int 0)] (aCons (eCall gTuple (aCons (eV (lCompX (iAny (eSl (eName 1) oNone (oSome (eUn gNeg (eC (.int 2)))))) (nSet 4) tYesF (eFn c_zone_read [0] [] (aCons (eName 4) aNil)) [4])) aNil)) (aCons (eName 2) (aCons (eName 3) aNil))) aNil)))))))))
def c_read_skin : List D → Hs → R D := fnBody 5 f_read_skin
def f_text : FS := (sSeq (sSet 1 (eFn c_draw [0, 1] [] (aCons (eName 0) (aCons (eC (.int 4)) aNil))))
  (sSeq (sSet 2 (eM aNil))
  (sSeq (sFor (iR1 (aCons (eBin gIx (eV (aCons (eBin gAdd (eC (.int 1)) (eFn c_draw [0, 1] [] (aCons (eName 0) (aCons (eC (.int 4)) aNil)))) (aCons (eC (.int 4)) (aCons (eC (.int 1)) (aCons (eC (.int 2)) aNil))))) (eName 1)) aNil)) (nSet 3)
  (sSeq (sSet 4 (eBin gIx (eV (aCons (eBin gAdd (eC (.int 1)) (eFn c_draw [0, 1] [] (aCons (eName 0) (aCons (eC (.int 24)) aNil)))) (aCons (eC (.int 24)) (aCons (eC (.int 1)) (aCons (eBin gAdd (eC (.int 9)) (eFn c_draw [0, 1] [] (aCons (eName 0) (aCons (eC (.int 3)) aNil)))) aNil))))) (eName 1)))
  (sDrop (eMt isL mAppend (eName 2) (aCons (eBin gAdd (eFn c_pick [0, 1] [] (aCons (eName 0) (aCons (eV (aCons (eC (.str "a")) (aCons (eC (.str "x")) aNil))) aNil))) (eCall gStr (aCons (eName 4) aNil))) aNil)))))
  (sSeq (sSet 5 (eBin gIx (eV (aCons (eFn c_draw [0, 1] [] (aCons (eName 0) (aCons (eC (.int 41)) aNil))) (aCons (eC (.int 40)) (aCons (eC (.int 0)) (aCons (eC (.int 10)) aNil))))) (eName 1)))
  (sRet (eMt (fun _ => isS) mJoin (eC (.str " ")) (aCons (eBin gAdd (eName 2) (eV (aCons (eBin gAdd (eC (.str "s")) (eCall gStr (aCons (eName 5) aNil))) (aCons (eBin gAdd (eC (.str "g")) (eCall gStr (aCons (eFn c_draw [0, 1] [] (aCons (eName 0) (aCons (eC (.int 3)) aNil))) aNil))) aNil)))) aNil)))))))
def c_text : List D → Hs → R D := gcF (fnBody 6 f_text)
def f_odd_word : FS := (sSeq (sSet 1 (eV (aCons (eC (.str "a0")) (aCons (eC (.str "a25")) (aCons (eC (.str "x24")) (aCons (eC (.str "a01")) (aCons (eC (.str "x00")) (aCons (eC (.str "a")) (aCons (eC (.str "x")) (aCons (eC (.str "s41")) (aCons (eC (.str "s40")) (aCons (eC (.str "s00")) (aCons (eC (.str "s-1")) (aCons (eC (.str "g3")) (aCons (eC (.str "g2")) (aCons (eC (.str "g")) (aCons (eC (.str "s")) (aCons (eC (.str "A5")) (aCons (eC (.str "X5")) aNil)))))))))))))))))))
  (sSeq (sSet 1 (eBin gAdd (eName 1) (eV (aCons (eC (.str "S0")) (aCons (eC (.str "a1.5")) (aCons (eC (.str "a-1")) (aCons (eC (.str "a+1")) (aCons (eC (.str "a1_0")) (aCons (eC (.str "b5")) (aCons (eC (.str "5")) (aCons (eC (.str "a5x5")) (aCons (eC (.str "")) (aCons (eC (.str "aa5")) (aCons (eC (.str "a5 ")) (aCons (eC (.str "s10")) (aCons (eC (.str "a10")) (aCons (eC (.str "x7")) (aCons (eC (.str "G0")) aNil))))))))))))))))))
  (sSeq (sSet 1 (eBin gAdd (eName 1) (eV (aCons (eC (.str "a100")) (aCons (eC (.str "s007")) aNil)))))
  (sRet (eFn c_pick [0, 1] [] (aCons (eName 0) (aCons (eBin gAdd (eName 1) (eV (aCons (eC (.str "along")) (aCons (eC (.str "Skin(a5")) (aCons (eC (.str "g0)")) (aCons (eBin gAdd (eC (.str "a")) (eBin gMulS (eC (.str "9")) (eC (.int 40)))) (aCons (eC (.str "s0g0")) aNil))))))) aNil)))))))
def c_odd_word : List D → Hs → R D := fnBody 2 f_odd_word
def f_bent_text : FS := (sSeq (sSet 2 (eFn c_draw [0, 1] [] (aCons (eName 0) (aCons (eC (.int 9)) aNil))))
  (sSeq (sSet 3 (eMt (fun _ => isS) mSplit (eName 1) (aCons (eC (.str " ")) aNil)))
  (sSeq (sPar 4 5 (aCons (eFn c_draw [0, 1] [] (aCons (eName 0) (aCons (eCall gLen (aCons (eName 3) aNil)) aNil))) (aCons (eFn c_draw [0, 1] [] (aCons (eName 0) (aCons (eBin gAdd (eCall gLen (aCons (eName 1) aNil)) (eC (.int 1))) aNil))) aNil)))
  (sSeq (sSet 6 (eFn c_pick [0, 1] [] (aCons (eName 0) (aCons (eC (.str "axsg0123456789 -+.AXSG~\n")) aNil))))
  (sSeq (sIf (eB (eBin gLt (eName 2) (eC (.int 3)))) (sRet (eBin gAdd (eBin gAdd (eSl (eName 1) oNone (oSome (eName 5))) (eBin gIx (eV (aCons (eName 6) (aCons (eName 6) (aCons (eC (.str "")) aNil)))) (eName 2))) (eSl (eName 1) (oSome (eBin gAdd (eName 5) (eCall gInt (aCons (eBin gGt (eName 2) (eC (.int 0))) aNil)))) oNone))) sSkip)
  (sSeq (sIf (eB (eBin gEq (eName 2) (eC (.int 3)))) (sSet 3 (eBin gAdd (eSl (eName 3) oNone (oSome (eName 4))) (eSl (eName 3) (oSome (eBin gAdd (eName 4) (eC (.int 1)))) oNone))) sSkip)
  (sSeq (sIf (eB (eBin gEq (eName 2) (eC (.int 4)))) (sSet 3 (eBin gAdd (eBin gAdd (eSl (eName 3) oNone (oSome (eName 4))) (eSl (eName 3) (oSome (eName 4)) (oSome (eBin gAdd (eName 4) (eC (.int 1)))))) (eSl (eName 3) (oSome (eName 4)) oNone))) sSkip)
  (sSeq (sIf (eB (eBin gEq (eName 2) (eC (.int 5)))) (sSet 3 (eBin gAdd (eBin gAdd (eSl (eName 3) oNone (oSome (eName 4))) (eUn gRev (eSl (eName 3) (oSome (eName 4)) (oSome (eBin gAdd (eName 4) (eC (.int 2))))))) (eSl (eName 3) (oSome (eBin gAdd (eName 4) (eC (.int 2)))) oNone))) sSkip)
  (sSeq (sIf (tAndF (eB (eBin gGt (eName 2) (eC (.int 5)))) (eB (eBin gLt (eName 2) (eC (.int 8))))) (sSet 3 (eBin gAdd (eBin gAdd (eSl (eName 3) oNone (oSome (eName 4))) (eV (aCons (eFn c_odd_word [0] [] (aCons (eName 0) aNil)) aNil))) (eSl (eName 3) (oSome (eBin gAdd (eName 4) (eC (.int 1)))) oNone))) sSkip)
  (sSeq (sIf (eB (eBin gEq (eName 2) (eC (.int 8)))) (sRet (eBin gIx (eV (aCons (eBin gAdd (eC (.str " ")) (eName 1)) (aCons (eBin gAdd (eName 1) (eC (.str " "))) (aCons (eBin gAdd (eName 1) (eC (.str "\n"))) (aCons (eMt (fun _ => isS) mUpper (eName 1) aNil) (aCons (eBin gAdd (eBin gAdd (eC (.str "Skin(")) (eName 1)) (eC (.str ")"))) aNil)))))) (eBin gMod (eName 4) (eC (.int 5))))) sSkip)
  (sRet (eMt (fun _ => isS) mJoin (eC (.str " ")) (aCons (eName 3) aNil)))))))))))))
def c_bent_text : List D → Hs → R D := fnBody 7 f_bent_text
def f_due : FS := (sSeq (sIf (tNotF (eT (eCall gIsi (aCons (eName 0) (aCons (eC (.ty .str)) aNil))))) (sRet (eC .non)) sSkip)
  (sSeq (sSet 1 (eMt (fun _ => isS) mSplit (eName 0) (aCons (eC (.str " ")) aNil)))
  (sSeq (sSet 2 eD0K)
  (sSeq (sFor (iR2 (aCons (eC (.int 1)) (aCons (eC (.int 25)) aNil))) (nSet 3)
  (sSeq (sSub mSetA (eTup (aCons (eC (.str "along")) (aCons (eName 3) aNil))) (eName 2) (eBin gAdd (eC (.str "a")) (eCall gStr (aCons (eName 3) aNil))))
  (sSub mSetA (eTup (aCons (eC (.str "across")) (aCons (eName 3) aNil))) (eName 2) (eBin gAdd (eC (.str "x")) (eCall gStr (aCons (eName 3) aNil))))))
  (sSeq (sSet 4 (eDictP (lComp (iR1 (aCons (eC (.int 41)) aNil)) (nSet 3) tYesF (eTup (aCons (eBin gAdd (eC (.str "s")) (eCall gStr (aCons (eName 3) aNil))) (aCons (eName 3) aNil))) [3])))
  (sSeq (sSet 5 (eDisp (pCons (eC (.str "g0")) (eC (.int 0)) (pCons (eC (.str "g1")) (eC (.int 1)) (pCons (eC (.str "g2")) (eC (.int 2)) pNil)))))
  (sSeq (sIf (tOrF (tNotF (eB (eChain gLe gLe (eC (.int 3)) (eCall gLen (aCons (eName 1) aNil)) (eC (.int 6))))) (eB (eBin gNeL (eV (lComp (iAny (eSl (eName 1) oNone (oSome (eUn gNeg (eC (.int 2)))))) (nSet 6) (eB (eBin gNotInA (eName 6) (eName 2))) (eName 6) [6])) (eV aNil)))) (sRet (eC .non)) sSkip)
  (sSeq (sIf (tOrF (eB (eBin gNotInA (eBin gIx (eName 1) (eUn gNeg (eC (.int 2)))) (eName 4))) (eB (eBin gNotInA (eBin gIx (eName 1) (eUn gNeg (eC (.int 1)))) (eName 5)))) (sRet (eC .non)) sSkip)
  (sRet (eTup (aCons (eCall gTuple (aCons (eV (lComp (iAny (eSl (eName 1) oNone (oSome (eUn gNeg (eC (.int 2)))))) (nSet 6) tYesF (eBin gDget (eName 2) (eName 6)) [6])) aNil)) (aCons (eBin gDget (eName 4) (eBin gIx (eName 1) (eUn gNeg (eC (.int 2))))) (aCons (eBin gDget (eName 5) (eBin gIx (eName 1) (eUn gNeg (eC (.int 1))))) aNil)))))))))))))
def c_due : List D → Hs → R D := gcF (fnBody 7 f_due)
def f_is_alone : FS := (sSeq (sSet 1 (eIsE [("NoText", false)] (eName 0)))
  (sSeq (sSet 1 (eOr (eName 1) (eIsE [("NoText", false)] (eName 0))))
  (sRet (eAnd (eIsE [("NoText", true)] (eName 0)) (eAnd (eIsE [("NoText", true)] (eName 0)) (eNot (eName 1)))))))
def c_is_alone : List D → Hs → R D := fnBody 2 f_is_alone
def f_Skin_eq : FS := (sSeq (sIf (tNotF (eT (eIsO2 [("Skin", true)] (eName 1)))) (sRet (eC (.bl false))) sSkip)
  (sRet (eAnd (eBin gEq (eUn (gFld ["Skin"] "zones") (eName 0)) (eUn (gFld ["Skin"] "zones") (eName 1))) (eAnd (eBin gEq (eUn (gFld ["Skin"] "stretch") (eName 0)) (eUn (gFld ["Skin"] "stretch") (eName 1))) (eBin gEq (eUn (gFld ["Skin"] "grade") (eName 0)) (eUn (gFld ["Skin"] "grade") (eName 1)))))))
def c_Skin_eq : List D → Hs → R D := fnBody 2 f_Skin_eq
def f_is_so : FS := (sSeq (sSet 1 (eFn c_due [0] [] (aCons (eName 0) aNil)))
  (sSeq (sSet 2 (eC .non))
  (sSeq (sSet 3 (eC (.bl false)))
  (sSeq (sTry 4 [("NoText", true)] (sSet 2 (eFnK c_read_skin [0] [] aNil (aCons (eName 0) aNil)))
  (sSet 3 (eFn c_is_alone [0] [] (aCons (eName 4) aNil))))
  (sSeq (sIf (tOrF (eB (eBin gIs (eName 1) (eC .non))) (eT (eName 3))) (sRet (eAnd (eBin gIs (eName 1) (eC .non)) (eName 3))) sSkip)
  (sSeq (sIf (tOrF (tNotF (eT (eIsO2 [("Skin", true)] (eName 2)))) (eB (eBin gNe (eCall gReprA (aCons (eTup (aCons (eUn (gFld ["Skin"] "zones") (eName 2)) (aCons (eUn (gFld ["Skin"] "stretch") (eName 2)) (aCons (eUn (gFld ["Skin"] "grade") (eName 2)) aNil)))) aNil)) (eCall gReprA (aCons (eName 1) aNil))))) (sRet (eC (.bl false))) sSkip)
  (sRet (eAnd (eBin gEq (eOwn (gOwn "Skin" c_Skin_str isStrD) (aCons (eName 2) aNil)) (eName 0)) (eAnd (eBin gIs (eBin (gOeq "Skin" c_Skin_eq) (eName 2) (eGc (eMk "Skin" c_Skin_init [0, 1, 2, 3] [(.int 0), (.int 0)] (aCons (eBin gIx (eName 1) (eC (.int 0))) (aCons (eBin gIx (eName 1) (eC (.int 1))) (aCons (eBin gIx (eName 1) (eC (.int 2))) aNil))) aNil))) (eC (.bl true))) (eBin gEq (eOwn (gOwn "Skin" c_Skin_len isLenD) (aCons (eName 2) aNil)) (eCall gLen (aCons (eBin gIx (eName 1) (eC (.int 0))) aNil))))))))))))
def c_is_so : List D → Hs → R D := fnBody 5 f_is_so
def f_law : FS := (sSeq (sSet 1 (eFn c_deck [0] [] (aCons (eName 0) aNil)))
  (sSeq (sFor (iR1 (aCons (eC (.int 3)) aNil)) (nSet 2)
  (sSeq (sSetC 3 false (lComp (iR1 (aCons (eC (.int 12)) aNil)) (nSet 8) tYesF (eFn c_draw [0, 1] [] (aCons (eName 1) (aCons (eC (.int 2)) aNil))) [8]))
  (sSeq (sSet 4 (eFn c_text [0] [] (aCons (eName 1) aNil)))
  (sFor (iAny (eName 3)) (nSet 5)
  (sSeq (sSet 6 (eFn c_bent_text [0, 1] [] (aCons (eName 1) (aCons (eName 4) aNil))))
  (sSeq (sIf (eB (eBin gEq (eName 5) (eC (.int 1)))) (sSet 6 (eFn c_bent_text [0, 1] [] (aCons (eName 1) (aCons (eName 6) aNil)))) sSkip)
  (sIf (tOrF (tNotF (eT (eFn c_is_so [0] [] (aCons (eName 6) aNil)))) (tNotF (eT (eFn c_is_so [0] [] (aCons (eName 4) aNil))))) (sRet (eC (.bl false))) sSkip)))))))
  (sSeq (sSet 7 (eV (aCons (eC (.str "")) (aCons (eC (.str " ")) (aCons (eC (.str "a5")) (aCons (eC (.str "s0 g0")) (aCons (eC (.str "a5 s0")) (aCons (eC (.str "a5 g0 s0")) (aCons (eC (.str "a5 s0 g0 ")) (aCons (eC (.str "a1 a2 a3 a4 a5 s0 g0")) (aCons (eC (.str "a5\ns0\ng0")) (aCons (eC (.str "a5  s0 g0")) aNil))))))))))))
  (sSeq (sSet 7 (eBin gAdd (eName 7) (eV (aCons (eBin gAdd (eBin gAdd (eC (.str "a")) (eBin gMulS (eC (.str "1")) (eC (.int 3000)))) (eC (.str " s0 g0"))) (aCons (eBin gAdd (eBin gAdd (eC (.str "a5 s")) (eBin gMulS (eC (.str "0")) (eC (.int 3900)))) (eC (.str " g0"))) (aCons (eC (.str "a1 s0 g0")) (aCons (eC (.str "x24 x24 x24 x24 s40 g2")) aNil)))))))
  (sSeq (sSet 7 (eBin gAdd (eName 7) (eV (aCons (eC .non) (aCons (eC (.bl true)) (aCons (eC (.int 0)) (aCons (eC (.int 5)) (aCons (eTup aNil) (aCons (eTup (aCons (eC (.str "a5")) (aCons (eC (.str "s0")) (aCons (eC (.str "g0")) aNil)))) (aCons (eV aNil) (aCons (eV (aCons (eC (.str "a5 s0 g0")) aNil)) (aCons eD0 (aCons (eDisp (pCons (eC (.str "a5")) (eC (.int 1)) pNil)) (aCons (eTup (aCons (eTup (aCons (eC (.str "along")) (aCons (eC (.int 5)) aNil))) aNil)) aNil))))))))))))))
  (sRet (eBin gEqL (eV (lComp (iAny (eName 7)) (nSet 6) (tNotF (eT (eFn c_is_so [0] [] (aCons (eName 6) aNil)))) (eName 6) [6])) (eV aNil))))))))
def c_law : List D → Hs → R D := fnBody 9 f_law
end
end K09

namespace K09
open PySem PySem.Spec L2 G MR
section
variable {L : Nat} {K : Hs → Prop} {h : Hs} {Q : D → Hs → Prop} {X : XQ} {d : D} {k B : Nat} {t : Tb} {zs : List Zo} {z : Zo}
/-! ### words -/
def ns (n : Nat) : List Nat := if n < 10 then [48 + n] else [48 + n / 10, 48 + n % 10]
theorem ns_str {n : Nat} (h : n < 100) : (toString (n : Int) : Str) = T (ns n) := by
  have a : (List.range 100).all (fun n => decide ((toString ((n : Nat) : Int) : Str) = T (ns n))) = true := by decide +kernel
  exact of_decide_eq_true (List.all_eq_true.mp a n (List.mem_range.mpr h))
theorem ns_len {n : Nat} : 1 ≤ (ns n).length ∧ (ns n).length ≤ 2 := by
  unfold ns
  split
  · exact ⟨Nat.le_refl 1, Nat.le_succ 1⟩
  · exact ⟨Nat.le_succ 1, Nat.le_refl 2⟩
theorem ns_dig {n : Nat} (h : n < 100) : ∀ c ∈ ns n, 48 ≤ c ∧ c ≤ 57 := by
  intro c hc
  unfold ns at hc
  split at hc
  · have := List.mem_singleton.mp hc
    omega
  · simp only [List.mem_cons, List.not_mem_nil, or_false] at hc
    omega
theorem ns_int {n : Nat} (h : n < 100) : intText? (T (ns n)) = some (n : Int) := by
  have a : (List.range 100).all (fun n => decide (intText? (T (ns n)) = some ((n : Nat) : Int))) = true := by decide +kernel
  exact of_decide_eq_true (List.all_eq_true.mp a n (List.mem_range.mpr h))
theorem fig_in {g : Hs} {c : Nat} (h : 48 ≤ c ∧ c ≤ 57) : gInA g (.str ⟨#[c]⟩) (.str "0123456789") = some (.bl true) := by
  show some (D.bl (decide (c ∈ ("0123456789" : Str).cps.toList))) = _
  have a : ∀ i, i < 10 → i + 48 ∈ ("0123456789" : Str).cps.toList := by decide +kernel
  have := a (c - 48) (by omega)
  rw [show c - 48 + 48 = c by omega] at this
  rw [decide_eq_true this]
theorem nb_eq {c s n : Nat} {lo hi : Int} (hn : n < 100) (hc : c < 128) (hs : s < 128) (l : lo ≤ n) (u : (n : Int) ≤ hi) :
    c_number_behind [.str (T (c :: ns n)), .str (T [s]), .int lo, .int hi] h = .ok (if c = s then .int (n : Int) else .non) h := by
  obtain ⟨l1, l2⟩ := ns_len (n := n)
  have lt : (T (c :: ns n)).length ≤ 100000 := by rw [T_len, List.length_cons]; omega
  have e1 : cutS (T (c :: ns n)) (some 1) none = T (ns n) := by
    rw [T_cut, cutX_from _ (by decide)]; rfl
  have e2 : cutS (T (c :: ns n)) none (some 1) = T [c] := by
    rw [T_cut, cutX_to _ (by decide)]; rfl
  have l3 : (T (ns n)).length ≤ 2 := by rw [T_len]; exact l2
  refine eq_any fun Q X q => ?_
  unfold c_number_behind f_number_behind
  refine wp_bodyE [some (.str (T (c :: ns n))), some (.str (T [s])), some (.int lo), some (.int hi), none, none, none] rfl ?_
  fail "n"
  rw [e1, e2]
  by_cases e : c = s
  · subst e
    rw [beq_self_eq_true]
    rw [if_pos rfl] at q
    refine ⟨fun w => (by cases w), fun _ => ?_⟩
    fail "n"
    have dl : decide ((1 : Int) ≤ ((T (ns n)).length : Int)) = true := decide_eq_true (by rw [T_len]; omega)
    have dl2 : decide (((T (ns n)).length : Int) ≤ 2) = true := decide_eq_true (by rw [T_len]; omega)
    rw [dl]
    refine ⟨fun _ => ?_, fun w => (by cases w)⟩
    fail "n"
    rw [dl2]
    refine ⟨fun w => (by cases w), fun _ => ?_⟩
    fail "n"
    refine wp_cfm (fun _ => true) (sgC fun _ => true) (wp_any ?_)
    fail "n"
    refine ⟨by rw [signs_len]; omega, fun d hd => ?_, ?_⟩
    · unfold signs at hd
      obtain ⟨x, hx, rfl⟩ := List.mem_map.mp hd
      rw [T_cps] at hx
      refine ⟨_, rfl, ?_⟩
      fail "n"
      intro _
      fail "n"
      refine wp_some (fig_in (ns_dig hn x hx)) ?_
      first | rfl | exact ⟨rfl, rfl⟩
    rw [List.filter_eq_self.mpr (fun _ _ => rfl), sgC_map]
    fail "n"
    refine wp_some gAll_bls ?_
    rw [show (((T (ns n)).cps.toList.map fun _ => true).all id) = true from List.all_eq_true.mpr fun b hb => by
      obtain ⟨x, _, rfl⟩ := List.mem_map.mp hb
      rfl]
    fail "n"
    refine ⟨fun w => (by cases w), fun _ => ?_⟩
    fail "n"
    refine wp_some (intT_str (by omega) (ns_int hn)) ?_
    fail "n"
    rw [show Str.ofString (toString (n : Int)) = T (ns n) from ns_str hn, beq_self_eq_true]
    refine ⟨fun w => (by cases w), fun _ => ?_⟩
    fail "n"
    rw [decide_eq_true l]
    refine ⟨fun _ => ?_, fun w => (by cases w)⟩
    fail "n"
    rw [decide_eq_true u]
    refine ⟨fun w => (by cases w), fun _ => ?_⟩
    fail "n"
    exact q
  · rw [if_neg e] at q
    have e3 : (T [c] == T [s]) = false := beq_eq_false_iff_ne.mpr fun z => e (by have := T_inj z; exact (List.cons.inj this).1)
    rw [e3]
    refine ⟨fun _ => ?_, fun w => (by cases w)⟩
    fail "n"
    refine ⟨fun _ => ?_, fun w => (by cases w)⟩
    fail "n"
    exact q

/-! ### other words -/
theorem T_beq {a b : List Nat} : (T a == T b) = decide (a = b) := by
  rw [Bool.eq_iff_iff, decide_eq_true_iff]
  exact ⟨fun e => T_inj (eq_of_beq e), fun e => by rw [e]; exact beq_self_eq_true _⟩
def isF (c : Nat) : Bool := decide (48 ≤ c) && decide (c ≤ 57)
theorem fig_any {g : Hs} {c : Nat} : gInA g (.str ⟨#[c]⟩) (.str "0123456789") = some (.bl (isF c)) := by
  show some (D.bl (decide (c ∈ ("0123456789" : Str).cps.toList))) = _
  rw [show ("0123456789" : Str).cps.toList = [48, 49, 50, 51, 52, 53, 54, 55, 56, 57] by decide +kernel]
  congr 2
  unfold isF
  rw [Bool.eq_iff_iff, decide_eq_true_iff, Bool.and_eq_true, decide_eq_true_iff, decide_eq_true_iff]
  simp only [List.mem_cons, List.not_mem_nil, or_false]
  omega
theorem dig1 {d : Nat} (h : isF d = true) : intText? (T [d]) = some ((d - 48 : Nat) : Int) := by
  have a : (List.range 10).all (fun n => decide (intText? (T [n + 48]) = some ((n : Nat) : Int))) = true := by decide +kernel
  unfold isF at h
  rw [Bool.and_eq_true, decide_eq_true_iff, decide_eq_true_iff] at h
  have := of_decide_eq_true (List.all_eq_true.mp a (d - 48) (List.mem_range.mpr (by omega)))
  rwa [show d - 48 + 48 = d by omega] at this
theorem dig2 {d e : Nat} (h : isF d = true) (h' : isF e = true) : intText? (T [d, e]) = some (((d - 48) * 10 + (e - 48) : Nat) : Int) := by
  have a : (List.range 10).all (fun n => (List.range 10).all fun m => decide (intText? (T [n + 48, m + 48]) = some ((n * 10 + m : Nat) : Int))) = true := by decide +kernel
  unfold isF at h h'
  rw [Bool.and_eq_true, decide_eq_true_iff, decide_eq_true_iff] at h h'
  have := of_decide_eq_true (List.all_eq_true.mp (List.all_eq_true.mp a (d - 48) (List.mem_range.mpr (by omega))) (e - 48) (List.mem_range.mpr (by omega)))
  rwa [show d - 48 + 48 = d by omega, show e - 48 + 48 = e by omega] at this
theorem figs_int {f : List Nat} (l1 : 1 ≤ f.length) (l2 : f.length ≤ 2) (hf : f.all isF = true) : ∃ n, n < 100 ∧ intText? (T f) = some ((n : Nat) : Int) := by
  match f, l1, l2 with
  | [d], _, _ =>
    have h := List.all_eq_true.mp hf d List.mem_cons_self
    refine ⟨d - 48, ?_, dig1 h⟩
    unfold isF at h
    rw [Bool.and_eq_true, decide_eq_true_iff, decide_eq_true_iff] at h
    omega
  | [d, e], _, _ =>
    have h := List.all_eq_true.mp hf d List.mem_cons_self
    have h' := List.all_eq_true.mp hf e (List.mem_cons_of_mem _ List.mem_cons_self)
    refine ⟨(d - 48) * 10 + (e - 48), ?_, dig2 h h'⟩
    unfold isF at h h'
    rw [Bool.and_eq_true, decide_eq_true_iff, decide_eq_true_iff] at h h'
    omega
theorem nb_no {w : List Nat} {s : Nat} {lo hi : Int} (lw : w.length ≤ 9000) (l0 : 0 ≤ lo) (l1 : hi < 100) (no : ∀ n : Nat, lo ≤ n → (n : Int) ≤ hi → w ≠ s :: ns n) :
    c_number_behind [.str (T w), .str (T [s]), .int lo, .int hi] h = .ok .non h := by
  have lt : (T w).length ≤ 100000 := by rw [T_len]; omega
  have e1 : cutS (T w) (some 1) none = T w.tail := by
    rw [T_cut, cutX_from _ (by decide)]
    cases w <;> rfl
  have e2 : cutS (T w) none (some 1) = T (w.take 1) := by
    rw [T_cut, cutX_to _ (by decide)]; rfl
  have l3 : (T w.tail).length ≤ 9000 := by rw [T_len, List.length_tail]; omega
  refine eq_any fun Q X q => ?_
  unfold c_number_behind f_number_behind
  refine wp_bodyE [some (.str (T w)), some (.str (T [s])), some (.int lo), some (.int hi), none, none, none] rfl ?_
  fail "n"
  rw [e1, e2, T_beq]
  by_cases e : w.take 1 = [s]
  · rw [decide_eq_true e]
    refine ⟨fun w => (by cases w), fun _ => ?_⟩
    fail "n"
    by_cases g1 : 1 ≤ w.tail.length
    · have dl : decide ((1 : Int) ≤ ((T w.tail).length : Int)) = true := decide_eq_true (by rw [T_len]; omega)
      rw [dl]
      refine ⟨fun _ => ?_, fun w => (by cases w)⟩
      fail "n"
      by_cases g2 : w.tail.length ≤ 2
      · have dl2 : decide (((T w.tail).length : Int) ≤ 2) = true := decide_eq_true (by rw [T_len]; omega)
        rw [dl2]
        refine ⟨fun w => (by cases w), fun _ => ?_⟩
        fail "n"
        refine wp_cfm (fun _ => true) (sgC isF) (wp_any ?_)
        fail "n"
        refine ⟨by rw [signs_len]; omega, fun d hd => ?_, ?_⟩
        · unfold signs at hd
          obtain ⟨x, hx, rfl⟩ := List.mem_map.mp hd
          refine ⟨_, rfl, ?_⟩
          fail "n"
          intro _
          fail "n"
          refine wp_some fig_any ?_
          first | rfl | exact ⟨rfl, rfl⟩
        rw [List.filter_eq_self.mpr (fun _ _ => rfl), sgC_map]
        fail "n"
        refine wp_some gAll_bls ?_
        rw [show ((T w.tail).cps.toList.map isF).all id = w.tail.all isF by rw [T_cps, List.all_map]; rfl]
        fail "n"
        refine ⟨fun _ => ?_, fun hf => ?_⟩
        · fail "n"
          exact q
        · have hf : w.tail.all isF = true := by simpa using hf
          fail "n"
          obtain ⟨n, hn, e3⟩ := figs_int g1 g2 hf
          refine wp_some (intT_str (by rw [T_len]; omega) e3) ?_
          fail "n"
          rw [show Str.ofString (toString (n : Int)) = T (ns n) from ns_str hn, T_beq]
          by_cases e4 : ns n = w.tail
          · rw [decide_eq_true e4]
            refine ⟨fun w => (by cases w), fun _ => ?_⟩
            fail "n"
            have ew : w = s :: ns n := by
              rw [e4]
              cases w with
              | nil => cases e
              | cons c f => rw [show c = s from (List.cons.inj e).1]; rfl
            by_cases a1 : lo ≤ (n : Int)
            · rw [decide_eq_true a1]
              refine ⟨fun _ => ?_, fun w => (by cases w)⟩
              fail "n"
              rw [decide_eq_false (fun a2 => no n a1 a2 ew)]
              refine ⟨fun _ => ?_, fun w => (by cases w)⟩
              fail "n"
              exact q
            · rw [decide_eq_false a1]
              refine ⟨fun w => (by cases w), fun _ => ?_⟩
              fail "n"
              refine ⟨fun _ => ?_, fun w => (by cases w)⟩
              fail "n"
              exact q
          · rw [decide_eq_false e4]
            refine ⟨fun _ => ?_, fun w => (by cases w)⟩
            fail "n"
            refine ⟨fun _ => ?_, fun w => (by cases w)⟩
            fail "n"
            exact q
      · rw [decide_eq_false (show ¬ (((T w.tail).length : Int) ≤ 2) by rw [T_len]; omega)]
        refine ⟨fun _ => ?_, fun w => (by cases w)⟩
        fail "n"
        refine ⟨fun _ => ?_, fun w => (by cases w)⟩
        fail "n"
        exact q
    · rw [decide_eq_false (show ¬ ((1 : Int) ≤ ((T w.tail).length : Int)) by rw [T_len]; omega)]
      refine ⟨fun w => (by cases w), fun _ => ?_⟩
      fail "n"
      refine ⟨fun _ => ?_, fun w => (by cases w)⟩
      fail "n"
      refine ⟨fun _ => ?_, fun w => (by cases w)⟩
      fail "n"
      exact q
  · rw [decide_eq_false e]
    refine ⟨fun _ => ?_, fun w => (by cases w)⟩
    fail "n"
    refine ⟨fun _ => ?_, fun w => (by cases w)⟩
    fail "n"
    exact q
end
section
variable {L : Nat} {K : Hs → Prop} {h : Hs} {Q : D → Hs → Prop} {X : XQ} {d : D} {k B : Nat} {zs : List Zo} {z : Zo} {cs w : List Nat} {s g : Nat}
theorem eq_exc {r : R D} {c : Str} {fs : List (Str × D)} {h : Hs} (w : ∀ (Q : D → Hs → Prop) (X : XQ), X c fs h → Wp r Q X) : r = .exc c fs h := by
  have q := w (fun _ _ => False) (fun c' fs' h' => c' = c ∧ fs' = fs ∧ h' = h) ⟨rfl, rfl, rfl⟩
  with_unfolding_all
  cases r with
  | ok a b => exact q.elim
  | exc a b e => obtain ⟨rfl, rfl, rfl⟩ := (show a = c ∧ b = fs ∧ e = h from q); rfl
  | bad => exact q.elim
/-! ### zones as words -/
def zT (z : Zo) : List Nat := (if z.1 = true then 120 else 97) :: ns z.2
theorem ns_inj {n m : Nat} (hn : n < 100) (hm : m < 100) (e : ns n = ns m) : n = m := by
  have a := ns_int hn
  rw [e, ns_int hm] at a
  have := Option.some.inj a
  omega
theorem zT_inj {y z : Zo} (hy : y.2 < 100) (hz : z.2 < 100) (e : zT y = zT z) : y = z := by
  obtain ⟨b, n⟩ := y
  obtain ⟨b', m⟩ := z
  obtain ⟨e1, e2⟩ := List.cons.inj e
  have e3 := ns_inj hy hz e2
  dsimp only at e1 e3
  rw [e3]
  cases b <;> cases b' <;> simp at e1 <;> rfl
def allZ : List Zo := (List.range 24).flatMap fun k => [(false, k + 1), (true, k + 1)]
theorem mem_allZ {z : Zo} : z ∈ allZ ↔ 1 ≤ z.2 ∧ z.2 ≤ 24 := by
  unfold allZ
  rw [List.mem_flatMap]
  constructor
  · rintro ⟨k, hk, hz⟩
    have := List.mem_range.mp hk
    simp only [List.mem_cons, List.not_mem_nil, or_false] at hz
    rcases hz with rfl | rfl <;> exact ⟨Nat.le_add_left 1 k, by dsimp only; omega⟩
  · rintro ⟨h1, h2⟩
    refine ⟨z.2 - 1, List.mem_range.mpr (by omega), ?_⟩
    obtain ⟨b, n⟩ := z
    dsimp only at h1 h2 ⊢
    rw [show n - 1 + 1 = n by omega]
    cases b <;> simp
def zof (w : List Nat) : Option Zo := allZ.find? fun z => decide (zT z = w)
theorem zof_some (e : zof w = some z) : zT z = w ∧ 1 ≤ z.2 ∧ z.2 ≤ 24 :=
  ⟨of_decide_eq_true (List.find?_some (p := fun z => decide (zT z = w)) e), mem_allZ.mp (List.mem_of_find?_eq_some e)⟩
theorem zof_none (e : zof w = none) : ∀ z : Zo, 1 ≤ z.2 → z.2 ≤ 24 → w ≠ zT z := fun z h1 h2 q => by
  have := List.find?_eq_none.mp e z (mem_allZ.mpr ⟨h1, h2⟩)
  exact this (decide_eq_true q.symm)
theorem zof_zT (h1 : 1 ≤ z.2) (h2 : z.2 ≤ 24) : zof (zT z) = some z := by
  cases e : zof (zT z) with
  | none => exact absurd rfl (zof_none e z h1 h2)
  | some y =>
    obtain ⟨q, a, b⟩ := zof_some e
    rw [zT_inj (by omega) (by omega) q]
theorem zof_tot (h1 : ∀ z ∈ zs, 1 ≤ z.2 ∧ z.2 ≤ 24) : mapX (fun w => (zof w).map znD) (zs.map zT) = some (zs.map znD) := by
  induction zs with
  | nil => rfl
  | cons z zs ih =>
    have e : (zof (zT z)).map znD = some (znD z) := by rw [zof_zT (h1 z List.mem_cons_self).1 (h1 z List.mem_cons_self).2]; rfl
    rw [List.map_cons, mapX, e, ih fun y hy => h1 y (List.mem_cons_of_mem _ hy)]; rfl
theorem mapX_z : ∀ {us : List (List Nat)} {ds : List D}, mapX (fun w => (zof w).map znD) us = some ds → ∃ zs : List Zo, us = zs.map zT ∧ ds = zs.map znD ∧ ∀ z ∈ zs, 1 ≤ z.2 ∧ z.2 ≤ 24
  | [], ds, e => ⟨[], rfl, by cases e; rfl, fun _ h => nomatch h⟩
  | w :: us, ds, e => by
    rw [mapX] at e
    cases q : zof w with
    | none => rw [q] at e; cases e
    | some z =>
      rw [q] at e
      obtain ⟨e1, e2, e3⟩ := zof_some q
      cases q2 : mapX (fun w => (zof w).map znD) us with
      | none => rw [q2] at e; cases e
      | some ds' =>
        rw [q2] at e
        cases e
        obtain ⟨zs, rfl, rfl, hz⟩ := mapX_z q2
        exact ⟨z :: zs, by rw [← e1]; rfl, rfl, fun y hy => by
          rcases List.mem_cons.mp hy with rfl | hy
          · exact ⟨e2, e3⟩
          · exact hz y hy⟩
theorem zread (lw : w.length ≤ 9000) : c_zone_read [.str (T w)] h = orX "NoText" [] h ((zof w).map znD) := by
  have sa : ∀ {h' : Hs}, c_sign_of [.str (Str.ofString "along")] h' = .ok (.str (T [97])) h' := fun {h'} => by
    rw [sign_eq]
    have e : (if (Str.ofString "along" == Str.ofString "along") = true then Str.ofString "a" else Str.ofString "x") = T [97] := by decide +kernel
    rw [e]
  have sx : ∀ {h' : Hs}, c_sign_of [.str (Str.ofString "across")] h' = .ok (.str (T [120])) h' := fun {h'} => by
    rw [sign_eq]
    have e : (if (Str.ofString "across" == Str.ofString "along") = true then Str.ofString "a" else Str.ofString "x") = T [120] := by decide +kernel
    rw [e]
  cases q : zof w with
  | some z =>
    obtain ⟨e, h1, h2⟩ := zof_some q
    subst e
    obtain ⟨b, n⟩ := z
    have hn : n < 100 := by dsimp only at h2; omega
    dsimp only at h1 h2 ⊢
    show _ = R.ok (znD (b, n)) h
    refine eq_any fun Q X q => ?_
    unfold c_zone_read f_zone_read
    have lo : (1 : Int) ≤ (n : Int) := by omega
    have hi : (n : Int) ≤ 24 := by omega
    refine wp_bodyE [some (.str (T (zT (b, n)))), none, none] rfl ?_
    fail "n"
    refine ws_for (wp_any ?_)
    fail "n"
    refine ⟨2, fun i e k => k = h ∧ (i = 0 ∨ (b = true ∧ i = 1)) ∧ ∃ x1 x2, e = [some (.str (T (zT (b, n)))), x1, x2], by decide, ⟨rfl, .inl rfl, _, _, rfl⟩, ?_, ?_⟩
    · rintro i _ k hi2 ⟨rfl, hib, x1, x2, rfl⟩
      rcases hib with rfl | ⟨rfl, rfl⟩
      · refine ⟨.str (Str.ofString "along"), _, rfl, rfl, ?_⟩
        fail "n"
        refine wp_of sa ?_
        fail "n"
        cases b
        · refine wp_of (show _ = R.ok (D.int (n : Int)) _ from nb_eq (c := 97) (s := 97) hn (by decide) (by decide) lo hi) ?_
          fail "n"
          refine wp_some (show gIsN k (.int (n : Int)) .non = some (.bl true) from rfl) ?_
          fail "n"
          refine ⟨fun _ => ?_, tnof⟩
          fail "n"
          exact q
        · refine wp_of (show _ = R.ok D.non _ from nb_eq (c := 120) (s := 97) hn (by decide) (by decide) lo hi) ?_
          fail "n"
          refine wp_some (show gIsN k .non .non = some (.bl false) from rfl) ?_
          fail "n"
          refine ⟨fun w => (by cases w), fun _ => ?_⟩
          fail "n"
          first | exact ⟨rfl, .inr ⟨rfl, rfl⟩, _, _, rfl⟩ | exact ⟨.inr ⟨rfl, rfl⟩, _, _, rfl⟩
      · refine ⟨.str (Str.ofString "across"), _, rfl, rfl, ?_⟩
        fail "n"
        refine wp_of sx ?_
        fail "n"
        refine wp_of (show _ = R.ok (D.int (n : Int)) _ from nb_eq (c := 120) (s := 120) hn (by decide) (by decide) lo hi) ?_
        fail "n"
        refine wp_some (show gIsN k (.int (n : Int)) .non = some (.bl true) from rfl) ?_
        fail "n"
        refine ⟨fun _ => ?_, tnof⟩
        fail "n"
        exact q
    · rintro _ k ⟨rfl, hib, x1, x2, rfl⟩
      rcases hib with h | ⟨_, h⟩ <;> cases h
  | none =>
    have no := zof_none q
    show _ = R.exc "NoText" [] h
    refine eq_exc fun Q X q => ?_
    unfold c_zone_read f_zone_read
    refine wp_bodyE [some (.str (T w)), none, none] rfl ?_
    fail "n"
    refine ws_for (wp_any ?_)
    fail "n"
    refine ⟨2, fun i e k => k = h ∧ ∃ x1 x2, e = [some (.str (T w)), x1, x2], by decide, ⟨rfl, _, _, rfl⟩, ?_, ?_⟩
    · rintro i _ k hi2 ⟨rfl, x1, x2, rfl⟩
      match i, hi2 with
      | 0, _ =>
        refine ⟨.str (Str.ofString "along"), _, rfl, rfl, ?_⟩
        fail "n"
        refine wp_of sa ?_
        fail "n"
        refine wp_of (show _ = R.ok D.non _ from nb_no (s := 97) lw (by decide) (by decide) fun n h1 h2 e => no (false, n) (by dsimp only; omega) (by dsimp only; omega) e) ?_
        fail "n"
        refine wp_some (show gIsN k .non .non = some (.bl false) from rfl) ?_
        fail "n"
        refine ⟨fun w => (by cases w), fun _ => ?_⟩
        fail "n"
        first | exact ⟨rfl, _, _, rfl⟩ | exact ⟨_, _, rfl⟩
      | 1, _ =>
        refine ⟨.str (Str.ofString "across"), _, rfl, rfl, ?_⟩
        fail "n"
        refine wp_of sx ?_
        fail "n"
        refine wp_of (show _ = R.ok D.non _ from nb_no (s := 120) lw (by decide) (by decide) fun n h1 h2 e => no (true, n) (by dsimp only; omega) (by dsimp only; omega) e) ?_
        fail "n"
        refine wp_some (show gIsN k .non .non = some (.bl false) from rfl) ?_
        fail "n"
        refine ⟨fun w => (by cases w), fun _ => ?_⟩
        fail "n"
        first | exact ⟨rfl, _, _, rfl⟩ | exact ⟨_, _, rfl⟩
    · rintro _ k ⟨rfl, x1, x2, rfl⟩
      refine ⟨rfl, ?_⟩
      fail "n"
      refine ws_raise ?_
      exact q
end
section
variable {L : Nat} {K : Hs → Prop} {h : Hs} {Q : D → Hs → Prop} {X : XQ} {d : D} {k B : Nat} {zs : List Zo} {z : Zo} {cs w : List Nat} {s g : Nat}
/-! ### words -/
theorem T_tl (x : Str) : T (TL.tl x) = x := by
  obtain ⟨⟨a⟩⟩ := x
  rfl
def wds (cs : List Nat) : List (List Nat) := (Txt.split (T cs) (Str.ofString " ")).map TL.tl
theorem wds_T (cs : List Nat) : Txt.split (T cs) (Str.ofString " ") = (wds cs).map T := by
  unfold wds
  rw [List.map_map]
  conv => lhs; rw [← List.map_id (Txt.split (T cs) (Str.ofString " "))]
  exact List.map_congr_left fun x _ => (T_tl x).symm
theorem wds_join (cs : List Nat) : Txt.join (Str.ofString " ") ((wds cs).map T) = T cs := by
  rw [← wds_T, TL.join_eq]
  exact StrLaws.join_split _ _
theorem mem_join (S : List Nat) : ∀ {ps : List (List Nat)} {p : List Nat}, p ∈ ps → p.length ≤ (TL.joinL S ps).length
  | [p], q, h => by rw [List.mem_singleton.mp h]; exact Nat.le_refl _
  | p :: p2 :: r, q, h => by
    show q.length ≤ (p ++ (S ++ TL.joinL S (p2 :: r))).length
    rw [List.length_append, List.length_append]
    rcases List.mem_cons.mp h with rfl | h
    · omega
    · have := mem_join S h
      omega
theorem joinL_wds (cs : List Nat) : TL.joinL (TL.tl (Str.ofString " ")) (wds cs) = cs := by
  have e := congrArg TL.tl (wds_join cs)
  rw [TL.join_eq, TL.tl_join, List.map_map] at e
  have e2 : (wds cs).map (TL.tl ∘ T) = wds cs := by
    conv => rhs; rw [← List.map_id (wds cs)]
    rfl
  rw [e2] at e
  exact e
theorem wds_len (h : w ∈ wds cs) : w.length ≤ cs.length := by
  have := mem_join (TL.tl (Str.ofString " ")) h
  rwa [joinL_wds] at this
theorem wds_num {ps : List (List Nat)} (S : List Nat) : S.length = 1 → ps.length ≤ (TL.joinL S ps).length + 1 := by
  intro hs
  induction ps with
  | nil => exact Nat.zero_le _
  | cons p r ih =>
    cases r with
    | nil => show 1 ≤ _; omega
    | cons p2 r =>
      show (p2 :: r).length + 1 ≤ (p ++ (S ++ TL.joinL S (p2 :: r))).length + 1
      rw [List.length_append, List.length_append]
      omega
theorem wds_n (cs : List Nat) : (wds cs).length ≤ cs.length + 1 := by
  have := wds_num (ps := wds cs) (TL.tl (Str.ofString " ")) (by decide +kernel)
  rwa [joinL_wds] at this
abbrev wD (w : List Nat) : D := .str (T w)
theorem msplit (l : cs.length ≤ 9000) : mSplit h (.str (T cs)) [.str (Str.ofString " ")] = some (.lst ((wds cs).map wD), h) := by
  unfold mSplit
  dsimp only
  rw [if_pos ⟨by decide +kernel, by rw [T_len]; have := sizeLine_eq; omega⟩, wds_T, List.map_map]; rfl
theorem last2 {W : List (List Nat)} (l : 2 ≤ W.length) : ∃ us a b, W = us ++ [a, b] := by
  have h1 : W ≠ [] := by rintro rfl; cases l
  have h2 : W.dropLast ≠ [] := by
    intro e
    have := congrArg List.length e
    rw [List.length_dropLast] at this
    simp at this
    omega
  refine ⟨W.dropLast.dropLast, W.dropLast.getLast h2, W.getLast h1, ?_⟩
  have e1 := List.dropLast_concat_getLast h1
  have e2 := List.dropLast_concat_getLast h2
  rw [show ∀ (u : List (List Nat)) a b, u ++ [a, b] = (u ++ [a]) ++ [b] from fun u a b => by rw [List.append_assoc]; rfl, e2, e1]
theorem ix2 {xs : List D} {a b : D} : gIx h (.lst (xs ++ [a, b])) (.int (-2)) = some a := by
  have l : (xs ++ [a, b]).length = xs.length + 2 := by rw [List.length_append]; rfl
  refine ix_lst ?_
  unfold L2.atI L2.ixN
  rw [l, if_neg (by decide), if_pos (by omega)]
  show (xs ++ [a, b])[((-2 : Int) + ((xs.length + 2 : Nat) : Int)).toNat]? = _
  rw [show ((-2 : Int) + ((xs.length + 2 : Nat) : Int)).toNat = xs.length by omega, List.getElem?_append_right (Nat.le_refl _), Nat.sub_self]; rfl
theorem ix1 {xs : List D} {a b : D} : gIx h (.lst (xs ++ [a, b])) (.int (-1)) = some b := by
  have l : (xs ++ [a, b]).length = xs.length + 2 := by rw [List.length_append]; rfl
  refine ix_lst ?_
  unfold L2.atI L2.ixN
  rw [l, if_neg (by decide), if_pos (by omega)]
  show (xs ++ [a, b])[((-1 : Int) + ((xs.length + 2 : Nat) : Int)).toNat]? = _
  rw [show ((-1 : Int) + ((xs.length + 2 : Nat) : Int)).toNat = xs.length + 1 by omega, List.getElem?_append_right (Nat.le_succ _), show xs.length + 1 - xs.length = 1 by omega]; rfl
theorem cut2 {xs : List D} {a b : D} : cutX (xs ++ [a, b]) none (some (-2)) = xs := by
  have l : (xs ++ [a, b]).length = xs.length + 2 := by rw [List.length_append]; rfl
  unfold cutX HT.sIx
  rw [l]
  dsimp only
  rw [if_pos (by decide), show ((-2 : Int) + ((xs.length + 2 : Nat) : Int)).toNat = xs.length by omega, Nat.sub_zero, List.drop_zero, List.take_append_of_le_length (Nat.le_refl _), List.take_length]
/-! ### what is a skin's text -/
structure Good (cs : List Nat) (zs : List Zo) (s g : Nat) : Prop where
  e : wds cs = zs.map zT ++ [115 :: ns s, 103 :: ns g]
  l1 : 1 ≤ zs.length
  l4 : zs.length ≤ 4
  z : ∀ z ∈ zs, 1 ≤ z.2 ∧ z.2 ≤ 24
  s : s ≤ 40
  g : g ≤ 2
theorem two_inj {us vs : List (List Nat)} {a b c d : List Nat} (e : us ++ [a, b] = vs ++ [c, d]) : us = vs ∧ a = c ∧ b = d := by
  have l : us.length = vs.length := by
    have := congrArg List.length e
    rw [List.length_append, List.length_append] at this
    exact Nat.add_right_cancel this
  obtain ⟨h1, h2⟩ := List.append_inj e l
  obtain ⟨h3, h4⟩ := List.cons.inj h2
  exact ⟨h1, h3, (List.cons.inj h4).1⟩
theorem map_zT_inj : ∀ {ys zs : List Zo}, (∀ z ∈ ys, z.2 < 100) → (∀ z ∈ zs, z.2 < 100) → ys.map zT = zs.map zT → ys = zs
  | [], [], _, _, _ => rfl
  | [], z :: zs, _, _, e => nomatch e
  | y :: ys, [], _, _, e => nomatch e
  | y :: ys, z :: zs, h1, h2, e => by
    obtain ⟨e1, e2⟩ := List.cons.inj e
    rw [zT_inj (h1 y List.mem_cons_self) (h2 z List.mem_cons_self) e1, map_zT_inj (fun x hx => h1 x (List.mem_cons_of_mem _ hx)) (fun x hx => h2 x (List.mem_cons_of_mem _ hx)) e2]
theorem Good.uniq {zs' : List Zo} {s' g' : Nat} (p : Good cs zs s g) (q : Good cs zs' s' g') : zs = zs' ∧ s = s' ∧ g = g' := by
  obtain ⟨h1, h2, h3⟩ := two_inj (p.e.symm.trans q.e)
  have := p.s
  have := q.s
  have := p.g
  have := q.g
  exact ⟨map_zT_inj (fun z hz => by have := (p.z z hz).2; omega) (fun z hz => by have := (q.z z hz).2; omega) h1, ns_inj (by omega) (by omega) (List.cons.inj h2).2, ns_inj (by omega) (by omega) (List.cons.inj h3).2⟩
abbrev skOf (zs : List Zo) (s g : Nat) : D := skD (.tup (zs.map znD)) (.int (s : Int)) (.int (g : Int))
theorem read_any (l : cs.length ≤ 9000) (y : ∀ zs s g, Good cs zs s g → Q (skOf zs s g) h) (n : (∀ zs s g, ¬ Good cs zs s g) → X "NoText" [] h) : Wp (c_read_skin [.str (T cs)] h) Q X := by
  unfold c_read_skin f_read_skin
  refine wp_bodyE [some (.str (T cs)), none, none, none, none] rfl ?_
  fail "n"
  refine ⟨fun w => (by cases w), fun _ => ?_⟩
  fail "n"
  refine wp_someP (msplit l) ?_
  have hl := wds_n cs
  have hw : ∀ w ∈ wds cs, w.length ≤ 9000 := fun w hw => Nat.le_trans (wds_len hw) l
  have no2 : ¬ (3 ≤ (wds cs).length ∧ (wds cs).length ≤ 6) → ∀ zs s g, ¬ Good cs zs s g := fun e zs s g G => e (by
    rw [G.e, List.length_append, List.length_map]
    have := G.l1
    have := G.l4
    show 3 ≤ zs.length + 2 ∧ zs.length + 2 ≤ 6
    omega)
  by_cases l3 : 3 ≤ (wds cs).length
  · obtain ⟨us, a, b, eu⟩ := last2 (W := wds cs) (by omega)
    rw [eu] at hw l3 no2 ⊢
    have lw : (us ++ [a, b]).length = us.length + 2 := by rw [List.length_append]; rfl
    rw [lw] at l3 no2
    have ha : a.length ≤ 9000 := hw a (by simp)
    have hb : b.length ≤ 9000 := hw b (by simp)
    have hu : ∀ w ∈ us, w.length ≤ 9000 := fun w hw' => hw w (List.mem_append_left _ hw')
    have ed : (us ++ [a, b]).map wD = us.map wD ++ [wD a, wD b] := by rw [List.map_append]; rfl
    rw [ed]
    have lws : (us.map wD ++ [wD a, wD b]).length = us.length + 2 := by rw [List.length_append, List.length_map]; rfl
    fail "n"
    rw [lws]
    rw [decide_eq_true (show (3 : Int) ≤ ((us.length + 2 : Nat) : Int) by omega)]
    refine ⟨fun _ => ?_, fun w => (by cases w)⟩
    fail "n"
    by_cases l6 : us.length ≤ 4
    · rw [decide_eq_true (show ((us.length + 2 : Nat) : Int) ≤ 2 + 4 by omega)]
      refine ⟨fun w => (by cases w), fun _ => ?_⟩
      fail "n"
      refine wp_some ix2 ?_
      fail "n"
      by_cases hs : ∃ s, s ≤ 40 ∧ a = 115 :: ns s
      · obtain ⟨s, s40, rfl⟩ := hs
        refine wp_of (show c_number_behind [.str (T (115 :: ns s)), .str (Str.ofString "s"), .int 0, .int 40] _ = R.ok (D.int (s : Int)) _ from by
          rw [show Str.ofString "s" = T [115] by decide +kernel]
          exact nb_eq (c := 115) (s := 115) (by omega) (by decide) (by decide) (by omega) (by omega)) ?_
        fail "n"
        refine wp_some ix1 ?_
        fail "n"
        by_cases hg : ∃ g, g ≤ 2 ∧ b = 103 :: ns g
        · obtain ⟨g, g2, rfl⟩ := hg
          refine wp_of (show c_number_behind [.str (T (103 :: ns g)), .str (Str.ofString "g"), .int 0, .int 2] _ = R.ok (D.int (g : Int)) _ from by
            rw [show Str.ofString "g" = T [103] by decide +kernel]
            exact nb_eq (c := 103) (s := 103) (by omega) (by decide) (by decide) (by omega) (by omega)) ?_
          fail "n"
          refine wp_some (show gIs h (.int (s : Int)) .non = some (.bl false) from rfl) ?_
          fail "n"
          refine ⟨fun w => (by cases w), fun _ => ?_⟩
          fail "n"
          refine wp_some (show gIs h (.int (g : Int)) .non = some (.bl false) from rfl) ?_
          fail "n"
          refine ⟨fun w => (by cases w), fun _ => ?_⟩
          fail "n"
          refine wp_egc ?_
          refine wp_mk ?_
          fail "n"
          refine wp_cmX wD (fun w => (zof w).map znD) "NoText" [] (wp_any ?_)
          fail "n"
          rw [cut2]
          refine ⟨us, rfl, by omega, fun w hw' => ⟨_, rfl, ?_⟩, fun ds e => ?_, fun e => ?_⟩
          · show c_zone_read [.str (T w)] _ = _
            exact zread (hu w hw')
          · obtain ⟨zs, rfl, rfl, hz⟩ := mapX_z e
            rw [List.length_map] at l6 l3
            have G : Good cs zs s g := ⟨eu, by omega, l6, hz, s40, g2⟩
            fail "n"
            refine mk_skin (z := .tup (zs.map znD)) (s := .int (s : Int)) (g := .int (g : Int)) ?_
            refine ⟨_, sk_new2 (Nat.le_refl _) (vals_all fun y hy => ?_) rfl rfl, cls_app, ?_⟩
            · obtain ⟨z, _, rfl⟩ := List.mem_map.mp hy
              rfl
            rw [take_app]
            fail "n"
            exact y _ _ _ G
          · have q := n fun zs s' g' G => by
              obtain ⟨e1, _, _⟩ := two_inj (eu.symm.trans G.e)
              rw [e1, zof_tot G.z] at e
              cases e
            refine ⟨[], rfl, fun k hk => .inl rfl, ?_⟩
            rw [List.take_length]
            exact q
        · have no : ∀ zs s g, ¬ Good cs zs s g := fun zs s g G => hg ⟨g, G.g, (two_inj (eu.symm.trans G.e)).2.2⟩
          refine wp_of (show c_number_behind [.str (T b), .str (Str.ofString "g"), .int 0, .int 2] _ = R.ok D.non _ from by
            rw [show Str.ofString "g" = T [103] by decide +kernel]
            exact nb_no (s := 103) hb (by decide) (by decide) fun n h1 h2 e => hg ⟨n, by omega, e⟩) ?_
          fail "n"
          refine wp_some (show gIs h (.int (s : Int)) .non = some (.bl false) from rfl) ?_
          fail "n"
          refine ⟨fun w => (by cases w), fun _ => ?_⟩
          fail "n"
          refine wp_some (show gIs h .non .non = some (.bl true) from rfl) ?_
          fail "n"
          refine ⟨fun _ => ?_, fun w => (by cases w)⟩
          fail "n"
          exact ws_raise (n no)
      · have no : ∀ zs s g, ¬ Good cs zs s g := fun zs s g G => hs ⟨s, G.s, (two_inj (eu.symm.trans G.e)).2.1⟩
        refine wp_of (show c_number_behind [.str (T a), .str (Str.ofString "s"), .int 0, .int 40] _ = R.ok D.non _ from by
          rw [show Str.ofString "s" = T [115] by decide +kernel]
          exact nb_no (s := 115) ha (by decide) (by decide) fun n h1 h2 e => hs ⟨n, by omega, e⟩) ?_
        fail "n"
        refine wp_some ix1 ?_
        fail "n"
        have gb : ∃ v, c_number_behind [.str (T b), .str (Str.ofString "g"), .int 0, .int 2] h = R.ok v h := by
          rw [show Str.ofString "g" = T [103] by decide +kernel]
          by_cases hg : ∃ g, g ≤ 2 ∧ b = 103 :: ns g
          · obtain ⟨g, g2, rfl⟩ := hg
            exact ⟨_, nb_eq (c := 103) (s := 103) (by omega) (by decide) (by decide) (by omega) (by omega)⟩
          · exact ⟨_, nb_no (s := 103) hb (by decide) (by decide) fun n h1 h2 e => hg ⟨n, by omega, e⟩⟩
        obtain ⟨v, hv⟩ := gb
        refine wp_of hv ?_
        fail "n"
        refine wp_some (show gIs h .non .non = some (.bl true) from rfl) ?_
        fail "n"
        refine ⟨fun _ => ?_, fun w => (by cases w)⟩
        fail "n"
        first | exact ws_raise (n no) | (refine ⟨fun _ => ?_, fun w => (by cases w)⟩; fail "n"; exact ws_raise (n no))
    · rw [decide_eq_false (show ¬ (((us.length + 2 : Nat) : Int) ≤ 2 + 4) by omega)]
      refine ⟨fun _ => ?_, fun w => (by cases w)⟩
      fail "n"
      exact ws_raise (n (no2 (by omega)))
  · fail "n"
    rw [List.length_map]
    rw [decide_eq_false (show ¬ ((3 : Int) ≤ (((wds cs).length : Nat) : Int)) by omega)]
    refine ⟨fun w => (by cases w), fun _ => ?_⟩
    fail "n"
    first | exact ws_raise (n (no2 (by omega))) | (refine ⟨fun _ => ?_, fun w => (by cases w)⟩; fail "n"; exact ws_raise (n (no2 (by omega))))
theorem read_odd (hd : Pln d) (hs : tyIs d .str = false) (n : X "NoText" [] h) : Wp (c_read_skin [d] h) Q X := by
  unfold c_read_skin f_read_skin
  refine wp_bodyE [some d, none, none, none, none] rfl ?_
  fail "n"
  rw [hs]
  refine ⟨fun _ => ?_, fun z => nomatch z⟩
  exact ws_raise n
end
section
variable {L : Nat} {K : Hs → Prop} {h : Hs} {Q : D → Hs → Prop} {X : XQ} {d : D} {k B : Nat} {zs : List Zo} {z : Zo} {cs w : List Nat} {s g : Nat}
/-! ### the dicts -/
theorem put_new {k : Type} [DecidableEq k] {acc : List (k × D)} {x : k} {v : D} (h : x ∉ acc.map (·.1)) : putG acc x v = acc ++ [(x, v)] := by
  unfold putG
  rw [if_neg]
  intro e
  obtain ⟨kv, h1, h2⟩ := List.any_eq_true.mp e
  exact h (List.mem_map.mpr ⟨kv, h1, of_decide_eq_true h2⟩)
theorem mrg_new {k : Type} [DecidableEq k] : ∀ (more acc : List (k × D)), ((acc ++ more).map (·.1)).Nodup → mrgG acc more = acc ++ more
  | [], acc, _ => by show acc = acc ++ []; rw [List.append_nil]
  | p :: r, acc, h => by
    have hp : p.1 ∉ acc.map (·.1) := by
      rw [List.map_append, List.nodup_append] at h
      exact fun m => h.2.2 _ m _ (by simp) rfl
    show mrgG (putG acc p.1 p.2) r = _
    rw [put_new hp, mrg_new r _ (by rw [List.append_assoc]; exact h), List.append_assoc]
    rfl
def zsP (n : Nat) : List Zo := (List.range n).flatMap fun k => [(false, k + 1), (true, k + 1)]
theorem mem_zsP {n : Nat} {z : Zo} (h : z ∈ zsP n) : 1 ≤ z.2 ∧ z.2 ≤ n := by
  unfold zsP at h
  rw [List.mem_flatMap] at h
  obtain ⟨k, hk, hz⟩ := h
  have := List.mem_range.mp hk
  simp only [List.mem_cons, List.not_mem_nil, or_false] at hz
  rcases hz with rfl | rfl <;> exact ⟨Nat.le_add_left 1 k, by dsimp only; omega⟩
theorem zsP_s (n : Nat) : zsP (n + 1) = zsP n ++ [(false, n + 1), (true, n + 1)] := by
  unfold zsP
  rw [List.range_succ, List.flatMap_append]; rfl
theorem zsP_len (n : Nat) : (zsP n).length ≤ 2 * n := by
  induction n with
  | zero => exact Nat.le_refl 0
  | succ n ih =>
    rw [zsP_s, List.length_append]
    show (zsP n).length + 2 ≤ _
    omega
def ent (z : Zo) : Key × D := (Sum.inr (T (zT z)), znD z)
theorem put_ent {l : List Zo} (hl : ∀ y ∈ l, y.2 < 100) (hz : z.2 < 100) (n : z ∉ l) : putG (l.map ent) (Sum.inr (T (zT z))) (znD z) = (l ++ [z]).map ent := by
  rw [put_new, List.map_append]; · rfl
  intro m
  rw [List.map_map] at m
  obtain ⟨y, hy, e⟩ := List.mem_map.mp m
  have := zT_inj (hl y hy) hz (T_inj (Sum.inr.inj e))
  exact n (this ▸ hy)
theorem val_ent {l : List Zo} : valG (l.map ent) (Sum.inr (T w)) = (l.find? fun z => decide (zT z = w)).map znD := by
  unfold valG
  rw [List.find?_map, Option.map_map]
  have e : ((fun kv : Key × D => decide (kv.1 = Sum.inr (T w))) ∘ ent) = fun z => decide (zT z = w) := funext fun z => by
    show decide (Sum.inr (T (zT z)) = (Sum.inr (T w) : Key)) = _
    rw [Bool.eq_iff_iff, decide_eq_true_iff, decide_eq_true_iff]
    exact ⟨fun e => T_inj (Sum.inr.inj e), fun e => by rw [e]⟩
  rw [e]
  rfl
theorem at_zones {N : Nat} (e : h[N]? = some (.dk ((zsP 24).map ent))) : atD h (.ref N) (wD w) = some ((zof w).map znD) := by
  unfold atD
  dsimp only
  rw [e]
  show some (valG ((zsP 24).map ent) (Sum.inr (T w))) = _
  rw [val_ent]; rfl
theorem set_dk {N : Nat} {kvs : List (Key × D)} {z : Str} {v : D} (e : h[N]? = some (.dk kvs)) (l : kvs.length ≤ 100000) : mSetA h (.ref N) (.str z) v = some (h.set N (.dk (putG kvs (Sum.inr z) v))) := by
  unfold mSetA
  dsimp only
  rw [e]
  dsimp only [keyD]
  rw [if_pos (lt_line l)]
def numE (c : Nat) (n : Nat) : Key × D := (Sum.inr (T (c :: ns n)), .int (n : Int))
def nof (c m : Nat) (w : List Nat) : Option Nat := (List.range m).find? fun n => decide (c :: ns n = w)
theorem val_num {c m : Nat} : valG ((List.range m).map (numE c)) (Sum.inr (T w)) = (nof c m w).map fun n : Nat => D.int (n : Int) := by
  unfold valG nof
  rw [List.find?_map, Option.map_map]
  have e : ((fun kv : Key × D => decide (kv.1 = Sum.inr (T w))) ∘ numE c) = fun n => decide (c :: ns n = w) := funext fun z => by
    show decide (Sum.inr (T (c :: ns z)) = (Sum.inr (T w) : Key)) = _
    rw [Bool.eq_iff_iff, decide_eq_true_iff, decide_eq_true_iff]
    exact ⟨fun e => T_inj (Sum.inr.inj e), fun e => by rw [e]⟩
  rw [e]
  rfl
theorem nof_some {c m n : Nat} (e : nof c m w = some n) : n < m ∧ w = c :: ns n :=
  ⟨List.mem_range.mp (List.mem_of_find?_eq_some e), (of_decide_eq_true (List.find?_some (p := fun n => decide (c :: ns n = w)) e)).symm⟩
theorem nof_is {c m n : Nat} (hm : m ≤ 100) (h : n < m) : nof c m (c :: ns n) = some n := by
  cases e : nof c m (c :: ns n) with
  | none => exact absurd (decide_eq_true rfl) (List.find?_eq_none.mp e n (List.mem_range.mpr h))
  | some k =>
    obtain ⟨h1, h2⟩ := nof_some e
    rw [ns_inj (by omega) (by omega) (List.cons.inj h2).2]
def numL (c m : Nat) : D := .dlk (((List.range m).map (numE c)).map (·.1)) (((List.range m).map (numE c)).map (·.2))
theorem at_numL {c m : Nat} : atD h (numL c m) (wD w) = some ((nof c m w).map fun n : Nat => D.int (n : Int)) := by
  show some (valG ((((List.range m).map (numE c)).map (·.1)).zip (((List.range m).map (numE c)).map (·.2))) (Sum.inr (T w))) = _
  rw [zip_map, val_num]
def numC (c m : Nat) : D := .dct (((List.range m).map (numE c)).map (·.1)) (((List.range m).map (numE c)).map (·.2))
theorem at_numC {c m : Nat} : atD h (numC c m) (wD w) = some ((nof c m w).map fun n : Nat => D.int (n : Int)) := by
  show some (valG ((((List.range m).map (numE c)).map (·.1)).zip (((List.range m).map (numE c)).map (·.2))) (Sum.inr (T w))) = _
  rw [zip_map, val_num]
end
section
variable {L : Nat} {K : Hs → Prop} {h : Hs} {Q : D → Hs → Prop} {X : XQ} {d : D} {k B : Nat} {zs : List Zo} {z : Zo} {cs w : List Nat} {s g : Nat}
theorem notin_of {o : Option D} {x : D} (e : atD h x d = some o) : gNotInA h d x = some (.bl (!o.isSome)) := by
  unfold gNotInA inAB
  rw [e]; rfl
theorem dget_of {v x : D} (e : atD h x d = some (some v)) : gDget h x d = some v := by
  unfold gDget
  rw [e]
theorem ws_key {c : String} {k n : Nat} (hc : Str.ofString c = T [k]) (hn : n < 100) : Str.ofString c ++ (toString (n : Int) : Str) = T (k :: ns n) := by
  rw [hc, ns_str hn, T_add]; rfl
theorem nx_range (n : Nat) : nxN 0 n = nxL ((List.range n).map fun i : Nat => D.int (i : Int)) := by
  funext h i
  show some (if i < n then some (D.int (0 + (i : Int))) else none) = some ((List.range n).map fun i : Nat => D.int (i : Int))[i]?
  rw [List.getElem?_map]
  by_cases q : i < n
  · rw [if_pos q, List.getElem?_range q, Int.zero_add]; rfl
  · rw [if_neg q, List.getElem?_eq_none (by rw [List.length_range]; omega)]; rfl
theorem pairs_num {c : Nat} : ∀ l : List Nat, pairsK (l.map fun n : Nat => D.tup [.str (T (c :: ns n)), .int (n : Int)]) = some (l.map (numE c))
  | [] => rfl
  | n :: l => by
    have ih := pairs_num (c := c) l
    rw [List.map_cons, pairsK]
    show (match pairsK (l.map fun n : Nat => D.tup [.str (T (c :: ns n)), .int (n : Int)]) with | some rs => some ((Sum.inr (T (c :: ns n)), D.int (n : Int)) :: rs) | none => none) = _
    rw [ih]; rfl
theorem dict_s : gDictP ((List.range 41).map fun n : Nat => D.tup [.str (T (115 :: ns n)), .int (n : Int)]) = some (numL 115 41) := by
  unfold gDictP
  rw [pairs_num]
  dsimp only
  rw [mrg_new _ _ (by decide +kernel), List.nil_append]; rfl
theorem disp_g : (D.dct (List.map (fun x => x.1) (mrgG (k := Key) [] ([Sum.inr (Str.ofString "g0"), Sum.inr (Str.ofString "g1"), Sum.inr (Str.ofString "g2")].zip (List.map (fun x => x.2) [(D.str (Str.ofString "g0"), D.int 0), (D.str (Str.ofString "g1"), D.int 1), (D.str (Str.ofString "g2"), D.int 2)]))))
    (List.map (fun x => x.2) (mrgG (k := Key) [] ([Sum.inr (Str.ofString "g0"), Sum.inr (Str.ofString "g1"), Sum.inr (Str.ofString "g2")].zip (List.map (fun x => x.2) [(D.str (Str.ofString "g0"), D.int 0), (D.str (Str.ofString "g1"), D.int 1), (D.str (Str.ofString "g2"), D.int 2)]))))) = numC 103 3 := by
  rw [mrg_new (k := Key) _ _ (by decide +kernel), List.nil_append, show Str.ofString "g0" = T (103 :: ns 0) by decide +kernel, show Str.ofString "g1" = T (103 :: ns 1) by decide +kernel, show Str.ofString "g2" = T (103 :: ns 2) by decide +kernel]; rfl
theorem all_z : ∀ {us : List (List Nat)}, (us.filter fun w => !(zof w).isSome) = [] → ∃ zs : List Zo, us = zs.map zT ∧ ∀ z ∈ zs, 1 ≤ z.2 ∧ z.2 ≤ 24
  | [], _ => ⟨[], rfl, fun _ h => nomatch h⟩
  | w :: us, e => by
    rw [List.filter_cons] at e
    cases q : zof w with
    | none => rw [q] at e; cases e
    | some z =>
      rw [q] at e
      obtain ⟨zs, rfl, hz⟩ := all_z e
      obtain ⟨e1, e2, e3⟩ := zof_some q
      exact ⟨z :: zs, by rw [← e1]; rfl, fun y hy => by
        rcases List.mem_cons.mp hy with rfl | hy
        · exact ⟨e2, e3⟩
        · exact hz y hy⟩
theorem no_z : ∀ {zs : List Zo}, (∀ z ∈ zs, 1 ≤ z.2 ∧ z.2 ≤ 24) → ((zs.map zT).filter fun w => !(zof w).isSome) = [] := fun {zs} hz => by
  rw [List.filter_eq_nil_iff]
  intro w hw
  obtain ⟨z, hz', rfl⟩ := List.mem_map.mp hw
  rw [zof_zT (hz z hz').1 (hz z hz').2]
  exact Bool.false_ne_true
abbrev dueD (zs : List Zo) (s g : Nat) : D := .tup [.tup (zs.map znD), .int (s : Int), .int (g : Int)]
theorem due_any (l : cs.length ≤ 9000) (y : ∀ zs s g, Good cs zs s g → Q (dueD zs s g) h) (n : (∀ zs s g, ¬ Good cs zs s g) → Q .non h) : Wp (c_due [.str (T cs)] h) Q X := by
  have hl := wds_n cs
  have hw : ∀ w ∈ wds cs, w.length ≤ 9000 := fun w hw => Nat.le_trans (wds_len hw) l
  unfold c_due f_due
  refine wp_gcF ?_
  refine wp_bodyE [some (.str (T cs)), none, none, none, none, none, none] rfl ?_
  fail "n"
  refine ⟨fun w => (by cases w), fun _ => ?_⟩
  fail "n"
  refine wp_someP (msplit l) ?_
  fail "n"
  refine ws_for ?_
  fail "n"
  refine ⟨24, fun i e h' => h' = h ++ [.dk ((zsP i).map ent)] ∧ ∃ x3, e = [some (.str (T cs)), some (.lst ((wds cs).map wD)), some (.ref h.length), x3, none, none, none], by decide, ⟨rfl, _, rfl⟩, ?_, ?_⟩
  · rintro i _ _ hi ⟨rfl, x3, rfl⟩
    refine ⟨.int ((i + 1 : Nat) : Int), _, (nxN_some hi).trans (by congr 3; omega), rfl, ?_⟩
    have l60 : (((i + 1 : Nat) : Int)).natAbs < 10 ^ 60 := Nat.lt_trans (show (((i + 1 : Nat) : Int)).natAbs < 1000 by omega) (by decide)
    have l1 := (tx_int l60).len
    have hm : ∀ y ∈ zsP i, y.2 < 100 := fun y hy => by have := (mem_zsP hy).2; omega
    have n1 : (false, i + 1) ∉ zsP i := fun m => by have := (mem_zsP m).2; dsimp only at this; omega
    have n2 : (true, i + 1) ∉ zsP i ++ [(false, i + 1)] := fun m => by
      rcases List.mem_append.mp m with m | m
      · have := (mem_zsP m).2; dsimp only at this; omega
      · have := List.mem_singleton.mp m; cases this
    have hm2 : ∀ y ∈ zsP i ++ [(false, i + 1)], y.2 < 100 := fun y hy => by
      rcases List.mem_append.mp hy with m | m
      · exact hm y m
      · rw [List.mem_singleton.mp m]; dsimp only; omega
    have zl := zsP_len i
    fail "n"
    rw [ws_key (c := "a") (k := 97) (by decide +kernel) (by omega : i + 1 < 100)]
    refine ⟨_, set_dk get_new (by rw [List.length_map]; omega), ?_⟩
    rw [set_app, show putG ((zsP i).map ent) (Sum.inr (T (97 :: ns (i + 1)))) (.tup [.str (Str.ofString "along"), .int ((i + 1 : Nat) : Int)]) = (zsP i ++ [(false, i + 1)]).map ent from put_ent (z := (false, i + 1)) hm (by dsimp only; omega) n1]
    fail "n"
    rw [ws_key (c := "x") (k := 120) (by decide +kernel) (by omega : i + 1 < 100)]
    refine ⟨_, set_dk get_new (by rw [List.length_map, List.length_append, List.length_singleton]; omega), ?_⟩
    rw [set_app, show putG ((zsP i ++ [(false, i + 1)]).map ent) (Sum.inr (T (120 :: ns (i + 1)))) (.tup [.str (Str.ofString "across"), .int ((i + 1 : Nat) : Int)]) = ((zsP i ++ [(false, i + 1)]) ++ [(true, i + 1)]).map ent from put_ent (z := (true, i + 1)) hm2 (by dsimp only; omega) n2]
    exact ⟨by rw [zsP_s, List.append_assoc]; rfl, _, rfl⟩
  · rintro _ _ ⟨rfl, x3, rfl⟩
    refine ⟨nxN_stop, ?_⟩
    have gz : (h ++ [O.dk ((zsP 24).map ent)])[h.length]? = some (.dk ((zsP 24).map ent)) := get_new
    generalize eh : h ++ [O.dk ((zsP 24).map ent)] = h' at gz ⊢
    have az : ∀ w, atD h' (.ref h.length) (wD w) = some ((zof w).map znD) := fun w => at_zones gz
    have N' : (∀ zs s g, ¬ Good cs zs s g) → ∃ d', dW (dH h' h.length 50) .non = some d' ∧ Cls h h' ∧ Q d' (h'.take h.length) := fun no => ⟨.non, rfl, by rw [← eh]; exact cls_app, by rw [← eh, take_app]; exact n no⟩
    have N2 : (∀ zs s g, ¬ Good cs zs s g) → Cls h h' ∧ Q .non (h'.take h.length) := fun no => ⟨by rw [← eh]; exact cls_app, by rw [← eh, take_app]; exact n no⟩
    fail "n"
    refine wp_dictP ?_
    refine wp_cma (fun n : Nat => D.int (n : Int)) (fun n : Nat => .tup [.str (T (115 :: ns n)), .int (n : Int)]) ?_
    fail "n"
    refine ⟨List.range 41, nx_range 41, by decide, fun n hn => ?_, ?_⟩
    · have hn := List.mem_range.mp hn
      have l60 : ((n : Nat) : Int).natAbs < 10 ^ 60 := Nat.lt_trans (show ((n : Nat) : Int).natAbs < 1000 by omega) (by decide)
      have l1 := (tx_int l60).len
      refine ⟨_, rfl, ?_⟩
      fail "n"
      rw [ws_key (c := "s") (k := 115) (by decide +kernel) (by omega : n < 100)]
      first | rfl | exact ⟨rfl, rfl⟩
    refine wp_some dict_s ?_
    fail "n"
    rw [disp_g]
    have no2 : ¬ (3 ≤ (wds cs).length ∧ (wds cs).length ≤ 6) → ∀ zs s g, ¬ Good cs zs s g := fun e zs s g G => e (by
      rw [G.e, List.length_append, List.length_map]
      have := G.l1
      have := G.l4
      show 3 ≤ zs.length + 2 ∧ zs.length + 2 ≤ 6
      omega)
    by_cases l3 : 3 ≤ (wds cs).length
    · obtain ⟨us, a, b, eu⟩ := last2 (W := wds cs) (by omega)
      rw [eu] at hw l3 no2 ⊢
      have lw : (us ++ [a, b]).length = us.length + 2 := by rw [List.length_append]; rfl
      rw [lw] at l3 no2
      have ed : (us ++ [a, b]).map wD = us.map wD ++ [wD a, wD b] := by rw [List.map_append]; rfl
      rw [ed]
      have lws : (us.map wD ++ [wD a, wD b]).length = us.length + 2 := by rw [List.length_append, List.length_map]; rfl
      rw [lws, decide_eq_true (show (3 : Int) ≤ ((us.length + 2 : Nat) : Int) by omega)]
      refine ⟨fun _ => ?_, fun w => (by cases w)⟩
      fail "n"
      by_cases l6 : us.length ≤ 4
      · rw [decide_eq_true (show ((us.length + 2 : Nat) : Int) ≤ 6 by omega)]
        refine ⟨fun w => (by cases w), fun _ => ?_⟩
        fail "n"
        refine wp_cga wD (fun w => !(zof w).isSome) wD (wp_any ?_)
        fail "n"
        rw [cut2]
        refine ⟨us, rfl, by omega, fun w hw' => ⟨_, rfl, ?_⟩, ?_⟩
        · fail "n"
          refine wp_some (notin_of (az w)) ?_
          rw [Option.isSome_map]
          refine ⟨_, rfl, rfl, rfl, fun _ => ?_⟩
          fail "n"
          first | rfl | exact ⟨rfl, rfl⟩
        fail "n"
        by_cases hz : ∃ zs : List Zo, us = zs.map zT ∧ ∀ z ∈ zs, 1 ≤ z.2 ∧ z.2 ≤ 24
        · obtain ⟨zs, rfl, hz⟩ := hz
          rw [List.length_map] at l3 l6
          rw [no_z hz]
          refine ⟨fun w => (by cases w), fun _ => ?_⟩
          fail "n"
          refine wp_some ix2 ?_
          fail "n"
          refine wp_some (notin_of at_numL) ?_
          fail "n"
          by_cases hs : ∃ s, s ≤ 40 ∧ a = 115 :: ns s
          · obtain ⟨s, s40, rfl⟩ := hs
            rw [nof_is (by decide) (by omega)]
            refine ⟨fun w => (by cases w), fun _ => ?_⟩
            fail "n"
            refine wp_some ix1 ?_
            fail "n"
            refine wp_some (notin_of at_numC) ?_
            fail "n"
            by_cases hg : ∃ g, g ≤ 2 ∧ b = 103 :: ns g
            · obtain ⟨g, g2, rfl⟩ := hg
              rw [nof_is (by decide) (by omega)]
              refine ⟨fun w => (by cases w), fun _ => ?_⟩
              fail "n"
              have G : Good cs zs s g := ⟨eu, by omega, l6, hz, s40, g2⟩
              refine wp_cma (fun z : Zo => wD (zT z)) znD (wp_any ?_)
              fail "n"
              rw [cut2]
              refine ⟨zs, by rw [List.map_map]; rfl, by omega, fun z hz' => ⟨_, rfl, ?_⟩, ?_⟩
              · fail "n"
                refine wp_some (dget_of (v := znD z) (by rw [az, zof_zT (hz z hz').1 (hz z hz').2]; rfl)) ?_
                first | rfl | exact ⟨rfl, rfl⟩
              fail "n"
              refine wp_some ix2 ?_
              fail "n"
              refine wp_some (dget_of (v := .int (s : Int)) (by rw [at_numL, nof_is (by decide) (by omega)]; rfl)) ?_
              fail "n"
              refine wp_some ix1 ?_
              fail "n"
              refine wp_some (dget_of (v := .int (g : Int)) (by rw [at_numC, nof_is (by decide) (by omega)]; rfl)) ?_
              fail "n"
              refine ⟨dueD zs s g, dW_val ?_, by rw [← eh]; exact cls_app, by rw [← eh, take_app]; exact y _ _ _ G⟩
              show (vals (zs.map znD) && (true && (true && true))) = true
              rw [vals_all fun y hy => ?_]; · rfl
              obtain ⟨z, _, rfl⟩ := List.mem_map.mp hy
              rfl
            · have no : ∀ zs s g, ¬ Good cs zs s g := fun zs s g G => hg ⟨g, G.g, (two_inj (eu.symm.trans G.e)).2.2⟩
              have e0 : nof 103 3 b = none := by
                cases q : nof 103 3 b with
                | none => rfl
                | some g => exact absurd ⟨g, by have := (nof_some q).1; omega, (nof_some q).2⟩ hg
              rw [e0]
              refine ⟨fun _ => ?_, fun w => (by cases w)⟩
              fail "n"
              first | exact N' no | exact N2 no
          · have no : ∀ zs s g, ¬ Good cs zs s g := fun zs s g G => hs ⟨s, G.s, (two_inj (eu.symm.trans G.e)).2.1⟩
            have e0 : nof 115 41 a = none := by
              cases q : nof 115 41 a with
              | none => rfl
              | some s => exact absurd ⟨s, by have := (nof_some q).1; omega, (nof_some q).2⟩ hs
            rw [e0]
            refine ⟨fun _ => ?_, fun w => (by cases w)⟩
            fail "n"
            first | exact N' no | exact N2 no | (refine ⟨fun _ => ?_, fun w => (by cases w)⟩; fail "n"; first | exact N' no | exact N2 no)
        · have no : ∀ zs s g, ¬ Good cs zs s g := fun zs s g G => hz ⟨zs, (two_inj (eu.symm.trans G.e)).1, G.z⟩
          have e0 : (!((us.filter fun w => !(zof w).isSome).map wD).isEmpty) = true := by
            cases q : us.filter fun w => !(zof w).isSome with
            | nil => exact absurd (all_z q) hz
            | cons x r => rfl
          rw [e0]
          refine ⟨fun _ => ?_, fun w => (by cases w)⟩
          fail "n"
          first | exact N' no | exact N2 no | (refine ⟨fun _ => ?_, fun w => (by cases w)⟩; fail "n"; first | exact N' no | exact N2 no)
      · rw [decide_eq_false (show ¬ (((us.length + 2 : Nat) : Int) ≤ 6) by omega)]
        refine ⟨fun _ => ?_, fun w => (by cases w)⟩
        fail "n"
        refine ⟨fun _ => ?_, fun w => (by cases w)⟩
        fail "n"
        first | exact N' (no2 (by omega)) | exact N2 (no2 (by omega))
    · rw [List.length_map]
      rw [decide_eq_false (show ¬ ((3 : Int) ≤ (((wds cs).length : Nat) : Int)) by omega)]
      refine ⟨fun w => (by cases w), fun _ => ?_⟩
      fail "n"
      refine ⟨fun _ => ?_, fun w => (by cases w)⟩
      fail "n"
      refine ⟨fun _ => ?_, fun w => (by cases w)⟩
      fail "n"
      first | exact N' (no2 (by omega)) | exact N2 (no2 (by omega))
end
section
variable {L : Nat} {K : Hs → Prop} {h : Hs} {Q : D → Hs → Prop} {X : XQ} {d : D} {k B : Nat} {zs : List Zo} {z : Zo} {cs w : List Nat} {s g : Nat}
theorem due_yes (l : cs.length ≤ 9000) (G : Good cs zs s g) : c_due [.str (T cs)] h = .ok (dueD zs s g) h := eq_any fun Q X q => due_any l (fun zs' s' g' G' => by
  obtain ⟨rfl, rfl, rfl⟩ := G.uniq G'
  exact q) fun no => absurd G (no _ _ _)
theorem due_no (l : cs.length ≤ 9000) (no : ∀ zs s g, ¬ Good cs zs s g) : c_due [.str (T cs)] h = .ok .non h := eq_any fun Q X q => due_any l (fun _ _ _ G => absurd G (no _ _ _)) fun _ => q
theorem read_yes (l : cs.length ≤ 9000) (G : Good cs zs s g) : c_read_skin [.str (T cs)] h = .ok (skOf zs s g) h := eq_any fun Q X q => read_any l (fun zs' s' g' G' => by
  obtain ⟨rfl, rfl, rfl⟩ := G.uniq G'
  exact q) fun no => absurd G (no _ _ _)
theorem read_no (l : cs.length ≤ 9000) (no : ∀ zs s g, ¬ Good cs zs s g) : c_read_skin [.str (T cs)] h = .exc "NoText" [] h := eq_exc fun Q X q => read_any l (fun _ _ _ G => absurd G (no _ _ _)) fun _ => q
theorem tr_ex {P : Po} {i : Nat} {T : List (Str × Bool)} {g : FS} {c : Str} {fs : List (Str × D)} {e : Ev} (z : T.lookup c = some true)
    (w : Ws (g (e.set i (some (.exn c (fs.map (·.1)) (fs.map (·.2))))) h) { nx := fun e h => P.nx (e.set i none) h, rt := P.rt, bk := fun e h => P.bk (e.set i none) h, ct := fun e h => P.ct (e.set i none) h }) : (P.tr i T g).ex c fs e h := by
  show (match T.lookup c with
    | some true => Ws (g (e.set i (some (.exn c (fs.map (·.1)) (fs.map (·.2))))) h) { nx := fun e h => P.nx (e.set i none) h, rt := P.rt, bk := fun e h => P.bk (e.set i none) h, ct := fun e h => P.ct (e.set i none) h }
    | some false => P.ex c fs e h
    | none => False)
  rw [z]
  exact w
theorem wp_ofx {r : R D} {c : Str} {fs : List (Str × D)} {h : Hs} {Q : D → Hs → Prop} {X : XQ} (e : r = .exc c fs h) (x : X c fs h) : Wp r Q X := by
  subst e
  with_unfolding_all exact x
theorem alone_eq : c_is_alone [.exn "NoText" [] []] h = .ok (.bl true) h := by
  refine eq_any fun Q X q => ?_
  unfold c_is_alone f_is_alone
  refine wp_bodyE [some (.exn "NoText" [] []), none] rfl ?_
  fail "n"
  refine wp_isE ?_
  fail "n"
  refine ⟨_, _, _, false, rfl, rfl, ?_⟩
  fail "n"
  refine ⟨fun w => (by cases w), fun _ => ?_⟩
  refine wp_isE ?_
  fail "n"
  refine ⟨_, _, _, false, rfl, rfl, ?_⟩
  fail "n"
  refine wp_isE ?_
  fail "n"
  refine ⟨_, _, _, true, rfl, rfl, ?_⟩
  fail "n"
  refine ⟨fun _ => ?_, fun w => (by cases w)⟩
  fail "n"
  refine wp_isE ?_
  fail "n"
  refine ⟨_, _, _, true, rfl, rfl, ?_⟩
  fail "n"
  refine ⟨fun _ => ?_, fun w => (by cases w)⟩
  fail "n"
  exact q
theorem lay_zs : lay (.tup (zs.map znD)) = true := lays_iff.mpr fun x hx => by
  obtain ⟨⟨b, n⟩, _, rfl⟩ := List.mem_map.mp hx
  show (okS (grS b) && (true && true)) = true
  cases b <;> decide +kernel
theorem dep_zs : dep (.tup (zs.map znD)) ≤ 2 := by
  refine Nat.succ_le_succ (deps_iff.mpr fun x hx => ?_)
  obtain ⟨y, _, rfl⟩ := List.mem_map.mp hx
  exact Nat.le_refl _
theorem sk_same : c_Skin_eq [skOf zs s g, skOf zs s g] h = .ok (.bl true) h := by
  refine eq_any fun Q X c => ?_
  unfold c_Skin_eq f_Skin_eq
  refine wp_bodyE [some (skOf zs s g), some (skOf zs s g)] rfl ?_
  fail "n"
  try refine wp_isO2 ?_
  refine ⟨fun w => (by cases w), fun _ => ?_⟩
  fail "n"
  refine wp_some (eq_like lay_zs (Nat.le_trans dep_zs (by decide))) ?_
  fail "n"
  refine ⟨fun _ => ?_, fun w => (by cases w)⟩
  fail "n"
  rw [beq_self_eq_true]
  refine ⟨fun _ => ?_, fun w => (by cases w)⟩
  fail "n"
  rw [beq_self_eq_true]
  exact c
theorem sm_z (hz : z.2 ≤ 24) : Sm 1 10 (znD z) := by
  obtain ⟨b, n⟩ := z
  refine (sm_tup (sms_cons (n := 6) (sm_str ?_ ?_) (sms_cons (n := 0) (sm_int ?_) sms_nil))).mono (Nat.le_refl _) (by decide)
  · show okS (grS b) = true
    cases b <;> decide +kernel
  · show (grS b).length ≤ 6
    cases b <;> decide +kernel
  · exact Nat.lt_trans (show ((n : Nat) : Int).natAbs < 1000 by dsimp only at hz; omega) (by decide)
theorem sms_zs : ∀ {zs : List Zo}, (∀ z ∈ zs, z.2 ≤ 24) → Sms 1 (zs.length * 11) (zs.map znD)
  | [], _ => sms_nil
  | z :: zs, h => (sms_cons (sm_z (h z List.mem_cons_self)) (sms_zs fun y hy => h y (List.mem_cons_of_mem _ hy))).mono (Nat.le_refl _) (by rw [List.length_cons, Nat.succ_mul]; omega)
theorem sm_due (G : Good cs zs s g) : Sm 3 1000 (dueD zs s g) := by
  have hs : ((s : Nat) : Int).natAbs < 10 ^ 60 := Nat.lt_trans (show ((s : Nat) : Int).natAbs < 1000 by have := G.s; omega) (by decide)
  have hg : ((g : Nat) : Int).natAbs < 10 ^ 60 := Nat.lt_trans (show ((g : Nat) : Int).natAbs < 1000 by have := G.g; omega) (by decide)
  refine (sm_tup (sms_cons (sm_tup (sms_zs fun z hz => (G.z z hz).2)) (sms_cons (n := 0) (sm_int hs) (sms_cons (n := 0) (sm_int hg) sms_nil)))).mono (by decide) ?_
  have := G.l4
  omega
theorem shown (G : Good cs zs s g) : skT (zs.map znD) (s : Int) (g : Int) = T cs := by
  rw [← wds_join cs, G.e]
  unfold skT skW
  congr 1
  rw [List.map_append, List.map_map, List.map_map]
  have hs : s < 100 := by have := G.s; omega
  have hg : g < 100 := by have := G.g; omega
  congr 1
  · refine List.map_congr_left fun z hz => ?_
    obtain ⟨b, n⟩ := z
    have hn : n < 100 := by have := (G.z _ hz).2; dsimp only at this; omega
    have e : ∀ c : String, ∀ k, Str.ofString c = T [k] → Str.ofString c ++ (toString (n : Int) : Str) = T (k :: ns n) := fun c k hc => by rw [hc, ns_str hn, T_add]; rfl
    cases b
    · exact e "a" 97 (by decide +kernel)
    · exact e "x" 120 (by decide +kernel)
  · show [numT "s" (s : Int), numT "g" (g : Int)] = [T (115 :: ns s), T (103 :: ns g)]
    unfold numT
    rw [ws_key (k := 115) (by decide +kernel) hs, ws_key (k := 103) (by decide +kernel) hg]
theorem so_text (l : cs.length ≤ 9000) : c_is_so [.str (T cs)] h = .ok (.bl true) h := by
  refine eq_any fun Q X q => ?_
  unfold c_is_so f_is_so
  refine wp_bodyE [some (.str (T cs)), none, none, none, none] rfl ?_
  fail "n"
  by_cases hG : ∃ zs s g, Good cs zs s g
  · obtain ⟨zs, s, g, G⟩ := hG
    refine wp_of (due_yes l G) ?_
    fail "n"
    refine ws_try ?_
    fail "n"
    refine wp_of (read_yes l G) ?_
    fail "n"
    refine wp_some (show gIs h (dueD zs s g) .non = some (.bl false) from rfl) ?_
    fail "n"
    refine ⟨fun w => (by cases w), fun _ => ?_⟩
    fail "n"
    refine ⟨fun w => (by cases w), fun _ => ?_⟩
    fail "n"
    refine ⟨fun w => (by cases w), fun _ => ?_⟩
    fail "n"
    have sm := sm_due G
    have rp : ∀ {g' : Hs}, gReprA g' [dueD zs s g] = some (.str (rT (dueD zs s g))) := fun {g'} => repr_sm sm (by decide) (by decide)
    refine wp_some rp ?_
    fail "n"
    refine wp_some rp ?_
    fail "n"
    refine ⟨fun w => (by cases w), fun _ => ?_⟩
    fail "n"
    have hz : ∀ z ∈ zs, z.2 < 100 := fun z hz => by have := (G.z z hz).2; omega
    refine wp_someP (own_str (fun d hd => by
      obtain ⟨⟨b, n⟩, hz', rfl⟩ := List.mem_map.mp hd
      exact ⟨_, _, rfl, Nat.lt_trans (show ((n : Nat) : Int).natAbs < 1000 by have := hz _ hz'; dsimp only at this; omega) (by decide)⟩) (by rw [List.length_map]; have := G.l4; omega) (Nat.lt_trans (show ((s : Nat) : Int).natAbs < 1000 by have := G.s; omega) (by decide)) (Nat.lt_trans (show ((g : Nat) : Int).natAbs < 1000 by have := G.g; omega) (by decide))) ?_
    rw [shown G]
    fail "n"
    refine ⟨fun _ => ?_, fun w => (by cases w)⟩
    fail "n"
    refine wp_egc ?_
    refine wp_mk ?_
    fail "n"
    refine mk_skin (z := .tup (zs.map znD)) (s := .int (s : Int)) (g := .int (g : Int)) ?_
    refine ⟨_, sk_new2 (Nat.le_refl _) (vals_all fun y hy => ?_) rfl rfl, cls_app, ?_⟩
    · obtain ⟨z, _, rfl⟩ := List.mem_map.mp hy
      rfl
    rw [take_app]
    refine wp_some (oeq_of sk_ins sk_ins sk_same) ?_
    fail "n"
    refine ⟨fun _ => ?_, fun w => (by cases w)⟩
    fail "n"
    refine wp_someP (own_len (by rw [List.length_map]; have := G.l4; omega)) ?_
    fail "n"
    rw [beq_self_eq_true]
    exact q
  · have no : ∀ zs s g, ¬ Good cs zs s g := fun zs s g G => hG ⟨zs, s, g, G⟩
    refine wp_of (due_no l no) ?_
    fail "n"
    refine ws_try ?_
    fail "n"
    refine wp_ofx (show c_read_skin (selL [0] [] [D.str (T cs)] []) h = R.exc "NoText" [] h from read_no l no) ?_
    refine tr_ex rfl ?_
    fail "n"
    refine wp_of alone_eq ?_
    fail "n"
    refine wp_some (show gIs h .non .non = some (.bl true) from rfl) ?_
    fail "n"
    refine ⟨fun _ => ?_, fun w => (by cases w)⟩
    fail "n"
    refine ⟨fun _ => ?_, fun w => (by cases w)⟩
    fail "n"
    refine wp_some (show gIs h .non .non = some (.bl true) from rfl) ?_
    fail "n"
    refine ⟨fun _ => ?_, fun w => (by cases w)⟩
    fail "n"
    exact q
theorem due_odd (hd : Pln d) (hs : tyIs d .str = false) : c_due [d] h = .ok .non h := by
  refine eq_any fun Q X q => ?_
  unfold c_due f_due
  refine wp_gcF ?_
  refine wp_bodyE [some d, none, none, none, none, none, none] rfl ?_
  fail "n"
  rw [hs]
  refine ⟨fun _ => ?_, fun z => nomatch z⟩
  fail "n"
  first | exact ⟨.non, rfl, fun k hk => .inl rfl, by rw [List.take_length]; exact q⟩ | exact ⟨fun k hk => .inl rfl, by rw [List.take_length]; exact q⟩
theorem read_oddE (hd : Pln d) (hs : tyIs d .str = false) : c_read_skin [d] h = .exc "NoText" [] h := eq_exc fun Q X q => read_odd hd hs q
theorem so_odd (hd : Pln d) (hs : tyIs d .str = false) : c_is_so [d] h = .ok (.bl true) h := by
  refine eq_any fun Q X q => ?_
  unfold c_is_so f_is_so
  refine wp_bodyE [some d, none, none, none, none] rfl ?_
  fail "n"
  refine wp_of (due_odd hd hs) ?_
  fail "n"
  refine ws_try ?_
  fail "n"
  refine wp_ofx (show c_read_skin (selL [0] [] [d] []) h = R.exc "NoText" [] h from read_oddE hd hs) ?_
  refine tr_ex rfl ?_
  fail "n"
  refine wp_of alone_eq ?_
  fail "n"
  refine wp_some (show gIs h .non .non = some (.bl true) from rfl) ?_
  fail "n"
  refine ⟨fun _ => ?_, fun w => (by cases w)⟩
  fail "n"
  refine ⟨fun _ => ?_, fun w => (by cases w)⟩
  fail "n"
  refine wp_some (show gIs h .non .non = some (.bl true) from rfl) ?_
  fail "n"
  refine ⟨fun _ => ?_, fun w => (by cases w)⟩
  fail "n"
  exact q
end
section
variable {L : Nat} {K : Hs → Prop} {h : Hs} {Q : D → Hs → Prop} {X : XQ} {d : D} {k B : Nat} {cs w : List Nat} {n : Nat}
/-- plain signs -/
def Lo (cs : List Nat) : Prop := ∀ c ∈ cs, c < 128
theorem Lo.app {a b : List Nat} (h : Lo a) (g : Lo b) : Lo (a ++ b) := fun c hc => (List.mem_append.mp hc).elim (h c) (g c)
theorem Lo.cut {a : List Nat} (h : Lo a) (lo hi : Option Int) : Lo (cutX a lo hi) := fun c hc => by
  unfold cutX at hc
  exact h c (List.mem_of_mem_drop (List.mem_of_mem_take hc))
theorem cutX_len {a : List Nat} {n : Nat} (h : a.length ≤ n) (lo hi : Option Int) : (cutX a lo hi).length ≤ n := by
  unfold cutX
  rw [List.length_take, List.length_drop]; omega
theorem lo_of {cs : List Nat} (h : cs.all (· < 128) = true) : Lo cs := fun c hc => of_decide_eq_true (List.all_eq_true.mp h c hc)
/-- a text of plain signs, not too long -/
def As (n : Nat) (d : D) : Prop := ∃ cs, d = .str (T cs) ∧ Lo cs ∧ cs.length ≤ n
theorem As.mono {n m : Nat} (a : As n d) (h : n ≤ m) : As m d := let ⟨cs, e, l, k⟩ := a; ⟨cs, e, l, Nat.le_trans k h⟩
theorem ns_lo {n : Nat} (h : n < 100) : Lo (ns n) := fun c hc => by have := ns_dig h c hc; omega
/-- what a list of words comes to -/
def jl (ps : List (List Nat)) : Nat := (ps.map fun p => p.length + 1).sum
theorem jl_app (a b : List (List Nat)) : jl (a ++ b) = jl a + jl b := by unfold jl; rw [List.map_append, List.sum_append]
theorem jl_join {S : List Nat} (hs : S.length = 1) : ∀ {ps : List (List Nat)}, ps ≠ [] → (TL.joinL S ps).length + 1 = jl ps
  | [], h => absurd rfl h
  | [p], _ => rfl
  | p :: q :: r, _ => by
    have ih := jl_join hs (ps := q :: r) (by simp)
    show (p ++ (S ++ TL.joinL S (q :: r))).length + 1 = (p.length + 1) + jl (q :: r)
    rw [List.length_append, List.length_append]
    omega
theorem jl_le {S : List Nat} (hs : S.length = 1) {ps : List (List Nat)} : (TL.joinL S ps).length ≤ jl ps := by
  by_cases e : ps = []
  · subst e; exact Nat.le_refl 0
  · have := jl_join hs e; omega
theorem jl_len (ps : List (List Nat)) : ps.length ≤ jl ps := by
  induction ps with
  | nil => exact Nat.le_refl 0
  | cons p r ih => show r.length + 1 ≤ (p.length + 1) + jl r; omega
theorem jl_cons (p : List Nat) (r : List (List Nat)) : jl (p :: r) = (p.length + 1) + jl r := by unfold jl; rw [List.map_cons, List.sum_cons]
theorem jl_sub {a b : List (List Nat)} (h : a.Sublist b) : jl a ≤ jl b := by
  induction h with
  | slnil => exact Nat.le_refl _
  | cons x _ ih => rw [jl_cons]; omega
  | cons_cons x _ ih => rw [jl_cons, jl_cons]; omega
theorem join_lo {S : List Nat} (hS : Lo S) : ∀ {ps : List (List Nat)}, (∀ p ∈ ps, Lo p) → Lo (TL.joinL S ps)
  | [], _ => fun _ h => nomatch h
  | [p], h => h p List.mem_cons_self
  | p :: q :: r, h => (h p List.mem_cons_self).app (hS.app (join_lo hS fun x hx => h x (List.mem_cons_of_mem _ hx)))
theorem mem_joinL {S : List Nat} : ∀ {ps : List (List Nat)} {p : List Nat}, p ∈ ps → ∀ c ∈ p, c ∈ TL.joinL S ps
  | [p], q, h, c, hc => by rw [List.mem_singleton.mp h] at hc; exact hc
  | p :: p2 :: r, q, h, c, hc => by
    show c ∈ p ++ (S ++ TL.joinL S (p2 :: r))
    rcases List.mem_cons.mp h with rfl | h
    · exact List.mem_append_left _ hc
    · exact List.mem_append_right _ (List.mem_append_right _ (mem_joinL h c hc))
theorem wds_lo (h : Lo cs) : ∀ w ∈ wds cs, Lo w := fun w hw c hc => h c (by
  have := mem_joinL (S := TL.tl (Str.ofString " ")) hw c hc
  rwa [joinL_wds] at this)
theorem sp_T : Str.ofString " " = T [32] := by decide +kernel
theorem cnt0 (c : Nat) : ∀ l : List Nat, 0 ≤ PyProof.Rows.cnt c l
  | [] => Int.le_refl 0
  | n :: r => by
    have := cnt0 c r
    rw [PyProof.Rows.cnt_cons]
    split <;> omega
theorem wds_ne (cs : List Nat) : wds cs ≠ [] := by
  have := PyProof.Rows.split_len (T cs) 32
  have h0 := cnt0 32 (T cs).cps.toList
  intro e
  unfold wds at e
  rw [sp_T] at e
  have e := congrArg List.length e
  rw [List.length_map] at e
  have e2 : (Txt.split (T cs) (T [32])).length = 0 := e
  have e3 : (T [32] : Str) = ⟨#[32]⟩ := rfl
  rw [e3] at e2
  omega
theorem wds_jl (cs : List Nat) : jl (wds cs) = cs.length + 1 := by
  have := jl_join (S := TL.tl (Str.ofString " ")) (by decide +kernel) (wds_ne cs)
  rw [joinL_wds] at this
  exact this.symm
theorem joinT (ps : List (List Nat)) : Txt.join (Str.ofString " ") (ps.map T) = T (TL.joinL [32] ps) := by
  rw [← T_tl (Txt.join (Str.ofString " ") (ps.map T)), TL.join_eq, TL.tl_join, List.map_map]
  have e2 : ps.map (TL.tl ∘ T) = ps := by
    conv => rhs; rw [← List.map_id ps]
    rfl
  rw [e2, sp_T]; rfl
theorem sum_len (ps : List (List Nat)) : ((ps.map T).map (·.length)).sum + ps.length = jl ps := by
  induction ps with
  | nil => rfl
  | cons p r ih =>
    show ((T p).length + ((r.map T).map (·.length)).sum) + (r.length + 1) = (p.length + 1) + jl r
    rw [T_len]
    omega
/-- join of a list by value -/
theorem mjoin {ps : List (List Nat)} (l : jl ps ≤ 100000) : mJoin h (.str (Str.ofString " ")) [.lst (ps.map wD)] = some (.str (T (TL.joinL [32] ps)), h) := by
  unfold mJoin
  dsimp only
  rw [seq_lst]
  dsimp only
  rw [show ps.map wD = (ps.map T).map D.str by rw [List.map_map]; rfl, strsOf_map]
  dsimp only
  have := sum_len ps
  rw [if_pos (by rw [List.length_map, sp_T, T_len, List.length_singleton, Nat.mul_one]; omega), joinT]
theorem as_join {ps : List (List Nat)} (lo : ∀ p ∈ ps, Lo p) (l : jl ps ≤ n) : As n (.str (T (TL.joinL [32] ps))) :=
  ⟨_, rfl, join_lo (lo_of (by decide)) lo, Nat.le_trans (jl_le rfl) l⟩
theorem pks {t : List Nat} (S : St L K h) (sK : Stb L K) (h0 : 0 < t.length) (h1 : t.length < 100000) (c : ∀ x h', x ∈ t → St L K h' → Q (.str (T [x])) h') : Wp (c_pick [.ref 2, .str (T t)] h) Q X := by
  unfold c_pick f_pick
  refine wp_bodyE [some (.ref 2), some (.str (T t))] rfl ?_
  have lt : (T t).length < 100000 := by rw [T_len]; exact h1
  fail "n"
  refine dr S sK (by rw [T_len]; omega) (by rw [T_len]; omega) fun r h' r0 r1 S' => ?_
  rw [T_len] at r1
  have hr : r.toNat < t.length := by omega
  fail "n"
  refine wp_some (ix_T (c := t[r.toNat]) (by omega) (atI_nat r0 (List.getElem?_eq_getElem hr))) ?_
  fail "n"
  exact c _ _ (List.getElem_mem hr) S'
/-! ### drawn texts -/
theorem num_T {c : String} {k n : Nat} (hc : Str.ofString c = T [k]) (hn : n < 100) : Str.ofString c ++ Str.ofString (toString (n : Int)) = T (k :: ns n) := ws_key hc hn
theorem text_wp (S : St L K h) (sK : Stb L K) (c : ∀ d' h', As 40 d' → St L K h' → Q d' h') : Wp (c_text [.ref 2] h) Q X := by
  unfold c_text f_text
  refine wp_gcS S sK fun S0 sK0 => ?_
  refine wp_bodyE [some (.ref 2), none, none, none, none, none] rfl ?_
  fail "n"
  rename_i y h1 y0 y1 S1
  have S4 := S1.app (o := .lst []) sK0
  have hN := S1.lt
  have hN2 := S1.len
  generalize h1 ++ [O.lst []] = h4 at S4 ⊢
  generalize h1.length = N at S4 hN hN2 ⊢
  have sN0 : Stb (N + 1) (fun g => (K g ∧ Old h g) ∧ g[N]? = some (.lst [])) := (sK0.mono (by omega)).and (stb_get hN (Nat.lt_succ_self _))
  refine ws_for ?_
  fail "n"
  rename_i a1 h5 a10 a11 S5
  refine wp_ixD (IntIn 1 4) y0 y1 (all_cons (intIn (by omega) (by omega)) (all_cons (intIn (by decide) (by decide)) (all_cons (intIn (by decide) (by decide)) (all_cons (intIn (by decide) (by decide)) all_nil)))) ?_
  rintro _ ⟨m, rfl, m0, m1⟩
  fail "n"
  refine ⟨okR_in (by omega) (by omega), ?_⟩
  refine ⟨m.toNat, fun i e g' => ∃ (ps : List (List Nat)) (x3 x4 : Option D), St (N + 1) (fun g => (K g ∧ Old h g) ∧ g[N]? = some (.lst (ps.map wD))) g' ∧ (∀ p ∈ ps, Lo p) ∧ jl ps ≤ 4 * i ∧ e = [some (.ref 2), some (.int y), some (.ref N), x3, x4, none],
    by omega, ⟨[], _, _, S5, (fun _ h => nomatch h), Nat.le_refl 0, rfl⟩, ?_, ?_⟩
  · rintro i _ g' hi ⟨ps, x3, x4, S, hlo, hj, rfl⟩
    have sN : Stb (N + 1) (fun g => (K g ∧ Old h g) ∧ g[N]? = some (.lst (ps.map wD))) := (sK0.mono (by omega)).and (stb_get hN (Nat.lt_succ_self _))
    refine ⟨_, _, nxN_some hi, rfl, ?_⟩
    fail "n"
    rename_i b1 h6 b10 b11 S6 b2 h7 b20 b21 S7
    refine wp_ixD (IntIn 1 24) y0 y1 (all_cons (intIn (by omega) (by omega)) (all_cons (intIn (by decide) (by decide)) (all_cons (intIn (by omega) (by omega)) (all_cons (intIn (by omega) (by omega)) all_nil)))) ?_
    rintro _ ⟨n, rfl, n0, n1⟩
    fail "n"
    refine pkl S7 sN (by decide) (by decide) fun w h8 hw S8 => ?_
    obtain ⟨k, rfl, hk⟩ : ∃ k, w = .str (T [k]) ∧ k < 128 := by
      simp only [List.mem_cons, List.not_mem_nil, or_false] at hw
      rcases hw with rfl | rfl
      · exact ⟨97, by rw [show Str.ofString "a" = T [97] by decide +kernel], by decide⟩
      · exact ⟨120, by rw [show Str.ofString "x" = T [120] by decide +kernel], by decide⟩
    obtain ⟨n, rfl⟩ : ∃ n' : Nat, n = (n' : Int) := ⟨n.toNat, by omega⟩
    have hn : n < 100 := by omega
    have l60 : ((n : Nat) : Int).natAbs < 10 ^ 60 := Nat.lt_trans (show ((n : Nat) : Int).natAbs < 1000 by omega) (by decide)
    have l1 := (tx_int l60).len
    have l2 : (T [k]).length = 1 := rfl
    fail "n"
    have e1 : T [k] ++ Str.ofString (toString (n : Int)) = T (k :: ns n) := by
      rw [show Str.ofString (toString (n : Int)) = T (ns n) from ns_str hn, T_add]; rfl
    rw [e1]
    have hns := (ns_len (n := n)).2
    have lp : (ps.map wD).length ≤ 100 := by rw [List.length_map]; have := jl_len ps; omega
    fail "n"
    refine ⟨ps ++ [k :: ns n], _, _, by rw [List.map_append]; exact S8.put hN (sK0.mono (by omega)), fun q hq => ?_, ?_, rfl⟩
    · rcases List.mem_append.mp hq with hq | hq
      · exact hlo q hq
      · rw [List.mem_singleton.mp hq]
        intro c hc
        rcases List.mem_cons.mp hc with rfl | hc
        · exact hk
        · exact ns_lo hn c hc
    · rw [jl_app, jl_cons, List.length_cons]
      show jl ps + (((ns n).length + 1 + 1) + 0) ≤ _
      omega
  · rintro _ g' ⟨ps, x3, x4, S, hlo, hj, rfl⟩
    have sN : Stb (N + 1) (fun g => (K g ∧ Old h g) ∧ g[N]? = some (.lst (ps.map wD))) := (sK0.mono (by omega)).and (stb_get hN (Nat.lt_succ_self _))
    refine ⟨nxN_stop, ?_⟩
    fail "n"
    rename_i b1 h6 b10 b11 S6
    refine wp_ixD (IntIn 0 40) y0 y1 (all_cons (intIn (by omega) (by omega)) (all_cons (intIn (by decide) (by decide)) (all_cons (intIn (by decide) (by decide)) (all_cons (intIn (by decide) (by decide)) all_nil)))) ?_
    rintro _ ⟨n, rfl, n0, n1⟩
    obtain ⟨n, rfl⟩ : ∃ n' : Nat, n = (n' : Int) := ⟨n.toNat, by omega⟩
    have hn : n < 100 := by omega
    have l60 : ((n : Nat) : Int).natAbs < 10 ^ 60 := Nat.lt_trans (show ((n : Nat) : Int).natAbs < 1000 by omega) (by decide)
    have l1 := (tx_int l60).len
    fail "n"
    rename_i r h7 r0 r1 S7
    obtain ⟨r, rfl⟩ : ∃ n' : Nat, r = (n' : Int) := ⟨r.toNat, by omega⟩
    have hr : r < 100 := by omega
    have l62 : ((r : Nat) : Int).natAbs < 10 ^ 60 := Nat.lt_trans (show ((r : Nat) : Int).natAbs < 1000 by omega) (by decide)
    have l3 := (tx_int l62).len
    have lp := jl_len ps
    fail "n"
    rw [num_T (k := 115) (by decide +kernel) hn, num_T (k := 103) (by decide +kernel) hr]
    have ej : jl (ps ++ [115 :: ns n, 103 :: ns r]) ≤ 40 := by
      have q1 := (ns_len (n := n)).2
      have q2 := (ns_len (n := r)).2
      rw [jl_app, jl_cons, jl_cons, List.length_cons, List.length_cons]
      show jl ps + (((ns n).length + 1 + 1) + (((ns r).length + 1 + 1) + 0)) ≤ _
      omega
    refine wp_someP (show mJoin _ _ [.lst (ps.map wD ++ [D.str (T (115 :: ns n)), .str (T (103 :: ns r))])] = _ from by
      rw [show ps.map wD ++ [D.str (T (115 :: ns n)), .str (T (103 :: ns r))] = (ps ++ [115 :: ns n, 103 :: ns r]).map wD by rw [List.map_append]; rfl]
      exact mjoin (by omega)) ?_
    fail "n"
    refine ⟨S7.off hN2, fun h2 S2 => c _ h2 (as_join (fun p hp => ?_) ej) S2⟩
    rcases List.mem_append.mp hp with hp | hp
    · exact hlo p hp
    · simp only [List.mem_cons, List.not_mem_nil, or_false] at hp
      have cons : ∀ {k n}, k < 128 → n < 100 → Lo (k :: ns n) := fun {k n} hk hn c hc => by
        rcases List.mem_cons.mp hc with rfl | hc
        · exact hk
        · exact ns_lo hn c hc
      rcases hp with rfl | rfl
      · exact cons (by decide) hn
      · exact cons (by decide) hr
theorem as_str {x : Str} (lo : (TL.tl x).all (· < 128) = true) (l : (TL.tl x).length ≤ n) : As n (.str x) := ⟨TL.tl x, by rw [T_tl], lo_of lo, l⟩
def asB (n : Nat) : D → Bool
  | .str x => (TL.tl x).all (· < 128) && decide ((TL.tl x).length ≤ n)
  | _ => false
theorem as_all {ds : List D} (a : ds.all (asB n) = true) : ∀ d ∈ ds, As n d := fun d hd => by
  have := List.all_eq_true.mp a d hd
  cases d with
  | str x =>
    have this : ((TL.tl x).all (· < 128) && decide ((TL.tl x).length ≤ n)) = true := this
    rw [Bool.and_eq_true] at this
    exact as_str this.1 (of_decide_eq_true this.2)
  | _ => cases this
theorem odd_word_wp (S : St L K h) (sK : Stb L K) (c : ∀ d' h', As 41 d' → St L K h' → Q d' h') : Wp (c_odd_word [.ref 2] h) Q X := by
  unfold c_odd_word f_odd_word
  refine wp_bodyE [some (.ref 2), none] rfl ?_
  fail "n"
  refine pkl S sK (by simp) (by simp) fun x h2 hx S2 => ?_
  fail "n"
  exact c x h2 (as_all (n := 41) (by decide +kernel) x hx) S2
end
section
variable {L : Nat} {K : Hs → Prop} {h : Hs} {Q : D → Hs → Prop} {X : XQ} {d : D} {k B : Nat} {cs w : List Nat} {n : Nat}
theorem up_lo {a : List Nat} (ha : Lo a) : Txt.upper (T a) = T (a.map PyProof.Rows.up1) ∧ Lo (a.map PyProof.Rows.up1) := by
  refine ⟨upper_asc (List.all_eq_true.mpr fun c hc => decide_eq_true (ha c hc)), fun c hc => ?_⟩
  obtain ⟨x, hx, rfl⟩ := List.mem_map.mp hc
  have := ha x hx
  unfold PyProof.Rows.up1
  split <;> omega
def sgs : List Nat := [97, 120, 115, 103, 48, 49, 50, 51, 52, 53, 54, 55, 56, 57, 32, 45, 43, 46, 65, 88, 83, 71, 126, 10]
theorem sg_T : Str.ofString "axsg0123456789 -+.AXSG~\n" = T sgs := by decide +kernel
theorem cutW {ws : List (List Nat)} {lo hi : Option Int} : cutX (ws.map wD) lo hi = (cutX ws lo hi).map wD := by
  unfold cutX
  rw [List.length_map, List.map_take, List.map_drop]
theorem jl_rev (l : List (List Nat)) : jl l.reverse = jl l := by
  induction l with
  | nil => rfl
  | cons x r ih => rw [List.reverse_cons, jl_app, ih, jl_cons, jl_cons]; show _ + (_ + 0) = _; omega
theorem jl_td (ws : List (List Nat)) (a k : Nat) : jl (ws.take a) + jl (ws.drop (a + k)) ≤ jl ws := by
  conv => rhs; rw [← List.take_append_drop a ws]
  rw [jl_app, ← List.drop_drop]
  have := jl_sub (List.drop_sublist k (ws.drop a))
  omega
theorem cutX_sub {t : Type} (xs : List t) (lo hi : Option Int) : (cutX xs lo hi).Sublist xs := by
  unfold cutX
  exact (List.take_sublist _ _).trans (List.drop_sublist _ _)
theorem mem_cut {ws : List (List Nat)} (h : ∀ w ∈ ws, Lo w) {lo hi : Option Int} : ∀ w ∈ cutX ws lo hi, Lo w := fun w hw => h w ((cutX_sub ws lo hi).subset hw)
theorem emT : Str.ofString "" = T [] := by decide +kernel
theorem nlT : Str.ofString "\n" = T [10] := by decide +kernel
theorem skT0 : Str.ofString "Skin(" = T [83, 107, 105, 110, 40] := by decide +kernel
theorem skT1 : Str.ofString ")" = T [41] := by decide +kernel
theorem lo_app2 {a b : List (List Nat)} (h : ∀ w ∈ a, Lo w) (g : ∀ w ∈ b, Lo w) : ∀ w ∈ a ++ b, Lo w := fun w hw => (List.mem_append.mp hw).elim (h w) (g w)
theorem bent_wp {n : Nat} (S : St L K h) (sK : Stb L K) (lo : Lo cs) (lt : cs.length ≤ n) (hn : n ≤ 1000) (c : ∀ d' h', As (2 * n + 60) d' → St L K h' → Q d' h') : Wp (c_bent_text [.ref 2, .str (T cs)] h) Q X := by
  have lT : (T cs).length ≤ 1000 := by rw [T_len]; omega
  unfold c_bent_text f_bent_text
  refine wp_bodyE [some (.ref 2), some (.str (T cs)), none, none, none, none, none] rfl ?_
  fail "n"
  rename_i w h1 w0 w1 S1
  refine wp_someP (msplit (by omega)) ?_
  have W0 := wds_jl cs
  have Wn : 0 < (wds cs).length := List.length_pos_iff.mpr (wds_ne cs)
  have Wl := jl_len (wds cs)
  have WL := wds_lo lo
  generalize wds cs = ws at W0 Wn Wl WL ⊢
  fail "n"
  rw [List.length_map]
  refine dr S1 sK (by omega) (by omega) fun at_ h2 a0 a1 S2 => ?_
  fail "n"
  rename_i p h3 p0 p1 S3
  rw [T_len] at p1
  rw [sg_T]
  refine pks S3 sK (by decide) (by decide) fun x h4 hx S4 => ?_
  have hx : x < 128 := lo_of (cs := sgs) (by decide) x hx
  have lx : Lo [x] := fun c hc => by rw [List.mem_singleton.mp hc]; exact hx
  have lX : (T [x]).length = 1 := rfl
  have cl : ∀ {lo' hi'}, (cutX cs lo' hi').length ≤ n := fun {lo' hi'} => cutX_len lt lo' hi'
  have lW : (ws.map wD).length ≤ 2000 := by rw [List.length_map]; omega
  have fin : ∀ (mid : List Nat) (q : Int), Lo mid → mid.length ≤ 1 → Q (.str (cutS (T cs) none (some p) ++ T mid ++ cutS (T cs) (some q) none)) h4 := by
    intro mid q lm l1
    refine c _ h4 ⟨cutX cs none (some p) ++ mid ++ cutX cs (some q) none, by rw [T_cut, T_cut, T_add, T_add], ((lo.cut _ _).app lm).app (lo.cut _ _), ?_⟩ S4
    have h1 := cl (lo' := none) (hi' := some p)
    have h2 := cl (lo' := some q) (hi' := none)
    rw [List.length_append, List.length_append]
    omega
  obtain ⟨a, rfl⟩ : ∃ a : Nat, at_ = (a : Int) := ⟨at_.toNat, by omega⟩
  have eT : cutX ws none (some (a : Int)) = ws.take a := cutX_to _ (Int.natCast_nonneg a)
  have eD : ∀ k : Nat, cutX ws (some ((a : Int) + (k : Int))) none = ws.drop (a + k) := fun k => by
    rw [cutX_from _ (by omega), show ((a : Int) + (k : Int)).toNat = a + k by omega]
  have eD0 : cutX ws (some (a : Int)) none = ws.drop a := by
    rw [cutX_from _ (by omega), show ((a : Int)).toNat = a by omega]
  have lT : ∀ w ∈ ws.take a, Lo w := fun w hw => WL w (List.mem_of_mem_take hw)
  have lD : ∀ k, ∀ w ∈ ws.drop k, Lo w := fun k w hw => WL w (List.mem_of_mem_drop hw)
  have cs9 : w = 0 ∨ w = 1 ∨ w = 2 ∨ w = 3 ∨ w = 4 ∨ w = 5 ∨ w = 6 ∨ w = 7 ∨ w = 8 := by omega
  rcases cs9 with rfl | rfl | rfl | rfl | rfl | rfl | rfl | rfl | rfl
  · fail "n"
    refine ⟨fun _ => ?_, fun z => absurd z (by decide)⟩
    fail "n"
    exact fin [x] _ lx (Nat.le_refl 1)
  · fail "n"
    refine ⟨fun _ => ?_, fun z => absurd z (by decide)⟩
    fail "n"
    exact fin [x] _ lx (Nat.le_refl 1)
  · fail "n"
    refine ⟨fun _ => ?_, fun z => absurd z (by decide)⟩
    fail "n"
    exact (emT ▸ fin [] _ (fun _ h => nomatch h) (Nat.zero_le 1) :)
  · fail "n"
    refine ⟨fun z => absurd z (by decide), fun _ => ?_⟩
    fail "n"
    refine ⟨fun _ => ?_, fun z => absurd z (by decide)⟩
    fail "n"
    refine ⟨fun z => absurd z (by decide), fun _ => ?_⟩
    fail "n"
    refine ⟨fun z => absurd z (by decide), fun _ => ?_⟩
    fail "n"
    refine ⟨fun z => absurd z (by decide), fun _ => ?_⟩
    fail "n"
    refine ⟨fun z => absurd z (by decide), fun _ => ?_⟩
    fail "n"
    refine ⟨fun z => absurd z (by decide), fun _ => ?_⟩
    fail "n"
    rw [cutW, cutW, ← List.map_append, eT, show (a : Int) + 1 = (a : Int) + ((1 : Nat) : Int) from rfl, eD]
    have ej : jl (ws.take a ++ ws.drop (a + 1)) ≤ 2 * n + 60 := by
      have := jl_td ws a 1
      rw [jl_app]; omega
    refine wp_someP (mjoin (by omega)) ?_
    fail "n"
    exact c _ _ (as_join (lo_app2 lT (lD _)) (by omega)) S4
  · fail "n"
    refine ⟨fun z => absurd z (by decide), fun _ => ?_⟩
    fail "n"
    refine ⟨fun z => absurd z (by decide), fun _ => ?_⟩
    fail "n"
    refine ⟨fun _ => ?_, fun z => absurd z (by decide)⟩
    fail "n"
    refine ⟨fun z => absurd z (by decide), fun _ => ?_⟩
    fail "n"
    refine ⟨fun z => absurd z (by decide), fun _ => ?_⟩
    fail "n"
    refine ⟨fun z => absurd z (by decide), fun _ => ?_⟩
    fail "n"
    refine ⟨fun z => absurd z (by decide), fun _ => ?_⟩
    fail "n"
    rw [cutW, cutW, cutW, ← List.map_append, ← List.map_append, eT, eD0]
    have ej : jl (ws.take a ++ cutX ws (some (a : Int)) (some ((a : Int) + 1)) ++ ws.drop a) ≤ 2 * n + 60 := by
      have := jl_td ws a 0
      have := jl_sub (cutX_sub ws (some (a : Int)) (some ((a : Int) + 1)))
      rw [jl_app, jl_app]; rw [Nat.add_zero] at *; omega
    refine wp_someP (mjoin (by omega)) ?_
    fail "n"
    exact c _ _ (as_join (lo_app2 (lo_app2 lT (mem_cut WL)) (lD _)) (by omega)) S4
  · fail "n"
    refine ⟨fun z => absurd z (by decide), fun _ => ?_⟩
    fail "n"
    refine ⟨fun z => absurd z (by decide), fun _ => ?_⟩
    fail "n"
    refine ⟨fun z => absurd z (by decide), fun _ => ?_⟩
    fail "n"
    refine ⟨fun _ => ?_, fun z => absurd z (by decide)⟩
    fail "n"
    refine ⟨fun z => absurd z (by decide), fun _ => ?_⟩
    fail "n"
    refine ⟨fun z => absurd z (by decide), fun _ => ?_⟩
    fail "n"
    refine ⟨fun z => absurd z (by decide), fun _ => ?_⟩
    fail "n"
    rw [cutW, cutW, cutW, ← List.map_reverse, ← List.map_append, ← List.map_append, eT, show (a : Int) + 2 = (a : Int) + ((2 : Nat) : Int) from rfl, eD]
    have ej : jl (ws.take a ++ (cutX ws (some (a : Int)) (some ((a : Int) + ((2 : Nat) : Int)))).reverse ++ ws.drop (a + 2)) ≤ 2 * n + 60 := by
      have := jl_td ws a 2
      have := jl_sub (cutX_sub ws (some (a : Int)) (some ((a : Int) + ((2 : Nat) : Int))))
      rw [jl_app, jl_app, jl_rev]; omega
    refine wp_someP (mjoin (by omega)) ?_
    fail "n"
    exact c _ _ (as_join (lo_app2 (lo_app2 lT fun w hw => mem_cut WL w (List.mem_reverse.mp hw)) (lD _)) (by omega)) S4
  · fail "n"
    refine ⟨fun z => absurd z (by decide), fun _ => ?_⟩
    fail "n"
    refine ⟨fun z => absurd z (by decide), fun _ => ?_⟩
    fail "n"
    refine ⟨fun z => absurd z (by decide), fun _ => ?_⟩
    fail "n"
    refine ⟨fun z => absurd z (by decide), fun _ => ?_⟩
    fail "n"
    refine ⟨fun _ => ?_, fun z => absurd z (by decide)⟩
    fail "n"
    refine ⟨fun _ => ?_, fun z => absurd z (by decide)⟩
    fail "n"
    refine odd_word_wp S4 sK fun y h5 hy S5 => ?_
    obtain ⟨o, rfl, ho, lo5⟩ := hy
    fail "n"
    refine ⟨fun z => absurd z (by decide), fun _ => ?_⟩
    fail "n"
    rw [cutW, cutW, show [D.str (T o)] = [o].map wD from rfl, ← List.map_append, ← List.map_append, eT, show (a : Int) + 1 = (a : Int) + ((1 : Nat) : Int) from rfl, eD]
    have ej : jl (ws.take a ++ [o] ++ ws.drop (a + 1)) ≤ 2 * n + 60 := by
      have := jl_td ws a 1
      rw [jl_app, jl_app, jl_cons]
      show jl (ws.take a) + (o.length + 1 + 0) + _ ≤ _
      omega
    refine wp_someP (mjoin (by omega)) ?_
    fail "n"
    exact c _ _ (as_join (lo_app2 (lo_app2 lT fun w hw => by rw [List.mem_singleton.mp hw]; exact ho) (lD _)) (by omega)) S5
  · fail "n"
    refine ⟨fun z => absurd z (by decide), fun _ => ?_⟩
    fail "n"
    refine ⟨fun z => absurd z (by decide), fun _ => ?_⟩
    fail "n"
    refine ⟨fun z => absurd z (by decide), fun _ => ?_⟩
    fail "n"
    refine ⟨fun z => absurd z (by decide), fun _ => ?_⟩
    fail "n"
    refine ⟨fun _ => ?_, fun z => absurd z (by decide)⟩
    fail "n"
    refine ⟨fun _ => ?_, fun z => absurd z (by decide)⟩
    fail "n"
    refine odd_word_wp S4 sK fun y h5 hy S5 => ?_
    obtain ⟨o, rfl, ho, lo5⟩ := hy
    fail "n"
    refine ⟨fun z => absurd z (by decide), fun _ => ?_⟩
    fail "n"
    rw [cutW, cutW, show [D.str (T o)] = [o].map wD from rfl, ← List.map_append, ← List.map_append, eT, show (a : Int) + 1 = (a : Int) + ((1 : Nat) : Int) from rfl, eD]
    have ej : jl (ws.take a ++ [o] ++ ws.drop (a + 1)) ≤ 2 * n + 60 := by
      have := jl_td ws a 1
      rw [jl_app, jl_app, jl_cons]
      show jl (ws.take a) + (o.length + 1 + 0) + _ ≤ _
      omega
    refine wp_someP (mjoin (by omega)) ?_
    fail "n"
    exact c _ _ (as_join (lo_app2 (lo_app2 lT fun w hw => by rw [List.mem_singleton.mp hw]; exact ho) (lD _)) (by omega)) S5
  · fail "n"
    refine ⟨fun z => absurd z (by decide), fun _ => ?_⟩
    fail "n"
    refine ⟨fun z => absurd z (by decide), fun _ => ?_⟩
    fail "n"
    refine ⟨fun z => absurd z (by decide), fun _ => ?_⟩
    fail "n"
    refine ⟨fun z => absurd z (by decide), fun _ => ?_⟩
    fail "n"
    refine ⟨fun _ => ?_, fun z => absurd z (by decide)⟩
    fail "n"
    refine ⟨fun z => absurd z (by decide), fun _ => ?_⟩
    fail "n"
    refine ⟨fun _ => ?_, fun z => absurd z (by decide)⟩
    fail "n"
    have up := up_lo lo
    refine wp_ixD (As (2 * n + 60)) (by omega) (by show (a : Int) % 5 < 5; omega) ?_ fun y hy => c y h4 hy S4
    refine all_cons ⟨[32] ++ cs, by rw [sp_T, T_add], (lo_of (by decide)).app lo, ?_⟩ (all_cons ⟨cs ++ [32], by rw [sp_T, T_add], lo.app (lo_of (by decide)), ?_⟩ (all_cons ⟨cs ++ [10], by rw [nlT, T_add], lo.app (lo_of (by decide)), ?_⟩
      (all_cons ⟨_, by rw [up.1], up.2, ?_⟩ (all_cons ⟨[83, 107, 105, 110, 40] ++ cs ++ [41], by rw [skT0, skT1, T_add, T_add], ((lo_of (by decide)).app lo).app (lo_of (by decide)), ?_⟩ all_nil))))
    · rw [List.length_append]; show 1 + _ ≤ _; omega
    · rw [List.length_append]; show _ + 1 ≤ _; omega
    · rw [List.length_append]; show _ + 1 ≤ _; omega
    · rw [List.length_map]; omega
    · rw [List.length_append, List.length_append]; show 5 + _ + 1 ≤ _; omega
end
section
variable {L : Nat} {K : Hs → Prop} {h : Hs} {Q : D → Hs → Prop} {X : XQ} {d : D} {k B : Nat} {cs w : List Nat} {n : Nat}
def So (d : D) : Prop := (∃ cs, d = .str (T cs) ∧ cs.length ≤ 9000) ∨ (Pln d ∧ tyIs d .str = false)
theorem so_eq (s : So d) : c_is_so [d] h = .ok (.bl true) h := by
  rcases s with ⟨cs, rfl, l⟩ | ⟨p, t⟩
  · exact so_text l
  · exact so_odd p t
theorem so_str {z : Str} (h : z.length ≤ 9000) : So (.str z) := by
  refine .inl ⟨TL.tl z, by rw [T_tl], ?_⟩
  have : (TL.tl z).length = z.length := Array.length_toList
  rw [this]; exact h
theorem so_as {n : Nat} (a : As n d) (h : n ≤ 9000) : So d := by
  obtain ⟨cs, rfl, _, l⟩ := a
  exact .inl ⟨cs, rfl, Nat.le_trans l h⟩
theorem so_pl (p : Pln d) (t : tyIs d .str = false) : So d := .inr ⟨p, t⟩
theorem so_lit {z : String} (h : z.length ≤ 600) : So (.str (Str.ofString z)) := so_str (by rw [PySem.ofString_length]; omega)
theorem rep_len {c : Nat} {x : Str} {k : Int} (hx : x = T [c]) : (repS x k).length = k.toNat := by
  rw [hx, repS_T, T_len]
  generalize k.toNat = n
  induction n with
  | zero => rfl
  | succ n ih => rw [List.replicate_succ, List.flatten_cons, List.length_append, ih]; show 1 + n = n + 1; omega
@[irreducible] def z1 : Str := Str.ofString "a" ++ repS (Str.ofString "1") 3000 ++ Str.ofString " s0 g0"
@[irreducible] def z2 : Str := Str.ofString "a5 s" ++ repS (Str.ofString "0") 3900 ++ Str.ofString " g0"
theorem r1_len : (repS (Str.ofString "1") 3000).length = 3000 := by
  have e3 : (3000 : Int).toNat = 3000 := rfl
  rw [rep_len (c := 49) (by decide +kernel), e3]
theorem r2_len : (repS (Str.ofString "0") 3900).length = 3900 := by
  have e3 : (3900 : Int).toNat = 3900 := rfl
  rw [rep_len (c := 48) (by decide +kernel), e3]
theorem lit_len (s : String) : (Str.ofString s).length = s.length := PySem.ofString_length s
theorem three_ev {a b c : String} {k : Int} {n : Nat} {z : Str} (hk : (decide (2 ≤ k) && decide (k ≤ 10000) && decide ((Str.ofString b).length ≤ 1000)) = true) (hn : (repS (Str.ofString b) k).length = n) (n1 : n ≤ 4000) (la : a.length ≤ 100) (lc : c.length ≤ 100)
    (hz : z = Str.ofString a ++ repS (Str.ofString b) k ++ Str.ofString c) :
    eBin gAdd (eBin gAdd (eC (.str (Str.ofString a))) (eBin gMulS (eC (.str (Str.ofString b))) (eC (.int k)))) (eC (.str (Str.ofString c))) = eC (.str z) := by
  subst hz
  funext e h
  have e0 : eBin gMulS (eC (.str (Str.ofString b))) (eC (.int k)) e h = .ok (.str (repS (Str.ofString b) k)) h := by
    show R.ofO (if (decide (2 ≤ k) && decide (k ≤ 10000) && decide ((Str.ofString b).length ≤ 1000)) = true then some (D.str (repS (Str.ofString b) k)) else none) h = _
    rw [if_pos hk]; rfl
  have e1 : eBin gAdd (eC (.str (Str.ofString a))) (eBin gMulS (eC (.str (Str.ofString b))) (eC (.int k))) e h = .ok (.str (Str.ofString a ++ repS (Str.ofString b) k)) h := by
    show (eBin gMulS (eC (.str (Str.ofString b))) (eC (.int k)) e h).bind (fun y h2 => R.ofO (gAdd h2 (.str (Str.ofString a)) y) h2) = _
    rw [e0]
    show R.ofO (gAdd h (.str (Str.ofString a)) (.str (repS (Str.ofString b) k))) h = _
    rw [add_str (by rw [lit_len]; omega) (by omega)]; rfl
  show (eBin gAdd (eC (.str (Str.ofString a))) (eBin gMulS (eC (.str (Str.ofString b))) (eC (.int k))) e h).bind (fun x h1 => R.ofO (gAdd h1 x (.str (Str.ofString c))) h1) = _
  rw [e1]
  show R.ofO (gAdd h (.str (Str.ofString a ++ repS (Str.ofString b) k)) (.str (Str.ofString c))) h = _
  rw [add_str (by rw [str_len, lit_len]; omega) (by rw [lit_len]; omega)]; rfl
theorem z1_ev : eBin gAdd (eBin gAdd (eC (.str "a")) (eBin gMulS (eC (.str "1")) (eC (.int 3000)))) (eC (.str " s0 g0")) = eC (.str z1) := three_ev (by decide +kernel) r1_len (by decide) (by decide) (by decide) (by unfold z1; rfl)
theorem z2_ev : eBin gAdd (eBin gAdd (eC (.str "a5 s")) (eBin gMulS (eC (.str "0")) (eC (.int 3900)))) (eC (.str " g0")) = eC (.str z2) := three_ev (by decide +kernel) r2_len (by decide) (by decide) (by decide) (by unfold z2; rfl)
theorem so_r1 : So (.str z1) := so_str (by
  have e1 : "a".length = 1 := rfl
  have e2 : " s0 g0".length = 6 := rfl
  unfold z1
  rw [str_len, str_len, r1_len, lit_len, lit_len, e1, e2]; omega)
theorem so_r2 : So (.str z2) := so_str (by
  have e1 : "a5 s".length = 4 := rfl
  have e2 : " g0".length = 3 := rfl
  unfold z2
  rw [str_len, str_len, r2_len, lit_len, lit_len, e1, e2]; omega)
theorem all_app {P : D → Prop} {xs ys : List D} (a : ∀ x ∈ xs, P x) (b : ∀ x ∈ ys, P x) : ∀ x ∈ xs ++ ys, P x := fun x h => (List.mem_append.mp h).elim (a x) (b x)
theorem law_true : ∀ ns : List Int, ns.length ≤ 63 → ∃ hs', c_law [.scr (ns.map D.int)] [] = .ok (.bl true) hs' := by
  intro ns hl
  suffices Wp (c_law [.scr (ns.map D.int)] []) (fun d _ => d = .bl true) nX by
    obtain ⟨x, h, e, rfl⟩ := wp_get this
    exact ⟨h, e⟩
  unfold c_law f_law
  rw [z1_ev, z2_ev]
  refine wp_bodyE [some (.scr (ns.map .int)), none, none, none, none, none, none, none, none] rfl ?_
  fail "n"
  refine deck_st hl fun h S => ?_
  generalize D.scr (ns.map D.int) = sc
  have sK : Stb 3 (fun _ => True) := stb_true
  fail "n"
  refine ws_for ?_
  fail "n"
  refine ⟨3, fun i e h => St 3 (fun _ => True) h ∧ ∃ x2 x3 x4 x5 x6, e = [some sc, some (.ref 2), x2, x3, x4, x5, x6, none, none], by decide, ⟨S, _, _, _, _, _, rfl⟩, ?_, ?_⟩
  · rintro i _ h hi ⟨S, x2, x3, x4, x5, x6, rfl⟩
    refine ⟨_, _, nxN_some hi, rfl, ?_⟩
    fail "n"
    refine wp_comp ?_
    fail "n"
    refine ⟨12, fun i acc h => St 3 (fun _ => True) h ∧ acc.length = i ∧ ∀ x ∈ acc, ∃ b : Int, x = .int b, by decide, ⟨S, rfl, all_nil⟩, ?_, ?_⟩
    · rintro i acc h hi ⟨S, hl, ha⟩
      refine ⟨_, _, nxN_some hi, rfl, ?_⟩
      fail "n"
      refine ⟨fun _ => ⟨by rw [sizeLine_eq]; omega, ?_⟩, fun z => nomatch z⟩
      fail "n"
      rename_i r h' r0 r1 S1
      exact ⟨S1, by rw [List.length_append, hl]; rfl, all_app ha (all_cons ⟨_, rfl⟩ all_nil)⟩
    rintro tw h ⟨S, twl, twa⟩
    refine ⟨nxN_stop, ?_⟩
    fail "n"
    refine text_wp S sK fun d1 h1 hd1 S => ?_
    obtain ⟨cs, rfl, lo, ll⟩ := hd1
    fail "n"
    refine ws_forL (fun e h => St 3 (fun _ => True) h ∧ ∃ x2 x5 x6, e = [some sc, some (.ref 2), x2, some (.lst tw), some (.str (T cs)), x5, x6, none, none]) ?_
    fail "n"
    refine ⟨by omega, ⟨S, _, _, _, rfl⟩, ?_, ?_⟩
    · rintro d _ h hd ⟨S, x2, x5, x6, rfl⟩
      obtain ⟨b, rfl⟩ := twa d hd
      refine ⟨_, rfl, ?_⟩
      fail "n"
      refine bent_wp S sK lo ll (by decide) fun d' h2 hd' S => ?_
      fail "n"
      refine ⟨fun _ => ?_, fun _ => ?_⟩
      · obtain ⟨t', rfl, lo', lt'⟩ := hd'
        fail "n"
        refine bent_wp S sK lo' lt' (by decide) fun d' h2 hd' S => ?_
        fail "n"
        refine wp_of (so_eq (so_as hd' (by decide))) ?_
        fail "n"
        refine ⟨fun z => absurd z (by decide), fun _ => ?_⟩
        fail "n"
        refine wp_of (so_eq (.inl ⟨cs, rfl, by omega⟩)) ?_
        fail "n"
        refine ⟨fun z => absurd z (by decide), fun _ => ?_⟩
        fail "n"
        exact ⟨S, _, _, _, rfl⟩
      · fail "n"
        refine wp_of (so_eq (so_as hd' (by decide))) ?_
        fail "n"
        refine ⟨fun z => absurd z (by decide), fun _ => ?_⟩
        fail "n"
        refine wp_of (so_eq (.inl ⟨cs, rfl, by omega⟩)) ?_
        fail "n"
        refine ⟨fun z => absurd z (by decide), fun _ => ?_⟩
        fail "n"
        exact ⟨S, _, _, _, rfl⟩
    · rintro _ h ⟨S, x2, x5, x6, rfl⟩
      exact ⟨S, _, _, _, _, _, rfl⟩
  · rintro _ h ⟨S, x2, x3, x4, x5, x6, rfl⟩
    refine ⟨nxN_stop, ?_⟩
    fail "n"
    refine wp_cfm (fun _ => false) id ?_
    fail "n"
    refine ⟨Nat.le_of_ble_eq_true rfl, fun d hd => ?_, ?_⟩
    · have so : So d := by
        revert hd
        revert d
        refine all_app (all_app ?_ ?_) ?_
        all_goals repeat' (first
          | with_reducible exact all_nil
          | with_reducible refine all_cons ?_ ?_
          | with_reducible exact so_lit (by decide)
          | with_reducible exact so_r1
          | with_reducible exact so_r2
          | exact so_pl (by constructor) rfl)
      refine ⟨_, rfl, ?_⟩
      fail "n"
      refine wp_of (so_eq so) ?_
      fail "n"
      exact fun z => nomatch z
    rw [List.filter_eq_nil_iff.mpr (fun _ _ => Bool.false_ne_true)]
    fail "n"
    rfl
end
end K09

end
namespace K09
open PySem PySem.Spec PyProof.Rows L2 G
/-! ### the text -/
def topS (i : Nat) : Stmt := PySem.Challenge.pw_glovepairs_k09_skins_read.main.body.getD i (.Pass ⟨0, 0, 0, 0⟩)
abbrev s_sign_of : Stmt := topS 25
abbrev N_sign_of : List Str := ["grain"]
theorem sc_sign_of : FnScope N_sign_of ["grain"] (defScope s_sign_of) := ⟨rfl, rfl, rfl, by decide +kernel, rfl, by decide +kernel, by decide +kernel⟩
abbrev s_zone_word : Stmt := topS 26
abbrev N_zone_word : List Str := ["zone"]
theorem sc_zone_word : FnScope N_zone_word ["zone"] (defScope s_zone_word) := ⟨rfl, rfl, rfl, by decide +kernel, rfl, by decide +kernel, by decide +kernel⟩
abbrev s_number_behind : Stmt := topS 28
abbrev N_number_behind : List Str := ["word", "sign", "least", "most", "figures", "number", "one"]
theorem sc_number_behind : FnScope N_number_behind ["word", "sign", "least", "most"] (defScope s_number_behind) := ⟨rfl, rfl, rfl, by decide +kernel, rfl, by decide +kernel, by decide +kernel⟩
abbrev s_zone_read : Stmt := topS 29
abbrev N_zone_read : List Str := ["word", "grain", "length"]
theorem sc_zone_read : FnScope N_zone_read ["word"] (defScope s_zone_read) := ⟨rfl, rfl, rfl, by decide +kernel, rfl, by decide +kernel, by decide +kernel⟩
abbrev s_Skin_init : Stmt := inClass (topS 27) 0
abbrev N_Skin_init : List Str := ["self", "zones", "stretch", "grade"]
theorem sc_Skin_init : FnScope N_Skin_init ["self", "zones", "stretch", "grade"] (defScope s_Skin_init) := ⟨rfl, rfl, rfl, by decide +kernel, rfl, by decide +kernel, by decide +kernel⟩
abbrev s_read_skin : Stmt := topS 30
abbrev N_read_skin : List Str := ["text", "words", "stretch", "grade", "word"]
theorem sc_read_skin : FnScope N_read_skin ["text"] (defScope s_read_skin) := ⟨rfl, rfl, rfl, by decide +kernel, rfl, by decide +kernel, by decide +kernel⟩
abbrev s_deck : Stmt := topS 32
abbrev N_deck : List Str := ["_law_script", "_law_cell"]
theorem sc_deck : FnScope N_deck ["_law_script"] (defScope s_deck) := ⟨rfl, rfl, rfl, by decide +kernel, rfl, by decide +kernel, by decide +kernel⟩
abbrev s_draw : Stmt := topS 33
abbrev N_draw : List Str := ["_law_deck_here", "_law_most", "_law_cell", "_law_number"]
theorem sc_draw : FnScope N_draw ["_law_deck_here", "_law_most"] (defScope s_draw) := ⟨rfl, rfl, rfl, by decide +kernel, rfl, by decide +kernel, by decide +kernel⟩
abbrev s_pick : Stmt := topS 34
abbrev N_pick : List Str := ["_law_deck_here", "_law_some"]
theorem sc_pick : FnScope N_pick ["_law_deck_here", "_law_some"] (defScope s_pick) := ⟨rfl, rfl, rfl, by decide +kernel, rfl, by decide +kernel, by decide +kernel⟩
abbrev s_text : Stmt := topS 35
abbrev N_text : List Str := ["_law_deck_here", "_law_way", "_law_words", "_law_k", "_law_length", "_law_stretch"]
theorem sc_text : FnScope N_text ["_law_deck_here"] (defScope s_text) := ⟨rfl, rfl, rfl, by decide +kernel, rfl, by decide +kernel, by decide +kernel⟩
abbrev s_odd_word : Stmt := topS 36
abbrev N_odd_word : List Str := ["_law_deck_here", "_law_some"]
theorem sc_odd_word : FnScope N_odd_word ["_law_deck_here"] (defScope s_odd_word) := ⟨rfl, rfl, rfl, by decide +kernel, rfl, by decide +kernel, by decide +kernel⟩
abbrev s_bent_text : Stmt := topS 37
abbrev N_bent_text : List Str := ["_law_deck_here", "_law_own_text", "_law_way", "_law_words", "_law_at", "_law_spot", "_law_sign"]
theorem sc_bent_text : FnScope N_bent_text ["_law_deck_here", "_law_own_text"] (defScope s_bent_text) := ⟨rfl, rfl, rfl, by decide +kernel, rfl, by decide +kernel, by decide +kernel⟩
abbrev s_due : Stmt := topS 38
abbrev N_due : List Str := ["_law_own_text", "_law_words", "_law_zones", "_law_k", "_law_stretches", "_law_grades", "_law_word"]
theorem sc_due : FnScope N_due ["_law_own_text"] (defScope s_due) := ⟨rfl, rfl, rfl, by decide +kernel, rfl, by decide +kernel, by decide +kernel⟩
abbrev s_is_alone : Stmt := topS 39
abbrev N_is_alone : List Str := ["_law_e", "_law_odd"]
theorem sc_is_alone : FnScope N_is_alone ["_law_e"] (defScope s_is_alone) := ⟨rfl, rfl, rfl, by decide +kernel, rfl, by decide +kernel, by decide +kernel⟩
abbrev s_Skin_str : Stmt := inClass (topS 27) 3
abbrev N_Skin_str : List Str := ["self", "words", "zone"]
theorem sc_Skin_str : FnScope N_Skin_str ["self"] (defScope s_Skin_str) := ⟨rfl, rfl, rfl, by decide +kernel, rfl, by decide +kernel, by decide +kernel⟩
abbrev s_Skin_eq : Stmt := inClass (topS 27) 1
abbrev N_Skin_eq : List Str := ["self", "other"]
theorem sc_Skin_eq : FnScope N_Skin_eq ["self", "other"] (defScope s_Skin_eq) := ⟨rfl, rfl, rfl, by decide +kernel, rfl, by decide +kernel, by decide +kernel⟩
abbrev s_Skin_len : Stmt := inClass (topS 27) 2
abbrev N_Skin_len : List Str := ["self"]
theorem sc_Skin_len : FnScope N_Skin_len ["self"] (defScope s_Skin_len) := ⟨rfl, rfl, rfl, by decide +kernel, rfl, by decide +kernel, by decide +kernel⟩
abbrev s_is_so : Stmt := topS 40
abbrev N_is_so : List Str := ["_law_thing", "_law_due_here", "_law_found", "_law_refused", "_law_e"]
theorem sc_is_so : FnScope N_is_so ["_law_thing"] (defScope s_is_so) := ⟨rfl, rfl, rfl, by decide +kernel, rfl, by decide +kernel, by decide +kernel⟩
abbrev s_law : Stmt := topS 41
abbrev N_law : List Str := ["_law_script", "_law_deck_here", "_law_turn", "_law_twice", "_law_own_text", "_law_more", "_law_thing", "_law_odd", "_law_k"]
theorem sc_law : FnScope N_law ["_law_script"] (defScope s_law) := ⟨rfl, rfl, rfl, by decide +kernel, rfl, by decide +kernel, by decide +kernel⟩
/-! ### what the top has left -/
structure Tx (K : PySem.W.Frag) (mg : Str → Option Value) where
  a_sign_of : Addr
  e_sign_of : FuncData
  F_sign_of : Fun K "sign_of" "sign_of" s_sign_of a_sign_of e_sign_of
  g_sign_of : mg "sign_of" = some (.ref a_sign_of)
  a_zone_word : Addr
  e_zone_word : FuncData
  F_zone_word : Fun K "zone_word" "zone_word" s_zone_word a_zone_word e_zone_word
  g_zone_word : mg "zone_word" = some (.ref a_zone_word)
  a_number_behind : Addr
  e_number_behind : FuncData
  F_number_behind : Fun K "number_behind" "number_behind" s_number_behind a_number_behind e_number_behind
  g_number_behind : mg "number_behind" = some (.ref a_number_behind)
  a_zone_read : Addr
  e_zone_read : FuncData
  F_zone_read : Fun K "zone_read" "zone_read" s_zone_read a_zone_read e_zone_read
  g_zone_read : mg "zone_read" = some (.ref a_zone_read)
  a_Skin_init : Addr
  e_Skin_init : FuncData
  F_Skin_init : FunF K "__init__" "Skin.__init__" s_Skin_init [(.int 0), (.int 0)] a_Skin_init e_Skin_init
  a_read_skin : Addr
  e_read_skin : FuncData
  F_read_skin : Fun K "read_skin" "read_skin" s_read_skin a_read_skin e_read_skin
  g_read_skin : mg "read_skin" = some (.ref a_read_skin)
  a_deck : Addr
  e_deck : FuncData
  F_deck : Fun K "_law_deck" "_law_deck" s_deck a_deck e_deck
  g_deck : mg "_law_deck" = some (.ref a_deck)
  a_draw : Addr
  e_draw : FuncData
  F_draw : Fun K "_law_draw" "_law_draw" s_draw a_draw e_draw
  g_draw : mg "_law_draw" = some (.ref a_draw)
  a_pick : Addr
  e_pick : FuncData
  F_pick : Fun K "_law_pick" "_law_pick" s_pick a_pick e_pick
  g_pick : mg "_law_pick" = some (.ref a_pick)
  a_text : Addr
  e_text : FuncData
  F_text : Fun K "_law_text" "_law_text" s_text a_text e_text
  g_text : mg "_law_text" = some (.ref a_text)
  a_odd_word : Addr
  e_odd_word : FuncData
  F_odd_word : Fun K "_law_odd_word" "_law_odd_word" s_odd_word a_odd_word e_odd_word
  g_odd_word : mg "_law_odd_word" = some (.ref a_odd_word)
  a_bent_text : Addr
  e_bent_text : FuncData
  F_bent_text : Fun K "_law_bent_text" "_law_bent_text" s_bent_text a_bent_text e_bent_text
  g_bent_text : mg "_law_bent_text" = some (.ref a_bent_text)
  a_due : Addr
  e_due : FuncData
  F_due : Fun K "_law_due" "_law_due" s_due a_due e_due
  g_due : mg "_law_due" = some (.ref a_due)
  a_is_alone : Addr
  e_is_alone : FuncData
  F_is_alone : Fun K "_law_is_alone" "_law_is_alone" s_is_alone a_is_alone e_is_alone
  g_is_alone : mg "_law_is_alone" = some (.ref a_is_alone)
  a_Skin_str : Addr
  e_Skin_str : FuncData
  F_Skin_str : Fun K "__str__" "Skin.__str__" s_Skin_str a_Skin_str e_Skin_str
  a_Skin_eq : Addr
  e_Skin_eq : FuncData
  F_Skin_eq : Fun K "__eq__" "Skin.__eq__" s_Skin_eq a_Skin_eq e_Skin_eq
  a_Skin_len : Addr
  e_Skin_len : FuncData
  F_Skin_len : Fun K "__len__" "Skin.__len__" s_Skin_len a_Skin_len e_Skin_len
  a_is_so : Addr
  e_is_so : FuncData
  F_is_so : Fun K "_law_is_so" "_law_is_so" s_is_so a_is_so e_is_so
  g_is_so : mg "_law_is_so" = some (.ref a_is_so)
  a_law : Addr
  e_law : FuncData
  F_law : Fun K "law" "law" s_law a_law e_law
  g_law : mg "law" = some (.ref a_law)
  C_Skin : Addr
  iC_Skin : IsC K "Skin" C_Skin
  gC_Skin : mg "Skin" = some (.ref C_Skin)
  cl_Skin : L2.Cls K C_Skin
  mk_Skin : Mk K C_Skin a_Skin_init
  x_NoText : Addr
  gx_NoText : mg "NoText" = some (.ref x_NoText)
  x_Breaks : Addr
  gx_Breaks : mg "Breaks" = some (.ref x_Breaks)
  x_NoCut : Addr
  gx_NoCut : mg "NoCut" = some (.ref x_NoCut)
  x_NoDeed : Addr
  gx_NoDeed : mg "NoDeed" = some (.ref x_NoDeed)
  x_NoGlove : Addr
  gx_NoGlove : mg "NoGlove" = some (.ref x_NoGlove)
  x_NoLot : Addr
  gx_NoLot : mg "NoLot" = some (.ref x_NoLot)
  x_NoMoment : Addr
  gx_NoMoment : mg "NoMoment" = some (.ref x_NoMoment)
  x_NoOrder : Addr
  gx_NoOrder : mg "NoOrder" = some (.ref x_NoOrder)
  x_NoPairs : Addr
  gx_NoPairs : mg "NoPairs" = some (.ref x_NoPairs)
  x_NoResult : Addr
  gx_NoResult : mg "NoResult" = some (.ref x_NoResult)
  x_NoRow : Addr
  gx_NoRow : mg "NoRow" = some (.ref x_NoRow)
  x_NoSkin : Addr
  gx_NoSkin : mg "NoSkin" = some (.ref x_NoSkin)
  x_NoTable : Addr
  gx_NoTable : mg "NoTable" = some (.ref x_NoTable)
  x_Taken : Addr
  gx_Taken : mg "Taken" = some (.ref x_Taken)
  x_Told : Addr
  gx_Told : mg "Told" = some (.ref x_Told)
  x_GloveError : Addr
  gx_GloveError : mg "GloveError" = some (.ref x_GloveError)
  ex_NoText : ExcK K "NoText" x_NoText [.type "LookupError", .type "Exception", .type "BaseException", .type "object"] "LookupError" "LookupError.__new__" "LookupError.__init__"
  ct_GloveError : Cats K (.ref x_GloveError) [("NoText", true)]
  xi_0 : Exs K [(.ref x_Breaks), (.ref x_NoCut), (.ref x_NoDeed), (.ref x_NoGlove), (.ref x_NoLot), (.ref x_NoMoment), (.ref x_NoOrder), (.ref x_NoPairs), (.ref x_NoResult)] [("NoText", false)]
  xi_1 : Exs K [(.ref x_NoRow), (.ref x_NoSkin), (.ref x_NoTable), (.ref x_Taken), (.ref x_Told)] [("NoText", false)]
  xi_2 : Exs K [(.ref x_NoText)] [("NoText", true)]
  xi_3 : Exs K [(.type "LookupError")] [("NoText", true)]
  io_Skin : Iss K (.ref C_Skin) [("Skin", true)]
  eq_Skin : EqK K "Skin" C_Skin a_Skin_eq
  on_Skin : OnK K (.ref C_Skin)
  fl_zones : Flds K ["Skin"] "zones"
  fl_stretch : Flds K ["Skin"] "stretch"
  fl_grade : Flds K ["Skin"] "grade"
  sp_Skin_str : SpK K "Skin" C_Skin "__str__" a_Skin_str
  sp_Skin_len : SpK K "Skin" C_Skin "__len__" a_Skin_len
  n_LookupError : mg "LookupError" = none
  n_all : mg "all" = none
  n_dict : mg "dict" = none
  n_int : mg "int" = none
  n_isinstance : mg "isinstance" = none
  n_len : mg "len" = none
  n_list : mg "list" = none
  n_range : mg "range" = none
  n_repr : mg "repr" = none
  n_str : mg "str" = none
  n_sum : mg "sum" = none
  n_tuple : mg "tuple" = none
  v_ACROSS : V
  u_ACROSS : Value
  m_ACROSS : mg "ACROSS" = some u_ACROSS
  r_ACROSS : RelV v_ACROSS u_ACROSS
  d_ACROSS : ∀ mu H, RD K mu H k_ACROSS v_ACROSS
  v_ALONG : V
  u_ALONG : Value
  m_ALONG : mg "ALONG" = some u_ALONG
  r_ALONG : RelV v_ALONG u_ALONG
  d_ALONG : ∀ mu H, RD K mu H k_ALONG v_ALONG
  v_FIGURES : V
  u_FIGURES : Value
  m_FIGURES : mg "FIGURES" = some u_FIGURES
  r_FIGURES : RelV v_FIGURES u_FIGURES
  d_FIGURES : ∀ mu H, RD K mu H k_FIGURES v_FIGURES
  v_MOST_GRADE : V
  u_MOST_GRADE : Value
  m_MOST_GRADE : mg "MOST_GRADE" = some u_MOST_GRADE
  r_MOST_GRADE : RelV v_MOST_GRADE u_MOST_GRADE
  d_MOST_GRADE : ∀ mu H, RD K mu H k_MOST_GRADE v_MOST_GRADE
  v_MOST_LENGTH : V
  u_MOST_LENGTH : Value
  m_MOST_LENGTH : mg "MOST_LENGTH" = some u_MOST_LENGTH
  r_MOST_LENGTH : RelV v_MOST_LENGTH u_MOST_LENGTH
  d_MOST_LENGTH : ∀ mu H, RD K mu H k_MOST_LENGTH v_MOST_LENGTH
  v_MOST_STRETCH : V
  u_MOST_STRETCH : Value
  m_MOST_STRETCH : mg "MOST_STRETCH" = some u_MOST_STRETCH
  r_MOST_STRETCH : RelV v_MOST_STRETCH u_MOST_STRETCH
  d_MOST_STRETCH : ∀ mu H, RD K mu H k_MOST_STRETCH v_MOST_STRETCH
  v_MOST_ZONES : V
  u_MOST_ZONES : Value
  m_MOST_ZONES : mg "MOST_ZONES" = some u_MOST_ZONES
  r_MOST_ZONES : RelV v_MOST_ZONES u_MOST_ZONES
  d_MOST_ZONES : ∀ mu H, RD K mu H k_MOST_ZONES v_MOST_ZONES
section
variable {P : Program} {w : World} {K : PySem.W.Frag} {mg : Str → Option Value} {base : Heap}
theorem b_sign_of_1 (T : Tx K mg) : BindK K T.e_sign_of ["grain"] 1 [] [0] [] := bindK_of T.F_sign_of fun _ _ _ _ _ _ us ws h1 h2 => match us, ws, h1, h2 with | [_], [], _, _ => rfl
theorem b_number_behind_4 (T : Tx K mg) : BindK K T.e_number_behind ["word", "sign", "least", "most"] 4 [] [0, 1, 2, 3] [] := bindK_of T.F_number_behind fun _ _ _ _ _ _ us ws h1 h2 => match us, ws, h1, h2 with | [_, _, _, _], [], _, _ => rfl
theorem b_Skin_init_4 (T : Tx K mg) : ∃ its, Vals [(.int 0), (.int 0)] its ∧ BindK K T.e_Skin_init ["self", "zones", "stretch", "grade"] 4 [] [0, 1, 2, 3] its := by
  first
    | exact bindKD_of T.F_Skin_init (List.cons_ne_nil _ _) fun _ _ _ _ _ _ _ us its ws h1 h2 h3 => match us, its, ws, h1, h2, h3 with | [_, _, _, _], [_, _], [], _, _, _ => ⟨_, rfl, rfl⟩
    | exact bindKN_of T.F_Skin_init (List.cons_ne_nil _ _) fun _ _ _ _ _ _ _ us its ws h1 h2 h3 => match us, its, ws, h1, h2, h3 with | [_, _, _, _], [_, _], [], _, _, _ => rfl
theorem b_zone_read_1 (T : Tx K mg) : BindK K T.e_zone_read ["word"] 1 [] [0] [] := bindK_of T.F_zone_read fun _ _ _ _ _ _ us ws h1 h2 => match us, ws, h1, h2 with | [_], [], _, _ => rfl
theorem b_draw_2 (T : Tx K mg) : BindK K T.e_draw ["_law_deck_here", "_law_most"] 2 [] [0, 1] [] := bindK_of T.F_draw fun _ _ _ _ _ _ us ws h1 h2 => match us, ws, h1, h2 with | [_, _], [], _, _ => rfl
theorem b_pick_2 (T : Tx K mg) : BindK K T.e_pick ["_law_deck_here", "_law_some"] 2 [] [0, 1] [] := bindK_of T.F_pick fun _ _ _ _ _ _ us ws h1 h2 => match us, ws, h1, h2 with | [_, _], [], _, _ => rfl
theorem b_odd_word_1 (T : Tx K mg) : BindK K T.e_odd_word ["_law_deck_here"] 1 [] [0] [] := bindK_of T.F_odd_word fun _ _ _ _ _ _ us ws h1 h2 => match us, ws, h1, h2 with | [_], [], _, _ => rfl
theorem b_due_1 (T : Tx K mg) : BindK K T.e_due ["_law_own_text"] 1 [] [0] [] := bindK_of T.F_due fun _ _ _ _ _ _ us ws h1 h2 => match us, ws, h1, h2 with | [_], [], _, _ => rfl
theorem b_read_skin_0_text (T : Tx K mg) : BindK K T.e_read_skin ["text"] 0 ["text"] [0] [] := bindK_of T.F_read_skin fun _ _ _ _ _ _ us ws h1 h2 => match us, ws, h1, h2 with | [], [_], _, _ => rfl
theorem b_is_alone_1 (T : Tx K mg) : BindK K T.e_is_alone ["_law_e"] 1 [] [0] [] := bindK_of T.F_is_alone fun _ _ _ _ _ _ us ws h1 h2 => match us, ws, h1, h2 with | [_], [], _, _ => rfl
theorem b_Skin_str_1 (T : Tx K mg) : BindK K T.e_Skin_str ["self"] 1 [] [0] [] := bindK_of T.F_Skin_str fun _ _ _ _ _ _ us ws h1 h2 => match us, ws, h1, h2 with | [_], [], _, _ => rfl
theorem b_Skin_eq_2 (T : Tx K mg) : BindK K T.e_Skin_eq ["self", "other"] 2 [] [0, 1] [] := bindK_of T.F_Skin_eq fun _ _ _ _ _ _ us ws h1 h2 => match us, ws, h1, h2 with | [_, _], [], _, _ => rfl
theorem b_Skin_len_1 (T : Tx K mg) : BindK K T.e_Skin_len ["self"] 1 [] [0] [] := bindK_of T.F_Skin_len fun _ _ _ _ _ _ us ws h1 h2 => match us, ws, h1, h2 with | [_], [], _, _ => rfl
theorem b_deck_1 (T : Tx K mg) : BindK K T.e_deck ["_law_script"] 1 [] [0] [] := bindK_of T.F_deck fun _ _ _ _ _ _ us ws h1 h2 => match us, ws, h1, h2 with | [_], [], _, _ => rfl
theorem b_text_1 (T : Tx K mg) : BindK K T.e_text ["_law_deck_here"] 1 [] [0] [] := bindK_of T.F_text fun _ _ _ _ _ _ us ws h1 h2 => match us, ws, h1, h2 with | [_], [], _, _ => rfl
theorem b_bent_text_2 (T : Tx K mg) : BindK K T.e_bent_text ["_law_deck_here", "_law_own_text"] 2 [] [0, 1] [] := bindK_of T.F_bent_text fun _ _ _ _ _ _ us ws h1 h2 => match us, ws, h1, h2 with | [_, _], [], _, _ => rfl
theorem b_is_so_1 (T : Tx K mg) : BindK K T.e_is_so ["_law_thing"] 1 [] [0] [] := bindK_of T.F_is_so fun _ _ _ _ _ _ us ws h1 h2 => match us, ws, h1, h2 with | [_], [], _, _ => rfl
theorem b_zone_word_1 (T : Tx K mg) : BindK K T.e_zone_word ["zone"] 1 [] [0] [] := bindK_of T.F_zone_word fun _ _ _ _ _ _ us ws h1 h2 => match us, ws, h1, h2 with | [_], [], _, _ => rfl
theorem ok_sign_of (T : Tx K mg) (sm : ∃ o, base.get? sysModules = some o) : FnG P w K mg base 1 T.a_sign_of T.e_sign_of ["grain"] (spU K mg 1 c_sign_of) := by
  refine (fun_ok T.F_sign_of sm sc_sign_of f_sign_of fun cdv A outer s H E B => ?_)
  exact (us_cons (us_if (ut_cmp (og_eq B.room.units) (ue_name 0) (ue_glob (by rfl) T.m_ALONG T.r_ALONG T.d_ALONG)) (us_one (us_ret ue_str)) us_nil)
    (us_one (us_ret ue_str)))
theorem ok_zone_word (T : Tx K mg) (sm : ∃ o, base.get? sysModules = some o) : FnG P w K mg base 2 T.a_zone_word T.e_zone_word ["zone"] (spU K mg 1 c_zone_word) := by
  refine (fun_ok T.F_zone_word sm sc_zone_word f_zone_word fun cdv A outer s H E B => ?_)
  exact (us_one (us_ret (ue_bin og_add (ue_fn B (ok_sign_of T B.sm) (by decide) T.g_sign_of T.F_sign_of.kp (b_sign_of_1 T) (ua_cons (ue_ix (ue_name 0) ue_int) ua_nil) (len_cons len_nil)) (ue_callTy cg_str (by rfl) T.n_str PyProof.Rows.boot_str (ua_cons (ue_ix (ue_name 0) ue_int) ua_nil)))))
theorem ok_number_behind (T : Tx K mg) (sm : ∃ o, base.get? sysModules = some o) : FnG P w K mg base 1 T.a_number_behind T.e_number_behind ["word", "sign", "least", "most"] (spU K mg 4 c_number_behind) := by
  refine (fun_ok T.F_number_behind sm sc_number_behind f_number_behind fun cdv A outer s H E B => ?_)
  exact (us_cons (us_set (i := 4) sc_number_behind.nd (ue_sl (ue_name 0) (uo_some ue_int) uo_none))
    (us_cons (us_if (ut_w (uw_or (ut_cmp (og_ne B.room.units) (ue_sl (ue_name 0) uo_none (uo_some ue_int)) (ue_name 1)) (uw_or (ut_not (ut_chain og_le og_le ue_int (ue_callB cg_len (by rfl) T.n_len PySem.boot_len (ua_cons (ue_name 4) ua_nil)) ue_int)) (uw_or1 (ut_not (ut_truth (ue_callB (cg_all B.calm) (by rfl) T.n_all boot_all (ua_cons (ue_v (uf_comp (own := [("one", 6)]) B.calm sc_number_behind.nd (ui_any (ue_name 4)) (blkOk_by (N := N_number_behind) (sc := defScope s_number_behind) (by decide +kernel)) (fun _ _ _ _ _ => (ug_name (i := 6) sc_number_behind.nd (by decide))) (fun _ _ _ _ _ => uts_nil) (fun _ _ _ _ _ => (ue_cmp (og_inA (u65 B.blk.room)) (ue_name 6) (ue_glob (by rfl) T.m_FIGURES T.r_FIGURES T.d_FIGURES))))) ua_nil)))))))) (us_one (us_ret ue_non)) us_nil)
    (us_cons (us_set (i := 5) sc_number_behind.nd (ue_callTy cg_intT (by rfl) T.n_int PyProof.Rows.boot_int (ua_cons (ue_name 4) ua_nil)))
    (us_cons (us_if (ut_w (uw_or (ut_cmp (og_ne B.room.units) (ue_callTy cg_str (by rfl) T.n_str PyProof.Rows.boot_str (ua_cons (ue_name 5) ua_nil)) (ue_name 4)) (uw_or1 (ut_not (ut_chain og_le og_le (ue_name 2) (ue_name 5) (ue_name 3)))))) (us_one (us_ret ue_non)) us_nil)
    (us_one (us_ret (ue_name 5)))))))
theorem ok_zone_read (T : Tx K mg) (sm : ∃ o, base.get? sysModules = some o) : FnG P w K mg base 2 T.a_zone_read T.e_zone_read ["word"] (spU K mg 1 c_zone_read) := by
  refine (fun_ok T.F_zone_read sm sc_zone_read f_zone_read fun cdv A outer s H E B => ?_)
  exact (us_cons (us_for (vs := [1]) B.po B.calm (ui_any (ue_tup (ua_cons (ue_glob (by rfl) T.m_ALONG T.r_ALONG T.d_ALONG) (ua_cons (ue_glob (by rfl) T.m_ACROSS T.r_ACROSS T.d_ACROSS) ua_nil)) (few (Nat.le_of_ble_eq_true rfl)) (len_cons (len_cons len_nil)))) (ug_name (i := 1) (vs := [1]) sc_zone_read.nd (by decide))
    (us_cons (us_set (i := 2) sc_zone_read.nd (ue_fn B (ok_number_behind T B.sm) (by decide) T.g_number_behind T.F_number_behind.kp (b_number_behind_4 T) (ua_cons (ue_name 0) (ua_cons (ue_fn B (ok_sign_of T B.sm) (by decide) T.g_sign_of T.F_sign_of.kp (b_sign_of_1 T) (ua_cons (ue_name 1) ua_nil) (len_cons len_nil)) (ua_cons ue_int (ua_cons (ue_glob (by rfl) T.m_MOST_LENGTH T.r_MOST_LENGTH T.d_MOST_LENGTH) ua_nil)))) (len_cons (len_cons (len_cons (len_cons len_nil))))))
    (us_one (us_if (ut_cmp og_isN (ue_name 2) ue_non) (us_one (us_ret (ue_tup (ua_cons (ue_name 1) (ua_cons (ue_name 2) ua_nil)) (few (Nat.le_of_ble_eq_true rfl)) (len_cons (len_cons len_nil))))) us_nil))))
    (us_one (us_raise B.calm B.tk T.ex_NoText T.gx_NoText)))
theorem ok_Skin_init (T : Tx K mg) (sm : ∃ o, base.get? sysModules = some o) : FnG P w K mg base 1 T.a_Skin_init T.e_Skin_init ["self", "zones", "stretch", "grade"] (spU K mg 4 c_Skin_init) := by
  refine (funF_ok T.F_Skin_init sm sc_Skin_init f_Skin_init fun cdv A outer s H E B => ?_)
  exact (us_cons (us_fld T.fl_zones (ue_name 0) (ue_name 1))
    (us_cons (us_fld T.fl_stretch (ue_name 0) (ue_name 2))
    (us_one (us_fld T.fl_grade (ue_name 0) (ue_name 3)))))
theorem ok_read_skin (T : Tx K mg) (sm : ∃ o, base.get? sysModules = some o) : FnG P w K mg base 3 T.a_read_skin T.e_read_skin ["text"] (spU K mg 1 c_read_skin) := by
  refine (fun_ok T.F_read_skin sm sc_read_skin f_read_skin fun cdv A outer s H E B => ?_)
  exact (us_cons (us_if (ut_not (ut_truth (ue_callB cg_isi (by rfl) T.n_isinstance bt_isi (ua_cons (ue_name 0) (ua_cons (ue_ty (t := .str) (by rfl) T.n_str bt_str) ua_nil))))) (us_one (us_raise B.calm B.tk T.ex_NoText T.gx_NoText)) us_nil)
    (us_cons (us_set (i := 1) sc_read_skin.nd (ue_mt isS_ty PySem.F.plainAttrs_str PySem.F.slot_str_split PySem.F.type_str_split mg_split (ue_name 0) (ua_cons ue_str ua_nil)))
    (us_cons (us_if (ut_not (ut_chain og_le og_le ue_int (ue_callB cg_len (by rfl) T.n_len PySem.boot_len (ua_cons (ue_name 1) ua_nil)) (ue_bin og_add ue_int (ue_glob (by rfl) T.m_MOST_ZONES T.r_MOST_ZONES T.d_MOST_ZONES)))) (us_one (us_raise B.calm B.tk T.ex_NoText T.gx_NoText)) us_nil)
    (us_cons (us_set (i := 2) sc_read_skin.nd (ue_fn B (ok_number_behind T B.sm) (by decide) T.g_number_behind T.F_number_behind.kp (b_number_behind_4 T) (ua_cons (ue_ix (ue_name 1) (ue_neg ue_int)) (ua_cons ue_str (ua_cons ue_int (ua_cons (ue_glob (by rfl) T.m_MOST_STRETCH T.r_MOST_STRETCH T.d_MOST_STRETCH) ua_nil)))) (len_cons (len_cons (len_cons (len_cons len_nil))))))
    (us_cons (us_set (i := 3) sc_read_skin.nd (ue_fn B (ok_number_behind T B.sm) (by decide) T.g_number_behind T.F_number_behind.kp (b_number_behind_4 T) (ua_cons (ue_ix (ue_name 1) (ue_neg ue_int)) (ua_cons ue_str (ua_cons ue_int (ua_cons (ue_glob (by rfl) T.m_MOST_GRADE T.r_MOST_GRADE T.d_MOST_GRADE) ua_nil)))) (len_cons (len_cons (len_cons (len_cons len_nil))))))
    (us_cons (us_if (ut_w (uw_or (ut_cmp og_is (ue_name 2) ue_non) (uw_or1 (ut_cmp og_is (ue_name 3) ue_non)))) (us_one (us_raise B.calm B.tk T.ex_NoText T.gx_NoText)) us_nil)
    (us_one (us_ret (ue_gc (ue_mkD B T.mk_Skin T.iC_Skin (ok_Skin_init T B.sm) (by decide) T.gC_Skin (b_Skin_init_4 T) (fun _ _ => (.cons (.int _) (.cons (.int _) .nil))) (ua_cons (ue_callTy cg_tuple (by rfl) T.n_tuple PyProof.Rows.boot_tuple (ua_cons (ue_v (uf_compX (own := [("word", 4)]) B.calm sc_read_skin.nd B.tk (ui_any (ue_sl (ue_name 1) uo_none (uo_some (ue_neg ue_int)))) (blkOk_by (N := N_read_skin) (sc := defScope s_read_skin) (by decide +kernel)) (fun _ _ _ _ _ => (ug_name (i := 4) sc_read_skin.nd (by decide))) (fun _ _ _ _ _ => uts_nil) (fun _ _ _ _ _ => (pex_fn B (ok_zone_read T B.sm) (by decide) T.g_zone_read T.F_zone_read.kp (b_zone_read_1 T) (ua_cons (ue_name 4) ua_nil) (len_cons len_nil) name_nx)))) ua_nil)) (ua_cons (ue_name 2) (ua_cons (ue_name 3) ua_nil))) uk_nil (by exact (len_cons (len_cons (len_cons len_nil)))) (by exact len_nil)))))))))))
theorem ok_deck (T : Tx K mg) (sm : ∃ o, base.get? sysModules = some o) : FnG P w K mg base 1 T.a_deck T.e_deck ["_law_script"] (spU K mg 1 c_deck) := by
  refine (fun_ok T.F_deck sm sc_deck f_deck fun cdv A outer s H E B => ?_)
  exact (us_one (us_ret (ue_m (uf_lst (ua_cons (ue_m (uf_rev (ue_m (uf_list (by rfl) T.n_list (ue_sl (ue_name 0) uo_none (uo_some ue_int)))))) (ua_cons (ue_bin og_add (ue_callB (cg_sum B.calm) (by rfl) T.n_sum boot_sum (ua_cons (ue_v (uf_comp (own := [("_law_cell", 1)]) B.calm sc_deck.nd (ui_any (ue_sl (ue_name 0) uo_none (uo_some ue_int))) (blkOk_by (N := N_deck) (sc := defScope s_deck) (by decide +kernel)) (fun _ _ _ _ _ => (ug_name (i := 1) sc_deck.nd (by decide))) (fun _ _ _ _ _ => uts_nil) (fun _ _ _ _ _ => (ue_bin og_mod (ue_name 1) ue_int)))) ua_nil)) (ue_bin og_mul ue_int (ue_callB cg_len (by rfl) T.n_len PySem.boot_len (ua_cons (ue_sl (ue_name 0) uo_none (uo_some ue_int)) ua_nil)))) (ua_cons ue_int ua_nil))) (few (Nat.le_of_ble_eq_true rfl)) (len_cons (len_cons (len_cons len_nil)))))))
theorem ok_draw (T : Tx K mg) (sm : ∃ o, base.get? sysModules = some o) : FnG P w K mg base 1 T.a_draw T.e_draw ["_law_deck_here", "_law_most"] (spU K mg 2 c_draw) := by
  refine (fun_ok T.F_draw sm sc_draw f_draw fun cdv A outer s H E B => ?_)
  exact (us_cons (us_sub sg_list (ue_bin og_add (ue_ix (ue_name 0) ue_int) ue_int) (ue_name 0) ue_int)
    (us_cons (us_set (i := 2) sc_draw.nd (ue_ix (ue_name 0) ue_int))
    (us_cons (us_if (ut_cmp (og_ne B.room.units) (ue_ix (ue_name 0) ue_int) (ue_v (uf_lst ua_nil (few (Nat.le_of_ble_eq_true rfl)) len_nil))) (us_cons (us_set (i := 2) sc_draw.nd (ue_mt0 isL_ty PySem.F.plainAttrs_list PySem.F.slot_list_pop PySem.F.type_list_pop mg_pop (ue_ix (ue_name 0) ue_int)))
    (us_one (us_if (ut_cmp og_ge (ue_name 2) (ue_bin og_pow ue_int ue_int)) (us_cons (us_expr (ue_mt isL_ty PySem.F.plainAttrs_list PySem.F.slot_list_append PySem.F.type_list_append mg_append (ue_ix (ue_name 0) ue_int) (ua_cons (ue_bin og_div (ue_name 2) (ue_name 1)) ua_nil)))
    (us_one (us_ret (ue_bin og_mod (ue_name 2) (ue_name 1))))) us_nil))) us_nil)
    (us_cons (us_set (i := 3) sc_draw.nd (ue_bin og_mod (ue_bin og_mul (ue_bin og_add (ue_bin og_add (ue_bin og_mod (ue_name 2) ue_int) (ue_bin og_mul ue_int (ue_ix (ue_name 0) ue_int))) ue_int) ue_int) ue_int))
    (us_cons (us_set (i := 3) sc_draw.nd (ue_bin og_mod (ue_bin og_add (ue_bin og_add (ue_bin og_mul (ue_name 3) (ue_name 3)) (ue_bin og_mul ue_int (ue_ix (ue_name 0) ue_int))) ue_int) ue_int))
    (us_one (us_ret (ue_bin og_mod (ue_bin og_div (ue_bin og_mod (ue_bin og_add (ue_bin og_mul (ue_name 3) (ue_name 3)) ue_int) ue_int) ue_int) (ue_name 1)))))))))
theorem ok_pick (T : Tx K mg) (sm : ∃ o, base.get? sysModules = some o) : FnG P w K mg base 2 T.a_pick T.e_pick ["_law_deck_here", "_law_some"] (spU K mg 2 c_pick) := by
  refine (fun_ok T.F_pick sm sc_pick f_pick fun cdv A outer s H E B => ?_)
  exact (us_one (us_ret (ue_ix (ue_name 1) (ue_fn B (ok_draw T B.sm) (by decide) T.g_draw T.F_draw.kp (b_draw_2 T) (ua_cons (ue_name 0) (ua_cons (ue_callB cg_len (by rfl) T.n_len PySem.boot_len (ua_cons (ue_name 1) ua_nil)) ua_nil)) (len_cons (len_cons len_nil))))))
theorem ok_text (T : Tx K mg) (sm : ∃ o, base.get? sysModules = some o) : FnG P w K mg base 3 T.a_text T.e_text ["_law_deck_here"] (spU K mg 1 c_text) := by
  refine FnG.gc (fun_ok T.F_text sm sc_text f_text fun cdv A outer s H E B => ?_)
  exact (us_cons (us_set (i := 1) sc_text.nd (ue_fn B (ok_draw T B.sm) (by decide) T.g_draw T.F_draw.kp (b_draw_2 T) (ua_cons (ue_name 0) (ua_cons ue_int ua_nil)) (len_cons (len_cons len_nil))))
    (us_cons (us_set (i := 2) sc_text.nd (ue_m (uf_lst ua_nil (few (Nat.le_of_ble_eq_true rfl)) len_nil)))
    (us_cons (us_for (vs := [3]) B.po B.calm (ui_range1 (by rfl) T.n_range (ua_cons (ue_ix (ue_v (uf_lst (ua_cons (ue_bin og_add ue_int (ue_fn B (ok_draw T B.sm) (by decide) T.g_draw T.F_draw.kp (b_draw_2 T) (ua_cons (ue_name 0) (ua_cons ue_int ua_nil)) (len_cons (len_cons len_nil)))) (ua_cons ue_int (ua_cons ue_int (ua_cons ue_int ua_nil)))) (few (Nat.le_of_ble_eq_true rfl)) (len_cons (len_cons (len_cons (len_cons len_nil)))))) (ue_name 1)) ua_nil)) (ug_name (i := 3) (vs := [3]) sc_text.nd (by decide))
    (us_cons (us_set (i := 4) sc_text.nd (ue_ix (ue_v (uf_lst (ua_cons (ue_bin og_add ue_int (ue_fn B (ok_draw T B.sm) (by decide) T.g_draw T.F_draw.kp (b_draw_2 T) (ua_cons (ue_name 0) (ua_cons ue_int ua_nil)) (len_cons (len_cons len_nil)))) (ua_cons ue_int (ua_cons ue_int (ua_cons (ue_bin og_add ue_int (ue_fn B (ok_draw T B.sm) (by decide) T.g_draw T.F_draw.kp (b_draw_2 T) (ua_cons (ue_name 0) (ua_cons ue_int ua_nil)) (len_cons (len_cons len_nil)))) ua_nil)))) (few (Nat.le_of_ble_eq_true rfl)) (len_cons (len_cons (len_cons (len_cons len_nil)))))) (ue_name 1)))
    (us_one (us_expr (ue_mt isL_ty PySem.F.plainAttrs_list PySem.F.slot_list_append PySem.F.type_list_append mg_append (ue_name 2) (ua_cons (ue_bin og_add (ue_fn B (ok_pick T B.sm) (by decide) T.g_pick T.F_pick.kp (b_pick_2 T) (ua_cons (ue_name 0) (ua_cons (ue_v (uf_lst (ua_cons ue_str (ua_cons ue_str ua_nil)) (few (Nat.le_of_ble_eq_true rfl)) (len_cons (len_cons len_nil)))) ua_nil)) (len_cons (len_cons len_nil))) (ue_callTy cg_str (by rfl) T.n_str PyProof.Rows.boot_str (ua_cons (ue_name 4) ua_nil))) ua_nil))))))
    (us_cons (us_set (i := 5) sc_text.nd (ue_ix (ue_v (uf_lst (ua_cons (ue_fn B (ok_draw T B.sm) (by decide) T.g_draw T.F_draw.kp (b_draw_2 T) (ua_cons (ue_name 0) (ua_cons ue_int ua_nil)) (len_cons (len_cons len_nil))) (ua_cons ue_int (ua_cons ue_int (ua_cons ue_int ua_nil)))) (few (Nat.le_of_ble_eq_true rfl)) (len_cons (len_cons (len_cons (len_cons len_nil)))))) (ue_name 1)))
    (us_one (us_ret (ue_mt isS_ty PySem.F.plainAttrs_str PySem.F.slot_str_join PySem.F.type_str_join mg_join ue_str (ua_cons (ue_bin og_add (ue_name 2) (ue_v (uf_lst (ua_cons (ue_bin og_add ue_str (ue_callTy cg_str (by rfl) T.n_str PyProof.Rows.boot_str (ua_cons (ue_name 5) ua_nil))) (ua_cons (ue_bin og_add ue_str (ue_callTy cg_str (by rfl) T.n_str PyProof.Rows.boot_str (ua_cons (ue_fn B (ok_draw T B.sm) (by decide) T.g_draw T.F_draw.kp (b_draw_2 T) (ua_cons (ue_name 0) (ua_cons ue_int ua_nil)) (len_cons (len_cons len_nil))) ua_nil))) ua_nil)) (few (Nat.le_of_ble_eq_true rfl)) (len_cons (len_cons len_nil))))) ua_nil))))))))
theorem ok_odd_word (T : Tx K mg) (sm : ∃ o, base.get? sysModules = some o) : FnG P w K mg base 3 T.a_odd_word T.e_odd_word ["_law_deck_here"] (spU K mg 1 c_odd_word) := by
  refine (fun_ok T.F_odd_word sm sc_odd_word f_odd_word fun cdv A outer s H E B => ?_)
  exact (us_cons (us_set (i := 1) sc_odd_word.nd (ue_v (uf_lst (ua_cons ue_str (ua_cons ue_str (ua_cons ue_str (ua_cons ue_str (ua_cons ue_str (ua_cons ue_str (ua_cons ue_str (ua_cons ue_str (ua_cons ue_str (ua_cons ue_str (ua_cons ue_str (ua_cons ue_str (ua_cons ue_str (ua_cons ue_str (ua_cons ue_str (ua_cons ue_str (ua_cons ue_str ua_nil))))))))))))))))) (few (Nat.le_of_ble_eq_true rfl)) (len_cons (len_cons (len_cons (len_cons (len_cons (len_cons (len_cons (len_cons (len_cons (len_cons (len_cons (len_cons (len_cons (len_cons (len_cons (len_cons (len_cons len_nil))))))))))))))))))))
    (us_cons (us_set (i := 1) sc_odd_word.nd (ue_bin og_add (ue_name 1) (ue_v (uf_lst (ua_cons ue_str (ua_cons ue_str (ua_cons ue_str (ua_cons ue_str (ua_cons ue_str (ua_cons ue_str (ua_cons ue_str (ua_cons ue_str (ua_cons ue_str (ua_cons ue_str (ua_cons ue_str (ua_cons ue_str (ua_cons ue_str (ua_cons ue_str (ua_cons ue_str ua_nil))))))))))))))) (few (Nat.le_of_ble_eq_true rfl)) (len_cons (len_cons (len_cons (len_cons (len_cons (len_cons (len_cons (len_cons (len_cons (len_cons (len_cons (len_cons (len_cons (len_cons (len_cons len_nil)))))))))))))))))))
    (us_cons (us_set (i := 1) sc_odd_word.nd (ue_bin og_add (ue_name 1) (ue_v (uf_lst (ua_cons ue_str (ua_cons ue_str ua_nil)) (few (Nat.le_of_ble_eq_true rfl)) (len_cons (len_cons len_nil))))))
    (us_one (us_ret (ue_fn B (ok_pick T B.sm) (by decide) T.g_pick T.F_pick.kp (b_pick_2 T) (ua_cons (ue_name 0) (ua_cons (ue_bin og_add (ue_name 1) (ue_v (uf_lst (ua_cons ue_str (ua_cons ue_str (ua_cons ue_str (ua_cons (ue_bin og_add ue_str (ue_bin og_mulS ue_str ue_int)) (ua_cons ue_str ua_nil))))) (few (Nat.le_of_ble_eq_true rfl)) (len_cons (len_cons (len_cons (len_cons (len_cons len_nil)))))))) ua_nil)) (len_cons (len_cons len_nil))))))))
theorem ok_bent_text (T : Tx K mg) (sm : ∃ o, base.get? sysModules = some o) : FnG P w K mg base 4 T.a_bent_text T.e_bent_text ["_law_deck_here", "_law_own_text"] (spU K mg 2 c_bent_text) := by
  refine (fun_ok T.F_bent_text sm sc_bent_text f_bent_text fun cdv A outer s H E B => ?_)
  exact (us_cons (us_set (i := 2) sc_bent_text.nd (ue_fn B (ok_draw T B.sm) (by decide) T.g_draw T.F_draw.kp (b_draw_2 T) (ua_cons (ue_name 0) (ua_cons ue_int ua_nil)) (len_cons (len_cons len_nil))))
    (us_cons (us_set (i := 3) sc_bent_text.nd (ue_mt isS_ty PySem.F.plainAttrs_str PySem.F.slot_str_split PySem.F.type_str_split mg_split (ue_name 1) (ua_cons ue_str ua_nil)))
    (us_cons (us_par (i := 4) (j := 5) B.calm sc_bent_text.nd (by decide) (ua_cons (ue_fn B (ok_draw T B.sm) (by decide) T.g_draw T.F_draw.kp (b_draw_2 T) (ua_cons (ue_name 0) (ua_cons (ue_callB cg_len (by rfl) T.n_len PySem.boot_len (ua_cons (ue_name 3) ua_nil)) ua_nil)) (len_cons (len_cons len_nil))) (ua_cons (ue_fn B (ok_draw T B.sm) (by decide) T.g_draw T.F_draw.kp (b_draw_2 T) (ua_cons (ue_name 0) (ua_cons (ue_bin og_add (ue_callB cg_len (by rfl) T.n_len PySem.boot_len (ua_cons (ue_name 1) ua_nil)) ue_int) ua_nil)) (len_cons (len_cons len_nil))) ua_nil)) (by rfl))
    (us_cons (us_set (i := 6) sc_bent_text.nd (ue_fn B (ok_pick T B.sm) (by decide) T.g_pick T.F_pick.kp (b_pick_2 T) (ua_cons (ue_name 0) (ua_cons ue_str ua_nil)) (len_cons (len_cons len_nil))))
    (us_cons (us_if (ut_cmp og_lt (ue_name 2) ue_int) (us_one (us_ret (ue_bin og_add (ue_bin og_add (ue_sl (ue_name 1) uo_none (uo_some (ue_name 5))) (ue_ix (ue_v (uf_lst (ua_cons (ue_name 6) (ua_cons (ue_name 6) (ua_cons ue_str ua_nil))) (few (Nat.le_of_ble_eq_true rfl)) (len_cons (len_cons (len_cons len_nil))))) (ue_name 2))) (ue_sl (ue_name 1) (uo_some (ue_bin og_add (ue_name 5) (ue_callTy cg_int (by rfl) T.n_int PyProof.Rows.boot_int (ua_cons (ue_cmp og_gt (ue_name 2) ue_int) ua_nil)))) uo_none)))) us_nil)
    (us_cons (us_if (ut_cmp (og_eq B.room.units) (ue_name 2) ue_int) (us_one (us_set (i := 3) sc_bent_text.nd (ue_bin og_add (ue_sl (ue_name 3) uo_none (uo_some (ue_name 4))) (ue_sl (ue_name 3) (uo_some (ue_bin og_add (ue_name 4) ue_int)) uo_none)))) us_nil)
    (us_cons (us_if (ut_cmp (og_eq B.room.units) (ue_name 2) ue_int) (us_one (us_set (i := 3) sc_bent_text.nd (ue_bin og_add (ue_bin og_add (ue_sl (ue_name 3) uo_none (uo_some (ue_name 4))) (ue_sl (ue_name 3) (uo_some (ue_name 4)) (uo_some (ue_bin og_add (ue_name 4) ue_int)))) (ue_sl (ue_name 3) (uo_some (ue_name 4)) uo_none)))) us_nil)
    (us_cons (us_if (ut_cmp (og_eq B.room.units) (ue_name 2) ue_int) (us_one (us_set (i := 3) sc_bent_text.nd (ue_bin og_add (ue_bin og_add (ue_sl (ue_name 3) uo_none (uo_some (ue_name 4))) (ue_revA (ue_sl (ue_name 3) (uo_some (ue_name 4)) (uo_some (ue_bin og_add (ue_name 4) ue_int))))) (ue_sl (ue_name 3) (uo_some (ue_bin og_add (ue_name 4) ue_int)) uo_none)))) us_nil)
    (us_cons (us_if (ut_w (uw_and (ut_cmp og_gt (ue_name 2) ue_int) (uw_and1 (ut_cmp og_lt (ue_name 2) ue_int)))) (us_one (us_set (i := 3) sc_bent_text.nd (ue_bin og_add (ue_bin og_add (ue_sl (ue_name 3) uo_none (uo_some (ue_name 4))) (ue_v (uf_lst (ua_cons (ue_fn B (ok_odd_word T B.sm) (by decide) T.g_odd_word T.F_odd_word.kp (b_odd_word_1 T) (ua_cons (ue_name 0) ua_nil) (len_cons len_nil)) ua_nil) (few (Nat.le_of_ble_eq_true rfl)) (len_cons len_nil)))) (ue_sl (ue_name 3) (uo_some (ue_bin og_add (ue_name 4) ue_int)) uo_none)))) us_nil)
    (us_cons (us_if (ut_cmp (og_eq B.room.units) (ue_name 2) ue_int) (us_one (us_ret (ue_ix (ue_v (uf_lst (ua_cons (ue_bin og_add ue_str (ue_name 1)) (ua_cons (ue_bin og_add (ue_name 1) ue_str) (ua_cons (ue_bin og_add (ue_name 1) ue_str) (ua_cons (ue_mt0 isS_ty PySem.F.plainAttrs_str PySem.F.slot_str_upper PySem.F.type_str_upper mg_upper (ue_name 1)) (ua_cons (ue_bin og_add (ue_bin og_add ue_str (ue_name 1)) ue_str) ua_nil))))) (few (Nat.le_of_ble_eq_true rfl)) (len_cons (len_cons (len_cons (len_cons (len_cons len_nil))))))) (ue_bin og_mod (ue_name 4) ue_int)))) us_nil)
    (us_one (us_ret (ue_mt isS_ty PySem.F.plainAttrs_str PySem.F.slot_str_join PySem.F.type_str_join mg_join ue_str (ua_cons (ue_name 3) ua_nil))))))))))))))
theorem ok_due (T : Tx K mg) (sm : ∃ o, base.get? sysModules = some o) : FnG P w K mg base 1 T.a_due T.e_due ["_law_own_text"] (spU K mg 1 c_due) := by
  refine FnG.gc (fun_ok T.F_due sm sc_due f_due fun cdv A outer s H E B => ?_)
  exact (us_cons (us_if (ut_not (ut_truth (ue_callB cg_isi (by rfl) T.n_isinstance bt_isi (ua_cons (ue_name 0) (ua_cons (ue_ty (t := .str) (by rfl) T.n_str bt_str) ua_nil))))) (us_one (us_ret ue_non)) us_nil)
    (us_cons (us_set (i := 1) sc_due.nd (ue_mt isS_ty PySem.F.plainAttrs_str PySem.F.slot_str_split PySem.F.type_str_split mg_split (ue_name 0) (ua_cons ue_str ua_nil)))
    (us_cons (us_set (i := 2) sc_due.nd ue_d0k)
    (us_cons (us_for (vs := [3]) B.po B.calm (ui_range2 (by rfl) T.n_range (ua_cons ue_int (ua_cons ue_int ua_nil))) (ug_name (i := 3) (vs := [3]) sc_due.nd (by decide))
    (us_cons (us_sub (sg_any (u1 B.room)) (ue_tup (ua_cons ue_str (ua_cons (ue_name 3) ua_nil)) (few (Nat.le_of_ble_eq_true rfl)) (len_cons (len_cons len_nil))) (ue_name 2) (ue_bin og_add ue_str (ue_callTy cg_str (by rfl) T.n_str PyProof.Rows.boot_str (ua_cons (ue_name 3) ua_nil))))
    (us_one (us_sub (sg_any (u1 B.room)) (ue_tup (ua_cons ue_str (ua_cons (ue_name 3) ua_nil)) (few (Nat.le_of_ble_eq_true rfl)) (len_cons (len_cons len_nil))) (ue_name 2) (ue_bin og_add ue_str (ue_callTy cg_str (by rfl) T.n_str PyProof.Rows.boot_str (ua_cons (ue_name 3) ua_nil)))))))
    (us_cons (us_set (i := 4) sc_due.nd (ue_dictP B.calm (by rfl) T.n_dict (uf_comp (own := [("_law_k", 3)]) B.calm sc_due.nd (ui_range1 (by rfl) T.n_range (ua_cons ue_int ua_nil)) (blkOk_by (N := N_due) (sc := defScope s_due) (by decide +kernel)) (fun _ _ _ _ _ => (ug_name (i := 3) sc_due.nd (by decide))) (fun _ _ _ _ _ => uts_nil) (fun _ _ _ _ _ => (ue_tup (ua_cons (ue_bin og_add ue_str (ue_callTy cg_str (by rfl) T.n_str PyProof.Rows.boot_str (ua_cons (ue_name 3) ua_nil))) (ua_cons (ue_name 3) ua_nil)) (few (Nat.le_of_ble_eq_true rfl)) (len_cons (len_cons len_nil)))))))
    (us_cons (us_set (i := 5) sc_due.nd (ue_disp (ups_cons ue_str ue_int (ups_cons ue_str ue_int (ups_cons ue_str ue_int ups_nil)))))
    (us_cons (us_if (ut_w (uw_or (ut_not (ut_chain og_le og_le ue_int (ue_callB cg_len (by rfl) T.n_len PySem.boot_len (ua_cons (ue_name 1) ua_nil)) ue_int)) (uw_or1 (ut_cmp (og_neL B.room.units) (ue_v (uf_comp (own := [("_law_word", 6)]) B.calm sc_due.nd (ui_any (ue_sl (ue_name 1) uo_none (uo_some (ue_neg ue_int)))) (blkOk_by (N := N_due) (sc := defScope s_due) (by decide +kernel)) (fun _ _ _ _ _ => (ug_name (i := 6) sc_due.nd (by decide))) (fun _ _ _ _ _ => (uts_one (ut_cmp (og_notinA (u65 B.blk.room)) (ue_name 6) (ue_name 2)))) (fun _ _ _ _ _ => (ue_name 6)))) (ue_v (uf_lst ua_nil (few (Nat.le_of_ble_eq_true rfl)) len_nil)))))) (us_one (us_ret ue_non)) us_nil)
    (us_cons (us_if (ut_w (uw_or (ut_cmp (og_notinA (u65 B.room)) (ue_ix (ue_name 1) (ue_neg ue_int)) (ue_name 4)) (uw_or1 (ut_cmp (og_notinA (u65 B.room)) (ue_ix (ue_name 1) (ue_neg ue_int)) (ue_name 5))))) (us_one (us_ret ue_non)) us_nil)
    (us_one (us_ret (ue_tup (ua_cons (ue_callTy cg_tuple (by rfl) T.n_tuple PyProof.Rows.boot_tuple (ua_cons (ue_v (uf_comp (own := [("_law_word", 6)]) B.calm sc_due.nd (ui_any (ue_sl (ue_name 1) uo_none (uo_some (ue_neg ue_int)))) (blkOk_by (N := N_due) (sc := defScope s_due) (by decide +kernel)) (fun _ _ _ _ _ => (ug_name (i := 6) sc_due.nd (by decide))) (fun _ _ _ _ _ => uts_nil) (fun _ _ _ _ _ => (ue_dget (u1 B.blk.room) (ue_name 2) (ue_name 6))))) ua_nil)) (ua_cons (ue_dget (u1 B.room) (ue_name 4) (ue_ix (ue_name 1) (ue_neg ue_int))) (ua_cons (ue_dget (u1 B.room) (ue_name 5) (ue_ix (ue_name 1) (ue_neg ue_int))) ua_nil))) (few (Nat.le_of_ble_eq_true rfl)) (len_cons (len_cons (len_cons len_nil))))))))))))))
theorem okC_is_alone (T : Tx K mg) (sm : ∃ o, base.get? sysModules = some o) : FnC P w K mg base 1 T.a_is_alone T.e_is_alone ["_law_e"] (spU K mg 1 c_is_alone) := by
  refine (fun_okC T.F_is_alone sm sc_is_alone f_is_alone fun cdv A outer s H E B => ?_)
  exact (us_cons (us_set (i := 1) sc_is_alone.nd (ue_isE T.xi_0 T.n_isinstance (ue_name 0) (.tup (pac_cons (cn_own T.gx_Breaks) (pac_cons (cn_own T.gx_NoCut) (pac_cons (cn_own T.gx_NoDeed) (pac_cons (cn_own T.gx_NoGlove) (pac_cons (cn_own T.gx_NoLot) (pac_cons (cn_own T.gx_NoMoment) (pac_cons (cn_own T.gx_NoOrder) (pac_cons (cn_own T.gx_NoPairs) (pac_cons (cn_own T.gx_NoResult) pac_nil))))))))) (few (Nat.le_of_ble_eq_true rfl)))))
    (us_cons (us_set (i := 1) sc_is_alone.nd (ue_or (ue_name 1) (ue_one (ue_isE T.xi_1 T.n_isinstance (ue_name 0) (.tup (pac_cons (cn_own T.gx_NoRow) (pac_cons (cn_own T.gx_NoSkin) (pac_cons (cn_own T.gx_NoTable) (pac_cons (cn_own T.gx_Taken) (pac_cons (cn_own T.gx_Told) pac_nil))))) (few (Nat.le_of_ble_eq_true rfl)))))))
    (us_one (us_ret (ue_and (ue_isE T.xi_2 T.n_isinstance (ue_name 0) (.one (cn_own T.gx_NoText))) (ue_and (ue_isE T.xi_3 T.n_isinstance (ue_name 0) (.one (cn_ty T.n_LookupError (by decide +kernel)))) (ue_one (ue_not (ue_name 1)))))))))
theorem ok_Skin_str (T : Tx K mg) (sm : ∃ o, base.get? sysModules = some o) : FnG P w K mg base 3 T.a_Skin_str T.e_Skin_str ["self"] (spU K mg 1 c_Skin_str) := by
  refine (fun_ok T.F_Skin_str sm sc_Skin_str f_Skin_str fun cdv A outer s H E B => ?_)
  exact (us_cons (us_setC (own := [("zone", 2)]) (i := 1) false B.calm sc_Skin_str.nd (ui_any (ue_fld T.fl_zones (ue_name 0))) (blkOk_by (N := N_Skin_str) (sc := defScope s_Skin_str) (by decide +kernel)) (sw_true rfl rfl rfl (by decide +kernel)) (fun _ _ _ _ _ => (ug_name (i := 2) sc_Skin_str.nd (by decide))) (fun _ _ _ _ _ => uts_nil) (fun _ _ _ _ _ => (ue_fn B.blk (ok_zone_word T B.sm) (by decide) T.g_zone_word T.F_zone_word.kp (b_zone_word_1 T) (ua_cons (ue_name 2) ua_nil) (len_cons len_nil))))
    (us_one (us_ret (ue_mt isS_ty PySem.F.plainAttrs_str PySem.F.slot_str_join PySem.F.type_str_join mg_join ue_str (ua_cons (ue_bin og_add (ue_name 1) (ue_v (uf_lst (ua_cons (ue_bin og_add ue_str (ue_callTy cg_str (by rfl) T.n_str PyProof.Rows.boot_str (ua_cons (ue_fld T.fl_stretch (ue_name 0)) ua_nil))) (ua_cons (ue_bin og_add ue_str (ue_callTy cg_str (by rfl) T.n_str PyProof.Rows.boot_str (ua_cons (ue_fld T.fl_grade (ue_name 0)) ua_nil))) ua_nil)) (few (Nat.le_of_ble_eq_true rfl)) (len_cons (len_cons len_nil))))) ua_nil)))))
theorem ok_Skin_eq (T : Tx K mg) (sm : ∃ o, base.get? sysModules = some o) : FnG P w K mg base 1 T.a_Skin_eq T.e_Skin_eq ["self", "other"] (spU K mg 2 c_Skin_eq) := by
  refine (fun_ok T.F_Skin_eq sm sc_Skin_eq f_Skin_eq fun cdv A outer s H E B => ?_)
  exact (us_cons (us_if (ut_not (ut_truth (ue_isO2 T.io_Skin T.on_Skin T.n_isinstance (ue_name 1) (cn_own T.gC_Skin)))) (us_one (us_ret ue_bl)) us_nil)
    (us_one (us_ret (ue_and (ue_cmp (og_eq B.room.units) (ue_fld T.fl_zones (ue_name 0)) (ue_fld T.fl_zones (ue_name 1))) (ue_and (ue_cmp (og_eq B.room.units) (ue_fld T.fl_stretch (ue_name 0)) (ue_fld T.fl_stretch (ue_name 1))) (ue_one (ue_cmp (og_eq B.room.units) (ue_fld T.fl_grade (ue_name 0)) (ue_fld T.fl_grade (ue_name 1)))))))))
theorem ok_Skin_len (T : Tx K mg) (sm : ∃ o, base.get? sysModules = some o) : FnG P w K mg base 1 T.a_Skin_len T.e_Skin_len ["self"] (spU K mg 1 c_Skin_len) := by
  refine (fun_ok T.F_Skin_len sm sc_Skin_len f_Skin_len fun cdv A outer s H E B => ?_)
  exact (us_one (us_ret (ue_callB cg_len (by rfl) T.n_len PySem.boot_len (ua_cons (ue_fld T.fl_zones (ue_name 0)) ua_nil))))
theorem ok_is_so (T : Tx K mg) (sm : ∃ o, base.get? sysModules = some o) : FnG P w K mg base 6 T.a_is_so T.e_is_so ["_law_thing"] (spU K mg 1 c_is_so) := by
  refine (fun_ok T.F_is_so sm sc_is_so f_is_so fun cdv A outer s H E B => ?_)
  exact (us_cons (us_set (i := 1) sc_is_so.nd (ue_fn B (ok_due T B.sm) (by decide) T.g_due T.F_due.kp (b_due_1 T) (ua_cons (ue_name 0) ua_nil) (len_cons len_nil)))
    (us_cons (us_set (i := 2) sc_is_so.nd ue_non)
    (us_cons (us_set (i := 3) sc_is_so.nd ue_bl)
    (us_cons (us_try (i := 4) rfl rfl sc_is_so.nd B.tk ⟨rfl, by decide, .inl T.gx_GloveError⟩ T.ct_GloveError (fun W pn xe tk po => (us_one (us_set (i := 2) sc_is_so.nd (ue_fnK0 (Bd.tr B tk po) (ok_read_skin T B.sm) (by decide) T.g_read_skin T.F_read_skin.kp (b_read_skin_0_text T) (uk_cons (ue_name 0) uk_nil) (len_cons len_nil)))))
    (fun a pn => (us_one (us_set (i := 3) sc_is_so.nd (ue_fnC (Bd.suC B a pn) (okC_is_alone T B.sm) (by decide) T.g_is_alone T.F_is_alone.kp (b_is_alone_1 T) (ua_cons (ue_name 4) ua_nil) (len_cons len_nil))))))
    (us_cons (us_if (ut_w (uw_or (ut_cmp og_is (ue_name 1) ue_non) (uw_or1 (ut_truth (ue_name 3))))) (us_one (us_ret (ue_and (ue_cmp og_is (ue_name 1) ue_non) (ue_one (ue_name 3))))) us_nil)
    (us_cons (us_if (ut_w (uw_or (ut_not (ut_truth (ue_isO2 T.io_Skin T.on_Skin T.n_isinstance (ue_name 2) (cn_own T.gC_Skin)))) (uw_or1 (ut_cmp (og_ne B.room.units) (ue_callB (cg_reprA B.gd B.room.units B.sm) (by rfl) T.n_repr boot_repr (ua_cons (ue_tup (ua_cons (ue_fld T.fl_zones (ue_name 2)) (ua_cons (ue_fld T.fl_stretch (ue_name 2)) (ua_cons (ue_fld T.fl_grade (ue_name 2)) ua_nil))) (few (Nat.le_of_ble_eq_true rfl)) (len_cons (len_cons (len_cons len_nil)))) ua_nil)) (ue_callB (cg_reprA B.gd B.room.units B.sm) (by rfl) T.n_repr boot_repr (ua_cons (ue_name 1) ua_nil)))))) (us_one (us_ret ue_bl)) us_nil)
    (us_one (us_ret (ue_and (ue_cmp (og_eq B.room.units) (ue_ostr B T.sp_Skin_str (ok_Skin_str T B.sm) (by decide) (b_Skin_str_1 T) T.n_str (ua_cons (ue_name 2) ua_nil)) (ue_name 0)) (ue_and (ue_cmp og_is (ue_cmp (og_oeq T.eq_Skin (ok_Skin_eq T B.sm) (B.room.mono (by decide)) B.gd (b_Skin_eq_2 T)) (ue_name 2) (ue_gc (ue_mkD B T.mk_Skin T.iC_Skin (ok_Skin_init T B.sm) (by decide) T.gC_Skin (b_Skin_init_4 T) (fun _ _ => (.cons (.int _) (.cons (.int _) .nil))) (ua_cons (ue_ix (ue_name 1) ue_int) (ua_cons (ue_ix (ue_name 1) ue_int) (ua_cons (ue_ix (ue_name 1) ue_int) ua_nil))) uk_nil (by exact (len_cons (len_cons (len_cons len_nil)))) (by exact len_nil)))) ue_bl) (ue_one (ue_cmp (og_eq B.room.units) (ue_olen B T.sp_Skin_len (ok_Skin_len T B.sm) (by decide) (b_Skin_len_1 T) T.n_len (ua_cons (ue_name 2) ua_nil)) (ue_callB cg_len (by rfl) T.n_len PySem.boot_len (ua_cons (ue_ix (ue_name 1) ue_int) ua_nil))))))))))))))
theorem ok_law (T : Tx K mg) (sm : ∃ o, base.get? sysModules = some o) : FnG P w K mg base 7 T.a_law T.e_law ["_law_script"] (spU K mg 1 c_law) := by
  refine (fun_ok T.F_law sm sc_law f_law fun cdv A outer s H E B => ?_)
  exact (us_cons (us_set (i := 1) sc_law.nd (ue_fn B (ok_deck T B.sm) (by decide) T.g_deck T.F_deck.kp (b_deck_1 T) (ua_cons (ue_name 0) ua_nil) (len_cons len_nil)))
    (us_cons (us_for (vs := [2]) B.po B.calm (ui_range1 (by rfl) T.n_range (ua_cons ue_int ua_nil)) (ug_name (i := 2) (vs := [2]) sc_law.nd (by decide))
    (us_cons (us_setC (own := [("_law_k", 8)]) (i := 3) false B.calm sc_law.nd (ui_range1 (by rfl) T.n_range (ua_cons ue_int ua_nil)) (blkOk_by (N := N_law) (sc := defScope s_law) (by decide +kernel)) (sw_true rfl rfl rfl (by decide +kernel)) (fun _ _ _ _ _ => (ug_name (i := 8) sc_law.nd (by decide))) (fun _ _ _ _ _ => uts_nil) (fun _ _ _ _ _ => (ue_fn B.blk (ok_draw T B.sm) (by decide) T.g_draw T.F_draw.kp (b_draw_2 T) (ua_cons (ue_name 1) (ua_cons ue_int ua_nil)) (len_cons (len_cons len_nil)))))
    (us_cons (us_set (i := 4) sc_law.nd (ue_fn B (ok_text T B.sm) (by decide) T.g_text T.F_text.kp (b_text_1 T) (ua_cons (ue_name 1) ua_nil) (len_cons len_nil)))
    (us_one (us_for (vs := [5]) B.po B.calm (ui_any (ue_name 3)) (ug_name (i := 5) (vs := [5]) sc_law.nd (by decide))
    (us_cons (us_set (i := 6) sc_law.nd (ue_fn B (ok_bent_text T B.sm) (by decide) T.g_bent_text T.F_bent_text.kp (b_bent_text_2 T) (ua_cons (ue_name 1) (ua_cons (ue_name 4) ua_nil)) (len_cons (len_cons len_nil))))
    (us_cons (us_if (ut_cmp (og_eq B.room.units) (ue_name 5) ue_int) (us_one (us_set (i := 6) sc_law.nd (ue_fn B (ok_bent_text T B.sm) (by decide) T.g_bent_text T.F_bent_text.kp (b_bent_text_2 T) (ua_cons (ue_name 1) (ua_cons (ue_name 6) ua_nil)) (len_cons (len_cons len_nil))))) us_nil)
    (us_one (us_if (ut_w (uw_or (ut_not (ut_truth (ue_fn B (ok_is_so T B.sm) (by decide) T.g_is_so T.F_is_so.kp (b_is_so_1 T) (ua_cons (ue_name 6) ua_nil) (len_cons len_nil)))) (uw_or1 (ut_not (ut_truth (ue_fn B (ok_is_so T B.sm) (by decide) T.g_is_so T.F_is_so.kp (b_is_so_1 T) (ua_cons (ue_name 4) ua_nil) (len_cons len_nil))))))) (us_one (us_ret ue_bl)) us_nil)))))))))
    (us_cons (us_set (i := 7) sc_law.nd (ue_v (uf_lst (ua_cons ue_str (ua_cons ue_str (ua_cons ue_str (ua_cons ue_str (ua_cons ue_str (ua_cons ue_str (ua_cons ue_str (ua_cons ue_str (ua_cons ue_str (ua_cons ue_str ua_nil)))))))))) (few (Nat.le_of_ble_eq_true rfl)) (len_cons (len_cons (len_cons (len_cons (len_cons (len_cons (len_cons (len_cons (len_cons (len_cons len_nil)))))))))))))
    (us_cons (us_set (i := 7) sc_law.nd (ue_bin og_add (ue_name 7) (ue_v (uf_lst (ua_cons (ue_bin og_add (ue_bin og_add ue_str (ue_bin og_mulS ue_str ue_int)) ue_str) (ua_cons (ue_bin og_add (ue_bin og_add ue_str (ue_bin og_mulS ue_str ue_int)) ue_str) (ua_cons ue_str (ua_cons ue_str ua_nil)))) (few (Nat.le_of_ble_eq_true rfl)) (len_cons (len_cons (len_cons (len_cons len_nil))))))))
    (us_cons (us_set (i := 7) sc_law.nd (ue_bin og_add (ue_name 7) (ue_v (uf_lst (ua_cons ue_non (ua_cons ue_bl (ua_cons ue_int (ua_cons ue_int (ua_cons (ue_tup ua_nil (few (Nat.le_of_ble_eq_true rfl)) len_nil) (ua_cons (ue_tup (ua_cons ue_str (ua_cons ue_str (ua_cons ue_str ua_nil))) (few (Nat.le_of_ble_eq_true rfl)) (len_cons (len_cons (len_cons len_nil)))) (ua_cons (ue_v (uf_lst ua_nil (few (Nat.le_of_ble_eq_true rfl)) len_nil)) (ua_cons (ue_v (uf_lst (ua_cons ue_str ua_nil) (few (Nat.le_of_ble_eq_true rfl)) (len_cons len_nil))) (ua_cons ue_d0 (ua_cons (ue_disp (ups_cons ue_str ue_int ups_nil)) (ua_cons (ue_tup (ua_cons (ue_tup (ua_cons ue_str (ua_cons ue_int ua_nil)) (few (Nat.le_of_ble_eq_true rfl)) (len_cons (len_cons len_nil))) ua_nil) (few (Nat.le_of_ble_eq_true rfl)) (len_cons len_nil)) ua_nil))))))))))) (few (Nat.le_of_ble_eq_true rfl)) (len_cons (len_cons (len_cons (len_cons (len_cons (len_cons (len_cons (len_cons (len_cons (len_cons (len_cons len_nil)))))))))))))))
    (us_one (us_ret (ue_cmp (og_eqL B.room.units) (ue_v (uf_comp (own := [("_law_thing", 6)]) B.calm sc_law.nd (ui_any (ue_name 7)) (blkOk_by (N := N_law) (sc := defScope s_law) (by decide +kernel)) (fun _ _ _ _ _ => (ug_name (i := 6) sc_law.nd (by decide))) (fun _ _ _ _ _ => (uts_one (ut_not (ut_truth (ue_fn B.blk (ok_is_so T B.sm) (by decide) T.g_is_so T.F_is_so.kp (b_is_so_1 T) (ua_cons (ue_name 6) ua_nil) (len_cons len_nil)))))) (fun _ _ _ _ _ => (ue_name 6)))) (ue_v (uf_lst ua_nil (few (Nat.le_of_ble_eq_true rfl)) len_nil))))))))))
end
theorem all_mk {P : Program} {w : World} {K : PySem.W.Frag} {h : Heap} {mg : Str → Option Value} {fa : Addr} (X : K.In h) (Gn : h.Ns mainGlobals mg) (hfa : mg "law" = some (.ref fa))
    {C_Skin : Addr}
    {p_sign_of : Addr} {o1_sign_of o2_sign_of : Option Addr} {o3_sign_of : Array (Option Value)} {w1_sign_of w2_sign_of w3_sign_of w4_sign_of w5_sign_of w6_sign_of : Value}
    {p_zone_word : Addr} {o1_zone_word o2_zone_word : Option Addr} {o3_zone_word : Array (Option Value)} {w1_zone_word w2_zone_word w3_zone_word w4_zone_word w5_zone_word w6_zone_word : Value}
    {p_number_behind : Addr} {o1_number_behind o2_number_behind : Option Addr} {o3_number_behind : Array (Option Value)} {w1_number_behind w2_number_behind w3_number_behind w4_number_behind w5_number_behind w6_number_behind : Value}
    {p_zone_read : Addr} {o1_zone_read o2_zone_read : Option Addr} {o3_zone_read : Array (Option Value)} {w1_zone_read w2_zone_read w3_zone_read w4_zone_read w5_zone_read w6_zone_read : Value}
    {p_Skin_init : Addr} {o1_Skin_init o2_Skin_init : Option Addr} {o3_Skin_init : Array (Option Value)} {w1_Skin_init w2_Skin_init w3_Skin_init w4_Skin_init w5_Skin_init w6_Skin_init : Value}
    {q_Skin_init : Addr} {r1_Skin_init : Option Addr} {r2_Skin_init : Array (Option Value)} {r3_Skin_init : Nat} {t0_Skin_init t1_Skin_init : Tok}
    {p_read_skin : Addr} {o1_read_skin o2_read_skin : Option Addr} {o3_read_skin : Array (Option Value)} {w1_read_skin w2_read_skin w3_read_skin w4_read_skin w5_read_skin w6_read_skin : Value}
    {p_deck : Addr} {o1_deck o2_deck : Option Addr} {o3_deck : Array (Option Value)} {w1_deck w2_deck w3_deck w4_deck w5_deck w6_deck : Value}
    {p_draw : Addr} {o1_draw o2_draw : Option Addr} {o3_draw : Array (Option Value)} {w1_draw w2_draw w3_draw w4_draw w5_draw w6_draw : Value}
    {p_pick : Addr} {o1_pick o2_pick : Option Addr} {o3_pick : Array (Option Value)} {w1_pick w2_pick w3_pick w4_pick w5_pick w6_pick : Value}
    {p_text : Addr} {o1_text o2_text : Option Addr} {o3_text : Array (Option Value)} {w1_text w2_text w3_text w4_text w5_text w6_text : Value}
    {p_odd_word : Addr} {o1_odd_word o2_odd_word : Option Addr} {o3_odd_word : Array (Option Value)} {w1_odd_word w2_odd_word w3_odd_word w4_odd_word w5_odd_word w6_odd_word : Value}
    {p_bent_text : Addr} {o1_bent_text o2_bent_text : Option Addr} {o3_bent_text : Array (Option Value)} {w1_bent_text w2_bent_text w3_bent_text w4_bent_text w5_bent_text w6_bent_text : Value}
    {p_due : Addr} {o1_due o2_due : Option Addr} {o3_due : Array (Option Value)} {w1_due w2_due w3_due w4_due w5_due w6_due : Value}
    {p_is_alone : Addr} {o1_is_alone o2_is_alone : Option Addr} {o3_is_alone : Array (Option Value)} {w1_is_alone w2_is_alone w3_is_alone w4_is_alone w5_is_alone w6_is_alone : Value}
    {p_Skin_str : Addr} {o1_Skin_str o2_Skin_str : Option Addr} {o3_Skin_str : Array (Option Value)} {w1_Skin_str w2_Skin_str w3_Skin_str w4_Skin_str w5_Skin_str w6_Skin_str : Value}
    {p_Skin_eq : Addr} {o1_Skin_eq o2_Skin_eq : Option Addr} {o3_Skin_eq : Array (Option Value)} {w1_Skin_eq w2_Skin_eq w3_Skin_eq w4_Skin_eq w5_Skin_eq w6_Skin_eq : Value}
    {p_Skin_len : Addr} {o1_Skin_len o2_Skin_len : Option Addr} {o3_Skin_len : Array (Option Value)} {w1_Skin_len w2_Skin_len w3_Skin_len w4_Skin_len w5_Skin_len w6_Skin_len : Value}
    {p_is_so : Addr} {o1_is_so o2_is_so : Option Addr} {o3_is_so : Array (Option Value)} {w1_is_so w2_is_so w3_is_so w4_is_so w5_is_so w6_is_so : Value}
    {p_law : Addr} {o1_law o2_law : Option Addr} {o3_law : Array (Option Value)} {w1_law w2_law w3_law w4_law w5_law w6_law : Value}
    {x_NoText : Addr}
    {x_Breaks : Addr}
    {x_NoCut : Addr}
    {x_NoDeed : Addr}
    {x_NoGlove : Addr}
    {x_NoLot : Addr}
    {x_NoMoment : Addr}
    {x_NoOrder : Addr}
    {x_NoPairs : Addr}
    {x_NoResult : Addr}
    {x_NoRow : Addr}
    {x_NoSkin : Addr}
    {x_NoTable : Addr}
    {x_Taken : Addr}
    {x_Told : Addr}
    {x_GloveError : Addr}
    {t_ACROSS : Tok}
    {t_ALONG : Tok}
    {t_FIGURES : Tok}
    {t_MOST_GRADE : Tok}
    {t_MOST_LENGTH : Tok}
    {t_MOST_STRETCH : Tok}
    {t_MOST_ZONES : Tok}
    (haC_Skin : PySem.W.nsIn K mainGlobals "Skin" = some (some (.ref C_Skin)))
    (hpg_Skin : PySem.W.plainGet K C_Skin Str.empty = true)
    (hhd_Skin : PySem.W.hasDictIn K C_Skin = true)
    (hpo_Skin : PySem.W.plainOver K C_Skin = true)
    (hsa_Skin : PySem.W.findIn K (.ref C_Skin) "__setattr__" = some (some (.builtin "object.__setattr__")))
    (hmk_Skin : PySem.W.makesIn K C_Skin = true)
    (hkC_Skin : PySem.W.keepIn K (.ref C_Skin) = true)
    (hnf_Skin_zones : PySem.W.findIn K (.ref C_Skin) "zones" = some none)
    (hnf_Skin_stretch : PySem.W.findIn K (.ref C_Skin) "stretch" = some none)
    (hnf_Skin_grade : PySem.W.findIn K (.ref C_Skin) "grade" = some none)
    (ha_sign_of : PySem.W.nsIn K mainGlobals "sign_of" = some (some (.ref p_sign_of)))
    (hl_sign_of : K.lookup p_sign_of = some ⟨w1_sign_of, o1_sign_of, .func (PySem.W.fnOf "sign_of" "sign_of" (defArgs s_sign_of) (defBody s_sign_of) (defScope s_sign_of) .none w2_sign_of w3_sign_of w4_sign_of o2_sign_of w5_sign_of w6_sign_of), o3_sign_of⟩)
    (hc_sign_of : PySem.W.codeIn K w5_sign_of "sign_of" = true)
    (hk_sign_of : PySem.W.keepIn K (.ref p_sign_of) = true)
    (ha_zone_word : PySem.W.nsIn K mainGlobals "zone_word" = some (some (.ref p_zone_word)))
    (hl_zone_word : K.lookup p_zone_word = some ⟨w1_zone_word, o1_zone_word, .func (PySem.W.fnOf "zone_word" "zone_word" (defArgs s_zone_word) (defBody s_zone_word) (defScope s_zone_word) .none w2_zone_word w3_zone_word w4_zone_word o2_zone_word w5_zone_word w6_zone_word), o3_zone_word⟩)
    (hc_zone_word : PySem.W.codeIn K w5_zone_word "zone_word" = true)
    (hk_zone_word : PySem.W.keepIn K (.ref p_zone_word) = true)
    (ha_number_behind : PySem.W.nsIn K mainGlobals "number_behind" = some (some (.ref p_number_behind)))
    (hl_number_behind : K.lookup p_number_behind = some ⟨w1_number_behind, o1_number_behind, .func (PySem.W.fnOf "number_behind" "number_behind" (defArgs s_number_behind) (defBody s_number_behind) (defScope s_number_behind) .none w2_number_behind w3_number_behind w4_number_behind o2_number_behind w5_number_behind w6_number_behind), o3_number_behind⟩)
    (hc_number_behind : PySem.W.codeIn K w5_number_behind "number_behind" = true)
    (hk_number_behind : PySem.W.keepIn K (.ref p_number_behind) = true)
    (ha_zone_read : PySem.W.nsIn K mainGlobals "zone_read" = some (some (.ref p_zone_read)))
    (hl_zone_read : K.lookup p_zone_read = some ⟨w1_zone_read, o1_zone_read, .func (PySem.W.fnOf "zone_read" "zone_read" (defArgs s_zone_read) (defBody s_zone_read) (defScope s_zone_read) .none w2_zone_read w3_zone_read w4_zone_read o2_zone_read w5_zone_read w6_zone_read), o3_zone_read⟩)
    (hc_zone_read : PySem.W.codeIn K w5_zone_read "zone_read" = true)
    (hk_zone_read : PySem.W.keepIn K (.ref p_zone_read) = true)
    (ha_Skin_init : PySem.W.findIn K (.ref C_Skin) "__init__" = some (some (.ref p_Skin_init)))
    (hi_Skin_init : PySem.W.isFn K (.ref p_Skin_init) = true)
    (hl_Skin_init : K.lookup p_Skin_init = some ⟨w1_Skin_init, o1_Skin_init, .func (PySem.W.fnOf "__init__" "Skin.__init__" (defArgs s_Skin_init) (defBody s_Skin_init) (defScope s_Skin_init) (.ref q_Skin_init) w2_Skin_init w3_Skin_init w4_Skin_init o2_Skin_init w5_Skin_init w6_Skin_init), o3_Skin_init⟩)
    (hd_Skin_init : K.lookup q_Skin_init = some ⟨.type "tuple", r1_Skin_init, .seq #[(.int 0 t0_Skin_init), (.int 0 t1_Skin_init)] r3_Skin_init, r2_Skin_init⟩)
    (hc_Skin_init : PySem.W.codeIn K w5_Skin_init "Skin.__init__" = true)
    (hk_Skin_init : PySem.W.keepIn K (.ref p_Skin_init) = true)
    (ha_read_skin : PySem.W.nsIn K mainGlobals "read_skin" = some (some (.ref p_read_skin)))
    (hl_read_skin : K.lookup p_read_skin = some ⟨w1_read_skin, o1_read_skin, .func (PySem.W.fnOf "read_skin" "read_skin" (defArgs s_read_skin) (defBody s_read_skin) (defScope s_read_skin) .none w2_read_skin w3_read_skin w4_read_skin o2_read_skin w5_read_skin w6_read_skin), o3_read_skin⟩)
    (hc_read_skin : PySem.W.codeIn K w5_read_skin "read_skin" = true)
    (hk_read_skin : PySem.W.keepIn K (.ref p_read_skin) = true)
    (ha_deck : PySem.W.nsIn K mainGlobals "_law_deck" = some (some (.ref p_deck)))
    (hl_deck : K.lookup p_deck = some ⟨w1_deck, o1_deck, .func (PySem.W.fnOf "_law_deck" "_law_deck" (defArgs s_deck) (defBody s_deck) (defScope s_deck) .none w2_deck w3_deck w4_deck o2_deck w5_deck w6_deck), o3_deck⟩)
    (hc_deck : PySem.W.codeIn K w5_deck "_law_deck" = true)
    (hk_deck : PySem.W.keepIn K (.ref p_deck) = true)
    (ha_draw : PySem.W.nsIn K mainGlobals "_law_draw" = some (some (.ref p_draw)))
    (hl_draw : K.lookup p_draw = some ⟨w1_draw, o1_draw, .func (PySem.W.fnOf "_law_draw" "_law_draw" (defArgs s_draw) (defBody s_draw) (defScope s_draw) .none w2_draw w3_draw w4_draw o2_draw w5_draw w6_draw), o3_draw⟩)
    (hc_draw : PySem.W.codeIn K w5_draw "_law_draw" = true)
    (hk_draw : PySem.W.keepIn K (.ref p_draw) = true)
    (ha_pick : PySem.W.nsIn K mainGlobals "_law_pick" = some (some (.ref p_pick)))
    (hl_pick : K.lookup p_pick = some ⟨w1_pick, o1_pick, .func (PySem.W.fnOf "_law_pick" "_law_pick" (defArgs s_pick) (defBody s_pick) (defScope s_pick) .none w2_pick w3_pick w4_pick o2_pick w5_pick w6_pick), o3_pick⟩)
    (hc_pick : PySem.W.codeIn K w5_pick "_law_pick" = true)
    (hk_pick : PySem.W.keepIn K (.ref p_pick) = true)
    (ha_text : PySem.W.nsIn K mainGlobals "_law_text" = some (some (.ref p_text)))
    (hl_text : K.lookup p_text = some ⟨w1_text, o1_text, .func (PySem.W.fnOf "_law_text" "_law_text" (defArgs s_text) (defBody s_text) (defScope s_text) .none w2_text w3_text w4_text o2_text w5_text w6_text), o3_text⟩)
    (hc_text : PySem.W.codeIn K w5_text "_law_text" = true)
    (hk_text : PySem.W.keepIn K (.ref p_text) = true)
    (ha_odd_word : PySem.W.nsIn K mainGlobals "_law_odd_word" = some (some (.ref p_odd_word)))
    (hl_odd_word : K.lookup p_odd_word = some ⟨w1_odd_word, o1_odd_word, .func (PySem.W.fnOf "_law_odd_word" "_law_odd_word" (defArgs s_odd_word) (defBody s_odd_word) (defScope s_odd_word) .none w2_odd_word w3_odd_word w4_odd_word o2_odd_word w5_odd_word w6_odd_word), o3_odd_word⟩)
    (hc_odd_word : PySem.W.codeIn K w5_odd_word "_law_odd_word" = true)
    (hk_odd_word : PySem.W.keepIn K (.ref p_odd_word) = true)
    (ha_bent_text : PySem.W.nsIn K mainGlobals "_law_bent_text" = some (some (.ref p_bent_text)))
    (hl_bent_text : K.lookup p_bent_text = some ⟨w1_bent_text, o1_bent_text, .func (PySem.W.fnOf "_law_bent_text" "_law_bent_text" (defArgs s_bent_text) (defBody s_bent_text) (defScope s_bent_text) .none w2_bent_text w3_bent_text w4_bent_text o2_bent_text w5_bent_text w6_bent_text), o3_bent_text⟩)
    (hc_bent_text : PySem.W.codeIn K w5_bent_text "_law_bent_text" = true)
    (hk_bent_text : PySem.W.keepIn K (.ref p_bent_text) = true)
    (ha_due : PySem.W.nsIn K mainGlobals "_law_due" = some (some (.ref p_due)))
    (hl_due : K.lookup p_due = some ⟨w1_due, o1_due, .func (PySem.W.fnOf "_law_due" "_law_due" (defArgs s_due) (defBody s_due) (defScope s_due) .none w2_due w3_due w4_due o2_due w5_due w6_due), o3_due⟩)
    (hc_due : PySem.W.codeIn K w5_due "_law_due" = true)
    (hk_due : PySem.W.keepIn K (.ref p_due) = true)
    (ha_is_alone : PySem.W.nsIn K mainGlobals "_law_is_alone" = some (some (.ref p_is_alone)))
    (hl_is_alone : K.lookup p_is_alone = some ⟨w1_is_alone, o1_is_alone, .func (PySem.W.fnOf "_law_is_alone" "_law_is_alone" (defArgs s_is_alone) (defBody s_is_alone) (defScope s_is_alone) .none w2_is_alone w3_is_alone w4_is_alone o2_is_alone w5_is_alone w6_is_alone), o3_is_alone⟩)
    (hc_is_alone : PySem.W.codeIn K w5_is_alone "_law_is_alone" = true)
    (hk_is_alone : PySem.W.keepIn K (.ref p_is_alone) = true)
    (ha_Skin_str : PySem.W.findIn K (.ref C_Skin) "__str__" = some (some (.ref p_Skin_str)))
    (hi_Skin_str : PySem.W.isFn K (.ref p_Skin_str) = true)
    (hl_Skin_str : K.lookup p_Skin_str = some ⟨w1_Skin_str, o1_Skin_str, .func (PySem.W.fnOf "__str__" "Skin.__str__" (defArgs s_Skin_str) (defBody s_Skin_str) (defScope s_Skin_str) .none w2_Skin_str w3_Skin_str w4_Skin_str o2_Skin_str w5_Skin_str w6_Skin_str), o3_Skin_str⟩)
    (hc_Skin_str : PySem.W.codeIn K w5_Skin_str "Skin.__str__" = true)
    (hk_Skin_str : PySem.W.keepIn K (.ref p_Skin_str) = true)
    (ha_Skin_eq : PySem.W.findIn K (.ref C_Skin) "__eq__" = some (some (.ref p_Skin_eq)))
    (hi_Skin_eq : PySem.W.isFn K (.ref p_Skin_eq) = true)
    (hl_Skin_eq : K.lookup p_Skin_eq = some ⟨w1_Skin_eq, o1_Skin_eq, .func (PySem.W.fnOf "__eq__" "Skin.__eq__" (defArgs s_Skin_eq) (defBody s_Skin_eq) (defScope s_Skin_eq) .none w2_Skin_eq w3_Skin_eq w4_Skin_eq o2_Skin_eq w5_Skin_eq w6_Skin_eq), o3_Skin_eq⟩)
    (hc_Skin_eq : PySem.W.codeIn K w5_Skin_eq "Skin.__eq__" = true)
    (hk_Skin_eq : PySem.W.keepIn K (.ref p_Skin_eq) = true)
    (ha_Skin_len : PySem.W.findIn K (.ref C_Skin) "__len__" = some (some (.ref p_Skin_len)))
    (hi_Skin_len : PySem.W.isFn K (.ref p_Skin_len) = true)
    (hl_Skin_len : K.lookup p_Skin_len = some ⟨w1_Skin_len, o1_Skin_len, .func (PySem.W.fnOf "__len__" "Skin.__len__" (defArgs s_Skin_len) (defBody s_Skin_len) (defScope s_Skin_len) .none w2_Skin_len w3_Skin_len w4_Skin_len o2_Skin_len w5_Skin_len w6_Skin_len), o3_Skin_len⟩)
    (hc_Skin_len : PySem.W.codeIn K w5_Skin_len "Skin.__len__" = true)
    (hk_Skin_len : PySem.W.keepIn K (.ref p_Skin_len) = true)
    (ha_is_so : PySem.W.nsIn K mainGlobals "_law_is_so" = some (some (.ref p_is_so)))
    (hl_is_so : K.lookup p_is_so = some ⟨w1_is_so, o1_is_so, .func (PySem.W.fnOf "_law_is_so" "_law_is_so" (defArgs s_is_so) (defBody s_is_so) (defScope s_is_so) .none w2_is_so w3_is_so w4_is_so o2_is_so w5_is_so w6_is_so), o3_is_so⟩)
    (hc_is_so : PySem.W.codeIn K w5_is_so "_law_is_so" = true)
    (hk_is_so : PySem.W.keepIn K (.ref p_is_so) = true)
    (ha_law : PySem.W.nsIn K mainGlobals "law" = some (some (.ref p_law)))
    (hl_law : K.lookup p_law = some ⟨w1_law, o1_law, .func (PySem.W.fnOf "law" "law" (defArgs s_law) (defBody s_law) (defScope s_law) .none w2_law w3_law w4_law o2_law w5_law w6_law), o3_law⟩)
    (hc_law : PySem.W.codeIn K w5_law "law" = true)
    (hk_law : PySem.W.keepIn K (.ref p_law) = true)
    (hax_NoText : PySem.W.nsIn K mainGlobals "NoText" = some (some (.ref x_NoText)))
    (hax_Breaks : PySem.W.nsIn K mainGlobals "Breaks" = some (some (.ref x_Breaks)))
    (hax_NoCut : PySem.W.nsIn K mainGlobals "NoCut" = some (some (.ref x_NoCut)))
    (hax_NoDeed : PySem.W.nsIn K mainGlobals "NoDeed" = some (some (.ref x_NoDeed)))
    (hax_NoGlove : PySem.W.nsIn K mainGlobals "NoGlove" = some (some (.ref x_NoGlove)))
    (hax_NoLot : PySem.W.nsIn K mainGlobals "NoLot" = some (some (.ref x_NoLot)))
    (hax_NoMoment : PySem.W.nsIn K mainGlobals "NoMoment" = some (some (.ref x_NoMoment)))
    (hax_NoOrder : PySem.W.nsIn K mainGlobals "NoOrder" = some (some (.ref x_NoOrder)))
    (hax_NoPairs : PySem.W.nsIn K mainGlobals "NoPairs" = some (some (.ref x_NoPairs)))
    (hax_NoResult : PySem.W.nsIn K mainGlobals "NoResult" = some (some (.ref x_NoResult)))
    (hax_NoRow : PySem.W.nsIn K mainGlobals "NoRow" = some (some (.ref x_NoRow)))
    (hax_NoSkin : PySem.W.nsIn K mainGlobals "NoSkin" = some (some (.ref x_NoSkin)))
    (hax_NoTable : PySem.W.nsIn K mainGlobals "NoTable" = some (some (.ref x_NoTable)))
    (hax_Taken : PySem.W.nsIn K mainGlobals "Taken" = some (some (.ref x_Taken)))
    (hax_Told : PySem.W.nsIn K mainGlobals "Told" = some (some (.ref x_Told)))
    (hax_GloveError : PySem.W.nsIn K mainGlobals "GloveError" = some (some (.ref x_GloveError)))
    (hxe_NoText : PySem.W.excIn K x_NoText [.type "LookupError", .type "Exception", .type "BaseException", .type "object"] "LookupError.__new__" = true)
    (hxk_NoText : PySem.W.keepIn K (.ref x_NoText) = true)
    (hxs_NoText : PySem.W.subIn K (.ref x_NoText) (.type "BaseException") = some true)
    (hxt_NoText : PySem.W.typeIn K (.ref x_NoText) = some (.type "type"))
    (hxg_NoText : PySem.W.findIn K (.ref x_NoText) "__getattribute__" = some (some (.builtin "BaseException.__getattribute__")))
    (hxa_NoText : PySem.W.findIn K (.ref x_NoText) "__getattr__" = some none)
    (hxd_NoText : PySem.W.hasDictIn K x_NoText = true)
    (hxc_NoText : PySem.W.findIn K (.ref x_NoText) "__class__" = some (some (.builtin "object.__class__")))
    (hxn_NoText : PySem.W.specialIn K (.builtin "object.__class__") "__get__" = some (some (.builtin "getset_descriptor.__get__")))
    (hxu_NoText : PySem.W.takesIn K (.builtin "object.__class__") = some true)
    (hxm_NoText : PySem.W.mroIn K x_NoText (.type "object") = some true)
    (hem_GloveError_NoText : PySem.W.exmOne K (.ref x_NoText) (.ref x_GloveError) = some true)
    (hki_0_NoText : PySem.W.kitAny K (.ref x_NoText) [(.ref x_Breaks), (.ref x_NoCut), (.ref x_NoDeed), (.ref x_NoGlove), (.ref x_NoLot), (.ref x_NoMoment), (.ref x_NoOrder), (.ref x_NoPairs), (.ref x_NoResult)] = some false)
    (hki_1_NoText : PySem.W.kitAny K (.ref x_NoText) [(.ref x_NoRow), (.ref x_NoSkin), (.ref x_NoTable), (.ref x_Taken), (.ref x_Told)] = some false)
    (hki_2_NoText : PySem.W.kitAny K (.ref x_NoText) [(.ref x_NoText)] = some true)
    (hki_3_NoText : PySem.W.kitAny K (.ref x_NoText) [(.type "LookupError")] = some true)
    (hoc_Skin : PySem.W.findIn K (.ref C_Skin) "__class__" = some (some (.builtin "object.__class__")))
    (hon_Skin : PySem.W.specialIn K (.builtin "object.__class__") "__get__" = some (some (.builtin "getset_descriptor.__get__")))
    (hou_Skin : PySem.W.takesIn K (.builtin "object.__class__") = some true)
    (hom_Skin : PySem.W.mroIn K C_Skin (.type "object") = some true)
    (hoi_Skin : PySem.W.kitOne K (.ref C_Skin) (.ref C_Skin) = some true)
    (hqn_Skin : PySem.W.findIn K (.ref C_Skin) "__ne__" = some (some (.builtin "object.__ne__")))
    (hqm_Skin : PySem.W.mroIn K C_Skin (.type "object") = some true)
    (htn_NoneType_Skin : PySem.W.kitOne K (.type "NoneType") (.ref C_Skin) = some false)
    (htn_bool_Skin : PySem.W.kitOne K (.type "bool") (.ref C_Skin) = some false)
    (htn_int_Skin : PySem.W.kitOne K (.type "int") (.ref C_Skin) = some false)
    (htn_str_Skin : PySem.W.kitOne K (.type "str") (.ref C_Skin) = some false)
    (htn_list_Skin : PySem.W.kitOne K (.type "list") (.ref C_Skin) = some false)
    (htn_tuple_Skin : PySem.W.kitOne K (.type "tuple") (.ref C_Skin) = some false)
    (htn_dict_Skin : PySem.W.kitOne K (.type "dict") (.ref C_Skin) = some false)
    (hz_LookupError : PySem.W.nsIn K mainGlobals "LookupError" = some none)
    (hz_all : PySem.W.nsIn K mainGlobals "all" = some none)
    (hz_dict : PySem.W.nsIn K mainGlobals "dict" = some none)
    (hz_int : PySem.W.nsIn K mainGlobals "int" = some none)
    (hz_isinstance : PySem.W.nsIn K mainGlobals "isinstance" = some none)
    (hz_len : PySem.W.nsIn K mainGlobals "len" = some none)
    (hz_list : PySem.W.nsIn K mainGlobals "list" = some none)
    (hz_range : PySem.W.nsIn K mainGlobals "range" = some none)
    (hz_repr : PySem.W.nsIn K mainGlobals "repr" = some none)
    (hz_str : PySem.W.nsIn K mainGlobals "str" = some none)
    (hz_sum : PySem.W.nsIn K mainGlobals "sum" = some none)
    (hz_tuple : PySem.W.nsIn K mainGlobals "tuple" = some none)
    (hm_ACROSS : PySem.W.nsIn K mainGlobals "ACROSS" = some (some (.str "across" t_ACROSS)))
    (hm_ALONG : PySem.W.nsIn K mainGlobals "ALONG" = some (some (.str "along" t_ALONG)))
    (hm_FIGURES : PySem.W.nsIn K mainGlobals "FIGURES" = some (some (.str "0123456789" t_FIGURES)))
    (hm_MOST_GRADE : PySem.W.nsIn K mainGlobals "MOST_GRADE" = some (some (.int 2 t_MOST_GRADE)))
    (hm_MOST_LENGTH : PySem.W.nsIn K mainGlobals "MOST_LENGTH" = some (some (.int 24 t_MOST_LENGTH)))
    (hm_MOST_STRETCH : PySem.W.nsIn K mainGlobals "MOST_STRETCH" = some (some (.int 40 t_MOST_STRETCH)))
    (hm_MOST_ZONES : PySem.W.nsIn K mainGlobals "MOST_ZONES" = some (some (.int 4 t_MOST_ZONES)))
    : ∃ fd : FuncData, (∀ (s : Shared) (v : Value), BindsTo s fd ⟨[v], []⟩ [("_law_script", v)]) ∧ ∀ base : Heap, K.In base → base.Ns mainGlobals mg → (∃ o, base.get? sysModules = some o) → FnG P w K mg base 7 fa fd ["_law_script"] (spU K mg 1 c_law) := by
  have e := hfa.symm.trans (PySem.W.mg_of X Gn ha_law)
  cases e
  let T : Tx K mg := {
    a_sign_of := p_sign_of
    e_sign_of := _
    F_sign_of := fun_mk (st := s_sign_of) hl_sign_of hc_sign_of hk_sign_of
    g_sign_of := PySem.W.mg_of X Gn ha_sign_of
    a_zone_word := p_zone_word
    e_zone_word := _
    F_zone_word := fun_mk (st := s_zone_word) hl_zone_word hc_zone_word hk_zone_word
    g_zone_word := PySem.W.mg_of X Gn ha_zone_word
    a_number_behind := p_number_behind
    e_number_behind := _
    F_number_behind := fun_mk (st := s_number_behind) hl_number_behind hc_number_behind hk_number_behind
    g_number_behind := PySem.W.mg_of X Gn ha_number_behind
    a_zone_read := p_zone_read
    e_zone_read := _
    F_zone_read := fun_mk (st := s_zone_read) hl_zone_read hc_zone_read hk_zone_read
    g_zone_read := PySem.W.mg_of X Gn ha_zone_read
    a_Skin_init := p_Skin_init
    e_Skin_init := _
    F_Skin_init := funF_mk (st := s_Skin_init) hl_Skin_init hc_Skin_init hk_Skin_init (.inr ⟨List.cons_ne_nil _ _, _, _, _, _, rfl, hd_Skin_init, rfl, (.cons ⟨_, rfl⟩ (.cons ⟨_, rfl⟩ .nil))⟩)
    a_read_skin := p_read_skin
    e_read_skin := _
    F_read_skin := fun_mk (st := s_read_skin) hl_read_skin hc_read_skin hk_read_skin
    g_read_skin := PySem.W.mg_of X Gn ha_read_skin
    a_deck := p_deck
    e_deck := _
    F_deck := fun_mk (st := s_deck) hl_deck hc_deck hk_deck
    g_deck := PySem.W.mg_of X Gn ha_deck
    a_draw := p_draw
    e_draw := _
    F_draw := fun_mk (st := s_draw) hl_draw hc_draw hk_draw
    g_draw := PySem.W.mg_of X Gn ha_draw
    a_pick := p_pick
    e_pick := _
    F_pick := fun_mk (st := s_pick) hl_pick hc_pick hk_pick
    g_pick := PySem.W.mg_of X Gn ha_pick
    a_text := p_text
    e_text := _
    F_text := fun_mk (st := s_text) hl_text hc_text hk_text
    g_text := PySem.W.mg_of X Gn ha_text
    a_odd_word := p_odd_word
    e_odd_word := _
    F_odd_word := fun_mk (st := s_odd_word) hl_odd_word hc_odd_word hk_odd_word
    g_odd_word := PySem.W.mg_of X Gn ha_odd_word
    a_bent_text := p_bent_text
    e_bent_text := _
    F_bent_text := fun_mk (st := s_bent_text) hl_bent_text hc_bent_text hk_bent_text
    g_bent_text := PySem.W.mg_of X Gn ha_bent_text
    a_due := p_due
    e_due := _
    F_due := fun_mk (st := s_due) hl_due hc_due hk_due
    g_due := PySem.W.mg_of X Gn ha_due
    a_is_alone := p_is_alone
    e_is_alone := _
    F_is_alone := fun_mk (st := s_is_alone) hl_is_alone hc_is_alone hk_is_alone
    g_is_alone := PySem.W.mg_of X Gn ha_is_alone
    a_Skin_str := p_Skin_str
    e_Skin_str := _
    F_Skin_str := fun_mk (st := s_Skin_str) hl_Skin_str hc_Skin_str hk_Skin_str
    a_Skin_eq := p_Skin_eq
    e_Skin_eq := _
    F_Skin_eq := fun_mk (st := s_Skin_eq) hl_Skin_eq hc_Skin_eq hk_Skin_eq
    a_Skin_len := p_Skin_len
    e_Skin_len := _
    F_Skin_len := fun_mk (st := s_Skin_len) hl_Skin_len hc_Skin_len hk_Skin_len
    a_is_so := p_is_so
    e_is_so := _
    F_is_so := fun_mk (st := s_is_so) hl_is_so hc_is_so hk_is_so
    g_is_so := PySem.W.mg_of X Gn ha_is_so
    a_law := fa
    e_law := _
    F_law := fun_mk (st := s_law) hl_law hc_law hk_law
    g_law := PySem.W.mg_of X Gn ha_law
    C_Skin := C_Skin
    iC_Skin := haC_Skin
    gC_Skin := PySem.W.mg_of X Gn haC_Skin
    cl_Skin := ⟨hpg_Skin, hhd_Skin, hpo_Skin, hsa_Skin⟩
    mk_Skin := ⟨hmk_Skin, ha_Skin_init, hi_Skin_init, hkC_Skin⟩
    x_NoText := x_NoText
    gx_NoText := PySem.W.mg_of X Gn hax_NoText
    x_Breaks := x_Breaks
    gx_Breaks := PySem.W.mg_of X Gn hax_Breaks
    x_NoCut := x_NoCut
    gx_NoCut := PySem.W.mg_of X Gn hax_NoCut
    x_NoDeed := x_NoDeed
    gx_NoDeed := PySem.W.mg_of X Gn hax_NoDeed
    x_NoGlove := x_NoGlove
    gx_NoGlove := PySem.W.mg_of X Gn hax_NoGlove
    x_NoLot := x_NoLot
    gx_NoLot := PySem.W.mg_of X Gn hax_NoLot
    x_NoMoment := x_NoMoment
    gx_NoMoment := PySem.W.mg_of X Gn hax_NoMoment
    x_NoOrder := x_NoOrder
    gx_NoOrder := PySem.W.mg_of X Gn hax_NoOrder
    x_NoPairs := x_NoPairs
    gx_NoPairs := PySem.W.mg_of X Gn hax_NoPairs
    x_NoResult := x_NoResult
    gx_NoResult := PySem.W.mg_of X Gn hax_NoResult
    x_NoRow := x_NoRow
    gx_NoRow := PySem.W.mg_of X Gn hax_NoRow
    x_NoSkin := x_NoSkin
    gx_NoSkin := PySem.W.mg_of X Gn hax_NoSkin
    x_NoTable := x_NoTable
    gx_NoTable := PySem.W.mg_of X Gn hax_NoTable
    x_Taken := x_Taken
    gx_Taken := PySem.W.mg_of X Gn hax_Taken
    x_Told := x_Told
    gx_Told := PySem.W.mg_of X Gn hax_Told
    x_GloveError := x_GloveError
    gx_GloveError := PySem.W.mg_of X Gn hax_GloveError
    ex_NoText := ⟨hax_NoText, PySem.F.excBase_LookupError, hxe_NoText, hxk_NoText, hxs_NoText, hxt_NoText⟩
    ct_GloveError := (.cons hax_NoText hem_GloveError_NoText .nil)
    xi_0 := (.cons hax_NoText ⟨hxg_NoText, hxa_NoText, hxs_NoText, hxd_NoText, hxc_NoText, hxn_NoText, hxu_NoText, hxm_NoText⟩ hki_0_NoText .nil)
    xi_1 := (.cons hax_NoText ⟨hxg_NoText, hxa_NoText, hxs_NoText, hxd_NoText, hxc_NoText, hxn_NoText, hxu_NoText, hxm_NoText⟩ hki_1_NoText .nil)
    xi_2 := (.cons hax_NoText ⟨hxg_NoText, hxa_NoText, hxs_NoText, hxd_NoText, hxc_NoText, hxn_NoText, hxu_NoText, hxm_NoText⟩ hki_2_NoText .nil)
    xi_3 := (.cons hax_NoText ⟨hxg_NoText, hxa_NoText, hxs_NoText, hxd_NoText, hxc_NoText, hxn_NoText, hxu_NoText, hxm_NoText⟩ hki_3_NoText .nil)
    io_Skin := .cons haC_Skin ⟨⟨hpg_Skin, hhd_Skin, hpo_Skin, hsa_Skin⟩, hoc_Skin, hon_Skin, hou_Skin, hom_Skin⟩ hoi_Skin .nil
    eq_Skin := ⟨⟨haC_Skin, ha_Skin_eq, hi_Skin_eq⟩, by simp [PySem.W.notFirst], hqn_Skin, hqm_Skin⟩
    on_Skin := ⟨htn_int_Skin, htn_str_Skin, htn_bool_Skin, htn_tuple_Skin, htn_list_Skin, htn_dict_Skin, htn_NoneType_Skin⟩
    fl_zones := (.cons haC_Skin ⟨hpg_Skin, hhd_Skin, hpo_Skin, hsa_Skin⟩ hnf_Skin_zones .nil)
    fl_stretch := (.cons haC_Skin ⟨hpg_Skin, hhd_Skin, hpo_Skin, hsa_Skin⟩ hnf_Skin_stretch .nil)
    fl_grade := (.cons haC_Skin ⟨hpg_Skin, hhd_Skin, hpo_Skin, hsa_Skin⟩ hnf_Skin_grade .nil)
    sp_Skin_str := ⟨haC_Skin, ha_Skin_str, hi_Skin_str⟩
    sp_Skin_len := ⟨haC_Skin, ha_Skin_len, hi_Skin_len⟩
    n_LookupError := PySem.W.mg_none_of X Gn hz_LookupError
    n_all := PySem.W.mg_none_of X Gn hz_all
    n_dict := PySem.W.mg_none_of X Gn hz_dict
    n_int := PySem.W.mg_none_of X Gn hz_int
    n_isinstance := PySem.W.mg_none_of X Gn hz_isinstance
    n_len := PySem.W.mg_none_of X Gn hz_len
    n_list := PySem.W.mg_none_of X Gn hz_list
    n_range := PySem.W.mg_none_of X Gn hz_range
    n_repr := PySem.W.mg_none_of X Gn hz_repr
    n_str := PySem.W.mg_none_of X Gn hz_str
    n_sum := PySem.W.mg_none_of X Gn hz_sum
    n_tuple := PySem.W.mg_none_of X Gn hz_tuple
    v_ACROSS := (.str "across")
    u_ACROSS := _
    m_ACROSS := PySem.W.mg_of X Gn hm_ACROSS
    r_ACROSS := ⟨_, rfl⟩
    d_ACROSS := fun _ _ => .str _
    v_ALONG := (.str "along")
    u_ALONG := _
    m_ALONG := PySem.W.mg_of X Gn hm_ALONG
    r_ALONG := ⟨_, rfl⟩
    d_ALONG := fun _ _ => .str _
    v_FIGURES := (.str "0123456789")
    u_FIGURES := _
    m_FIGURES := PySem.W.mg_of X Gn hm_FIGURES
    r_FIGURES := ⟨_, rfl⟩
    d_FIGURES := fun _ _ => .str _
    v_MOST_GRADE := (.int 2)
    u_MOST_GRADE := _
    m_MOST_GRADE := PySem.W.mg_of X Gn hm_MOST_GRADE
    r_MOST_GRADE := ⟨_, rfl⟩
    d_MOST_GRADE := fun _ _ => .int _
    v_MOST_LENGTH := (.int 24)
    u_MOST_LENGTH := _
    m_MOST_LENGTH := PySem.W.mg_of X Gn hm_MOST_LENGTH
    r_MOST_LENGTH := ⟨_, rfl⟩
    d_MOST_LENGTH := fun _ _ => .int _
    v_MOST_STRETCH := (.int 40)
    u_MOST_STRETCH := _
    m_MOST_STRETCH := PySem.W.mg_of X Gn hm_MOST_STRETCH
    r_MOST_STRETCH := ⟨_, rfl⟩
    d_MOST_STRETCH := fun _ _ => .int _
    v_MOST_ZONES := (.int 4)
    u_MOST_ZONES := _
    m_MOST_ZONES := PySem.W.mg_of X Gn hm_MOST_ZONES
    r_MOST_ZONES := ⟨_, rfl⟩
    d_MOST_ZONES := fun _ _ => .int _
  }
  exact ⟨_, fun s v => .of_eq rfl, fun base _ _ sm => ok_law T sm⟩
end K09

open PySem PySem.W PyProof.Rows
set_option maxHeartbeats 0 in
theorem PySem.Challenge.cw_glovepairs_k09_skins_read_holds : PySem.Challenge.rw_glovepairs_k09_skins_read.Holds := by
  w_on; o_law; k_head; (case hw => w_witness2)
  k_fill
  refine G.walk_G (l := PySem.Challenge.rw_glovepairs_k09_skins_read) (n := 63) (k := 7) (x := "_law_script") (fn := K09.c_law) (by decide +kernel) rfl (by decide) rfl ⟨rfl, by decide, by decide⟩ (fun w h Y => PySem.W.kIn_of Y) ?F K09.law_true
  case F =>
    intro w mg fa h KX Gn hmg
    refine' K09.all_mk KX Gn hmg ?haC_Skin ?hpg_Skin ?hhd_Skin ?hpo_Skin ?hsa_Skin ?hmk_Skin ?hkC_Skin ?hnf_Skin_zones ?hnf_Skin_stretch ?hnf_Skin_grade ?ha_sign_of ?hl_sign_of ?hc_sign_of ?hk_sign_of ?ha_zone_word ?hl_zone_word ?hc_zone_word ?hk_zone_word ?ha_number_behind ?hl_number_behind ?hc_number_behind ?hk_number_behind ?ha_zone_read ?hl_zone_read ?hc_zone_read ?hk_zone_read ?ha_Skin_init ?hi_Skin_init ?hl_Skin_init ?hd_Skin_init ?hc_Skin_init ?hk_Skin_init ?ha_read_skin ?hl_read_skin ?hc_read_skin ?hk_read_skin ?ha_deck ?hl_deck ?hc_deck ?hk_deck ?ha_draw ?hl_draw ?hc_draw ?hk_draw ?ha_pick ?hl_pick ?hc_pick ?hk_pick ?ha_text ?hl_text ?hc_text ?hk_text ?ha_odd_word ?hl_odd_word ?hc_odd_word ?hk_odd_word ?ha_bent_text ?hl_bent_text ?hc_bent_text ?hk_bent_text ?ha_due ?hl_due ?hc_due ?hk_due ?ha_is_alone ?hl_is_alone ?hc_is_alone ?hk_is_alone ?ha_Skin_str ?hi_Skin_str ?hl_Skin_str ?hc_Skin_str ?hk_Skin_str ?ha_Skin_eq ?hi_Skin_eq ?hl_Skin_eq ?hc_Skin_eq ?hk_Skin_eq ?ha_Skin_len ?hi_Skin_len ?hl_Skin_len ?hc_Skin_len ?hk_Skin_len ?ha_is_so ?hl_is_so ?hc_is_so ?hk_is_so ?ha_law ?hl_law ?hc_law ?hk_law ?hax_NoText ?hax_Breaks ?hax_NoCut ?hax_NoDeed ?hax_NoGlove ?hax_NoLot ?hax_NoMoment ?hax_NoOrder ?hax_NoPairs ?hax_NoResult ?hax_NoRow ?hax_NoSkin ?hax_NoTable ?hax_Taken ?hax_Told ?hax_GloveError ?hxe_NoText ?hxk_NoText ?hxs_NoText ?hxt_NoText ?hxg_NoText ?hxa_NoText ?hxd_NoText ?hxc_NoText ?hxn_NoText ?hxu_NoText ?hxm_NoText ?hem_GloveError_NoText ?hki_0_NoText ?hki_1_NoText ?hki_2_NoText ?hki_3_NoText ?hoc_Skin ?hon_Skin ?hou_Skin ?hom_Skin ?hoi_Skin ?hqn_Skin ?hqm_Skin ?htn_NoneType_Skin ?htn_bool_Skin ?htn_int_Skin ?htn_str_Skin ?htn_list_Skin ?htn_tuple_Skin ?htn_dict_Skin ?hz_LookupError ?hz_all ?hz_dict ?hz_int ?hz_isinstance ?hz_len ?hz_list ?hz_range ?hz_repr ?hz_str ?hz_sum ?hz_tuple ?hm_ACROSS ?hm_ALONG ?hm_FIGURES ?hm_MOST_GRADE ?hm_MOST_LENGTH ?hm_MOST_STRETCH ?hm_MOST_ZONES
    (case haC_Skin => k_is); (case hpg_Skin => k_is); (case hhd_Skin => k_is); (case hpo_Skin => k_is); (case hsa_Skin => k_is); (case hmk_Skin => k_is); (case hkC_Skin => k_is); (case hnf_Skin_zones => k_is); (case hnf_Skin_stretch => k_is); (case hnf_Skin_grade => k_is); (case ha_sign_of => k_is); (case hl_sign_of => k_is); (case hc_sign_of => k_is); (case hk_sign_of => k_is); (case ha_zone_word => k_is); (case hl_zone_word => k_is); (case hc_zone_word => k_is); (case hk_zone_word => k_is); (case ha_number_behind => k_is); (case hl_number_behind => k_is); (case hc_number_behind => k_is); (case hk_number_behind => k_is); (case ha_zone_read => k_is); (case hl_zone_read => k_is); (case hc_zone_read => k_is); (case hk_zone_read => k_is); (case ha_Skin_init => k_is); (case hi_Skin_init => k_is); (case hl_Skin_init => k_is); (case hd_Skin_init => k_is); (case hc_Skin_init => k_is); (case hk_Skin_init => k_is); (case ha_read_skin => k_is); (case hl_read_skin => k_is); (case hc_read_skin => k_is); (case hk_read_skin => k_is); (case ha_deck => k_is); (case hl_deck => k_is); (case hc_deck => k_is); (case hk_deck => k_is); (case ha_draw => k_is); (case hl_draw => k_is); (case hc_draw => k_is); (case hk_draw => k_is); (case ha_pick => k_is); (case hl_pick => k_is); (case hc_pick => k_is); (case hk_pick => k_is); (case ha_text => k_is); (case hl_text => k_is); (case hc_text => k_is); (case hk_text => k_is); (case ha_odd_word => k_is); (case hl_odd_word => k_is); (case hc_odd_word => k_is); (case hk_odd_word => k_is); (case ha_bent_text => k_is); (case hl_bent_text => k_is); (case hc_bent_text => k_is); (case hk_bent_text => k_is); (case ha_due => k_is); (case hl_due => k_is); (case hc_due => k_is); (case hk_due => k_is); (case ha_is_alone => k_is); (case hl_is_alone => k_is); (case hc_is_alone => k_is); (case hk_is_alone => k_is); (case ha_Skin_str => k_is); (case hi_Skin_str => k_is); (case hl_Skin_str => k_is); (case hc_Skin_str => k_is); (case hk_Skin_str => k_is); (case ha_Skin_eq => k_is); (case hi_Skin_eq => k_is); (case hl_Skin_eq => k_is); (case hc_Skin_eq => k_is); (case hk_Skin_eq => k_is); (case ha_Skin_len => k_is); (case hi_Skin_len => k_is); (case hl_Skin_len => k_is); (case hc_Skin_len => k_is); (case hk_Skin_len => k_is); (case ha_is_so => k_is); (case hl_is_so => k_is); (case hc_is_so => k_is); (case hk_is_so => k_is); (case ha_law => k_is); (case hl_law => k_is); (case hc_law => k_is); (case hk_law => k_is); (case hax_NoText => k_is); (case hax_Breaks => k_is); (case hax_NoCut => k_is); (case hax_NoDeed => k_is); (case hax_NoGlove => k_is); (case hax_NoLot => k_is); (case hax_NoMoment => k_is); (case hax_NoOrder => k_is); (case hax_NoPairs => k_is); (case hax_NoResult => k_is); (case hax_NoRow => k_is); (case hax_NoSkin => k_is); (case hax_NoTable => k_is); (case hax_Taken => k_is); (case hax_Told => k_is); (case hax_GloveError => k_is); (case hxe_NoText => k_exc); (case hxk_NoText => k_is); (case hxs_NoText => k_is); (case hxt_NoText => k_is); (case hxg_NoText => k_is); (case hxa_NoText => k_is); (case hxd_NoText => k_is); (case hxc_NoText => k_is); (case hxn_NoText => k_is); (case hxu_NoText => k_is); (case hxm_NoText => k_is); (case hem_GloveError_NoText => kts_exm); (case hki_0_NoText => kit_is); (case hki_1_NoText => kit_is); (case hki_2_NoText => kit_is); (case hki_3_NoText => kit_is); (case hoc_Skin => k_is); (case hon_Skin => k_is); (case hou_Skin => k_is); (case hom_Skin => k_is); (case hoi_Skin => kit_is); (case hqn_Skin => k_is); (case hqm_Skin => k_is); (case htn_NoneType_Skin => kit_is); (case htn_bool_Skin => kit_is); (case htn_int_Skin => kit_is); (case htn_str_Skin => kit_is); (case htn_list_Skin => kit_is); (case htn_tuple_Skin => kit_is); (case htn_dict_Skin => kit_is); (case hz_LookupError => k_is); (case hz_all => k_is); (case hz_dict => k_is); (case hz_int => k_is); (case hz_isinstance => k_is); (case hz_len => k_is); (case hz_list => k_is); (case hz_range => k_is); (case hz_repr => k_is); (case hz_str => k_is); (case hz_sum => k_is); (case hz_tuple => k_is); (case hm_ACROSS => k_is); (case hm_ALONG => k_is); (case hm_FIGURES => k_is); (case hm_MOST_GRADE => k_is); (case hm_MOST_LENGTH => k_is); (case hm_MOST_STRETCH => k_is); (case hm_MOST_ZONES => k_is)

