import PyProof.Rows.All
import Wide.All
import OpenK.AllK
import Wide.FinOn
import HandS.ForMost
import HandS.Exc
import HandS.TryOnly
import HandS.ExcOwn
import HandS.WordsExc
import HandS.TupAny
import HandS.Style
import HandS.TupMul
import PyProof.Rows.IntBool
import HandS.Replace
import HandS.Walk
import HandS.CallSlots
import HandS.IsInst
import HandS.Conv
import HandS.DictTup
import KE.KDictCopyH
import HandS.Deep
import HandS.Text
import KE.KRevSl
import HandS.Codes
import HandS.Zip
import KE.GoesMore
import HandS.MakeKw
import KE.KCallOwn
import HandS.FStr
import KE.KxMul
import HandS.Flow
import HandS.Dict
import HandS.IntHex
import HandS.More
import HandS.SortOrd
import HandS.SortRule
import HandS.ExcValue
import HandS.ExcIs
import HandS.ExcField
import KE.KExcIs
import HandS.OwnEq
import PySem.Challenge.RW_glovepairs_k03_sizes_read
set_option Elab.async false
set_option autoImplicit false
set_option linter.all false
set_option maxRecDepth 100000
set_option maxHeartbeats 0
/-! # G1: values, heaps, results of the functional layer; how they stand for the hand layer's -/
namespace G
open PySem PySem.Spec PyProof.Rows L2

/-- a value: lists that nobody changes stand by themselves (lst; the script: scr), those that are changed by their number in the heap (ref) -/
inductive Tn where
  | int | str | bool | tup | lst | dct
  deriving DecidableEq
def Tn.nm : Tn → String
  | .int => "int" | .str => "str" | .bool => "bool" | .tup => "tuple" | .lst => "list" | .dct => "dict"
inductive D where
  | non | bl (b : Bool) | int (i : Int) | str (s : Str) | tup (ds : List D) | lst (ds : List D) | scr (ds : List D) | ref (n : Nat) | ty (t : Tn) | ctp (ds : List D) | dct (ks : List Key) (ds : List D) | dtp (ks : List (List Key)) (ds : List D) | ins (c : Str) (ks : List Str) (ds : List D) | glb (x : Str) | exn (c : Str) (ks : List Str) (ds : List D)
inductive O where
  | lst (ds : List D) | dk (kvs : List (Key × D)) | dt (kvs : List (List Key × D)) | ins (c : Str) (fs : List (Str × D)) | lkd (o : O)
abbrev Hs := List O
inductive R (α : Type) where
  | ok (a : α) (h : Hs) | exc (c : Str) (fs : List (Str × D)) (h : Hs) | bad
abbrev Ev := List (Option D)
inductive SR where
  | nx (e : Ev) (h : Hs) | ret (d : D) (h : Hs) | brk (e : Ev) (h : Hs) | cnt (e : Ev) (h : Hs) | exc (c : Str) (fs : List (Str × D)) (e : Ev) (h : Hs) | bad
abbrev FE := Ev → Hs → R D
abbrev FS := Ev → Hs → SR
/-- a test -/
abbrev FT := Ev → Hs → R Bool
abbrev FA := Ev → Hs → R (List D)

def R.bind {α β : Type} (r : R α) (k : α → Hs → R β) : R β := match r with
  | .ok a h => k a h
  | .exc c fs h => .exc c fs h
  | .bad => .bad
@[simp] theorem R.bind_ok {α β : Type} (a : α) (h : Hs) (k : α → Hs → R β) : (R.ok a h).bind k = k a h := rfl
@[simp] theorem R.bind_exc {α β : Type} (c : Str) (fs : List (Str × D)) (h : Hs) (k : α → Hs → R β) : (R.exc c fs h).bind k = .exc c fs h := rfl
@[simp] theorem R.bind_bad {α β : Type} (k : α → Hs → R β) : (R.bad).bind k = .bad := rfl

/-! ### how they stand for the hand layer's -/
/-- where our objects stand; which lists stand still from now on -/
structure Mp where
  l : List Addr
  fz : Addr → Prop
/-- a tuple, the script: tracked and not ours, or an object of the module -/
def StT (K : PySem.W.Frag) (mu : Mp) (H : Hp) (a : Addr) (vs : List V) : Prop := H a = some (.tup vs) ∧ a ∉ mu.l
def StL (K : PySem.W.Frag) (mu : Mp) (H : Hp) (a : Addr) (vs : List V) : Prop := ((∃ o, H a = some (.frz o (.lst vs))) ∧ a ∉ mu.l) ∨ SqL K (fun _ => none) a vs
theorem StT.sq {K : PySem.W.Frag} {mu : Mp} {H : Hp} {a : Addr} {vs : List V} (h : StT K mu H a vs) : SqT K H a vs := .inl (.inl h.1)
theorem sqT_c {K : PySem.W.Frag} {H : Hp} {a : Addr} {vs : List V} (h : SqT K (fun _ => none) a vs) : SqT K H a vs := by
  rcases h with (h | ⟨o, h⟩) | h
  · cases h
  · cases h
  · exact .inr h
theorem StL.sq {K : PySem.W.Frag} {mu : Mp} {H : Hp} {a : Addr} {vs : List V} (h : StL K mu H a vs) : SqL K H a vs := by
  rcases h with ⟨⟨o, h⟩, _⟩ | (h | ⟨o, h⟩) | h
  · exact .inl (.inr ⟨o, h⟩)
  · cases h
  · cases h
  · exact .inr h
/-- an exception's object of the class C at a, with that dict -/
def ExPl (C : Addr) (d : Option Addr) (a : Addr) (h : Heap) : Prop := ∃ (oe : Obj) (us : Array Value), h.get? a = some oe ∧ Zc (.ref C) d oe ∧ oe.data = .fields us
def StE (mu : Mp) (H : Hp) (C : Addr) (d : Option Addr) (a : Addr) : Prop := a ∉ mu.l ∧ ∃ φ, H a = some (.ext φ) ∧ ∀ h, φ h → ExPl C d a h
def StX (mu : Mp) (H : Hp) (b : Addr) (kvs : List (Str × V)) : Prop := H b = some (.xd kvs) ∧ b ∉ mu.l
mutual
inductive RD (K : PySem.W.Frag) (mu : Mp) (H : Hp) : D → V → Prop
  | non : RD K mu H .non .non
  | bl (b : Bool) : RD K mu H (.bl b) (.bl b)
  | int (i : Int) : RD K mu H (.int i) (.int i)
  | str (s : Str) : RD K mu H (.str s) (.str s)
  | tup {a : Addr} {vs : List V} {ds : List D} : StT K mu H a vs → RDs K mu H ds vs → RD K mu H (.tup ds) (.ref a)
  | lst {a : Addr} {vs : List V} {ds : List D} : H a = some (.lst vs) → mu.fz a → RDs K mu H ds vs → RD K mu H (.lst ds) (.ref a)
  | scr {a : Addr} {vs : List V} {ds : List D} : StL K mu H a vs → RDs K mu H ds vs → RD K mu H (.scr ds) (.ref a)
  | ref {n : Nat} {a : Addr} : mu.l[n]? = some a → RD K mu H (.ref n) (.ref a)
  | ty (t : Tn) : RD K mu H (.ty t) (.ty t.nm)
  | ctp {a : Addr} {vs : List V} {ds : List D} : SqT K (fun _ => none) a vs → RDs K mu H ds vs → RD K mu H (.ctp ds) (.ref a)
  | dct {a : Addr} {ks : List Key} {vs : List V} {ds : List D} : H a = some (.dK (ks.zip vs)) → mu.fz a → ks.length = ds.length → RDs K mu H ds vs → RD K mu H (.dct ks ds) (.ref a)
  | dtp {a : Addr} {ks : List (List Key)} {vs : List V} {ds : List D} : H a = some (.dT (ks.zip vs)) → mu.fz a → ks.length = ds.length → RDs K mu H ds vs → RD K mu H (.dtp ks ds) (.ref a)
  | ins {a C dx : Addr} {c : Str} {ks : List Str} {vs : List V} {ds : List D} : PySem.W.nsIn K mainGlobals c = some (some (.ref C)) → H a = some (.ins C dx (ks.zip vs)) → mu.fz a → ks.length = ds.length → RDs K mu H ds vs → RD K mu H (.ins c ks ds) (.ref a)
  | glb {x : Str} {C : Addr} : PySem.W.nsIn K mainGlobals x = some (some (.ref C)) → RD K mu H (.glb x) (.ref C)
  | exn0 {a C : Addr} {c : Str} : PySem.W.nsIn K mainGlobals c = some (some (.ref C)) → StE mu H C none a → RD K mu H (.exn c [] []) (.ref a)
  | exnd {a C b : Addr} {c : Str} {ks : List Str} {vs : List V} {ds : List D} : PySem.W.nsIn K mainGlobals c = some (some (.ref C)) → StE mu H C (some b) a → StX mu H b (ks.zip vs) → ks.length = ds.length → RDs K mu H ds vs → RD K mu H (.exn c ks ds) (.ref a)
inductive RDs (K : PySem.W.Frag) (mu : Mp) (H : Hp) : List D → List V → Prop
  | nil : RDs K mu H [] []
  | cons {d : D} {v : V} {ds : List D} {vs : List V} : RD K mu H d v → RDs K mu H ds vs → RDs K mu H (d :: ds) (v :: vs)
end

/-- what never changes -/
def Imm : HO → Prop
  | .tup _ => True
  | .frz _ _ => True
  | .ext _ => True
  | .xd _ => True
  | _ => False
/-- enough is as it was for all values to stand -/
structure Agr (mu : Mp) (H : Hp) (mu' : Mp) (H' : Hp) : Prop where
  pre : mu.l <+: mu'.l
  sub : ∀ a, mu.fz a → mu'.fz a
  lst : ∀ a o, H a = some o → mu.fz a → H' a = some o
  imm : ∀ a o, H a = some o → Imm o → a ∉ mu.l → H' a = some o ∧ a ∉ mu'.l
/-- later: what was not ours stands as it was, and does not become ours, nor one of those that stand still -/
structure Lat (mu : Mp) (H : Hp) (mu' : Mp) (H' : Hp) : Prop where
  pre : mu.l <+: mu'.l
  sub : ∀ a, mu.fz a → mu'.fz a
  ext : ∀ a o, H a = some o → a ∉ mu.l → H' a = some o ∧ a ∉ mu'.l ∧ (mu'.fz a → mu.fz a)
theorem Lat.refl {mu : Mp} {H : Hp} : Lat mu H mu H := ⟨List.prefix_rfl, fun _ h => h, fun _ _ h n => ⟨h, n, fun z => z⟩⟩
theorem Lat.trans {m0 m1 m2 : Mp} {H0 H1 H2 : Hp} (a : Lat m0 H0 m1 H1) (b : Lat m1 H1 m2 H2) : Lat m0 H0 m2 H2 :=
  ⟨a.pre.trans b.pre, fun x h => b.sub x (a.sub x h), fun x o h n => let ⟨h1, n1, z1⟩ := a.ext x o h n; let ⟨h2, n2, z2⟩ := b.ext x o h1 n1; ⟨h2, n2, fun z => z1 (z2 z)⟩⟩
theorem Agr.get {mu mu' : Mp} {H H' : Hp} (l : Agr mu H mu' H') {n : Nat} {a : Addr} (e : mu.l[n]? = some a) : mu'.l[n]? = some a := by
  obtain ⟨t, e2⟩ := l.pre
  rw [← e2, List.getElem?_append_left (List.getElem?_eq_some_iff.mp e).1]
  exact e
/-- what is new later was new ahead -/
theorem Lat.back {mu mu' : Mp} {H H' : Hp} (l : Lat mu H mu' H') {a : Addr} (h : H' a = none) (n : a ∉ mu.l) : H a = none := by
  cases q : H a with
  | none => rfl
  | some o => rw [(l.ext a o q n).1] at h; cases h
theorem Agr.stT {K : PySem.W.Frag} {mu mu' : Mp} {H H' : Hp} (l : Agr mu H mu' H') {a : Addr} {vs : List V} (q : StT K mu H a vs) : StT K mu' H' a vs :=
  ⟨(l.imm _ _ q.1 trivial q.2).1, (l.imm _ _ q.1 trivial q.2).2⟩
theorem Agr.stL {K : PySem.W.Frag} {mu mu' : Mp} {H H' : Hp} (l : Agr mu H mu' H') {a : Addr} {vs : List V} (q : StL K mu H a vs) : StL K mu' H' a vs := by
  rcases q with ⟨⟨o, h⟩, n⟩ | q
  · exact .inl ⟨⟨o, (l.imm _ _ h trivial n).1⟩, (l.imm _ _ h trivial n).2⟩
  · exact .inr q
theorem Agr.stE {mu mu' : Mp} {H H' : Hp} (l : Agr mu H mu' H') {C : Addr} {d : Option Addr} {a : Addr} (q : StE mu H C d a) : StE mu' H' C d a := by
  obtain ⟨n, φ, h, i⟩ := q
  exact ⟨(l.imm _ _ h trivial n).2, φ, (l.imm _ _ h trivial n).1, i⟩
theorem Agr.stX {mu mu' : Mp} {H H' : Hp} (l : Agr mu H mu' H') {b : Addr} {kvs : List (Str × V)} (q : StX mu H b kvs) : StX mu' H' b kvs :=
  ⟨(l.imm _ _ q.1 trivial q.2).1, (l.imm _ _ q.1 trivial q.2).2⟩

section
variable {K : PySem.W.Frag} {mu mu' : Mp} {H H' : Hp}
mutual
theorem RD.agr (l : Agr mu H mu' H') : ∀ {d : D} {v : V}, RD K mu H d v → RD K mu' H' d v
  | _, _, .non => .non
  | _, _, .bl b => .bl b
  | _, _, .int i => .int i
  | _, _, .str s => .str s
  | _, _, .tup q r => .tup (l.stT q) (RDs.agr l r)
  | _, _, .lst q n r => .lst (l.lst _ _ q n) (l.sub _ n) (RDs.agr l r)
  | _, _, .scr q r => .scr (l.stL q) (RDs.agr l r)
  | _, _, .ref e => .ref (l.get e)
  | _, _, .ty t => .ty t
  | _, _, .ctp q r => .ctp q (RDs.agr l r)
  | _, _, .dct q n z r => .dct (l.lst _ _ q n) (l.sub _ n) z (RDs.agr l r)
  | _, _, .dtp q n z r => .dtp (l.lst _ _ q n) (l.sub _ n) z (RDs.agr l r)
  | _, _, .ins g q n z r => .ins g (l.lst _ _ q n) (l.sub _ n) z (RDs.agr l r)
  | _, _, .glb g => .glb g
  | _, _, .exn0 g q => .exn0 g (l.stE q)
  | _, _, .exnd g q x z r => .exnd g (l.stE q) (l.stX x) z (RDs.agr l r)
theorem RDs.agr (l : Agr mu H mu' H') : ∀ {ds : List D} {vs : List V}, RDs K mu H ds vs → RDs K mu' H' ds vs
  | _, _, .nil => .nil
  | _, _, .cons r t => .cons (RD.agr l r) (RDs.agr l t)
end
theorem RDs.length : ∀ {ds : List D} {vs : List V}, RDs K mu H ds vs → ds.length = vs.length
  | _, _, .nil => rfl
  | _, _, .cons _ t => by simp [RDs.length t]
theorem RDs.get : ∀ {ds : List D} {vs : List V} {i : Nat} {d : D}, RDs K mu H ds vs → ds[i]? = some d → ∃ v, vs[i]? = some v ∧ RD K mu H d v
  | _, _, _, _, .nil, e => by simp at e
  | _, _, 0, _, .cons r _, e => by simp at e; subst e; exact ⟨_, rfl, r⟩
  | _, _, i + 1, d, .cons _ t, e => by
    obtain ⟨v, h1, h2⟩ := RDs.get (i := i) (d := d) t (by simpa using e)
    exact ⟨v, by simpa using h1, h2⟩
theorem RDs.append : ∀ {ds es : List D} {vs us : List V}, RDs K mu H ds vs → RDs K mu H es us → RDs K mu H (ds ++ es) (vs ++ us)
  | _, _, _, _, .nil, s => s
  | _, _, _, _, .cons r t, s => .cons r (RDs.append t s)
theorem RDs.snoc {ds : List D} {vs : List V} {d : D} {v : V} (a : RDs K mu H ds vs) (b : RD K mu H d v) : RDs K mu H (ds ++ [d]) (vs ++ [v]) := a.append (.cons b .nil)
theorem RDs.take : ∀ (n : Nat) {ds : List D} {vs : List V}, RDs K mu H ds vs → RDs K mu H (ds.take n) (vs.take n)
  | 0, _, _, _ => .nil
  | _ + 1, _, _, .nil => .nil
  | n + 1, _, _, .cons r t => .cons r (RDs.take n t)
theorem RDs.drop : ∀ (n : Nat) {ds : List D} {vs : List V}, RDs K mu H ds vs → RDs K mu H (ds.drop n) (vs.drop n)
  | 0, _, _, r => r
  | _ + 1, _, _, .nil => .nil
  | n + 1, _, _, .cons _ t => RDs.drop n t
theorem RDs.set {d : D} {v : V} (r : RD K mu H d v) : ∀ (n : Nat) {ds : List D} {vs : List V}, RDs K mu H ds vs → RDs K mu H (ds.set n d) (vs.set n v)
  | _, _, _, .nil => .nil
  | 0, _, _, .cons _ t => .cons r t
  | n + 1, _, _, .cons q t => .cons q (RDs.set r n t)
theorem RDs.reverse : ∀ {ds : List D} {vs : List V}, RDs K mu H ds vs → RDs K mu H ds.reverse vs.reverse
  | _, _, .nil => .nil
  | _, _, .cons r t => by rw [List.reverse_cons, List.reverse_cons]; exact (RDs.reverse t).snoc r
theorem RDs.ints : ∀ (ns : List Int), RDs K mu H (ns.map D.int) (ns.map V.int)
  | [] => .nil
  | n :: r => .cons (.int n) (RDs.ints r)
end

/-- pairs of a key and a value -/
inductive RKs {k : Type} (K : PySem.W.Frag) (mu : Mp) (H : Hp) : List (k × D) → List (k × V) → Prop
  | nil : RKs K mu H [] []
  | cons {x : k} {d : D} {v : V} {ds : List (k × D)} {vs : List (k × V)} : RD K mu H d v → RKs K mu H ds vs → RKs K mu H ((x, d) :: ds) ((x, v) :: vs)
section
variable {K : PySem.W.Frag} {mu mu' : Mp} {H H' : Hp} {k : Type}
theorem RKs.agr (l : Agr mu H mu' H') : ∀ {ds : List (k × D)} {vs : List (k × V)}, RKs K mu H ds vs → RKs K mu' H' ds vs
  | _, _, .nil => .nil
  | _, _, .cons r t => .cons (RD.agr l r) (RKs.agr l t)
theorem RKs.length : ∀ {ds : List (k × D)} {vs : List (k × V)}, RKs K mu H ds vs → ds.length = vs.length
  | _, _, .nil => rfl
  | _, _, .cons _ t => by simp [RKs.length t]
theorem RKs.lookup [BEq k] {x : k} : ∀ {ds : List (k × D)} {vs : List (k × V)}, RKs K mu H ds vs → ∀ {d : D}, ds.lookup x = some d → ∃ v, vs.lookup x = some v ∧ RD K mu H d v
  | _, _, .nil, d, e => by simp at e
  | _, _, .cons (x := y) r t, d, e => by
    rw [List.lookup_cons] at e ⊢
    cases q : (x == y) with
    | true => rw [q] at e; simp at e; subst e; exact ⟨_, by simp, r⟩
    | false =>
      rw [q] at e
      obtain ⟨v, h1, h2⟩ := RKs.lookup (x := x) t e
      exact ⟨v, by simpa using h1, h2⟩
theorem RKs.lookup_none [BEq k] {x : k} : ∀ {ds : List (k × D)} {vs : List (k × V)}, RKs K mu H ds vs → ds.lookup x = none → vs.lookup x = none
  | _, _, .nil, e => rfl
  | _, _, .cons (x := y) r t, e => by
    rw [List.lookup_cons] at e ⊢
    cases q : (x == y) with
    | true => rw [q] at e; simp at e
    | false => rw [q] at e; exact RKs.lookup_none (x := x) t e
end

/-- an object of ours at what the hand layer tracks -/
def RO (K : PySem.W.Frag) (mg : Str → Option Value) (mu : Mp) (H : Hp) : O → HO → Prop
  | .lst ds, .lst vs => RDs K mu H ds vs
  | .dk ds, .dK vs => RKs K mu H ds vs
  | .dt ds, .dT vs => RKs K mu H ds vs
  | .ins c ds, .ins C _ vs => PySem.W.nsIn K mainGlobals c = some (some (.ref C)) ∧ RKs K mu H ds vs
  | .lkd o, .frz _ u => RO K mg mu H o u
  | _, _ => False
theorem RO.agr {K : PySem.W.Frag} {mg : Str → Option Value} {mu mu' : Mp} {H H' : Hp} (l : Agr mu H mu' H') : ∀ {o : O} {u : HO}, RO K mg mu H o u → RO K mg mu' H' o u := by
  intro o
  induction o with
  | lst ds => intro u h; cases u <;> first | exact RDs.agr l h | exact h
  | dk ds => intro u h; cases u <;> first | exact RKs.agr l h | exact h
  | dt ds => intro u h; cases u <;> first | exact RKs.agr l h | exact h
  | ins c ds => intro u h; cases u <;> first | exact ⟨h.1, RKs.agr l h.2⟩ | exact h
  | lkd o ih => intro u h; cases u <;> first | exact ih h | exact h
theorem RO.notTup {K : PySem.W.Frag} {mg : Str → Option Value} {mu : Mp} {H : Hp} {o : O} {vs : List V} : ¬ RO K mg mu H o (.tup vs) := by
  intro h; cases o <;> exact h

/-- our heap stands for the hand layer's -/
structure Sim (K : PySem.W.Frag) (mg : Str → Option Value) (mu : Mp) (hs : Hs) (H : Hp) : Prop where
  len : mu.l.length = hs.length
  nd : mu.l.Nodup
  dj : ∀ a ∈ mu.l, ¬ mu.fz a
  fzl : ∀ a, mu.fz a → ∃ u, H a = some u
  obj : ∀ (n : Nat) (o : O), hs[n]? = some o → ∃ a u, mu.l[n]? = some a ∧ H a = some u ∧ RO K mg mu H o u
section
variable {K : PySem.W.Frag} {mg : Str → Option Value} {mu mu' : Mp} {hs : Hs} {H H' : Hp}
theorem Sim.there (S : Sim K mg mu hs H) {a : Addr} (h : a ∈ mu.l) : ∃ u, H a = some u := by
  obtain ⟨n, hn, e⟩ := List.getElem_of_mem h
  have hn' : n < hs.length := by rw [← S.len]; exact hn
  obtain ⟨b, u, e1, e2, _⟩ := S.obj n hs[n] (List.getElem?_eq_getElem hn')
  rw [List.getElem?_eq_getElem hn] at e1
  cases e1
  rw [← e]
  exact ⟨u, e2⟩
theorem Sim.fresh (S : Sim K mg mu hs H) {a : Addr} (h : H a = none) : a ∉ mu.l := fun m => by
  obtain ⟨u, e⟩ := S.there m
  rw [h] at e; cases e
theorem Sim.freshz (S : Sim K mg mu hs H) {a : Addr} (h : H a = none) : ¬ mu.fz a := fun m => by
  obtain ⟨u, e⟩ := S.fzl a m
  rw [h] at e; cases e
/-- with Sim ahead, later is enough -/
theorem Lat.agr (l : Lat mu H mu' H') (S : Sim K mg mu hs H) : Agr mu H mu' H' :=
  ⟨l.pre, l.sub, fun a vs h z => (l.ext a _ h fun m => S.dj a m z).1, fun a o h _ n => ⟨(l.ext a o h n).1, (l.ext a o h n).2.1⟩⟩
theorem Sim.at (S : Sim K mg mu hs H) {n : Nat} {a : Addr} {o : O} (e : mu.l[n]? = some a) (h : hs[n]? = some o) : ∃ u, H a = some u ∧ RO K mg mu H o u := by
  obtain ⟨b, u, e1, e2, e3⟩ := S.obj n o h
  rw [e] at e1; cases e1
  exact ⟨u, e2, e3⟩
/-- a new thing that isn't ours -/
theorem Lat.new {p : Addr} {o : HO} (hp : H p = none) : Lat mu H mu (upd H p o) :=
  ⟨List.prefix_rfl, fun _ h => h, fun a u h n => ⟨by rw [upd_ne (ne_of_none h hp)]; exact h, n, fun z => z⟩⟩
theorem Sim.mono (S : Sim K mg mu hs H) (l : Lat mu H mu H') (k : ∀ a ∈ mu.l, ∀ u, H a = some u → H' a = some u) : Sim K mg mu hs H' :=
  ⟨S.len, S.nd, S.dj, fun a z => by
    obtain ⟨u, e⟩ := S.fzl a z
    exact ⟨u, (l.ext a u e fun m => S.dj a m z).1⟩, fun n o h => by
    obtain ⟨a, u, e1, e2, e3⟩ := S.obj n o h
    exact ⟨a, u, e1, k a (List.mem_of_getElem? e1) u e2, RO.agr (l.agr S) e3⟩⟩
theorem Sim.new (S : Sim K mg mu hs H) {p : Addr} {o : HO} (hp : H p = none) : Sim K mg mu hs (upd H p o) :=
  S.mono (.new hp) fun a h u e => by rw [upd_ne (ne_of_none e hp)]; exact e
/-- p stands still from now on -/
def Mp.still (mu : Mp) (p : Addr) : Mp := ⟨mu.l, fun a => a = p ∨ mu.fz a⟩
/-- p is ours from now on -/
def Mp.own (mu : Mp) (p : Addr) : Mp := ⟨mu.l ++ [p], mu.fz⟩
theorem Agr.still {p : Addr} : Agr mu H (mu.still p) H := ⟨List.prefix_rfl, fun _ h => .inr h, fun _ _ h _ => h, fun _ _ h _ n => ⟨h, n⟩⟩
theorem Sim.still (S : Sim K mg mu hs H) {p : Addr} {u : HO} (h : H p = some u) (n : p ∉ mu.l) : Sim K mg (mu.still p) hs H :=
  ⟨S.len, S.nd, fun a m z => z.elim (fun e => n (e ▸ m)) (S.dj a m), fun a z => z.elim (fun e => ⟨u, e ▸ h⟩) (S.fzl a), fun k o h => by
    obtain ⟨a, u, e1, e2, e3⟩ := S.obj k o h
    exact ⟨a, u, e1, e2, RO.agr .still e3⟩⟩
/-- a new list that stands still -/
theorem Lat.newStill {p : Addr} {o : HO} (hp : H p = none) : Lat mu H (mu.still p) (upd H p o) :=
  ⟨List.prefix_rfl, fun _ h => .inr h, fun a u h n => ⟨by rw [upd_ne (ne_of_none h hp)]; exact h, n, fun z => z.elim (fun e => absurd e (ne_of_none h hp)) fun z => z⟩⟩
theorem Sim.newStill (S : Sim K mg mu hs H) {p : Addr} {o : HO} (hp : H p = none) : Sim K mg (mu.still p) hs (upd H p o) := (S.new hp).still upd_same (S.fresh hp)
theorem Agr.own {p : Addr} {vs : List V} (h : H p = some (.lst vs)) : Agr mu H (mu.own p) H :=
  ⟨List.prefix_append _ _, fun _ h => h, fun _ _ h _ => h, fun a o e i n => ⟨e, by
    show a ∉ mu.l ++ [p]
    simp only [List.mem_append, List.mem_singleton, not_or]
    exact ⟨n, fun z => by rw [z, h] at e; cases e; exact i⟩⟩⟩
theorem getElem?_own {m : List Addr} {hs : Hs} {p : Addr} (h : m.length = hs.length) : (m ++ [p])[hs.length]? = some p := by
  rw [List.getElem?_append_right (by omega), h, Nat.sub_self]
  rfl
/-- what was just made becomes ours -/
theorem Sim.adopt {p : Addr} {o : O} {u : HO} (S : Sim K mg mu hs H) (h : H p = some u) (n : p ∉ mu.l) (nz : ¬ mu.fz p) (g : Agr mu H (mu.own p) H) (r : RO K mg mu H o u) : Sim K mg (mu.own p) (hs ++ [o]) H := by
  refine ⟨by simp [Mp.own, S.len], ?_, fun a m => ?_, S.fzl, fun k q hq => ?_⟩
  · show (mu.l ++ [p]).Nodup
    rw [List.nodup_append]
    exact ⟨S.nd, by simp, fun b hb c hc => by simp at hc; subst hc; exact fun z => n (z ▸ hb)⟩
  · rcases List.mem_append.mp (show a ∈ mu.l ++ [p] from m) with m | m
    · exact S.dj a m
    · rw [List.mem_singleton.mp m]; exact nz
  · by_cases hm : k < hs.length
    · rw [List.getElem?_append_left hm] at hq
      obtain ⟨b, w, e1, e2, e3⟩ := S.obj k q hq
      exact ⟨b, w, g.get e1, e2, RO.agr g e3⟩
    · rw [List.getElem?_append_right (by omega)] at hq
      have hm' : k = hs.length := by
        have := (List.getElem?_eq_some_iff.mp hq).1
        simp at this
        omega
      subst hm'
      rw [Nat.sub_self] at hq
      simp at hq
      subst hq
      exact ⟨p, u, getElem?_own S.len, h, RO.agr g r⟩
/-- an object of ours is changed -/
theorem Lat.write {n : Nat} {a : Addr} {u : HO} (e : mu.l[n]? = some a) : Lat mu H mu (upd H a u) :=
  ⟨List.prefix_rfl, fun _ h => h, fun b o h nm => ⟨by rw [upd_ne (fun z => nm (by rw [z]; exact List.mem_of_getElem? e))]; exact h, nm, fun z => z⟩⟩
theorem Sim.write (S : Sim K mg mu hs H) {n : Nat} {a : Addr} {o : O} {u : HO} (e : mu.l[n]? = some a) (h : RO K mg mu H o u) : Sim K mg mu (hs.set n o) (upd H a u) := by
  have L : Agr mu H mu (upd H a u) := Lat.agr (.write e) S
  have hn : n < mu.l.length := (List.getElem?_eq_some_iff.mp e).1
  refine ⟨by rw [List.length_set]; exact S.len, S.nd, S.dj, fun b z => ?_, fun m q hq => ?_⟩
  · obtain ⟨w, ew⟩ := S.fzl b z
    by_cases hb : b = a
    · exact ⟨u, by rw [hb, upd_same]⟩
    · exact ⟨w, by rw [upd_ne hb]; exact ew⟩
  by_cases hm : n = m
  · subst hm
    rw [List.getElem?_set_self (by rw [← S.len]; exact hn)] at hq
    cases hq
    exact ⟨a, u, e, upd_same, RO.agr L h⟩
  · rw [List.getElem?_set_ne hm] at hq
    obtain ⟨b, w, e1, e2, e3⟩ := S.obj m q hq
    refine ⟨b, w, e1, ?_, RO.agr L e3⟩
    rw [upd_ne]
    · exact e2
    · intro z
      rw [z] at e1
      obtain ⟨h1, g1⟩ := List.getElem?_eq_some_iff.mp e
      obtain ⟨h2, g2⟩ := List.getElem?_eq_some_iff.mp e1
      exact hm ((List.getElem_inj S.nd).mp (g1.trans g2.symm))
/-- a new thing that is ours -/
theorem Lat.newOwn (S : Sim K mg mu hs H) {p : Addr} {u : HO} (hp : H p = none) : Lat mu H (mu.own p) (upd H p u) :=
  ⟨List.prefix_append _ _, fun _ h => h, fun a o h n => by
    have ne := ne_of_none h hp
    refine ⟨by rw [upd_ne ne]; exact h, ?_, fun z => z⟩
    show a ∉ mu.l ++ [p]
    simp [n, ne]⟩
theorem Sim.newOwn (S : Sim K mg mu hs H) {p : Addr} {o : O} {u : HO} (hp : H p = none) (h : RO K mg mu H o u) : Sim K mg (mu.own p) (hs ++ [o]) (upd H p u) := by
  have L : Agr mu H (mu.own p) (upd H p u) := Lat.agr (.newOwn S hp) S
  have S2 := S.new (o := u) hp
  refine ⟨by simp [Mp.own, S.len], ?_, fun a m => ?_, S2.fzl, fun k q hq => ?_⟩
  · show (mu.l ++ [p]).Nodup
    rw [List.nodup_append]
    exact ⟨S.nd, by simp, fun b hb c hc => by simp at hc; subst hc; exact fun z => S.fresh hp (z ▸ hb)⟩
  · rcases List.mem_append.mp (show a ∈ mu.l ++ [p] from m) with m | m
    · exact S.dj a m
    · rw [List.mem_singleton.mp m]; exact S.freshz hp
  · by_cases hm : k < hs.length
    · rw [List.getElem?_append_left hm] at hq
      obtain ⟨b, w, e1, e2, e3⟩ := S.obj k q hq
      exact ⟨b, w, L.get e1, by rw [upd_ne (ne_of_none e2 hp)]; exact e2, RO.agr L e3⟩
    · rw [List.getElem?_append_right (by omega)] at hq
      have hm' : k = hs.length := by
        have := (List.getElem?_eq_some_iff.mp hq).1
        simp at this
        omega
      subst hm'
      rw [Nat.sub_self] at hq
      simp at hq
      subst hq
      exact ⟨p, u, getElem?_own S.len, upd_same, RO.agr L h⟩
/-- a thing that is neither ours nor stands still is changed: nothing of ours leans on it -/
theorem Agr.priv {p : Addr} {vs : List V} {o : HO} (h : H p = some (.lst vs)) (nz : ¬ mu.fz p) : Agr mu H mu (upd H p o) :=
  ⟨List.prefix_rfl, fun _ h => h, fun a us e z => by rw [upd_ne (show a ≠ p from fun q => nz (q ▸ z))]; exact e, fun a u e i n => ⟨by
    rw [upd_ne]
    · exact e
    · intro z; rw [z, h] at e; cases e; exact i, n⟩⟩
theorem Sim.priv {p : Addr} {vs : List V} {o : HO} (S : Sim K mg mu hs H) (h : H p = some (.lst vs)) (n : p ∉ mu.l) (nz : ¬ mu.fz p) : Sim K mg mu hs (upd H p o) :=
  ⟨S.len, S.nd, S.dj, fun a z => by
    obtain ⟨u, e⟩ := S.fzl a z
    exact ⟨u, by rw [upd_ne (show a ≠ p from fun q => nz (q ▸ z))]; exact e⟩, fun k q hq => by
    obtain ⟨a, u, e1, e2, e3⟩ := S.obj k q hq
    exact ⟨a, u, e1, by rw [upd_ne (fun z => n (by rw [← z]; exact List.mem_of_getElem? e1))]; exact e2, RO.agr (.priv h nz) e3⟩⟩
end
end G

/-! # G2: what a function of ours says of a piece of the text; sequences -/
namespace G
open PySem PySem.Spec PyProof.Rows L2

/-- an exception that leaves -/
def RX (K : PySem.W.Frag) (mg : Str → Option Value) (mu : Mp) (H : Hp) (c : Str) (fs : List (Str × D)) (cls : Value) (dx : Option Addr) : Prop :=
  ∃ C, cls = .ref C ∧ PySem.W.nsIn K mainGlobals c = some (some (.ref C)) ∧ ((fs = [] ∧ dx = none) ∨ ∃ a vs, dx = some a ∧ H a = some (.xd vs) ∧ a ∉ mu.l ∧ RKs K mu H fs vs)
theorem RX.mono {K : PySem.W.Frag} {mg : Str → Option Value} {mu mu' : Mp} {hs : Hs} {H H' : Hp} {c : Str} {fs : List (Str × D)} {cls : Value} {dx : Option Addr} (l : Lat mu H mu' H') (S : Sim K mg mu hs H) (h : RX K mg mu H c fs cls dx) : RX K mg mu' H' c fs cls dx := by
  obtain ⟨C, e1, e2, h | ⟨a, vs, h1, h2, h3, h4⟩⟩ := h
  · exact ⟨C, e1, e2, .inl h⟩
  · exact ⟨C, e1, e2, .inr ⟨a, vs, h1, (l.ext a _ h2 h3).1, (l.ext a _ h2 h3).2.1, RKs.agr (l.agr S) h4⟩⟩

/-- what stands for what, by the heap at the start -/
abbrev Rel (a b : Type) := Hp → Mp → Hs → Hp → a → b → Prop
def Rel.Ok {a b : Type} (r : Rel a b) : Prop := ∀ (m0 m1 m2 : Mp) (hs : Hs) (H0 H1 H2 : Hp) (x : a) (y : b), Lat m0 H0 m1 H1 → Lat m1 H1 m2 H2 → r H1 m2 hs H2 x y → r H0 m2 hs H2 x y
def relD (K : PySem.W.Frag) : Rel D V := fun _ mu _ H d v => RD K mu H d v
def relB : Rel Bool Bool := fun _ _ _ _ a b => a = b
def relA (K : PySem.W.Frag) : Rel (List D) (List V) := fun _ mu _ H d v => RDs K mu H d v
/-- a list just made -/
def relF (K : PySem.W.Frag) (mg : Str → Option Value) : Rel (List D) V := fun H0 mu hs H ds v => ∃ a vs, v = .ref a ∧ H a = some (.lst vs) ∧ a ∉ mu.l ∧ ¬ mu.fz a ∧ H0 a = none ∧ RDs K mu H ds vs
theorem relD_ok {K : PySem.W.Frag} : (relD K).Ok := fun _ _ _ _ _ _ _ _ _ _ _ h => h
theorem relB_ok : relB.Ok := fun _ _ _ _ _ _ _ _ _ _ _ h => h
theorem relA_ok {K : PySem.W.Frag} : (relA K).Ok := fun _ _ _ _ _ _ _ _ _ _ _ h => h
theorem relF_ok {K : PySem.W.Frag} {mg : Str → Option Value} : (relF K mg).Ok := fun m0 m1 m2 hs H0 H1 H2 ds v l l2 ⟨a, vs, e, h, n, nz, f, r⟩ =>
  ⟨a, vs, e, h, n, nz, l.back f fun z => n (l2.pre.subset (l.pre.subset z)), r⟩

/-- a result, begun at mu, H: what is wanted of it -/
def Gd {a b : Type} (r : Rel a b) (K : PySem.W.Frag) (mg : Str → Option Value) (Wd : WX) (σ : L2.St) (mu : Mp) (H : Hp) (Q : b → Hp → Prop) : R a → Prop
  | .ok x hs' => ∀ mu' H' y, Lat mu H mu' H' → Sim K mg mu' hs' H' → r H mu' hs' H' x y → Q y H'
  | .exc c fs hs' => ∀ mu' H' cls dx, Lat mu H mu' H' → Sim K mg mu' hs' H' → RX K mg mu' H' c fs cls dx → Wd cls dx σ H'
  | .bad => False
section
variable {a b a' b' : Type} {r : Rel a b} {r' : Rel a' b'} {K : PySem.W.Frag} {mg : Str → Option Value} {Wd : WX} {σ : L2.St} {mu mu1 : Mp} {H H1 : Hp}
theorem Gd.later (ok : r.Ok) (l : Lat mu H mu1 H1) {Q : b → Hp → Prop} {x : R a} (h : Gd r K mg Wd σ mu H Q x) : Gd r K mg Wd σ mu1 H1 Q x := by
  cases x with
  | ok x hs' => exact fun mu' H' y l' s' q => h mu' H' y (l.trans l') s' (ok _ _ _ _ _ _ _ _ _ l l' q)
  | exc c fs hs' => exact fun mu' H' cls dx l' s' q => h mu' H' cls dx (l.trans l') s' q
  | bad => exact h
theorem Gd.imp {Q Q' : b → Hp → Prop} {x : R a} (h : Gd r K mg Wd σ mu H Q x) (i : ∀ y H', Q y H' → Q' y H') : Gd r K mg Wd σ mu H Q' x := by
  cases x with
  | ok x hs' => exact fun mu' H' y l' s' q => i _ _ (h mu' H' y l' s' q)
  | exc c fs hs' => exact h
  | bad => exact h
/-- one behind the other -/
theorem Gd.bind (ok : r'.Ok) {Q : b' → Hp → Prop} {x : R a} {k : a → Hs → R a'} (h : Gd r' K mg Wd σ mu H Q (x.bind k)) :
    Gd r K mg Wd σ mu H (fun y H1 => ∃ mu1 hs1 x, Lat mu H mu1 H1 ∧ Sim K mg mu1 hs1 H1 ∧ r H mu1 hs1 H1 x y ∧ Gd r' K mg Wd σ mu1 H1 Q (k x hs1)) x := by
  cases x with
  | ok x hs' => exact fun mu' H' y l s q => ⟨mu', hs', x, l, s, q, Gd.later ok l h⟩
  | exc c fs hs' => exact h
  | bad => exact h
end

/-- the slots -/
structure RE (K : PySem.W.Frag) (mu : Mp) (H : Hp) (e : Ev) (σ : L2.St) : Prop where
  len : e.length = σ.length
  at_ : ∀ (i : Nat) (d : D), e[i]? = some (some d) → ∃ v, σ[i]? = some (some v) ∧ RD K mu H d v
theorem RE.agr {K : PySem.W.Frag} {mu mu' : Mp} {H H' : Hp} {e : Ev} {σ : L2.St} (l : Agr mu H mu' H') (h : RE K mu H e σ) : RE K mu' H' e σ :=
  ⟨h.len, fun i d q => let ⟨v, h1, h2⟩ := h.at_ i d q; ⟨v, h1, RD.agr l h2⟩⟩
theorem RE.set {K : PySem.W.Frag} {mu : Mp} {H : Hp} {e : Ev} {σ : L2.St} {d : D} {v : V} (h : RE K mu H e σ) (i : Nat) (r : RD K mu H d v) : RE K mu H (e.set i (some d)) (σ.set i (some v)) := by
  refine ⟨by rw [List.length_set, List.length_set]; exact h.len, fun j x q => ?_⟩
  by_cases hj : i = j
  · subst hj
    by_cases hi : i < e.length
    · rw [List.getElem?_set_self hi] at q
      cases q
      exact ⟨v, List.getElem?_set_self (by rw [← h.len]; exact hi), r⟩
    · rw [List.getElem?_eq_none (by simpa using hi)] at q; cases q
  · rw [List.getElem?_set_ne hj] at q
    rw [List.getElem?_set_ne hj]
    exact h.at_ j x q

/-- readings by our functions -/
def tG {a b : Type} (r : Rel a b) (K : PySem.W.Frag) (mg : Str → Option Value) (Wd : WX) (f : Ev → Hs → R a) : L2.St → Hp → (b → Hp → Prop) → Prop :=
  fun σ H Q => ∃ e mu hs, Sim K mg mu hs H ∧ RE K mu H e σ ∧ Gd r K mg Wd σ mu H Q (f e hs)

theorem PE.imp {X : Cx} {e : Expr} {t t' : TE} (h : PE X e t) (i : ∀ σ H Q, t' σ H Q → t σ H Q) : PE X e t' := ⟨fun pins s σ H Q I q => h.run pins s σ H Q I (i σ H Q q)⟩
theorem PT.imp {X : Cx} {e : Expr} {t t' : TT} (h : PT X e t) (i : ∀ σ H Q, t' σ H Q → t σ H Q) : PT X e t' := ⟨fun pins s σ H Q I q => h.run pins s σ H Q I (i σ H Q q)⟩
theorem PW.imp {X : Cx} {e : Expr} {t t' : TT} (h : PW X e t) (i : ∀ σ H Q, t' σ H Q → t σ H Q) : PW X e t' := ⟨fun wh pins s σ H Q I q => h.run wh pins s σ H Q I (i σ H Q q)⟩
theorem PA.imp {X : Cx} {e : List Expr} {t t' : TA} (h : PA X e t) (i : ∀ σ H Q, t' σ H Q → t σ H Q) : PA X e t' := ⟨fun pos pins s σ H Q I q => h.run pos pins s σ H Q I (i σ H Q q)⟩

/-- an expression; one whose list is new; a test; arguments -/
abbrev UE (X : Cx) (Wd : WX) (e : Expr) (f : FE) : Prop := PE X e (tG (relD X.K) X.K X.mg Wd f)
abbrev FL := Ev → Hs → R (List D)
abbrev UF (X : Cx) (Wd : WX) (e : Expr) (f : FL) : Prop := PE X e (tG (relF X.K X.mg) X.K X.mg Wd f)
abbrev UT (X : Cx) (Wd : WX) (e : Expr) (f : FT) : Prop := PT X e (tG relB X.K X.mg Wd f)
abbrev UW (X : Cx) (Wd : WX) (e : Expr) (f : FT) : Prop := PW X e (tG relB X.K X.mg Wd f)
abbrev UA (X : Cx) (Wd : WX) (es : List Expr) (f : FA) : Prop := PA X es (tG (relA X.K) X.K X.mg Wd f)

section
variable {X : Cx} {Wd : WX} {a b : Type} {r : Rel a b}
/-- from a reading of ours to the hand layer's, the first part run -/
theorem tG_seq {K : PySem.W.Frag} {mg : Str → Option Value} {a' b' : Type} {r' : Rel a' b'} (ok : r'.Ok) {f : Ev → Hs → R a} {k : Ev → a → Hs → R a'} {σ : L2.St} {H : Hp} {Q : b' → Hp → Prop}
    (h : tG r' K mg Wd (fun e hs => (f e hs).bind (k e)) σ H Q) :
    tG r K mg Wd f σ H (fun y H1 => ∃ e mu1 hs1 x, Sim K mg mu1 hs1 H1 ∧ RE K mu1 H1 e σ ∧ r H mu1 hs1 H1 x y ∧ Gd r' K mg Wd σ mu1 H1 Q (k e x hs1)) := by
  obtain ⟨e, mu, hs, S, E, g⟩ := h
  refine ⟨e, mu, hs, S, E, (Gd.bind (r := r) ok g).imp fun y H' ⟨mu1, hs1, x, l, s, q, g'⟩ => ⟨e, mu1, hs1, x, s, E.agr (l.agr S), q, g'⟩⟩

/-! ### names, constants -/
def eName (i : Nat) : FE := fun e hs => match e[i]? with
  | some (some d) => .ok d hs
  | _ => .bad
theorem ue_name (i : Nat) {x : Str} {pos : Pos} (hN : X.N[i]? = some x := by rfl) (hv : Vis X.env.scope x := by first | exact Or.inl rfl | exact Or.inr (Or.inl rfl) | exact Or.inr (Or.inr rfl)) (hd : (x == ("__debug__" : Str)) = false := by decide)
    (hcd : (x == ("__classdict__" : Str)) = false := by decide) : UE X Wd (.Name x pos) (eName i) := by
  refine PE.imp (pe_var hN hv hd hcd) fun σ H Q h => ?_
  obtain ⟨e, mu, hs, S, E, g⟩ := h
  unfold eName at g
  split at g
  · rename_i d q
    obtain ⟨v, h1, h2⟩ := E.at_ i d q
    exact ⟨v, h1, g mu H v .refl S h2⟩
  · exact g.elim
def eC (d : D) : FE := fun _ hs => .ok d hs
theorem uC {e : Expr} {v : V} {d : D} (h : PE X e (tC v)) (r : ∀ mu H, RD X.K mu H d v) : UE X Wd e (eC d) := by
  refine PE.imp h fun σ H Q h => ?_
  obtain ⟨e, mu, hs, S, E, g⟩ := h
  exact g mu H v .refl S (r mu H)
theorem ue_int {i : Int} {j : Nat} {pos : Pos} : UE X Wd (.Constant (.int i) j pos) (eC (.int i)) := uC pe_int fun _ _ => .int i
theorem ue_bl {i : Bool} {j : Nat} {pos : Pos} : UE X Wd (.Constant (.bool i) j pos) (eC (.bl i)) := uC pe_bl fun _ _ => .bl i
theorem ue_non {j : Nat} {pos : Pos} : UE X Wd (.Constant .none j pos) (eC .non) := uC pe_non fun _ _ => .non
theorem ue_str {i : Str} {j : Nat} {pos : Pos} : UE X Wd (.Constant (.str i) j pos) (eC (.str i)) := uC pe_str fun _ _ => .str i
/-- a constant of the module -/
theorem ue_glob {x : Str} {v : V} {d : D} {u : Value} {pos : Pos} (hg : Gl X x) (hm : X.mg x = some u) (q : RelV v u) (r : ∀ mu H, RD X.K mu H d v) (hd : (x == ("__debug__" : Str)) = false := by decide) : UE X Wd (.Name x pos) (eC d) := uC (pe_glob hg hm q hd) r

/-! ### arguments -/
def aNil : FA := fun _ hs => .ok [] hs
def aCons (f : FE) (g : FA) : FA := fun e hs => (f e hs).bind fun d hs => (g e hs).bind fun ds hs => .ok (d :: ds) hs
theorem ua_nil : UA X Wd [] aNil := by
  refine PA.imp pa_nil fun σ H Q h => ?_
  obtain ⟨e, mu, hs, S, E, g⟩ := h
  exact g mu H [] .refl S .nil
theorem ua_cons {e : Expr} {es : List Expr} {f : FE} {g : FA} (ha : UE X Wd e f) (hr : UA X Wd es g) (hs : starEach (e :: es) X.env = (false, eval e X.env) :: starEach es X.env := by rfl) : UA X Wd (e :: es) (aCons f g) := by
  refine PA.imp (pa_cons ha hr hs) fun σ H Q h => ?_
  obtain ⟨e, mu, hs, S, E, q⟩ := tG_seq (r := relD X.K) relA_ok h
  refine ⟨e, mu, hs, S, E, q.imp fun x H1 ⟨e, mu1, hs1, d, S1, E1, r1, g1⟩ => ?_⟩
  refine ⟨e, mu1, hs1, S1, E1, (Gd.bind (r := relA X.K) relA_ok g1).imp fun xs H2 ⟨mu2, hs2, ds, l2, S2, r2, g2⟩ => ?_⟩
  exact g2 mu2 H2 _ .refl S2 (.cons (RD.agr (l2.agr S1) r1) r2)

/-! ### new lists -/
/-- as a value: it stands still from now on -/
def eV (f : FL) : FE := fun e hs => (f e hs).bind fun ds hs => .ok (.lst ds) hs
theorem ue_v {e : Expr} {f : FL} (h : UF X Wd e f) : UE X Wd e (eV f) := by
  refine PE.imp h fun σ H Q h => ?_
  obtain ⟨e, mu, hs, S, E, g⟩ := h
  refine ⟨e, mu, hs, S, E, ?_⟩
  unfold eV at g
  cases q : f e hs with
  | ok ds hs' =>
    rw [q] at g
    intro mu' H' y l s ⟨a, vs, h1, h2, h3, h4, h5, h6⟩
    subst h1
    refine g (mu'.still a) H' _ ⟨l.pre, fun b z => .inr (l.sub b z), fun b o hb nb => ?_⟩ (s.still h2 h3) (.lst h2 (.inl rfl) (RDs.agr .still h6))
    have := l.ext b o hb nb
    exact ⟨this.1, this.2.1, fun z => z.elim (fun e => absurd e (ne_of_none hb h5)) this.2.2⟩
  | exc c fs hs' => rw [q] at g; exact g
  | bad => rw [q] at g; exact g
/-- as an object that may change: it is ours from now on -/
def eM (f : FL) : FE := fun e hs => (f e hs).bind fun ds hs => .ok (.ref hs.length) (hs ++ [.lst ds])
theorem ue_m {e : Expr} {f : FL} (h : UF X Wd e f) : UE X Wd e (eM f) := by
  refine PE.imp h fun σ H Q h => ?_
  obtain ⟨e, mu, hs, S, E, g⟩ := h
  refine ⟨e, mu, hs, S, E, ?_⟩
  unfold eM at g
  cases q : f e hs with
  | ok ds hs' =>
    rw [q] at g
    intro mu' H' y l s ⟨a, vs, h1, h2, h3, h4, h5, h6⟩
    subst h1
    refine g (mu'.own a) H' _ ⟨l.pre.trans (List.prefix_append _ _), l.sub, fun b o hb nb => ?_⟩ (s.adopt h2 h3 h4 (.own h2) h6) (.ref (getElem?_own s.len))
    have := l.ext b o hb nb
    refine ⟨this.1, ?_, this.2.2⟩
    show b ∉ mu'.l ++ [a]
    simp only [List.mem_append, List.mem_singleton, not_or]
    exact ⟨this.2.1, ne_of_none hb h5⟩
  | exc c fs hs' => rw [q] at g; exact g
  | bad => rw [q] at g; exact g
/-- [a, b, ..] -/
theorem uf_lst {es : List Expr} {pos : Pos} {f : FA} (h : UA X Wd es f) (hz : es.length ≤ sizeLine) (hl : ∀ e hs ds hs', f e hs = .ok ds hs' → ds.length = es.length) : UF X Wd (.List es pos) f := by
  refine PE.imp (pe_lst h) fun σ H Q h => ?_
  obtain ⟨e, mu, hs, S, E, g⟩ := h
  refine ⟨e, mu, hs, S, E, ?_⟩
  cases q : f e hs with
  | ok ds hs' =>
    rw [q] at g
    intro mu' H' y l s r
    refine ⟨by rw [← RDs.length r, hl _ _ _ _ q]; exact hz, fun p hp => ?_⟩
    exact g mu' _ _ (l.trans (.new hp)) (s.new hp) ⟨p, y, rfl, upd_same, s.fresh hp, s.freshz hp, l.back hp fun z => s.fresh hp (l.pre.subset z), RDs.agr (Lat.agr (.new hp) s) r⟩
  | exc c fs hs' => rw [q] at g; exact g
  | bad => rw [q] at g; exact g
/-- (a, b, ..) -/
def eTup (f : FA) : FE := fun e hs => (f e hs).bind fun ds hs => .ok (.tup ds) hs
theorem ue_tup {es : List Expr} {k : Nat} {pos : Pos} {f : FA} (h : UA X Wd es f) (hz : es.length ≤ sizeLine) (hl : ∀ e hs ds hs', f e hs = .ok ds hs' → ds.length = es.length) : UE X Wd (.Tuple es k pos) (eTup f) := by
  refine PE.imp (pe_tup h) fun σ H Q h => ?_
  obtain ⟨e, mu, hs, S, E, g⟩ := h
  refine ⟨e, mu, hs, S, E, ?_⟩
  unfold eTup at g
  cases q : f e hs with
  | ok ds hs' =>
    rw [q] at g
    intro mu' H' y l s r
    refine ⟨by rw [← RDs.length r, hl _ _ _ _ q]; exact hz, fun p hp => ?_⟩
    exact g mu' _ _ (l.trans (.new hp)) (s.new hp) (.tup ⟨upd_same, s.fresh hp⟩ (RDs.agr (Lat.agr (.new hp) s) r))
  | exc c fs hs' => rw [q] at g; exact g
  | bad => rw [q] at g; exact g
/-- as many as are written -/
theorem len_nil : ∀ e hs ds hs', aNil e hs = .ok ds hs' → ds.length = 0 := fun e hs ds hs' h => by cases h; rfl
theorem len_cons {f : FE} {g : FA} {n : Nat} (h : ∀ e hs ds hs', g e hs = .ok ds hs' → ds.length = n) : ∀ e hs ds hs', aCons f g e hs = .ok ds hs' → ds.length = n + 1 := fun e hs ds hs' q => by
  unfold aCons at q
  cases q1 : f e hs with
  | ok d h1 =>
    rw [q1] at q
    rw [R.bind_ok] at q
    cases q2 : g e h1 with
    | ok es h2 =>
      rw [q2] at q
      cases q
      rw [List.length_cons, h _ _ _ _ q2]
    | exc c fs h2 => rw [q2] at q; cases q
    | bad => rw [q2] at q; cases q
  | exc c fs h2 => rw [q1] at q; cases q
  | bad => rw [q1] at q; cases q
end
end G

/-! # G3: operators, comparisons, subscripts, truth -/
namespace G
open PySem PySem.Spec PyProof.Rows L2

/-- a list's items, where it may be changed or is new; of any list that may be read; a tuple's -/
def lstOf (hs : Hs) : D → Option (List D)
  | .lst ds => some ds
  | .ref n => match hs[n]? with | some (.lst ds) => some ds | _ => none
  | _ => none
def rdOf (hs : Hs) : D → Option (List D)
  | .scr ds => some ds
  | d => lstOf hs d
def tupOf : D → Option (List D)
  | .tup ds => some ds
  | .ctp ds => some ds
  | _ => none
section
variable {K : PySem.W.Frag} {mg : Str → Option Value} {mu : Mp} {hs : Hs} {H : Hp} {d : D} {v : V} {ds : List D}
theorem lstOf_at (S : Sim K mg mu hs H) (r : RD K mu H d v) (e : lstOf hs d = some ds) : ∃ a vs, v = .ref a ∧ H a = some (.lst vs) ∧ RDs K mu H ds vs := by
  cases r with
  | lst q n r => cases e; exact ⟨_, _, rfl, q, r⟩
  | ref q =>
    unfold lstOf at e
    dsimp only at e
    split at e
    · rename_i ds' he
      cases e
      obtain ⟨u, h1, h2⟩ := S.at q he
      cases u <;> first | exact ⟨_, _, rfl, h1, h2⟩ | exact h2.elim
    · cases e
  | _ => cases e
theorem rdOf_at (S : Sim K mg mu hs H) (r : RD K mu H d v) (e : rdOf hs d = some ds) : ∃ a vs, v = .ref a ∧ SqL K H a vs ∧ RDs K mu H ds vs := by
  cases r with
  | scr q r => cases e; exact ⟨_, _, rfl, q.sq, r⟩
  | lst q n r => cases e; exact ⟨_, _, rfl, .of q, r⟩
  | ref q =>
    obtain ⟨a, vs, h1, h2, h3⟩ := lstOf_at (d := .ref _) S (.ref q) e
    exact ⟨a, vs, h1, .of h2, h3⟩
  | _ => cases e
theorem tupOf_at (r : RD K mu H d v) (e : tupOf d = some ds) : ∃ a vs, v = .ref a ∧ SqT K H a vs ∧ RDs K mu H ds vs := by
  cases r with
  | tup q r => cases e; exact ⟨_, _, rfl, q.sq, r⟩
  | ctp q r => cases e; exact ⟨_, _, rfl, sqT_c q, r⟩
  | _ => cases e
end

/-! ### by values -/
/-- an operator by values: our heap stays as it is -/
def rB (K : PySem.W.Frag) (mg : Str → Option Value) (g : Hs → D → D → Option D) : R2 := fun x y H Q => ∃ mu hs d e w, Sim K mg mu hs H ∧ RD K mu H d x ∧ RD K mu H e y ∧ g hs d e = some w ∧
  ∀ mu' H' v, Lat mu H mu' H' → Sim K mg mu' hs H' → RD K mu' H' w v → Q v H'
def rU1 (K : PySem.W.Frag) (mg : Str → Option Value) (g : Hs → D → Option D) : V → Hp → VK → Prop := fun x H Q => ∃ mu hs d w, Sim K mg mu hs H ∧ RD K mu H d x ∧ g hs d = some w ∧
  ∀ mu' H' v, Lat mu H mu' H' → Sim K mg mu' hs H' → RD K mu' H' w v → Q v H'
def R.ofO {a : Type} (o : Option a) (hs : Hs) : R a := match o with | some x => .ok x hs | none => .bad
def eBin (g : Hs → D → D → Option D) (f1 f2 : FE) : FE := fun e hs => (f1 e hs).bind fun x hs => (f2 e hs).bind fun y hs => R.ofO (g hs x y) hs
def eUn (g : Hs → D → Option D) (f1 : FE) : FE := fun e hs => (f1 e hs).bind fun x hs => R.ofO (g hs x) hs
section
variable {X : Cx} {Wd : WX} {a b : Expr} {f1 f2 : FE} {pos : Pos} {g : Hs → D → D → Option D} {g1 : Hs → D → Option D}
theorem tG_bin {K : PySem.W.Frag} {mg : Str → Option Value} {σ : L2.St} {H : Hp} {Q : VK} (h : tG (relD K) K mg Wd (eBin g f1 f2) σ H Q) :
    tOp (rB K mg g) (tG (relD K) K mg Wd f1) (tG (relD K) K mg Wd f2) σ H Q := by
  obtain ⟨e, mu, hs, S, E, q⟩ := tG_seq (r := relD K) relD_ok h
  refine ⟨e, mu, hs, S, E, q.imp fun x H1 ⟨e, mu1, hs1, d, S1, E1, r1, g1⟩ => ?_⟩
  refine ⟨e, mu1, hs1, S1, E1, (Gd.bind (r := relD K) relD_ok g1).imp fun y H2 ⟨mu2, hs2, d2, l2, S2, r2, g2⟩ => ?_⟩
  cases q : g hs2 d d2 with
  | none => rw [q] at g2; exact g2.elim
  | some w => rw [q] at g2; exact ⟨mu2, hs2, d, d2, w, S2, RD.agr (l2.agr S1) r1, r2, q, g2⟩
theorem tG_un {K : PySem.W.Frag} {mg : Str → Option Value} {σ : L2.St} {H : Hp} {Q : VK} (h : tG (relD K) K mg Wd (eUn g1 f1) σ H Q) :
    tG (relD K) K mg Wd f1 σ H (fun x H1 => rU1 K mg g1 x H1 Q) := by
  obtain ⟨e, mu, hs, S, E, q⟩ := tG_seq (r := relD K) relD_ok h
  refine ⟨e, mu, hs, S, E, q.imp fun x H1 ⟨e, mu1, hs1, d, S1, E1, r1, g2⟩ => ?_⟩
  cases q : g1 hs1 d with
  | none => rw [q] at g2; exact g2.elim
  | some w => rw [q] at g2; exact ⟨mu1, hs1, d, w, S1, r1, q, g2⟩
theorem ue_bin {op : Operator} (ho : OpR X (binaryOp op) (rB X.K X.mg g)) (ha : UE X Wd a f1) (hb : UE X Wd b f2) : UE X Wd (.BinOp a op b pos) (eBin g f1 f2) := PE.imp (pe_op ho ha hb) fun _ _ _ h => tG_bin h
theorem ue_cmp {op : CmpOp} (ho : OpR X (compareOp op) (rB X.K X.mg g)) (ha : UE X Wd a f1) (hb : UE X Wd b f2) (hm : behindInMarks op b = false := by first | exact nomark _ | rfl) : UE X Wd (.Compare a [op] [b] pos) (eBin g f1 f2) := PE.imp (pe_cmpR ho ha hb hm) fun _ _ _ h => tG_bin h
/-- a value that is a bool, as a test -/
def eB (f : FE) : FT := fun e hs => (f e hs).bind fun d hs => match d with | .bl b => .ok b hs | _ => .bad
theorem tG_bool {K : PySem.W.Frag} {mg : Str → Option Value} {σ : L2.St} {H : Hp} {f : FE} {Q : Bool → Hp → Prop} (h : tG relB K mg Wd (eB f) σ H Q) : tG (relD K) K mg Wd f σ H (fun x H1 => ∃ k, x = .bl k ∧ Q k H1) := by
  obtain ⟨e, mu, hs, S, E, q⟩ := tG_seq (r := relD K) relB_ok h
  refine ⟨e, mu, hs, S, E, q.imp fun x H1 ⟨e, mu1, hs1, d, S1, E1, r1, g2⟩ => ?_⟩
  cases r1 <;> first | exact ⟨_, rfl, g2 mu1 H1 _ .refl S1 rfl⟩ | exact g2.elim
theorem ut_cmp {op : CmpOp} (ho : OpR X (compareOp op) (rB X.K X.mg g)) (ha : UE X Wd a f1) (hb : UE X Wd b f2) (hm : behindInMarks op b = false := by first | exact nomark _ | rfl) : UT X Wd (.Compare a [op] [b] pos) (eB (eBin g f1 f2)) :=
  PT.imp (pt_cmpR ho ha hb hm) fun σ H Q h => tG_bin_t h
where tG_bin_t {σ : L2.St} {H : Hp} {Q : Bool → Hp → Prop} (h : tG relB X.K X.mg Wd (eB (eBin g f1 f2)) σ H Q) : tTest (tOp (rB X.K X.mg g) (tG (relD X.K) X.K X.mg Wd f1) (tG (relD X.K) X.K X.mg Wd f2)) σ H Q := tG_bin (tG_bool h)
/-- a < b < c -/
def eChain (g g' : Hs → D → D → Option D) (f1 f2 f3 : FE) : FE := fun e hs => (f1 e hs).bind fun x hs => (f2 e hs).bind fun y hs => (R.ofO (g hs x y) hs).bind fun k hs => match k with
  | .bl true => (f3 e hs).bind fun z hs => R.ofO (g' hs y z) hs
  | .bl false => .ok (.bl false) hs
  | _ => .bad
theorem tG_chain {K : PySem.W.Frag} {mg : Str → Option Value} {g' : Hs → D → D → Option D} {f3 : FE} {σ : L2.St} {H : Hp} {Q : VK} (h : tG (relD K) K mg Wd (eChain g g' f1 f2 f3) σ H Q) :
    tChain (rB K mg g) (rB K mg g') (tG (relD K) K mg Wd f1) (tG (relD K) K mg Wd f2) (tG (relD K) K mg Wd f3) σ H Q := by
  obtain ⟨e, mu, hs, S, E, q⟩ := tG_seq (r := relD K) relD_ok h
  refine ⟨e, mu, hs, S, E, q.imp fun x H1 ⟨e, mu1, hs1, d, S1, E1, r1, g1⟩ => ?_⟩
  refine ⟨e, mu1, hs1, S1, E1, (Gd.bind (r := relD K) relD_ok g1).imp fun y H2 ⟨mu2, hs2, d2, l2, S2, r2, g2⟩ => ?_⟩
  cases q : g hs2 d d2 with
  | none => rw [q] at g2; exact g2.elim
  | some w =>
    rw [q] at g2
    refine ⟨mu2, hs2, d, d2, w, S2, RD.agr (l2.agr S1) r1, r2, q, fun mu3 H3 v l3 S3 r3 => ?_⟩
    cases r3 <;> first
      | (rename_i k
         refine ⟨k, rfl, ?_⟩
         cases k with
         | true =>
           rw [if_pos rfl]
           have g3 : Gd (relD K) K mg Wd σ mu2 H2 Q ((f3 e hs2).bind fun z hs => R.ofO (g' hs d2 z) hs) := g2
           refine ⟨e, mu3, hs2, S3, (E1.agr (l2.agr S1)).agr (l3.agr S2), (Gd.bind (r := relD K) relD_ok (Gd.later relD_ok l3 g3)).imp fun z H4 ⟨mu4, hs4, d4, l4, S4, r4, g4⟩ => ?_⟩
           cases q' : g' hs4 d2 d4 with
           | none => rw [q'] at g4; exact g4.elim
           | some w' => rw [q'] at g4; exact ⟨mu4, hs4, d2, d4, w', S4, RD.agr (l4.agr S3) (RD.agr (l3.agr S2) r2), r4, q', g4⟩
         | false =>
           rw [if_neg Bool.false_ne_true]
           exact g2 mu3 H3 _ l3 S3 (.bl false))
      | exact g2.elim
theorem ue_chain {op op' : CmpOp} {c : Expr} {g' : Hs → D → D → Option D} {f3 : FE} (ho : OpR X (compareOp op) (rB X.K X.mg g)) (ho' : OpR X (compareOp op') (rB X.K X.mg g')) (ha : UE X Wd a f1) (hb : UE X Wd b f2) (hc : UE X Wd c f3)
    (hm : lastMarks [op, op'] [b, c] = false := by with_unfolding_all rfl) : UE X Wd (.Compare a [op, op'] [b, c] pos) (eChain g g' f1 f2 f3) := PE.imp (pe_chain ho ho' ha hb hc hm) fun _ _ _ h => tG_chain h
theorem ut_chain {op op' : CmpOp} {c : Expr} {g' : Hs → D → D → Option D} {f3 : FE} (ho : OpR X (compareOp op) (rB X.K X.mg g)) (ho' : OpR X (compareOp op') (rB X.K X.mg g')) (ha : UE X Wd a f1) (hb : UE X Wd b f2) (hc : UE X Wd c f3)
    (hm : lastMarks [op, op'] [b, c] = false := by with_unfolding_all rfl) : UT X Wd (.Compare a [op, op'] [b, c] pos) (eB (eChain g g' f1 f2 f3)) := PT.imp (pt_chain ho ho' ha hb hc hm) fun _ _ _ h => tG_chain (tG_bool h)

/-! ### truth, and, or, not -/
def tru (hs : Hs) : D → Option Bool
  | .non => some false
  | .bl b => some b
  | .int i => some (i != 0)
  | .str s => if s.length ≤ sizeLine then some ((s.length : Int) != 0) else none
  | .tup ds => some (!ds.isEmpty)
  | .ctp ds => some (!ds.isEmpty)
  | .dct ks ds => some (!(ks.zip ds).isEmpty)
  | .dtp _ _ => none
  | .ins _ _ _ => none
  | .glb _ => none
  | .exn _ _ _ => none
  | .ref n => (match hs[n]? with | some (.lst ds) => some (!ds.isEmpty) | some (.dk kvs) => some (!kvs.isEmpty) | _ => none)
  | d => (rdOf hs d).map fun ds => !ds.isEmpty
def eT (f : FE) : FT := fun e hs => (f e hs).bind fun d hs => R.ofO (tru hs d) hs
theorem isEmpty_of {K : PySem.W.Frag} {mu : Mp} {H : Hp} {ds : List D} {vs : List V} (r : RDs K mu H ds vs) : ds.isEmpty = vs.isEmpty := by cases r <;> rfl
theorem isEmpty_zip {K : PySem.W.Frag} {mu : Mp} {H : Hp} {ds : List D} {vs : List V} (r : RDs K mu H ds vs) {ks : List Key} : (ks.zip ds).isEmpty = (ks.zip vs).isEmpty := by
  cases r <;> cases ks <;> rfl
theorem ut_truth (ha : UE X Wd a f1) (he : ∀ whole, isTrue a X.env whole = (do let v ← whole; standAt a.pos; holding [v] (truthy v)) := by intro _; rfl) : UT X Wd a (eT f1) := by
  refine PT.imp (pt_truth ha he) fun σ H Q h => ?_
  obtain ⟨e, mu, hs, S, E, q⟩ := tG_seq (r := relD X.K) relB_ok h
  refine ⟨e, mu, hs, S, E, q.imp fun x H1 ⟨e, mu1, hs1, d, S1, E1, r1, g2⟩ => ?_⟩
  cases q : tru hs1 d with
  | none => rw [q] at g2; exact g2.elim
  | some k =>
    rw [q] at g2
    refine ⟨k, ?_, g2 mu1 H1 k .refl S1 rfl⟩
    cases r1 with
    | non => cases q; rfl
    | bl b => cases q; rfl
    | int i => cases q; rfl
    | str s =>
      unfold tru at q
      dsimp only at q
      split at q
      · cases q; exact ⟨by assumption, rfl⟩
      · cases q
    | tup h r => cases q; exact .inr (.inl ⟨_, h.sq, by rw [isEmpty_of r]⟩)
    | lst h n r => cases q; exact .inl ⟨_, .of h, by show (!List.isEmpty _) = _; rw [isEmpty_of r]⟩
    | scr h r => cases q; exact .inl ⟨_, h.sq, by show (!List.isEmpty _) = _; rw [isEmpty_of r]⟩
    | ref h =>
      unfold tru at q
      dsimp only at q
      split at q
      · rename_i ds hd
        cases q
        obtain ⟨u, e2, e3⟩ := S1.at h hd
        cases u with
        | lst vs => exact .inl ⟨vs, .of e2, by rw [isEmpty_of (show RDs _ _ _ ds vs from e3)]⟩
        | _ => exact e3.elim
      · rename_i kvs hd
        cases q
        obtain ⟨u, e2, e3⟩ := S1.at h hd
        cases u with
        | dK vs =>
          refine .inr (.inr ⟨vs, e2, ?_⟩)
          cases (show RKs _ _ _ kvs vs from e3) <;> rfl
        | _ => exact e3.elim
      · cases q
    | ty t => cases q
    | dtp _ _ _ _ => cases q
    | ins _ _ _ _ _ => cases q
    | glb _ => cases q
    | exn0 _ _ => cases q
    | exnd _ _ _ _ _ => cases q
    | ctp h r => cases q; exact .inr (.inl ⟨_, sqT_c h, by rw [isEmpty_of r]⟩)
    | dct h n z r =>
      cases q
      refine .inr (.inr ⟨_, h, ?_⟩)
      show (!List.isEmpty _) = !List.isEmpty _
      congr 1
      exact isEmpty_zip r
theorem ut_val (ha : UE X Wd a f1) (he : ∀ whole, isTrue a X.env whole = (do let v ← whole; standAt a.pos; holding [v] (truthy v)) := by intro _; rfl) : UT X Wd a (eB f1) := PT.imp (pt_val ha he) fun σ H Q h => tG_bool h
def tAndF (f g : FT) : FT := fun e hs => (f e hs).bind fun c hs => if c = true then g e hs else .ok false hs
def tOrF (f g : FT) : FT := fun e hs => (f e hs).bind fun c hs => if c = true then .ok true hs else g e hs
def tNotF (f : FT) : FT := fun e hs => (f e hs).bind fun c hs => .ok (!c) hs
variable {t1 t2 : FT} {rest : List Expr}
theorem uw_and1 (ha : UT X Wd a t1) : UW X Wd (.BoolOp .And [a] pos) t1 := pw_and1 ha
theorem uw_or1 (ha : UT X Wd a t1) : UW X Wd (.BoolOp .Or [a] pos) t1 := pw_or1 ha
theorem uw_and (ha : UT X Wd a t1) (hb : UW X Wd (.BoolOp .And (b :: rest) pos) t2) : UW X Wd (.BoolOp .And (a :: b :: rest) pos) (tAndF t1 t2) := by
  refine PW.imp (pw_and ha hb) fun σ H Q h => ?_
  obtain ⟨e, mu, hs, S, E, q⟩ := tG_seq (r := relB) relB_ok h
  refine ⟨e, mu, hs, S, E, q.imp fun c H1 ⟨e, mu1, hs1, d, S1, E1, r1, g2⟩ => ?_⟩
  have r1 : d = c := r1
  subst r1
  cases d with
  | true => rw [if_pos rfl] at g2 ⊢; exact ⟨e, mu1, hs1, S1, E1, g2⟩
  | false => rw [if_neg Bool.false_ne_true] at g2 ⊢; exact g2 mu1 H1 _ .refl S1 rfl
theorem uw_or (ha : UT X Wd a t1) (hb : UW X Wd (.BoolOp .Or (b :: rest) pos) t2) : UW X Wd (.BoolOp .Or (a :: b :: rest) pos) (tOrF t1 t2) := by
  refine PW.imp (pw_or ha hb) fun σ H Q h => ?_
  obtain ⟨e, mu, hs, S, E, q⟩ := tG_seq (r := relB) relB_ok h
  refine ⟨e, mu, hs, S, E, q.imp fun c H1 ⟨e, mu1, hs1, d, S1, E1, r1, g2⟩ => ?_⟩
  have r1 : d = c := r1
  subst r1
  cases d with
  | true => rw [if_pos rfl] at g2 ⊢; exact g2 mu1 H1 _ .refl S1 rfl
  | false => rw [if_neg Bool.false_ne_true] at g2 ⊢; exact ⟨e, mu1, hs1, S1, E1, g2⟩
theorem ut_w {e : Expr} (h : UW X Wd e t1) : UT X Wd e t1 := PW.pt h
theorem ut_not (ha : UT X Wd a t1) : UT X Wd (.UnaryOp .Not a pos) (tNotF t1) := by
  refine PT.imp (pt_not ha) fun σ H Q h => ?_
  obtain ⟨e, mu, hs, S, E, q⟩ := tG_seq (r := relB) relB_ok h
  refine ⟨e, mu, hs, S, E, q.imp fun c H1 ⟨e, mu1, hs1, d, S1, E1, r1, g2⟩ => ?_⟩
  have r1 : d = c := r1
  subst r1
  exact g2 mu1 H1 _ .refl S1 rfl
/-- .. as values (bools) -/
def eAnd (f g : FE) : FE := fun e hs => (f e hs).bind fun d hs => match d with | .bl true => g e hs | .bl false => .ok (.bl false) hs | _ => .bad
def eOr (f g : FE) : FE := fun e hs => (f e hs).bind fun d hs => match d with | .bl true => .ok (.bl true) hs | .bl false => g e hs | _ => .bad
def eNot (f : FE) : FE := fun e hs => (f e hs).bind fun d hs => match d with | .bl b => .ok (.bl (!b)) hs | _ => .bad
theorem ue_one {op : BoolOp} (ha : UE X Wd a f1) : UE X Wd (.BoolOp op [a] pos) f1 := pe_one ha
theorem ue_and (ha : UE X Wd a f1) (hb : UE X Wd (.BoolOp .And (b :: rest) pos) f2) : UE X Wd (.BoolOp .And (a :: b :: rest) pos) (eAnd f1 f2) := by
  refine PE.imp (pe_and ha hb) fun σ H Q h => ?_
  obtain ⟨e, mu, hs, S, E, q⟩ := tG_seq (r := relD X.K) relD_ok h
  refine ⟨e, mu, hs, S, E, q.imp fun c H1 ⟨e, mu1, hs1, d, S1, E1, r1, g2⟩ => ?_⟩
  cases r1 with
  | bl k =>
    refine ⟨k, rfl, ?_⟩
    cases k with
    | true => rw [if_pos rfl]; exact ⟨e, mu1, hs1, S1, E1, g2⟩
    | false => rw [if_neg Bool.false_ne_true]; exact g2 mu1 H1 _ .refl S1 (.bl false)
  | _ => exact g2.elim
theorem ue_or (ha : UE X Wd a f1) (hb : UE X Wd (.BoolOp .Or (b :: rest) pos) f2) : UE X Wd (.BoolOp .Or (a :: b :: rest) pos) (eOr f1 f2) := by
  refine PE.imp (pe_or ha hb) fun σ H Q h => ?_
  obtain ⟨e, mu, hs, S, E, q⟩ := tG_seq (r := relD X.K) relD_ok h
  refine ⟨e, mu, hs, S, E, q.imp fun c H1 ⟨e, mu1, hs1, d, S1, E1, r1, g2⟩ => ?_⟩
  cases r1 with
  | bl k =>
    refine ⟨k, rfl, ?_⟩
    cases k with
    | true => rw [if_pos rfl]; exact g2 mu1 H1 _ .refl S1 (.bl true)
    | false => rw [if_neg Bool.false_ne_true]; exact ⟨e, mu1, hs1, S1, E1, g2⟩
  | _ => exact g2.elim
theorem ue_not (ha : UE X Wd a f1) : UE X Wd (.UnaryOp .Not a pos) (eNot f1) := by
  refine PE.imp (pe_not ha) fun σ H Q h => ?_
  obtain ⟨e, mu, hs, S, E, q⟩ := tG_seq (r := relD X.K) relD_ok h
  refine ⟨e, mu, hs, S, E, q.imp fun c H1 ⟨e, mu1, hs1, d, S1, E1, r1, g2⟩ => ?_⟩
  cases r1 with
  | bl k => exact ⟨k, rfl, g2 mu1 H1 _ .refl S1 (.bl _)⟩
  | _ => exact g2.elim
def eIf (t : FT) (f g : FE) : FE := fun e hs => (t e hs).bind fun c hs => if c = true then f e hs else g e hs
theorem ue_if {c : Expr} (hc : UT X Wd c t1) (ha : UE X Wd a f1) (hb : UE X Wd b f2) : UE X Wd (.IfExp c a b pos) (eIf t1 f1 f2) := by
  refine PE.imp (pe_ifExp hc ha hb) fun σ H Q h => ?_
  obtain ⟨e, mu, hs, S, E, q⟩ := tG_seq (r := relB) relD_ok h
  refine ⟨e, mu, hs, S, E, q.imp fun c H1 ⟨e, mu1, hs1, d, S1, E1, r1, g2⟩ => ?_⟩
  have r1 : d = c := r1
  subst r1
  cases d with
  | true => rw [if_pos rfl] at g2 ⊢; exact ⟨e, mu1, hs1, S1, E1, g2⟩
  | false => rw [if_neg Bool.false_ne_true] at g2 ⊢; exact ⟨e, mu1, hs1, S1, E1, g2⟩
end
end G

/-! # G4: the operators one by one -/
namespace G
open PySem PySem.Spec PyProof.Rows L2

section
variable {K : PySem.W.Frag} {mg : Str → Option Value} {mu : Mp} {hs : Hs} {H : Hp} {Q : VK} {w : D}
theorem fin0 {v : V} (S : Sim K mg mu hs H) (q : ∀ mu' H' v, Lat mu H mu' H' → Sim K mg mu' hs H' → RD K mu' H' w v → Q v H') (r : RD K mu H w v) : Q v H := q mu H v .refl S r
theorem finL {p : Addr} {vs : List V} {ds : List D} (S : Sim K mg mu hs H) (q : ∀ mu' H' v, Lat mu H mu' H' → Sim K mg mu' hs H' → RD K mu' H' (.lst ds) v → Q v H') (hp : H p = none) (r : RDs K mu H ds vs) : Q (.ref p) (upd H p (.lst vs)) :=
  q (mu.still p) _ _ (.newStill hp) (S.newStill hp) (.lst upd_same (.inl rfl) (RDs.agr (Lat.agr (.newStill hp) S) r))
theorem finT {p : Addr} {vs : List V} {ds : List D} (S : Sim K mg mu hs H) (q : ∀ mu' H' v, Lat mu H mu' H' → Sim K mg mu' hs H' → RD K mu' H' (.tup ds) v → Q v H') (hp : H p = none) (r : RDs K mu H ds vs) : Q (.ref p) (upd H p (.tup vs)) :=
  q mu _ _ (.new hp) (S.new hp) (.tup ⟨upd_same, S.fresh hp⟩ (RDs.agr (Lat.agr (.new hp) S) r))
end

section
variable {X : Cx}
/-! ### arithmetic -/
def gAddL (hs : Hs) (d e : D) : Option D := match lstOf hs d with
  | some xs => match lstOf hs e with
    | some ys => if xs.length + ys.length ≤ sizeLine then some (.lst (xs ++ ys)) else none
    | none => none
  | none => none
/-- a truth as a number -/
def bI (b : Bool) : Int := if b = true then 1 else 0
def gAdd (hs : Hs) (d e : D) : Option D := match d with
  | .int i => match e with | .int j => some (.int (i + j)) | .bl q => some (.int (i + bI q)) | _ => none
  | .bl p => match e with | .int j => some (.int (bI p + j)) | _ => none
  | .str x => match e with | .str y => if x.length + y.length ≤ sizeLine then some (.str (x ++ y)) else none | _ => none
  | .tup xs => match e with | .tup ys => if xs.length + ys.length ≤ sizeLine then some (.tup (xs ++ ys)) else none | _ => none
  | d => gAddL hs d e
theorem og_add_lst {op : OpR X (binaryOp .Add) rCat} {pins : List (Addr × Obj)} {s : Shared} {σ : L2.St} {H : Hp} {x y : V} {v u : Value} {Q : VK} (I : Inv X pins σ H s) (rx : RelV x v) (ry : RelV y u) {mu : Mp} {hs : Hs} {d e w : D}
    (S : Sim X.K X.mg mu hs H) (r1 : RD X.K mu H d x) (r2 : RD X.K mu H e y) (hg : gAddL hs d e = some w) (q : ∀ mu' H' v, Lat mu H mu' H' → Sim X.K X.mg mu' hs H' → RD X.K mu' H' w v → Q v H') : wpAny (model X.prog X.w) X.A (binaryOp .Add v u) (EP X pins σ Q) X.xe s := by
  unfold gAddL at hg
  split at hg
  · rename_i xs hx
    split at hg
    · rename_i ys hy
      split at hg
      · rename_i hz
        cases hg
        obtain ⟨a, vs, rfl, ha, ra⟩ := lstOf_at S r1 hx
        obtain ⟨b, us, rfl, hb, rb⟩ := lstOf_at S r2 hy
        exact op pins s σ H _ _ v u Q I rx ry ⟨a, b, vs, us, rfl, rfl, ha, hb, by rw [← ra.length, ← rb.length]; exact hz, fun p hp => finL S q hp (ra.append rb)⟩
      · cases hg
    · cases hg
  · cases hg
theorem og_add : OpR X (binaryOp .Add) (rB X.K X.mg gAdd) := by
  rintro pins s σ H x y v u Q I rx ry ⟨mu, hs, d, e, w, S, r1, r2, hg, q⟩
  cases d with
  | int i =>
    unfold gAdd at hg; dsimp only at hg
    split at hg
    · cases hg; cases r1; cases r2
      exact op_add pins s σ H _ _ v u Q I rx ry ⟨_, _, rfl, rfl, fin0 S q (.int _)⟩
    · cases hg; cases r1; cases r2
      obtain ⟨t, rfl⟩ := rx
      cases ry
      exact add_int_bool ⟨.int _, H, I.tok _, ⟨_, rfl⟩, fin0 S q (.int _)⟩
    · cases hg
  | bl p =>
    unfold gAdd at hg; dsimp only at hg
    split at hg
    · cases hg; cases r1; cases r2
      obtain ⟨t, rfl⟩ := ry
      cases rx
      exact PySem.IntBool.add_bool_int ⟨.int _, H, I.tok _, ⟨_, rfl⟩, fin0 S q (.int _)⟩
    · cases hg
  | str a =>
    unfold gAdd at hg; dsimp only at hg
    split at hg
    · split at hg
      · rename_i hz; cases hg; cases r1; cases r2
        exact op_add_str pins s σ H _ _ v u Q I rx ry ⟨_, _, rfl, rfl, hz, fin0 S q (.str _)⟩
      · cases hg
    · cases hg
  | tup xs =>
    unfold gAdd at hg; dsimp only at hg
    split at hg
    · rename_i ys
      split at hg
      · rename_i hz
        cases hg
        obtain ⟨a, vs, rfl, ha, ra⟩ := tupOf_at r1 rfl
        obtain ⟨b, us, rfl, hb, rb⟩ := tupOf_at r2 rfl
        refine op_catA pins s σ H _ _ v u Q I rx ry ⟨a, b, vs, us, rfl, rfl, ha, hb, by rw [← ra.length, ← rb.length]; exact hz, fun e => ?_, fun _ e => ?_, fun _ _ p hp => finT S q hp (ra.append rb)⟩
        · subst e; cases ra; exact fin0 S q (by simpa using r2)
        · subst e; cases rb; exact fin0 S q (by simpa using r1)
      · cases hg
    · cases hg
  | lst ds => exact og_add_lst (op := op_cat) I rx ry S r1 r2 hg q
  | ref n => exact og_add_lst (op := op_cat) I rx ry S r1 r2 hg q
  | _ => cases hg
def gSub (hs : Hs) (d e : D) : Option D := match d with
  | .int i => (match e with | .int j => some (.int (i - j)) | .bl q => some (.int (i - bI q)) | _ => none)
  | .bl p => (match e with | .int j => some (.int (bI p - j)) | _ => none)
  | _ => none
theorem og_sub : OpR X (binaryOp .Sub) (rB X.K X.mg gSub) := by
  rintro pins s σ H x y v u Q I rx ry ⟨mu, hs, d, e, w, S, r1, r2, hg, q⟩
  unfold gSub at hg
  split at hg
  · split at hg
    · cases hg; cases r1; cases r2
      exact op_sub pins s σ H _ _ v u Q I rx ry ⟨_, _, rfl, rfl, fin0 S q (.int _)⟩
    · cases hg; cases r1; cases r2
      obtain ⟨t, rfl⟩ := rx
      cases ry
      exact PySem.IntBool.sub_int_bool ⟨.int _, H, I.tok _, ⟨_, rfl⟩, fin0 S q (.int _)⟩
    · cases hg
  · split at hg
    · cases hg; cases r1; cases r2
      obtain ⟨t, rfl⟩ := ry
      cases rx
      exact PySem.IntBool.sub_bool_int ⟨.int _, H, I.tok _, ⟨_, rfl⟩, fin0 S q (.int _)⟩
    · cases hg
  · cases hg
def small64 (i : Int) : Bool := decide (-18446744073709551616 < i) && decide (i < 18446744073709551616)
theorem small64_ok {i : Int} (h : small64 i = true) : -(2 ^ 64) < i ∧ i < 2 ^ 64 := by
  unfold small64 at h
  simp only [Bool.and_eq_true, decide_eq_true_eq] at h
  exact ⟨by have := h.1; omega, by have := h.2; omega⟩
def gMulL (hs : Hs) (d e : D) : Option D := match lstOf hs d with
  | some xs => (match e with | .int k => if 0 ≤ k ∧ k ≤ 4000 ∧ xs.length ≤ 4000 then some (.lst (List.replicate k.toNat xs).flatten) else none | _ => none)
  | none => none
def gMul (hs : Hs) (d e : D) : Option D := match d with
  | .int i => (match e with | .int j => if (small64 i || small64 j) = true then some (.int (i * j)) else none | _ => none)
  | .str x => (match e with | .int n => if 0 ≤ n ∧ n ≤ 5000 ∧ x.length ≤ 3000 then some (.str (Txt.mul x n)) else none | _ => none)
  | d => gMulL hs d e
theorem rep_rds {K : PySem.W.Frag} {mu : Mp} {H : Hp} {ds : List D} {vs : List V} (r : RDs K mu H ds vs) : ∀ n : Nat, RDs K mu H (List.replicate n ds).flatten (List.replicate n vs).flatten
  | 0 => .nil
  | n + 1 => by rw [List.replicate_succ, List.replicate_succ, List.flatten_cons, List.flatten_cons]; exact r.append (rep_rds r n)
theorem mulOk_of {x : Str} {n : Int} (h1 : 0 ≤ n) (h2 : n ≤ 5000) (h3 : x.length ≤ 3000) : MulOk x n := by
  refine ⟨?_, fun hn _ => ?_, fun _ _ => ?_⟩
  · rw [decide_eq_false (by omega), decide_eq_false (by omega)]; rfl
  · have : (2 ^ 63 - 1 : Int) / n ≥ (2 ^ 63 - 1 : Int) / 5000 := by
      apply Int.le_ediv_of_mul_le (by omega)
      have : (2 ^ 63 - 1 : Int) / 5000 * n ≤ (2 ^ 63 - 1 : Int) / 5000 * 5000 := Int.mul_le_mul_of_nonneg_left h2 (by decide)
      omega
    omega
  · unfold Builtin.Str.tooLong
    have h4 : x.length * n.toNat ≤ 3000 * 5000 := Nat.mul_le_mul h3 (by omega)
    have hs : sizeLine = 16777216 := sizeLine_eq
    simp only [decide_eq_false_iff_not]
    omega
theorem og_mul_lst {pins : List (Addr × Obj)} {s : Shared} {σ : L2.St} {H : Hp} {x y : V} {v u : Value} {Q : VK} (I : Inv X pins σ H s) (rx : RelV x v) (ry : RelV y u) {mu : Mp} {hs : Hs} {d e w : D}
    (S : Sim X.K X.mg mu hs H) (r1 : RD X.K mu H d x) (r2 : RD X.K mu H e y) (hg : gMulL hs d e = some w) (q : ∀ mu' H' v, Lat mu H mu' H' → Sim X.K X.mg mu' hs H' → RD X.K mu' H' w v → Q v H') : wpAny (model X.prog X.w) X.A (binaryOp .Mult v u) (EP X pins σ Q) X.xe s := by
  unfold gMulL at hg
  split at hg
  · rename_i xs hx
    split at hg
    · rename_i k
      split at hg
      · rename_i hz
        cases hg
        obtain ⟨a, vs, rfl, ha, ra⟩ := lstOf_at S r1 hx
        cases r2
        have hlen := ra.length
        refine op_rep pins s σ H _ _ v u Q I rx ry ⟨a, k, vs, rfl, rfl, ha, by omega, by omega, ?_, fun p hp => finL S q hp (rep_rds ra _)⟩
        have h4 : vs.length * k.toNat ≤ 4000 * 4000 := Nat.mul_le_mul (by omega) (by omega)
        have hs : sizeLine = 16777216 := sizeLine_eq
        omega
      · cases hg
    · cases hg
  · cases hg
theorem og_mul : OpR X (binaryOp .Mult) (rB X.K X.mg gMul) := by
  rintro pins s σ H x y v u Q I rx ry ⟨mu, hs, d, e, w, S, r1, r2, hg, q⟩
  cases d with
  | int i =>
    unfold gMul at hg; dsimp only at hg
    split at hg
    · split at hg
      · rename_i hz
        cases hg; cases r1; cases r2
        simp only [Bool.or_eq_true] at hz
        exact op_mul pins s σ H _ _ v u Q I rx ry ⟨_, _, rfl, rfl, hz.elim (fun z => .inl (small64_ok z)) (fun z => .inr (small64_ok z)), fin0 S q (.int _)⟩
      · cases hg
    · cases hg
  | str z =>
    unfold gMul at hg; dsimp only at hg
    split at hg
    · split at hg
      · rename_i n hz
        cases hg; cases r1; cases r2
        obtain ⟨t, rfl⟩ := rx
        obtain ⟨t', rfl⟩ := ry
        exact SB.mul (mulOk_of hz.1 hz.2.1 hz.2.2) fun t2 k => ⟨.str _, H, I.tok _, ⟨_, rfl⟩, fin0 S q (.str _)⟩
      · cases hg
    · cases hg
  | lst ds => exact og_mul_lst I rx ry S r1 r2 hg q
  | ref n => exact og_mul_lst I rx ry S r1 r2 hg q
  | _ => cases hg
def gDiv (hs : Hs) (d e : D) : Option D := match d with | .int i => (match e with | .int j => if 0 < j ∧ j < 1073741824 then some (.int (i / j)) else none | _ => none) | _ => none
theorem og_div : OpR X (binaryOp .FloorDiv) (rB X.K X.mg gDiv) := by
  rintro pins s σ H x y v u Q I rx ry ⟨mu, hs, d, e, w, S, r1, r2, hg, q⟩
  unfold gDiv at hg
  split at hg
  · split at hg
    · split at hg
      · rename_i hz; cases hg; cases r1; cases r2
        exact op_fdiv pins s σ H _ _ v u Q I rx ry ⟨_, _, rfl, rfl, hz, fin0 S q (.int _)⟩
      · cases hg
    · cases hg
  · cases hg
def gMod (hs : Hs) (d e : D) : Option D := match d with | .int i => (match e with | .int j => if 0 < j then some (.int (i % j)) else none | _ => none) | _ => none
theorem og_mod : OpR X (binaryOp .Mod) (rB X.K X.mg gMod) := by
  rintro pins s σ H x y v u Q I rx ry ⟨mu, hs, d, e, w, S, r1, r2, hg, q⟩
  unfold gMod at hg
  split at hg
  · split at hg
    · split at hg
      · rename_i hz; cases hg; cases r1; cases r2
        exact op_mod pins s σ H _ _ v u Q I rx ry ⟨_, _, rfl, rfl, hz, fin0 S q (.int _)⟩
      · cases hg
    · cases hg
  · cases hg
def gPow (hs : Hs) (d e : D) : Option D := match d with | .int i => (match e with | .int j => if 0 ≤ j ∧ j ≤ 1000 ∧ i.natAbs < 2 ^ 64 then some (.int (i ^ j.toNat)) else none | _ => none) | _ => none
theorem og_pow : OpR X (binaryOp .Pow) (rB X.K X.mg gPow) := by
  rintro pins s σ H x y v u Q I rx ry ⟨mu, hs, d, e, w, S, r1, r2, hg, q⟩
  unfold gPow at hg
  split at hg
  · split at hg
    · split at hg
      · rename_i hz; cases hg; cases r1; cases r2
        exact op_pow pins s σ H _ _ v u Q I rx ry ⟨_, _, rfl, rfl, ⟨hz.1, by omega, hz.2.2⟩, fin0 S q (.int _)⟩
      · cases hg
    · cases hg
  · cases hg
/-- -a -/
def gNeg (hs : Hs) (d : D) : Option D := match d with | .int i => some (.int (-i)) | _ => none
theorem ue_neg {Wd : WX} {a : Expr} {f : FE} {pos : Pos} (ha : UE X Wd a f) : UE X Wd (.UnaryOp .USub a pos) (eUn gNeg f) := by
  refine PE.imp (pe_un un_neg ha) fun σ H Q h => ?_
  obtain ⟨e, mu, hs, S, E, q⟩ := tG_un h
  refine ⟨e, mu, hs, S, E, q.imp fun x H1 ⟨mu, hs, d, w, S, r, hg, q⟩ => ?_⟩
  unfold gNeg at hg
  split at hg
  · cases hg; cases r; exact ⟨_, rfl, fin0 S q (.int _)⟩
  · cases hg

/-! ### data -/
mutual
def pdW (r : Nat → Option PyData) : D → Option PyData
  | .non => some .none
  | .bl b => some (.bool b)
  | .int i => some (.int i)
  | .str s => some (.str s)
  | .tup ds => (pdWs r ds).map .tuple
  | .lst ds => (pdWs r ds).map .list
  | .scr ds => (pdWs r ds).map .list
  | .ref n => r n
  | .ty _ => none
  | .ctp ds => (pdWs r ds).map .tuple
  | .dct _ _ => none
  | .dtp _ _ => none
  | .ins _ _ _ => none
  | .glb _ => none
  | .exn _ _ _ => none
def pdWs (r : Nat → Option PyData) : List D → Option (List PyData)
  | [] => some []
  | d :: ds => match pdW r d with
    | some p => match pdWs r ds with | some ps => some (p :: ps) | none => none
    | none => none
end
/-- the lists of the heap, so deep -/
def pdH (hs : Hs) : Nat → Nat → Option PyData
  | 0, _ => none
  | k + 1, n => match hs[n]? with
    | some (.lst ds) => (pdWs (pdH hs k) ds).map .list
    | _ => none
def pd (hs : Hs) (d : D) : Option PyData := pdW (pdH hs 40) d
section
variable {K : PySem.W.Frag} {mg : Str → Option Value} {mu : Mp} {hs : Hs} {H : Hp}
mutual
theorem pdW_dp {r : Nat → Option PyData} (hr : ∀ n a p, mu.l[n]? = some a → r n = some p → Dp K H (.ref a) p) : ∀ (d : D) (v : V) (p : PyData), RD K mu H d v → pdW r d = some p → Dp K H v p
  | .non, _, _, h, e => by cases h; cases e; exact .non
  | .bl b, _, _, h, e => by cases h; cases e; exact .bl b
  | .int i, _, _, h, e => by cases h; cases e; exact .int i
  | .str s, _, _, h, e => by cases h; cases e; exact .str s
  | .tup ds, _, _, h, e => by
    cases h with
    | tup q r =>
      obtain ⟨ps, h1, h2⟩ := Option.map_eq_some_iff.mp (show (pdWs _ ds).map PyData.tuple = some _ from e)
      subst h2
      exact .tup q.sq (pdWs_dp hr ds _ ps r h1)
  | .lst ds, _, _, h, e => by
    cases h with
    | lst q n r =>
      obtain ⟨ps, h1, h2⟩ := Option.map_eq_some_iff.mp (show (pdWs _ ds).map PyData.list = some _ from e)
      subst h2
      exact .lst (.of q) (pdWs_dp hr ds _ ps r h1)
  | .ty _, _, _, _, e => nomatch e
  | .ctp ds, _, _, h, e => by
    cases h with
    | ctp q r =>
      obtain ⟨ps, h1, h2⟩ := Option.map_eq_some_iff.mp (show (pdWs _ ds).map PyData.tuple = some _ from e)
      subst h2
      exact .tup (sqT_c q) (pdWs_dp hr ds _ ps r h1)
  | .dct _ _, _, _, _, e => nomatch e
  | .dtp _ _, _, _, _, e => nomatch e
  | .ins _ _ _, _, _, _, e => nomatch e
  | .glb _, _, _, _, e => nomatch e
  | .exn _ _ _, _, _, _, e => nomatch e
  | .scr ds, _, _, h, e => by
    cases h with
    | scr q r =>
      obtain ⟨ps, h1, h2⟩ := Option.map_eq_some_iff.mp (show (pdWs _ ds).map PyData.list = some _ from e)
      subst h2
      exact .lst q.sq (pdWs_dp hr ds _ ps r h1)
  | .ref n, _, _, h, e => by cases h with | ref q => exact hr _ _ _ q e
theorem pdWs_dp {r : Nat → Option PyData} (hr : ∀ n a p, mu.l[n]? = some a → r n = some p → Dp K H (.ref a) p) : ∀ (ds : List D) (vs : List V) (ps : List PyData), RDs K mu H ds vs → pdWs r ds = some ps → DpAll K H vs ps
  | [], _, _, h, e => by cases h; cases e; exact .nil
  | d :: ds, _, _, h, e => by
    cases h with
    | cons r1 r2 =>
      unfold pdWs at e
      split at e
      · rename_i p hp
        split at e
        · rename_i ps hps
          cases e
          exact .cons (pdW_dp hr d _ p r1 hp) (pdWs_dp hr ds _ ps r2 hps)
        · cases e
      · cases e
end
theorem pdH_dp (S : Sim K mg mu hs H) : ∀ (k n : Nat) (a : Addr) (p : PyData), mu.l[n]? = some a → pdH hs k n = some p → Dp K H (.ref a) p
  | 0, _, _, _, _, e => by cases e
  | k + 1, n, a, p, hn, e => by
    unfold pdH at e
    split at e
    · rename_i ds hd
      obtain ⟨ps, h1, h2⟩ := Option.map_eq_some_iff.mp e
      subst h2
      obtain ⟨u, e1, e2⟩ := S.at hn hd
      cases u <;> first
        | exact .lst (.of e1) (pdWs_dp (fun n a p h q => pdH_dp S k n a p h q) ds _ ps e2 h1)
        | exact e2.elim
    · cases e
theorem pd_dp (S : Sim K mg mu hs H) {d : D} {v : V} {p : PyData} (r : RD K mu H d v) (e : pd hs d = some p) : Dp K H v p := pdW_dp (fun n a p h q => pdH_dp S 40 n a p h q) d v p r e
end

/-! ### comparisons -/
def gEqD (hs : Hs) (d e : D) : Option Bool := match pd hs d with
  | some p => match pd hs e with
    | some q => if (SeqAt.shaped p && SeqAt.shaped q) = true then some (PyData.eqv p q) else none
    | none => none
  | none => none
/-- texts by themselves, other data by what is read -/
def gEqB (hs : Hs) (d e : D) : Option Bool := match d with
  | .str x => (match e with | .str y => some (x == y) | e => gEqD hs (.str x) e)
  | d => gEqD hs d e
theorem gEqB_cases {hs : Hs} {d e : D} {b : Bool} (h : gEqB hs d e = some b) : (∃ x y, d = .str x ∧ e = .str y ∧ b = (x == y)) ∨ gEqD hs d e = some b := by
  unfold gEqB at h
  split at h
  · split at h
    · cases h; exact .inl ⟨_, _, rfl, rfl, rfl⟩
    · exact .inr h
  · exact .inr h
def gEq (hs : Hs) (d e : D) : Option D := (gEqB hs d e).map .bl
def gNe (hs : Hs) (d e : D) : Option D := (gEqB hs d e).map fun b => .bl (!b)
theorem gEqD_at {K : PySem.W.Frag} {mg : Str → Option Value} {mu : Mp} {hs : Hs} {H : Hp} (S : Sim K mg mu hs H) {d e : D} {x y : V} {b : Bool} (r1 : RD K mu H d x) (r2 : RD K mu H e y) (h : gEqD hs d e = some b) :
    ∃ p q, Dp K H x p ∧ Dp K H y q ∧ SeqAt.shaped p = true ∧ SeqAt.shaped q = true ∧ PyData.eqv p q = b := by
  unfold gEqD at h
  split at h
  · rename_i p hp
    split at h
    · rename_i q hq
      split at h
      · rename_i hz
        cases h
        simp only [Bool.and_eq_true] at hz
        exact ⟨p, q, pd_dp S r1 hp, pd_dp S r2 hq, hz.1, hz.2, rfl⟩
      · cases h
    · cases h
  · cases h
theorem og_eq (hu : X.A.units + 64 < cLine) : OpR X (compareOp .Eq) (rB X.K X.mg gEq) := by
  rintro pins s σ H x y v u Q I rx ry ⟨mu, hs, d, e, w, S, r1, r2, hg, q⟩
  obtain ⟨b, h1, h2⟩ := Option.map_eq_some_iff.mp (show (gEqB hs d e).map D.bl = some w from hg)
  subst h2
  rcases gEqB_cases h1 with ⟨z, z', rfl, rfl, rfl⟩ | h1
  · cases r1; cases r2
    exact op_eq pins s σ H _ _ v u Q I rx ry ⟨rfl, by rw [dec_str]; exact fin0 S q (.bl _)⟩
  obtain ⟨p, p', d1, d2, z1, z2, h3⟩ := gEqD_at S r1 r2 h1
  subst h3
  exact op_eqD hu pins s σ H x y v u Q I rx ry ⟨p, p', d1, d2, z1, z2, fin0 S q (.bl _)⟩
theorem og_ne (hu : X.A.units + 64 < cLine) : OpR X (compareOp .NotEq) (rB X.K X.mg gNe) := by
  rintro pins s σ H x y v u Q I rx ry ⟨mu, hs, d, e, w, S, r1, r2, hg, q⟩
  obtain ⟨b, h1, h2⟩ := Option.map_eq_some_iff.mp (show (gEqB hs d e).map (fun b => D.bl (!b)) = some w from hg)
  subst h2
  rcases gEqB_cases h1 with ⟨z, z', rfl, rfl, rfl⟩ | h1
  · cases r1; cases r2
    exact op_ne pins s σ H _ _ v u Q I rx ry ⟨rfl, by rw [dec_str]; exact fin0 S q (.bl _)⟩
  obtain ⟨p, p', d1, d2, z1, z2, h3⟩ := gEqD_at S r1 r2 h1
  subst h3
  exact op_neD hu pins s σ H x y v u Q I rx ry ⟨p, p', d1, d2, z1, z2, fin0 S q (.bl _)⟩
def gLt (hs : Hs) (d e : D) : Option D := match d with
  | .int i => (match e with | .int j => some (.bl (decide (i < j))) | _ => none)
  | .str x => (match e with | .str y => some (.bl (decide (x.cps.toList < y.cps.toList))) | _ => none)
  | _ => none
theorem og_lt : OpR X (compareOp .Lt) (rB X.K X.mg gLt) := by
  rintro pins s σ H x y v u Q I rx ry ⟨mu, hs, d, e, w, S, r1, r2, hg, q⟩
  unfold gLt at hg
  split at hg
  · split at hg
    · cases hg; cases r1; cases r2; exact op_lt pins s σ H _ _ v u Q I rx ry ⟨_, _, rfl, rfl, fin0 S q (.bl _)⟩
    · cases hg
  · split at hg
    · cases hg; cases r1; cases r2; exact op_lt_str pins s σ H _ _ v u Q I rx ry ⟨_, _, rfl, rfl, fin0 S q (.bl _)⟩
    · cases hg
  · cases hg
def gLe (hs : Hs) (d e : D) : Option D := match d with
  | .int i => (match e with | .int j => some (.bl (decide (i ≤ j))) | _ => none)
  | .str x => (match e with | .str y => some (.bl (!decide (y.cps.toList < x.cps.toList))) | _ => none)
  | _ => none
def gGt (hs : Hs) (d e : D) : Option D := match d with
  | .int i => (match e with | .int j => some (.bl (decide (j < i))) | _ => none)
  | .str x => (match e with | .str y => some (.bl (decide (y.cps.toList < x.cps.toList))) | _ => none)
  | _ => none
def gGe (hs : Hs) (d e : D) : Option D := match d with
  | .int i => (match e with | .int j => some (.bl (decide (j ≤ i))) | _ => none)
  | .str x => (match e with | .str y => some (.bl (!decide (x.cps.toList < y.cps.toList))) | _ => none)
  | _ => none
theorem og_le : OpR X (compareOp .LtE) (rB X.K X.mg gLe) := by
  rintro pins s σ H x y v u Q I rx ry ⟨mu, hs, d, e, w, S, r1, r2, hg, q⟩
  unfold gLe at hg
  split at hg
  · split at hg
    · cases hg; cases r1; cases r2; exact op_le pins s σ H _ _ v u Q I rx ry ⟨_, _, rfl, rfl, fin0 S q (.bl _)⟩
    · cases hg
  · split at hg
    · cases hg; cases r1; cases r2; exact op_le_str pins s σ H _ _ v u Q I rx ry ⟨_, _, rfl, rfl, fin0 S q (.bl _)⟩
    · cases hg
  · cases hg
theorem og_gt : OpR X (compareOp .Gt) (rB X.K X.mg gGt) := by
  rintro pins s σ H x y v u Q I rx ry ⟨mu, hs, d, e, w, S, r1, r2, hg, q⟩
  unfold gGt at hg
  split at hg
  · split at hg
    · cases hg; cases r1; cases r2; exact op_gt pins s σ H _ _ v u Q I rx ry ⟨_, _, rfl, rfl, fin0 S q (.bl _)⟩
    · cases hg
  · split at hg
    · cases hg; cases r1; cases r2; exact op_gt_str pins s σ H _ _ v u Q I rx ry ⟨_, _, rfl, rfl, fin0 S q (.bl _)⟩
    · cases hg
  · cases hg
theorem og_ge : OpR X (compareOp .GtE) (rB X.K X.mg gGe) := by
  rintro pins s σ H x y v u Q I rx ry ⟨mu, hs, d, e, w, S, r1, r2, hg, q⟩
  unfold gGe at hg
  split at hg
  · split at hg
    · cases hg; cases r1; cases r2; exact op_ge pins s σ H _ _ v u Q I rx ry ⟨_, _, rfl, rfl, fin0 S q (.bl _)⟩
    · cases hg
  · split at hg
    · cases hg; cases r1; cases r2; exact op_ge_str pins s σ H _ _ v u Q I rx ry ⟨_, _, rfl, rfl, fin0 S q (.bl _)⟩
    · cases hg
  · cases hg
/-! ### is -/
def gIs (hs : Hs) (d e : D) : Option D := match e with
  | .non => (match d with | .non => some (.bl true) | .ref _ => some (.bl false) | .bl _ => some (.bl false) | .int _ => some (.bl false) | .str _ => some (.bl false) | .tup _ => some (.bl false) | .lst _ => some (.bl false) | .scr _ => some (.bl false) | .ty _ => some (.bl false) | .ctp _ => some (.bl false) | .dct _ _ => some (.bl false) | .dtp _ _ => some (.bl false) | .exn _ _ _ => some (.bl false) | .ins _ _ _ => some (.bl false) | .glb _ => some (.bl false))
  | .bl b => (match d with | .bl a => some (.bl (decide (a = b))) | _ => none)
  | _ => none
def gIsN (hs : Hs) (d e : D) : Option D := match gIs hs d e with | some (.bl b) => some (.bl (!b)) | _ => none
theorem og_is : OpR X (compareOp .Is) (rB X.K X.mg gIs) := by
  rintro pins s σ H x y v u Q I rx ry ⟨mu, hs, d, e, w, S, r1, r2, hg, q⟩
  unfold gIs at hg
  split at hg
  · cases r2
    refine op_isN pins s σ H _ _ v u Q I rx ry ⟨rfl, ?_⟩
    cases r1 <;> (cases hg; exact fin0 S q (.bl _))
  · split at hg
    · cases hg; cases r1; cases r2; exact op_isBl pins s σ H _ _ v u Q I rx ry ⟨_, _, rfl, rfl, fin0 S q (.bl _)⟩
    · cases hg
  · cases hg
theorem og_isN : OpR X (compareOp .IsNot) (rB X.K X.mg gIsN) := by
  rintro pins s σ H x y v u Q I rx ry ⟨mu, hs, d, e, w, S, r1, r2, hg, q⟩
  unfold gIsN at hg
  split at hg
  · rename_i b hb
    cases hg
    unfold gIs at hb
    split at hb
    · cases r2
      refine op_notN pins s σ H _ _ v u Q I rx ry ⟨rfl, ?_⟩
      cases r1 <;> (cases hb; exact fin0 S q (.bl _))
    · split at hb
      · cases hb; cases r1; cases r2; exact op_notBl pins s σ H _ _ v u Q I rx ry ⟨_, _, rfl, rfl, fin0 S q (.bl _)⟩
      · cases hb
    · cases hb
  · cases hg
/-! ### in -/
def flatD : D → Bool
  | .non => true | .bl _ => true | .int _ => true | .str _ => true | _ => false
def toV : D → V
  | .non => .non | .bl b => .bl b | .int i => .int i | .str s => .str s | _ => .non
/-- == of two flat ones -/
def eqF : D → D → Bool
  | .non, .non => true
  | .bl a, .bl b => a == b
  | .bl a, .int b => (if a then 1 else 0) == b
  | .int a, .bl b => a == (if b then 1 else 0)
  | .int a, .int b => a == b
  | .str a, .str b => a == b
  | _, _ => false
theorem flat_v {K : PySem.W.Frag} {mu : Mp} {H : Hp} {d : D} {v : V} (r : RD K mu H d v) (f : flatD d = true) : v = toV d ∧ flatV v = true := by cases r <;> first | exact ⟨rfl, rfl⟩ | cases f
theorem eqF_v : ∀ {d e : D}, flatD d = true → flatD e = true → eqV (toV d) (toV e) = eqF d e := by
  intro d e h1 h2
  cases d <;> first | (exact absurd h1 Bool.false_ne_true) | (cases e <;> first | (exact absurd h2 Bool.false_ne_true) | rfl)
theorem flats_v {K : PySem.W.Frag} {mu : Mp} {H : Hp} : ∀ {ds : List D} {vs : List V}, RDs K mu H ds vs → ds.all flatD = true → vs = ds.map toV ∧ vs.all flatV = true
  | _, _, .nil, _ => ⟨rfl, rfl⟩
  | _, _, .cons r t, f => by
    rw [List.all_cons, Bool.and_eq_true] at f
    obtain ⟨h1, h2⟩ := flat_v r f.1
    obtain ⟨h3, h4⟩ := flats_v t f.2
    exact ⟨by rw [h1, h3]; rfl, by rw [List.all_cons, h2, h4]; rfl⟩
theorem any_v {d : D} (hd : flatD d = true) : ∀ {ds : List D}, ds.all flatD = true → inV (toV d) (ds.map toV) = ds.any (fun e => eqF e d)
  | [], _ => rfl
  | e :: ds, f => by
    rw [List.all_cons, Bool.and_eq_true] at f
    have ih := any_v hd f.2
    unfold inV at ih ⊢
    rw [List.map_cons, List.any_cons, List.any_cons, ih, eqF_v f.1 hd]
/-- one sign -/
def sign1 (x : Str) : Option Nat := match x.cps.toList with | [c] => some c | _ => none
theorem sign1_eq {x : Str} {c : Nat} (h : sign1 x = some c) : x = ⟨#[c]⟩ := by
  unfold sign1 at h
  split at h
  · rename_i c' e
    cases h
    cases x
    rename_i a
    cases a
    simp at e
    subst e
    rfl
  · cases h
def seqOf (hs : Hs) (d : D) : Option (List D) := match rdOf hs d with | some ds => some ds | none => tupOf d
def gInB (hs : Hs) (d e : D) : Option Bool := match e with
  | .str z => (match d with | .str x => (match sign1 x with | some c => some (decide (c ∈ z.cps.toList)) | none => none) | _ => none)
  | e => match seqOf hs e with
    | some ds => if (flatD d && ds.all flatD) = true then some (ds.any fun e => eqF e d) else none
    | none => none
def gIn (hs : Hs) (d e : D) : Option D := (gInB hs d e).map .bl
def gNotIn (hs : Hs) (d e : D) : Option D := (gInB hs d e).map fun b => .bl (!b)
theorem seqOf_at {K : PySem.W.Frag} {mg : Str → Option Value} {mu : Mp} {hs : Hs} {H : Hp} {d : D} {v : V} {ds : List D} (S : Sim K mg mu hs H) (r : RD K mu H d v) (e : seqOf hs d = some ds) : ∃ a vs, v = .ref a ∧ (SqL K H a vs ∨ SqT K H a vs) ∧ RDs K mu H ds vs := by
  unfold seqOf at e
  split at e
  · rename_i h
    cases e
    obtain ⟨a, vs, h1, h2, h3⟩ := rdOf_at S r h
    exact ⟨a, vs, h1, .inl h2, h3⟩
  · obtain ⟨a, vs, h1, h2, h3⟩ := tupOf_at r e
    exact ⟨a, vs, h1, .inr h2, h3⟩
theorem gInB_at {K : PySem.W.Frag} {mg : Str → Option Value} {mu : Mp} {hs : Hs} {H : Hp} {d e : D} {x y : V} {b : Bool} (S : Sim K mg mu hs H) (r1 : RD K mu H d x) (r2 : RD K mu H e y) (h : gInB hs d e = some b) :
    (∃ (c : Nat) (z : Str), x = .str ⟨#[c]⟩ ∧ y = .str z ∧ decide (c ∈ z.cps.toList) = b) ∨ ∃ p xs, y = .ref p ∧ (SqL K H p xs ∨ SqT K H p xs) ∧ flatV x = true ∧ xs.all flatV = true ∧ inV x xs = b := by
  have lists : (match seqOf hs e with
    | some ds => if (flatD d && ds.all flatD) = true then some (ds.any fun e => eqF e d) else none
    | none => none) = some b → ∃ p xs, y = .ref p ∧ (SqL K H p xs ∨ SqT K H p xs) ∧ flatV x = true ∧ xs.all flatV = true ∧ inV x xs = b := by
    intro h
    split at h
    · rename_i ds hds
      split at h
      · rename_i hf
        cases h
        rw [Bool.and_eq_true] at hf
        obtain ⟨a, vs, e1, e2, e3⟩ := seqOf_at S r2 hds
        obtain ⟨h1, h2⟩ := flat_v r1 hf.1
        obtain ⟨h3, h4⟩ := flats_v e3 hf.2
        exact ⟨a, vs, e1, e2, h2, h4, by rw [h1, h3, any_v hf.1 hf.2]⟩
      · cases h
    · cases h
  cases e with
  | str z =>
    unfold gInB at h; dsimp only at h
    split at h
    · split at h
      · rename_i c hc
        cases h; cases r1; cases r2
        exact .inl ⟨c, z, by rw [sign1_eq hc], rfl, rfl⟩
      · cases h
    · cases h
  | _ => exact .inr (lists h)
theorem og_in : OpR X (compareOp .In) (rB X.K X.mg gIn) := by
  rintro pins s σ H x y v u Q I rx ry ⟨mu, hs, d, e, w, S, r1, r2, hg, q⟩
  obtain ⟨b, h1, h2⟩ := Option.map_eq_some_iff.mp (show (gInB hs d e).map D.bl = some w from hg)
  subst h2
  rcases gInB_at S r1 r2 h1 with ⟨c, z, rfl, rfl, e⟩ | ⟨p, xs, rfl, h, f1, f2, e⟩
  · subst e; exact op_in_sign pins s σ H _ _ v u Q I rx ry ⟨c, z, rfl, rfl, fin0 S q (.bl _)⟩
  · subst e; exact op_in_seq pins s σ H _ _ v u Q I rx ry ⟨p, xs, rfl, h, f1, f2, fin0 S q (.bl _)⟩
theorem og_notin : OpR X (compareOp .NotIn) (rB X.K X.mg gNotIn) := by
  rintro pins s σ H x y v u Q I rx ry ⟨mu, hs, d, e, w, S, r1, r2, hg, q⟩
  obtain ⟨b, h1, h2⟩ := Option.map_eq_some_iff.mp (show (gInB hs d e).map (fun b => D.bl (!b)) = some w from hg)
  subst h2
  rcases gInB_at S r1 r2 h1 with ⟨c, z, rfl, rfl, e⟩ | ⟨p, xs, rfl, h, f1, f2, e⟩
  · subst e; exact op_notIn_sign pins s σ H _ _ v u Q I rx ry ⟨c, z, rfl, rfl, fin0 S q (.bl _)⟩
  · subst e; exact op_notIn_seq pins s σ H _ _ v u Q I rx ry ⟨p, xs, rfl, h, f1, f2, fin0 S q (.bl _)⟩
end
end G

/-! # G5: subscripts, slices, calls of built-ins, methods of built-ins -/
namespace G
open PySem PySem.Spec PyProof.Rows L2

theorem RDs.at_ {K : PySem.W.Frag} {mu : Mp} {H : Hp} {ds : List D} {vs : List V} (r : RDs K mu H ds vs) {i : Int} {d : D} (h : atI ds i = some d) : ∃ v, atI vs i = some v ∧ RD K mu H d v := by
  unfold atI at h ⊢
  rw [← r.length]
  cases e : ixN ds.length i with
  | none => rw [e] at h; cases h
  | some j =>
    rw [e] at h
    obtain ⟨v, h1, h2⟩ := r.get (show ds[j]? = some d from h)
    exact ⟨v, h1, h2⟩
/-! ### a[i] -/
def gIx (hs : Hs) (d e : D) : Option D := match e with
  | .int i => (match d with
    | .str z => if z.length ≤ sizeLine then (match atI z.cps.toList i with | some c => some (.str ⟨#[c]⟩) | none => none) else none
    | d => match seqOf hs d with | some ds => atI ds i | none => none)
  | _ => none
section
variable {X : Cx} {Wd : WX} {a b : Expr} {f1 f2 : FE} {pos : Pos}
theorem ix_g : IxR X (rB X.K X.mg gIx) := by
  rintro value slice pins s σ H x y v u Q I rx ry ⟨mu, hs, d, e, w, S, r1, r2, hg, q⟩ hsl
  have seq : (∃ i, e = .int i ∧ (match seqOf hs d with | some ds => atI ds i | none => none) = some w) → wpAny (model X.prog X.w) X.A (subscriptTail value slice v u) (EP X pins σ Q) X.xe s := by
    rintro ⟨i, rfl, h⟩
    split at h
    · rename_i ds hds
      obtain ⟨p, vs, rfl, h1, h2⟩ := seqOf_at S r1 hds
      obtain ⟨z, h3, h4⟩ := h2.at_ h
      cases r2
      refine ix_seq value slice pins s σ H _ _ v u Q I rx ry ?_ hsl
      rcases h1 with h1 | h1
      · exact .inl ⟨p, vs, i, z, rfl, rfl, h1, h3, fin0 S q h4⟩
      · exact .inr (.inl ⟨p, vs, i, z, rfl, rfl, h1, h3, fin0 S q h4⟩)
    · cases h
  unfold gIx at hg
  split at hg
  · rename_i i
    cases d with
    | str z =>
      dsimp only at hg
      split at hg
      · rename_i hz
        split at hg
        · rename_i c hc
          cases hg; cases r1; cases r2
          exact ix_seq value slice pins s σ H _ _ v u Q I rx ry (.inr (.inr ⟨z, i, c, rfl, rfl, hz, hc, fin0 S q (.str _)⟩)) hsl
        · cases hg
      · cases hg
    | _ => exact seq ⟨i, rfl, hg⟩
  · cases hg
theorem ue_ix (ha : UE X Wd a f1) (hb : UE X Wd b f2) (hs : PlainIx b := by exact fun _ _ => rfl) : UE X Wd (.Subscript a b pos) (eBin gIx f1 f2) := PE.imp (pe_ix ix_g ha hb hs) fun _ _ _ h => tG_bin h

/-! ### slices -/
def cutX {t : Type} (xs : List t) (lo hi : Option Int) : List t := (xs.drop (HT.sIx xs.length 0 lo)).take (HT.sIx xs.length xs.length hi - HT.sIx xs.length 0 lo)
theorem RDs.cut {K : PySem.W.Frag} {mu : Mp} {H : Hp} {ds : List D} {vs : List V} (r : RDs K mu H ds vs) (lo hi : Option Int) : RDs K mu H (cutX ds lo hi) (cutV vs lo hi) := by
  unfold cutX cutV
  rw [r.length]
  exact (r.drop _).take _
def relO : Rel (Option Int) (Option Int) := fun _ _ _ _ a b => a = b
theorem relO_ok : relO.Ok := fun _ _ _ _ _ _ _ _ _ _ _ h => h
abbrev FO := Ev → Hs → R (Option Int)
abbrev UO (X : Cx) (Wd : WX) (o : Option Expr) (f : FO) : Prop := PO X o (tG relO X.K X.mg Wd f)
def oNone : FO := fun _ hs => .ok none hs
def oSome (f : FE) : FO := fun e hs => (f e hs).bind fun d hs => match d with | .int i => .ok (some i) hs | _ => .bad
theorem PO.imp {o : Option Expr} {t t' : TO} (h : PO X o t) (i : ∀ σ H Q, t' σ H Q → t σ H Q) : PO X o t' := ⟨fun pins s σ H Q I q => h.run pins s σ H Q I (i σ H Q q)⟩
theorem uo_none : UO X Wd none oNone := by
  refine PO.imp po_none fun σ H Q h => ?_
  obtain ⟨e, mu, hs, S, E, g⟩ := h
  exact g mu H none .refl S rfl
theorem uo_some (ha : UE X Wd a f1) : UO X Wd (some a) (oSome f1) := by
  refine PO.imp (po_some ha) fun σ H Q h => ?_
  obtain ⟨e, mu, hs, S, E, q⟩ := tG_seq (r := relD X.K) relO_ok h
  refine ⟨e, mu, hs, S, E, q.imp fun x H1 ⟨e, mu1, hs1, d, S1, E1, r1, g2⟩ => ?_⟩
  cases r1 with
  | int i => exact ⟨i, rfl, g2 mu1 H1 _ .refl S1 rfl⟩
  | _ => exact g2.elim
def gSl (hs : Hs) (d : D) (lo hi : Option Int) : Option D := match d with
  | .str z => if z.length ≤ sizeLine then some (.str (cutS z lo hi)) else none
  | .tup ds => some (.tup (cutX ds lo hi))
  | d => match rdOf hs d with | some ds => some (.lst (cutX ds lo hi)) | none => none
def rSlG (K : PySem.W.Frag) (mg : Str → Option Value) (g : Hs → D → Option Int → Option Int → Option D) : V → Option Int → Option Int → Hp → VK → Prop := fun x lo hi H Q => ∃ mu hs d w, Sim K mg mu hs H ∧ RD K mu H d x ∧ g hs d lo hi = some w ∧
  ∀ mu' H' v, Lat mu H mu' H' → Sim K mg mu' hs H' → RD K mu' H' w v → Q v H'
theorem cut_whole {t : Type} (xs : List t) {lo hi : Option Int} (h1 : HT.sIx xs.length 0 lo = 0) (h2 : HT.sIx xs.length xs.length hi = xs.length) : cutX xs lo hi = xs := by
  unfold cutX
  rw [h1, h2, List.drop_zero, Nat.sub_zero, List.take_length]
theorem sl_g : SlR X (rSlG X.K X.mg gSl) := by
  rintro pins s σ H x v vl vu lo hi sl Q I rx hs pl pu ⟨mu, hs', d, w, S, r1, hg, q⟩
  have lst : (match rdOf hs' d with | some ds => some (D.lst (cutX ds lo hi)) | none => none) = some w → ∃ T id, typeLookup (.type T) "__getitem__" = pure (some (.builtin id)) ∧ s.TypeIs v T ∧ wpAny (model X.prog X.w) X.A (getItem v (.ref sl)) (EP X pins σ Q) X.xe s := by
    intro h
    split at h
    · rename_i ds hds
      cases h
      obtain ⟨p, vs, rfl, h1, h2⟩ := rdOf_at S r1 hds
      exact sl_list pins s σ H _ v vl vu lo hi sl Q I rx hs pl pu ⟨p, vs, rfl, h1, fun p hp => finL S q hp (h2.cut lo hi)⟩
    · cases h
  unfold gSl at hg
  cases d with
  | str z =>
    dsimp only at hg
    split at hg
    · rename_i hz
      cases hg; cases r1
      exact sl_str pins s σ H _ v vl vu lo hi sl Q I rx hs pl pu ⟨z, rfl, hz, fin0 S q (.str _)⟩
    · cases hg
  | tup ds =>
    cases hg
    obtain ⟨p, vs, rfl, h1, h2⟩ := tupOf_at r1 rfl
    refine sl_tupA pins s σ H _ v vl vu lo hi sl Q I rx hs pl pu ⟨p, vs, rfl, h1, fun ⟨e1, e2⟩ => ?_, fun _ p hp => finT S q hp (h2.cut lo hi)⟩
    rw [← h2.length] at e1 e2
    exact fin0 S q (by rw [cut_whole ds e1 e2]; exact r1)
  | _ => exact lst hg
def eSl (f : FE) (lo hi : FO) : FE := fun e hs => (f e hs).bind fun d hs => (lo e hs).bind fun l hs => (hi e hs).bind fun h hs => R.ofO (gSl hs d l h) hs
theorem ue_sl {lo hi : Option Expr} {p2 : Pos} {fl fh : FO} (ha : UE X Wd a f1) (hl : UO X Wd lo fl) (hh : UO X Wd hi fh) : UE X Wd (.Subscript a (.Slice lo hi none p2) pos) (eSl f1 fl fh) := by
  refine PE.imp (pe_slice sl_g ha hl hh) fun σ H Q h => ?_
  obtain ⟨e, mu, hs, S, E, q⟩ := tG_seq (r := relD X.K) relD_ok h
  refine ⟨e, mu, hs, S, E, q.imp fun x H1 ⟨e, mu1, hs1, d, S1, E1, r1, g1⟩ => ?_⟩
  refine ⟨e, mu1, hs1, S1, E1, (Gd.bind (r := relO) relD_ok g1).imp fun lo H2 ⟨mu2, hs2, lo', l2, S2, r2, g2⟩ => ?_⟩
  have r2 : lo' = lo := r2
  subst r2
  refine ⟨e, mu2, hs2, S2, E1.agr (l2.agr S1), (Gd.bind (r := relO) relD_ok g2).imp fun hi H3 ⟨mu3, hs3, hi', l3, S3, r3, g3⟩ => ?_⟩
  have r3 : hi' = hi := r3
  subst r3
  cases q : gSl hs3 d lo' hi' with
  | none => rw [q] at g3; exact g3.elim
  | some w => rw [q] at g3; exact ⟨mu3, hs3, d, w, S3, RD.agr (l3.agr S2) (RD.agr (l2.agr S1) r1), q, g3⟩
/-- xs[::-1], a new list -/
def lRev (f : FE) : FL := fun e hs => (f e hs).bind fun d hs => R.ofO ((rdOf hs d).map List.reverse) hs
theorem relF_new {K : PySem.W.Frag} {mg : Str → Option Value} {mu : Mp} {hs : Hs} {H : Hp} {Q : VK} {ds : List D} {vs : List V} {p : Addr} (S : Sim K mg mu hs H) (q : ∀ mu' H' v, Lat mu H mu' H' → Sim K mg mu' hs H' → relF K mg H mu' hs H' ds v → Q v H') (hp : H p = none) (r : RDs K mu H ds vs) : Q (.ref p) (upd H p (.lst vs)) :=
  q mu _ _ (.new hp) (S.new hp) ⟨p, vs, rfl, upd_same, S.fresh hp, S.freshz hp, hp, RDs.agr (Lat.agr (.new hp) S) r⟩
theorem uf_rev {k : Nat} {p1 p2 p3 : Pos} (ha : UE X Wd a f1) : UF X Wd (.Subscript a (.Slice none none (some (.UnaryOp .USub (.Constant (.int 1) k p1) p2)) p3) pos) (lRev f1) := by
  refine PE.imp (pe_revL ha) fun σ H Q h => ?_
  obtain ⟨e, mu, hs, S, E, q⟩ := tG_seq (r := relD X.K) relF_ok h
  refine ⟨e, mu, hs, S, E, q.imp fun x H1 ⟨e, mu1, hs1, d, S1, E1, r1, g1⟩ => ?_⟩
  cases q : rdOf hs1 d with
  | none => rw [q] at g1; exact g1.elim
  | some ds =>
    rw [q] at g1
    obtain ⟨p, vs, rfl, h1, h2⟩ := rdOf_at S1 r1 q
    exact ⟨p, vs, rfl, h1, fun p hp => relF_new S1 g1 hp h2.reverse⟩

/-! ### calls by values -/
def rC (K : PySem.W.Frag) (mg : Str → Option Value) (g : Hs → List D → Option D) : List V → Hp → VK → Prop := fun xs H Q => ∃ mu hs ds w, Sim K mg mu hs H ∧ RDs K mu H ds xs ∧ g hs ds = some w ∧
  ∀ mu' H' v, Lat mu H mu' H' → Sim K mg mu' hs H' → RD K mu' H' w v → Q v H'
def eCall (g : Hs → List D → Option D) (f : FA) : FE := fun e hs => (f e hs).bind fun ds hs => R.ofO (g hs ds) hs
theorem tG_call {K : PySem.W.Frag} {mg : Str → Option Value} {g : Hs → List D → Option D} {f : FA} {σ : L2.St} {H : Hp} {Q : VK} (h : tG (relD K) K mg Wd (eCall g f) σ H Q) : tG (relA K) K mg Wd f σ H (fun xs H1 => rC K mg g xs H1 Q) := by
  obtain ⟨e, mu, hs, S, E, q⟩ := tG_seq (r := relA K) relD_ok h
  refine ⟨e, mu, hs, S, E, q.imp fun x H1 ⟨e, mu1, hs1, d, S1, E1, r1, g2⟩ => ?_⟩
  cases q : g hs1 d with
  | none => rw [q] at g2; exact g2.elim
  | some w => rw [q] at g2; exact ⟨mu1, hs1, d, w, S1, r1, q, g2⟩
variable {g : Hs → List D → Option D} {f : FA} {x : Str} {p : Pos} {e : Expr} {es : List Expr} {mid T : String}
theorem ue_callB (hc : CallR X (.builtin mid) (rC X.K X.mg g)) (hg : Gl X x) (hm : X.mg x = none) (hv : bootBuiltins x = some (.builtin mid)) (ha : UA X Wd (e :: es) f) (hn : x ≠ "__name__" := by decide) (hdb : (x == ("__debug__" : Str)) = false := by decide)
    (he : starEach (e :: es) X.env = (false, eval e X.env) :: starEach es X.env := by rfl) (hpl : (backTo pos (starEach es X.env)).any (·.1) = false := by rfl) : UE X Wd (.Call (.Name x p) (e :: es) [] pos) (eCall g f) :=
  PE.imp (pe_callB hc hg hm hv ha hn hdb he hpl) fun _ _ _ h => tG_call h
theorem ue_callTy (hc : CallR X (.type T) (rC X.K X.mg g)) (hg : Gl X x) (hm : X.mg x = none) (hv : bootBuiltins x = some (.type T)) (ha : UA X Wd (e :: es) f) (hn : x ≠ "__name__" := by decide) (hdb : (x == ("__debug__" : Str)) = false := by decide)
    (he : starEach (e :: es) X.env = (false, eval e X.env) :: starEach es X.env := by rfl) (hpl : (backTo pos (starEach es X.env)).any (·.1) = false := by rfl) : UE X Wd (.Call (.Name x p) (e :: es) [] pos) (eCall g f) :=
  PE.imp (pe_callTy hc hg hm hv ha hn hdb he hpl) fun _ _ _ h => tG_call h
/-- len -/
def gLen (hs : Hs) (ds : List D) : Option D := match ds with
  | [d] => (match d with
    | .str y => if y.length ≤ sizeLine then some (.int y.length) else none
    | d => match seqOf hs d with | some ds => some (.int ds.length) | none => none)
  | _ => none
theorem cg_len : CallR X (.builtin "len") (rC X.K X.mg gLen) := by
  rintro pins s σ H xs us Q I r ⟨mu, hs, ds, w, S, rs, hg, q⟩
  unfold gLen at hg
  split at hg
  · rename_i d
    cases rs with
    | cons r1 r2 =>
      cases r2
      cases d with
      | str y =>
        dsimp only at hg
        split at hg
        · rename_i hz
          cases hg; cases r1
          exact call_len pins s σ H _ us Q I r ⟨_, _, rfl, ⟨hz, rfl⟩, fin0 S q (.int _)⟩
        · cases hg
      | _ =>
        dsimp only at hg
        split at hg
        · rename_i ds hds
          cases hg
          obtain ⟨p, vs, rfl, h1, h2⟩ := seqOf_at S r1 hds
          exact call_len pins s σ H _ us Q I r ⟨_, _, rfl, h1.elim (fun z => .inl ⟨vs, z, h2.length⟩) (fun z => .inr ⟨vs, z, h2.length⟩), fin0 S q (.int _)⟩
        · cases hg
  · cases hg
/-- min, max of two ints -/
def gMin2 (hs : Hs) (ds : List D) : Option D := match ds with | [.int i, .int j] => some (.int (if j < i then j else i)) | _ => none
def gMax2 (hs : Hs) (ds : List D) : Option D := match ds with | [.int i, .int j] => some (.int (if j > i then j else i)) | _ => none
theorem cg_min2 (hc : X.calm = true) : CallR X (.builtin "min") (rC X.K X.mg gMin2) := by
  rintro pins s σ H xs us Q I r ⟨mu, hs, ds, w, S, rs, hg, q⟩
  unfold gMin2 at hg
  split at hg
  · cases hg
    cases rs with
    | cons r1 r2 => cases r1; cases r2 with
      | cons r3 r4 => cases r3; cases r4; exact call_min2 hc pins s σ H _ us Q I r ⟨_, _, rfl, fin0 S q (.int _)⟩
  · cases hg
theorem cg_max2 (hc : X.calm = true) : CallR X (.builtin "max") (rC X.K X.mg gMax2) := by
  rintro pins s σ H xs us Q I r ⟨mu, hs, ds, w, S, rs, hg, q⟩
  unfold gMax2 at hg
  split at hg
  · cases hg
    cases rs with
    | cons r1 r2 => cases r1; cases r2 with
      | cons r3 r4 => cases r3; cases r4; exact call_max2 hc pins s σ H _ us Q I r ⟨_, _, rfl, fin0 S q (.int _)⟩
  · cases hg
/-- ints of a list -/
def intsOf : List D → Option (List Int)
  | [] => some []
  | .int i :: ds => (intsOf ds).map (i :: ·)
  | _ :: _ => none
theorem intsOf_eq : ∀ {ds : List D} {ns : List Int}, intsOf ds = some ns → ds = ns.map D.int
  | [], ns, h => by cases h; rfl
  | d :: ds, ns, h => by
    cases d with
    | int i =>
      obtain ⟨m, h1, h2⟩ := Option.map_eq_some_iff.mp (show (intsOf ds).map (i :: ·) = some ns from h)
      subst h2
      rw [intsOf_eq h1]; rfl
    | _ => cases h
theorem intsOf_map : ∀ ns : List Int, intsOf (ns.map D.int) = some ns
  | [] => rfl
  | n :: ns => by show (intsOf (ns.map D.int)).map (n :: ·) = _; rw [intsOf_map ns]; rfl
theorem RDs.of_ints {K : PySem.W.Frag} {mu : Mp} {H : Hp} : ∀ {ns : List Int} {vs : List V}, RDs K mu H (ns.map D.int) vs → vs = ns.map V.int
  | [], _, h => by cases h; rfl
  | n :: ns, _, h => by cases h with | cons r t => cases r; rw [RDs.of_ints t]; rfl
def gSum (hs : Hs) (ds : List D) : Option D := match ds with
  | [d] => (match rdOf hs d with | some xs => (match intsOf xs with | some ns => some (.int ns.sum) | none => none) | none => none)
  | _ => none
theorem cg_sum (hc : X.calm = true) : CallR X (.builtin "sum") (rC X.K X.mg gSum) := by
  rintro pins s σ H xs us Q I r ⟨mu, hs, ds, w, S, rs, hg, q⟩
  unfold gSum at hg
  split at hg
  · split at hg
    · rename_i ds hds
      split at hg
      · rename_i ns hns
        cases hg
        cases rs with
        | cons r1 r2 =>
          cases r2
          obtain ⟨p, vs, rfl, h1, h2⟩ := rdOf_at S r1 hds
          rw [intsOf_eq hns] at h2
          rw [h2.of_ints] at h1
          exact cr_sum hc pins s σ H _ us Q I r ⟨p, ns, rfl, h1, fin0 S q (.int _)⟩
      · cases hg
    · cases hg
  · cases hg
/-- bools of a list -/
def blsOf : List D → Option (List Bool)
  | [] => some []
  | .bl i :: ds => (blsOf ds).map (i :: ·)
  | _ :: _ => none
theorem blsOf_eq : ∀ {ds : List D} {ns : List Bool}, blsOf ds = some ns → ds = ns.map D.bl
  | [], ns, h => by cases h; rfl
  | d :: ds, ns, h => by
    cases d with
    | bl i =>
      obtain ⟨m, h1, h2⟩ := Option.map_eq_some_iff.mp (show (blsOf ds).map (i :: ·) = some ns from h)
      subst h2
      rw [blsOf_eq h1]; rfl
    | _ => cases h
theorem blsOf_map : ∀ ns : List Bool, blsOf (ns.map D.bl) = some ns
  | [] => rfl
  | n :: ns => by show (blsOf (ns.map D.bl)).map (n :: ·) = _; rw [blsOf_map ns]; rfl
theorem RDs.of_bls {K : PySem.W.Frag} {mu : Mp} {H : Hp} : ∀ {ns : List Bool} {vs : List V}, RDs K mu H (ns.map D.bl) vs → vs = ns.map V.bl
  | [], _, h => by cases h; rfl
  | n :: ns, _, h => by cases h with | cons r t => cases r; rw [RDs.of_bls t]; rfl
def gAll (hs : Hs) (ds : List D) : Option D := match ds with
  | [d] => (match rdOf hs d with | some xs => (match blsOf xs with | some ns => some (.bl (ns.all id)) | none => none) | none => none)
  | _ => none
theorem cg_all (hc : X.calm = true) : CallR X (.builtin "all") (rC X.K X.mg gAll) := by
  rintro pins s σ H xs us Q I r ⟨mu, hs, ds, w, S, rs, hg, q⟩
  unfold gAll at hg
  split at hg
  · split at hg
    · rename_i ds hds
      split at hg
      · rename_i ns hns
        cases hg
        cases rs with
        | cons r1 r2 =>
          cases r2
          obtain ⟨p, vs, rfl, h1, h2⟩ := rdOf_at S r1 hds
          rw [blsOf_eq hns] at h2
          rw [h2.of_bls] at h1
          exact cr_all hc pins s σ H _ us Q I r ⟨p, ns, rfl, h1, fin0 S q (.bl _)⟩
      · cases hg
    · cases hg
  · cases hg
/-- int of an int, a bool; str of an int, a text -/
def gInt (hs : Hs) (ds : List D) : Option D := match ds with
  | [.int i] => some (.int i)
  | [.bl k] => some (.int (if k then 1 else 0))
  | _ => none
theorem cg_int : CallR X (.type "int") (rC X.K X.mg gInt) := by
  rintro pins s σ H xs us Q I r ⟨mu, hs, ds, w, S, rs, hg, q⟩
  unfold gInt at hg
  split at hg
  · cases hg
    cases rs with
    | cons r1 r2 => cases r1; cases r2; exact call_int1 pins s σ H _ us Q I r (.inl ⟨_, rfl, fin0 S q (.int _)⟩)
  · cases hg
    cases rs with
    | cons r1 r2 => cases r1; cases r2; exact call_int1 pins s σ H _ us Q I r (.inr ⟨_, rfl, fin0 S q (.int _)⟩)
  · cases hg
def gStr (hs : Hs) (ds : List D) : Option D := match ds with
  | [.int i] => if i.natAbs.log2 < 1920 then some (.str (toString i)) else none
  | [.bl b] => some (.str (if b then "True" else "False"))
  | _ => none
theorem cg_str : CallR X (.type "str") (rC X.K X.mg gStr) := by
  rintro pins s σ H xs us Q I r ⟨mu, hs, ds, w, S, rs, hg, q⟩
  unfold gStr at hg
  split at hg
  · split at hg
    · rename_i hz
      cases hg
      cases rs with
      | cons r1 r2 => cases r1; cases r2; exact call_str_int pins s σ H _ us Q I r ⟨_, rfl, hz, fin0 S q (.str _)⟩
    · cases hg
  · cases hg
    cases rs with
    | cons r1 r2 =>
      cases r1; cases r2
      obtain ⟨u, rfl, ru⟩ := vals1 r
      cases ru
      exact PySem.P.str_of_bool ⟨.str _, H, I.tok _, ⟨_, rfl⟩, fin0 S q (.str _)⟩
  · cases hg
/-- list(x), tuple(x) -/
def lList (f : FE) : FL := fun e hs => (f e hs).bind fun d hs => R.ofO (seqOf hs d) hs
theorem uf_list (hg : Gl X "list") (hm : X.mg "list" = none) (ha : UE X Wd a f1)
    (hs1 : starEach [a] X.env = [(false, eval a X.env)] := by rfl) : UF X Wd (.Call (.Name "list" p) [a] [] pos) (lList f1) := by
  refine PE.imp (pe_callTy call_list_of hg hm boot_list (pa_cons ha pa_nil hs1) (by decide) (by decide) hs1 rfl) fun σ H Q h => ?_
  obtain ⟨e, mu, hs, S, E, q⟩ := tG_seq (r := relD X.K) relF_ok h
  refine ⟨e, mu, hs, S, E, q.imp fun x H1 ⟨e, mu1, hs1, d, S1, E1, r1, g1⟩ => ?_⟩
  cases q : seqOf hs1 d with
  | none => rw [q] at g1; exact g1.elim
  | some ds =>
    rw [q] at g1
    obtain ⟨p, vs, rfl, h1, h2⟩ := seqOf_at S1 r1 q
    exact ⟨p, vs, rfl, h1, fun p hp => relF_new S1 g1 hp h2⟩
def gTuple (hs : Hs) (ds : List D) : Option D := match ds with
  | [d] => (match d with
    | .tup xs => some (.tup xs)
    | d => match rdOf hs d with | some xs => some (.tup xs) | none => none)
  | _ => none
theorem cg_tuple : CallR X (.type "tuple") (rC X.K X.mg gTuple) := by
  rintro pins s σ H xs us Q I r ⟨mu, hs, ds, w, S, rs, hg, q⟩
  cases rs with
  | nil => cases hg
  | cons r1 r2 =>
    cases r2 with
    | cons _ _ => cases hg
    | nil =>
      rename_i d v
      have lst : (match rdOf hs d with | some xs => some (D.tup xs) | none => none) = some w → wpAny (model X.prog X.w) X.A (call (.type "tuple") us) (EP X pins σ Q) X.xe s := by
        intro h
        split at h
        · rename_i ds hds
          cases h
          obtain ⟨p, vs, rfl, h1, h2⟩ := rdOf_at S r1 hds
          exact call_tuple_of pins s σ H _ us Q I r ⟨p, vs, rfl, .inl ⟨h1, fun l hl => finT S q hl h2⟩⟩
        · cases h
      cases d with
      | tup ds =>
        cases hg
        obtain ⟨p, vs, rfl, h1, h2⟩ := tupOf_at r1 rfl
        exact call_tuple_of pins s σ H _ us Q I r ⟨p, vs, rfl, .inr ⟨h1, fin0 S q r1⟩⟩
      | _ => exact lst hg
/-- repr of data -/
def smallText (p : PyData) : Bool := p.showable && decide (p.depth ≤ 60) && decide (p.shown.length ≤ sizeLine) && !p.hasDict
def gRepr (hs : Hs) (ds : List D) : Option D := match ds with
  | [d] => (match pd hs d with | some p => if smallText p = true then some (.str p.shown) else none | none => none)
  | _ => none
theorem cg_repr (hgd : X.A.guards = some []) (hu : X.A.units + 64 < cLine) : CallR X (.builtin "repr") (rC X.K X.mg gRepr) := by
  rintro pins s σ H xs us Q I r ⟨mu, hs, ds, w, S, rs, hg, q⟩
  unfold gRepr at hg
  split at hg
  · rename_i d
    split at hg
    · rename_i p hp
      split at hg
      · rename_i hz
        cases hg
        unfold smallText at hz
        simp only [Bool.and_eq_true, decide_eq_true_eq, Bool.not_eq_true'] at hz
        obtain ⟨⟨⟨z1, z2⟩, z3⟩, z4⟩ := hz
        cases rs with
        | cons r1 r2 =>
          cases r2
          have hd := pd_dp S r1 hp
          obtain ⟨u, rfl, ru⟩ := vals1 r
          have fin : ∀ (h' : Heap) (t : Tok) (tk : Nat), (∀ b o, s.heap.get? b = some o → h'.get? b = some o) → EP X pins σ Q (.str p.shown t) { s with heap := h', toks := tk } := fun h' t tk hk => ⟨.str p.shown, H, I.kept hk, ⟨t, rfl⟩, fin0 S q (.str _)⟩
          have fin1 : ∀ (t : Tok) (tk : Nat), EP X pins σ Q (.str p.shown t) { s with toks := tk } := fun t tk => ⟨.str p.shown, H, I.tok _, ⟨t, rfl⟩, fin0 S q (.str _)⟩
          cases hd with
          | non => cases ru; exact PySem.P.repr_of_none (fin1 _ _)
          | bl b => cases ru; exact PySem.P.repr_of_bool (fin1 _ _)
          | int i =>
            obtain ⟨t, rfl⟩ := ru
            exact PySem.P.repr_of_int (by simpa [PyData.showable] using z1) (fin1 _ _)
          | str x => obtain ⟨t, rfl⟩ := ru; exact PySem.P.repr_of_str (fin1 _ _) z3
          | lst h1 h2 =>
            obtain ⟨as, rd⟩ := Dp.reads I _ _ _ (.lst h1 h2) ru
            cases ru
            exact repr_of_reads' rd z1 (PyData.noDict_hsm z4) hgd (by omega) (fun _ _ e => e) (fun h' u tk hk => fin h' u tk hk) z3
          | tup h1 h2 =>
            obtain ⟨as, rd⟩ := Dp.reads I _ _ _ (.tup h1 h2) ru
            cases ru
            exact repr_of_reads' rd z1 (PyData.noDict_hsm z4) hgd (by omega) (fun _ _ e => e) (fun h' u tk hk => fin h' u tk hk) z3
      · cases hg
    · cases hg
  · cases hg

/-! ### methods -/
/-- a method by values: our heap may change -/
def rMd (K : PySem.W.Frag) (mg : Str → Option Value) (g : Hs → D → List D → Option (D × Hs)) : V → List V → Hp → VK → Prop := fun x xs H Q => ∃ mu hs d ds w hs', Sim K mg mu hs H ∧ RD K mu H d x ∧ RDs K mu H ds xs ∧ g hs d ds = some (w, hs') ∧
  ∀ mu' H' v, Lat mu H mu' H' → Sim K mg mu' hs' H' → RD K mu' H' w v → Q v H'
def isL (hs : Hs) (d : D) : Bool := (lstOf hs d).isSome
def isS (d : D) : Bool := match d with | .str _ => true | _ => false
def R.ofP {t : Type} (o : Option (t × Hs)) : R t := match o with | some (x, hs) => .ok x hs | none => .bad
def eMt (c : Hs → D → Bool) (g : Hs → D → List D → Option (D × Hs)) (f1 : FE) (f : FA) : FE := fun e hs => (f1 e hs).bind fun d hs => if c hs d = true then (f e hs).bind fun ds hs => R.ofP (g hs d ds) else .bad
theorem tG_mt {K : PySem.W.Frag} {mg : Str → Option Value} {T : String} {c : Hs → D → Bool} {g : Hs → D → List D → Option (D × Hs)} (hc : ∀ mu hs H d x, Sim K mg mu hs H → RD K mu H d x → c hs d = true → tyV K T x H) {f : FA} {σ : L2.St} {H : Hp} {Q : VK} (h : tG (relD K) K mg Wd (eMt c g f1 f) σ H Q) :
    tBM K T (rMd K mg g) (tG (relD K) K mg Wd f1) (tG (relA K) K mg Wd f) σ H Q := by
  obtain ⟨e, mu, hs, S, E, q⟩ := tG_seq (r := relD K) relD_ok h
  refine ⟨e, mu, hs, S, E, q.imp fun x H1 ⟨e, mu1, hs1, d, S1, E1, r1, g1⟩ => ?_⟩
  split at g1
  · rename_i hcd
    refine ⟨hc _ _ _ _ _ S1 r1 hcd, e, mu1, hs1, S1, E1, (Gd.bind (r := relA K) relD_ok g1).imp fun xs H2 ⟨mu2, hs2, ds, l2, S2, r2, g2⟩ => ?_⟩
    cases q : g hs2 d ds with
    | none => rw [q] at g2; exact g2.elim
    | some w => rw [q] at g2; exact ⟨mu2, hs2, d, ds, w.1, w.2, S2, RD.agr (l2.agr S1) r1, r2, q, g2⟩
  · exact g1.elim
theorem tG_mt0 {K : PySem.W.Frag} {mg : Str → Option Value} {T : String} {c : Hs → D → Bool} {g : Hs → D → List D → Option (D × Hs)} (hc : ∀ mu hs H d x, Sim K mg mu hs H → RD K mu H d x → c hs d = true → tyV K T x H) {σ : L2.St} {H : Hp} {Q : VK} (h : tG (relD K) K mg Wd (eMt c g f1 aNil) σ H Q) :
    tBM0 K T (rMd K mg g) (tG (relD K) K mg Wd f1) σ H Q := by
  obtain ⟨e, mu, hs, S, E, q⟩ := tG_seq (r := relD K) relD_ok h
  refine ⟨e, mu, hs, S, E, q.imp fun x H1 ⟨e, mu1, hs1, d, S1, E1, r1, g1⟩ => ?_⟩
  split at g1
  · rename_i hcd
    refine ⟨hc _ _ _ _ _ S1 r1 hcd, ?_⟩
    have g1 : Gd (relD K) K mg Wd σ mu1 H1 Q (R.ofP (g hs1 d [])) := g1
    cases q : g hs1 d [] with
    | none => rw [q] at g1; exact g1.elim
    | some w => rw [q] at g1; exact ⟨mu1, hs1, d, [], w.1, w.2, S1, r1, .nil, q, g1⟩
  · exact g1.elim
theorem isL_ty {K : PySem.W.Frag} {mg : Str → Option Value} : ∀ mu hs H d x, Sim K mg mu hs H → RD K mu H d x → isL hs d = true → tyV K "list" x H := fun mu hs H d x S r h => by
  unfold isL at h
  cases e : lstOf hs d with
  | none => rw [e] at h; cases h
  | some ds =>
    obtain ⟨a, vs, rfl, h1, _⟩ := lstOf_at S r e
    exact .inl ⟨rfl, vs, .of h1⟩
theorem isS_ty {K : PySem.W.Frag} {mg : Str → Option Value} : ∀ (mu : Mp) (hs : Hs) (H : Hp) (d : D) (x : V), Sim K mg mu hs H → RD K mu H d x → isS d = true → tyV K "str" x H := fun mu hs H d x S r h => by
  cases r <;> first | rfl | cases h
variable {o : Expr} {name : Str} {apos cpos : Pos} {c : Hs → D → Bool} {g' : Hs → D → List D → Option (D × Hs)}
theorem ue_mt (hc : ∀ mu hs H d x, Sim X.K X.mg mu hs H → RD X.K mu H d x → c hs d = true → tyV X.K T x H) (pa : PlainAttrs T) (slot : Slot T name mid) (hty : typeOf (.builtin mid) = pure (.type "method_descriptor")) (hm : MtR X mid (rMd X.K X.mg g')) (ho : UE X Wd o f1) (ha : UA X Wd (e :: es) f)
    (hbase : attributeBase o name X.env (eval o X.env) = eval o X.env := by rfl)
    (hfew : ((backTo cpos (starEach (e :: es) X.env)).all (fun x => !x.1) && (backToKw cpos (keywordEach [] X.env)).all (fun x => x.1.isSome)
      && decide ((e :: es).length + ([] : List Keyword).length + (if ([] : List Keyword).isEmpty then 0 else 1) < 30)) = true := by rfl)
    (hline : (apos.endLine == cpos.line) = true := by rfl) (hs : starEach (e :: es) X.env = (false, eval e X.env) :: starEach es X.env := by rfl) (hplain : (backTo cpos (starEach es X.env)).any (·.1) = false := by rfl) :
    UE X Wd (.Call (.Attribute o name apos) (e :: es) [] cpos) (eMt c g' f1 f) := PE.imp (pe_bm pa slot hty hm ho ha hbase hfew hline hs hplain) fun _ _ _ h => tG_mt hc h
theorem ue_mt0 (hc : ∀ mu hs H d x, Sim X.K X.mg mu hs H → RD X.K mu H d x → c hs d = true → tyV X.K T x H) (pa : PlainAttrs T) (slot : Slot T name mid) (hty : typeOf (.builtin mid) = pure (.type "method_descriptor")) (hm : MtR X mid (rMd X.K X.mg g')) (ho : UE X Wd o f1)
    (hbase : attributeBase o name X.env (eval o X.env) = eval o X.env := by rfl) (hline : (apos.endLine == cpos.line) = true := by rfl) :
    UE X Wd (.Call (.Attribute o name apos) [] [] cpos) (eMt c g' f1 aNil) := PE.imp (pe_bm0 pa slot hty hm ho hbase hline) fun _ _ _ h => tG_mt0 hc h
/-- a list of the heap -/
def refOf (hs : Hs) : D → Option (Nat × List D)
  | .ref n => match hs[n]? with | some (.lst ds) => some (n, ds) | _ => none
  | _ => none
theorem refOf_at {K : PySem.W.Frag} {mg : Str → Option Value} {mu : Mp} {hs : Hs} {H : Hp} {d : D} {v : V} {n : Nat} {ds : List D} (S : Sim K mg mu hs H) (r : RD K mu H d v) (e : refOf hs d = some (n, ds)) : ∃ a vs, v = .ref a ∧ mu.l[n]? = some a ∧ H a = some (.lst vs) ∧ RDs K mu H ds vs := by
  cases r with
  | ref q =>
    unfold refOf at e
    dsimp only at e
    split at e
    · rename_i ds' he
      cases e
      obtain ⟨u, h1, h2⟩ := S.at q he
      cases u <;> first | exact ⟨_, _, rfl, q, h1, h2⟩ | exact h2.elim
    · cases e
  | _ => cases e
def mAppend (hs : Hs) (d : D) (ds : List D) : Option (D × Hs) := match ds with
  | [y] => (match refOf hs d with | some (n, xs) => if xs.length < sizeLine then some (.non, hs.set n (.lst (xs ++ [y]))) else none | none => none)
  | _ => none
theorem mg_append : MtR X "list.append" (rMd X.K X.mg mAppend) := by
  rintro pins s σ H x xs v us Q I rx rxs ⟨mu, hs, d, ds, w, hs', S, r1, r2, hg, q⟩
  unfold mAppend at hg
  split at hg
  · split at hg
    · rename_i n xs hx
      split at hg
      · rename_i hz
        cases hg
        cases r2 with
        | cons r3 r4 =>
          cases r4
          obtain ⟨a, vs, rfl, h1, h2, h3⟩ := refOf_at S r1 hx
          refine mt_append pins s σ H _ _ v us Q I rx rxs ⟨a, vs, _, rfl, rfl, h2, by rw [← h3.length]; exact hz, ?_⟩
          exact q mu _ _ (.write h1) (S.write h1 (RDs.snoc h3 r3)) .non
      · cases hg
    · cases hg
  · cases hg
def mPop (hs : Hs) (d : D) (ds : List D) : Option (D × Hs) := match ds with
  | [] => (match refOf hs d with | some (n, xs) => (match xs[xs.length - 1]? with | some y => some (y, hs.set n (.lst xs.dropLast)) | none => none) | none => none)
  | _ => none
theorem RDs.dropLast {K : PySem.W.Frag} {mu : Mp} {H : Hp} {ds : List D} {vs : List V} (r : RDs K mu H ds vs) : RDs K mu H ds.dropLast vs.dropLast := by
  rw [List.dropLast_eq_take, List.dropLast_eq_take, r.length]
  exact r.take _
theorem mg_pop : MtR X "list.pop" (rMd X.K X.mg mPop) := by
  rintro pins s σ H x xs v us Q I rx rxs ⟨mu, hs, d, ds, w, hs', S, r1, r2, hg, q⟩
  unfold mPop at hg
  split at hg
  · split at hg
    · rename_i n xs hx
      split at hg
      · rename_i y hy
        cases hg
        cases r2
        obtain ⟨a, vs, rfl, h1, h2, h3⟩ := refOf_at S r1 hx
        rw [h3.length] at hy
        obtain ⟨z, h4, h5⟩ := h3.get hy
        refine mt_pop pins s σ H _ _ v us Q I rx rxs ⟨a, vs, z, rfl, rfl, h2, h4, ?_⟩
        exact q mu _ _ (.write h1) (S.write h1 h3.dropLast) (RD.agr (Lat.agr (.write h1) S) h5)
      · cases hg
    · cases hg
  · cases hg
/-- text.index(sign), found -/
def mSIndex (hs : Hs) (d : D) (ds : List D) : Option (D × Hs) := match ds with
  | [.str b] => (match d with | .str a => (match Builtin.Str.occurrences a b 0 a.length 1 with | i :: _ => some (.int (i : Nat), hs) | [] => none) | _ => none)
  | _ => none
theorem mg_sindex : MtR X "str.index" (rMd X.K X.mg mSIndex) := by
  rintro pins s σ H x xs v us Q I rx rxs ⟨mu, hs, d, ds, w, hs', S, r1, r2, hg, q⟩
  unfold mSIndex at hg
  split at hg
  · split at hg
    · split at hg
      · rename_i i rest hi
        cases hg; cases r1
        cases r2 with
        | cons r3 r4 => cases r3; cases r4; exact mt_sindex pins s σ H _ _ v us Q I rx rxs ⟨_, _, i, rest, rfl, rfl, hi, q mu H _ .refl S (.int _)⟩
      · cases hg
    · cases hg
  · cases hg
/-- sep.join(texts) -/
def strsOf : List D → Option (List Str)
  | [] => some []
  | .str i :: ds => (strsOf ds).map (i :: ·)
  | _ :: _ => none
theorem strsOf_eq : ∀ {ds : List D} {ns : List Str}, strsOf ds = some ns → ds = ns.map D.str
  | [], ns, h => by cases h; rfl
  | d :: ds, ns, h => by
    cases d with
    | str i =>
      obtain ⟨m, h1, h2⟩ := Option.map_eq_some_iff.mp (show (strsOf ds).map (i :: ·) = some ns from h)
      subst h2
      rw [strsOf_eq h1]; rfl
    | _ => cases h
theorem strsOf_map : ∀ ns : List Str, strsOf (ns.map D.str) = some ns
  | [] => rfl
  | n :: ns => by show (strsOf (ns.map D.str)).map (n :: ·) = _; rw [strsOf_map ns]; rfl
theorem RDs.of_strs {K : PySem.W.Frag} {mu : Mp} {H : Hp} : ∀ {ns : List Str} {vs : List V}, RDs K mu H (ns.map D.str) vs → vs = ns.map V.str
  | [], _, h => by cases h; rfl
  | n :: ns, _, h => by cases h with | cons r t => cases r; rw [RDs.of_strs t]; rfl
def mJoin (hs : Hs) (d : D) (ds : List D) : Option (D × Hs) := match ds with
  | [y] => (match d with | .str a => (match seqOf hs y with | some zs => (match strsOf zs with | some ys => if (ys.map (·.length)).sum + ys.length * a.length ≤ 16777216 then some (.str (Txt.join a ys), hs) else none | none => none) | none => none) | _ => none)
  | _ => none
theorem mg_join : MtR X "str.join" (rMd X.K X.mg mJoin) := by
  rintro pins s σ H x xs v us Q I rx rxs ⟨mu, hs, d, ds, w, hs', S, r1, r2, hg, q⟩
  unfold mJoin at hg
  split at hg
  · split at hg
    · split at hg
      · rename_i zs hzs
        split at hg
        · rename_i ys hys
          split at hg
          · rename_i hz
            cases hg; cases r1
            cases r2 with
            | cons r3 r4 =>
              cases r4
              obtain ⟨p, vs, rfl, h1, h2⟩ := seqOf_at S r3 hzs
              rw [strsOf_eq hys] at h2
              have := h2.of_strs
              subst this
              exact mt_join pins s σ H _ _ v us Q I rx rxs ⟨_, p, ys, rfl, rfl, h1, hz, q mu H _ .refl S (.str _)⟩
          · cases hg
        · cases hg
      · cases hg
    · cases hg
  · cases hg
end
end G

/-! # G6: statements, targets, what is walked, loops, comprehensions -/
namespace G
open PySem PySem.Spec PyProof.Rows L2

/-- what is wanted of a statement's end -/
def GdS (K : PySem.W.Frag) (mg : Str → Option Value) (Wd : WX) (D : Ends) (mu : Mp) (H : Hp) : SR → Prop
  | .nx e hs' => ∀ mu' H' σ', Lat mu H mu' H' → Sim K mg mu' hs' H' → RE K mu' H' e σ' → D.nx σ' H'
  | .brk e hs' => ∀ mu' H' σ', Lat mu H mu' H' → Sim K mg mu' hs' H' → RE K mu' H' e σ' → D.bk σ' H'
  | .cnt e hs' => ∀ mu' H' σ', Lat mu H mu' H' → Sim K mg mu' hs' H' → RE K mu' H' e σ' → D.ct σ' H'
  | .ret d hs' => ∀ mu' H' v, Lat mu H mu' H' → Sim K mg mu' hs' H' → RD K mu' H' d v → D.rt v H'
  | .exc c fs e hs' => ∀ mu' H' σ' cls dx, Lat mu H mu' H' → Sim K mg mu' hs' H' → RE K mu' H' e σ' → RX K mg mu' H' c fs cls dx → Wd cls dx σ' H'
  | .bad => False
def tS (K : PySem.W.Frag) (mg : Str → Option Value) (Wd : WX) (f : FS) : TS := fun D σ H => ∃ e mu hs, Sim K mg mu hs H ∧ RE K mu H e σ ∧ GdS K mg Wd D mu H (f e hs)
section
variable {K : PySem.W.Frag} {mg : Str → Option Value} {Wd : WX} {mu mu1 : Mp} {H H1 : Hp} {D : Ends}
theorem GdS.later (l : Lat mu H mu1 H1) {x : SR} (h : GdS K mg Wd D mu H x) : GdS K mg Wd D mu1 H1 x := by
  cases x with
  | nx e hs' => exact fun mu' H' σ' l' s' q => h mu' H' σ' (l.trans l') s' q
  | brk e hs' => exact fun mu' H' σ' l' s' q => h mu' H' σ' (l.trans l') s' q
  | cnt e hs' => exact fun mu' H' σ' l' s' q => h mu' H' σ' (l.trans l') s' q
  | ret d hs' => exact fun mu' H' v l' s' q => h mu' H' v (l.trans l') s' q
  | exc c fs e hs' => exact fun mu' H' σ' cls dx l' s' q => h mu' H' σ' cls dx (l.trans l') s' q
  | bad => exact h
end
/-- an expression ahead of a statement -/
def sBind {a : Type} (f : Ev → Hs → R a) (k : a → FS) : FS := fun e hs => match f e hs with
  | .ok x hs' => k x e hs'
  | .exc c fs hs' => .exc c fs e hs'
  | .bad => .bad
theorem tS_bind {K : PySem.W.Frag} {mg : Str → Option Value} {Wd : WX} {a b : Type} {r : Rel a b} {f : Ev → Hs → R a} {k : a → FS} {D : Ends} {σ : L2.St} {H : Hp} (h : tS K mg Wd (sBind f k) D σ H) :
    tG r K mg Wd f σ H (fun y H1 => ∃ e mu1 hs1 x, Sim K mg mu1 hs1 H1 ∧ RE K mu1 H1 e σ ∧ r H mu1 hs1 H1 x y ∧ GdS K mg Wd D mu1 H1 (k x e hs1)) := by
  obtain ⟨e, mu, hs, S, E, g⟩ := h
  refine ⟨e, mu, hs, S, E, ?_⟩
  unfold sBind at g
  cases q : f e hs with
  | ok x hs' => rw [q] at g; exact fun mu' H' y l s rr => ⟨e, mu', hs', x, s, E.agr (l.agr S), rr, GdS.later l g⟩
  | exc c fs hs' => rw [q] at g; exact fun mu' H' cls dx l s rr => g mu' H' σ cls dx l s (E.agr (l.agr S)) rr
  | bad => rw [q] at g; exact g
theorem PS.imp {X : Cx} {st : Stmt} {t t' : TS} (h : PS X st t) (i : ∀ D σ H, t' D σ H → t D σ H) : PS X st t' := ⟨fun pins s σ H D I q => h.run pins s σ H D I (i D σ H q)⟩
theorem PSs.imp {X : Cx} {st : List Stmt} {t t' : TS} (h : PSs X st t) (i : ∀ D σ H, t' D σ H → t D σ H) : PSs X st t' := ⟨fun pins s σ H D I q => h.run pins s σ H D I (i D σ H q)⟩
abbrev US (X : Cx) (Wd : WX) (st : Stmt) (f : FS) : Prop := PS X st (tS X.K X.mg Wd f)
abbrev USs (X : Cx) (Wd : WX) (st : List Stmt) (f : FS) : Prop := PSs X st (tS X.K X.mg Wd f)

def sSkip : FS := fun e hs => .nx e hs
def sSeq (f g : FS) : FS := fun e hs => match f e hs with
  | .nx e' hs' => g e' hs'
  | .brk e' hs' => .brk e' hs'
  | .cnt e' hs' => .cnt e' hs'
  | .ret d hs' => .ret d hs'
  | .exc c fs e' hs' => .exc c fs e' hs'
  | .bad => .bad
section
variable {X : Cx} {Wd : WX} {st : Stmt} {rest : List Stmt} {f g : FS} {a b : Expr} {f1 f2 : FE} {t1 : FT} {pos : Pos}
theorem us_nil : USs X Wd [] sSkip := by
  refine PSs.imp pss_nil fun D σ H ⟨e, mu, hs, S, E, g⟩ => g mu H σ .refl S E
theorem us_cons (h1 : US X Wd st f) (h2 : USs X Wd rest g) : USs X Wd (st :: rest) (sSeq f g) := by
  refine PSs.imp (pss_cons h1 h2) fun D σ H ⟨e, mu, hs, S, E, q⟩ => ⟨e, mu, hs, S, E, ?_⟩
  unfold sSeq at q
  cases r : f e hs with
  | nx e' hs' => rw [r] at q; exact fun mu' H' σ' l s rr => ⟨e', mu', hs', s, rr, GdS.later l q⟩
  | brk e' hs' => rw [r] at q; exact q
  | cnt e' hs' => rw [r] at q; exact q
  | ret d hs' => rw [r] at q; exact q
  | exc c fs e' hs' => rw [r] at q; exact q
  | bad => rw [r] at q; exact q
theorem us_one (h1 : US X Wd st f) : USs X Wd [st] f := PSs.imp (pss_one h1) fun _ _ _ h => h
theorem us_pass : US X Wd (.Pass pos) sSkip := PS.imp ps_pass fun D σ H ⟨e, mu, hs, S, E, g⟩ => g mu H σ .refl S E
def sBrk : FS := fun e hs => .brk e hs
def sCnt : FS := fun e hs => .cnt e hs
theorem us_break : US X Wd (.Break pos) sBrk := PS.imp ps_break fun D σ H ⟨e, mu, hs, S, E, g⟩ => g mu H σ .refl S E
theorem us_continue : US X Wd (.Continue pos) sCnt := PS.imp ps_continue fun D σ H ⟨e, mu, hs, S, E, g⟩ => g mu H σ .refl S E
def sDrop (f1 : FE) : FS := sBind f1 fun _ e hs => .nx e hs
theorem us_expr (ha : UE X Wd a f1) (hs : swapsWith a none pos.line X.env = pure false := by rfl) : US X Wd (.Expr a pos) (sDrop f1) := by
  refine PS.imp (ps_expr ha hs) fun D σ H h => ?_
  obtain ⟨e, mu, hs, S, E, q⟩ := tS_bind (r := relD X.K) h
  exact ⟨e, mu, hs, S, E, q.imp fun v H1 ⟨e, mu1, hs1, d, S1, E1, r1, g1⟩ => g1 mu1 H1 σ .refl S1 E1⟩
def sRet (f1 : FE) : FS := sBind f1 fun d _ hs => .ret d hs
theorem us_ret (ha : UE X Wd a f1) : US X Wd (.Return (some a) pos) (sRet f1) := by
  refine PS.imp (ps_ret ha) fun D σ H h => ?_
  obtain ⟨e, mu, hs, S, E, q⟩ := tS_bind (r := relD X.K) h
  exact ⟨e, mu, hs, S, E, q.imp fun v H1 ⟨e, mu1, hs1, d, S1, E1, r1, g1⟩ => g1 mu1 H1 v .refl S1 r1⟩
def sRetN : FS := fun _ hs => .ret .non hs
theorem us_retN : US X Wd (.Return none pos) sRetN := PS.imp ps_retN fun D σ H ⟨e, mu, hs, S, E, g⟩ => g mu H .non .refl S .non
def sIf (t : FT) (f g : FS) : FS := sBind t fun c => if c = true then f else g
theorem us_if {c : Expr} {sa sb : List Stmt} (hc : UT X Wd c t1) (ha : USs X Wd sa f) (hb : USs X Wd sb g) : US X Wd (.If c sa sb pos) (sIf t1 f g) := by
  refine PS.imp (ps_if hc ha hb) fun D σ H h => ?_
  obtain ⟨e, mu, hs, S, E, q⟩ := tS_bind (r := relB) h
  refine ⟨e, mu, hs, S, E, q.imp fun v H1 ⟨e, mu1, hs1, d, S1, E1, r1, g1⟩ => ?_⟩
  have r1 : d = v := r1
  subst r1
  cases d with
  | true => exact ⟨e, mu1, hs1, S1, E1, g1⟩
  | false => exact ⟨e, mu1, hs1, S1, E1, g1⟩
/-- code that is never come to -/
theorem us_never : US X Wd st (fun _ _ => .bad) := PS.imp ps_never fun D σ H ⟨e, mu, hs, S, E, g⟩ => g

/-! ### targets -/
abbrev FG := D → Ev → Option Ev
def tGt (K : PySem.W.Frag) (mg : Str → Option Value) (vs : List Nat) (g : FG) : TG := fun v σ H Q => ∃ e mu hs d e', Sim K mg mu hs H ∧ RE K mu H e σ ∧ RD K mu H d v ∧ g d e = some e' ∧
  ∀ σ', RE K mu H e' σ' → wipe σ' vs = wipe σ vs → Q σ' H
abbrev FGs := List D → Ev → Option Ev
def tGts (K : PySem.W.Frag) (mg : Str → Option Value) (vs : List Nat) (g : FGs) : TGs := fun us σ H Q => ∃ e mu hs ds e', Sim K mg mu hs H ∧ RE K mu H e σ ∧ RDs K mu H ds us ∧ g ds e = some e' ∧
  ∀ σ', RE K mu H e' σ' → wipe σ' vs = wipe σ vs → Q σ' H
theorem PG.imp {tg : Expr} {t t' : TG} (h : PG X tg t) (i : ∀ v σ H Q, t' v σ H Q → t v σ H Q) : PG X tg t' := ⟨fun pins s σ H v u Q I r q => h.run pins s σ H v u Q I r (i v σ H Q q)⟩
theorem PGs.imp {tg : List Expr} {t t' : TGs} (h : PGs X tg t) (i : ∀ v σ H Q, t' v σ H Q → t v σ H Q) : PGs X tg t' := ⟨fun pins s σ H v u Q I r q => h.run pins s σ H v u Q I r (i v σ H Q q)⟩
theorem PG.or {tg : Expr} {t t' : TG} (h : PG X tg t) (h' : PG X tg t') : PG X tg (fun v σ H Q => t v σ H Q ∨ t' v σ H Q) := ⟨fun pins s σ H v u Q I r q => q.elim (h.run pins s σ H v u Q I r) (h'.run pins s σ H v u Q I r)⟩
abbrev UG (X : Cx) (vs : List Nat) (tg : Expr) (g : FG) : Prop := PG X tg (tGt X.K X.mg vs g)
abbrev UGs (X : Cx) (vs : List Nat) (tg : List Expr) (g : FGs) : Prop := PGs X tg (tGts X.K X.mg vs g)
theorem wipe_set {σ : L2.St} {i : Nat} {x : Option V} : ∀ {vs : List Nat}, i ∈ vs → wipe (σ.set i x) vs = wipe σ vs
  | v :: vs, h => by
    unfold wipe
    by_cases hv : i ∈ vs
    · rw [wipe_set hv]
    · have e : v = i := by
        rcases List.mem_cons.mp h with h | h
        · exact h.symm
        · exact absurd h hv
      subst e
      clear h
      have out : ∀ (vs : List Nat), v ∉ vs → wipe (σ.set v x) vs = (wipe σ vs).set v x := by
        intro vs
        induction vs with
        | nil => intro _; rfl
        | cons w vs ih =>
          intro hn
          unfold wipe
          rw [ih (fun z => hn (List.mem_cons_of_mem _ z)), List.set_comm _ _ (fun z => hn (by rw [z]; exact List.mem_cons_self))]
      rw [out vs hv, List.set_set]
def nSet (i : Nat) : FG := fun d e => some (e.set i (some d))
theorem ug_name {i : Nat} {x : Str} {vs : List Nat} (hN : X.N.Nodup) (hm : i ∈ vs) (hi : X.N[i]? = some x := by rfl) (hx : Loc X.env.scope x := by first | exact Or.inl rfl | exact Or.inr rfl) (hf : X.fn x = true ∨ X.env.scope.names.lookup x = some .local := by first | exact .inl rfl | exact .inr rfl) : UG X vs (.Name x pos) (nSet i) := by
  refine PG.imp (pg_name hN hi hx hf) fun v σ H Q ⟨e, mu, hs, d, e', S, E, r, q, k⟩ => ?_
  cases q
  exact k _ (E.set i r) (wipe_set hm)
def nNil : FGs := fun ds e => match ds with | [] => some e | _ => none
def nCons (g : FG) (gs : FGs) : FGs := fun ds e => match ds with | d :: ds => (match g d e with | some e' => gs ds e' | none => none) | [] => none
theorem ugs_nil {vs : List Nat} : UGs X vs [] nNil := by
  refine PGs.imp pgs_nil fun us σ H Q ⟨e, mu, hs, ds, e', S, E, r, q, k⟩ => ?_
  unfold nNil at q
  split at q
  · cases q; cases r; exact ⟨rfl, k σ E rfl⟩
  · cases q
theorem ugs_cons {vs : List Nat} {tg : Expr} {tgs : List Expr} {g : FG} {gs : FGs} (h1 : UG X vs tg g) (h2 : UGs X vs tgs gs)
    (hs : (assignEach (tg :: tgs) X.env).map (·.2) = assign tg X.env :: (assignEach tgs X.env).map (·.2) := by rfl) : UGs X vs (tg :: tgs) (nCons g gs) := by
  refine PGs.imp (pgs_cons h1 h2 hs) fun us σ H Q ⟨e, mu, hs, ds, e', S, E, r, q, k⟩ => ?_
  unfold nCons at q
  split at q
  · split at q
    · rename_i e1 q1
      cases r with
      | cons r1 r2 =>
        exact ⟨_, _, rfl, e, mu, hs, _, e1, S, E, r1, q1, fun σ1 E1 w1 => ⟨e1, mu, hs, _, e', S, E1, r2, q, fun σ2 E2 w2 => k σ2 E2 (w2.trans w1)⟩⟩
    · cases q
  · cases q
/-- (a, b, ..) = a tuple, a list -/
def nTup (n : Nat) (gs : FGs) : FG := fun d e => match d with
  | .tup ds => if ds.length = n then gs ds e else none
  | .lst ds => if ds.length = n then gs ds e else none
  | _ => none
theorem ug_tup {vs : List Nat} {es : List Expr} {k : Nat} {gs : FGs} {n : Nat} (hc : X.calm = true) (h : UGs X vs es gs)
    (hn : (assignEach es X.env).length = n := by rfl) (hst : (assignEach es X.env).findIdx? (·.1) = none := by rfl) : UG X vs (.Tuple es k pos) (nTup n gs) := by
  refine PG.imp (PG.or (pg_tup (k := k) hc h hn hst) (pg_lst (k := k) hc h hn hst)) fun v σ H Q ⟨e, mu, hs, d, e', S, E, r, q, kk⟩ => ?_
  cases r with
  | tup q1 r1 =>
    unfold nTup at q; dsimp only at q
    split at q
    · rename_i hl; exact .inl ⟨_, _, rfl, q1.sq, by rw [← r1.length]; exact hl, e, mu, hs, _, e', S, E, r1, q, kk⟩
    · cases q
  | lst q1 q2 r1 =>
    unfold nTup at q; dsimp only at q
    split at q
    · rename_i hl; exact .inr ⟨_, _, rfl, .of q1, by rw [← r1.length]; exact hl, e, mu, hs, _, e', S, E, r1, q, kk⟩
    · cases q
  | _ => cases q

/-! ### assignments -/
def sSet (i : Nat) (f1 : FE) : FS := sBind f1 fun d e hs => .nx (e.set i (some d)) hs
theorem us_set {i : Nat} {x : Str} {pos' : Pos} (hN : X.N.Nodup) (ha : UE X Wd a f1) (hi : X.N[i]? = some x := by rfl) (hx : Loc X.env.scope x := by first | exact Or.inl rfl | exact Or.inr rfl) (hs : swapsWith a (some (.Name x pos')) pos.line X.env = pure false := by rfl)
    (hf : X.fn x = true ∨ X.env.scope.names.lookup x = some .local := by first | exact .inl rfl | exact .inr rfl) : US X Wd (.Assign [.Name x pos'] a pos) (sSet i f1) := by
  refine PS.imp (ps_set hN hi hx ha hs hf) fun D σ H h => ?_
  obtain ⟨e, mu, hs, S, E, q⟩ := tS_bind (r := relD X.K) h
  exact ⟨e, mu, hs, S, E, q.imp fun v H1 ⟨e, mu1, hs1, d, S1, E1, r1, g1⟩ => g1 mu1 H1 _ .refl S1 (E1.set i r1)⟩
/-- target = value -/
def sAsg (g : FG) (f1 : FE) : FS := sBind f1 fun d e hs => match g d e with | some e' => .nx e' hs | none => .bad
theorem us_asg {vs : List Nat} {tg : Expr} {g : FG} (ha : UE X Wd a f1) (hg : UG X vs tg g) (hs : swapsWithSole [tg] a pos.line X.env = pure false := by rfl) (hw : swappedStores [tg] a X.env = pure none := by rfl)
    (h1 : (assignEach [tg] X.env).map (·.2) = [assign tg X.env] := by rfl) : US X Wd (.Assign [tg] a pos) (sAsg g f1) := by
  refine PS.imp (ps_asg ha hg hs hw h1) fun D σ H h => ?_
  obtain ⟨e, mu, hs, S, E, q⟩ := tS_bind (r := relD X.K) h
  refine ⟨e, mu, hs, S, E, q.imp fun v H1 ⟨e, mu1, hs1, d, S1, E1, r1, g1⟩ => ?_⟩
  cases q : g d e with
  | none => rw [q] at g1; exact g1.elim
  | some e' => rw [q] at g1; exact ⟨e, mu1, hs1, d, e', S1, E1, r1, q, fun σ' E' _ => g1 mu1 H1 σ' .refl S1 E'⟩
/-- a, b = x, y: two plain names -/
def sPar (i j : Nat) (f : FA) : FS := sBind f fun ds e hs => match ds with | [d1, d2] => .nx ((e.set i (some d1)).set j (some d2)) hs | _ => .bad
theorem us_par {i j : Nat} {x y : Str} {fa : FA} {px py pt : Pos} {kt k2 pt2} (hc : X.calm = true) (hN : X.N.Nodup) (hij : i ≠ j) (ha : UA X Wd [a, b] fa)
    (hw : swappedStores [.Tuple [.Name x px, .Name y py] kt pt] (.Tuple [a, b] k2 pt2) X.env = pure (some [x, y]))
    (hi : X.N[i]? = some x := by rfl) (hj : X.N[j]? = some y := by rfl) (hx : X.env.scope.names.lookup x = some .local := by rfl) (hy : X.env.scope.names.lookup y = some .local := by rfl)
    (hs : swapsWithSole [.Tuple [.Name x px, .Name y py] kt pt] (.Tuple [a, b] k2 pt2) pos.line X.env = pure false := by rfl) :
    US X Wd (.Assign [.Tuple [.Name x px, .Name y py] kt pt] (.Tuple [a, b] k2 pt2) pos) (sPar i j fa) := by
  refine PS.imp (ps_par hc hN hi hj hij hx hy ha hw hs) fun D σ H h => ?_
  obtain ⟨e, mu, hs, S, E, q⟩ := tS_bind (r := relA X.K) h
  refine ⟨e, mu, hs, S, E, q.imp fun v H1 ⟨e, mu1, hs1, d, S1, E1, r1, g1⟩ => ?_⟩
  split at g1
  · cases r1 with
    | cons r1 r2 => cases r2 with
      | cons r2 r3 => cases r3; exact ⟨_, _, rfl, g1 mu1 H1 _ .refl S1 ((E1.set i r1).set j r2)⟩
  · exact g1.elim
/-- name op= e -/
def sAug (i : Nat) (g : Hs → D → D → Option D) (f1 : FE) : FS := fun e hs => match e[i]? with
  | some (some x) => sBind f1 (fun y e hs => match g hs x y with | some z => .nx (e.set i (some z)) hs | none => .bad) e hs
  | _ => .bad
theorem us_aug {i : Nat} {x : Str} {op : Operator} {g : Hs → D → D → Option D} {pos' : Pos} (ho : PIp X op (rB X.K X.mg g)) (hN : X.N.Nodup) (ha : UE X Wd a f1) (hi : X.N[i]? = some x := by rfl) (hx : Loc X.env.scope x := by first | exact Or.inl rfl | exact Or.inr rfl) (hf : X.fn x = true ∨ X.env.scope.names.lookup x = some .local := by first | exact .inl rfl | exact .inr rfl) :
    US X Wd (.AugAssign (.Name x pos') op a pos) (sAug i g f1) := by
  refine PS.imp (ps_aug hN hi hx ha ho hf) fun D σ H ⟨e, mu, hs, S, E, q⟩ => ?_
  unfold sAug at q
  split at q
  · rename_i d hd
    obtain ⟨v, h1, h2⟩ := E.at_ i d hd
    refine ⟨v, h1, ?_⟩
    refine ⟨e, mu, hs, S, E, ?_⟩
    unfold sBind at q
    cases r : f1 e hs with
    | ok y hs' =>
      rw [r] at q
      intro mu' H' y' l s rr
      dsimp only at q
      cases gg : g hs' d y with
      | none => rw [gg] at q; exact q.elim
      | some z =>
        rw [gg] at q
        exact ⟨mu', hs', d, y, z, s, RD.agr (l.agr S) h2, rr, gg, fun mu2 H2 v2 l2 s2 r2 => q mu2 H2 _ (l.trans l2) s2 (((E.agr (l.agr S)).agr (l2.agr s)).set i r2)⟩
    | exc c fs hs' => rw [r] at q; exact fun mu' H' cls dx l s rr => q mu' H' σ cls dx l s (E.agr (l.agr S)) rr
    | bad => rw [r] at q; exact q
  · exact q.elim
theorem pip_of {op : Operator} {r : R2} (h : OpR X (inplaceOp op) r) : PIp X op r := fun pins s σ H x y v u Q I r1 r2 q => h pins s σ H x y v u Q I r1 r2 q
/-- o[i] = e -/
def rSet (K : PySem.W.Frag) (mg : Str → Option Value) (g : Hs → D → D → D → Option Hs) : TSet := fun o i v H Q => ∃ mu hs d1 d2 d3 hs', Sim K mg mu hs H ∧ RD K mu H d1 o ∧ RD K mu H d2 i ∧ RD K mu H d3 v ∧ g hs d1 d2 d3 = some hs' ∧ ∀ mu' H', Lat mu H mu' H' → Sim K mg mu' hs' H' → Q H'
def sSub (g : Hs → D → D → D → Option Hs) (fv fo fi : FE) : FS := sBind fv fun v => sBind fo fun o => sBind fi fun i e hs => match g hs o i v with | some hs' => .nx e hs' | none => .bad
theorem us_sub {v o i : Expr} {fv fo fi : FE} {g : Hs → D → D → D → Option Hs} {pos' : Pos} (hg : PSet X (rSet X.K X.mg g)) (hv : UE X Wd v fv) (ho : UE X Wd o fo) (hi : UE X Wd i fi)
    (ha : ∀ v, assign (.Subscript o i pos') X.env v = (do
      let ov ← holding [v] (eval o X.env)
      let iv ← holding [v, ov] (eval i X.env)
      standAt pos'
      holding [v, ov, iv] (setItem ov iv v)
      release [v, ov, iv] []) := by intro _; rfl)
    (hs : swapsWithSole [.Subscript o i pos'] v pos.line X.env = pure false := by rfl) (hw : swappedStores [.Subscript o i pos'] v X.env = pure none := by rfl)
    (h1 : (assignEach [.Subscript o i pos'] X.env).map (·.2) = [assign (.Subscript o i pos') X.env] := by rfl) : US X Wd (.Assign [.Subscript o i pos'] v pos) (sSub g fv fo fi) := by
  refine PS.imp (ps_asg hv (pg_sub ho hi hg ha) hs hw h1) fun D σ H h => ?_
  obtain ⟨e, mu, hs, S, E, q⟩ := tS_bind (r := relD X.K) h
  refine ⟨e, mu, hs, S, E, q.imp fun x H1 ⟨e, mu1, hs1, d, S1, E1, r1, g1⟩ => ?_⟩
  refine ⟨e, mu1, hs1, S1, E1, ?_⟩
  unfold sBind at g1
  cases q2 : fo e hs1 with
  | ok d2 hs2 =>
    rw [q2] at g1
    intro mu2 H2 y2 l2 S2 r2
    refine ⟨e, mu2, hs2, S2, E1.agr (l2.agr S1), ?_⟩
    dsimp only at g1
    cases q3 : fi e hs2 with
    | ok d3 hs3 =>
      rw [q3] at g1
      intro mu3 H3 y3 l3 S3 r3
      dsimp only at g1
      cases q4 : g hs3 d2 d3 d with
      | none => rw [q4] at g1; exact g1.elim
      | some hs4 =>
        rw [q4] at g1
        exact ⟨mu3, hs3, d2, d3, d, hs4, S3, RD.agr (l3.agr S2) r2, r3, RD.agr (l3.agr S2) (RD.agr (l2.agr S1) r1), q4, fun mu4 H4 l4 S4 => g1 mu4 H4 σ (l2.trans (l3.trans l4)) S4 (((E1.agr (l2.agr S1)).agr (l3.agr S2)).agr (l4.agr S3))⟩
    | exc c fs hs' => rw [q3] at g1; exact fun mu' H' cls dx l s rr => g1 mu' H' σ cls dx (l2.trans l) s ((E1.agr (l2.agr S1)).agr (l.agr S2)) rr
    | bad => rw [q3] at g1; exact g1
  | exc c fs hs' => rw [q2] at g1; exact fun mu' H' cls dx l s rr => g1 mu' H' σ cls dx l s (E1.agr (l.agr S1)) rr
  | bad => rw [q2] at g1; exact g1
def mSetL (hs : Hs) (o i v : D) : Option Hs := match i with
  | .int k => (match refOf hs o with | some (n, xs) => (match ixN xs.length k with | some j => some (hs.set n (.lst (xs.set j v))) | none => none) | none => none)
  | _ => none
theorem sg_list : PSet X (rSet X.K X.mg mSetL) := by
  rintro pins s σ H o i v ov iv u Q I r1 r2 r3 ⟨mu, hs, d1, d2, d3, hs', S, e1, e2, e3, hg, q⟩
  unfold mSetL at hg
  split at hg
  · split at hg
    · rename_i n xs hx
      split at hg
      · rename_i j hj
        cases hg; cases e2
        obtain ⟨a, vs, rfl, h1, h2, h3⟩ := refOf_at S e1 hx
        refine set_list pins s σ H _ _ v ov iv u Q I r1 r2 r3 ⟨a, vs, _, j, rfl, rfl, h2, by rw [← h3.length]; exact hj, ?_⟩
        exact q mu _ (.write h1) (S.write h1 (RDs.set e3 j h3))
      · cases hg
    · cases hg
  · cases hg
end
end G

/-! # G7: what is walked; for, while, comprehensions -/
namespace G
open PySem PySem.Spec PyProof.Rows L2

/-- at turn i in this heap: none: amiss; some none: at its end; some (some d): d comes -/
abbrev Nx := Hs → Nat → Option (Option D)
def RI (K : PySem.W.Frag) (mg : Str → Option Value) (mu : Mp) (H : Hp) (nx : Nx) (J : It) : Prop := ∀ mu' H' hs', Lat mu H mu' H' → Sim K mg mu' hs' H' → ∀ i,
  (nx hs' i = some none → J.stop i H') ∧ (∀ d, nx hs' i = some (some d) → J.go i H' ∧ ∀ x H2, J.yld i H' x H2 → Lat mu' H' mu' H2 ∧ Sim K mg mu' hs' H2 ∧ RD K mu' H2 d x)
def relI (K : PySem.W.Frag) (mg : Str → Option Value) : Rel Nx It := fun _ mu _ H nx J => RI K mg mu H nx J
theorem relI_ok {K : PySem.W.Frag} {mg : Str → Option Value} : (relI K mg).Ok := fun _ _ _ _ _ _ _ _ _ _ _ h => h
abbrev FI := Ev → Hs → R Nx
abbrev UI (X : Cx) (Wd : WX) (tg iter : Expr) (f : FI) : Prop := PI X tg iter (tG (relI X.K X.mg) X.K X.mg Wd f)
theorem PI.imp {X : Cx} {tg iter : Expr} {t t' : TI} (h : PI X tg iter t) (i : ∀ σ H Q, t' σ H Q → t σ H Q) : PI X tg iter t' := ⟨fun pins s σ H R I q => h.run pins s σ H R I (i σ H R q)⟩
/-- items that stand by themselves -/
def nxL (ds : List D) : Nx := fun _ i => some ds[i]?
/-- a list of the heap, as it is at each turn -/
def nxR (n : Nat) : Nx := fun hs i => match hs[n]? with | some (.lst ds) => some ds[i]? | _ => none
/-- range -/
def nxN (lo : Int) (n : Nat) : Nx := fun _ i => some (if i < n then some (.int (lo + i)) else none)
def nxOf (d : D) : Option Nx := match d with
  | .tup ds => some (nxL ds)
  | .ctp ds => some (nxL ds)
  | .lst ds => some (nxL ds)
  | .scr ds => some (nxL ds)
  | .ref n => some (nxR n)
  | _ => none
section
variable {X : Cx} {Wd : WX} {tg a b : Expr} {f1 f2 : FE}
def iSeq (f : FE) : FI := fun e hs => (f e hs).bind fun d hs => match d with
  | .lst ds => .ok (nxL ds) hs
  | .scr ds => .ok (nxL ds) hs
  | .ref n => (match hs[n]? with | some (.lst _) => .ok (nxR n) hs | _ => .bad)
  | _ => .bad
theorem nxL_list {K : PySem.W.Frag} {mg : Str → Option Value} {mu : Mp} {H : Hp} {ds : List D} {a : Addr} {vs : List V} (h : ∀ mu' H', Lat mu H mu' H' → ∀ hs', Sim K mg mu' hs' H' → SqL K H' a vs ∧ RDs K mu' H' ds vs) : RI K mg mu H (nxL ds) (Itl K a) := by
  intro mu' H' hs' l s i
  obtain ⟨h1, h2⟩ := h mu' H' l hs' s
  refine ⟨fun q => ⟨vs, h1, ?_⟩, fun d q => ?_⟩
  · have q : ds[i]? = none := Option.some.inj q
    rw [← h2.length]
    exact List.getElem?_eq_none_iff.mp q
  · have q : ds[i]? = some d := Option.some.inj q
    obtain ⟨v, e1, e2⟩ := h2.get q
    refine ⟨⟨vs, v, h1, e1⟩, fun x H2 y => ?_⟩
    obtain ⟨rfl, y⟩ := y
    have := y vs h1
    rw [e1] at this; cases this
    exact ⟨.refl, s, e2⟩
theorem ui_seq (ha : UE X Wd a f1) : UI X Wd tg a (iSeq f1) := by
  refine PI.imp (pi_list ha) fun σ H Q h => ?_
  obtain ⟨e, mu, hs, S, E, q⟩ := tG_seq (r := relD X.K) relI_ok h
  refine ⟨e, mu, hs, S, E, q.imp fun x H1 ⟨e, mu1, hs1, d, S1, E1, r1, g1⟩ => ?_⟩
  cases r1 with
  | lst h1 h2 h3 =>
    refine ⟨_, rfl, ⟨_, .of h1⟩, g1 mu1 H1 _ .refl S1 (nxL_list fun mu' H' l hs' s' => ⟨.of ((l.agr S1).lst _ _ h1 h2), RDs.agr (l.agr S1) h3⟩)⟩
  | scr h1 h3 =>
    refine ⟨_, rfl, ⟨_, h1.sq⟩, g1 mu1 H1 _ .refl S1 (nxL_list fun mu' H' l hs' s' => ⟨((l.agr S1).stL h1).sq, RDs.agr (l.agr S1) h3⟩)⟩
  | ref hn =>
    dsimp only at g1
    split at g1
    · rename_i ds hd
      obtain ⟨u, e1, e2⟩ := S1.at hn hd
      cases u <;> first
        | (rename_i vs
           refine ⟨_, rfl, ⟨vs, .of e1⟩, g1 mu1 H1 _ .refl S1 ?_⟩
           intro mu' H' hs' l s i
           have hn' := (l.agr S1).get hn
           refine ⟨fun q => ?_, fun d q => ?_⟩
           · unfold nxR at q
             split at q
             · rename_i ds' hd'
               obtain ⟨u', f1, f2⟩ := s.at hn' hd'
               cases u' <;> first
                 | (rename_i vs'
                    refine ⟨vs', .of f1, ?_⟩
                    have q : ds'[i]? = none := Option.some.inj q
                    have f2 : RDs _ _ _ _ _ := f2
                    rw [← f2.length]
                    exact List.getElem?_eq_none_iff.mp q)
                 | exact f2.elim
             · cases q
           · unfold nxR at q
             split at q
             · rename_i ds' hd'
               obtain ⟨u', f1, f2⟩ := s.at hn' hd'
               cases u' <;> first
                 | (rename_i vs'
                    have q : ds'[i]? = some d := Option.some.inj q
                    obtain ⟨v, g1, g2⟩ := RDs.get f2 q
                    refine ⟨⟨vs', v, .of f1, g1⟩, fun x H2 y => ?_⟩
                    obtain ⟨rfl, y⟩ := y
                    have := y vs' (.of f1)
                    rw [g1] at this; cases this
                    exact ⟨.refl, s, g2⟩)
                 | exact f2.elim
             · cases q)
        | exact e2.elim
    · exact g1.elim
  | _ => exact g1.elim
/-- a tuple -/
def iTp (f : FE) : FI := fun e hs => (f e hs).bind fun d hs => match d with | .tup ds => .ok (nxL ds) hs | .ctp ds => .ok (nxL ds) hs | _ => .bad
theorem ui_tup (ha : UE X Wd a f1) : UI X Wd tg a (iTp f1) := by
  refine PI.imp (pi_tup ha) fun σ H Q h => ?_
  obtain ⟨e, mu, hs, S, E, q⟩ := tG_seq (r := relD X.K) relI_ok h
  refine ⟨e, mu, hs, S, E, q.imp fun x H1 ⟨e, mu1, hs1, d, S1, E1, r1, g1⟩ => ?_⟩
  cases r1 with
  | tup h1 h3 =>
    refine ⟨_, rfl, ⟨_, h1.sq⟩, g1 mu1 H1 _ .refl S1 ?_⟩
    intro mu' H' hs' l s i
    have k1 := ((l.agr S1).stT h1).sq
    have k2 := RDs.agr (l.agr S1) h3
    refine ⟨fun q => ⟨_, k1, ?_⟩, fun d q => ?_⟩
    · have q : _ = none := Option.some.inj q
      rw [← k2.length]
      exact List.getElem?_eq_none_iff.mp q
    · obtain ⟨v, e1, e2⟩ := k2.get (Option.some.inj q)
      refine ⟨⟨_, v, k1, e1⟩, fun x H2 y => ?_⟩
      obtain ⟨rfl, y⟩ := y
      have := y _ k1
      rw [e1] at this; cases this
      exact ⟨.refl, s, e2⟩
  | ctp h1 h3 =>
    refine ⟨_, rfl, ⟨_, sqT_c h1⟩, g1 mu1 H1 _ .refl S1 ?_⟩
    intro mu' H' hs' l s i
    have k1 : SqT X.K H' _ _ := sqT_c h1
    have k2 := RDs.agr (l.agr S1) h3
    refine ⟨fun q => ⟨_, k1, ?_⟩, fun d q => ?_⟩
    · have q : _ = none := Option.some.inj q
      rw [← k2.length]
      exact List.getElem?_eq_none_iff.mp q
    · obtain ⟨v, e1, e2⟩ := k2.get (Option.some.inj q)
      refine ⟨⟨_, v, k1, e1⟩, fun x H2 y => ?_⟩
      obtain ⟨rfl, y⟩ := y
      have := y _ k1
      rw [e1] at this; cases this
      exact ⟨.refl, s, e2⟩
  | _ => exact g1.elim
/-- range(n), range(a, b) -/
def okR (i : Int) : Bool := decide (-4611686018427387904 ≤ i) && decide (i < 4611686018427387904)
theorem okR_of {i : Int} (h : okR i = true) : -(2 ^ 62) ≤ i ∧ i < 2 ^ 62 := by
  unfold okR at h
  simp only [Bool.and_eq_true, decide_eq_true_eq] at h
  exact ⟨by have := h.1; omega, by have := h.2; omega⟩
theorem nxN_ri {K : PySem.W.Frag} {mg : Str → Option Value} {mu : Mp} {H : Hp} {lo : Int} {n : Nat} : RI K mg mu H (nxN lo n) (Itr lo n) := by
  intro mu' H' hs' l s i
  unfold nxN
  refine ⟨fun q => ?_, fun d q => ?_⟩
  · split at q
    · cases q
    · rename_i h; exact Nat.le_of_not_lt h
  · split at q
    · rename_i h
      cases q
      refine ⟨h, fun x H2 y => ?_⟩
      obtain ⟨rfl, rfl⟩ := y
      exact ⟨.refl, s, .int _⟩
    · cases q
def iR1 (f : FA) : FI := fun e hs => (f e hs).bind fun ds hs => match ds with | [.int j] => if okR j = true then .ok (nxN 0 j.toNat) hs else .bad | _ => .bad
theorem ui_range1 {p pos : Pos} {fa : FA} (hg : Gl X "range") (hm : X.mg "range" = none) (ha : UA X Wd [a] fa) (hs : starEach [a] X.env = [(false, eval a X.env)] := by rfl) : UI X Wd tg (.Call (.Name "range" p) [a] [] pos) (iR1 fa) := by
  refine PI.imp (pi_range1 hg hm ha hs) fun σ H Q h => ?_
  obtain ⟨e, mu, hs, S, E, q⟩ := tG_seq (r := relA X.K) relI_ok h
  refine ⟨e, mu, hs, S, E, q.imp fun x H1 ⟨e, mu1, hs1, d, S1, E1, r1, g1⟩ => ?_⟩
  split at g1
  · split at g1
    · rename_i j hj
      cases r1 with
      | cons r1 r2 => cases r1; cases r2; exact ⟨j, rfl, (okR_of hj).1, (okR_of hj).2, g1 mu1 H1 _ .refl S1 nxN_ri⟩
    · exact g1.elim
  · exact g1.elim
def iR2 (f : FA) : FI := fun e hs => (f e hs).bind fun ds hs => match ds with | [.int i, .int j] => if (okR i && okR j) = true then .ok (nxN i (j - i).toNat) hs else .bad | _ => .bad
theorem ui_range2 {p pos : Pos} {fa : FA} (hg : Gl X "range") (hm : X.mg "range" = none) (ha : UA X Wd [a, b] fa) (hs : starEach [a, b] X.env = [(false, eval a X.env), (false, eval b X.env)] := by rfl) (hs2 : starEach [b] X.env = [(false, eval b X.env)] := by rfl) : UI X Wd tg (.Call (.Name "range" p) [a, b] [] pos) (iR2 fa) := by
  refine PI.imp (pi_range2 hg hm ha hs hs2) fun σ H Q h => ?_
  obtain ⟨e, mu, hs, S, E, q⟩ := tG_seq (r := relA X.K) relI_ok h
  refine ⟨e, mu, hs, S, E, q.imp fun x H1 ⟨e, mu1, hs1, d, S1, E1, r1, g1⟩ => ?_⟩
  split at g1
  · split at g1
    · rename_i i j hj
      rw [Bool.and_eq_true] at hj
      cases r1 with
      | cons r1 r2 => cases r1; cases r2 with
        | cons r2 r3 => cases r2; cases r3; exact ⟨i, j, rfl, ⟨(okR_of hj.1).1, (okR_of hj.1).2, (okR_of hj.2).1, (okR_of hj.2).2⟩, g1 mu1 H1 _ .refl S1 nxN_ri⟩
    · exact g1.elim
  · exact g1.elim
/-- a text, sign by sign -/
def signs (x : Str) : List D := x.cps.toList.map fun c => .str ⟨#[c]⟩
def iStrG (f : FE) : FI := fun e hs => (f e hs).bind fun d hs => match d with | .str x => .ok (nxL (signs x)) hs | _ => .bad
theorem ui_str (ha : UE X Wd a f1) : UI X Wd tg a (iStrG f1) := by
  refine PI.imp (pi_str ha) fun σ H Q h => ?_
  obtain ⟨e, mu, hs, S, E, q⟩ := tG_seq (r := relD X.K) relI_ok h
  refine ⟨e, mu, hs, S, E, q.imp fun x H1 ⟨e, mu1, hs1, d, S1, E1, r1, g1⟩ => ?_⟩
  cases r1 with
  | str x =>
    refine ⟨x, rfl, g1 mu1 H1 _ .refl S1 ?_⟩
    intro mu' H' hs' l s i
    refine ⟨fun q => ?_, fun d q => ?_⟩
    · have q : (signs x)[i]? = none := Option.some.inj q
      unfold signs at q
      have := List.getElem?_eq_none_iff.mp q
      show x.cps.size ≤ i
      simpa using this
    · have q : (signs x)[i]? = some d := Option.some.inj q
      unfold signs at q
      rw [List.getElem?_map] at q
      obtain ⟨c, hc, rfl⟩ := Option.map_eq_some_iff.mp q
      have hc' : x.cps[i]? = some c := by rw [← Array.getElem?_toList]; exact hc
      refine ⟨(Array.getElem?_eq_some_iff.mp hc').1, fun y H2 z => ?_⟩
      obtain ⟨rfl, c', z1, rfl⟩ := z
      rw [hc'] at z1; cases z1
      exact ⟨.refl, s, .str _⟩
  | _ => exact g1.elim
end

/-! ### for -/
def forF (nx : Nx) (g : FG) (body : FS) : Nat → Nat → Ev → Hs → SR
  | fuel, i, e, hs => match nx hs i with
    | none => .bad
    | some none => .nx e hs
    | some (some d) => match fuel with
      | 0 => .bad
      | k + 1 => match g d e with
        | none => .bad
        | some e' => match body e' hs with
          | .nx e2 hs2 => forF nx g body k (i + 1) e2 hs2
          | .cnt e2 hs2 => forF nx g body k (i + 1) e2 hs2
          | .brk e2 hs2 => .nx e2 hs2
          | .ret d hs2 => .ret d hs2
          | .exc c fs e2 hs2 => .exc c fs e2 hs2
          | .bad => .bad
def fuel : Nat := 100000
def sFor (f : FI) (g : FG) (body : FS) : FS := sBind f fun nx e hs => forF nx g body fuel 0 e hs
section
variable {X : Cx} {Wd : WX} {tg iter : Expr} {f : FI} {g : FG} {body : FS} {sb : List Stmt} {pos : Pos} {vs : List Nat}
theorem us_for (hp : PassesOwn (model X.prog X.w) X.A X.env X.xe) (hc : X.calm = true) (hi : UI X Wd tg iter f) (hg : UG X vs tg g) (hb : USs X Wd sb body)
    (hs : ∀ x, foldedSetIterable iter X.env x = pure x := by intro _; rfl) : US X Wd (.For tg iter sb [] pos) (sFor f g body) := by
  refine PS.imp (ps_for hp hc hi hg hb hs) fun D σ H h => ?_
  obtain ⟨e, mu, hs, S, E, q⟩ := tS_bind (r := relI X.K X.mg) h
  refine ⟨e, mu, hs, S, E, q.imp fun J H1 ⟨e, mu1, hs1, nx, S1, E1, r1, g1⟩ => ?_⟩
  refine ⟨fun i m σ H => ∃ mu hs e, Lat mu1 H1 mu H ∧ Sim X.K X.mg mu hs H ∧ RE X.K mu H e σ ∧ GdS X.K X.mg Wd D mu H (forF nx g body m i e hs), ⟨fuel, mu1, hs1, e, .refl, S1, E1, g1⟩, ?_⟩
  rintro i m σ2 H2 ⟨mu2, hs2, e2, l2, S2, E2, q2⟩
  have ri := r1 mu2 H2 hs2 l2 S2 i
  unfold forF at q2
  split at q2
  · exact q2.elim
  · rename_i hn
    exact .inl ⟨ri.1 hn, q2 mu2 H2 σ2 .refl S2 E2⟩
  · rename_i d hd
    obtain ⟨go, yl⟩ := ri.2 d hd
    refine .inr ⟨go, ?_⟩
    split at q2
    · exact q2.elim
    · rename_i k
      split at q2
      · exact q2.elim
      · rename_i e' he'
        refine ⟨fun σ3 H3 => ∃ mu hs e, Lat mu1 H1 mu H3 ∧ Sim X.K X.mg mu hs H3 ∧ RE X.K mu H3 e σ3 ∧ GdS X.K X.mg Wd D mu H3 (forF nx g body k (i + 1) e hs), fun σ' H' h => ⟨k, Nat.lt_succ_self k, h⟩, fun x H' y => ?_⟩
        obtain ⟨l3, S3, r3⟩ := yl x H' y
        refine ⟨e2, mu2, hs2, d, e', S3, E2.agr (l3.agr S2), r3, he', fun σ' E' _ => ⟨e', mu2, hs2, S3, E', ?_⟩⟩
        have q3 := GdS.later l3 q2
        have lx := l2.trans l3
        cases r : body e' hs2 with
        | nx e4 hs4 => rw [r] at q3; exact fun mu' H' σ' l s rr => ⟨mu', hs4, e4, lx.trans l, s, rr, GdS.later l q3⟩
        | cnt e4 hs4 => rw [r] at q3; exact fun mu' H' σ' l s rr => ⟨mu', hs4, e4, lx.trans l, s, rr, GdS.later l q3⟩
        | brk e4 hs4 => rw [r] at q3; exact q3
        | ret d hs4 => rw [r] at q3; exact q3
        | exc c fs e4 hs4 => rw [r] at q3; exact q3
        | bad => rw [r] at q3; exact q3

/-! ### while -/
def whileF (t : FT) (body : FS) : Nat → Ev → Hs → SR
  | 0, _, _ => .bad
  | k + 1, e, hs => match t e hs with
    | .bad => .bad
    | .exc c fs hs' => .exc c fs e hs'
    | .ok b hs' => if b = true then (match body e hs' with
        | .nx e2 hs2 => whileF t body k e2 hs2
        | .cnt e2 hs2 => whileF t body k e2 hs2
        | .brk e2 hs2 => .nx e2 hs2
        | .ret d hs2 => .ret d hs2
        | .exc c fs e2 hs2 => .exc c fs e2 hs2
        | .bad => .bad) else .nx e hs'
def sWhile (t : FT) (body : FS) : FS := whileF t body fuel
theorem us_while {c : Expr} {t : FT} (hp : PassesOwn (model X.prog X.w) X.A X.env X.xe) (hc : UT X Wd c t) (hb : USs X Wd sb body) : US X Wd (.While c sb [] pos) (sWhile t body) := by
  refine PS.imp (ps_while hp hc hb) fun D σ H ⟨e, mu, hs, S, E, q⟩ => ?_
  refine ⟨fun m σ H => ∃ mu hs e, Sim X.K X.mg mu hs H ∧ RE X.K mu H e σ ∧ GdS X.K X.mg Wd D mu H (whileF t body m e hs), ⟨fuel, mu, hs, e, S, E, q⟩, ?_⟩
  rintro m σ2 H2 ⟨mu2, hs2, e2, S2, E2, q2⟩
  cases m with
  | zero => exact q2.elim
  | succ k =>
    unfold whileF at q2
    refine ⟨e2, mu2, hs2, S2, E2, ?_⟩
    cases r : t e2 hs2 with
    | bad => rw [r] at q2; exact q2
    | exc c fs hs' => rw [r] at q2; exact fun mu' H' cls dx l s rr => q2 mu' H' σ2 cls dx l s (E2.agr (l.agr S2)) rr
    | ok b hs3 =>
      rw [r] at q2
      intro mu3 H3 b' l3 S3 rb
      have rb : b = b' := rb
      subst rb
      dsimp only at q2
      cases b with
      | false => rw [if_neg Bool.false_ne_true] at q2 ⊢; exact q2 mu3 H3 σ2 l3 S3 (E2.agr (l3.agr S2))
      | true =>
        rw [if_pos rfl] at q2 ⊢
        refine ⟨fun σ' H' => ∃ mu hs e, Sim X.K X.mg mu hs H' ∧ RE X.K mu H' e σ' ∧ GdS X.K X.mg Wd D mu H' (whileF t body k e hs), fun σ' H' h => ⟨k, Nat.lt_succ_self k, h⟩, ?_⟩
        refine ⟨e2, mu3, hs3, S3, E2.agr (l3.agr S2), ?_⟩
        have q3 := GdS.later l3 q2
        cases r : body e2 hs3 with
        | nx e4 hs4 => rw [r] at q3; exact fun mu' H' σ' l s rr => ⟨mu', hs4, e4, s, rr, GdS.later l q3⟩
        | cnt e4 hs4 => rw [r] at q3; exact fun mu' H' σ' l s rr => ⟨mu', hs4, e4, s, rr, GdS.later l q3⟩
        | brk e4 hs4 => rw [r] at q3; exact q3
        | ret d hs4 => rw [r] at q3; exact q3
        | exc c fs e4 hs4 => rw [r] at q3; exact q3
        | bad => rw [r] at q3; exact q3
end

/-! ### comprehensions -/
def wipeE (e : Ev) : List Nat → Ev
  | [] => e
  | v :: vs => (wipeE e vs).set v none
theorem RE.wipe {K : PySem.W.Frag} {mu : Mp} {H : Hp} {e : Ev} {σ : L2.St} (h : RE K mu H e σ) : ∀ vs, RE K mu H (wipeE e vs) (L2.wipe σ vs)
  | [] => h
  | v :: vs => by
    have ih := RE.wipe h vs
    unfold wipeE L2.wipe
    refine ⟨by rw [List.length_set, List.length_set]; exact ih.len, fun j x q => ?_⟩
    by_cases hj : v = j
    · subst hj
      by_cases hi : v < (wipeE e vs).length
      · rw [List.getElem?_set_self hi] at q; cases q
      · rw [List.getElem?_eq_none (by simpa using hi)] at q; cases q
    · rw [List.getElem?_set_ne hj] at q
      rw [List.getElem?_set_ne hj]
      exact ih.at_ j x q
def compF (nx : Nx) (g : FG) (t : FT) (el : FE) (e : Ev) : Nat → Nat → List D → Hs → R (List D)
  | fuel, i, acc, hs => match nx hs i with
    | none => .bad
    | some none => .ok acc hs
    | some (some d) => match fuel with
      | 0 => .bad
      | k + 1 => match g d e with
        | none => .bad
        | some e' => match t e' hs with
          | .ok b hs2 => if b = true then (match el e' hs2 with
              | .ok y hs3 => if acc.length < sizeLine then compF nx g t el e k (i + 1) (acc ++ [y]) hs3 else .bad
              | _ => .bad) else compF nx g t el e k (i + 1) acc hs2
          | _ => .bad
def lComp (f : FI) (g : FG) (t : FT) (el : FE) (vs : List Nat) : FL := fun e hs => (f e hs).bind fun nx hs => compF nx g t el (wipeE e vs) fuel 0 [] hs
/-- no exception leaves -/
abbrev W0 : WX := fun _ _ _ _ => False
def tYesF : FT := fun _ hs => .ok true hs
abbrev UTs (X : Cx) (Wd : WX) (ifs : List Expr) (t : FT) : Prop := PTs X ifs (tG relB X.K X.mg Wd t)
theorem PTs.imp {X : Cx} {ifs : List Expr} {t t' : TT} (h : PTs X ifs t) (i : ∀ σ H Q, t' σ H Q → t σ H Q) : PTs X ifs t' := ⟨fun pins s σ H Q I q => h.run pins s σ H Q I (i σ H Q q)⟩
theorem wipe_idem (σ : L2.St) (vs : List Nat) : wipe (wipe σ vs) vs = wipe σ vs := by
  have one : ∀ (ws vs : List Nat), (∀ w ∈ ws, w ∈ vs) → ∀ σ, wipe (wipe σ vs) ws = wipe σ vs := by
    intro ws
    induction ws with
    | nil => intro vs _ σ; rfl
    | cons w ws ih =>
      intro vs hs σ
      have : wipe (wipe σ vs) ws = wipe σ vs := ih vs (fun z hz => hs z (List.mem_cons_of_mem _ hz)) σ
      show (wipe (wipe σ vs) ws).set w none = wipe σ vs
      rw [this]
      have gone : ∀ (vs : List Nat), w ∈ vs → ∀ σ, (wipe σ vs).set w none = wipe σ vs := by
        intro vs
        induction vs with
        | nil => intro h; cases h
        | cons v vs ih2 =>
          intro h σ
          unfold wipe
          by_cases e : w = v
          · subst e; rw [List.set_set]
          · rcases List.mem_cons.mp h with h | h
            · exact absurd h e
            · rw [List.set_comm _ _ (fun z => e z.symm), ih2 h]
      exact gone vs (hs w List.mem_cons_self) σ
  exact one vs vs (fun _ h => h) σ
section
variable {X : Cx} {Wd : WX} {elt tg iter : Expr} {ifs : List Expr} {scope : Scope} {own : List (Str × Nat)} {pos : Pos} {f : FI} {g : FG} {t : FT} {el : FE}
theorem uts_nil : UTs X Wd [] tYesF := PTs.imp pts_nil fun σ H Q ⟨e, mu, hs, S, E, q⟩ => q mu H true .refl S rfl
theorem uts_one {c : Expr} (h : UT X Wd c t) : UTs X Wd [c] t := pts_one h
theorem tG_comp {K : PySem.W.Frag} {mg : Str → Option Value} {vs : List Nat} {σ : L2.St} {H : Hp} {Q : VK} (h : tG (relF K mg) K mg Wd (lComp f g t el vs) σ H Q) :
    tLc (tG (relI K mg) K mg Wd f) (tGt K mg vs g) (tG relB K mg W0 t) (tG (relD K) K mg W0 el) vs σ H Q := by
  obtain ⟨e, mu, hs, S, E, q⟩ := h
  refine ⟨e, mu, hs, S, E, ?_⟩
  unfold lComp at q
  cases r : f e hs with
  | bad => rw [r] at q; exact q
  | exc c fs hs' => rw [r] at q; exact q
  | ok nx hs1 =>
    rw [r] at q
    rw [R.bind_ok] at q
    intro mu1 H1 J l1 S1 ri Dd hD
    have E1 := (E.agr (l1.agr S)).wipe vs
    -- the list that is made stands apart
    refine ⟨fun i m H2 => ∃ mu2 hs2 acc vacc, Lat mu1 H1 mu2 H2 ∧ Lat mu H mu2 H2 ∧ Sim K mg mu2 hs2 H2 ∧ H2 Dd = some (.lst vacc) ∧ Dd ∉ mu2.l ∧ ¬ mu2.fz Dd ∧ RDs K mu2 H2 acc vacc ∧
        Gd (relF K mg) K mg Wd σ mu H Q (compF nx g t el (wipeE e vs) m i acc hs2),
      ⟨fuel, mu1, hs1, [], [], .new hD, l1.trans (.new hD), S1.new hD, upd_same, S1.fresh hD, S1.freshz hD, .nil, q⟩, ?_⟩
    rintro i m H2 ⟨mu2, hs2, acc, vacc, l2, l02, S2, hD2, nD, nz, ra, q2⟩
    have hD0 : H Dd = none := l1.back hD fun z => nD (l2.pre.subset (l1.pre.subset z))
    have r2 := ri mu2 H2 hs2 l2 S2 i
    unfold compF at q2
    split at q2
    · exact q2.elim
    · rename_i hn
      exact .inl ⟨r2.1 hn, q2 mu2 H2 _ l02 S2 ⟨Dd, vacc, rfl, hD2, nD, nz, hD0, ra⟩⟩
    · rename_i d hd
      obtain ⟨go, yl⟩ := r2.2 d hd
      refine .inr ⟨go, ?_⟩
      split at q2
      · exact q2.elim
      · rename_i k
        split at q2
        · exact q2.elim
        · rename_i e' he'
          refine ⟨fun H3 => ∃ mu2 hs2 acc vacc, Lat mu1 H1 mu2 H3 ∧ Lat mu H mu2 H3 ∧ Sim K mg mu2 hs2 H3 ∧ H3 Dd = some (.lst vacc) ∧ Dd ∉ mu2.l ∧ ¬ mu2.fz Dd ∧ RDs K mu2 H3 acc vacc ∧
              Gd (relF K mg) K mg Wd σ mu H Q (compF nx g t el (wipeE e vs) k (i + 1) acc hs2), fun H' h => ⟨k, Nat.lt_succ_self k, h⟩, fun x H3 y => ?_⟩
          obtain ⟨l3, S3, r3⟩ := yl x H3 y
          have E3 : RE K mu2 H3 (wipeE e vs) (wipe σ vs) := (E1.agr (l2.agr S1)).agr (l3.agr S2)
          refine ⟨wipeE e vs, mu2, hs2, d, e', S3, E3, r3, he', fun σ3 E4 w3 => ⟨w3.trans (wipe_idem σ vs), e', mu2, hs2, S3, E4, ?_⟩⟩
          cases rt : t e' hs2 with
          | bad => rw [rt] at q2; exact q2
          | exc c fs hs' => rw [rt] at q2; exact q2.elim
          | ok b hs4 =>
            rw [rt] at q2
            intro mu4 H4 b' l4 S4 rb
            have rb : b = b' := rb
            subst rb
            dsimp only at q2
            have lD3 := l3.ext Dd _ hD2 nD
            have lD4 := l4.ext Dd _ lD3.1 nD
            cases b with
            | false =>
              rw [if_neg Bool.false_ne_true] at q2 ⊢
              exact ⟨mu4, hs4, acc, vacc, l2.trans (l3.trans l4), l02.trans (l3.trans l4), S4, lD4.1, lD4.2.1, fun z => nz (lD4.2.2 z), RDs.agr (l4.agr S3) (RDs.agr (l3.agr S2) ra), q2⟩
            | true =>
              rw [if_pos rfl] at q2 ⊢
              refine ⟨e', mu4, hs4, S4, E4.agr (l4.agr S3), ?_⟩
              cases re : el e' hs4 with
              | bad => rw [re] at q2; exact q2
              | exc c fs hs' => rw [re] at q2; exact q2.elim
              | ok y hs5 =>
                rw [re] at q2
                intro mu5 H5 yv l5 S5 ry
                dsimp only at q2
                split at q2
                · rename_i hz
                  have nz4 : ¬ mu4.fz Dd := fun z => nz (lD4.2.2 z)
                  have lD5 := l5.ext Dd _ lD4.1 lD4.2.1
                  have nz5 : ¬ mu5.fz Dd := fun z => nz4 (lD5.2.2 z)
                  have ra5 : RDs K mu5 H5 acc vacc := RDs.agr (l5.agr S4) (RDs.agr (l4.agr S3) (RDs.agr (l3.agr S2) ra))
                  have pv : Agr mu5 H5 mu5 (upd H5 Dd (.lst (vacc ++ [yv]))) := .priv lD5.1 nz5
                  have lall : ∀ {m0 : Mp} {H0 : Hp}, H0 Dd = none → Lat m0 H0 mu5 H5 → Lat m0 H0 mu5 (upd H5 Dd (.lst (vacc ++ [yv]))) := fun {m0 H0} h0 l => ⟨l.pre, l.sub, fun b o hb nb => by
                    have := l.ext b o hb nb
                    exact ⟨by rw [upd_ne (ne_of_none hb h0)]; exact this.1, this.2⟩⟩
                  exact ⟨vacc, lD5.1, by rw [← ra.length]; exact hz, mu5, hs5, acc ++ [y], vacc ++ [yv], lall hD (l2.trans (l3.trans (l4.trans l5))), lall hD0 (l02.trans (l3.trans (l4.trans l5))), S5.priv lD5.1 lD5.2.1 nz5, upd_same, lD5.2.1, nz5, RDs.agr pv (ra5.snoc ry), q2⟩
                · exact q2.elim
theorem uf_comp (hc : X.calm = true) (hN : X.N.Nodup) (hi : UI X Wd tg iter f) (ok : BlkOk X.N X.env.scope scope own)
    (hg : ∀ (s : Shared) (H : Hp) (C : Addr) (cl : List (Str × Addr)) (fp : List Addr), UG (X.blk s H scope (compEnvC scope cl C X.env) fp) (own.map (·.2)) tg g)
    (ht : ∀ (s : Shared) (H : Hp) (C : Addr) (cl : List (Str × Addr)) (fp : List Addr), UTs (X.blk s H scope (compEnvC scope cl C X.env) fp) W0 ifs t)
    (he : ∀ (s : Shared) (H : Hp) (C : Addr) (cl : List (Str × Addr)) (fp : List Addr), UE (X.blk s H scope (compEnvC scope cl C X.env) fp) W0 elt el) (hs : ∀ x, foldedSetIterable iter X.env x = pure x := by intro _; rfl) :
    UF X Wd (.ListComp elt [⟨tg, iter, ifs, 0⟩] scope pos) (lComp f g t el (own.map (·.2))) := PE.imp (pe_lc hc hN hi ok hg ht he hs) fun σ H Q h => tG_comp h
/-- name = [..] -/
def sSetC (i : Nat) (m : Bool) (l : FL) : FS := sSet i (if m then eM l else eV l)
theorem tG_v {K : PySem.W.Frag} {mg : Str → Option Value} {l : FL} {σ : L2.St} {H : Hp} {Q : VK} (h : tG (relD K) K mg Wd (eV l) σ H Q) : tG (relF K mg) K mg Wd l σ H Q := by
  obtain ⟨e, mu, hs, S, E, g⟩ := h
  refine ⟨e, mu, hs, S, E, ?_⟩
  unfold eV at g
  cases q : l e hs with
  | ok ds hs' =>
    rw [q] at g
    intro mu' H' y l s ⟨a, vs, h1, h2, h3, h4, h5, h6⟩
    subst h1
    refine g (mu'.still a) H' _ ⟨l.pre, fun b z => .inr (l.sub b z), fun b o hb nb => ?_⟩ (s.still h2 h3) (.lst h2 (.inl rfl) (RDs.agr .still h6))
    have := l.ext b o hb nb
    exact ⟨this.1, this.2.1, fun z => z.elim (fun e => absurd e (ne_of_none hb h5)) this.2.2⟩
  | exc c fs hs' => rw [q] at g; exact g
  | bad => rw [q] at g; exact g
theorem tG_m {K : PySem.W.Frag} {mg : Str → Option Value} {l : FL} {σ : L2.St} {H : Hp} {Q : VK} (h : tG (relD K) K mg Wd (eM l) σ H Q) : tG (relF K mg) K mg Wd l σ H Q := by
  obtain ⟨e, mu, hs, S, E, g⟩ := h
  refine ⟨e, mu, hs, S, E, ?_⟩
  unfold eM at g
  cases q : l e hs with
  | ok ds hs' =>
    rw [q] at g
    intro mu' H' y l s ⟨a, vs, h1, h2, h3, h4, h5, h6⟩
    subst h1
    refine g (mu'.own a) H' _ ⟨l.pre.trans (List.prefix_append _ _), l.sub, fun b o hb nb => ?_⟩ (s.adopt h2 h3 h4 (.own h2) h6) (.ref (getElem?_own s.len))
    have := l.ext b o hb nb
    refine ⟨this.1, ?_, this.2.2⟩
    show b ∉ mu'.l ++ [a]
    simp only [List.mem_append, List.mem_singleton, not_or]
    exact ⟨this.2.1, ne_of_none hb h5⟩
  | exc c fs hs' => rw [q] at g; exact g
  | bad => rw [q] at g; exact g
theorem us_setC {i : Nat} {y : Str} {py spos : Pos} (m : Bool) (hc : X.calm = true) (hN : X.N.Nodup) (hi : UI X Wd tg iter f) (ok : BlkOk X.N X.env.scope scope own)
    (hsw : swapsWith (.ListComp elt [⟨tg, iter, ifs, 0⟩] scope pos) (some (.Name y py)) spos.line X.env = pure true)
    (hg : ∀ (s : Shared) (H : Hp) (C : Addr) (cl : List (Str × Addr)) (fp : List Addr), UG (X.blk s H scope (compEnvC scope cl C X.env) fp) (own.map (·.2)) tg g)
    (ht : ∀ (s : Shared) (H : Hp) (C : Addr) (cl : List (Str × Addr)) (fp : List Addr), UTs (X.blk s H scope (compEnvC scope cl C X.env) fp) W0 ifs t)
    (he : ∀ (s : Shared) (H : Hp) (C : Addr) (cl : List (Str × Addr)) (fp : List Addr), UE (X.blk s H scope (compEnvC scope cl C X.env) fp) W0 elt el)
    (hy : X.N[i]? = some y := by rfl) (hyl : X.env.scope.names.lookup y = some .local := by rfl) (hs : ∀ x, foldedSetIterable iter X.env x = pure x := by intro _; rfl) :
    US X Wd (.Assign [.Name y py] (.ListComp elt [⟨tg, iter, ifs, 0⟩] scope pos) spos) (sSetC i m (lComp f g t el (own.map (·.2)))) := by
  refine PS.imp (ps_setLc (te := tG (relD X.K) X.K X.mg W0 el) (g := tGt X.K X.mg (own.map (·.2)) g) (tt := tG relB X.K X.mg W0 t) hc hN hy hyl hsw hi ok hg ht he hs) fun D σ H h => ?_
  have hh : tG (relD X.K) X.K X.mg Wd (if m then eM (lComp f g t el (own.map (·.2))) else eV (lComp f g t el (own.map (·.2)))) σ H (fun v H1 => gName i v σ H1 D.nx) := by
    obtain ⟨e, mu, hs, S, E, q⟩ := tS_bind (r := relD X.K) h
    exact ⟨e, mu, hs, S, E, q.imp fun v H1 ⟨e, mu1, hs1, d, S1, E1, r1, g1⟩ => g1 mu1 H1 _ .refl S1 (E1.set i r1)⟩
  cases m with
  | true => exact tG_comp (tG_m hh)
  | false => exact tG_comp (tG_v hh)
end
end G

/-! # G8: defs of the text, their calls, the law's end -/
namespace G
open PySem PySem.Spec PyProof.Rows L2

/-- a def's promise where no repr is under way -/
structure FnG (P : Program) (w : World) (K : PySem.W.Frag) (mg : Str → Option Value) (base : Heap) (k : Nat) (f : Addr) (fd : FuncData) (ps : List Str) (sp : Sp) : Prop where
  len : ∀ vs H Q E, sp vs H Q E → vs.length = ps.length
  run : ∀ (A : Around) (outer : List Env) (s : Shared) (H : Hp) (args : Args) (us : List Value) (vs : List V) (Q : VK) (E : XK), Room k A → A.guards = some [] → Env0 P w K mg base A outer s H →
    BindsTo s fd args (ps.zip us) → Vals vs us → sp vs H Q E → codeAny (model P w) A (.call (.ref f) args) (CR (L2.CX P w) outer P w H s Q E) s
/-- the promise that a function of ours says -/
def spU (K : PySem.W.Frag) (mg : Str → Option Value) (n : Nat) (fn : List D → Hs → R D) : Sp := fun vs H Q E => ∃ mu hs ds, Sim K mg mu hs H ∧ RDs K mu H ds vs ∧ ds.length = n ∧ Gd (relD K) K mg (fun cls dx _ H' => E cls dx H') [] mu H Q (fn ds hs)
/-- a body as a function -/
def fnBody (N : Nat) (b : FS) : List D → Hs → R D := fun ds hs => match b (ds.map some ++ List.replicate (N - ds.length) none) hs with
  | .nx _ hs' => .ok .non hs'
  | .ret d hs' => .ok d hs'
  | .exc c fs _ hs' => .exc c fs hs'
  | .brk _ _ => .bad
  | .cnt _ _ => .bad
  | .bad => .bad
theorem RE.start {K : PySem.W.Frag} {mu : Mp} {H : Hp} {ds : List D} {vs : List V} (r : RDs K mu H ds vs) (N : List Str) : RE K mu H (ds.map some ++ List.replicate (N.length - ds.length) none) (start N vs) := by
  have hl := r.length
  refine ⟨by unfold L2.start; simp [hl], fun i d q => ?_⟩
  by_cases hi : i < ds.length
  · rw [List.getElem?_append_left (by simpa using hi), List.getElem?_map] at q
    cases e : ds[i]? with
    | none => rw [e] at q; cases q
    | some d' =>
      rw [e] at q; cases q
      obtain ⟨v, h1, h2⟩ := r.get e
      refine ⟨v, ?_, h2⟩
      unfold L2.start
      rw [List.getElem?_append_left (by rw [List.length_map, ← hl]; exact hi), List.getElem?_map, h1]
      rfl
  · rw [List.getElem?_append_right (by simpa using hi), List.getElem?_replicate] at q
    split at q <;> cases q
section
variable {P : Program} {w : World} {K : PySem.W.Frag} {mg : Str → Option Value} {base : Heap}
/-- what a body may lean on -/
structure Bd (X : Cx) (Wd : WX) (k : Nat) : Prop where
  calm : X.calm = true
  room : Room k X.A
  gd : X.A.guards = some []
  tk : Takes X Wd
  po : PassesOwn (model X.prog X.w) X.A X.env X.xe
  sm : ∃ o, X.base.get? sysModules = some o
theorem fnG_of {qual : Str} {f : Addr} {N ps : List Str} {k : Nat} {params : Arguments} {body : List Stmt} {scope : Scope} {x : Str} {oc dV kV doc pm cdv ct : Value} {od an : Option Addr} {osl : Array (Option Value)}
    (hsm : ∃ o, base.get? sysModules = some o) (lk : K.lookup f = some ⟨oc, od, .func (PySem.W.fnOf x qual params body scope dV kV doc pm an cdv ct), osl⟩) (hcd : PySem.W.codeIn K cdv qual = true) (S : FnScope N ps scope) (b : FS)
    (hb : ∀ (A : Around) (outer : List Env) (s : Shared) (H : Hp) (E : XK), Bd (cxOf (L2.CX P w) P w K mg base N qual scope f cdv A outer s H E) (fun cls dx _ H' => E cls dx H') k →
      USs (cxOf (L2.CX P w) P w K mg base N qual scope f cdv A outer s H E) (fun cls dx _ H' => E cls dx H') body b) :
    FnG P w K mg base (k + 1) f (PySem.W.fnOf x qual params body scope dV kV doc pm an cdv ct) ps (spU K mg ps.length (fnBody N.length b)) := by
  have len : ∀ vs H Q E, spU K mg ps.length (fnBody N.length b) vs H Q E → vs.length = ps.length := fun vs H Q E ⟨mu, hs, ds, _, r, l, _⟩ => by rw [← r.length, l]
  refine ⟨len, fun A outer s H args us vs Q E hr hgd e0 hbi r hsp => ?_⟩
  have hl := len _ _ _ _ hsp
  have KX : K.In s.heap := e0.mod.kin.keeps fun b o e => (e0.bs b o e).1
  have lim : s.heap.NoLimit := e0.mod.nolimit.keeps fun b o e => (e0.bs b o e).1
  have hkind : ∀ y ∈ ps.zip us, scope.names.lookup y.1 = some .local ∨ (scope.names.lookup y.1 = some .cell ∧ ((cellsFrom (s.heap.objs.size + 1) scope.names []).lookup y.1).isSome = true) := by
    rintro ⟨n, v⟩ hy
    exact (S.par n (List.of_mem_zip hy).1).elim .inl fun q => .inr ⟨q, PySem.W.cellsFrom_some _ _ _ (.inl q)⟩
  apply codeAny_call_function hr.depth (KX _ _ lk) rfl S.co S.gen rfl (PySem.W.codeRec_of KX hcd)
  apply hbi
  apply wpAny_newFunctionEnv_cells S.kind hkind
  rintro env rfl s1 x1
  refine ⟨lim.keeps x1.toInCall.keep, codeAny_func ?_⟩
  have I : Inv (cxOf (L2.CX P w) P w K mg base N qual scope f cdv A outer s H E) [] (start N vs) H s1 := inv_start S hr.hd e0 hl r x1
  have B : Bd (cxOf (L2.CX P w) P w K mg base N qual scope f cdv A outer s H E) (fun cls dx _ H' => E cls dx H') k := ⟨rfl, hr.deeper _, hgd, takes_of rfl rfl rfl rfl, passes_of rfl, hsm⟩
  obtain ⟨mu, hs, ds, Sm, rd, ld, g⟩ := hsp
  have hq : tS K mg (fun cls dx _ H' => E cls dx H') b { nx := fun _ H' => Q .non H', rt := Q } (start N vs) H := by
    refine ⟨_, mu, hs, Sm, RE.start rd N, ?_⟩
    unfold fnBody at g
    cases q : b (ds.map some ++ List.replicate (N.length - ds.length) none) hs with
    | nx e hs' => rw [q] at g; exact fun mu' H' σ' l s' _ => g mu' H' .non l s' .non
    | ret d hs' => rw [q] at g; exact fun mu' H' v l s' rv => g mu' H' v l s' rv
    | exc c fs e hs' => rw [q] at g; exact fun mu' H' σ' cls dx l s' _ rx => g mu' H' cls dx l s' rx
    | brk e hs' => rw [q] at g; exact g.elim
    | cnt e hs' => rw [q] at g; exact g.elim
    | bad => rw [q] at g; exact g.elim
  refine wpAny_mono ((hb A outer s H E B).run [] s1 (start N vs) H _ I hq) (fun fl s' h => ?_) fun _ _ h => h
  cases fl with
  | ret u => obtain ⟨v, σ', H', J, rv, q⟩ := h; exact ⟨v, H', J.os, J.bare, J.base, J.hok, rv, q⟩
  | next => obtain ⟨σ', H', J, q⟩ := h; exact ⟨.non, H', J.os, J.bare, J.base, J.hok, rfl, q⟩
  | brk => obtain ⟨_, _, _, z⟩ := h; exact z.elim
  | cont => obtain ⟨_, _, _, z⟩ := h; exact z.elim
theorem FnG.mono {j k : Nat} {f : Addr} {fd : FuncData} {ps : List Str} {sp : Sp} (F : FnG P w K mg base j f fd ps sp) (h : j ≤ k) : FnG P w K mg base k f fd ps sp :=
  ⟨F.len, fun A outer s H args us vs Q E hr hg => F.run A outer s H args us vs Q E (hr.mono h) hg⟩
/-- another function of the same worth -/
theorem FnG.eq {k n : Nat} {f : Addr} {fd : FuncData} {ps : List Str} {fn fn' : List D → Hs → R D} (F : FnG P w K mg base k f fd ps (spU K mg n fn)) (h : ∀ ds hs, fn' ds hs = fn ds hs) : FnG P w K mg base k f fd ps (spU K mg n fn') := by
  have e : fn' = fn := funext fun ds => funext fun hs => h ds hs
  rw [e]; exact F
end

/-! ### calls -/
/-- positional, keyword and default values in the parameters' order, by places -/
def selL {t : Type} (is : List Nat) (us ws dv : List t) : List t := is.filterMap fun i => (us ++ ws ++ dv)[i]?
theorem Vals.sel {vs zs dvs : List V} {us ws ds : List Value} (a : Vals vs us) (b : Vals zs ws) (c : Vals dvs ds) : ∀ is : List Nat, Vals (selL is vs zs dvs) (selL is us ws ds)
  | [] => .nil
  | i :: is => by
    have ih := Vals.sel a b c is
    have abc := Vals.append (Vals.append a b) c
    unfold selL at ih ⊢
    rw [List.filterMap_cons, List.filterMap_cons]
    cases e : (vs ++ zs ++ dvs)[i]? with
    | none => rw [Vals.none_of abc e]; exact ih
    | some x =>
      obtain ⟨u, h1, h2⟩ := Vals.get abc e
      rw [h1]
      exact .cons h2 ih
theorem RDs.none_of {K : PySem.W.Frag} {mu : Mp} {H : Hp} {ds : List D} {vs : List V} (r : RDs K mu H ds vs) {i : Nat} (e : ds[i]? = none) : vs[i]? = none := by
  rw [List.getElem?_eq_none_iff] at e ⊢
  rw [← r.length]; exact e
theorem RDs.sel {K : PySem.W.Frag} {mu : Mp} {H : Hp} {ds es dds : List D} {vs zs dvs : List V} (a : RDs K mu H ds vs) (b : RDs K mu H es zs) (c : RDs K mu H dds dvs) : ∀ is : List Nat, RDs K mu H (selL is ds es dds) (selL is vs zs dvs)
  | [] => .nil
  | i :: is => by
    have ih := RDs.sel a b c is
    have abc := (a.append b).append c
    unfold selL at ih ⊢
    rw [List.filterMap_cons, List.filterMap_cons]
    cases e : (ds ++ es ++ dds)[i]? with
    | none => rw [abc.none_of e]; exact ih
    | some x =>
      obtain ⟨u, h1, h2⟩ := abc.get e
      rw [h1]
      exact .cons h2 ih
/-- how a call binds: n positional values, keywords ks, the defaults ds; is: which value goes to each parameter -/
def BindK (K : PySem.W.Frag) (fd : FuncData) (ps : List Str) (n : Nat) (ks : List Str) (is : List Nat) (ds : List Value) : Prop :=
  ∀ (s : Shared) (us ws : List Value), K.In s.heap → us.length = n → ws.length = ks.length → BindsTo s fd ⟨us, ks.zip ws⟩ (ps.zip (selL is us ws ds))
/-- all positional -/
def eFn (fn : List D → Hs → R D) (is : List Nat) (dds : List D) (fa : FA) : FE := fun e hs => (fa e hs).bind fun ds hs => fn (selL is ds [] dds) hs
def eFnK (fn : List D → Hs → R D) (is : List Nat) (dds : List D) (fa fk : FA) : FE := fun e hs => (fa e hs).bind fun ds hs => (fk e hs).bind fun zs hs => fn (selL is ds zs dds) hs
section
variable {X : Cx} {Wd : WX} {k n : Nat} {f : Addr} {fd : FuncData} {ps ks : List Str} {fn : List D → Hs → R D} {dds : List D} {dvs : List V} {ds : List Value} {is : List Nat} {x : Str} {p pos kpos : Pos} {e : Expr} {es : List Expr} {fa fk : FA} {kws : List Keyword}
/-- the callee runs -/
theorem runG {pins : List (Addr × Obj)} {σ : L2.St} {H : Hp} {s : Shared} {Q : VK} {us ws : List Value} {vs zs : List V} (F : FnG X.prog X.w X.K X.mg X.base k f fd ps (spU X.K X.mg ps.length fn)) (hr : Room k X.A) (hgd : X.A.guards = some []) (tk : Takes X Wd)
    (hb : BindK X.K fd ps n ks is ds) (hd : Vals dvs ds) (hdd : ∀ mu H, RDs X.K mu H dds dvs) (I : Inv X pins σ H s) (r : Vals vs us) (rz : Vals zs ws) (hn : us.length = n) (hks : ws.length = ks.length)
    (h : ∃ mu hs es qs, Sim X.K X.mg mu hs H ∧ RDs X.K mu H es vs ∧ RDs X.K mu H qs zs ∧ (selL is es qs dds).length = ps.length ∧ Gd (relD X.K) X.K X.mg Wd σ mu H Q (fn (selL is es qs dds) hs)) :
    wpAny (model X.prog X.w) X.A (call (.ref f) us (ks.zip ws)) (EP X pins σ Q) X.xe s := by
  obtain ⟨mu, hs, es, qs, S, r1, r2, hl, g⟩ := h
  have hsp : spU X.K X.mg ps.length fn (selL is vs zs dvs) H Q (WE Wd σ) := by
    refine ⟨mu, hs, _, S, RDs.sel r1 r2 (hdd mu H) is, hl, ?_⟩
    cases q : fn (selL is es qs dds) hs with
    | ok d hs' => rw [q] at g; exact g
    | exc c fs hs' => rw [q] at g; exact g
    | bad => rw [q] at g; exact g
  have c := F.run X.A X.stack s H ⟨us, ks.zip ws⟩ (selL is us ws ds) (selL is vs zs dvs) Q (WE Wd σ) hr hgd I.env0 (hb s us ws I.kIn hn hks) (Vals.sel r rz hd is) hsp
  refine wpAny_call (codeAny_mono c fun rr s' hq => ?_)
  cases rr with
  | error x => exact passAt tk σ pins H s x s' I hq
  | ok fl =>
    cases fl with
    | ret u => exact I.after hq
    | _ => exact False.elim hq
theorem ue_call (F : FnG X.prog X.w X.K X.mg X.base k f fd ps (spU X.K X.mg ps.length fn)) (hr : Room k X.A) (hgd : X.A.guards = some []) (tk : Takes X Wd) (hg : Gl X x) (hm : X.mg x = some (.ref f)) (hk : PySem.W.keepIn X.K (.ref f) = true)
    (hb : BindK X.K fd ps (e :: es).length [] is ds) (hd : Vals dvs ds) (hdd : ∀ mu H, RDs X.K mu H dds dvs) (ha : UA X Wd (e :: es) fa) (hla : ∀ ev hs qs hs', fa ev hs = .ok qs hs' → (selL is qs [] dds).length = ps.length ∧ qs.length = (e :: es).length)
    (hdb : (x == ("__debug__" : Str)) = false := by decide) (he : starEach (e :: es) X.env = (false, eval e X.env) :: starEach es X.env := by rfl) (hpl : (backTo pos (starEach es X.env)).any (·.1) = false := by rfl) :
    UE X Wd (.Call (.Name x p) (e :: es) [] pos) (eFn fn is dds fa) := by
  refine ⟨fun pins s σ H Q I h => ?_⟩
  obtain ⟨ev, mu, hs, S, E, g⟩ := h
  unfold eFn at g
  refine wpAny_Call_Name_kw (ld_glob I hg hm ?_ hdb)
  refine PySem.W.callWith_K (h₀ := X.base) I.ok.mod.kin hk (thn (ha.run pos pins s σ H (fun vs H1 => ∃ mu hs es, Sim X.K X.mg mu hs H1 ∧ RDs X.K mu H1 es vs ∧ (∃ ev h0, fa ev h0 = .ok es hs) ∧ Gd (relD X.K) X.K X.mg Wd σ mu H1 Q (fn (selL is es [] dds) hs)) I ⟨ev, mu, hs, S, E, ?_⟩) fun us s1 ⟨vs, H1, I1, r, mu1, hs1, es1, S1, r1, ⟨ev1, h01, q1⟩, g1⟩ => ⟨I1.kIn, ?_⟩) he hpl
  · cases q : fa ev hs with
    | ok qs hs' => rw [q] at g; exact fun mu' H' y l s rr => ⟨mu', hs', qs, s, rr, ⟨ev, hs, q⟩, Gd.later relD_ok l g⟩
    | exc c fs hs' => rw [q] at g; exact g
    | bad => rw [q] at g; exact g
  · obtain ⟨l1, l2⟩ := hla _ _ _ _ q1
    exact runG (us := us) (ws := []) (vs := vs) (zs := []) (ks := []) F hr hgd tk hb hd hdd I1 r .nil (by rw [← r.length, ← r1.length, l2]) rfl ⟨mu1, hs1, es1, [], S1, r1, .nil, l1, g1⟩
theorem ue_call0 (F : FnG X.prog X.w X.K X.mg X.base k f fd ps (spU X.K X.mg ps.length fn)) (hr : Room k X.A) (hgd : X.A.guards = some []) (tk : Takes X Wd) (hg : Gl X x) (hm : X.mg x = some (.ref f)) (hk : PySem.W.keepIn X.K (.ref f) = true)
    (hb : BindK X.K fd ps 0 [] is ds) (hd : Vals dvs ds) (hdd : ∀ mu H, RDs X.K mu H dds dvs) (hl : (selL is [] [] dds).length = ps.length)
    (hdb : (x == ("__debug__" : Str)) = false := by decide) : UE X Wd (.Call (.Name x p) [] [] pos) (eFn fn is dds aNil) := by
  refine ⟨fun pins s σ H Q I h => ?_⟩
  obtain ⟨ev, mu, hs, S, E, g⟩ := h
  refine wpAny_Call_Name_kw (ld_glob I hg hm ?_ hdb)
  exact PySem.W.callWith_K0 I.kIn hk (runG (us := []) (ws := []) (vs := []) (zs := []) (ks := []) F hr hgd tk hb hd hdd I .nil .nil rfl rfl ⟨mu, hs, [], [], S, .nil, .nil, hl, g⟩)
/-- keywords -/
abbrev UK (X : Cx) (Wd : WX) (kws : List Keyword) (f : FA) : Prop := PK X kws (tG (relA X.K) X.K X.mg Wd f)
theorem PK.imp {kws : List Keyword} {t t' : TA} (h : PK X kws t) (i : ∀ σ H Q, t' σ H Q → t σ H Q) : PK X kws t' := ⟨fun pos pins s σ H Q I q => h.run pos pins s σ H Q I (i σ H Q q)⟩
theorem uk_nil : UK X Wd [] aNil := PK.imp pk_nil fun σ H Q ⟨e, mu, hs, S, E, g⟩ => g mu H [] .refl S .nil
theorem uk_cons {nm : Option Str} {e : Expr} {f : FE} {g : FA} (ha : UE X Wd e f) (hr : UK X Wd kws g) : UK X Wd (⟨nm, e, kpos⟩ :: kws) (aCons f g) := by
  refine PK.imp (pk_cons ha hr) fun σ H Q h => ?_
  obtain ⟨e, mu, hs, S, E, q⟩ := tG_seq (r := relD X.K) relA_ok h
  refine ⟨e, mu, hs, S, E, q.imp fun x H1 ⟨e, mu1, hs1, d, S1, E1, r1, g1⟩ => ?_⟩
  refine ⟨e, mu1, hs1, S1, E1, (Gd.bind (r := relA X.K) relA_ok g1).imp fun xs H2 ⟨mu2, hs2, ds, l2, S2, r2, g2⟩ => ?_⟩
  exact g2 mu2 H2 _ .refl S2 (.cons (RD.agr (l2.agr S1) r1) r2)
/-- what arguments and keywords gave -/
theorem tG_args {σ : L2.St} {H : Hp} {Q : VK} (h : tG (relD X.K) X.K X.mg Wd (eFnK fn is dds fa fk) σ H Q) :
    tG (relA X.K) X.K X.mg Wd fa σ H (fun vs H1 => tG (relA X.K) X.K X.mg Wd fk σ H1 (fun zs H2 => ∃ mu hs es qs, Sim X.K X.mg mu hs H2 ∧ RDs X.K mu H2 es vs ∧ RDs X.K mu H2 qs zs ∧ (∃ ev h0 h1, fa ev h0 = .ok es h1) ∧ (∃ ev h0 h1, fk ev h0 = .ok qs h1) ∧ Gd (relD X.K) X.K X.mg Wd σ mu H2 Q (fn (selL is es qs dds) hs))) := by
  obtain ⟨ev, mu, hs, S, E, g⟩ := h
  refine ⟨ev, mu, hs, S, E, ?_⟩
  unfold eFnK at g
  cases q : fa ev hs with
  | ok es hs1 =>
    rw [q] at g
    rw [R.bind_ok] at g
    intro mu1 H1 vs l1 S1 r1
    refine ⟨ev, mu1, hs1, S1, E.agr (l1.agr S), ?_⟩
    cases q2 : fk ev hs1 with
    | ok qs hs2 =>
      rw [q2] at g
      rw [R.bind_ok] at g
      exact fun mu2 H2 zs l2 S2 r2 => ⟨mu2, hs2, es, qs, S2, RDs.agr (l2.agr S1) r1, r2, ⟨ev, hs, _, q⟩, ⟨ev, hs1, _, q2⟩, Gd.later relD_ok (l1.trans l2) g⟩
    | exc c fs hs' => rw [q2] at g; exact fun mu' H' cls dx l s rr => g mu' H' cls dx (l1.trans l) s rr
    | bad => rw [q2] at g; exact g
  | exc c fs hs' => rw [q] at g; exact g
  | bad => rw [q] at g; exact g
theorem ue_callK (F : FnG X.prog X.w X.K X.mg X.base k f fd ps (spU X.K X.mg ps.length fn)) (hr : Room k X.A) (hgd : X.A.guards = some []) (tk : Takes X Wd) (hg : Gl X x) (hm : X.mg x = some (.ref f)) (hk : PySem.W.keepIn X.K (.ref f) = true)
    (hb : BindK X.K fd ps (e :: es).length ks is ds) (hd : Vals dvs ds) (hdd : ∀ mu H, RDs X.K mu H dds dvs) (ha : UA X Wd (e :: es) fa) (hkw : UK X Wd kws fk)
    (hla : ∀ ev hs qs hs', fa ev hs = .ok qs hs' → qs.length = (e :: es).length) (hlk : ∀ ev hs qs hs', fk ev hs = .ok qs hs' → qs.length = ks.length) (hl : ∀ qs zs : List D, qs.length = (e :: es).length → zs.length = ks.length → (selL is qs zs dds).length = ps.length)
    (hall : (backToKw pos (keywordEach kws X.env)).all (·.1.isSome) = true := by rfl) (hks : (backToKw pos (keywordEach kws X.env)).filterMap (·.1) = ks := by rfl)
    (hdb : (x == ("__debug__" : Str)) = false := by decide) (he : starEach (e :: es) X.env = (false, eval e X.env) :: starEach es X.env := by rfl)
    (hpl : ((backTo pos (starEach (e :: es) X.env)).any (·.1) || (backToKw pos (keywordEach kws X.env)).any (·.1.isNone)) = false := by rfl) :
    UE X Wd (.Call (.Name x p) (e :: es) kws pos) (eFnK fn is dds fa fk) := by
  refine ⟨fun pins s σ H Q I h => ?_⟩
  refine wpAny_Call_Name_kw (ld_glob I hg hm ?_ hdb)
  refine PySem.W.callWith_KW (h₀ := X.base) I.ok.mod.kin hk hall (thn (ha.run pos pins s σ H _ I (tG_args h)) fun us s1 ⟨vs, H1, I1, r, q⟩ => ?_) hpl he
  refine thn (hkw.run pos pins s1 σ H1 _ I1 q) fun ws s2 ⟨zs, H2, I2, rz, mu2, hs2, es2, qs2, S2, r1, r2, ⟨_, _, _, q1⟩, ⟨_, _, _, q2⟩, g2⟩ => ⟨I2.kIn, ?_⟩
  rw [hks]
  exact runG (us := us) F hr hgd tk hb hd hdd I2 r rz (by rw [← r.length, ← r1.length, hla _ _ _ _ q1]) (by rw [← rz.length, ← r2.length, hlk _ _ _ _ q2]) ⟨mu2, hs2, es2, qs2, S2, r1, r2, hl _ _ (hla _ _ _ _ q1) (hlk _ _ _ _ q2), g2⟩
end

/-! ### the law's end -/
/-- where the law is entered: the heap, with the script locked where it isn't the module's own -/
def H0of (K : PySem.W.Frag) (a : Addr) (o : Obj) (xs : List V) : Hp := fun b => if b = a ∧ K.lookup a = none then some (.frz o (.lst xs)) else none
theorem law_enter {P : Program} {w : World} {K : PySem.W.Frag} {mg mb : Str → Option Value} {k : Nat} {fa a : Addr} {fd : FuncData} {x : Str} {fn : List D → Hs → R D} {s1 : Shared} {vs : List Value} {ns : List Int}
    (KX : K.In s1.heap) (hns : s1.heap.Ns mainGlobals mg) (hsm : ∃ m, s1.heap.Ns sysModules m) (hb : s1.heap.Ns builtinsNs mb) (hbb : ∀ x : Str, x ≠ "__name__" → mb x = bootBuiltins x) (hlim : s1.heap.NoLimit) (hg : s1.gens = #[])
    (ha : s1.heap.get? a = some { cls := .type "list", data := .seq vs.toArray }) (hi : IntsAre vs ns) (hl : ns.length ≤ sizeLine) (hr : Room k callerA)
    (F : ∀ base : Heap, K.In base → base.Ns mainGlobals mg → (∃ o, base.get? sysModules = some o) → FnG P w K mg base k fa fd [x] (spU K mg 1 fn)) (hbind : ∀ (s : Shared) (u : Value), BindsTo s fd ⟨[u], []⟩ [(x, u)])
    (hok : ∃ hs', fn [.scr (ns.map D.int)] [] = .ok (.bl true) hs') :
    codeAny (model P w) callerA (.call (.ref fa) ⟨[.ref a], []⟩) (fun r s' => r = .ok (.ret (.bool true)) ∧ OldK s1.heap s'.heap ∧ s'.os = s1.os ∧ AllBare s'.gens) s1 := by
  have rv := vals_ints hi
  generalize hH : H0of K a { cls := .type "list", data := .seq vs.toArray } (ns.map V.int) = H
  have Hat : ∀ b u, H b = some u → b = a ∧ K.lookup a = none ∧ u = .frz { cls := .type "list", data := .seq vs.toArray } (.lst (ns.map V.int)) := by
    intro b u e
    rw [← hH] at e
    unfold H0of at e
    split at e
    · rename_i h; cases e; exact ⟨h.1, h.2, rfl⟩
    · cases e
  have frees : ∀ {b : Addr} {o : Obj}, s1.heap.get? b = some o → (∀ q n, o.data ≠ .seq q n) ∨ K.lookup b ≠ none → H b = none := by
    intro b o e h
    cases q : H b with
    | none => rfl
    | some u =>
      obtain ⟨rfl, hk, _⟩ := Hat b u q
      rw [ha] at e; cases e
      rcases h with h | h
      · exact absurd rfl (h _ _)
      · exact absurd hk h
  have keepNs : ∀ {b : Addr} {m : Str → Option Value}, s1.heap.Ns b m → (hidT s1.heap H).Ns b m := by
    rintro b m ⟨o, es, ep, e, d, r⟩
    exact ⟨o, es, ep, hidT_get e (frees e (.inl fun q n z => by rw [d] at z; cases z)), d, r⟩
  have kin : K.In (hidT s1.heap H) := fun b o e => hidT_get (KX b o e) (frees (KX b o e) (.inr (by rw [e]; simp)))
  have hokH : HOk P w H s1.heap := by
    intro b u e
    obtain ⟨rfl, hk, rfl⟩ := Hat b u e
    exact ⟨ha, by rw [List.length_map]; exact hl, vs, _, rv, ha⟩
  have md : Mod K mg (hidT s1.heap H) := by
    obtain ⟨mc, c1, c2⟩ := hlim
    exact ⟨kin, keepNs hns, ⟨mb, keepNs hb, hbb⟩, ⟨mc, keepNs c1, c2⟩⟩
  have e0 : Env0 P w K mg (hidT s1.heap H) callerA [] s1 H :=
    { frames := rfl, mod := md, bs := fun b o e => of_hidT e, bsz := Nat.le_of_eq (hidT_size _ _), funs := trivial, frf := fun b z => absurd (show b ∈ ([] : List Addr) from z) (by simp), hok := hokH, bare := .of_eq hg }
  have scr : RD K ⟨[], fun _ => False⟩ H (.scr (ns.map D.int)) (.ref a) := by
    refine .scr ?_ (RDs.ints ns)
    cases hk : K.lookup a with
    | none =>
      refine .inl ⟨⟨{ cls := .type "list", data := .seq vs.toArray }, ?_⟩, by simp⟩
      rw [← hH]
      exact if_pos ⟨rfl, hk⟩
    | some o =>
      have e := KX a o hk
      rw [ha] at e; cases e
      exact .inr (.inr ⟨_, vs.toArray, _, hk, rfl, rfl, rfl, by rw [List.size_toArray, hi.length]; exact hl, by simpa using rv⟩)
  obtain ⟨hs', hfn⟩ := hok
  have sp : spU K mg 1 fn [.ref a] H (fun v _ => v = .bl true) (fun _ _ _ => False) := by
    refine ⟨⟨[], fun _ => False⟩, [], [.scr (ns.map D.int)], ⟨rfl, .nil, fun b z => by simp at z, fun b z => z.elim, fun n o h => by simp at h⟩, .cons scr .nil, rfl, ?_⟩
    rw [hfn]
    intro mu' H' v l s r
    cases r; rfl
  refine codeAny_mono ((F _ kin (keepNs hns) (let ⟨_, o, _, _, e, _⟩ := hsm.elim fun m h => (⟨m, keepNs h⟩ : ∃ m, (hidT s1.heap H).Ns sysModules m); ⟨o, e⟩)).run callerA [] s1 H ⟨[.ref a], []⟩ [.ref a] [.ref a] _ _ hr rfl e0 (hbind s1 (.ref a)) (.cons rfl .nil) sp) fun r s' h => ?_
  cases r with
  | error e =>
    obtain ⟨_, _, _, _, _, _, _, _, _, _, _, _, z⟩ := h
    exact z.elim
  | ok fl =>
    cases fl with
    | ret u =>
      obtain ⟨v, H', os, bare, un, hok', rr, rfl⟩ := h
      obtain rfl : u = Value.bool true := rr
      refine ⟨rfl, OldK.of_keep fun b o e => ?_, os, bare⟩
      cases q : H b with
      | none => exact un.keep b o e q (by intro z; exact absurd (show b ∈ ([] : List Addr) from z) (by simp)) (by simp)
      | some u =>
        obtain ⟨rfl, hk, rfl⟩ := Hat b u q
        have z1 := (hokH b _ q).1
        have z2 := (hok' b _ (un.frzs b _ _ q)).1
        rw [e] at z1; cases z1
        exact z2
    | _ => exact False.elim h
/-- the goal that the head leaves -/
theorem walk_G {l : PySem.W.OpenLaw} {n k : Nat} {q : Program} {loose : List Str} {XP : (Str → Option Value) → Heap → Prop} {YP : World → Heap → Prop} {d : DefRec} {K : Params → PySem.W.Frag} {fn : List D → Hs → R D} {x : Str}
    (himp : importsNone q = true) (hn : l.most = some n) (hn2 : n ≤ sizeLine) (hdf : d.params.defaults = []) (hr : Room k callerA) (hY : ∀ (w : World) (h : Heap), YP w h → (K w.params).In h)
    (F : ∀ (w : World) (mg : Str → Option Value) (fa : Addr) (h : Heap), (K w.params).In h → h.Ns mainGlobals mg → mg d.name = some (.ref fa) →
      ∃ fd : FuncData, (∀ (s : Shared) (u : Value), BindsTo s fd ⟨[u], []⟩ [(x, u)]) ∧ ∀ base : Heap, (K w.params).In base → base.Ns mainGlobals mg → (∃ o, base.get? sysModules = some o) → FnG l.prog w (K w.params) mg base k fa fd [x] (spU (K w.params) mg 1 fn))
    (hok : ∀ ns : List Int, ns.length ≤ n → ∃ hs', fn [.scr (ns.map D.int)] [] = .ok (.bl true) hs') : PySem.W.WalkO q loose XP YP l.row.toRowW d [] (fun f vs => PySem.call f vs) := by
  refine Att.attach_call hn hdf fun w s0 s1 mg mb fa o pm cd doc a vs ns Gt Y ho hd hcd hmg hobj hints hlen hg => ?_
  obtain ⟨fd, hb, hF⟩ := F w mg fa _ (hY w _ Y) Gt.T.g hmg
  exact law_enter (hY w _ Y) Gt.T.g (let ⟨m, h, _⟩ := (Gt.T.seer himp).mods; ⟨m, h⟩) Gt.T.b Gt.T.builtins Gt.T.nolimit hg hobj hints (Nat.le_trans hlen hn2) hr hF hb (hok ns hlen)
end G

/-! # G9: short forms for the printer -/
namespace G
open PySem PySem.Spec PyProof.Rows L2

theorem few {n : Nat} (h : n ≤ 1000) : n ≤ sizeLine := Nat.le_trans h (by decide)
theorem selL_len {t : Type} (us ws dv : List t) : ∀ (is : List Nat), (∀ i ∈ is, i < us.length + ws.length + dv.length) → (selL is us ws dv).length = is.length
  | [], _ => rfl
  | i :: is, h => by
    have ih := selL_len us ws dv is fun j hj => h j (List.mem_cons_of_mem _ hj)
    have hi : i < (us ++ ws ++ dv).length := by simp only [List.length_append]; exact h i List.mem_cons_self
    unfold selL at ih ⊢
    rw [List.filterMap_cons, List.getElem?_eq_getElem hi, List.length_cons, ih, List.length_cons]
theorem all_lt {is : List Nat} {n : Nat} (h : is.all (fun i => decide (i < n)) = true) : ∀ i ∈ is, i < n := fun i hi => of_decide_eq_true (List.all_eq_true.mp h i hi)
section
variable {K : PySem.W.Frag} {x qual : Str} {st : Stmt} {f : Addr} {fd : FuncData} {ps ks : List Str} {n : Nat} {is : List Nat}
theorem bindK_of (F : Fun K x qual st f fd) (h : ∀ (kV doc pm : Value) (an : Option Addr) (cdv ct : Value) (us ws : List Value), us.length = n → ws.length = ks.length →
    bindArgs (PySem.W.fnOf x qual (defArgs st) (defBody st) (defScope st) .none kV doc pm an cdv ct) ⟨us, ks.zip ws⟩ = pure (ps.zip (selL is us ws []))) : BindK K fd ps n ks is [] := by
  obtain ⟨oc, od, kV, doc, pm, an, cdv, ct, osl, rfl, lk, hcd⟩ := F.ex
  exact fun s us ws _ h1 h2 => .of_eq (h kV doc pm an cdv ct us ws h1 h2)
theorem fun_ok {P : Program} {w : World} {mg : Str → Option Value} {base : Heap} {N : List Str} {k : Nat} (F : Fun K x qual st f fd) (hsm : ∃ o, base.get? sysModules = some o) (S : FnScope N ps (defScope st)) (b : FS)
    (hb : ∀ (cdv : Value) (A : Around) (outer : List Env) (s : Shared) (H : Hp) (E : XK), Bd (cxOf (L2.CX P w) P w K mg base N qual (defScope st) f cdv A outer s H E) (fun cls dx _ H' => E cls dx H') k →
      USs (cxOf (L2.CX P w) P w K mg base N qual (defScope st) f cdv A outer s H E) (fun cls dx _ H' => E cls dx H') (defBody st) b) : FnG P w K mg base (k + 1) f fd ps (spU K mg ps.length (fnBody N.length b)) := by
  obtain ⟨oc, od, kV, doc, pm, an, cdv, ct, osl, rfl, lk, hcd⟩ := F.ex
  exact fnG_of hsm lk hcd S b fun A outer s H E B => hb cdv A outer s H E B
end
section
variable {X : Cx} {Wd : WX} {k k' n : Nat} {f : Addr} {fd : FuncData} {ps ks : List Str} {fn : List D → Hs → R D} {is : List Nat} {x : Str} {p pos : Pos} {e : Expr} {es : List Expr} {fa fk : FA} {kws : List Keyword}
theorem Bd.blk {s : Shared} {H : Hp} {scope : Scope} {cenv : Env} {fp : List Addr} (B : Bd X Wd k) : Bd (X.blk s H scope cenv fp) W0 k := ⟨B.calm, B.room, B.gd, takes0, PassesOwn.never, B.sm⟩
/-- f(e, ..), no defaults -/
theorem ue_fn (B : Bd X Wd k') (F : FnG X.prog X.w X.K X.mg X.base k f fd ps (spU X.K X.mg ps.length fn)) (hr : k ≤ k') (hm : X.mg x = some (.ref f)) (hk : PySem.W.keepIn X.K (.ref f) = true)
    (hb : BindK X.K fd ps (e :: es).length [] is []) (ha : UA X Wd (e :: es) fa) (hla : ∀ ev hs qs hs', fa ev hs = .ok qs hs' → qs.length = (e :: es).length) (hi : is.all (fun i => decide (i < (e :: es).length)) = true := by decide) (hl : is.length = ps.length := by rfl) (hg : Gl X x := by rfl)
    (hdb : (x == ("__debug__" : Str)) = false := by decide) (he : starEach (e :: es) X.env = (false, eval e X.env) :: starEach es X.env := by rfl) (hpl : (backTo pos (starEach es X.env)).any (·.1) = false := by rfl) :
    UE X Wd (.Call (.Name x p) (e :: es) [] pos) (eFn fn is [] fa) :=
  ue_call F (B.room.mono hr) B.gd B.tk hg hm hk hb .nil (fun _ _ => .nil) ha (fun ev hs qs hs' h => by
    have h1 := hla ev hs qs hs' h
    exact ⟨by rw [selL_len _ _ _ _ (by rw [h1]; exact all_lt hi), hl], h1⟩) hdb he hpl
theorem ue_fnK (B : Bd X Wd k') (F : FnG X.prog X.w X.K X.mg X.base k f fd ps (spU X.K X.mg ps.length fn)) (hr : k ≤ k') (hm : X.mg x = some (.ref f)) (hk : PySem.W.keepIn X.K (.ref f) = true)
    (hb : BindK X.K fd ps (e :: es).length ks is []) (ha : UA X Wd (e :: es) fa) (hkw : UK X Wd kws fk) (hla : ∀ ev hs qs hs', fa ev hs = .ok qs hs' → qs.length = (e :: es).length) (hlk : ∀ ev hs qs hs', fk ev hs = .ok qs hs' → qs.length = ks.length)
    (hi : is.all (fun i => decide (i < (e :: es).length + ks.length)) = true := by decide) (hl : is.length = ps.length := by rfl) (hg : Gl X x := by rfl)
    (hall : (backToKw pos (keywordEach kws X.env)).all (·.1.isSome) = true := by rfl) (hks : (backToKw pos (keywordEach kws X.env)).filterMap (·.1) = ks := by rfl)
    (hdb : (x == ("__debug__" : Str)) = false := by decide) (he : starEach (e :: es) X.env = (false, eval e X.env) :: starEach es X.env := by rfl)
    (hpl : ((backTo pos (starEach (e :: es) X.env)).any (·.1) || (backToKw pos (keywordEach kws X.env)).any (·.1.isNone)) = false := by rfl) :
    UE X Wd (.Call (.Name x p) (e :: es) kws pos) (eFnK fn is [] fa fk) :=
  ue_callK F (B.room.mono hr) B.gd B.tk hg hm hk hb .nil (fun _ _ => .nil) ha hkw hla hlk (fun qs zs h1 h2 => by rw [selL_len _ _ _ _ (by rw [h1, h2]; exact all_lt hi), hl]) hall hks hdb he hpl
/-- what is walked, of any kind -/
theorem PI.or {tg iter : Expr} {t t' : TI} (h : PI X tg iter t) (h' : PI X tg iter t') : PI X tg iter (fun σ H R => t σ H R ∨ t' σ H R) := ⟨fun pins s σ H R I q => q.elim (h.run pins s σ H R I) (h'.run pins s σ H R I)⟩
def iAny (f : FE) : FI := fun e hs => match f e hs with
  | .ok d hs' => (match d with
    | .tup ds => .ok (nxL ds) hs'
    | .ctp ds => .ok (nxL ds) hs'
    | .lst ds => .ok (nxL ds) hs'
    | .scr ds => .ok (nxL ds) hs'
    | .ref n => (match hs'[n]? with | some (.lst _) => .ok (nxR n) hs' | _ => .bad)
    | .str x => .ok (nxL (signs x)) hs'
    | _ => .bad)
  | .exc c fs hs' => .exc c fs hs'
  | .bad => .bad
theorem ui_any {tg a : Expr} {f1 : FE} (ha : UE X Wd a f1) : UI X Wd tg a (iAny f1) := by
  refine PI.imp (PI.or (ui_seq ha) (PI.or (ui_tup ha) (ui_str ha))) fun σ H Q ⟨e, mu, hs, S, E, g⟩ => ?_
  unfold iAny at g
  cases q : f1 e hs with
  | ok d hs' =>
    rw [q] at g
    cases d with
    | tup ds => refine .inr (.inl ⟨e, mu, hs, S, E, ?_⟩); unfold iTp; rw [q]; exact g
    | ctp ds => refine .inr (.inl ⟨e, mu, hs, S, E, ?_⟩); unfold iTp; rw [q]; exact g
    | str x => refine .inr (.inr ⟨e, mu, hs, S, E, ?_⟩); unfold iStrG; rw [q]; exact g
    | lst ds => refine .inl ⟨e, mu, hs, S, E, ?_⟩; unfold iSeq; rw [q]; exact g
    | scr ds => refine .inl ⟨e, mu, hs, S, E, ?_⟩; unfold iSeq; rw [q]; exact g
    | ref n => refine .inl ⟨e, mu, hs, S, E, ?_⟩; unfold iSeq; rw [q]; exact g
    | _ => exact g.elim
  | exc c fs hs' => rw [q] at g; refine .inl ⟨e, mu, hs, S, E, ?_⟩; unfold iSeq; rw [q]; exact g
  | bad => rw [q] at g; exact g.elim
end

/-! ### what a part has made and nobody else knows is forgotten -/
mutual
/-- no number from n on -/
def bel (n : Nat) : D → Bool
  | .ref m => decide (m < n)
  | .tup ds => bels n ds
  | .lst ds => bels n ds
  | .scr ds => bels n ds
  | .ctp ds => bels n ds
  | .dct _ ds => bels n ds
  | .dtp _ ds => bels n ds
  | .ins _ _ ds => bels n ds
  | .exn _ _ ds => bels n ds
  | _ => true
def bels (n : Nat) : List D → Bool
  | [] => true
  | d :: ds => bel n d && bels n ds
end
def obel (n : Nat) : O → Bool
  | .lst ds => bels n ds
  | .dk kvs => bels n (kvs.map (·.2))
  | .dt kvs => bels n (kvs.map (·.2))
  | .ins _ kvs => bels n (kvs.map (·.2))
  | .lkd o => obel n o
mutual
/-- what numbers stand for, by value -/
def dW (r : Nat → Option D) : D → Option D
  | .ref m => r m
  | .tup ds => (dWs r ds).map .tup
  | .lst ds => (dWs r ds).map .lst
  | .scr ds => (dWs r ds).map .scr
  | .ctp ds => (dWs r ds).map .ctp
  | .dct ks ds => (dWs r ds).map (.dct ks)
  | .dtp ks ds => (dWs r ds).map (.dtp ks)
  | .ins c ks ds => (dWs r ds).map (.ins c ks)
  | .exn c ks ds => (dWs r ds).map (.exn c ks)
  | .non => some .non
  | .bl b => some (.bl b)
  | .int i => some (.int i)
  | .str s => some (.str s)
  | .ty t => some (.ty t)
  | .glb x => some (.glb x)
def dWs (r : Nat → Option D) : List D → Option (List D)
  | [] => some []
  | d :: ds => match dW r d with
    | some p => match dWs r ds with | some ps => some (p :: ps) | none => none
    | none => none
end
def dH (hs : Hs) (n : Nat) : Nat → Nat → Option D
  | 0, m => if m < n then some (.ref m) else none
  | k + 1, m => if m < n then some (.ref m) else match hs[m]? with
    | some (.lst ds) => (dWs (dH hs n k) ds).map .lst
    | some (.dk kvs) => (dWs (dH hs n k) (kvs.map (·.2))).map (.dct (kvs.map (·.1)))
    | some (.dt kvs) => (dWs (dH hs n k) (kvs.map (·.2))).map (.dtp (kvs.map (·.1)))
    | some (.ins c kvs) => (dWs (dH hs n k) (kvs.map (·.2))).map (.ins c (kvs.map (·.1)))
    | _ => none
/-- what stood stands, or knows nothing of what is new -/
def Cls (hs h1 : Hs) : Prop := ∀ k, k < hs.length → h1[k]? = hs[k]? ∨ ∃ o, h1[k]? = some o ∧ obel hs.length o = true
open Classical in
noncomputable def gcR (hs : Hs) : R D → R D
  | .ok d h1 => match dW (dH h1 hs.length 50) d with
    | some d' => if Cls hs h1 then .ok d' (h1.take hs.length) else .bad
    | none => .bad
  | .exc c fs h1 => match dWs (dH h1 hs.length 50) (fs.map (·.2)) with
    | some ds => if Cls hs h1 then .exc c ((fs.map (·.1)).zip ds) (h1.take hs.length) else .bad
    | none => .bad
  | .bad => .bad
noncomputable def eGc (f : FE) : FE := fun e hs => gcR hs (f e hs)
noncomputable def gcF (fn : List D → Hs → R D) : List D → Hs → R D := fun ds hs => gcR hs (fn ds hs)
/-- the numbers from n on stand still by themselves -/
def Mp.cut (mu : Mp) (n : Nat) : Mp := ⟨mu.l.take n, fun a => mu.fz a ∨ a ∈ mu.l.drop n⟩
section
variable {K : PySem.W.Frag} {mg : Str → Option Value} {mu mu1 : Mp} {hs h1 : Hs} {H H1 : Hp} {n : Nat}
theorem cut_not {a : Addr} (h : a ∉ mu.l) : a ∉ (mu.cut n).l := fun z => h (List.mem_of_mem_take z)
theorem cut_get {m : Nat} {a : Addr} (e : mu.l[m]? = some a) (h : m < n) : (mu.cut n).l[m]? = some a := by
  show (mu.l.take n)[m]? = some a
  rw [List.getElem?_take_of_lt h]; exact e
theorem cut_fz {m : Nat} {a : Addr} (e : mu.l[m]? = some a) (h : ¬ m < n) : (mu.cut n).fz a := by
  refine .inr (List.mem_of_getElem? (i := m - n) ?_)
  rw [List.getElem?_drop, show n + (m - n) = m by omega]; exact e
theorem StT.cut {a : Addr} {vs : List V} (h : StT K mu H a vs) : StT K (mu.cut n) H a vs := ⟨h.1, cut_not h.2⟩
theorem StE.cut {C a : Addr} {d : Option Addr} (h : StE mu H C d a) : StE (mu.cut n) H C d a := ⟨cut_not h.1, h.2⟩
theorem StX.cut {a : Addr} {kvs : List (Str × V)} (h : StX mu H a kvs) : StX (mu.cut n) H a kvs := ⟨h.1, cut_not h.2⟩
theorem StL.cut {a : Addr} {vs : List V} (h : StL K mu H a vs) : StL K (mu.cut n) H a vs := h.elim (fun h => .inl ⟨h.1, cut_not h.2⟩) .inr
mutual
theorem RD.cut0 : ∀ {d : D} {v : V}, RD K mu H d v → bel n d = true → RD K (mu.cut n) H d v
  | _, _, .non, _ => .non
  | _, _, .bl b, _ => .bl b
  | _, _, .int i, _ => .int i
  | _, _, .str s, _ => .str s
  | _, _, .tup q r, h => .tup q.cut (RDs.cut0 r h)
  | _, _, .lst q z r, h => .lst q (.inl z) (RDs.cut0 r h)
  | _, _, .scr q r, h => .scr q.cut (RDs.cut0 r h)
  | _, _, .ref e, h => .ref (cut_get e (of_decide_eq_true h))
  | _, _, .ty t, _ => .ty t
  | _, _, .ctp q r, h => .ctp q (RDs.cut0 r h)
  | _, _, .dct q z l r, h => .dct q (.inl z) l (RDs.cut0 r h)
  | _, _, .dtp q z l r, h => .dtp q (.inl z) l (RDs.cut0 r h)
  | _, _, .ins g q z l r, h => .ins g q (.inl z) l (RDs.cut0 r h)
  | _, _, .exn0 g q, _ => .exn0 g q.cut
  | _, _, .exnd g q x z r, h => .exnd g q.cut x.cut z (RDs.cut0 r h)
  | _, _, .glb g, _ => .glb g
theorem RDs.cut0 : ∀ {ds : List D} {vs : List V}, RDs K mu H ds vs → bels n ds = true → RDs K (mu.cut n) H ds vs
  | _, _, .nil, _ => .nil
  | _, _, .cons r t, h => by
    have h := (Bool.and_eq_true _ _).mp (show (bel n _ && bels n _) = true from h)
    exact .cons (RD.cut0 r h.1) (RDs.cut0 t h.2)
end
theorem RKs.cut0 {k : Type} : ∀ {ds : List (k × D)} {vs : List (k × V)}, RKs K mu H ds vs → bels n (ds.map (·.2)) = true → RKs K (mu.cut n) H ds vs
  | _, _, .nil, _ => .nil
  | _, _, .cons r t, h => by
    have h := (Bool.and_eq_true _ _).mp (show (bel n _ && bels n _) = true from h)
    exact .cons (RD.cut0 r h.1) (RKs.cut0 t h.2)
theorem RO.cut0 : ∀ {o : O} {u : HO}, RO K mg mu H o u → obel n o = true → RO K mg (mu.cut n) H o u := by
  intro o
  induction o with
  | lst ds => intro u h b; cases u <;> first | exact RDs.cut0 h b | exact h
  | dk ds => intro u h b; cases u <;> first | exact RKs.cut0 h b | exact h
  | dt ds => intro u h b; cases u <;> first | exact RKs.cut0 h b | exact h
  | ins c ds => intro u h b; cases u <;> first | exact ⟨h.1, RKs.cut0 h.2 b⟩ | exact h
  | lkd o ih => intro u h b; cases u <;> first | exact ih h b | exact h
/-! all numbers that are told are there -/
mutual
theorem RD.bel : ∀ {d : D} {v : V}, RD K mu H d v → bel mu.l.length d = true
  | _, _, .non => rfl
  | _, _, .bl b => rfl
  | _, _, .int i => rfl
  | _, _, .str s => rfl
  | _, _, .tup q r => RDs.bel r
  | _, _, .lst q z r => RDs.bel r
  | _, _, .scr q r => RDs.bel r
  | _, _, .ref e => decide_eq_true (List.getElem?_eq_some_iff.mp e).1
  | _, _, .ty t => rfl
  | _, _, .ctp q r => RDs.bel r
  | _, _, .dct q z l r => RDs.bel r
  | _, _, .dtp q z l r => RDs.bel r
  | _, _, .ins g q z l r => RDs.bel r
  | _, _, .exn0 g q => rfl
  | _, _, .exnd g q x z r => RDs.bel r
  | _, _, .glb g => rfl
theorem RDs.bel : ∀ {ds : List D} {vs : List V}, RDs K mu H ds vs → bels mu.l.length ds = true
  | _, _, .nil => rfl
  | _, _, .cons r t => (Bool.and_eq_true _ _).mpr ⟨RD.bel r, RDs.bel t⟩
end
theorem RKs.bel {k : Type} : ∀ {ds : List (k × D)} {vs : List (k × V)}, RKs K mu H ds vs → bels mu.l.length (ds.map (·.2)) = true
  | _, _, .nil => rfl
  | _, _, .cons r t => (Bool.and_eq_true _ _).mpr ⟨RD.bel r, RKs.bel t⟩
theorem RO.bel : ∀ {o : O} {u : HO}, RO K mg mu H o u → obel mu.l.length o = true := by
  intro o
  induction o with
  | lst ds => intro u h; cases u <;> first | exact RDs.bel h | exact h.elim
  | dk ds => intro u h; cases u <;> first | exact RKs.bel h | exact h.elim
  | dt ds => intro u h; cases u <;> first | exact RKs.bel h | exact h.elim
  | ins c ds => intro u h; cases u <;> first | exact RKs.bel h.2 | exact h.elim
  | lkd o ih => intro u h; cases u <;> first | exact ih h | exact h.elim
theorem dWs_len {r : Nat → Option D} : ∀ (ds ps : List D), dWs r ds = some ps → ps.length = ds.length
  | [], ps, e => by unfold dWs at e; cases e; rfl
  | d :: ds, ps, e => by
    unfold dWs at e
    split at e
    · split at e
      · rename_i qs hq
        cases e
        rw [List.length_cons, List.length_cons, dWs_len ds _ hq]
      · cases e
    · cases e
/-! by value -/
mutual
theorem RD.cutW {r : Nat → Option D} (hr : ∀ m a d, mu.l[m]? = some a → r m = some d → RD K (mu.cut n) H d (.ref a)) : ∀ (d : D) (v : V) (d' : D), RD K mu H d v → dW r d = some d' → RD K (mu.cut n) H d' v
  | .non, _, _, h, e => by cases h; cases e; exact .non
  | .bl b, _, _, h, e => by cases h; cases e; exact .bl b
  | .int i, _, _, h, e => by cases h; cases e; exact .int i
  | .str s, _, _, h, e => by cases h; cases e; exact .str s
  | .ty t, _, _, h, e => by cases h; cases e; exact .ty t
  | .glb x, _, _, h, e => by cases h with | glb g => cases e; exact .glb g
  | .ref m, _, _, h, e => by cases h with | ref q => exact hr _ _ _ q e
  | .tup ds, _, _, h, e => by
    cases h with
    | tup q r =>
      obtain ⟨ps, e1, rfl⟩ := Option.map_eq_some_iff.mp (show (dWs _ ds).map D.tup = some _ from e)
      exact .tup q.cut (RDs.cutW hr ds _ ps r e1)
  | .lst ds, _, _, h, e => by
    cases h with
    | lst q z r =>
      obtain ⟨ps, e1, rfl⟩ := Option.map_eq_some_iff.mp (show (dWs _ ds).map D.lst = some _ from e)
      exact .lst q (.inl z) (RDs.cutW hr ds _ ps r e1)
  | .scr ds, _, _, h, e => by
    cases h with
    | scr q r =>
      obtain ⟨ps, e1, rfl⟩ := Option.map_eq_some_iff.mp (show (dWs _ ds).map D.scr = some _ from e)
      exact .scr q.cut (RDs.cutW hr ds _ ps r e1)
  | .ctp ds, _, _, h, e => by
    cases h with
    | ctp q r =>
      obtain ⟨ps, e1, rfl⟩ := Option.map_eq_some_iff.mp (show (dWs _ ds).map D.ctp = some _ from e)
      exact .ctp q (RDs.cutW hr ds _ ps r e1)
  | .dct ks ds, _, _, h, e => by
    cases h with
    | dct q z l r =>
      obtain ⟨ps, e1, rfl⟩ := Option.map_eq_some_iff.mp (show (dWs _ ds).map (D.dct ks) = some _ from e)
      exact .dct q (.inl z) (l.trans (dWs_len ds ps e1).symm) (RDs.cutW hr ds _ ps r e1)
  | .dtp ks ds, _, _, h, e => by
    cases h with
    | dtp q z l r =>
      obtain ⟨ps, e1, rfl⟩ := Option.map_eq_some_iff.mp (show (dWs _ ds).map (D.dtp ks) = some _ from e)
      exact .dtp q (.inl z) (l.trans (dWs_len ds ps e1).symm) (RDs.cutW hr ds _ ps r e1)
  | .ins c ks ds, _, _, h, e => by
    cases h with
    | ins g q z l r =>
      obtain ⟨ps, e1, rfl⟩ := Option.map_eq_some_iff.mp (show (dWs _ ds).map (D.ins c ks) = some _ from e)
      exact .ins g q (.inl z) (l.trans (dWs_len ds ps e1).symm) (RDs.cutW hr ds _ ps r e1)
  | .exn c ks ds, _, _, h, e => by
    obtain ⟨ps, e1, rfl⟩ := Option.map_eq_some_iff.mp (show (dWs _ ds).map (D.exn c ks) = some _ from e)
    cases h with
    | exn0 g q =>
      have e2 := dWs_len _ ps e1
      obtain rfl : ps = [] := List.eq_nil_of_length_eq_zero e2
      exact .exn0 g q.cut
    | exnd g q x z r => exact .exnd g q.cut x.cut (z.trans (dWs_len ds ps e1).symm) (RDs.cutW hr ds _ ps r e1)
theorem RDs.cutW {r : Nat → Option D} (hr : ∀ m a d, mu.l[m]? = some a → r m = some d → RD K (mu.cut n) H d (.ref a)) : ∀ (ds : List D) (vs : List V) (ds' : List D), RDs K mu H ds vs → dWs r ds = some ds' → RDs K (mu.cut n) H ds' vs
  | [], _, _, h, e => by cases h; cases e; exact .nil
  | d :: ds, _, _, h, e => by
    cases h with
    | cons r1 r2 =>
      unfold dWs at e
      split at e
      · rename_i p hp
        split at e
        · rename_i ps hps
          cases e
          exact .cons (RD.cutW hr d _ p r1 hp) (RDs.cutW hr ds _ ps r2 hps)
        · cases e
      · cases e
end
theorem RKs.keys {k : Type} : ∀ {ds : List (k × D)} {vs : List (k × V)}, RKs K mu H ds vs → vs.map (·.1) = ds.map (·.1)
  | _, _, .nil => rfl
  | _, _, .cons _ t => by rw [List.map_cons, List.map_cons, RKs.keys t]
theorem RKs.vals {k : Type} : ∀ {ds : List (k × D)} {vs : List (k × V)}, RKs K mu H ds vs → RDs K mu H (ds.map (·.2)) (vs.map (·.2))
  | _, _, .nil => .nil
  | _, _, .cons r t => .cons r (RKs.vals t)
theorem zip_back {k t : Type} (vs : List (k × t)) : (vs.map (·.1)).zip (vs.map (·.2)) = vs := by
  induction vs with
  | nil => rfl
  | cons p vs ih => simp only [List.map_cons, List.zip_cons_cons, ih]
theorem dH_at (S : Sim K mg mu hs H) : ∀ (k m : Nat) (a : Addr) (d : D), mu.l[m]? = some a → dH hs n k m = some d → RD K (mu.cut n) H d (.ref a)
  | 0, m, a, d, hm, e => by
    unfold dH at e
    split at e
    · rename_i h; cases e; exact .ref (cut_get hm h)
    · cases e
  | k + 1, m, a, d, hm, e => by
    unfold dH at e
    split at e
    · rename_i h; cases e; exact .ref (cut_get hm h)
    · rename_i h
      have fz := cut_fz (n := n) hm h
      split at e
      · rename_i ds hd
        obtain ⟨ps, e1, rfl⟩ := Option.map_eq_some_iff.mp e
        obtain ⟨u, h1, h2⟩ := S.at hm hd
        cases u <;> first
          | exact .lst h1 fz (RDs.cutW (fun m a d q1 q2 => dH_at S k m a d q1 q2) ds _ ps h2 e1)
          | exact h2.elim
      · rename_i kvs hd
        obtain ⟨ps, e1, rfl⟩ := Option.map_eq_some_iff.mp e
        obtain ⟨u, h1, h2⟩ := S.at hm hd
        cases u <;> first
          | (rename_i vs
             have h2 : RKs K mu H kvs vs := h2
             refine .dct (vs := vs.map (·.2)) ?_ fz ?_ (RDs.cutW (fun m a d q1 q2 => dH_at S k m a d q1 q2) _ _ ps h2.vals e1)
             · rw [← h2.keys, zip_back]; exact h1
             · rw [dWs_len _ _ e1, List.length_map, List.length_map])
          | exact h2.elim
      · rename_i kvs hd
        obtain ⟨ps, e1, rfl⟩ := Option.map_eq_some_iff.mp e
        obtain ⟨u, h1, h2⟩ := S.at hm hd
        cases u <;> first
          | (rename_i vs
             have h2 : RKs K mu H kvs vs := h2
             refine .dtp (vs := vs.map (·.2)) ?_ fz ?_ (RDs.cutW (fun m a d q1 q2 => dH_at S k m a d q1 q2) _ _ ps h2.vals e1)
             · rw [← h2.keys, zip_back]; exact h1
             · rw [dWs_len _ _ e1, List.length_map, List.length_map])
          | exact h2.elim
      · rename_i c kvs hd
        obtain ⟨ps, e1, rfl⟩ := Option.map_eq_some_iff.mp e
        obtain ⟨u, h1, h2⟩ := S.at hm hd
        cases u <;> first
          | (rename_i C dx vs
             obtain ⟨hg, h2⟩ : PySem.W.nsIn K mainGlobals c = some (some (.ref C)) ∧ RKs K mu H kvs vs := h2
             refine .ins (C := C) (dx := dx) (vs := vs.map (·.2)) hg ?_ fz ?_ (RDs.cutW (fun m a d q1 q2 => dH_at S k m a d q1 q2) _ _ ps h2.vals e1)
             · rw [← h2.keys, zip_back]; exact h1
             · rw [dWs_len _ _ e1, List.length_map, List.length_map])
          | exact h2.elim
      · cases e
theorem Sim.le (S : Sim K mg mu hs H) (S1 : Sim K mg mu1 h1 H1) (l : Lat mu H mu1 H1) : hs.length ≤ h1.length := by
  rw [← S.len, ← S1.len]; exact l.pre.length_le
theorem Sim.cut (S : Sim K mg mu hs H) (S1 : Sim K mg mu1 h1 H1) (l : Lat mu H mu1 H1) (c : Cls hs h1) : Sim K mg (mu1.cut hs.length) (h1.take hs.length) H1 := by
  have hle := S.le S1 l
  refine ⟨?_, ?_, ?_, ?_, ?_⟩
  · show (mu1.l.take hs.length).length = _
    rw [List.length_take, List.length_take, S1.len]
  · exact S1.nd.sublist (List.take_sublist ..)
  · rintro a m (z | z)
    · exact S1.dj a (List.mem_of_mem_take m) z
    · have nd := S1.nd
      rw [← List.take_append_drop hs.length mu1.l, List.nodup_append] at nd
      exact nd.2.2 a m a z rfl
  · rintro a (z | z)
    · exact S1.fzl a z
    · exact S1.there (List.mem_of_mem_drop z)
  · intro k o hk
    have hlt : k < hs.length := by
      have := (List.getElem?_eq_some_iff.mp hk).1
      rw [List.length_take] at this
      omega
    rw [List.getElem?_take_of_lt hlt] at hk
    obtain ⟨a, u, e1, e2, e3⟩ := S1.obj k o hk
    refine ⟨a, u, cut_get e1 hlt, e2, RO.cut0 e3 ?_⟩
    rcases c k hlt with q | ⟨o', q1, q2⟩
    · rw [hk] at q
      obtain ⟨b, w, _, _, f3⟩ := S.obj k o q.symm
      rw [← S.len]; exact RO.bel f3
    · rw [hk] at q1; cases q1; exact q2
theorem Lat.cut (S : Sim K mg mu hs H) (l : Lat mu H mu1 H1) : Lat mu H (mu1.cut hs.length) H1 := by
  refine ⟨?_, fun a z => .inl (l.sub a z), fun a o h m => ?_⟩
  · obtain ⟨t, e⟩ := l.pre
    show mu.l <+: mu1.l.take hs.length
    rw [← e, ← S.len, List.take_left]
    exact List.prefix_rfl
  · obtain ⟨q1, q2, q3⟩ := l.ext a o h m
    exact ⟨q1, cut_not q2, fun z => z.elim q3 fun z => absurd (List.mem_of_mem_drop z) q2⟩
theorem RKs.zipW {ks : List Str} : ∀ {fs : List (Str × D)} {vs : List (Str × V)} {ds : List D}, RKs K mu H fs vs → RDs K (mu.cut n) H ds (vs.map (·.2)) → RKs K (mu.cut n) H ((fs.map (·.1)).zip ds) vs
  | _, _, _, .nil, _ => .nil
  | _, _, _, .cons r t, h => by
    cases h with
    | cons h1 h2 => exact .cons h1 (RKs.zipW (ks := ks) t h2)
/-- a result with what is new forgotten -/
theorem Gd.gc {Wd : WX} {σ : L2.St} {Q : V → Hp → Prop} {x : R D} (S : Sim K mg mu hs H) (g : Gd (relD K) K mg Wd σ mu H Q (gcR hs x)) : Gd (relD K) K mg Wd σ mu H Q x := by
  cases x with
  | bad => exact g
  | ok d h1 =>
    unfold gcR at g
    dsimp only at g
    split at g
    · rename_i d' hd
      split at g
      · rename_i hc
        intro mu1 H1 y l S1 r
        exact g _ _ y (Lat.cut S l) (S.cut S1 l hc) (RD.cutW (fun m a d q1 q2 => dH_at S1 50 m a d q1 q2) d y d' r hd)
      · exact g.elim
    · exact g.elim
  | exc c fs h1 =>
    unfold gcR at g
    dsimp only at g
    split at g
    · rename_i ds hd
      split at g
      · rename_i hc
        intro mu1 H1 cls dx l S1 ⟨C, r1, r2, r3⟩
        refine g _ _ cls dx (Lat.cut S l) (S.cut S1 l hc) ⟨C, r1, r2, ?_⟩
        rcases r3 with ⟨rfl, r3⟩ | ⟨a, vs, r3, r4, r5, r6⟩
        · exact .inl ⟨rfl, r3⟩
        · exact .inr ⟨a, vs, r3, r4, cut_not r5, RKs.zipW (ks := []) r6 (RDs.cutW (fun m a d q1 q2 => dH_at S1 50 m a d q1 q2) _ _ ds r6.vals hd)⟩
      · exact g.elim
    · exact g.elim
end
theorem ue_gc {X : Cx} {Wd : WX} {a : Expr} {f : FE} (h : UE X Wd a f) : UE X Wd a (eGc f) :=
  PE.imp h fun σ H Q ⟨e, mu, hs, S, E, g⟩ => ⟨e, mu, hs, S, E, Gd.gc S g⟩
theorem FnG.gc {P : Program} {w : World} {K : PySem.W.Frag} {mg : Str → Option Value} {base : Heap} {k n : Nat} {f : Addr} {fd : FuncData} {ps : List Str} {fn : List D → Hs → R D} (F : FnG P w K mg base k f fd ps (spU K mg n fn)) : FnG P w K mg base k f fd ps (spU K mg n (gcF fn)) :=
  ⟨fun vs H Q E ⟨mu, hs, ds, S, r, l, g⟩ => F.len vs H Q E ⟨mu, hs, ds, S, r, l, Gd.gc S g⟩, fun A outer s H args us vs Q E hr hg he hb hv ⟨mu, hs, ds, S, r, l, g⟩ => F.run A outer s H args us vs Q E hr hg he hb hv ⟨mu, hs, ds, S, r, l, Gd.gc S g⟩⟩
/-- a function that is never come to -/
theorem fnG_bad {P : Program} {w : World} {K : PySem.W.Frag} {mg : Str → Option Value} {base : Heap} {k : Nat} {f : Addr} {fd : FuncData} {ps : List Str} : FnG P w K mg base k f fd ps (spU K mg ps.length fun _ _ => .bad) :=
  ⟨fun vs H Q E ⟨mu, hs, ds, S, r, l, g⟩ => g.elim, fun A outer s H args us vs Q E hr hg he hb hv ⟨mu, hs, ds, S, r, l, g⟩ => g.elim⟩
end G

/-! # G10: plain laws of the functions of the layer -/
namespace G
open PySem PySem.Spec PyProof.Rows L2

/-! ### heaps of ours -/
theorem get_set_eq {hs : Hs} {n : Nat} {o p : O} (h : hs[n]? = some p) : (hs.set n o)[n]? = some o := by
  rw [List.getElem?_set_self]; exact (List.getElem?_eq_some_iff.mp h).1
theorem get_set_ne {hs : Hs} {n m : Nat} {o : O} (h : n ≠ m) : (hs.set n o)[m]? = hs[m]? := List.getElem?_set_ne h
theorem get_app {hs : Hs} {n : Nat} {o p : O} (h : hs[n]? = some p) : (hs ++ [o])[n]? = some p := by
  rw [List.getElem?_append_left (List.getElem?_eq_some_iff.mp h).1]; exact h
theorem get_new {hs : Hs} {o : O} : (hs ++ [o])[hs.length]? = some o := by simp
theorem lt_of_get {hs : Hs} {n : Nat} {p : O} (h : hs[n]? = some p) : n < hs.length := (List.getElem?_eq_some_iff.mp h).1
/-- all but what is told stands -/
def Frm (S : Nat → Prop) (hs hs' : Hs) : Prop := hs.length ≤ hs'.length ∧ ∀ n, n < hs.length → ¬ S n → hs'[n]? = hs[n]?
theorem Frm.refl {S : Nat → Prop} {hs : Hs} : Frm S hs hs := ⟨Nat.le_refl _, fun _ _ _ => rfl⟩
theorem Frm.trans {S : Nat → Prop} {h0 h1 h2 : Hs} (a : Frm S h0 h1) (b : Frm S h1 h2) : Frm S h0 h2 :=
  ⟨Nat.le_trans a.1 b.1, fun n hn s => (b.2 n (Nat.lt_of_lt_of_le hn a.1) s).trans (a.2 n hn s)⟩
theorem Frm.get {S : Nat → Prop} {hs hs' : Hs} (f : Frm S hs hs') {n : Nat} {o : O} (h : hs[n]? = some o) (s : ¬ S n) : hs'[n]? = some o := (f.2 n (lt_of_get h) s).trans h
theorem Frm.app {S : Nat → Prop} {hs : Hs} {o : O} : Frm S hs (hs ++ [o]) := ⟨by simp, fun n hn _ => by rw [List.getElem?_append_left hn]⟩
theorem Frm.set {S : Nat → Prop} {hs : Hs} {n : Nat} {o : O} (s : S n) : Frm S hs (hs.set n o) := ⟨by simp, fun m _ ns => List.getElem?_set_ne (show n ≠ m from fun e => ns (e ▸ s))⟩
theorem Frm.mono {S T : Nat → Prop} {hs hs' : Hs} (f : Frm S hs hs') (h : ∀ n, n < hs.length → S n → T n) : Frm T hs hs' := ⟨f.1, fun n hn t => f.2 n hn fun s => t (h n hn s)⟩

/-! ### data -/
@[simp] theorem pd_non {hs : Hs} : pd hs .non = some .none := rfl
@[simp] theorem pd_bl {hs : Hs} {b : Bool} : pd hs (.bl b) = some (.bool b) := rfl
@[simp] theorem pd_int {hs : Hs} {i : Int} : pd hs (.int i) = some (.int i) := rfl
@[simp] theorem pd_str {hs : Hs} {s : Str} : pd hs (.str s) = some (.str s) := rfl
theorem gEqB_int {hs : Hs} {i j : Int} : gEqB hs (.int i) (.int j) = some (i == j) := rfl
theorem gEqB_bl {hs : Hs} {i j : Bool} : gEqB hs (.bl i) (.bl j) = some (i == j) := rfl
/-- signs that are signs -/
def okS (x : Str) : Bool := x.cps.all (· < 0x110000)
theorem gEqB_str {hs : Hs} {x y : Str} (hx : okS x = true) (hy : okS y = true) : gEqB hs (.str x) (.str y) = some (x == y) := rfl
theorem eq_str {hs : Hs} {x y : Str} : gEqB hs (.str x) (.str y) = some (x == y) := rfl

/-! ### loops -/
theorem forF_inv {nx : Nx} {g : FG} {body : FS} {n : Nat} (I : Nat → Ev → Hs → Prop)
    (step : ∀ i e hs, i < n → I i e hs → ∃ d e' e2 hs2, nx hs i = some (some d) ∧ g d e = some e' ∧ (body e' hs = .nx e2 hs2 ∨ body e' hs = .cnt e2 hs2) ∧ I (i + 1) e2 hs2)
    (stop : ∀ e hs, I n e hs → nx hs n = some none) : ∀ (k i : Nat) (e : Ev) (hs : Hs), n - i ≤ k → i ≤ n → I i e hs → ∃ e2 hs2, forF nx g body k i e hs = .nx e2 hs2 ∧ I n e2 hs2
  | k, i, e, hs, hk, hi, h => by
    by_cases hlt : i < n
    · obtain ⟨d, e', e2, hs2, h1, h2, h3, h4⟩ := step i e hs hlt h
      cases k with
      | zero => omega
      | succ k =>
        obtain ⟨e3, hs3, h5, h6⟩ := forF_inv I step stop k (i + 1) e2 hs2 (by omega) (by omega) h4
        refine ⟨e3, hs3, ?_, h6⟩
        unfold forF
        rw [h1]
        dsimp only
        rw [h2]
        dsimp only
        rcases h3 with h3 | h3 <;> rw [h3] <;> exact h5
    · have e1 : i = n := by omega
      subst e1
      refine ⟨e, hs, ?_, h⟩
      cases k <;> (unfold forF; rw [stop e hs h])
/-- a for over n turns -/
theorem sFor_inv {f : FI} {g : FG} {body : FS} {e : Ev} {hs hs1 : Hs} {nx : Nx} (n : Nat) (I : Nat → Ev → Hs → Prop) (hf : f e hs = .ok nx hs1) (hn : n ≤ 100000) (h0 : I 0 e hs1)
    (step : ∀ i e hs, i < n → I i e hs → ∃ d e' e2 hs2, nx hs i = some (some d) ∧ g d e = some e' ∧ (body e' hs = .nx e2 hs2 ∨ body e' hs = .cnt e2 hs2) ∧ I (i + 1) e2 hs2)
    (stop : ∀ e hs, I n e hs → nx hs n = some none) : ∃ e2 hs2, sFor f g body e hs = .nx e2 hs2 ∧ I n e2 hs2 := by
  unfold sFor sBind
  rw [hf]
  dsimp only
  exact forF_inv I step stop fuel 0 e hs1 (by unfold fuel; omega) (Nat.zero_le _) h0
theorem compF_inv {nx : Nx} {g : FG} {t : FT} {el : FE} {e : Ev} {n : Nat} (I : Nat → List D → Hs → Prop)
    (step : ∀ i acc hs, i < n → I i acc hs → ∃ d e' b hs2, nx hs i = some (some d) ∧ g d e = some e' ∧ t e' hs = .ok b hs2 ∧ ((b = false ∧ I (i + 1) acc hs2) ∨ (b = true ∧ acc.length < sizeLine ∧ ∃ y hs3, el e' hs2 = .ok y hs3 ∧ I (i + 1) (acc ++ [y]) hs3)))
    (stop : ∀ acc hs, I n acc hs → nx hs n = some none) : ∀ (k i : Nat) (acc : List D) (hs : Hs), n - i ≤ k → i ≤ n → I i acc hs → ∃ acc2 hs2, compF nx g t el e k i acc hs = .ok acc2 hs2 ∧ I n acc2 hs2
  | k, i, acc, hs, hk, hi, h => by
    by_cases hlt : i < n
    · obtain ⟨d, e', b, hs2, h1, h2, h3, h4⟩ := step i acc hs hlt h
      cases k with
      | zero => omega
      | succ k =>
        unfold compF
        rw [h1]
        dsimp only
        rw [h2]
        dsimp only
        rw [h3]
        dsimp only
        rcases h4 with ⟨rfl, h4⟩ | ⟨rfl, hz, y, hs3, h5, h6⟩
        · rw [if_neg Bool.false_ne_true]
          exact compF_inv I step stop k (i + 1) acc hs2 (by omega) (by omega) h4
        · rw [if_pos rfl, h5]
          dsimp only
          rw [if_pos hz]
          exact compF_inv I step stop k (i + 1) (acc ++ [y]) hs3 (by omega) (by omega) h6
    · have e1 : i = n := by omega
      subst e1
      refine ⟨acc, hs, ?_, h⟩
      cases k <;> (unfold compF; rw [stop acc hs h])
theorem lComp_inv {f : FI} {g : FG} {t : FT} {el : FE} {vs : List Nat} {e : Ev} {hs hs1 : Hs} {nx : Nx} (n : Nat) (I : Nat → List D → Hs → Prop) (hf : f e hs = .ok nx hs1) (hn : n ≤ 100000) (h0 : I 0 [] hs1)
    (step : ∀ i acc hs, i < n → I i acc hs → ∃ d e' b hs2, nx hs i = some (some d) ∧ g d (wipeE e vs) = some e' ∧ t e' hs = .ok b hs2 ∧ ((b = false ∧ I (i + 1) acc hs2) ∨ (b = true ∧ acc.length < sizeLine ∧ ∃ y hs3, el e' hs2 = .ok y hs3 ∧ I (i + 1) (acc ++ [y]) hs3)))
    (stop : ∀ acc hs, I n acc hs → nx hs n = some none) : ∃ acc2 hs2, lComp f g t el vs e hs = .ok acc2 hs2 ∧ I n acc2 hs2 := by
  unfold lComp
  rw [hf, R.bind_ok]
  exact compF_inv I step stop fuel 0 [] hs1 (by unfold fuel; omega) (Nat.zero_le _) h0
/-- a comprehension that maps, the heap as it is -/
theorem lComp_map {f : FI} {g : FG} {el : FE} {vs : List Nat} {e : Ev} {hs hs1 : Hs} {ds : List D} (F : D → D) (hf : f e hs = .ok (nxL ds) hs1) (hn : ds.length ≤ 100000)
    (step : ∀ d ∈ ds, ∃ e', g d (wipeE e vs) = some e' ∧ el e' hs1 = .ok (F d) hs1) : lComp f g tYesF el vs e hs = .ok (ds.map F) hs1 := by
  obtain ⟨acc, hs2, h1, h2, h3⟩ := lComp_inv (t := tYesF) ds.length (fun i acc h => h = hs1 ∧ acc = (ds.take i).map F) hf hn ⟨rfl, rfl⟩ (fun i acc h hi ⟨e1, e2⟩ => by
      subst e1 e2
      obtain ⟨e', h1, h2⟩ := step ds[i] (List.getElem_mem hi)
      refine ⟨ds[i], e', true, h, by unfold nxL; rw [List.getElem?_eq_getElem hi], h1, rfl, .inr ⟨rfl, ?_, F ds[i], h, h2, rfl, ?_⟩⟩
      · rw [List.length_map, List.length_take]
        have : sizeLine = 16777216 := sizeLine_eq
        omega
      · rw [List.take_add_one, List.getElem?_eq_getElem hi, List.map_append]
        rfl) (fun acc h _ => by unfold nxL; rw [List.getElem?_eq_none (Nat.le_refl _)])
  rw [h1, h2, h3, List.take_length]
end G

/-! # G11: what holds behind a function's run -/
namespace G
open PySem PySem.Spec PyProof.Rows L2

abbrev XQ := Str → List (Str × D) → Hs → Prop
/-- r ends so -/
@[irreducible] def Wp {a : Type} (r : R a) (Q : a → Hs → Prop) (X : XQ) : Prop := match r with
  | .ok x h => Q x h
  | .exc c fs h => X c fs h
  | .bad => False
abbrev nX : XQ := fun _ _ _ => False
structure Po where
  nx : Ev → Hs → Prop
  rt : D → Hs → Prop := fun _ _ => False
  bk : Ev → Hs → Prop := fun _ _ => False
  ct : Ev → Hs → Prop := fun _ _ => False
  ex : Str → List (Str × D) → Ev → Hs → Prop := fun _ _ _ _ => False
/-- the same, but for what comes next; the same within a loop -/
@[reducible] def Po.wnx (P : Po) (N : Ev → Hs → Prop) : Po := { P with nx := N }
@[reducible] def Po.lp (P : Po) (I : Ev → Hs → Prop) : Po := { nx := I, ct := I, bk := P.nx, rt := P.rt, ex := P.ex }
@[irreducible] def Ws (r : SR) (P : Po) : Prop := match r with
  | .nx e h => P.nx e h
  | .ret d h => P.rt d h
  | .brk e h => P.bk e h
  | .cnt e h => P.ct e h
  | .exc c fs e h => P.ex c fs e h
  | .bad => False
section
variable {a b : Type} {Q : D → Hs → Prop} {X : XQ} {e : Ev} {hs : Hs}
theorem wp_bind {r : R a} {k : a → Hs → R b} {Q : b → Hs → Prop} (h : Wp r (fun x h => Wp (k x h) Q X) X) : Wp (r.bind k) Q X := by with_unfolding_all (cases r <;> exact h)
theorem wp_ok {x : a} {Q : a → Hs → Prop} (h : Q x hs) : Wp (.ok x hs) Q X := by with_unfolding_all exact h
theorem wp_some {x : a} {Q : a → Hs → Prop} {o : Option a} (e : o = some x) (h : Q x hs) : Wp (R.ofO o hs) Q X := by with_unfolding_all (subst e; exact h)
theorem wp_someP {x : a} {Q : a → Hs → Prop} {o : Option (a × Hs)} {hs' : Hs} (e : o = some (x, hs')) (h : Q x hs') : Wp (R.ofP o) Q X := by with_unfolding_all (subst e; exact h)
theorem wp_mono {r : R a} {Q Q' : a → Hs → Prop} {X X' : XQ} (h : Wp r Q X) (i : ∀ x h, Q x h → Q' x h) (j : ∀ c fs h, X c fs h → X' c fs h) : Wp r Q' X' := by
  with_unfolding_all
  cases r with
  | ok x h' => exact i _ _ h
  | exc c fs h' => exact j _ _ _ h
  | bad => exact h
theorem wp_of {r : R a} {Q : a → Hs → Prop} {x : a} {hs' : Hs} (e : r = .ok x hs') (h : Q x hs') : Wp r Q X := by with_unfolding_all (subst e; exact h)
theorem wp_get {r : R a} {Q : a → Hs → Prop} (h : Wp r Q nX) : ∃ x hs', r = .ok x hs' ∧ Q x hs' := by
  with_unfolding_all
  cases r with
  | ok x h' => exact ⟨x, h', rfl, h⟩
  | exc c fs h' => exact h.elim
  | bad => exact h.elim
theorem wp_name {i : Nat} {d : D} (q : e[i]? = some (some d)) (h : Q d hs) : Wp (eName i e hs) Q X := by with_unfolding_all (unfold eName; rw [q]; exact h)
theorem wp_c {d : D} (h : Q d hs) : Wp (eC d e hs) Q X := by with_unfolding_all exact h
theorem wp_anil {Q : List D → Hs → Prop} (h : Q [] hs) : Wp (aNil e hs) Q X := by with_unfolding_all exact h
theorem wp_acons {f : FE} {g : FA} {Q : List D → Hs → Prop} (h : Wp (f e hs) (fun d h => Wp (g e h) (fun ds h => Q (d :: ds) h) X) X) : Wp (aCons f g e hs) Q X := by
  with_unfolding_all
  refine wp_bind (wp_mono h (fun d h' q => wp_bind (wp_mono q (fun _ _ q => q) fun _ _ _ x => x)) fun _ _ _ x => x)
theorem wp_ev {f : FL} (h : Wp (f e hs) (fun ds h => Q (.lst ds) h) X) : Wp (eV f e hs) Q X := by with_unfolding_all exact wp_bind (wp_mono h (fun _ _ q => q) fun _ _ _ x => x)
theorem wp_em {f : FL} (h : Wp (f e hs) (fun ds h => Q (.ref h.length) (h ++ [.lst ds])) X) : Wp (eM f e hs) Q X := by with_unfolding_all exact wp_bind (wp_mono h (fun _ _ q => q) fun _ _ _ x => x)
theorem wp_tup {f : FA} (h : Wp (f e hs) (fun ds h => Q (.tup ds) h) X) : Wp (eTup f e hs) Q X := by with_unfolding_all exact wp_bind (wp_mono h (fun _ _ q => q) fun _ _ _ x => x)
theorem wp_bin {g : Hs → D → D → Option D} {f1 f2 : FE} (h : Wp (f1 e hs) (fun x h1 => Wp (f2 e h1) (fun y h2 => Wp (R.ofO (g h2 x y) h2) Q X) X) X) : Wp (eBin g f1 f2 e hs) Q X := by with_unfolding_all exact wp_bind (wp_mono h (fun _ _ q => wp_bind q) fun _ _ _ x => x)
theorem wp_un {g : Hs → D → Option D} {f1 : FE} (h : Wp (f1 e hs) (fun x h1 => Wp (R.ofO (g h1 x) h1) Q X) X) : Wp (eUn g f1 e hs) Q X := by with_unfolding_all exact wp_bind h
theorem wp_chain {g g' : Hs → D → D → Option D} {f1 f2 f3 : FE} (h : Wp (f1 e hs) (fun x h1 => Wp (f2 e h1) (fun y h2 => Wp (R.ofO (g h2 x y) h2) (fun k h3 => ∃ c, k = .bl c ∧ (c = true → Wp (f3 e h3) (fun z h4 => Wp (R.ofO (g' h4 y z) h4) Q X) X) ∧ (c = false → Q (.bl false) h3)) X) X) X) : Wp (eChain g g' f1 f2 f3 e hs) Q X := by
  with_unfolding_all
  refine wp_bind (wp_mono h (fun x h1 q => wp_bind (wp_mono q (fun y h2 q => wp_bind (wp_mono q (fun k h3 q => ?_) fun _ _ _ x => x)) fun _ _ _ x => x)) fun _ _ _ x => x)
  obtain ⟨c, rfl, q1, q2⟩ := q
  cases c with
  | true => exact wp_bind (q1 rfl)
  | false => exact q2 rfl
theorem wp_eb {f : FE} {Q : Bool → Hs → Prop} (h : Wp (f e hs) (fun d h => ∃ c, d = .bl c ∧ Q c h) X) : Wp (eB f e hs) Q X := by
  with_unfolding_all
  refine wp_bind (wp_mono h (fun d h' q => ?_) fun _ _ _ x => x)
  obtain ⟨c, rfl, q⟩ := q
  exact q
theorem wp_et {f : FE} {Q : Bool → Hs → Prop} (h : Wp (f e hs) (fun d h => Wp (R.ofO (tru h d) h) Q X) X) : Wp (eT f e hs) Q X := by with_unfolding_all exact wp_bind h
theorem wp_andF {f g : FT} {Q : Bool → Hs → Prop} (h : Wp (f e hs) (fun c h => (c = true → Wp (g e h) Q X) ∧ (c = false → Q false h)) X) : Wp (tAndF f g e hs) Q X := by
  with_unfolding_all
  refine wp_bind (wp_mono h (fun c h' q => ?_) fun _ _ _ x => x)
  cases c with
  | true => exact q.1 rfl
  | false => exact q.2 rfl
theorem wp_orF {f g : FT} {Q : Bool → Hs → Prop} (h : Wp (f e hs) (fun c h => (c = true → Q true h) ∧ (c = false → Wp (g e h) Q X)) X) : Wp (tOrF f g e hs) Q X := by
  with_unfolding_all
  refine wp_bind (wp_mono h (fun c h' q => ?_) fun _ _ _ x => x)
  cases c with
  | true => exact q.1 rfl
  | false => exact q.2 rfl
theorem wp_notF {f : FT} {Q : Bool → Hs → Prop} (h : Wp (f e hs) (fun c h => Q (!c) h) X) : Wp (tNotF f e hs) Q X := by with_unfolding_all exact wp_bind (wp_mono h (fun _ _ q => q) fun _ _ _ x => x)
theorem wp_yes {Q : Bool → Hs → Prop} (h : Q true hs) : Wp (tYesF e hs) Q X := by with_unfolding_all exact h
theorem wp_and {f g : FE} (h : Wp (f e hs) (fun d h => ∃ c, d = .bl c ∧ (c = true → Wp (g e h) Q X) ∧ (c = false → Q (.bl false) h)) X) : Wp (eAnd f g e hs) Q X := by
  with_unfolding_all
  refine wp_bind (wp_mono h (fun d h' q => ?_) fun _ _ _ x => x)
  obtain ⟨c, rfl, q1, q2⟩ := q
  cases c with
  | true => exact q1 rfl
  | false => exact q2 rfl
theorem wp_or {f g : FE} (h : Wp (f e hs) (fun d h => ∃ c, d = .bl c ∧ (c = true → Q (.bl true) h) ∧ (c = false → Wp (g e h) Q X)) X) : Wp (eOr f g e hs) Q X := by
  with_unfolding_all
  refine wp_bind (wp_mono h (fun d h' q => ?_) fun _ _ _ x => x)
  obtain ⟨c, rfl, q1, q2⟩ := q
  cases c with
  | true => exact q1 rfl
  | false => exact q2 rfl
theorem wp_not {f : FE} (h : Wp (f e hs) (fun d h => ∃ c, d = .bl c ∧ Q (.bl (!c)) h) X) : Wp (eNot f e hs) Q X := by
  with_unfolding_all
  refine wp_bind (wp_mono h (fun d h' q => ?_) fun _ _ _ x => x)
  obtain ⟨c, rfl, q⟩ := q
  exact q
theorem wp_if {t : FT} {f g : FE} (h : Wp (t e hs) (fun c h => (c = true → Wp (f e h) Q X) ∧ (c = false → Wp (g e h) Q X)) X) : Wp (eIf t f g e hs) Q X := by
  with_unfolding_all
  refine wp_bind (wp_mono h (fun c h' q => ?_) fun _ _ _ x => x)
  cases c with
  | true => exact q.1 rfl
  | false => exact q.2 rfl
theorem wp_onone {Q : Option Int → Hs → Prop} (h : Q none hs) : Wp (oNone e hs) Q X := by with_unfolding_all exact h
theorem wp_osome {f : FE} {Q : Option Int → Hs → Prop} (h : Wp (f e hs) (fun d h => ∃ i, d = .int i ∧ Q (some i) h) X) : Wp (oSome f e hs) Q X := by
  with_unfolding_all
  refine wp_bind (wp_mono h (fun d h' q => ?_) fun _ _ _ x => x)
  obtain ⟨i, rfl, q⟩ := q
  exact q
theorem wp_sl {f : FE} {lo hi : FO} (h : Wp (f e hs) (fun d h => Wp (lo e h) (fun l h => Wp (hi e h) (fun u h => Wp (R.ofO (gSl h d l u) h) Q X) X) X) X) : Wp (eSl f lo hi e hs) Q X := by with_unfolding_all exact wp_bind (wp_mono h (fun _ _ q => wp_bind (wp_mono q (fun _ _ q => wp_bind q) fun _ _ _ x => x)) fun _ _ _ x => x)
theorem wp_rev {f : FE} {Q : List D → Hs → Prop} (h : Wp (f e hs) (fun d h => Wp (R.ofO ((rdOf h d).map List.reverse) h) Q X) X) : Wp (lRev f e hs) Q X := by with_unfolding_all exact wp_bind h
theorem wp_list {f : FE} {Q : List D → Hs → Prop} (h : Wp (f e hs) (fun d h => Wp (R.ofO (seqOf h d) h) Q X) X) : Wp (lList f e hs) Q X := by with_unfolding_all exact wp_bind h
theorem wp_call {g : Hs → List D → Option D} {f : FA} (h : Wp (f e hs) (fun ds h => Wp (R.ofO (g h ds) h) Q X) X) : Wp (eCall g f e hs) Q X := by with_unfolding_all exact wp_bind h
theorem wp_mt {c : Hs → D → Bool} {g : Hs → D → List D → Option (D × Hs)} {f1 : FE} {f : FA} (h : Wp (f1 e hs) (fun d h => c h d = true ∧ Wp (f e h) (fun ds h => Wp (R.ofP (g h d ds)) Q X) X) X) : Wp (eMt c g f1 f e hs) Q X := by
  with_unfolding_all
  refine wp_bind (wp_mono h (fun d h' q => ?_) fun _ _ _ x => x)
  rw [if_pos q.1]
  exact wp_bind q.2
theorem wp_fn {fn : List D → Hs → R D} {is : List Nat} {dds : List D} {fa : FA} (h : Wp (fa e hs) (fun ds h => Wp (fn (selL is ds [] dds) h) Q X) X) : Wp (eFn fn is dds fa e hs) Q X := by with_unfolding_all exact wp_bind h
theorem wp_fnK {fn : List D → Hs → R D} {is : List Nat} {dds : List D} {fa fk : FA} (h : Wp (fa e hs) (fun ds h => Wp (fk e h) (fun zs h => Wp (fn (selL is ds zs dds) h) Q X) X) X) : Wp (eFnK fn is dds fa fk e hs) Q X := by with_unfolding_all exact wp_bind (wp_mono h (fun _ _ q => wp_bind q) fun _ _ _ x => x)
/-- a body -/
theorem wp_body {N : Nat} {b : FS} {ds : List D} (h : Ws (b (ds.map some ++ List.replicate (N - ds.length) none) hs) { nx := fun _ h => Q .non h, rt := Q, ex := fun c fs _ h => X c fs h }) : Wp (fnBody N b ds hs) Q X := by
  with_unfolding_all
  unfold fnBody
  cases q : b (ds.map some ++ List.replicate (N - ds.length) none) hs <;> rw [q] at h <;> exact h

theorem wp_bodyE {N : Nat} {b : FS} {ds : List D} (e0 : Ev) (he : ds.map some ++ List.replicate (N - ds.length) none = e0) (h : Ws (b e0 hs) { nx := fun _ h => Q .non h, rt := Q, ex := fun c fs _ h => X c fs h }) : Wp (fnBody N b ds hs) Q X := by with_unfolding_all (subst he; exact wp_body h)
/-! ### statements -/
variable {P : Po}
theorem ws_skip (h : P.nx e hs) : Ws (sSkip e hs) P := by with_unfolding_all exact h
theorem ws_brk (h : P.bk e hs) : Ws (sBrk e hs) P := by with_unfolding_all exact h
theorem ws_cnt (h : P.ct e hs) : Ws (sCnt e hs) P := by with_unfolding_all exact h
theorem ws_mono {r : SR} {P P' : Po} (h : Ws r P) (h1 : ∀ e h, P.nx e h → P'.nx e h) (h2 : ∀ d h, P.rt d h → P'.rt d h) (h3 : ∀ e h, P.bk e h → P'.bk e h) (h4 : ∀ e h, P.ct e h → P'.ct e h) (h5 : ∀ c fs e h, P.ex c fs e h → P'.ex c fs e h) : Ws r P' := by
  with_unfolding_all
  cases r with
  | nx e h' => exact h1 _ _ h
  | ret d h' => exact h2 _ _ h
  | brk e h' => exact h3 _ _ h
  | cnt e h' => exact h4 _ _ h
  | exc c fs e h' => exact h5 _ _ _ _ h
  | bad => exact h
theorem ws_seq {f g : FS} (h : Ws (f e hs) (P.wnx fun e' h' => Ws (g e' h') P)) : Ws (sSeq f g e hs) P := by
  with_unfolding_all
  unfold sSeq
  cases q : f e hs <;> rw [q] at h <;> exact h
theorem ws_bind {f : Ev → Hs → R a} {k : a → FS} (h : Wp (f e hs) (fun x h => Ws (k x e h) P) (fun c fs h => P.ex c fs e h)) : Ws (sBind f k e hs) P := by
  with_unfolding_all
  unfold sBind
  cases q : f e hs <;> rw [q] at h <;> exact h
theorem ws_drop {f : FE} (h : Wp (f e hs) (fun _ h => P.nx e h) (fun c fs h => P.ex c fs e h)) : Ws (sDrop f e hs) P := by with_unfolding_all exact ws_bind h
theorem ws_ret {f : FE} (h : Wp (f e hs) (fun d h => P.rt d h) (fun c fs h => P.ex c fs e h)) : Ws (sRet f e hs) P := by with_unfolding_all exact ws_bind h
theorem ws_retN (h : P.rt .non hs) : Ws (sRetN e hs) P := by with_unfolding_all exact h
theorem ws_set {i : Nat} {f : FE} (h : Wp (f e hs) (fun d h => P.nx (e.set i (some d)) h) (fun c fs h => P.ex c fs e h)) : Ws (sSet i f e hs) P := by with_unfolding_all exact ws_bind h
theorem ws_setC {i : Nat} {f : FL} (h : Wp (f e hs) (fun ds h => P.nx (e.set i (some (.lst ds))) h) (fun c fs h => P.ex c fs e h)) : Ws (sSetC i false f e hs) P := by with_unfolding_all exact ws_set (wp_ev h)
theorem ws_setCM {i : Nat} {f : FL} (h : Wp (f e hs) (fun ds h => P.nx (e.set i (some (.ref h.length))) (h ++ [.lst ds])) (fun c fs h => P.ex c fs e h)) : Ws (sSetC i true f e hs) P := by with_unfolding_all exact ws_set (wp_em h)
theorem ws_if {t : FT} {f g : FS} (h : Wp (t e hs) (fun c h => (c = true → Ws (f e h) P) ∧ (c = false → Ws (g e h) P)) (fun c fs h => P.ex c fs e h)) : Ws (sIf t f g e hs) P := by
  with_unfolding_all
  refine ws_bind (wp_mono h (fun c h' q => ?_) fun _ _ _ x => x)
  cases c with
  | true => exact q.1 rfl
  | false => exact q.2 rfl
theorem ws_asg {g : FG} {f : FE} (h : Wp (f e hs) (fun d h => ∃ e', g d e = some e' ∧ P.nx e' h) (fun c fs h => P.ex c fs e h)) : Ws (sAsg g f e hs) P := by
  with_unfolding_all
  refine ws_bind (wp_mono h (fun d h' q => ?_) fun _ _ _ x => x)
  obtain ⟨e', h1, h2⟩ := q
  rw [h1]; exact h2
theorem ws_par {i j : Nat} {f : FA} (h : Wp (f e hs) (fun ds h => ∃ d1 d2, ds = [d1, d2] ∧ P.nx ((e.set i (some d1)).set j (some d2)) h) (fun c fs h => P.ex c fs e h)) : Ws (sPar i j f e hs) P := by
  with_unfolding_all
  refine ws_bind (wp_mono h (fun d h' q => ?_) fun _ _ _ x => x)
  obtain ⟨d1, d2, rfl, h2⟩ := q
  exact h2
theorem ws_sub {g : Hs → D → D → D → Option Hs} {fv fo fi : FE} (h : Wp (fv e hs) (fun v h => Wp (fo e h) (fun o h => Wp (fi e h) (fun i h => ∃ h', g h o i v = some h' ∧ P.nx e h') (fun c fs h => P.ex c fs e h)) (fun c fs h => P.ex c fs e h)) (fun c fs h => P.ex c fs e h)) : Ws (sSub g fv fo fi e hs) P := by
  with_unfolding_all
  refine ws_bind (wp_mono h (fun v h' q => ws_bind (wp_mono q (fun o h' q => ws_bind (wp_mono q (fun i h' q => ?_) fun _ _ _ x => x)) fun _ _ _ x => x)) fun _ _ _ x => x)
  obtain ⟨h2, h3, h4⟩ := q
  rw [h3]; exact h4
theorem ws_aug {i : Nat} {g : Hs → D → D → Option D} {f : FE} {x : D} (hx : e[i]? = some (some x)) (h : Wp (f e hs) (fun y h => ∃ z, g h x y = some z ∧ P.nx (e.set i (some z)) h) (fun c fs h => P.ex c fs e h)) : Ws (sAug i g f e hs) P := by
  with_unfolding_all
  unfold sAug
  rw [hx]
  refine ws_bind (wp_mono h (fun d h' q => ?_) fun _ _ _ x => x)
  obtain ⟨e', h1, h2⟩ := q
  rw [h1]; exact h2
/-- loops -/
theorem ws_forF {nx : Nx} {g : FG} {body : FS} {n : Nat} (I : Nat → Ev → Hs → Prop)
    (step : ∀ i e hs, i < n → I i e hs → ∃ d e', nx hs i = some (some d) ∧ g d e = some e' ∧ Ws (body e' hs) (P.lp (I (i + 1))))
    (stop : ∀ e hs, I n e hs → nx hs n = some none ∧ P.nx e hs) : ∀ (k i : Nat) (e : Ev) (hs : Hs), n - i ≤ k → i ≤ n → I i e hs → Ws (forF nx g body k i e hs) P
  | k, i, e, hs, hk, hi, h => by
    with_unfolding_all
    by_cases hlt : i < n
    · obtain ⟨d, e', h1, h2, h3⟩ := step i e hs hlt h
      cases k with
      | zero => omega
      | succ k =>
        unfold forF
        rw [h1]
        dsimp only
        rw [h2]
        dsimp only
        cases q : body e' hs with
        | nx e2 hs2 => rw [q] at h3; exact ws_forF I step stop k (i + 1) e2 hs2 (by omega) (by omega) h3
        | cnt e2 hs2 => rw [q] at h3; exact ws_forF I step stop k (i + 1) e2 hs2 (by omega) (by omega) h3
        | brk e2 hs2 => rw [q] at h3; exact h3
        | ret d hs2 => rw [q] at h3; exact h3
        | exc c fs e2 hs2 => rw [q] at h3; exact h3
        | bad => rw [q] at h3; exact h3
    · have e1 : i = n := by omega
      subst e1
      obtain ⟨s1, s2⟩ := stop e hs h
      cases k <;> (unfold forF; rw [s1]; exact s2)
theorem ws_for {f : FI} {g : FG} {body : FS} (h : Wp (f e hs) (fun nx h => ∃ (n : Nat) (I : Nat → Ev → Hs → Prop), n ≤ 100000 ∧ I 0 e h ∧
    (∀ i e hs, i < n → I i e hs → ∃ d e', nx hs i = some (some d) ∧ g d e = some e' ∧ Ws (body e' hs) (P.lp (I (i + 1)))) ∧
    (∀ e hs, I n e hs → nx hs n = some none ∧ P.nx e hs)) (fun c fs h => P.ex c fs e h)) : Ws (sFor f g body e hs) P := by
  with_unfolding_all
  refine ws_bind (wp_mono h (fun nx h' q => ?_) fun _ _ _ x => x)
  obtain ⟨n, I, hn, h0, hs, hd⟩ := q
  exact ws_forF I hs hd fuel 0 e h' (by unfold fuel; omega) (Nat.zero_le _) h0
/-- a while, by what falls -/
theorem ws_whileF {t : FT} {body : FS} (I : Nat → Ev → Hs → Prop)
    (step : ∀ m e hs, I m e hs → Wp (t e hs) (fun c h => (c = true → Ws (body e h) (P.lp fun e h => ∃ m', m' < m ∧ I m' e h)) ∧ (c = false → P.nx e h)) (fun c fs h => P.ex c fs e h)) :
    ∀ (k m : Nat) (e : Ev) (hs : Hs), m < k → I m e hs → Ws (whileF t body k e hs) P
  | 0, m, e, hs, hk, _ => by omega
  | k + 1, m, e, hs, hk, h => by
    with_unfolding_all
    have s := by with_unfolding_all exact step m e hs h
    unfold whileF
    cases q : t e hs with
    | bad => rw [q] at s; exact s
    | exc c fs h' => rw [q] at s; exact s
    | ok c h1 =>
      rw [q] at s
      dsimp only
      cases c with
      | false => rw [if_neg Bool.false_ne_true]; exact s.2 rfl
      | true =>
        rw [if_pos rfl]
        have s2 := s.1 rfl
        cases q2 : body e h1 with
        | nx e2 hs2 => rw [q2] at s2; unfold Ws at s2; obtain ⟨m', h1, h2⟩ := s2; exact ws_whileF I step k m' e2 hs2 (by omega) h2
        | cnt e2 hs2 => rw [q2] at s2; unfold Ws at s2; obtain ⟨m', h1, h2⟩ := s2; exact ws_whileF I step k m' e2 hs2 (by omega) h2
        | brk e2 hs2 => rw [q2] at s2; exact s2
        | ret d hs2 => rw [q2] at s2; exact s2
        | exc c fs e2 hs2 => rw [q2] at s2; exact s2
        | bad => rw [q2] at s2; exact s2
theorem ws_while {t : FT} {body : FS} (m : Nat) (I : Nat → Ev → Hs → Prop) (hm : m < 100000) (h0 : I m e hs)
    (step : ∀ m e hs, I m e hs → Wp (t e hs) (fun c h => (c = true → Ws (body e h) (P.lp fun e h => ∃ m', m' < m ∧ I m' e h)) ∧ (c = false → P.nx e h)) (fun c fs h => P.ex c fs e h)) : Ws (sWhile t body e hs) P := by with_unfolding_all exact ws_whileF I step fuel m e hs hm h0
/-- a comprehension -/
theorem wp_compF {nx : Nx} {g : FG} {t : FT} {el : FE} {e : Ev} {n : Nat} {Q : List D → Hs → Prop} (I : Nat → List D → Hs → Prop)
    (step : ∀ i acc hs, i < n → I i acc hs → ∃ d e', nx hs i = some (some d) ∧ g d e = some e' ∧ Wp (t e' hs) (fun c h => (c = true → acc.length < sizeLine ∧ Wp (el e' h) (fun y h => I (i + 1) (acc ++ [y]) h) nX) ∧ (c = false → I (i + 1) acc h)) nX)
    (stop : ∀ acc hs, I n acc hs → nx hs n = some none ∧ Q acc hs) : ∀ (k i : Nat) (acc : List D) (hs : Hs), n - i ≤ k → i ≤ n → I i acc hs → Wp (compF nx g t el e k i acc hs) Q X
  | k, i, acc, hs, hk, hi, h => by
    with_unfolding_all
    by_cases hlt : i < n
    · obtain ⟨d, e', h1, h2, h3⟩ := step i acc hs hlt h
      cases k with
      | zero => omega
      | succ k =>
        unfold compF
        rw [h1]
        dsimp only
        rw [h2]
        dsimp only
        cases q : t e' hs with
        | bad => rw [q] at h3; exact h3
        | exc c fs h' => rw [q] at h3; exact h3.elim
        | ok c hs2 =>
          rw [q] at h3
          dsimp only
          cases c with
          | false => rw [if_neg Bool.false_ne_true]; exact wp_compF I step stop k (i + 1) acc hs2 (by omega) (by omega) (h3.2 rfl)
          | true =>
            rw [if_pos rfl]
            obtain ⟨hz, h4⟩ := h3.1 rfl
            cases q2 : el e' hs2 with
            | bad => rw [q2] at h4; exact h4
            | exc c fs h' => rw [q2] at h4; exact h4.elim
            | ok y hs3 =>
              rw [q2] at h4
              dsimp only
              rw [if_pos hz]
              exact wp_compF I step stop k (i + 1) (acc ++ [y]) hs3 (by omega) (by omega) h4
    · have e1 : i = n := by omega
      subst e1
      obtain ⟨s1, s2⟩ := stop acc hs h
      cases k <;> (unfold compF; rw [s1]; exact s2)
theorem wp_comp {f : FI} {g : FG} {t : FT} {el : FE} {vs : List Nat} {Q : List D → Hs → Prop} (h : Wp (f e hs) (fun nx h => ∃ (n : Nat) (I : Nat → List D → Hs → Prop), n ≤ 100000 ∧ I 0 [] h ∧
    (∀ i acc hs, i < n → I i acc hs → ∃ d e', nx hs i = some (some d) ∧ g d (wipeE e vs) = some e' ∧ Wp (t e' hs) (fun c h => (c = true → acc.length < sizeLine ∧ Wp (el e' h) (fun y h => I (i + 1) (acc ++ [y]) h) nX) ∧ (c = false → I (i + 1) acc h)) nX) ∧
    (∀ acc hs, I n acc hs → nx hs n = some none ∧ Q acc hs)) X) : Wp (lComp f g t el vs e hs) Q X := by
  with_unfolding_all
  refine wp_bind (wp_mono h (fun nx h' q => ?_) fun _ _ _ x => x)
  obtain ⟨n, I, hn, h0, hs, hd⟩ := q
  exact wp_compF I hs hd fuel 0 [] h' (by unfold fuel; omega) (Nat.zero_le _) h0
/-- a comprehension that maps, the heap as it is -/
theorem wp_cmap {f : FI} {g : FG} {el : FE} {vs : List Nat} {Q : List D → Hs → Prop} (F : D → D) (h : Wp (f e hs) (fun nx h => ∃ ds, nx = nxL ds ∧ ds.length ≤ 100000 ∧ (∀ d ∈ ds, ∃ e', g d (wipeE e vs) = some e' ∧ Wp (el e' h) (fun y h' => y = F d ∧ h' = h) nX) ∧ Q (ds.map F) h) X) : Wp (lComp f g tYesF el vs e hs) Q X := by
  with_unfolding_all
  refine wp_comp (wp_mono h (fun nx h' q => ?_) fun _ _ _ x => x)
  obtain ⟨ds, rfl, hl, hd, q⟩ := q
  refine ⟨ds.length, fun i acc h => h = h' ∧ acc = (ds.take i).map F, hl, ⟨rfl, rfl⟩, fun i acc h hi ⟨e1, e2⟩ => ?_, fun acc h ⟨e1, e2⟩ => ?_⟩
  · subst e1 e2
    obtain ⟨e', h1, h2⟩ := hd ds[i] (List.getElem_mem hi)
    refine ⟨ds[i], e', by unfold nxL; rw [List.getElem?_eq_getElem hi], h1, wp_yes ⟨fun _ => ⟨?_, wp_mono h2 (fun y h3 ⟨e1, e2⟩ => ⟨e2, ?_⟩) fun _ _ _ x => x⟩, fun z => by cases z⟩⟩
    · rw [List.length_map, List.length_take]
      have : sizeLine = 16777216 := sizeLine_eq
      omega
    · rw [e1, List.take_add_one, List.getElem?_eq_getElem hi, List.map_append]
      rfl
  · subst e1 e2
    exact ⟨by unfold nxL; rw [List.getElem?_eq_none (Nat.le_refl _)], by rw [List.take_length]; exact q⟩
/-- what is walked -/
theorem wp_r1 {f : FA} {Q : Nx → Hs → Prop} (h : Wp (f e hs) (fun ds h => ∃ j, ds = [.int j] ∧ okR j = true ∧ Q (nxN 0 j.toNat) h) X) : Wp (iR1 f e hs) Q X := by
  with_unfolding_all
  refine wp_bind (wp_mono h (fun d h' q => ?_) fun _ _ _ x => x)
  obtain ⟨j, rfl, h1, h2⟩ := q
  dsimp only
  rw [if_pos h1]; exact h2
theorem wp_r2 {f : FA} {Q : Nx → Hs → Prop} (h : Wp (f e hs) (fun ds h => ∃ i j, ds = [.int i, .int j] ∧ okR i = true ∧ okR j = true ∧ Q (nxN i (j - i).toNat) h) X) : Wp (iR2 f e hs) Q X := by
  with_unfolding_all
  refine wp_bind (wp_mono h (fun d h' q => ?_) fun _ _ _ x => x)
  obtain ⟨i, j, rfl, h1, h2, h3⟩ := q
  dsimp only
  rw [if_pos (by rw [h1, h2]; rfl)]; exact h3
def itOf (h : Hs) (d : D) : Option Nx := match d with
  | .tup ds => some (nxL ds)
  | .ctp ds => some (nxL ds)
  | .lst ds => some (nxL ds)
  | .scr ds => some (nxL ds)
  | .ref n => (match h[n]? with | some (.lst _) => some (nxR n) | _ => none)
  | .str x => some (nxL (signs x))
  | _ => none
theorem wp_any {f : FE} {Q : Nx → Hs → Prop} (h : Wp (f e hs) (fun d h => ∃ nx, itOf h d = some nx ∧ Q nx h) X) : Wp (iAny f e hs) Q X := by
  with_unfolding_all
  unfold iAny
  cases q : f e hs with
  | bad => rw [q] at h; exact h
  | exc c fs h' => rw [q] at h; exact h
  | ok d h' =>
    rw [q] at h; unfold Wp at h
    obtain ⟨nx, h1, h2⟩ := h
    unfold itOf at h1
    cases d with
    | ref n =>
      dsimp only at h1 ⊢
      split at h1
      · rename_i ds hd; cases h1; first | exact h2 | (rw [hd]; exact h2)
      · cases h1
    | _ => first | (cases h1; exact h2) | cases h1
end

/-! ### what is new forgotten -/
theorem wp_gcR {hs : Hs} {r : R D} {Q : D → Hs → Prop} {X : XQ} (h : Wp r (fun d h1 => ∃ d', dW (dH h1 hs.length 50) d = some d' ∧ Cls hs h1 ∧ Q d' (h1.take hs.length))
    (fun c fs h1 => ∃ ds, dWs (dH h1 hs.length 50) (fs.map (·.2)) = some ds ∧ Cls hs h1 ∧ X c ((fs.map (·.1)).zip ds) (h1.take hs.length))) : Wp (gcR hs r) Q X := by
  with_unfolding_all
  unfold Wp at h
  cases r with
  | bad => exact h.elim
  | ok d h1 =>
    obtain ⟨d', e1, e2, q⟩ := h
    unfold gcR
    dsimp only
    rw [e1]
    dsimp only
    rw [if_pos e2]
    exact q
  | exc c fs h1 =>
    obtain ⟨d', e1, e2, q⟩ := h
    unfold gcR
    dsimp only
    rw [e1]
    dsimp only
    rw [if_pos e2]
    exact q
theorem wp_gcF {fn : List D → Hs → R D} {ds : List D} {hs : Hs} {Q : D → Hs → Prop} {X : XQ} (h : Wp (fn ds hs) (fun d h1 => ∃ d', dW (dH h1 hs.length 50) d = some d' ∧ Cls hs h1 ∧ Q d' (h1.take hs.length))
    (fun c fs h1 => ∃ ds, dWs (dH h1 hs.length 50) (fs.map (·.2)) = some ds ∧ Cls hs h1 ∧ X c ((fs.map (·.1)).zip ds) (h1.take hs.length))) : Wp (gcF fn ds hs) Q X := wp_gcR h
mutual
/-- no numbers in it -/
def val : D → Bool
  | .ref _ => false
  | .tup ds => vals ds
  | .lst ds => vals ds
  | .scr ds => vals ds
  | .ctp ds => vals ds
  | .dct _ ds => vals ds
  | .dtp _ ds => vals ds
  | .ins _ _ ds => vals ds
  | .exn _ _ ds => vals ds
  | _ => true
def vals : List D → Bool
  | [] => true
  | d :: ds => val d && vals ds
end
mutual
theorem dW_val {r : Nat → Option D} : ∀ {d : D}, val d = true → dW r d = some d
  | .non, _ => rfl
  | .bl _, _ => rfl
  | .int _, _ => rfl
  | .str _, _ => rfl
  | .ty _, _ => rfl
  | .glb _, _ => rfl
  | .ref _, h => nomatch h
  | .tup ds, h => by show (dWs r ds).map D.tup = _; rw [dWs_val (ds := ds) h]; rfl
  | .lst ds, h => by show (dWs r ds).map D.lst = _; rw [dWs_val (ds := ds) h]; rfl
  | .scr ds, h => by show (dWs r ds).map D.scr = _; rw [dWs_val (ds := ds) h]; rfl
  | .ctp ds, h => by show (dWs r ds).map D.ctp = _; rw [dWs_val (ds := ds) h]; rfl
  | .dct ks ds, h => by show (dWs r ds).map (D.dct ks) = _; rw [dWs_val (ds := ds) h]; rfl
  | .dtp ks ds, h => by show (dWs r ds).map (D.dtp ks) = _; rw [dWs_val (ds := ds) h]; rfl
  | .ins c ks ds, h => by show (dWs r ds).map (D.ins c ks) = _; rw [dWs_val (ds := ds) h]; rfl
  | .exn c ks ds, h => by show (dWs r ds).map (D.exn c ks) = _; rw [dWs_val (ds := ds) h]; rfl
theorem dWs_val {r : Nat → Option D} : ∀ {ds : List D}, vals ds = true → dWs r ds = some ds
  | [], _ => rfl
  | d :: ds, h => by
    have h := (Bool.and_eq_true _ _).mp (show (val d && vals ds) = true from h)
    show (match dW r d with | some p => (match dWs r ds with | some ps => some (p :: ps) | none => none) | none => none) = _
    rw [dW_val h.1, dWs_val h.2]
end
theorem vals_all : ∀ {ds : List D}, (∀ x ∈ ds, val x = true) → vals ds = true
  | [], _ => rfl
  | d :: ds, h => (Bool.and_eq_true _ _).mpr ⟨h d List.mem_cons_self, vals_all fun x hx => h x (List.mem_cons_of_mem _ hx)⟩
theorem vals_mem : ∀ {ds : List D}, vals ds = true → ∀ x ∈ ds, val x = true
  | d :: ds, h, x, hx => by
    have h := (Bool.and_eq_true _ _).mp (show (val d && vals ds) = true from h)
    rcases List.mem_cons.mp hx with rfl | hx
    · exact h.1
    · exact vals_mem h.2 x hx
theorem dH_lst {hs : Hs} {n m k : Nat} {ds : List D} (h : hs[m]? = some (.lst ds)) (l : n ≤ m) (v : vals ds = true) : dH hs n (k + 1) m = some (.lst ds) := by
  unfold dH
  rw [if_neg (by omega), h]
  show (dWs _ ds).map D.lst = _
  rw [dWs_val v]; rfl
theorem dH_dk {hs : Hs} {n m k : Nat} {kvs : List (Key × D)} (h : hs[m]? = some (.dk kvs)) (l : n ≤ m) (v : vals (kvs.map (·.2)) = true) : dH hs n (k + 1) m = some (.dct (kvs.map (·.1)) (kvs.map (·.2))) := by
  unfold dH
  rw [if_neg (by omega), h]
  show (dWs _ (kvs.map (·.2))).map (D.dct _) = _
  rw [dWs_val v]; rfl
theorem dH_dt {hs : Hs} {n m k : Nat} {kvs : List (List Key × D)} (h : hs[m]? = some (.dt kvs)) (l : n ≤ m) (v : vals (kvs.map (·.2)) = true) : dH hs n (k + 1) m = some (.dtp (kvs.map (·.1)) (kvs.map (·.2))) := by
  unfold dH
  rw [if_neg (by omega), h]
  show (dWs _ (kvs.map (·.2))).map (D.dtp _) = _
  rw [dWs_val v]; rfl
theorem dH_ins {hs : Hs} {n m k : Nat} {c : Str} {kvs : List (Str × D)} (h : hs[m]? = some (.ins c kvs)) (l : n ≤ m) (v : vals (kvs.map (·.2)) = true) : dH hs n (k + 1) m = some (.ins c (kvs.map (·.1)) (kvs.map (·.2))) := by
  unfold dH
  rw [if_neg (by omega), h]
  show (dWs _ (kvs.map (·.2))).map (D.ins c _) = _
  rw [dWs_val v]; rfl
end G

/-! # G12: the deck that all laws draw from -/
namespace G
open PySem PySem.Spec PyProof.Rows L2

theorem ix_ref {h : Hs} {n : Nat} {ds : List D} {i : Int} {d : D} (e : h[n]? = some (.lst ds)) (q : atI ds i = some d) : gIx h (.ref n) (.int i) = some d := by
  unfold gIx
  show (match seqOf h (.ref n) with | some ds => atI ds i | none => none) = some d
  have : seqOf h (.ref n) = some ds := by unfold seqOf rdOf lstOf; dsimp only; rw [e]
  rw [this]; exact q
theorem ix_lst {h : Hs} {ds : List D} {i : Int} {d : D} (q : atI ds i = some d) : gIx h (.lst ds) (.int i) = some d := q
theorem ix_tup {h : Hs} {ds : List D} {i : Int} {d : D} (q : atI ds i = some d) : gIx h (.tup ds) (.int i) = some d := q
theorem set_ref {h : Hs} {n : Nat} {ds : List D} {i : Int} {j : Nat} {v : D} (e : h[n]? = some (.lst ds)) (q : ixN ds.length i = some j) : mSetL h (.ref n) (.int i) v = some (h.set n (.lst (ds.set j v))) := by
  unfold mSetL refOf
  dsimp only
  rw [e]
  dsimp only
  rw [q]
theorem pop_ref {h : Hs} {n : Nat} {ds : List D} {d : D} (e : h[n]? = some (.lst ds)) (q : ds[ds.length - 1]? = some d) : mPop h (.ref n) [] = some (d, h.set n (.lst ds.dropLast)) := by
  unfold mPop refOf
  dsimp only
  rw [e]
  dsimp only
  rw [q]
theorem app_ref {h : Hs} {n : Nat} {ds : List D} {d : D} (e : h[n]? = some (.lst ds)) (q : ds.length < sizeLine) : mAppend h (.ref n) [d] = some (.non, h.set n (.lst (ds ++ [d]))) := by
  unfold mAppend refOf
  dsimp only
  rw [e]
  dsimp only
  rw [if_pos q]
theorem isL_ref {h : Hs} {n : Nat} {ds : List D} (e : h[n]? = some (.lst ds)) : isL h (.ref n) = true := by
  unfold isL lstOf
  dsimp only
  rw [e]; rfl
theorem mod_int {h : Hs} {i j : Int} (q : 0 < j) : gMod h (.int i) (.int j) = some (.int (i % j)) := by unfold gMod; exact if_pos q
theorem div_int {h : Hs} {i j : Int} (q : 0 < j) (q2 : j < 1073741824) : gDiv h (.int i) (.int j) = some (.int (i / j)) := by unfold gDiv; exact if_pos ⟨q, q2⟩
theorem mul_int {h : Hs} {i j : Int} (q : (small64 i || small64 j) = true) : gMul h (.int i) (.int j) = some (.int (i * j)) := by unfold gMul; exact if_pos q
theorem small_of {i : Int} (a : 0 ≤ i) (b : i < 4294967296) : small64 i = true := by
  unfold small64
  rw [decide_eq_true (by omega), decide_eq_true (by omega)]; rfl
theorem pow18 {h : Hs} : gPow h (.int 10) (.int 18) = some (.int 1000000000000000000) := rfl
theorem pow6 {h : Hs} : gPow h (.int 10) (.int 6) = some (.int 1000000) := rfl

local macro_rules | `(tactic| walk_at "s1") => `(tactic| first
  | ((with_reducible apply wp_name); (case q => rfl))
  | with_reducible refine wp_c ?_
  | with_reducible refine wp_bin ?_
  | with_reducible refine wp_acons ?_
  | with_reducible refine wp_anil ?_
  | with_reducible refine wp_call ?_
  | with_reducible refine wp_fn ?_
  | with_reducible refine wp_fnK ?_
  | with_reducible refine wp_ev ?_
  | with_reducible refine wp_em ?_
  | with_reducible refine wp_tup ?_
  | with_reducible refine wp_eb ?_
  | with_reducible refine wp_et ?_
  | with_reducible refine wp_un ?_
  | with_reducible refine wp_chain ?_
  | with_reducible refine wp_and ?_
  | with_reducible refine wp_or ?_
  | with_reducible refine wp_not ?_
  | with_reducible refine wp_andF ?_
  | with_reducible refine wp_orF ?_
  | with_reducible refine wp_notF ?_
  | with_reducible refine wp_yes ?_
  | with_reducible refine wp_if ?_
  | with_reducible refine wp_sl ?_
  | with_reducible refine wp_onone ?_
  | with_reducible refine wp_osome ?_
  | with_reducible refine wp_rev ?_
  | with_reducible refine wp_list ?_
  | with_reducible refine wp_mt ?_
  | with_reducible refine wp_any ?_
  | with_reducible refine wp_r1 ?_
  | with_reducible refine wp_r2 ?_
  | with_reducible refine ws_seq ?_
  | with_reducible refine ws_set ?_
  | with_reducible refine ws_setC ?_
  | with_reducible refine ws_setCM ?_
  | with_reducible refine ws_if ?_
  | with_reducible refine ws_ret ?_
  | with_reducible refine ws_retN ?_
  | with_reducible refine ws_drop ?_
  | with_reducible refine ws_skip ?_
  | with_reducible refine ws_asg ?_
  | with_reducible refine ws_par ?_
  | with_reducible refine ws_sub ?_
  | with_reducible refine wp_body ?_)
local macro_rules | `(tactic| walk_at "s") => `(tactic| repeat (walk_at "s1"))

/-- the deck at a, its cells at b -/
structure Deck (a b : Nat) (hs : Hs) : Prop where
  ne : a ≠ b
  at_ : ∃ s c : Int, hs[a]? = some (.lst [.ref b, .int s, .int c])
  cells : ∃ ns : List Int, ns.length ≤ 100 ∧ hs[b]? = some (.lst (ns.map .int))
def Two (a b : Nat) : Nat → Prop := fun n => n = a ∨ n = b
theorem Deck.frm {a b : Nat} {hs hs' : Hs} {S : Nat → Prop} (h : Deck a b hs) (f : Frm S hs hs') (ha : ¬ S a) (hb : ¬ S b) : Deck a b hs' := by
  obtain ⟨ne, ⟨s, c, h1⟩, ⟨ns, hl, h2⟩⟩ := h
  exact ⟨ne, ⟨s, c, f.get h1 ha⟩, ⟨ns, hl, f.get h2 hb⟩⟩
theorem Deck.app {a b : Nat} {hs : Hs} {o : O} (h : Deck a b hs) : Deck a b (hs ++ [o]) := by
  obtain ⟨ne, ⟨s, c, h1⟩, ⟨ns, hl, h2⟩⟩ := h
  exact ⟨ne, ⟨s, c, get_app h1⟩, ⟨ns, hl, get_app h2⟩⟩
theorem Deck.lt {a b : Nat} {hs : Hs} (h : Deck a b hs) : a < hs.length ∧ b < hs.length := by
  obtain ⟨ne, ⟨s, c, h1⟩, ⟨ns, hl, h2⟩⟩ := h
  exact ⟨lt_of_get h1, lt_of_get h2⟩
theorem pdWs_ints {r : Nat → Option PyData} : ∀ ns : List Int, pdWs r (ns.map D.int) = some (ns.map PyData.int)
  | [] => rfl
  | n :: ns => by
    show (match pdW r (.int n) with | some p => (match pdWs r (ns.map D.int) with | some ps => some (p :: ps) | none => none) | none => none) = _
    rw [pdWs_ints ns]; rfl
theorem shaped_ints (ns : List Int) : SeqAt.shaped (.list (ns.map PyData.int)) = true := by
  unfold SeqAt.shaped
  have h1 : ∀ ns : List Int, PyData.canLayAll0 (ns.map PyData.int) = true := fun ns => by
    induction ns with
    | nil => rfl
    | cons n ns ih => show (PyData.canLay0 (.int n) && PyData.canLayAll0 (ns.map PyData.int)) = true; rw [ih]; rfl
  have h2 : ∀ ns : List Int, PyData.depthAll (ns.map PyData.int) = 0 := fun ns => by
    induction ns with
    | nil => rfl
    | cons n ns ih => show max (PyData.depth (.int n)) (PyData.depthAll (ns.map PyData.int)) = 0; rw [ih]; rfl
  show (PyData.canLayAll0 (ns.map PyData.int) && decide (PyData.depthAll (ns.map PyData.int) + 1 ≤ 64)) = true
  rw [h1, h2]; rfl
theorem gEqB_cells {hs : Hs} {b : Nat} {ns : List Int} (h : hs[b]? = some (.lst (ns.map .int))) : gEqB hs (.ref b) (.lst []) = some ns.isEmpty := by
  have e : pd hs (.ref b) = some (.list (ns.map PyData.int)) := by
    show pdH hs 40 b = _
    unfold pdH
    rw [h]
    dsimp only
    rw [pdWs_ints]; rfl
  show gEqD hs (.ref b) (.lst []) = _
  unfold gEqD
  rw [e]
  show (if (SeqAt.shaped (.list (ns.map PyData.int)) && SeqAt.shaped (.list [])) = true then _ else none) = _
  rw [shaped_ints ns]
  cases ns <;> rfl
theorem ne_cells {hs : Hs} {b : Nat} {ns : List Int} (h : hs[b]? = some (.lst (ns.map .int))) : gNe hs (.ref b) (.lst []) = some (.bl (!ns.isEmpty)) := by unfold gNe; rw [gEqB_cells h]; rfl

/-- the drawing's function, as it stands in every law -/
def f_draw : FS := (sSeq (sSub mSetL (eBin gAdd (eBin gIx (eName 0) (eC (.int 2))) (eC (.int 1))) (eName 0) (eC (.int 2)))
  (sSeq (sSet 2 (eBin gIx (eName 0) (eC (.int 1))))
  (sSeq (sIf (eB (eBin gNe (eBin gIx (eName 0) (eC (.int 0))) (eV aNil))) (sSeq (sSet 2 (eMt isL mPop (eBin gIx (eName 0) (eC (.int 0))) aNil))
  (sIf (eB (eBin gGe (eName 2) (eBin gPow (eC (.int 10)) (eC (.int 18))))) (sSeq (sDrop (eMt isL mAppend (eBin gIx (eName 0) (eC (.int 0))) (aCons (eBin gDiv (eName 2) (eName 1)) aNil)))
  (sRet (eBin gMod (eName 2) (eName 1)))) sSkip)) sSkip)
  (sSeq (sSet 3 (eBin gMod (eBin gMul (eBin gAdd (eBin gAdd (eBin gMod (eName 2) (eC (.int 2147483629))) (eBin gMul (eC (.int 65537)) (eBin gIx (eName 0) (eC (.int 2))))) (eC (.int 3))) (eC (.int 48271))) (eC (.int 2147483647))))
  (sSeq (sSet 3 (eBin gMod (eBin gAdd (eBin gAdd (eBin gMul (eName 3) (eName 3)) (eBin gMul (eC (.int 69621)) (eBin gIx (eName 0) (eC (.int 2))))) (eC (.int 17))) (eC (.int 2147483587))))
  (sRet (eBin gMod (eBin gDiv (eBin gMod (eBin gAdd (eBin gMul (eName 3) (eName 3)) (eC (.int 39373))) (eC (.int 2147483563))) (eC (.int 64))) (eName 1))))))))
def c_draw : List D → Hs → R D := fnBody 4 f_draw
def Drawn (a b : Nat) (m : Int) (hs : Hs) (d : D) (hs' : Hs) : Prop := ∃ r : Int, d = .int r ∧ 0 ≤ r ∧ r < m ∧ Deck a b hs' ∧ Frm (Two a b) hs hs' ∧ hs'.length = hs.length
theorem draw_tail {a b : Nat} {hs h : Hs} {m s c cell : Int} {ns : List Int} (ne : a ≠ b) (ha : h[a]? = some (.lst [.ref b, .int s, .int c])) (hl : ns.length ≤ 100) (hb : h[b]? = some (.lst (ns.map .int))) (h0 : 0 < m) (fr : Frm (Two a b) hs h) (ln : h.length = hs.length) :
    Ws ((sSeq (sSet 3 (eBin gMod (eBin gMul (eBin gAdd (eBin gAdd (eBin gMod (eName 2) (eC (.int 2147483629))) (eBin gMul (eC (.int 65537)) (eBin gIx (eName 0) (eC (.int 2))))) (eC (.int 3))) (eC (.int 48271))) (eC (.int 2147483647))))
  (sSeq (sSet 3 (eBin gMod (eBin gAdd (eBin gAdd (eBin gMul (eName 3) (eName 3)) (eBin gMul (eC (.int 69621)) (eBin gIx (eName 0) (eC (.int 2))))) (eC (.int 17))) (eC (.int 2147483587))))
  (sRet (eBin gMod (eBin gDiv (eBin gMod (eBin gAdd (eBin gMul (eName 3) (eName 3)) (eC (.int 39373))) (eC (.int 2147483563))) (eC (.int 64))) (eName 1))))) [some (.ref a), some (.int m), some (.int cell), none] h)
      { nx := fun _ h => Drawn a b m hs .non h, rt := Drawn a b m hs } := by
  have gx : gIx h (.ref a) (.int 2) = some (.int c) := ix_ref ha rfl
  have b1 : ∀ x : Int, 0 ≤ x % 2147483647 ∧ x % 2147483647 < 2147483647 := fun x => ⟨Int.emod_nonneg _ (by decide), Int.emod_lt_of_pos _ (by decide)⟩
  have b2 : ∀ x : Int, 0 ≤ x % 2147483587 ∧ x % 2147483587 < 2147483587 := fun x => ⟨Int.emod_nonneg _ (by decide), Int.emod_lt_of_pos _ (by decide)⟩
  have q1 : small64 65537 = true := by decide
  have q2 : small64 69621 = true := by decide
  have q3 : small64 48271 = true := by decide
  walk_at "s"
  refine wp_some (mod_int (by decide)) ?_
  walk_at "s"
  refine wp_some gx ?_
  refine wp_some (mul_int (by rw [q1]; rfl)) ?_
  refine wp_some rfl ?_
  walk_at "s"
  refine wp_some rfl ?_
  walk_at "s"
  refine wp_some (mul_int (by rw [q3, Bool.or_true])) ?_
  walk_at "s"
  refine wp_some (mod_int (by decide)) ?_
  generalize hx : (cell % 2147483629 + 65537 * c + 3) * 48271 % 2147483647 = x
  have hx' := b1 ((cell % 2147483629 + 65537 * c + 3) * 48271)
  rw [hx] at hx'
  have sx : small64 x = true := small_of hx'.1 (by omega)
  show Ws (sSeq _ _ [some (.ref a), some (.int m), some (.int cell), some (.int x)] h) _
  walk_at "s"
  refine wp_some (mul_int (by rw [sx]; rfl)) ?_
  walk_at "s"
  refine wp_some gx ?_
  refine wp_some (mul_int (by rw [q2]; rfl)) ?_
  refine wp_some rfl ?_
  walk_at "s"
  refine wp_some rfl ?_
  walk_at "s"
  refine wp_some (mod_int (by decide)) ?_
  generalize hy : (x * x + 69621 * c + 17) % 2147483587 = y
  have hy' := b2 (x * x + 69621 * c + 17)
  rw [hy] at hy'
  have sy : small64 y = true := small_of hy'.1 (by omega)
  show Ws (sRet _ [some (.ref a), some (.int m), some (.int cell), some (.int y)] h) _
  walk_at "s"
  refine wp_some (mul_int (by rw [sy]; rfl)) ?_
  walk_at "s"
  refine wp_some rfl ?_
  walk_at "s"
  refine wp_some (mod_int (by decide)) ?_
  walk_at "s"
  refine wp_some (div_int (by decide) (by decide)) ?_
  walk_at "s"
  refine wp_some (mod_int h0) ?_
  exact ⟨_, rfl, Int.emod_nonneg _ (by omega), Int.emod_lt_of_pos _ h0, ⟨ne, ⟨s, c, ha⟩, ⟨ns, hl, hb⟩⟩, fr, ln⟩
theorem draw_wp {a b : Nat} {hs : Hs} {m : Int} (h : Deck a b hs) (h0 : 0 < m) (h1 : m < 1073741824) : Wp (c_draw [.ref a, .int m] hs) (Drawn a b m hs) nX := by
  obtain ⟨ne, ⟨s, c, ha⟩, ⟨ns, hl, hb⟩⟩ := h
  unfold c_draw f_draw
  refine wp_bodyE [some (.ref a), some (.int m), none, none] rfl ?_
  walk_at "s"
  refine wp_some (ix_ref ha rfl) ?_
  walk_at "s"
  refine wp_some rfl ?_
  walk_at "s"
  refine ⟨_, set_ref ha rfl, ?_⟩
  have ha1 : (hs.set a (.lst [.ref b, .int s, .int (c + 1)]))[a]? = some (.lst [.ref b, .int s, .int (c + 1)]) := get_set_eq ha
  have hb1 : (hs.set a (.lst [.ref b, .int s, .int (c + 1)]))[b]? = some (.lst (ns.map .int)) := by rw [get_set_ne ne]; exact hb
  have f1 : Frm (Two a b) hs (hs.set a (.lst [.ref b, .int s, .int (c + 1)])) := .set (.inl rfl)
  have l1 : (hs.set a (.lst [.ref b, .int s, .int (c + 1)])).length = hs.length := List.length_set
  show Ws (sSeq _ _ _ (hs.set a (.lst [.ref b, .int s, .int (c + 1)]))) _
  generalize hs.set a (.lst [.ref b, .int s, .int (c + 1)]) = g at ha1 hb1 f1 l1 ⊢
  walk_at "s"
  refine wp_some (ix_ref ha1 rfl) ?_
  walk_at "s"
  refine wp_some (ix_ref ha1 rfl) ?_
  walk_at "s"
  refine wp_some (ne_cells hb1) ⟨_, rfl, fun hne => ?_, fun _ => ?_⟩
  · -- a cell is popped
    have hn : ns ≠ [] := by rintro rfl; cases hne
    obtain ⟨ini, z, rfl⟩ : ∃ ini z, ns = ini ++ [z] := ⟨ns.dropLast, ns.getLast hn, (List.dropLast_concat_getLast hn).symm⟩
    have hl' : ini.length ≤ 99 := by rw [List.length_append] at hl; simp at hl; omega
    walk_at "s"
    refine wp_some (ix_ref ha1 rfl) ⟨isL_ref hb1, wp_anil ?_⟩
    have hp : (List.map D.int (ini ++ [z]))[(List.map D.int (ini ++ [z])).length - 1]? = some (.int z) := by simp
    refine wp_someP (pop_ref hb1 hp) ?_
    have hd : (List.map D.int (ini ++ [z])).dropLast = ini.map D.int := by simp
    rw [hd]
    have ha2 : (g.set b (.lst (ini.map D.int)))[a]? = some (.lst [.ref b, .int s, .int (c + 1)]) := by rw [get_set_ne ne.symm]; exact ha1
    have hb2 : (g.set b (.lst (ini.map D.int)))[b]? = some (.lst (ini.map D.int)) := get_set_eq hb1
    have f2 : Frm (Two a b) hs (g.set b (.lst (ini.map D.int))) := f1.trans (.set (.inr rfl))
    have l2 : (g.set b (.lst (ini.map D.int))).length = hs.length := by rw [List.length_set]; exact l1
    show Ws (sIf _ _ _ _ (g.set b (.lst (ini.map D.int)))) _
    generalize g.set b (.lst (ini.map D.int)) = k at ha2 hb2 f2 l2 ⊢
    walk_at "s"
    refine wp_some pow18 ?_
    refine wp_some rfl ⟨_, rfl, fun _ => ?_, fun _ => ?_⟩
    · walk_at "s"
      refine wp_some (ix_ref ha2 rfl) ⟨isL_ref hb2, ?_⟩
      walk_at "s"
      refine wp_some (div_int h0 h1) (wp_anil ?_)
      refine wp_someP (app_ref hb2 (by rw [List.length_map]; exact small1000 (by omega))) ?_
      have ha3 : (k.set b (.lst ((ini ++ [z / m]).map D.int)))[a]? = some (.lst [.ref b, .int s, .int (c + 1)]) := by rw [get_set_ne ne.symm]; exact ha2
      have hb3 : (k.set b (.lst ((ini ++ [z / m]).map D.int)))[b]? = some (.lst ((ini ++ [z / m]).map D.int)) := get_set_eq hb2
      have e3 : ini.map D.int ++ [D.int (z / m)] = (ini ++ [z / m]).map D.int := by simp
      rw [e3]
      walk_at "s"
      refine wp_some (mod_int h0) ?_
      exact ⟨_, rfl, Int.emod_nonneg _ (by omega), Int.emod_lt_of_pos _ h0, ⟨ne, ⟨s, c + 1, ha3⟩, ⟨ini ++ [z / m], by rw [List.length_append]; simp; omega, hb3⟩⟩, f2.trans (.set (.inr rfl)), by rw [List.length_set]; exact l2⟩
    · (repeat with_reducible refine ws_skip ?_)
      exact draw_tail ne ha2 (by omega) hb2 h0 f2 l2
  · (repeat with_reducible refine ws_skip ?_)
    exact draw_tail ne ha1 hl hb1 h0 f1 l1
end G

/-! # G13: the deck made, a thing picked, names drawn; texts by their signs -/
namespace G
open PySem PySem.Spec PyProof.Rows L2
noncomputable section

/-! ### texts by their signs -/
def T (cs : List Nat) : Str := ⟨cs.toArray⟩
theorem T_add (a b : List Nat) : T a ++ T b = T (a ++ b) := by
  show (⟨a.toArray ++ b.toArray⟩ : Str) = ⟨(a ++ b).toArray⟩
  rw [List.append_toArray]
theorem T_len (a : List Nat) : (T a).length = a.length := by show a.toArray.size = _; rw [List.size_toArray]
theorem T_cps (a : List Nat) : (T a).cps.toList = a := rfl
theorem T_of (z : Str) : z = T z.cps.toList := by cases z with | mk c => show (⟨c⟩ : Str) = ⟨c.toList.toArray⟩; rw [Array.toArray_toList]
theorem T_cut (a : List Nat) (lo hi : Option Int) : cutS (T a) lo hi = T (cutX a lo hi) := by
  unfold cutS cutX
  rw [T_len]
  rfl
theorem T_inj {a b : List Nat} (h : T a = T b) : a = b := by
  have := congrArg (fun z : Str => z.cps.toList) h
  exact this
theorem big16 : (16777216 : Nat) = sizeLine := sizeLine_eq.symm
theorem le_line {n : Nat} (h : n ≤ 100000) : n ≤ sizeLine := by have := sizeLine_eq; omega
theorem add_T {h : Hs} {a b : List Nat} (q : a.length + b.length ≤ 100000) : gAdd h (.str (T a)) (.str (T b)) = some (.str (T (a ++ b))) := by
  unfold gAdd
  dsimp only
  rw [T_len, T_len, if_pos (le_line q), T_add]
theorem sl_T {h : Hs} {a : List Nat} {lo hi : Option Int} (q : a.length ≤ 100000) : gSl h (.str (T a)) lo hi = some (.str (T (cutX a lo hi))) := by
  unfold gSl
  dsimp only
  rw [T_len, if_pos (le_line q), T_cut]
theorem ix_T {h : Hs} {a : List Nat} {i : Int} {c : Nat} (q : a.length ≤ 100000) (e : atI a i = some c) : gIx h (.str (T a)) (.int i) = some (.str (T [c])) := by
  unfold gIx
  dsimp only
  rw [T_len, if_pos (le_line q), T_cps, e]
  rfl
theorem len_T {h : Hs} {a : List Nat} (q : a.length ≤ 100000) : gLen h [.str (T a)] = some (.int a.length) := by
  unfold gLen
  dsimp only
  rw [T_len, if_pos (le_line q)]
theorem seq_noStr {h : Hs} {d : D} {ds : List D} (e : seqOf h d = some ds) : ∀ z, d ≠ .str z := by rintro z rfl; cases e
theorem ix_seq {h : Hs} {d x : D} {ds : List D} {i : Int} (e : seqOf h d = some ds) (q : atI ds i = some x) : gIx h d (.int i) = some x := by
  unfold gIx
  cases d with
  | str z => cases e
  | _ => dsimp only; rw [e]; exact q
theorem len_seq {h : Hs} {d : D} {ds : List D} (e : seqOf h d = some ds) : gLen h [d] = some (.int ds.length) := by
  unfold gLen
  cases d with
  | str z => cases e
  | _ => dsimp only; rw [e]
theorem atI_nat {t : Type} {ds : List t} {i : Int} {x : t} (h0 : 0 ≤ i) (h : ds[i.toNat]? = some x) : atI ds i = some x := by
  have hl : i.toNat < ds.length := (List.getElem?_eq_some_iff.mp h).1
  unfold atI ixN
  rw [if_pos h0, if_pos (by omega)]
  exact h
theorem atI_mem {t : Type} {ds : List t} {i : Int} (h0 : 0 ≤ i) (h1 : i < ds.length) : ∃ x, atI ds i = some x ∧ x ∈ ds ∧ ds[i.toNat]? = some x := by
  have hl : i.toNat < ds.length := by omega
  exact ⟨ds[i.toNat], atI_nat h0 (List.getElem?_eq_getElem hl), List.getElem_mem hl, List.getElem?_eq_getElem hl⟩
theorem seq_lst {h : Hs} {ds : List D} : seqOf h (.lst ds) = some ds := rfl
theorem seq_tup {h : Hs} {ds : List D} : seqOf h (.tup ds) = some ds := rfl
theorem seq_ref {h : Hs} {n : Nat} {ds : List D} (e : h[n]? = some (.lst ds)) : seqOf h (.ref n) = some ds := by unfold seqOf rdOf lstOf; dsimp only; rw [e]
theorem rd_ref {h : Hs} {n : Nat} {ds : List D} (e : h[n]? = some (.lst ds)) : rdOf h (.ref n) = some ds := by unfold rdOf lstOf; dsimp only; rw [e]
theorem seq_frm {h h' : Hs} {S : Nat → Prop} {d : D} {ds : List D} (e : seqOf h d = some ds) (f : Frm S h h') (q : ∀ n, d = .ref n → ¬ S n) : seqOf h' d = some ds := by
  cases d with
  | ref n =>
    have : h[n]? = some (.lst ds) := by
      unfold seqOf rdOf lstOf at e
      dsimp only at e
      cases h1 : h[n]? with
      | none => rw [h1] at e; cases e
      | some o =>
        rw [h1] at e
        cases o with
        | lst xs => cases e; rfl
        | _ => cases e
    exact seq_ref (f.get this (q n rfl))
  | _ => exact e
theorem sIx_none (n d : Nat) : HT.sIx n d none = d := rfl
theorem sIx_pos {n d : Nat} {v : Int} (h : 0 ≤ v) : HT.sIx n d (some v) = min v.toNat n := by
  show (if v < 0 then (v + (n : Int)).toNat else min v.toNat n) = _
  rw [if_neg (by omega)]
theorem cutX_to {t : Type} (xs : List t) {v : Int} (h : 0 ≤ v) : cutX xs none (some v) = xs.take v.toNat := by
  unfold cutX
  rw [sIx_none, sIx_pos h, List.drop_zero, Nat.sub_zero]
  by_cases q : v.toNat ≤ xs.length
  · rw [Nat.min_eq_left q]
  · rw [Nat.min_eq_right (by omega), List.take_length, List.take_of_length_le (by omega)]
theorem cutX_from {t : Type} (xs : List t) {v : Int} (h : 0 ≤ v) : cutX xs (some v) none = xs.drop v.toNat := by
  unfold cutX
  rw [sIx_none, sIx_pos h]
  by_cases q : v.toNat ≤ xs.length
  · rw [Nat.min_eq_left q, List.take_of_length_le (by rw [List.length_drop]; omega)]
  · rw [Nat.min_eq_right (by omega), List.drop_length, List.drop_of_length_le (by omega)]; simp
theorem cutX_mid {t : Type} (xs : List t) {v w : Int} (h : 0 ≤ v) (h' : 0 ≤ w) : cutX xs (some v) (some w) = (xs.drop v.toNat).take (w.toNat - v.toNat) := by
  unfold cutX
  rw [sIx_pos h, sIx_pos h']
  by_cases q : v.toNat ≤ xs.length
  · rw [Nat.min_eq_left q]
    by_cases q2 : w.toNat ≤ xs.length
    · rw [Nat.min_eq_left q2]
    · rw [Nat.min_eq_right (by omega), List.take_of_length_le (by rw [List.length_drop]; omega), List.take_of_length_le (by rw [List.length_drop]; omega)]
  · rw [Nat.min_eq_right (show xs.length ≤ v.toNat by omega), List.drop_length, List.drop_of_length_le (show xs.length ≤ v.toNat by omega), List.take_nil, List.take_nil]
theorem cutX_all {t : Type} (xs : List t) {v : Int} (h : (xs.length : Int) ≤ v) : cutX xs none (some v) = xs := by
  rw [cutX_to xs (by omega), List.take_of_length_le (by omega)]
theorem nxN_some {h : Hs} {lo : Int} {n i : Nat} (q : i < n) : nxN lo n h i = some (some (.int (lo + i))) := by unfold nxN; rw [if_pos q]
theorem nxN_stop {h : Hs} {lo : Int} {n : Nat} : nxN lo n h n = some none := by unfold nxN; rw [if_neg (Nat.lt_irrefl n)]
theorem nxL_some {h : Hs} {ds : List D} {i : Nat} (q : i < ds.length) : nxL ds h i = some (some ds[i]) := by unfold nxL; rw [List.getElem?_eq_getElem q]
theorem nxL_stop {h : Hs} {ds : List D} : nxL ds h ds.length = some none := by unfold nxL; rw [List.getElem?_eq_none (Nat.le_refl _)]
theorem mem_cutX {t : Type} {xs : List t} {lo hi : Option Int} {x : t} (h : x ∈ cutX xs lo hi) : x ∈ xs := List.mem_of_mem_drop (List.mem_of_mem_take h)

/-! ### the deck -/
def f_deck : FS := (sRet (eM (aCons (eM (lRev (eM (lList (eSl (eName 0) oNone (oSome (eC (.int 63)))))))) (aCons (eBin gAdd (eCall gSum (aCons (eV (lComp (iAny (eSl (eName 0) oNone (oSome (eC (.int 63))))) (nSet 1) tYesF (eBin gMod (eName 1) (eC (.int 1000003))) [1])) aNil)) (eBin gMul (eC (.int 7919)) (eCall gLen (aCons (eSl (eName 0) oNone (oSome (eC (.int 63)))) aNil)))) (aCons (eC (.int 0)) aNil)))))
def c_deck : List D → Hs → R D := fnBody 2 f_deck
def f_pick : FS := (sRet (eBin gIx (eName 1) (eFn c_draw [0, 1] [] (aCons (eName 0) (aCons (eCall gLen (aCons (eName 1) aNil)) aNil)))))
def c_pick : List D → Hs → R D := fnBody 2 f_pick
def f_names : FS := (sSeq (sSet 2 (eC (.str "abcdefghijklmnopqrstuvwxyz")))
  (sSeq (sSet 3 (eFn c_draw [0, 1] [] (aCons (eName 0) (aCons (eC (.int 3)) aNil))))
  (sSeq (sSet 4 (eMt (fun _ => isS) mJoin (eC (.str "")) (aCons (eV (lComp (iR1 (aCons (eC (.int 8)) aNil)) (nSet 8) tYesF (eBin gIx (eName 2) (eFn c_draw [0, 1] [] (aCons (eName 0) (aCons (eC (.int 26)) aNil)))) [8])) aNil)))
  (sSeq (sSet 5 (eFn c_draw [0, 1] [] (aCons (eName 0) (aCons (eC (.int 8)) aNil))))
  (sSeq (sSet 6 (eBin gAdd (eBin gAdd (eName 5) (eC (.int 1))) (eFn c_draw [0, 1] [] (aCons (eName 0) (aCons (eBin gSub (eC (.int 8)) (eName 5)) aNil)))))
  (sSeq (sSet 7 (eM aNil))
  (sSeq (sFor (iR1 (aCons (eName 1) aNil)) (nSet 8)
  (sSeq (sSet 9 (eBin gIx (eName 2) (eBin gMod (eBin gAdd (eMt (fun _ => isS) mSIndex (eName 2) (aCons (eBin gIx (eName 4) (eName 5)) aNil)) (eName 8)) (eC (.int 26)))))
  (sSeq (sSet 10 (eBin gAdd (eBin gAdd (eSl (eName 4) oNone (oSome (eName 5))) (eName 9)) (eSl (eName 4) (oSome (eBin gAdd (eName 5) (eC (.int 1)))) (oSome (eName 6)))))
  (sSeq (sIf (eB (eBin gEq (eName 3) (eC (.int 1)))) (sSet 10 (eBin gAdd (eName 9) (eSl (eName 4) oNone (oSome (eBin gMod (eName 8) (eC (.int 8))))))) sSkip)
  (sSeq (sIf (tAndF (eB (eBin gEq (eName 3) (eC (.int 2)))) (eB (eBin gLt (eName 1) (eC (.int 9))))) (sSet 10 (eSl (eName 4) oNone (oSome (eBin gAdd (eName 8) (eC (.int 1)))))) sSkip)
  (sDrop (eMt isL mAppend (eName 7) (aCons (eName 10) aNil))))))))
  (sRet (eName 7)))))))))
def c_names : List D → Hs → R D := gcF (fnBody 11 f_names)
local macro_rules | `(tactic| walk_at "s1") => `(tactic| first
  | ((with_reducible apply wp_name); (case q => rfl))
  | with_reducible refine wp_c ?_
  | with_reducible refine wp_bin ?_
  | with_reducible refine wp_acons ?_
  | with_reducible refine wp_anil ?_
  | with_reducible refine wp_call ?_
  | with_reducible refine wp_fn ?_
  | with_reducible refine wp_fnK ?_
  | with_reducible refine wp_ev ?_
  | with_reducible refine wp_em ?_
  | with_reducible refine wp_tup ?_
  | with_reducible refine wp_eb ?_
  | with_reducible refine wp_et ?_
  | with_reducible refine wp_un ?_
  | with_reducible refine wp_chain ?_
  | with_reducible refine wp_and ?_
  | with_reducible refine wp_or ?_
  | with_reducible refine wp_not ?_
  | with_reducible refine wp_andF ?_
  | with_reducible refine wp_orF ?_
  | with_reducible refine wp_notF ?_
  | with_reducible refine wp_yes ?_
  | with_reducible refine wp_if ?_
  | with_reducible refine wp_sl ?_
  | with_reducible refine wp_onone ?_
  | with_reducible refine wp_osome ?_
  | with_reducible refine wp_rev ?_
  | with_reducible refine wp_list ?_
  | with_reducible refine wp_mt ?_
  | with_reducible refine wp_any ?_
  | with_reducible refine wp_r1 ?_
  | with_reducible refine wp_r2 ?_
  | with_reducible refine ws_seq ?_
  | with_reducible refine ws_set ?_
  | with_reducible refine ws_setC ?_
  | with_reducible refine ws_setCM ?_
  | with_reducible refine ws_if ?_
  | with_reducible refine ws_ret ?_
  | with_reducible refine ws_retN ?_
  | with_reducible refine ws_drop ?_
  | with_reducible refine ws_skip ?_
  | with_reducible refine ws_asg ?_
  | with_reducible refine ws_par ?_
  | with_reducible refine ws_sub ?_
  | with_reducible refine wp_body ?_)
local macro_rules | `(tactic| walk_at "s") => `(tactic| repeat (walk_at "s1"))

theorem ws_nx {r : SR} {P : Po} {N : Ev → Hs → Prop} (h : Ws r { nx := N }) (i : ∀ e h, N e h → P.nx e h) : Ws r P :=
  ws_mono h i (fun _ _ x => x.elim) (fun _ _ x => x.elim) (fun _ _ x => x.elim) (fun _ _ _ _ x => x.elim)
def modD (n : Int) (d : D) : D := match d with | .int i => .int (i % n) | d => d
theorem intsOf_mod (n : Int) (ns : List Int) : intsOf ((ns.map D.int).map (modD n)) = some (ns.map (· % n)) := by
  have : (ns.map D.int).map (modD n) = (ns.map (· % n)).map D.int := by rw [List.map_map, List.map_map]; rfl
  rw [this]; exact intsOf_map _
theorem deck_wp {ns : List Int} (hl : ns.length ≤ 63) {hs : Hs} : Wp (c_deck [.scr (ns.map .int)] hs) (fun d h => d = .ref (hs.length + 2) ∧ Deck (hs.length + 2) (hs.length + 1) h ∧ Frm (fun _ => False) hs h ∧ h.length = hs.length + 3) nX := by
  unfold c_deck f_deck
  refine wp_bodyE [some (.scr (ns.map .int)), none] rfl ?_
  have cut : ∀ h : Hs, gSl h (.scr (ns.map .int)) none (some 63) = some (.lst (ns.map .int)) := fun h => by
    show some (D.lst (cutX (ns.map D.int) none (some 63))) = _
    rw [cutX_all _ (by rw [List.length_map]; omega)]
  walk_at "s"
  refine ⟨_, rfl, ?_⟩
  refine wp_some (cut _) ?_
  refine wp_some seq_lst ?_
  refine wp_some (x := (ns.map D.int).reverse) (by rw [rd_ref get_new]; rfl) ?_
  walk_at "s"
  refine wp_cmap (modD 1000003) ?_
  walk_at "s"
  refine ⟨_, rfl, ?_⟩
  refine wp_some (cut _) ?_
  refine ⟨_, rfl, _, rfl, by rw [List.length_map]; omega, fun d hd => ?_, ?_⟩
  · obtain ⟨i, _, rfl⟩ := List.mem_map.mp hd
    refine ⟨_, rfl, ?_⟩
    show Wp (eBin gMod (eName 1) (eC (.int 1000003)) [some (.scr (ns.map .int)), some (.int i)] _) _ _
    walk_at "s"
    exact wp_some (mod_int (by decide)) ⟨rfl, rfl⟩
  walk_at "s"
  refine wp_some (x := .int (ns.map (· % 1000003)).sum) ?_ ?_
  · show (match intsOf ((ns.map D.int).map (modD 1000003)) with | some ns => some (D.int ns.sum) | none => none) = _
    rw [intsOf_mod]
  walk_at "s"
  refine ⟨_, rfl, ?_⟩
  refine wp_some (cut _) ?_
  walk_at "s"
  refine wp_some (len_seq seq_lst) ?_
  refine wp_some (mul_int rfl) ?_
  refine wp_some rfl ?_
  walk_at "s"
  rw [List.length_append, List.length_append]
  refine ⟨rfl, ⟨by simp, ⟨(ns.map (· % 1000003)).sum + 7919 * ((ns.map D.int).length : Nat), 0, ?_⟩, ⟨ns.reverse, by rw [List.length_reverse]; omega, ?_⟩⟩, (Frm.app.trans Frm.app).trans Frm.app, by simp⟩
  · have := get_new (hs := hs ++ [O.lst (ns.map D.int)] ++ [O.lst (ns.map D.int).reverse]) (o := .lst [.ref (hs.length + 1), .int ((ns.map (· % 1000003)).sum + 7919 * ((ns.map D.int).length : Nat)), .int 0])
    simpa using this
  · have := get_app (o := .lst [.ref (hs.length + 1), .int ((ns.map (· % 1000003)).sum + 7919 * ((ns.map D.int).length : Nat)), .int 0]) (get_new (hs := hs ++ [O.lst (ns.map D.int)]) (o := O.lst (ns.map D.int).reverse))
    simpa using this
theorem pick_wp {a b : Nat} {hs : Hs} {d : D} {ds : List D} (hD : Deck a b hs) (hd : seqOf hs d = some ds) (hn : ∀ n, d = .ref n → ¬ Two a b n) (h0 : 0 < ds.length) (h1 : ds.length < 1073741824) :
    Wp (c_pick [.ref a, d] hs) (fun x h => x ∈ ds ∧ Deck a b h ∧ Frm (Two a b) hs h ∧ h.length = hs.length) nX := by
  unfold c_pick f_pick
  refine wp_bodyE [some (.ref a), some d] rfl ?_
  walk_at "s"
  refine wp_some (len_seq hd) ?_
  walk_at "s"
  refine wp_mono (draw_wp hD (by omega) (by omega)) ?_ fun _ _ _ x => x
  rintro x h ⟨r, rfl, r0, r1, D1, F1, L1⟩
  obtain ⟨x, hx, hm, _⟩ := atI_mem r0 (show r < ds.length by omega)
  exact wp_some (ix_seq (seq_frm hd F1 hn) hx) ⟨hm, D1, F1, L1⟩

/-! ### names -/
def Lw (cs : List Nat) : Prop := ∀ c ∈ cs, 97 ≤ c ∧ c < 123
def Nm (cs : List Nat) : Prop := 1 ≤ cs.length ∧ cs.length ≤ 8 ∧ Lw cs
def IsNm (d : D) : Prop := ∃ cs, d = .str (T cs) ∧ Nm cs
def abc : List Nat := (List.range 26).map (· + 97)
theorem abc_T : ("abcdefghijklmnopqrstuvwxyz" : Str) = T abc := by decide +kernel
theorem abc_at {i : Int} (h0 : 0 ≤ i) (h1 : i < 26) : atI abc i = some (i.toNat + 97) := by
  refine atI_nat h0 ?_
  unfold abc
  rw [List.getElem?_map, List.getElem?_range (by omega)]; rfl
theorem abc_ix : ∀ i < 26, (match Builtin.Str.occurrences (T abc) (T [i + 97]) 0 26 1 with | j :: _ => j == i | [] => false) = true := by decide +kernel
theorem abc_index {h : Hs} {c : Nat} (h0 : 97 ≤ c) (h1 : c < 123) : mSIndex h (.str (T abc)) [.str (T [c])] = some (.int ((c - 97 : Nat) : Int), h) := by
  have e := abc_ix (c - 97) (by omega)
  rw [show c - 97 + 97 = c by omega] at e
  have hl : (T abc).length = 26 := by decide
  unfold mSIndex
  dsimp only
  rw [hl]
  split at e
  · rename_i j js hj
    first | rw [beq_iff_eq.mp e] | rw [hj, beq_iff_eq.mp e]
  · cases e
theorem glue_T : ∀ cs : List Nat, Str.join "" (cs.map fun c => T [c]) = T cs
  | [] => rfl
  | [c] => rfl
  | c :: d :: cs => by
    show T [c] ++ ("" : Str) ++ Str.join "" ((d :: cs).map fun c => T [c]) = _
    rw [glue_T (d :: cs), show ("" : Str) = T [] from rfl, T_add, T_add]
    rfl
theorem sums1 : ∀ cs : List Nat, ((cs.map fun c => T [c]).map (·.length)).sum = cs.length
  | [] => rfl
  | c :: cs => by
    show (T [c]).length + ((cs.map fun c => T [c]).map (·.length)).sum = _
    rw [sums1 cs, T_len]; simp; omega
theorem join_T {h : Hs} {cs : List Nat} (q : cs.length ≤ 100000) : mJoin h (.str "") [.lst (cs.map fun c => .str (T [c]))] = some (.str (T cs), h) := by
  have e1 : seqOf h (.lst (cs.map fun c => .str (T [c]))) = some ((cs.map fun c => T [c]).map D.str) := by rw [List.map_map]; rfl
  unfold mJoin
  dsimp only
  rw [e1]
  dsimp only
  rw [strsOf_map]
  dsimp only
  rw [sums1, List.length_map, show ("" : Str).length = 0 from rfl, Nat.mul_zero, Nat.add_zero, if_pos (by omega)]
  exact congrArg (fun z => some (D.str z, h)) ((PySem.StrLaws.glued_eq_join _ _).trans (glue_T cs))
/-- what the drawing of names leaves -/
def Named (a b : Nat) (n : Nat) (hs : Hs) (d : D) (h : Hs) : Prop := d = .ref hs.length ∧ h.length = hs.length + 1 ∧ Deck a b h ∧ Frm (Two a b) hs h ∧ ∃ ds, h[hs.length]? = some (.lst ds) ∧ ds.length = n ∧ ∀ x ∈ ds, IsNm x
theorem Lw.app {a b : List Nat} (x : Lw a) (y : Lw b) : Lw (a ++ b) := fun c h => (List.mem_append.mp h).elim (x c) (y c)
theorem Lw.cut {a : List Nat} (x : Lw a) (lo hi : Option Int) : Lw (cutX a lo hi) := fun c h => x c (mem_cutX h)
theorem names_wp {a b : Nat} {hs : Hs} {n : Int} (hD : Deck a b hs) (h0 : 0 ≤ n) (h1 : n ≤ 1000) : Wp (fnBody 11 f_names [.ref a, .int n] hs) (Named a b n.toNat hs) nX := by
  unfold f_names
  refine wp_bodyE [some (.ref a), some (.int n), none, none, none, none, none, none, none, none, none] rfl ?_
  walk_at "s"
  refine wp_mono (draw_wp hD (by decide) (by decide)) ?_ fun _ _ _ x => x
  rintro _ h ⟨way, rfl, w0, w1, D1, F1, L1⟩
  walk_at "s"
  refine ⟨rfl, ?_⟩
  walk_at "s"
  refine wp_comp ?_
  walk_at "s"
  refine ⟨_, rfl, rfl, 8, fun i acc h => Deck a b h ∧ Frm (Two a b) hs h ∧ h.length = hs.length ∧ ∃ cs, acc = cs.map (fun c => D.str (T [c])) ∧ cs.length = i ∧ Lw cs, by decide, ⟨D1, F1, L1, [], rfl, rfl, fun _ h => by cases h⟩, ?_, ?_⟩
  · rintro i acc g hi ⟨D2, F2, L2, cs, rfl, hc, lw⟩
    refine ⟨_, _, nxN_some hi, rfl, wp_yes ⟨fun _ => ⟨by rw [List.length_map, sizeLine_eq]; omega, ?_⟩, fun h => by cases h⟩⟩
    show Wp (eBin gIx (eName 2) (eFn c_draw [0, 1] [] (aCons (eName 0) (aCons (eC (.int 26)) aNil))) [some (.ref a), some (.int n), some (.str "abcdefghijklmnopqrstuvwxyz"), some (.int way), none, none, none, none, some (.int (0 + (i : Int))), none, none] g) _ _
    walk_at "s"
    refine wp_mono (draw_wp D2 (by decide) (by decide)) ?_ fun _ _ _ x => x
    rintro _ k ⟨r, rfl, r0, r1, D3, F3, L3⟩
    rw [abc_T]
    refine wp_some (ix_T (by decide) (abc_at r0 r1)) ⟨D3, F2.trans F3, L3.trans L2, cs ++ [r.toNat + 97], by rw [List.map_append]; rfl, by rw [List.length_append, hc]; rfl, lw.app fun c hc => ?_⟩
    rw [List.mem_singleton.mp hc]; omega
  rintro acc g ⟨D2, F2, L2, cs, rfl, hc, lw⟩
  refine ⟨rfl, ?_⟩
  walk_at "s"
  refine wp_someP (join_T (by omega)) ?_
  walk_at "s"
  refine wp_mono (draw_wp D2 (by decide) (by decide)) ?_ fun _ _ _ x => x
  rintro _ h3 ⟨at_, rfl, at0, at1, D3, F3, L3⟩
  walk_at "s"
  refine wp_some rfl ?_
  walk_at "s"
  refine wp_some rfl ?_
  walk_at "s"
  refine wp_mono (draw_wp D3 (by omega) (by omega)) ?_ fun _ _ _ x => x
  rintro _ h4 ⟨sz, rfl, sz0, sz1, D4, F4, L4⟩
  refine wp_some rfl ?_
  walk_at "s"
  refine ws_for ?_
  walk_at "s"
  have F5 : Frm (Two a b) hs h4 := (F2.trans F3).trans F4
  have L5 : h4.length = hs.length := by omega
  rw [L5]
  refine ⟨_, rfl, by unfold okR; rw [decide_eq_true (by omega), decide_eq_true (by omega)]; rfl, ?_⟩
  have ab : ¬ Two a b hs.length := by have := hD.lt; unfold Two; omega
  refine ⟨n.toNat, fun i e g => Deck a b g ∧ Frm (Two a b) hs g ∧ g.length = hs.length + 1 ∧ (∃ x y z, e = [some (.ref a), some (.int n), some (.str "abcdefghijklmnopqrstuvwxyz"), some (.int way), some (.str (T cs)), some (.int at_), some (.int (at_ + 1 + sz)), some (.ref hs.length), x, y, z]) ∧
    ∃ ds, g[hs.length]? = some (.lst ds) ∧ ds.length = i ∧ ∀ x ∈ ds, IsNm x, by omega, ⟨D4.app, F5.trans .app, by rw [List.length_append, L5]; rfl, ⟨_, _, _, rfl⟩, [], by rw [← L5]; exact get_new, rfl, fun _ h => by cases h⟩, ?_, ?_⟩
  · rintro i e g hi ⟨D6, F6, L6, ⟨x, y, z, rfl⟩, ds, hds, hdl, hdn⟩
    refine ⟨_, _, nxN_some hi, rfl, ?_⟩
    show Ws (sSeq _ _ [some (.ref a), some (.int n), some (.str "abcdefghijklmnopqrstuvwxyz"), some (.int way), some (.str (T cs)), some (.int at_), some (.int (at_ + 1 + sz)), some (.ref hs.length), some (.int (0 + (i : Int))), y, z] g) _
    rw [abc_T, Int.zero_add]
    obtain ⟨c, hca, hcm, hcg⟩ := atI_mem at0 (show at_ < cs.length by omega)
    have lc := lw c hcm
    walk_at "s"
    refine ⟨rfl, ?_⟩
    walk_at "s"
    refine wp_some (ix_T (by omega) hca) (wp_anil ?_)
    refine wp_someP (abc_index lc.1 lc.2) ?_
    walk_at "s"
    refine wp_some rfl ?_
    walk_at "s"
    refine wp_some (mod_int (by decide)) ?_
    have b0 : 0 ≤ (((c - 97 : Nat) : Int) + (i : Int)) % 26 := Int.emod_nonneg _ (by decide)
    have b1 : (((c - 97 : Nat) : Int) + (i : Int)) % 26 < 26 := Int.emod_lt_of_pos _ (by decide)
    refine wp_some (ix_T (by decide) (abc_at b0 b1)) ?_
    generalize hsg : ((((c - 97 : Nat) : Int) + (i : Int)) % 26).toNat + 97 = sg
    have ls : Lw [sg] := fun c hc => by rw [List.mem_singleton.mp hc]; omega
    walk_at "s"
    refine ⟨_, rfl, ?_⟩
    refine wp_some (sl_T (by omega)) ?_
    walk_at "s"
    have l1 : (cutX cs none (some at_)).length = at_.toNat := by rw [cutX_to cs at0, List.length_take]; omega
    refine wp_some (add_T (by rw [l1]; simp; omega)) ?_
    walk_at "s"
    refine wp_some rfl ⟨_, rfl, ?_⟩
    walk_at "s"
    refine ⟨_, rfl, ?_⟩
    refine wp_some (sl_T (by omega)) ?_
    have l2 : (cutX cs (some (at_ + 1)) (some (at_ + 1 + sz))).length = sz.toNat := by rw [cutX_mid cs (by omega) (by omega), List.length_take, List.length_drop]; omega
    refine wp_some (add_T (by rw [List.length_append, l1, l2]; simp; omega)) ?_
    have n1 : IsNm (.str (T (cutX cs none (some at_) ++ [sg] ++ cutX cs (some (at_ + 1)) (some (at_ + 1 + sz))))) := ⟨_, rfl, by rw [List.length_append, List.length_append, l1, l2]; simp; omega, by rw [List.length_append, List.length_append, l1, l2]; simp; omega, ((lw.cut _ _).app ls).app (lw.cut _ _)⟩
    generalize D.str (T (cutX cs none (some at_) ++ [sg] ++ cutX cs (some (at_ + 1)) (some (at_ + 1 + sz)))) = nm1 at n1 ⊢
    -- what follows each if
    have fin : ∀ d : D, IsNm d → Ws (sDrop (eMt isL mAppend (eName 7) (aCons (eName 10) aNil)) [some (.ref a), some (.int n), some (.str (T abc)), some (.int way), some (.str (T cs)), some (.int at_), some (.int (at_ + 1 + sz)), some (.ref hs.length), some (.int (i : Int)), some (.str (T [sg])), some d] g)
      { nx := fun e g => Deck a b g ∧ Frm (Two a b) hs g ∧ g.length = hs.length + 1 ∧ (∃ x y z, e = [some (.ref a), some (.int n), some (.str (T abc)), some (.int way), some (.str (T cs)), some (.int at_), some (.int (at_ + 1 + sz)), some (.ref hs.length), x, y, z]) ∧
        ∃ ds, g[hs.length]? = some (.lst ds) ∧ ds.length = i + 1 ∧ ∀ x ∈ ds, IsNm x } := by
      intro d hd
      walk_at "s"
      refine ⟨isL_ref hds, ?_⟩
      walk_at "s"
      refine wp_someP (app_ref hds (by rw [sizeLine_eq]; omega)) ?_
      have hne : ∀ j, Two a b j → j ≠ hs.length := fun j hj e => ab (e ▸ hj)
      refine ⟨D6.frm (S := fun j => j = hs.length) (.set rfl) (hne a (.inl rfl)) (hne b (.inr rfl)), ?_, by rw [List.length_set]; exact L6, ⟨_, _, _, rfl⟩, ds ++ [d], get_set_eq hds, by rw [List.length_append, hdl]; rfl, ?_⟩
      · exact ⟨by rw [List.length_set]; omega, fun j hj hj2 => by rw [get_set_ne (show hs.length ≠ j by omega)]; exact F6.2 j hj hj2⟩
      · intro x hx
        rcases List.mem_append.mp hx with h | h
        · exact hdn x h
        · rw [List.mem_singleton.mp h]; exact hd
    -- the third way
    have fin2 : ∀ d : D, IsNm d → Ws (sSeq (sIf (tAndF (eB (eBin gEq (eName 3) (eC (.int 2)))) (eB (eBin gLt (eName 1) (eC (.int 9))))) (sSet 10 (eSl (eName 4) oNone (oSome (eBin gAdd (eName 8) (eC (.int 1)))))) sSkip) (sDrop (eMt isL mAppend (eName 7) (aCons (eName 10) aNil))) [some (.ref a), some (.int n), some (.str (T abc)), some (.int way), some (.str (T cs)), some (.int at_), some (.int (at_ + 1 + sz)), some (.ref hs.length), some (.int (i : Int)), some (.str (T [sg])), some d] g)
      { nx := fun e g => Deck a b g ∧ Frm (Two a b) hs g ∧ g.length = hs.length + 1 ∧ (∃ x y z, e = [some (.ref a), some (.int n), some (.str (T abc)), some (.int way), some (.str (T cs)), some (.int at_), some (.int (at_ + 1 + sz)), some (.ref hs.length), x, y, z]) ∧
        ∃ ds, g[hs.length]? = some (.lst ds) ∧ ds.length = i + 1 ∧ ∀ x ∈ ds, IsNm x } := by
      intro d hd
      walk_at "s"
      refine wp_some rfl ⟨_, rfl, fun _ => ?_, fun _ => ⟨fun h => (by cases h), fun _ => ws_skip (fin d hd)⟩⟩
      walk_at "s"
      refine wp_some rfl ⟨_, rfl, fun _ => ?_, fun _ => ws_skip (fin d hd)⟩
      walk_at "s"
      refine wp_some rfl ⟨_, rfl, ?_⟩
      refine wp_some (sl_T (by omega)) ?_
      refine fin _ ⟨_, rfl, ?_, ?_, lw.cut _ _⟩
      · rw [cutX_to cs (by omega), List.length_take]; omega
      · rw [cutX_to cs (by omega), List.length_take]; omega
    walk_at "s"
    refine wp_some rfl ⟨_, rfl, fun _ => ?_, fun _ => ws_skip (ws_nx (fin2 _ n1) fun _ _ q => q)⟩
    walk_at "s"
    refine wp_some (mod_int (by decide)) ⟨_, rfl, ?_⟩
    have m0 : 0 ≤ (i : Int) % 8 := Int.emod_nonneg _ (by decide)
    have m1 : (i : Int) % 8 < 8 := Int.emod_lt_of_pos _ (by decide)
    refine wp_some (sl_T (by omega)) ?_
    have l3 : (cutX cs none (some ((i : Int) % 8))).length = ((i : Int) % 8).toNat := by rw [cutX_to cs m0, List.length_take]; omega
    refine wp_some (add_T (by rw [l3]; simp; omega)) ?_
    refine ws_nx (fin2 _ ⟨_, rfl, ?_, ?_, ls.app (lw.cut _ _)⟩) fun _ _ q => q
    · rw [List.length_append]; simp
    · rw [List.length_append, l3]; simp; omega
  · rintro e g ⟨D6, F6, L6, ⟨x, y, z, rfl⟩, ds, hds, hdl, hdn⟩
    refine ⟨nxN_stop, ?_⟩
    walk_at "s"
    exact ⟨rfl, L6, D6, F6, ds, hds, hdl, hdn⟩
end
end G

/-! # G14: what the operators answer, for the stepper -/
namespace G
open PySem PySem.Spec PyProof.Rows L2
section
variable {h : Hs} {i j : Int} {p q : Bool} {xs ys : List D}
theorem nof {r : Prop} (h : false = true) : r := by cases h
theorem tnof {r : Prop} (h : true = false) : r := by cases h
theorem add_i : gAdd h (.int i) (.int j) = some (.int (i + j)) := rfl
theorem sub_i : gSub h (.int i) (.int j) = some (.int (i - j)) := rfl
theorem lt_i : gLt h (.int i) (.int j) = some (.bl (decide (i < j))) := rfl
theorem le_i : gLe h (.int i) (.int j) = some (.bl (decide (i ≤ j))) := rfl
theorem gt_i : gGt h (.int i) (.int j) = some (.bl (decide (j < i))) := rfl
theorem ge_i : gGe h (.int i) (.int j) = some (.bl (decide (j ≤ i))) := rfl
theorem eq_i : gEq h (.int i) (.int j) = some (.bl (i == j)) := rfl
theorem ne_i : gNe h (.int i) (.int j) = some (.bl (!(i == j))) := rfl
theorem eq_s {x y : Str} : gEq h (.str x) (.str y) = some (.bl (x == y)) := rfl
theorem ne_s {x y : Str} : gNe h (.str x) (.str y) = some (.bl (!(x == y))) := rfl
theorem eq_b : gEq h (.bl p) (.bl q) = some (.bl (p == q)) := rfl
theorem max_i : gMax2 h [.int i, .int j] = some (.int (if j > i then j else i)) := rfl
theorem min_i : gMin2 h [.int i, .int j] = some (.int (if j < i then j else i)) := rfl
theorem add_tup (e : xs.length + ys.length ≤ 100000) : gAdd h (.tup xs) (.tup ys) = some (.tup (xs ++ ys)) := by
  unfold gAdd
  dsimp only
  rw [if_pos (le_line e)]
theorem add_lst (e : xs.length + ys.length ≤ 100000) : gAdd h (.lst xs) (.lst ys) = some (.lst (xs ++ ys)) := by
  unfold gAdd gAddL lstOf
  dsimp only
  rw [if_pos (le_line e)]
theorem sl_tup {lo hi : Option Int} : gSl h (.tup xs) lo hi = some (.tup (cutX xs lo hi)) := rfl
theorem sl_lst {lo hi : Option Int} : gSl h (.lst xs) lo hi = some (.lst (cutX xs lo hi)) := rfl
theorem tup_tup : gTuple h [.tup xs] = some (.tup xs) := rfl
theorem tup_lst : gTuple h [.lst xs] = some (.tup xs) := rfl
theorem len_tup : gLen h [.tup xs] = some (.int xs.length) := rfl
theorem len_lst : gLen h [.lst xs] = some (.int xs.length) := rfl
theorem tru_b : tru h (.bl p) = some p := rfl
theorem lw_ok {cs : List Nat} (h : Lw cs) : okS (T cs) = true := by
  unfold okS
  show (T cs).cps.all (· < 0x110000) = true
  rw [Array.all_eq_true']
  intro c hc
  have := h c (by simpa [T] using hc)
  exact decide_eq_true (by omega)
theorem eq_T {a b : List Nat} (ha : Lw a) (hb : Lw b) : gEq h (.str (T a)) (.str (T b)) = some (.bl (T a == T b)) := by
  unfold gEq
  rw [gEqB_str (lw_ok ha) (lw_ok hb)]; rfl
@[irreducible] def sB (p : Bool) : Str := (PyData.bool p).shown
theorem repr_b : gRepr h [.bl p] = some (.str (sB p)) := by
  unfold gRepr
  show (if smallText (.bool p) = true then some (D.str (PyData.bool p).shown) else none) = _
  rw [if_pos (by cases p <;> decide +kernel)]; unfold sB; rfl
theorem eq_sb : gEq h (.str (sB p)) (.str (sB p)) = some (.bl true) := by
  unfold gEq sB
  rw [gEqB_str (by cases p <;> decide +kernel) (by cases p <;> decide +kernel)]
  show some (D.bl _) = _
  rw [beq_self_eq_true]
variable {Q : D → Hs → Prop} {X : XQ} {d : D} {n : Nat} {o : O}
theorem wp_ix_tup (q : atI xs i = some d) (g : Q d h) : Wp (R.ofO (gIx h (.tup xs) (.int i)) h) Q X := wp_some (ix_tup q) g
theorem wp_ix_lst (q : atI xs i = some d) (g : Q d h) : Wp (R.ofO (gIx h (.lst xs) (.int i)) h) Q X := wp_some (ix_lst q) g
theorem wp_ix_ref (p : h[n]? = some (.lst xs)) (q : atI xs i = some d) (g : Q d h) : Wp (R.ofO (gIx h (.ref n) (.int i)) h) Q X := wp_some (ix_ref p q) g
end
end G

/-! # G15: loops over lists that stand still -/
namespace G
open PySem PySem.Spec PyProof.Rows L2
section
variable {X : XQ} {e : Ev} {hs : Hs} {P : Po}
/-- a comprehension over a list, the heap as it is: what each kept thing is -/
theorem wp_cfil {f : FI} {g : FG} {t : FT} {el : FE} {vs : List Nat} {Q : List D → Hs → Prop} (R : D → Prop) (h : Wp (f e hs) (fun nx h => ∃ ds, nx = nxL ds ∧ ds.length ≤ 100000 ∧
    (∀ d ∈ ds, ∃ e', g d (wipeE e vs) = some e' ∧ Wp (t e' h) (fun c h1 => h1 = h ∧ (c = true → Wp (el e' h) (fun y h' => R y ∧ h' = h) nX)) nX) ∧ ∀ ys, ys.length ≤ ds.length → (∀ y ∈ ys, R y) → Q ys h) X) : Wp (lComp f g t el vs e hs) Q X := by
  refine wp_comp (wp_mono h (fun nx h' q => ?_) fun _ _ _ x => x)
  obtain ⟨ds, rfl, hl, hd, q⟩ := q
  refine ⟨ds.length, fun i acc h => h = h' ∧ acc.length ≤ i ∧ ∀ y ∈ acc, R y, hl, ⟨rfl, Nat.le_refl _, fun _ h => by cases h⟩, fun i acc h hi ⟨e1, e2, e3⟩ => ?_, fun acc h ⟨e1, e2, e3⟩ => ?_⟩
  · subst e1
    obtain ⟨e', h1, h2⟩ := hd ds[i] (List.getElem_mem hi)
    refine ⟨ds[i], e', nxL_some hi, h1, wp_mono h2 (fun c h3 ⟨z1, z2⟩ => ?_) fun _ _ _ x => x⟩
    subst z1
    refine ⟨fun hc => ⟨by rw [sizeLine_eq]; omega, wp_mono (z2 hc) (fun y h4 ⟨r, z3⟩ => ⟨z3, by rw [List.length_append]; simp; omega, fun w hw => ?_⟩) fun _ _ _ x => x⟩, fun _ => ⟨rfl, by omega, e3⟩⟩
    rcases List.mem_append.mp hw with h | h
    · exact e3 w h
    · rw [List.mem_singleton.mp h]; exact r
  · subst e1
    exact ⟨nxL_stop, q acc e2 e3⟩
/-- a walk over a list -/
theorem ws_forL {f : FI} {g : FG} {body : FS} (I : Ev → Hs → Prop) (h : Wp (f e hs) (fun nx h => ∃ ds, nx = nxL ds ∧ ds.length ≤ 100000 ∧ I e h ∧
    (∀ d e h, d ∈ ds → I e h → ∃ e', g d e = some e' ∧ Ws (body e' h) (P.lp I)) ∧ (∀ e h, I e h → P.nx e h)) (fun c fs h => P.ex c fs e h)) : Ws (sFor f g body e hs) P := by
  refine ws_for (wp_mono h (fun nx h' q => ?_) fun _ _ _ x => x)
  obtain ⟨ds, rfl, hl, h0, hd, q⟩ := q
  refine ⟨ds.length, fun _ => I, hl, h0, fun i e h hi hI => ?_, fun e h hI => ⟨nxL_stop, q e h hI⟩⟩
  obtain ⟨e', h1, h2⟩ := hd ds[i] e h (List.getElem_mem hi) hI
  exact ⟨ds[i], e', nxL_some hi, h1, h2⟩
/-- a walk over range(n) -/
theorem ws_forN {f : FI} {g : FG} {body : FS} (I : Ev → Hs → Prop) (h : Wp (f e hs) (fun nx h => ∃ lo n, nx = nxN lo n ∧ n ≤ 100000 ∧ I e h ∧
    (∀ (i : Nat) e h, i < n → I e h → ∃ e', g (.int (lo + i)) e = some e' ∧ Ws (body e' h) (P.lp I)) ∧ (∀ e h, I e h → P.nx e h)) (fun c fs h => P.ex c fs e h)) : Ws (sFor f g body e hs) P := by
  refine ws_for (wp_mono h (fun nx h' q => ?_) fun _ _ _ x => x)
  obtain ⟨lo, n, rfl, hl, h0, hd, q⟩ := q
  refine ⟨n, fun _ => I, hl, h0, fun i e h hi hI => ?_, fun e h hI => ⟨nxN_stop, q e h hI⟩⟩
  obtain ⟨e', h1, h2⟩ := hd i e h hi hI
  exact ⟨_, e', nxN_some hi, h1, h2⟩
end
end G

/-! # G16: isinstance of built-in types -/
namespace G
open PySem PySem.Spec PyProof.Rows L2
section
variable {X : Cx} {Wd : WX}
/-- what a thing is; an instance of a class is none of them -/
def tnOf (hs : Hs) : D → Option Tn
  | .bl _ => some .bool
  | .int _ => some .int
  | .str _ => some .str
  | .tup _ => some .tup
  | .ctp _ => some .tup
  | .lst _ => some .lst
  | .scr _ => some .lst
  | .dct _ _ => some .dct
  | .dtp _ _ => some .dct
  | .ref n => match hs[n]? with | some (.lst _) => some .lst | some (.dk _) => some .dct | some (.dt _) => some .dct | _ => none
  | _ => none
def isTn (t u : Tn) : Bool := decide (t = u) || (decide (t = .bool) && decide (u = .int))
def gIsi (hs : Hs) (ds : List D) : Option D := match ds with
  | [d, .ty u] => (match d with
    | .non => some (.bl false)
    | d => (match tnOf hs d with | some t => some (.bl (isTn t u)) | none => none))
  | _ => none
theorem kit_tn : ∀ t u : Tn, kitB t.nm u.nm = some (isTn t u) := by
  intro t u
  cases t <;> cases u <;> decide +kernel
theorem kit_nn : ∀ u : Tn, kitB "NoneType" u.nm = some false := by
  intro u
  cases u <;> decide +kernel
theorem StT.tyx {K : PySem.W.Frag} {mu : Mp} {H : Hp} {a : Addr} {vs : List V} (h : StT K mu H a vs) : TyX K H (.ref a) (.type "tuple") := .base (.tup h.1)
theorem StL.tyx {K : PySem.W.Frag} {mu : Mp} {H : Hp} {a : Addr} {vs : List V} (h : StL K mu H a vs) : TyX K H (.ref a) (.type "list") := by
  rcases h with ⟨⟨o, h⟩, _⟩ | (h | ⟨o, h⟩) | h
  · exact .base (.frz h)
  · cases h
  · cases h
  · obtain ⟨o, its, n, h1, h2, _⟩ := h
    exact .kList h1 h2
theorem tyx_of {K : PySem.W.Frag} {mg : Str → Option Value} {mu : Mp} {hs : Hs} {H : Hp} {d : D} {v : V} {t : Tn} (S : Sim K mg mu hs H) (r : RD K mu H d v) (e : tnOf hs d = some t) : TyX K H v (.type t.nm) := by
  cases r with
  | non => cases e
  | bl b => cases e; exact .base (.bl b)
  | int i => cases e; exact .base (.int i)
  | str s => cases e; exact .base (.str s)
  | tup h _ => cases e; exact h.tyx
  | lst h _ _ => cases e; exact .base (.lst h)
  | scr h _ => cases e; exact h.tyx
  | ty t => cases e
  | ctp h _ =>
    cases e
    rcases h with (h | ⟨o, h⟩) | ⟨o, its, n, h1, h2, _⟩
    · cases h
    · cases h
    · exact .kTuple h1 h2
  | dct h _ _ _ => cases e; exact .base (.dK h)
  | dtp h _ _ _ => cases e; exact .base (.dT h)
  | ins _ _ _ _ _ => cases e
  | glb _ => cases e
  | exn0 _ _ => cases e
  | exnd _ _ _ _ _ => cases e
  | ref h =>
    unfold tnOf at e
    dsimp only at e
    split at e
    · rename_i ds hd
      cases e
      obtain ⟨u, e2, e3⟩ := S.at h hd
      cases u with
      | lst vs => exact .base (.lst e2)
      | _ => exact e3.elim
    · rename_i ds hd
      cases e
      obtain ⟨u, e2, e3⟩ := S.at h hd
      cases u with
      | dK vs => exact .base (.dK e2)
      | _ => exact e3.elim
    · rename_i ds hd
      cases e
      obtain ⟨u, e2, e3⟩ := S.at h hd
      cases u with
      | dT vs => exact .base (.dT e2)
      | _ => exact e3.elim
    · cases e
theorem cg_isi : CallR X (.builtin "isinstance") (rC X.K X.mg gIsi) := by
  rintro pins s σ H xs us Q I r ⟨mu, hs, ds, w, S, rs, hg, q⟩
  unfold gIsi at hg
  split at hg
  · rename_i d u
    cases rs with
    | cons r1 r2 =>
      cases r2 with
      | cons r2 r3 =>
        cases r3
        cases r2
        cases d with
        | non =>
          cases hg; cases r1
          exact call_isi pins s σ H _ us Q I r ⟨_, _, _, _, _, rfl, .ty _, .base .non, kit_ty (kit_nn u), fin0 S q (.bl _)⟩
        | _ =>
          dsimp only at hg
          split at hg
          · rename_i t ht
            cases hg
            exact call_isi pins s σ H _ us Q I r ⟨_, _, _, _, _, rfl, .ty _, tyx_of S r1 ht, kit_ty (kit_tn t u), fin0 S q (.bl _)⟩
          · cases hg
  · cases hg
theorem ue_ty {x : Str} {t : Tn} {pos : Pos} (hg : Gl X x) (hm : X.mg x = none) (hv : bootBuiltins x = some (.type t.nm)) (hn : x ≠ "__name__" := by decide) (hd : (x == ("__debug__" : Str)) = false := by decide) : UE X Wd (.Name x pos) (eC (.ty t)) :=
  uC (pe_bltn hg hm hv (show RelV (.ty t.nm) (.type t.nm) from rfl) hn hd) fun _ _ => .ty t
theorem bt_int : bootBuiltins "int" = some (.type Tn.int.nm) := by decide +kernel
theorem bt_str : bootBuiltins "str" = some (.type Tn.str.nm) := by decide +kernel
theorem bt_bool : bootBuiltins "bool" = some (.type Tn.bool.nm) := by decide +kernel
theorem bt_tup : bootBuiltins "tuple" = some (.type Tn.tup.nm) := by decide +kernel
theorem bt_lst : bootBuiltins "list" = some (.type Tn.lst.nm) := by decide +kernel
theorem bt_dct : bootBuiltins "dict" = some (.type Tn.dct.nm) := by decide +kernel
theorem bt_isi : bootBuiltins "isinstance" = some (.builtin "isinstance") := by decide +kernel
variable {h : Hs} {i : Int} {b : Bool} {z : Str} {ds : List D} {ks : List Key} {u : Tn} {n : Nat}
theorem isi_non : gIsi h [.non, .ty u] = some (.bl false) := rfl
theorem isi_bl : gIsi h [.bl b, .ty u] = some (.bl (isTn .bool u)) := rfl
theorem isi_int : gIsi h [.int i, .ty u] = some (.bl (isTn .int u)) := rfl
theorem isi_str : gIsi h [.str z, .ty u] = some (.bl (isTn .str u)) := rfl
theorem isi_tup : gIsi h [.tup ds, .ty u] = some (.bl (isTn .tup u)) := rfl
theorem isi_lst : gIsi h [.lst ds, .ty u] = some (.bl (isTn .lst u)) := rfl
theorem isi_dct : gIsi h [.dct ks ds, .ty u] = some (.bl (isTn .dct u)) := rfl
end
end G

/-! # G17: dicts -/
namespace G
open PySem PySem.Spec PyProof.Rows L2
/-! ### keys -/
def keyD : D → Option Key
  | .int i => some (.inl i)
  | .str s => some (.inr s)
  | _ => none
def keysD : List D → Option (List Key)
  | [] => some []
  | d :: ds => match keyD d with | some k => (match keysD ds with | some ks => some (k :: ks) | none => none) | none => none
def putG {k : Type} [DecidableEq k] (kvs : List (k × D)) (x : k) (v : D) : List (k × D) :=
  if (kvs.any fun kv => decide (kv.1 = x)) = true then kvs.map (fun kv => if kv.1 = x then (kv.1, v) else kv) else kvs ++ [(x, v)]
def valG {k : Type} [DecidableEq k] (kvs : List (k × D)) (x : k) : Option D := (kvs.find? fun kv => decide (kv.1 = x)).map (·.2)
section
variable {K : PySem.W.Frag} {mu : Mp} {H : Hp}
theorem RD.ref_inv {n : Nat} {v : V} (h : RD K mu H (.ref n) v) : ∃ a, v = .ref a ∧ mu.l[n]? = some a := by
  cases h with
  | ref e => exact ⟨_, rfl, e⟩
theorem keyD_at {d : D} {v : V} {k : Key} (r : RD K mu H d v) (e : keyD d = some k) : v = kV k := by
  cases r <;> first | (cases e; rfl) | cases e
theorem keysD_at : ∀ {ds : List D} {vs : List V} {ks : List Key}, RDs K mu H ds vs → keysD ds = some ks → vs = ks.map kV
  | _, _, _, .nil, e => by cases e; rfl
  | d :: ds, _, ks, .cons r t, e => by
    unfold keysD at e
    split at e
    · rename_i k hk
      split at e
      · rename_i ks' hks
        cases e
        rw [keyD_at r hk, keysD_at t hks]; rfl
      · cases e
    · cases e
variable {k : Type} [DecidableEq k]
theorem RKs.any {x : k} : ∀ {ds : List (k × D)} {vs : List (k × V)}, RKs K mu H ds vs → (ds.any fun kv => decide (kv.1 = x)) = (vs.any fun kv => decide (kv.1 = x))
  | _, _, .nil => rfl
  | _, _, .cons _ t => by simp only [List.any_cons]; rw [RKs.any t]
theorem RKs.snoc {x : k} {d : D} {v : V} (r : RD K mu H d v) : ∀ {ds : List (k × D)} {vs : List (k × V)}, RKs K mu H ds vs → RKs K mu H (ds ++ [(x, d)]) (vs ++ [(x, v)])
  | _, _, .nil => .cons r .nil
  | _, _, .cons q t => .cons q (RKs.snoc r t)
theorem RKs.over {x : k} {d : D} {v : V} (r : RD K mu H d v) : ∀ {ds : List (k × D)} {vs : List (k × V)}, RKs K mu H ds vs → RKs K mu H (ds.map fun kv => if kv.1 = x then (kv.1, d) else kv) (vs.map fun kv => if kv.1 = x then (kv.1, v) else kv)
  | _, _, .nil => .nil
  | _, _, .cons (x := y) q t => by
    rw [List.map_cons, List.map_cons]
    dsimp only
    by_cases e : y = x
    · rw [if_pos e, if_pos e]; exact .cons r (RKs.over r t)
    · rw [if_neg e, if_neg e]; exact .cons q (RKs.over r t)
theorem RKs.put {x : k} {d : D} {v : V} {ds : List (k × D)} {vs : List (k × V)} (q : RKs K mu H ds vs) (r : RD K mu H d v) : RKs K mu H (putG ds x d) (putK vs x v) := by
  unfold putG putK
  rw [RKs.any q]
  split
  · exact RKs.over r q
  · exact RKs.snoc r q
theorem RKs.val {x : k} : ∀ {ds : List (k × D)} {vs : List (k × V)}, RKs K mu H ds vs → (∀ d, valG ds x = some d → ∃ v, valV vs x = some v ∧ RD K mu H d v) ∧ (valG ds x = none → valV vs x = none)
  | _, _, .nil => ⟨(fun d e => nomatch e), fun _ => rfl⟩
  | _, _, .cons (x := y) (d := d0) (v := v0) (ds := ds) (vs := vs) q t => by
    obtain ⟨h1, h2⟩ := RKs.val (x := x) t
    unfold valG valV at h1 h2 ⊢
    rw [List.find?_cons, List.find?_cons]
    by_cases e : y = x
    · rw [decide_eq_true e]
      exact ⟨fun d e => (by cases e; exact ⟨_, rfl, q⟩), fun e => nomatch e⟩
    · rw [decide_eq_false e]
      exact ⟨h1, h2⟩
theorem RKs.snds : ∀ {ds : List (k × D)} {vs : List (k × V)}, RKs K mu H ds vs → RDs K mu H (ds.map (·.2)) (vs.map (·.2))
  | _, _, .nil => .nil
  | _, _, .cons q t => .cons q (RKs.snds t)
end
section
variable {X : Cx} {Wd : WX} {pos : Pos}
/-! ### {} -/
def eD0K : FE := fun _ hs => .ok (.ref hs.length) (hs ++ [.dk []])
def eD0T : FE := fun _ hs => .ok (.ref hs.length) (hs ++ [.dt []])
def eD0 : FE := fun _ hs => .ok (.dct [] []) hs
theorem ue_d0k : UE X Wd (.Dict [] [] pos) eD0K := by
  refine PE.imp pe_dnewK fun σ H Q h p hp => ?_
  obtain ⟨e, mu, hs, S, E, g⟩ := h
  exact g (mu.own p) _ (.ref p) (.newOwn S hp) (S.newOwn hp (show RO X.K X.mg mu H (.dk []) (.dK []) from .nil)) (.ref (getElem?_own S.len))
theorem ue_d0t : UE X Wd (.Dict [] [] pos) eD0T := by
  refine PE.imp pe_dnewT fun σ H Q h p hp => ?_
  obtain ⟨e, mu, hs, S, E, g⟩ := h
  exact g (mu.own p) _ (.ref p) (.newOwn S hp) (S.newOwn hp (show RO X.K X.mg mu H (.dt []) (.dT []) from .nil)) (.ref (getElem?_own S.len))
theorem ue_d0 : UE X Wd (.Dict [] [] pos) eD0 := by
  refine PE.imp pe_dnewK fun σ H Q h p hp => ?_
  obtain ⟨e, mu, hs, S, E, g⟩ := h
  exact g (mu.still p) _ (.ref p) (.newStill hp) (S.newStill hp) (.dct (ks := []) (vs := []) upd_same (.inl rfl) rfl .nil)
/-! ### d[k] = v, of dicts and lists -/
def mSetA (hs : Hs) (o i v : D) : Option Hs := match o with
  | .ref n => (match hs[n]? with
    | some (.dk kvs) => (match keyD i with | some k => if kvs.length < sizeLine then some (hs.set n (.dk (putG kvs k v))) else none | none => none)
    | some (.dt kvs) => (match i with
      | .tup ds => (match keysD ds with | some k => if kvs.length < sizeLine then some (hs.set n (.dt (putG kvs k v))) else none | none => none)
      | _ => none)
    | _ => mSetL hs o i v)
  | _ => none
theorem sg_any (hu : X.A.units + 1 < cLine) : PSet X (rSet X.K X.mg mSetA) := by
  rintro pins s σ H o i v ov iv u Q I r1 r2 r3 ⟨mu, hs, d1, d2, d3, hs', S, e1, e2, e3, hg, q⟩
  unfold mSetA at hg
  split at hg
  · rename_i n
    split at hg
    · rename_i kvs hn
      split at hg
      · rename_i k hk
        split at hg
        · rename_i hz
          cases hg
          cases e1 with
          | ref ea =>
            rename_i a
            obtain ⟨w, h1, h2⟩ := S.at ea hn
            cases w with
            | dK vs =>
              have h2 : RKs X.K mu H kvs vs := h2
              obtain rfl : ov = Value.ref a := r1
              have ei := keyD_at e2 hk
              subst ei
              refine d_setItem hu I (.k h1 (by rw [← h2.length]; exact hz)) r2 r3 fun s' I' => ⟨_, I', ?_⟩
              exact q mu _ (.write ea) (S.write ea (show RO X.K X.mg mu H (.dk _) (.dK _) from h2.put e3))
            | _ => exact h2.elim
        · cases hg
      · cases hg
    · rename_i kvs hn
      split at hg
      · split at hg
        · rename_i k hk
          split at hg
          · rename_i hz
            cases hg
            cases e1 with
            | ref ea =>
              rename_i a
              obtain ⟨w, h1, h2⟩ := S.at ea hn
              cases w with
              | dT vs =>
                have h2 : RKs X.K mu H kvs vs := h2
                obtain rfl : ov = Value.ref a := r1
                cases e2 with
                | tup ht hr =>
                  have ei := keysD_at hr hk
                  subst ei
                  refine d_setItem hu I (.t h1 ht.1 (by rw [← h2.length]; exact hz)) r2 r3 fun s' I' => ⟨_, I', ?_⟩
                  exact q mu _ (.write ea) (S.write ea (show RO X.K X.mg mu H (.dt _) (.dT _) from h2.put e3))
              | _ => exact h2.elim
          · cases hg
        · cases hg
      · cases hg
    · exact sg_list pins s σ H o i v ov iv u Q I r1 r2 r3 ⟨mu, hs, _, d2, d3, hs', S, e1, e2, e3, hg, q⟩
  · cases hg
/-! ### list(d.values()) -/
def valsO (p d : Addr) : HO := .ext fun h => h.IsValuesView p d
theorem valsO_ok {P : Program} {w : World} {H : Hp} {h : Heap} {p d : Addr} (e : h.get? p = some { cls := .type "dict_values", data := .fields #[.ref d] }) : ObjOk P w H h p (valsO p d) :=
  ⟨⟨_, e, rfl, rfl⟩, ⟨_, e⟩, fun h1 h2 x k => let ⟨o, ho, r⟩ := x; ⟨o, k o ho, r⟩⟩
def rValsT : V → List V → Hp → VK → Prop := fun x xs H Q => ∃ (a : Addr) (kvs : List (List L2.Key × V)), x = .ref a ∧ xs = [] ∧ H a = some (.dT kvs) ∧ ∀ p, H p = none → Q (.ref p) (upd H p (valsO p a))
theorem mt_valsT : MtR X "dict.values" rValsT := by
  intro pins s σ H x xs v us Q I rx rxs h
  obtain ⟨a, kvs, rfl, rfl, ha, q⟩ := h
  cases rx
  cases rxs
  obtain ⟨z, hd, xs', rel, o, es, ep, ho, hx, hdat, _⟩ := dt_of I.hok ha
  refine call_meetsIn PySem.F.slot_dict_values (⟨o, ho, hx.1⟩ : s.TypeIs (.ref a) "dict") PySem.F.entry_dict_values (PySem.F.args_dict_values_1 _) (meets_dict_values_raw a hd) ⟨⟨es, ep, o, ho, hx, hdat⟩, ?_⟩
  have hf : H s.heap.objs.size = none := I.hok.fresh (Nat.le_refl _)
  exact ⟨.ref s.heap.objs.size, upd H s.heap.objs.size (valsO s.heap.objs.size a), I.laid (t' := s.toks) (fun b u e => Heap.get?_push_of_some _ e) (Nat.le_refl _) (valsO_ok (Heap.get?_push_size _ rfl)), rfl, q _ hf⟩
theorem call_list_valsT (hc : X.calm = true) : CallR X (.type "list") (fun xs H Q => ∃ p a kvs, xs = [V.ref p] ∧ H p = some (valsO p a) ∧ H a = some (.dT kvs) ∧ ∀ q, H q = none → Q (.ref q) (upd H q (.lst (kvs.map (·.2))))) := by
  intro pins s σ H xs us Q I r h
  obtain ⟨p, a, kvs, rfl, hp, hd, q⟩ := h
  obtain ⟨u, rfl, rx⟩ := r.one
  cases rx
  obtain ⟨z, hs, ks, pr, o, es, ep, ho, hx, hdt, he, hn⟩ := (show ObjOk X.prog X.w H s.heap a (.dT kvs) from I.hok a _ hd)
  have hv : s.heap.IsValuesView p a := (show ObjOk X.prog X.w H s.heap p (valsO p a) from I.hok p _ hp).1
  have l1 : es.size = ks.length := by rw [← Array.length_toList, he, List.length_map]
  have l2 : kvs.length = ks.length := Paired.length pr
  refine PySem.W.kdl_call (PySem.KdlSrc.rawValues (r := p) (d := a) (es := es) (ep := ep)) (I.ok.hd hc) ⟨hv, o, ho, hx, hdt⟩ (by omega) fun h' tk acc' c' kp e it => ?_
  have ea : acc'.toList = ks.map fun x => x.2.2 := by
    have hl : acc'.toList.length = ks.length := by rw [Array.length_toList, it.1]; exact l1
    refine List.ext_getElem? fun j => ?_
    rw [List.getElem?_map]
    cases hj : acc'.toList[j]? with
    | none =>
      have h1 := List.getElem?_eq_none_iff.mp hj
      rw [List.getElem?_eq_none (by omega)]; rfl
    | some v =>
      obtain ⟨hi, hv⟩ := it.2 j v (by rw [← Array.getElem?_toList]; exact hj)
      have hk : j < ks.length := by omega
      have e1 : es[j] = entryOfKey (tupleKind (mixKind X.prog X.w)) ks[j] := by
        have : es.toList[j]'(by rw [Array.length_toList]; exact hi) = (ks.map (entryOfKey (tupleKind (mixKind X.prog X.w))))[j]'(by rw [List.length_map]; exact hk) := by
          congr 1
        rw [Array.getElem_toList, List.getElem_map] at this
        exact this
      rw [List.getElem?_eq_getElem hk, hv, e1]; rfl
  have rv : Vals (kvs.map (·.2)) acc'.toList := by
    rw [ea]
    have all : ∀ {l : List (List L2.Key × V)} {m : List (List L2.Key × Addr × Value)}, KT H l m → Vals (l.map (·.2)) (m.map fun x => x.2.2) := by
      intro l m r
      induction r with
      | nil => exact .nil
      | cons h t ih => exact .cons h.2.2 ih
    exact all pr
  have hz : (kvs.map (·.2)).length ≤ sizeLine := by rw [List.length_map]; exact z
  refine ⟨.ref s.heap.objs.size, _, I.laid (t' := tk) (o := .lst (kvs.map (·.2))) kp (Nat.le_refl _) ?_, rfl, q _ (I.hok.fresh (Nat.le_refl _))⟩
  exact ⟨hz, acc'.toList, c', rv, by rw [Array.toArray_toList]; exact e⟩
/-- list(d.values()) of a dict with tuples as keys -/
def lValsT (f : FE) : FL := fun e hs => (f e hs).bind fun d hs => match d with
  | .ref n => (match hs[n]? with | some (.dt kvs) => .ok (kvs.map (·.2)) hs | _ => .bad)
  | _ => .bad
theorem uf_valsT {o : Expr} {f1 : FE} {apos cpos p : Pos} (hcalm : X.calm = true) (hg : Gl X "list") (hm : X.mg "list" = none) (ha : UE X Wd o f1)
    (hbase : attributeBase o "values" X.env (eval o X.env) = eval o X.env := by rfl) (hline : (apos.endLine == cpos.line) = true := by rfl)
    (hs1 : starEach [.Call (.Attribute o "values" apos) [] [] cpos] X.env = [(false, eval (.Call (.Attribute o "values" apos) [] [] cpos) X.env)] := by rfl) : UF X Wd (.Call (.Name "list" p) [.Call (.Attribute o "values" apos) [] [] cpos] [] pos) (lValsT f1) := by
  refine PE.imp (pe_callTy (call_list_valsT hcalm) hg hm boot_list (pa_cons (pe_bm0 PySem.F.plainAttrs_dict PySem.F.slot_dict_values PySem.F.type_dict_values mt_valsT ha hbase hline) pa_nil hs1) (by decide) (by decide) hs1 rfl) fun σ H Q h => ?_
  obtain ⟨e, mu, hs, S, E, q⟩ := tG_seq (r := relD X.K) relF_ok h
  refine ⟨e, mu, hs, S, E, q.imp fun x H1 ⟨e, mu1, hs1, d, S1, E1, r1, g1⟩ => ?_⟩
  split at g1
  · rename_i n
    split at g1
    · rename_i kvs hn
      obtain ⟨a, rfl, ea⟩ := r1.ref_inv
      obtain ⟨w, h1, h2⟩ := S1.at ea hn
      cases w with
      | dT vs =>
        have h2 : RKs X.K mu1 H1 kvs vs := h2
        refine ⟨.inr (.inr (.inl ⟨rfl, .inr ⟨_, h1⟩⟩)), a, vs, rfl, rfl, h1, fun p hp => ?_⟩
        have S2 := S1.new (o := valsO p a) hp
        refine ⟨p, a, vs, rfl, upd_same, by rw [upd_ne (ne_of_none h1 hp)]; exact h1, fun r hr => ?_⟩
        have hrp : r ≠ p := by rintro rfl; rw [upd_same] at hr; cases hr
        have hr1 : H1 r = none := by rw [upd_ne hrp] at hr; exact hr
        exact g1 mu1 _ (.ref r) ((Lat.new hp).trans (.new hr)) (S2.new hr) ⟨r, vs.map (·.2), rfl, upd_same, S2.fresh hr, S2.freshz hr, hr1, RDs.agr (Lat.agr (.new hr) S2) (RDs.agr (Lat.agr (.new hp) S1) h2.snds)⟩
      | _ => exact h2.elim
    · exact g1.elim
  · exact g1.elim
end
end G

/-! # G18: in, of texts, dicts, deep lists -/
namespace G
open PySem PySem.Spec PyProof.Rows L2
theorem u65 {k : Nat} {A : Around} (r : Room k A) : A.units + 65 < cLine := by have := r.un; omega
theorem u1 {k : Nat} {A : Around} (r : Room k A) : A.units + 1 < cLine := by have := r.un; omega
def inD (hs : Hs) (d e : D) : Option Bool := match pd hs d with
  | some p => (match pd hs e with
    | some (.list ps) => if (SeqAt.shaped p && SeqAt.shaped (.list ps)) = true then some (ps.any fun z => PyData.eqv z p) else none
    | _ => none)
  | none => none
/-- the entry of a dict, whatever its keys -/
def atD (hs : Hs) (e d : D) : Option (Option D) := match e with
  | .ref n => (match hs[n]? with
    | some (.dk kvs) => (match keyD d with | some k => some (valG kvs k) | none => none)
    | some (.dt kvs) => (match d with | .tup ds => (match keysD ds with | some k => some (valG kvs k) | none => none) | _ => none)
    | _ => none)
  | .dct ks ds => (match keyD d with | some k => some (valG (ks.zip ds) k) | none => none)
  | _ => none
def inAB (hs : Hs) (d e : D) : Option Bool := match atD hs e d with
  | some o => some o.isSome
  | none => (match gInB hs d e with
    | some b => some b
    | none => (match e with
      | .str z => (match d with | .str x => some (!(Builtin.Str.occurrences z x 0 z.length 1).isEmpty) | _ => none)
      | e => inD hs d e))
def gInA (hs : Hs) (d e : D) : Option D := (inAB hs d e).map .bl
def gNotInA (hs : Hs) (d e : D) : Option D := (inAB hs d e).map fun b => .bl (!b)
section
variable {K : PySem.W.Frag} {mg : Str → Option Value} {mu : Mp} {hs : Hs} {H : Hp}
theorem RKs.zip : ∀ {ks : List Key} {ds : List D} {vs : List V}, RDs K mu H ds vs → RKs K mu H (ks.zip ds) (ks.zip vs)
  | [], _, _, _ => .nil
  | _ :: _, _, _, .nil => .nil
  | _ :: ks, _, _, .cons r t => .cons r (RKs.zip t)
theorem optVal {k : Type} [DecidableEq k] {x : k} {ds : List (k × D)} {vs : List (k × V)} (r : RKs K mu H ds vs) : (valG ds x).isSome = (valV vs x).isSome ∧ ∀ d, valG ds x = some d → ∃ v, valV vs x = some v ∧ RD K mu H d v := by
  obtain ⟨h1, h2⟩ := RKs.val (x := x) r
  refine ⟨?_, h1⟩
  cases q : valG ds x with
  | none => rw [h2 q]; rfl
  | some d => obtain ⟨v, e, _⟩ := h1 d q; rw [e]; rfl
theorem atD_at (S : Sim K mg mu hs H) {d e : D} {x y : V} {o : Option D} (r1 : RD K mu H d x) (r2 : RD K mu H e y) (h : atD hs e d = some o) :
    ∃ a ov, y = .ref a ∧ DGet H a x ov ∧ o.isSome = ov.isSome ∧ ∀ w, o = some w → ∃ v, ov = some v ∧ RD K mu H w v := by
  unfold atD at h
  split at h
  · rename_i n
    obtain ⟨a, rfl, ea⟩ := r2.ref_inv
    split at h
    · rename_i kvs hn
      obtain ⟨w, h1, h2⟩ := S.at ea hn
      cases w with
      | dK vs =>
        have h2 : RKs K mu H kvs vs := h2
        split at h
        · rename_i k hk
          cases h
          have ei := keyD_at r1 hk
          subst ei
          obtain ⟨q1, q2⟩ := optVal (x := k) h2
          exact ⟨a, _, rfl, .k h1, q1, q2⟩
        · cases h
      | _ => exact h2.elim
    · rename_i kvs hn
      obtain ⟨w, h1, h2⟩ := S.at ea hn
      cases w with
      | dT vs =>
        have h2 : RKs K mu H kvs vs := h2
        split at h
        · split at h
          · rename_i k hk
            cases h
            cases r1 with
            | tup ht hr =>
              have ei := keysD_at hr hk
              subst ei
              obtain ⟨q1, q2⟩ := optVal (x := k) h2
              exact ⟨a, _, rfl, .t h1 ht.1, q1, q2⟩
          · cases h
        · cases h
      | _ => exact h2.elim
    · cases h
  · split at h
    · rename_i k hk
      cases h
      cases r2 with
      | dct h1 _ _ hr =>
        have ei := keyD_at r1 hk
        subst ei
        obtain ⟨q1, q2⟩ := optVal (x := k) (RKs.zip hr)
        exact ⟨_, _, rfl, .k h1, q1, q2⟩
    · cases h
  · cases h
theorem inD_at (S : Sim K mg mu hs H) {d e : D} {x y : V} {b : Bool} (r1 : RD K mu H d x) (r2 : RD K mu H e y) (h : inD hs d e = some b) :
    ∃ p ps, Dp K H x p ∧ Dp K H y (.list ps) ∧ SeqAt.shaped p = true ∧ SeqAt.shaped (.list ps) = true ∧ (ps.any fun z => PyData.eqv z p) = b := by
  unfold inD at h
  split at h
  · rename_i p hp
    split at h
    · rename_i ps hps
      split at h
      · rename_i hz
        cases h
        simp only [Bool.and_eq_true] at hz
        exact ⟨p, ps, pd_dp S r1 hp, pd_dp S r2 hps, hz.1, hz.2, rfl⟩
      · cases h
    · cases h
  · cases h
variable {X : Cx}
theorem og_inA (hu : X.A.units + 65 < cLine) : OpR X (compareOp .In) (rB X.K X.mg gInA) := by
  rintro pins s σ H x y v u Q I rx ry ⟨mu, hs, d, e, w, S, r1, r2, hg, q⟩
  obtain ⟨b, h1, h2⟩ := Option.map_eq_some_iff.mp (show (inAB hs d e).map D.bl = some w from hg)
  subst h2
  unfold inAB at h1
  split at h1
  · rename_i o ho
    cases h1
    obtain ⟨a, ov, rfl, hd, e1, _⟩ := atD_at S r1 r2 ho
    obtain rfl : u = Value.ref a := ry
    rw [e1] at q
    exact d_in (by omega) I hd rx fun s' I' => ⟨.bl ov.isSome, H, I', rfl, fin0 S q (.bl _)⟩
  · split at h1
    · rename_i b hb
      cases h1
      exact og_in pins s σ H x y v u Q I rx ry ⟨mu, hs, d, e, _, S, r1, r2, by unfold gIn; rw [hb]; rfl, q⟩
    · split at h1
      · split at h1
        · cases h1; cases r1; cases r2
          exact op_in_str pins s σ H _ _ v u Q I rx ry ⟨_, _, rfl, rfl, fin0 S q (.bl _)⟩
        · cases h1
      · obtain ⟨p, ps, a1, a2, a3, a4, rfl⟩ := inD_at S r1 r2 h1
        exact op_inD hu pins s σ H x y v u Q I rx ry ⟨p, ps, a1, a2, a3, a4, fin0 S q (.bl _)⟩
theorem og_notinA (hu : X.A.units + 65 < cLine) : OpR X (compareOp .NotIn) (rB X.K X.mg gNotInA) := by
  rintro pins s σ H x y v u Q I rx ry ⟨mu, hs, d, e, w, S, r1, r2, hg, q⟩
  obtain ⟨b, h1, h2⟩ := Option.map_eq_some_iff.mp (show (inAB hs d e).map (fun b => D.bl (!b)) = some w from hg)
  subst h2
  unfold inAB at h1
  split at h1
  · rename_i o ho
    cases h1
    obtain ⟨a, ov, rfl, hd, e1, _⟩ := atD_at S r1 r2 ho
    obtain rfl : u = Value.ref a := ry
    rw [e1] at q
    exact d_notIn (by omega) I hd rx fun s' I' => ⟨.bl (!ov.isSome), H, I', rfl, fin0 S q (.bl _)⟩
  · split at h1
    · rename_i b hb
      cases h1
      exact og_notin pins s σ H x y v u Q I rx ry ⟨mu, hs, d, e, _, S, r1, r2, by unfold gNotIn; rw [hb]; rfl, q⟩
    · split at h1
      · split at h1
        · cases h1; cases r1; cases r2
          exact op_notin_str pins s σ H _ _ v u Q I rx ry ⟨_, _, rfl, rfl, fin0 S q (.bl _)⟩
        · cases h1
      · obtain ⟨p, ps, a1, a2, a3, a4, rfl⟩ := inD_at S r1 r2 h1
        exact op_notInD hu pins s σ H x y v u Q I rx ry ⟨p, ps, a1, a2, a3, a4, fin0 S q (.bl _)⟩
end
section
variable {X : Cx} {Wd : WX} {k : Nat} {f : Addr} {fd : FuncData} {ps ks : List Str} {fn : List D → Hs → R D} {x : Str} {p pos : Pos} {is : List Nat} {ds : List Value} {dvs : List V} {dds : List D} {kws : List Keyword} {fk : FA}
/-- f(k = v, ..), keywords alone -/
theorem ue_callK0 (F : FnG X.prog X.w X.K X.mg X.base k f fd ps (spU X.K X.mg ps.length fn)) (hr : Room k X.A) (hgd : X.A.guards = some []) (tk : Takes X Wd) (hg : Gl X x) (hm : X.mg x = some (.ref f)) (hk : PySem.W.keepIn X.K (.ref f) = true)
    (hb : BindK X.K fd ps 0 ks is ds) (hd : Vals dvs ds) (hdd : ∀ mu H, RDs X.K mu H dds dvs) (hkw : UK X Wd kws fk)
    (hlk : ∀ ev hs qs hs', fk ev hs = .ok qs hs' → qs.length = ks.length) (hl : ∀ zs : List D, zs.length = ks.length → (selL is [] zs dds).length = ps.length)
    (hall : (backToKw pos (keywordEach kws X.env)).all (·.1.isSome) = true := by rfl) (hks : (backToKw pos (keywordEach kws X.env)).filterMap (·.1) = ks := by rfl)
    (hdb : (x == ("__debug__" : Str)) = false := by decide)
    (hpl : ((backTo pos (starEach [] X.env)).any (·.1) || (backToKw pos (keywordEach kws X.env)).any (·.1.isNone)) = false := by rfl) :
    UE X Wd (.Call (.Name x p) [] kws pos) (eFnK fn is dds aNil fk) := by
  refine ⟨fun pins s σ H Q I h => ?_⟩
  refine wpAny_Call_Name_kw (ld_glob I hg hm ?_ hdb)
  refine PySem.W.callWith_KW0 (h₀ := X.base) I.ok.mod.kin hk hall ?_ hpl
  obtain ⟨ev, mu, hs, S, E, g⟩ := tG_args h
  have q := g mu H [] .refl S .nil
  refine thn (hkw.run pos pins s σ H _ I q) fun ws s2 ⟨zs, H2, I2, rz, mu2, hs2, es2, qs2, S2, r1, r2, ⟨_, _, _, q1⟩, ⟨_, _, _, q2⟩, g2⟩ => ⟨I2.kIn, ?_⟩
  rw [hks]
  cases r1
  exact runG (us := []) (vs := []) F hr hgd tk hb hd hdd I2 .nil rz rfl (by rw [← rz.length, ← r2.length, hlk _ _ _ _ q2]) ⟨mu2, hs2, [], qs2, S2, .nil, r2, hl _ (hlk _ _ _ _ q2), g2⟩
theorem ue_fnK0 {k' : Nat} (B : Bd X Wd k') (F : FnG X.prog X.w X.K X.mg X.base k f fd ps (spU X.K X.mg ps.length fn)) (hr : k ≤ k') (hm : X.mg x = some (.ref f)) (hk : PySem.W.keepIn X.K (.ref f) = true)
    (hb : BindK X.K fd ps 0 ks is []) (hkw : UK X Wd kws fk) (hlk : ∀ ev hs qs hs', fk ev hs = .ok qs hs' → qs.length = ks.length)
    (hi : is.all (fun i => decide (i < ks.length)) = true := by decide) (hl : is.length = ps.length := by rfl) (hg : Gl X x := by rfl)
    (hall : (backToKw pos (keywordEach kws X.env)).all (·.1.isSome) = true := by rfl) (hks : (backToKw pos (keywordEach kws X.env)).filterMap (·.1) = ks := by rfl)
    (hdb : (x == ("__debug__" : Str)) = false := by decide)
    (hpl : ((backTo pos (starEach [] X.env)).any (·.1) || (backToKw pos (keywordEach kws X.env)).any (·.1.isNone)) = false := by rfl) : UE X Wd (.Call (.Name x p) [] kws pos) (eFnK fn is [] aNil fk) :=
  ue_callK0 F (B.room.mono hr) B.gd B.tk hg hm hk hb .nil (fun _ _ => .nil) hkw hlk (fun zs h => by rw [selL_len _ _ _ _ (by rw [h, List.length_nil, Nat.zero_add]; exact all_lt hi), hl]) hall hks hdb hpl
end
end G

/-! # G19: what stands while things are drawn -/
namespace G
open PySem PySem.Spec PyProof.Rows L2
/-- a fact about what stands below L, but for the deck -/
def Stb (L : Nat) (K : Hs → Prop) : Prop := ∀ h h', K h → L ≤ h.length → (∀ n, n < L → n ≠ 1 → n ≠ 2 → h'[n]? = h[n]?) → K h'
theorem stb_get {L n : Nat} {o : O} (hn : 2 < n) (hl : n < L) : Stb L (fun h => h[n]? = some o) := fun h h' k _ f => (f n hl (by omega) (by omega)).trans k
theorem Stb.and {L : Nat} {K K' : Hs → Prop} (a : Stb L K) (b : Stb L K') : Stb L (fun h => K h ∧ K' h) := fun h h' k l f => ⟨a h h' k.1 l f, b h h' k.2 l f⟩
theorem Stb.mono {L L' : Nat} {K : Hs → Prop} (a : Stb L K) (l : L ≤ L') : Stb L' K := fun h h' k z f => a h h' k (by omega) fun n hn => f n (by omega)
theorem stb_true {L : Nat} : Stb L (fun _ => True) := fun _ _ _ _ _ => trivial
structure St (L : Nat) (K : Hs → Prop) (h : Hs) : Prop where
  deck : Deck 2 1 h
  keep : K h
  len : L ≤ h.length
theorem St.lt {L : Nat} {K : Hs → Prop} {h : Hs} (S : St L K h) : 2 < h.length := S.deck.lt.1
section
variable {L : Nat} {K : Hs → Prop} {h : Hs} {m : Int} {Q : D → Hs → Prop} {X : XQ} {d : D} {ds : List D}
theorem St.frm {h' : Hs} (S : St L K h) (sK : Stb L K) (D : Deck 2 1 h') (F : Frm (Two 2 1) h h') : St L K h' :=
  ⟨D, sK _ _ S.keep S.len fun n hn h1 h2 => F.2 n (Nat.lt_of_lt_of_le hn S.len) (by unfold Two; omega), Nat.le_trans S.len F.1⟩
theorem dr (S : St L K h) (sK : Stb L K) (m0 : 0 < m) (m1 : m < 1073741824) (c : ∀ r h', 0 ≤ r → r < m → St L K h' → Q (.int r) h') : Wp (c_draw [.ref 2, .int m] h) Q X := by
  refine wp_mono (draw_wp S.deck m0 m1) ?_ fun _ _ _ x => x.elim
  rintro d h' ⟨r, rfl, r0, r1, D, F, _⟩
  exact c r h' r0 r1 (S.frm sK D F)
theorem pk (S : St L K h) (sK : Stb L K) (hd : seqOf h d = some ds) (hn : ∀ n, d = .ref n → 2 < n) (h0 : 0 < ds.length) (h1 : ds.length < 1073741824) (c : ∀ x h', x ∈ ds → St L K h' → Q x h') : Wp (c_pick [.ref 2, d] h) Q X := by
  refine wp_mono (pick_wp S.deck hd (fun n e => by have := hn n e; unfold Two; omega) h0 h1) ?_ fun _ _ _ x => x.elim
  rintro d h' ⟨hm, D, F, _⟩
  exact c d h' hm (S.frm sK D F)
theorem pkl (S : St L K h) (sK : Stb L K) (h0 : 0 < ds.length) (h1 : ds.length < 1073741824) (c : ∀ x h', x ∈ ds → St L K h' → Q x h') : Wp (c_pick [.ref 2, .lst ds] h) Q X :=
  pk S sK seq_lst (fun n e => by cases e) h0 h1 c
theorem St.on {N : Nat} {o : O} {h' : Hs} (S : St L K h) (sK : Stb L K) (e : N = h.length) (D : Deck 2 1 h') (F : Frm (Two 2 1) h h') (l : N < h'.length) (g : h'[N]? = some o) : St (N + 1) (fun h' => K h' ∧ h'[N]? = some o) h' :=
  ⟨D, ⟨sK _ _ S.keep S.len fun n hn h1 h2 => F.2 n (Nat.lt_of_lt_of_le hn S.len) (by unfold Two; omega), g⟩, l⟩
/-! ### what is new forgotten -/
/-- all that stood but the deck stands -/
def Old (h g : Hs) : Prop := ∀ n, n < h.length → n ≠ 1 → n ≠ 2 → g[n]? = h[n]?
theorem stb_old {h : Hs} : Stb h.length (Old h) := fun _ _ k l f n hn h1 h2 => (f n hn h1 h2).trans (k n hn h1 h2)
theorem St.mark (S : St L K h) (sK : Stb L K) : St h.length (fun g => K g ∧ Old h g) h ∧ Stb h.length (fun g => K g ∧ Old h g) :=
  ⟨⟨S.deck, ⟨S.keep, fun _ _ _ _ => rfl⟩, Nat.le_refl _⟩, (sK.mono S.len).and stb_old⟩
theorem St.weak {L1 : Nat} {K1 K2 : Hs → Prop} (S : St L1 K1 h) (l : L ≤ L1) (k : K1 h → K2 h) : St L K2 h := ⟨S.deck, k S.keep, Nat.le_trans l S.len⟩
theorem St.cut {h1 : Hs} (S : St L K h) (sK : Stb L K) (S1 : St h.length (fun g => K g ∧ Old h g) h1) : Cls h h1 ∧ St L K (h1.take h.length) := by
  obtain ⟨ne, ⟨s, c, d1⟩, ⟨ns, dl, d2⟩⟩ := S1.deck
  have hl := S1.len
  have hd := S.lt
  constructor
  · intro k hk
    by_cases k1 : k = 1
    · subst k1
      refine .inr ⟨_, d2, ?_⟩
      show bels _ (ns.map D.int) = true
      clear d2 dl
      induction ns with
      | nil => rfl
      | cons n ns ih => exact ih
    · by_cases k2 : k = 2
      · subst k2
        refine .inr ⟨_, d1, ?_⟩
        show (decide (1 < h.length) && (true && (true && true))) = true
        rw [decide_eq_true (by omega)]; rfl
      · exact .inl (S1.keep.2 k hk k1 k2)
  · have g : ∀ n o, n < h.length → h1[n]? = some o → (h1.take h.length)[n]? = some o := fun n o hn e => by rw [List.getElem?_take_of_lt hn]; exact e
    refine ⟨⟨ne, ⟨s, c, g 2 _ (by omega) d1⟩, ⟨ns, dl, g 1 _ (by omega) d2⟩⟩, ?_, ?_⟩
    · refine sK h _ S.keep S.len fun n hn n1 n2 => ?_
      have hn' : n < h.length := Nat.lt_of_lt_of_le hn S.len
      rw [List.getElem?_take_of_lt hn']
      exact S1.keep.2 n hn' n1 n2
    · rw [List.length_take]; have := S.len; omega
/-- a function whose new things nobody else knows -/
theorem wp_gcS {fn : List D → Hs → R D} {as : List D} (S : St L K h) (sK : Stb L K)
    (g : St h.length (fun g => K g ∧ Old h g) h → Stb h.length (fun g => K g ∧ Old h g) → Wp (fn as h) (fun d h1 => ∃ d', dW (dH h1 h.length 50) d = some d' ∧ St h.length (fun g => K g ∧ Old h g) h1 ∧ ∀ h2, St L K h2 → Q d' h2) nX) : Wp (gcF fn as h) Q X := by
  refine wp_gcF (wp_mono (g (S.mark sK).1 (S.mark sK).2) ?_ fun _ _ _ x => x.elim)
  rintro d h1 ⟨d', e, S1, q⟩
  obtain ⟨c, S2⟩ := S.cut sK S1
  exact ⟨d', e, c, q _ S2⟩
theorem isNm_val {d : D} (h : IsNm d) : val d = true := by
  obtain ⟨cs, rfl, _⟩ := h
  rfl
/-- names drawn -/
theorem nms {n : Int} (S : St L K h) (sK : Stb L K) (n0 : 0 ≤ n) (n1 : n ≤ 1000) (c : ∀ ds h', ds.length = n.toNat → (∀ x ∈ ds, IsNm x) → St L K h' → Q (.lst ds) h') : Wp (c_names [.ref 2, .int n] h) Q X := by
  refine wp_gcS S sK fun S0 sK0 => wp_mono (names_wp S0.deck n0 n1) ?_ fun _ _ _ x => x.elim
  rintro d h' ⟨rfl, l, D, F, ds, hs, hl, hm⟩
  refine ⟨.lst ds, dH_lst hs (Nat.le_refl _) (vals_all fun x hx => isNm_val (hm x hx)), S0.frm sK0 D F, fun h2 S2 => c ds h2 hl hm S2⟩
/-- a thing is put into the heap behind -/
theorem St.app {o : O} (S : St L K h) (sK : Stb L K) : St (h.length + 1) (fun h' => K h' ∧ h'[h.length]? = some o) (h ++ [o]) := S.on sK rfl S.deck.app .app (by simp) get_new
/-- the thing behind is put otherwise -/
theorem St.put {N : Nat} {o o' : O} (S : St (N + 1) (fun h => K h ∧ h[N]? = some o) h) (hN : 2 < N) (sK : Stb N K) : St (N + 1) (fun h => K h ∧ h[N]? = some o') (h.set N o') := by
  obtain ⟨ne, ⟨s, k, h1⟩, ⟨ns, hl, h2⟩⟩ := S.deck
  refine ⟨⟨ne, ⟨s, k, by rw [get_set_ne (by omega)]; exact h1⟩, ⟨ns, hl, by rw [get_set_ne (by omega)]; exact h2⟩⟩, ⟨sK _ _ S.keep.1 (by have := S.len; omega) fun n hn _ _ => get_set_ne (by omega), get_set_eq S.keep.2⟩, ?_⟩
  rw [List.length_set]; exact S.len
/-- what stands behind is let go -/
theorem St.off {N : Nat} {o : O} (S : St (N + 1) (fun h => K h ∧ h[N]? = some o) h) (l : L ≤ N) : St L K h := ⟨S.deck, S.keep.1, by have := S.len; omega⟩
end
theorem deck_st {ns : List Int} (hl : ns.length ≤ 63) {Q : D → Hs → Prop} {X : XQ} (c : ∀ h, St 3 (fun _ => True) h → Q (.ref 2) h) : Wp (c_deck [.scr (ns.map .int)] []) Q X := by
  refine wp_mono (deck_wp hl) ?_ fun _ _ _ x => x.elim
  rintro d h ⟨rfl, D, F, L⟩
  exact c h ⟨D, trivial, by rw [L]; simp⟩
/-- lists of ints beside [] -/
theorem eqB_ints {h : Hs} {ns : List Int} : gEqB h (.lst (ns.map .int)) (.lst []) = some ns.isEmpty := by
  have e : pd h (.lst (ns.map .int)) = some (.list (ns.map PyData.int)) := by
    show (pdWs _ (ns.map D.int)).map PyData.list = _
    rw [pdWs_ints]; rfl
  show gEqD h (.lst (ns.map .int)) (.lst []) = _
  unfold gEqD
  rw [e]
  show (if (SeqAt.shaped (.list (ns.map PyData.int)) && SeqAt.shaped (.list [])) = true then _ else none) = _
  rw [shaped_ints ns]
  cases ns <;> rfl
theorem ne_ints {h : Hs} {ns : List Int} : gNe h (.lst (ns.map .int)) (.lst []) = some (.bl (!ns.isEmpty)) := by unfold gNe; rw [eqB_ints]; rfl
theorem ne_T {h : Hs} {a b : List Nat} (ha : Lw a) (hb : Lw b) : gNe h (.str (T a)) (.str (T b)) = some (.bl (!(T a == T b))) := by
  unfold gNe
  rw [gEqB_str (lw_ok ha) (lw_ok hb)]; rfl
theorem ne_sb {h : Hs} {p : Bool} : gNe h (.str (sB p)) (.str (sB p)) = some (.bl false) := by
  have := eq_sb (h := h) (p := p)
  unfold gEq at this
  unfold gNe
  cases q : gEqB h (.str (sB p)) (.str (sB p)) with
  | none => rw [q] at this; cases this
  | some b => rw [q] at this; cases this; rfl
theorem ne_b {h : Hs} {p q : Bool} : gNe h (.bl p) (.bl q) = some (.bl (!(p == q))) := rfl
/-- one of a list, by a number that is not known -/
theorem wp_ixP {h : Hs} {ds : List D} {i : Int} {Q : D → Hs → Prop} {X : XQ} (P : D → Prop) (i0 : 0 ≤ i) (i1 : i < ds.length) (hP : ∀ x ∈ ds, P x) (c : ∀ x, P x → Q x h) : Wp (R.ofO (gIx h (.lst ds) (.int i)) h) Q X := by
  obtain ⟨x, hx, hm, _⟩ := atI_mem i0 i1
  exact wp_some (ix_lst hx) (c x (hP x hm))
def IntIn (a b : Int) (d : D) : Prop := ∃ i, d = .int i ∧ a ≤ i ∧ i ≤ b
theorem intIn {a b i : Int} (h : a ≤ i) (h' : i ≤ b) : IntIn a b (.int i) := ⟨i, rfl, h, h'⟩
theorem all_nil {P : D → Prop} : ∀ x ∈ ([] : List D), P x := fun _ h => by cases h
theorem all_cons {P : D → Prop} {d : D} {ds : List D} (a : P d) (b : ∀ x ∈ ds, P x) : ∀ x ∈ d :: ds, P x := fun x h => by
  rcases List.mem_cons.mp h with e | h
  · rw [e]; exact a
  · exact b x h
theorem tl : ("l" : Str) = T [108] := by decide +kernel
theorem trr : ("r" : Str) = T [114] := by decide +kernel
theorem lw108 : Lw [108] := fun c hc => by rw [List.mem_singleton.mp hc]; omega
theorem lw114 : Lw [114] := fun c hc => by rw [List.mem_singleton.mp hc]; omega
/-- a side -/
def IsSide (cs : List Nat) : Prop := cs = [108] ∨ cs = [114]
theorem IsSide.lw {cs : List Nat} (h : IsSide cs) : Lw cs := by rcases h with rfl | rfl; exact lw108; exact lw114
theorem sides {d : D} (h : d ∈ [D.str (T [108]), D.str (T [114])]) : ∃ cs, d = .str (T cs) ∧ IsSide cs := by
  simp only [List.mem_cons, List.not_mem_nil, or_false] at h
  rcases h with rfl | rfl
  · exact ⟨_, rfl, .inl rfl⟩
  · exact ⟨_, rfl, .inr rfl⟩
/-- in, of closed data -/
theorem inD_c {hs : Hs} {d e : D} {p : PyData} {ps : List PyData} {b : Bool} (h1 : pd hs d = some p) (h2 : pd hs e = some (.list ps)) (h3 : (SeqAt.shaped p && SeqAt.shaped (.list ps)) = true) (h4 : (ps.any fun z => PyData.eqv z p) = b) : inD hs d e = some b := by
  unfold inD
  rw [h1, h2]
  dsimp only
  rw [if_pos h3, h4]
theorem inAB_ll {hs : Hs} {xs ys : List D} : inAB hs (.lst xs) (.lst ys) = inD hs (.lst xs) (.lst ys) := rfl
theorem wp_ne_sb {h : Hs} {p : Bool} {Q : D → Hs → Prop} {X : XQ} (g : Q (.bl false) h) : Wp (R.ofO (gNe h (.str (sB p)) (.str (sB p))) h) Q X := wp_some ne_sb g
theorem wp_eq_sb {h : Hs} {p : Bool} {Q : D → Hs → Prop} {X : XQ} (g : Q (.bl true) h) : Wp (R.ofO (gEq h (.str (sB p)) (.str (sB p))) h) Q X := wp_some eq_sb g
/-! ### dicts -/
theorem wp_d0t {e : Ev} {h : Hs} {Q : D → Hs → Prop} {X : XQ} (g : Q (.ref h.length) (h ++ [.dt []])) : Wp (eD0T e h) Q X := wp_ok g
theorem wp_d0k {e : Ev} {h : Hs} {Q : D → Hs → Prop} {X : XQ} (g : Q (.ref h.length) (h ++ [.dk []])) : Wp (eD0K e h) Q X := wp_ok g
theorem wp_d0 {e : Ev} {h : Hs} {Q : D → Hs → Prop} {X : XQ} (g : Q (.dct [] []) h) : Wp (eD0 e h) Q X := wp_ok g
theorem wp_valsT {f : FE} {e : Ev} {h : Hs} {Q : List D → Hs → Prop} {X : XQ} (g : Wp (f e h) (fun d h => ∃ n kvs, d = .ref n ∧ h[n]? = some (.dt kvs) ∧ Q (kvs.map (·.2)) h) X) : Wp (lValsT f e h) Q X := by
  refine wp_bind (wp_mono g (fun d h' q => ?_) fun _ _ _ x => x)
  obtain ⟨n, kvs, rfl, hn, q⟩ := q
  dsimp only
  rw [hn]
  exact wp_ok q
theorem set_dt {h : Hs} {n : Nat} {kvs : List (List Key × D)} {ds : List D} {k : List Key} {v : D} (hn : h[n]? = some (.dt kvs)) (hk : keysD ds = some k) (hz : kvs.length < sizeLine) : mSetA h (.ref n) (.tup ds) v = some (h.set n (.dt (putG kvs k v))) := by
  unfold mSetA
  dsimp only
  rw [hn]
  dsimp only
  rw [hk]
  dsimp only
  rw [if_pos hz]
theorem putG_len {k : Type} [DecidableEq k] (kvs : List (k × D)) (x : k) (v : D) : (putG kvs x v).length ≤ kvs.length + 1 := by
  unfold putG
  split
  · rw [List.length_map]; omega
  · rw [List.length_append]; exact Nat.le_refl _
theorem putG_all {k : Type} [DecidableEq k] {P : D → Prop} {kvs : List (k × D)} {x : k} {v : D} (h : ∀ p ∈ kvs, P p.2) (hv : P v) : ∀ p ∈ putG kvs x v, P p.2 := by
  unfold putG
  split
  · intro p hp
    obtain ⟨q, hq, rfl⟩ := List.mem_map.mp hp
    split
    · exact hv
    · exact h q hq
  · intro p hp
    rcases List.mem_append.mp hp with hp | hp
    · exact h p hp
    · rw [List.mem_singleton.mp hp]; exact hv
end G

/-! # G20: data with dicts and lists: repr -/
namespace G
open PySem PySem.Spec PyProof.Rows L2
def kP : Key → PyData
  | .inl i => .int i
  | .inr s => .str s
mutual
/-- data with dicts; what numbers stand for: r -/
def pdX (r : Nat → Option PyData) : D → Option PyData
  | .non => some .none
  | .bl b => some (.bool b)
  | .int i => some (.int i)
  | .str s => some (.str s)
  | .tup ds => (pdXs r ds).map .tuple
  | .lst ds => (pdXs r ds).map .list
  | .scr _ => none
  | .ref n => r n
  | .ty _ => none
  | .ctp _ => none
  | .dct ks ds => (pdXs r ds).map fun ps => .dict ((ks.map kP).zip ps)
  | .dtp _ _ => none
  | .ins _ _ _ => none
  | .glb _ => none
  | .exn _ _ _ => none
def pdXs (r : Nat → Option PyData) : List D → Option (List PyData)
  | [] => some []
  | d :: ds => match pdX r d with
    | some p => match pdXs r ds with | some ps => some (p :: ps) | none => none
    | none => none
end
def pdXH (hs : Hs) : Nat → Nat → Option PyData
  | 0, _ => none
  | k + 1, n => match hs[n]? with
    | some (.lst ds) => (pdXs (pdXH hs k) ds).map .list
    | _ => none
/-- read in the heap, apart from the table of modules -/
def Rdn (h : Heap) (v : Value) (p : PyData) : Prop := ∃ as, Reads h v p as ∧ sysModules ∉ as
def Rdns (h : Heap) (vs : List Value) (ps : List PyData) : Prop := ∃ as, ReadsAll h vs ps as ∧ sysModules ∉ as
theorem Rdns.nil {h : Heap} : Rdns h [] [] := ⟨[], .nil, by simp⟩
theorem Rdns.cons {h : Heap} {v : Value} {p : PyData} {vs : List Value} {ps : List PyData} (a : Rdn h v p) (b : Rdns h vs ps) : Rdns h (v :: vs) (p :: ps) := by
  obtain ⟨as, r, n⟩ := a
  obtain ⟨bs, s, m⟩ := b
  exact ⟨_, .cons r s, by simp [n, m]⟩
theorem pdXs_len {r : Nat → Option PyData} : ∀ {ds : List D} {ps : List PyData}, pdXs r ds = some ps → ps.length = ds.length
  | [], ps, e => by unfold pdXs at e; cases e; rfl
  | d :: ds, ps, e => by
    unfold pdXs at e
    split at e
    · split at e
      · rename_i qs hq
        cases e
        rw [List.length_cons, List.length_cons, pdXs_len hq]
      · cases e
    · cases e
section
variable {X : Cx} {pins : List (Addr × Obj)} {σ : L2.St} {H : Hp} {s : Shared} {mu : Mp} {hs : Hs}
/-- what is tracked is not the table of modules -/
theorem not_sm (I : L2.Inv X pins σ H s) (sm : ∃ o, X.base.get? sysModules = some o) {a : Addr} {u : HO} (h : H a = some u) : sysModules ≠ a := by
  obtain ⟨o, e⟩ := sm
  rintro rfl
  have := (I.bs _ _ e).2
  rw [h] at this; cases this
theorem keys_rd {h : Heap} {P : Program} {w : World} : ∀ {es : List DictEntry} {vs : List (Key × Value)}, Pairs (mixKind P w) es vs → ReadsAll h (es.map (·.key)) ((vs.map (·.1)).map kP) []
  | _, _, .nil => .nil
  | _, _, .cons (e := e) (kv := kv) hk hv t => by
    have r : Reads h e.key (kP kv.1) [] := by
      rcases keyIs_shape (show keyIs kv.1 e.key = true from hk) with ⟨i, tk, h1, h2⟩ | ⟨x, tk, h1, h2⟩
      · rw [h1, h2]; exact .int i tk
      · rw [h1, h2]; exact .str x tk
    exact ReadsAll.cons r (keys_rd t)
theorem vals_pairs {P : Program} {w : World} : ∀ {es : List DictEntry} {vs : List (Key × Value)}, Pairs (mixKind P w) es vs → es.map (·.val) = vs.map (·.2)
  | _, _, .nil => rfl
  | _, _, .cons hk hv t => by rw [List.map_cons, List.map_cons, hv, vals_pairs t]
mutual
theorem rd_reads (I : L2.Inv X pins σ H s) (sm : ∃ o, X.base.get? sysModules = some o) {r : Nat → Option PyData} (hr : ∀ n a p, mu.l[n]? = some a → r n = some p → Rdn s.heap (.ref a) p) : ∀ (d : D) (v : V) (u : Value) (p : PyData), RD X.K mu H d v → RelV v u → pdX r d = some p → Rdn s.heap u p
  | .non, _, _, _, h, r, e => by cases h; cases e; cases r; exact ⟨[], .none, by simp⟩
  | .bl b, _, _, _, h, r, e => by cases h; cases e; cases r; exact ⟨[], .bool b, by simp⟩
  | .int i, _, _, _, h, r, e => by cases h; cases e; obtain ⟨t, rfl⟩ := r; exact ⟨[], .int i t, by simp⟩
  | .str z, _, _, _, h, r, e => by cases h; cases e; obtain ⟨t, rfl⟩ := r; exact ⟨[], .str z t, by simp⟩
  | .ref n, _, _, _, h, r, e => by
    cases h with
    | ref q => cases r; exact hr _ _ _ q e
  | .tup ds, _, _, _, h, r, e => by
    cases h with
    | tup q rr =>
      obtain ⟨ps, h1, h2⟩ := Option.map_eq_some_iff.mp (show (pdXs _ ds).map PyData.tuple = some _ from e)
      subst h2
      cases r
      obtain ⟨its, rv, ⟨o, ho, hc, n, hd⟩, _⟩ := I.tuple q.sq
      obtain ⟨as, hr, hn⟩ := rds_reads I sm hr ds _ _ ps rr rv h1
      exact ⟨as, Reads.tuple ho hc hd hr, hn⟩
  | .lst ds, _, _, _, h, r, e => by
    cases h with
    | lst q z rr =>
      obtain ⟨ps, h1, h2⟩ := Option.map_eq_some_iff.mp (show (pdXs _ ds).map PyData.list = some _ from e)
      subst h2
      cases r
      obtain ⟨_, its, n, rv, ho⟩ := I.hok _ _ q
      obtain ⟨as, hr, hn⟩ := rds_reads I sm hr ds _ _ ps rr rv h1
      refine ⟨_, Reads.list ho rfl rfl (by simpa using hr), ?_⟩
      have := not_sm I sm q
      simp [hn, this]
  | .dct ks ds, _, _, _, h, r, e => by
    cases h with
    | dct q z hl rr =>
      rename_i a vs
      obtain ⟨ps, h1, h2⟩ := Option.map_eq_some_iff.mp (show (pdXs _ ds).map (fun ps => PyData.dict ((ks.map kP).zip ps)) = some _ from e)
      subst h2
      cases r
      obtain ⟨_, hd, ws, rel, o, es, ep, ho, hx, hdat, _, hp, _⟩ := dk_of I.hok q
      have hlv : ks.length = vs.length := by rw [hl, rr.length]
      have k1 : ws.map (·.1) = ks := by
        have : ∀ {l : List (Key × V)} {m : List (Key × Value)}, KV l m → m.map (·.1) = l.map (·.1) := by
          intro l m r
          unfold KV at r
          induction r with
          | nil => rfl
          | cons h t ih => rw [List.map_cons, List.map_cons, ih, h.1]
        rw [this rel, List.map_fst_zip (by omega)]
      have k2 : Vals vs (ws.map (·.2)) := by
        have : ∀ {l : List (Key × V)} {m : List (Key × Value)}, KV l m → Vals (l.map (·.2)) (m.map (·.2)) := by
          intro l m r
          unfold KV at r
          induction r with
          | nil => exact .nil
          | cons h t ih => exact .cons h.2 ih
        have := this rel
        rw [List.map_snd_zip (by omega)] at this
        exact this
      obtain ⟨as, hr, hn⟩ := rds_reads I sm hr ds _ _ ps rr k2 h1
      have hpl := pdXs_len h1
      refine ⟨a :: [] ++ as, Reads.dict ho hx.1 hdat ?_ ?_, ?_⟩
      · rw [List.map_fst_zip (by rw [List.length_map]; omega)]
        have := keys_rd (h := s.heap) hp
        rw [k1] at this
        exact this
      · rw [List.map_snd_zip (by rw [List.length_map]; omega), vals_pairs hp]
        exact hr
      · have := not_sm I sm q
        simp [hn, this]
  | .scr _, _, _, _, _, _, e => nomatch e
  | .ty _, _, _, _, _, _, e => nomatch e
  | .ctp _, _, _, _, _, _, e => nomatch e
  | .dtp _ _, _, _, _, _, _, e => nomatch e
  | .ins _ _ _, _, _, _, _, _, e => nomatch e
  | .glb _, _, _, _, _, _, e => nomatch e
  | .exn _ _ _, _, _, _, _, _, e => nomatch e
theorem rds_reads (I : L2.Inv X pins σ H s) (sm : ∃ o, X.base.get? sysModules = some o) {r : Nat → Option PyData} (hr : ∀ n a p, mu.l[n]? = some a → r n = some p → Rdn s.heap (.ref a) p) : ∀ (ds : List D) (vs : List V) (us : List Value) (ps : List PyData), RDs X.K mu H ds vs → Vals vs us → pdXs r ds = some ps → Rdns s.heap us ps
  | [], _, _, _, h, r, e => by cases h; cases r; unfold pdXs at e; cases e; exact .nil
  | d :: ds, _, _, _, h, r, e => by
    cases h with
    | cons h1 h2 =>
      cases r with
      | cons r1 r2 =>
        unfold pdXs at e
        split at e
        · rename_i p hp
          split at e
          · rename_i ps hps
            cases e
            exact .cons (rd_reads I sm hr d _ _ p h1 r1 hp) (rds_reads I sm hr ds _ _ ps h2 r2 hps)
          · cases e
        · cases e
end
theorem pdXH_at (I : L2.Inv X pins σ H s) (sm : ∃ o, X.base.get? sysModules = some o) (S : Sim X.K X.mg mu hs H) : ∀ (k n : Nat) (a : Addr) (p : PyData), mu.l[n]? = some a → pdXH hs k n = some p → Rdn s.heap (.ref a) p
  | 0, _, _, _, _, e => by cases e
  | k + 1, n, a, p, hn, e => by
    unfold pdXH at e
    split at e
    · rename_i ds hd
      obtain ⟨ps, h1, h2⟩ := Option.map_eq_some_iff.mp e
      subst h2
      obtain ⟨u, e1, e2⟩ := S.at hn hd
      cases u <;> first
        | (rename_i vs
           obtain ⟨_, its, n, rv, ho⟩ := I.hok _ _ e1
           obtain ⟨as, hr, hnn⟩ := rds_reads I sm (fun n a p h q => pdXH_at I sm S k n a p h q) ds _ _ ps e2 rv h1
           refine ⟨_, Reads.list ho rfl rfl (by simpa using hr), ?_⟩
           have := not_sm I sm e1
           simp [hnn, this])
        | exact e2.elim
    · cases e
end
/-- repr of data, with dicts -/
def okX (p : PyData) : Bool := p.showable && decide (p.depth ≤ 60) && decide (p.shown.length ≤ sizeLine)
def isComp : D → Bool
  | .tup _ => true
  | .lst _ => true
  | .dct _ _ => true
  | .ref _ => true
  | _ => false
def gReprA (hs : Hs) (ds : List D) : Option D := match gRepr hs ds with
  | some w => some w
  | none => (match ds with
    | [d] => if isComp d = true then (match pdX (pdXH hs 40) d with | some p => if okX p = true then some (.str p.shown) else none | none => none) else none
    | _ => none)
theorem cg_reprA {X : Cx} (hgd : X.A.guards = some []) (hu : X.A.units + 64 < cLine) (sm : ∃ o, X.base.get? sysModules = some o) : CallR X (.builtin "repr") (rC X.K X.mg gReprA) := by
  rintro pins s σ H xs us Q I r ⟨mu, hs, ds, w, S, rs, hg, q⟩
  unfold gReprA at hg
  have go : ∀ (d : D) (a : Addr) (p : PyData), RD X.K mu H d (.ref a) → xs = [.ref a] → pdX (pdXH hs 40) d = some p → okX p = true → some (D.str p.shown) = some w → wpAny (model X.prog X.w) X.A (call (.builtin "repr") us) (EP X pins σ Q) X.xe s := by
    intro d a p hd hx hp hz hw
    cases hw
    subst hx
    unfold okX at hz
    simp only [Bool.and_eq_true, decide_eq_true_eq] at hz
    obtain ⟨⟨z1, z2⟩, z3⟩ := hz
    obtain ⟨u, rfl, ru⟩ := vals1 r
    obtain ⟨as, rd, hn⟩ := rd_reads I sm (fun n a p h q => pdXH_at I sm S 40 n a p h q) d _ _ p hd ru hp
    cases ru
    exact repr_of_reads' rd z1 (fun _ => hn) hgd (by omega) (fun _ _ e => e) (fun h' t tk hk => ⟨.str p.shown, H, I.kept hk, ⟨t, rfl⟩, fin0 S q (.str _)⟩) z3
  split at hg
  · rename_i w' hw
    cases hg
    exact cg_repr hgd hu pins s σ H xs us Q I r ⟨mu, hs, ds, _, S, rs, hw, q⟩
  · split at hg
    · rename_i d _
      split at hg
      · rename_i hc
        split at hg
        · rename_i p hp
          split at hg
          · rename_i hz
            cases rs with
            | cons r1 r2 =>
              cases r2
              have r1' := r1
              cases r1 <;> first
                | exact go _ _ p r1' rfl hp hz hg
                | cases hc
          · cases hg
        · cases hg
      · cases hg
    · cases hg
end G

/-! # G21: tuples and lists times a number; upper -/
namespace G
open PySem PySem.Spec PyProof.Rows L2
def gMulA (hs : Hs) (d e : D) : Option D := match d with
  | .tup xs => (match e with | .int k => if (!xs.isEmpty && decide (2 ≤ k) && decide (k ≤ 1000) && decide (xs.length ≤ 1000)) = true then some (.tup (List.replicate k.toNat xs).flatten) else none | _ => none)
  | .lst xs => (match e with | .int k => if (decide (-1000 ≤ k) && decide (k ≤ 1000) && decide (xs.length ≤ 1000)) = true then some (.lst (List.replicate k.toNat xs).flatten) else none | _ => none)
  | d => gMul hs d e
section
variable {X : Cx}
theorem RDs.rep {K : PySem.W.Frag} {mu : Mp} {H : Hp} {ds : List D} {vs : List V} (r : RDs K mu H ds vs) : ∀ n : Nat, RDs K mu H (List.replicate n ds).flatten (List.replicate n vs).flatten
  | 0 => .nil
  | n + 1 => by
    rw [List.replicate_succ, List.replicate_succ, List.flatten_cons, List.flatten_cons]
    exact r.append (RDs.rep r n)
theorem og_mulA : OpR X (binaryOp .Mult) (rB X.K X.mg gMulA) := by
  rintro pins s σ H x y v u Q I rx ry ⟨mu, hs, d, e, w, S, r1, r2, hg, q⟩
  unfold gMulA at hg
  split at hg
  · rename_i xs
    split at hg
    · rename_i k
      split at hg
      · rename_i hz
        simp only [Bool.and_eq_true, decide_eq_true_eq, Bool.not_eq_true'] at hz
        obtain ⟨⟨⟨z1, z2⟩, z3⟩, z4⟩ := hz
        cases hg
        cases r2
        cases r1 with
        | tup ht hr =>
          rename_i a vs
          have hl := hr.length
          have ne : vs ≠ [] := by
            intro e
            subst e
            cases hr
            cases z1
          exact op_repT pins s σ H _ _ v u Q I rx ry ⟨a, k, vs, rfl, rfl, ht.sq, ne, z2, z3, by omega, fun p hp => q mu _ _ (.new hp) (S.new hp) (.tup ⟨upd_same, S.fresh hp⟩ (RDs.agr (Lat.agr (.new hp) S) (hr.rep _)))⟩
      · cases hg
    · cases hg
  · rename_i xs
    split at hg
    · rename_i k
      split at hg
      · rename_i hz
        simp only [Bool.and_eq_true, decide_eq_true_eq] at hz
        obtain ⟨⟨z1, z2⟩, z3⟩ := hz
        cases hg
        cases r2
        cases r1 with
        | lst ht nz hr =>
          rename_i a vs
          have hl := hr.length
          have hm : vs.length * k.toNat ≤ sizeLine := by
            rw [sizeLine_eq, ← hl]
            exact Nat.le_trans (Nat.mul_le_mul z3 (show k.toNat ≤ 1000 by omega)) (by decide)
          exact op_rep pins s σ H _ _ v u Q I rx ry ⟨a, k, vs, rfl, rfl, ht, by omega, by omega, hm, fun p hp => q (mu.still p) _ _ (.newStill hp) (S.newStill hp) (.lst upd_same (.inl rfl) (RDs.agr (Lat.agr (.newStill hp) S) (hr.rep _)))⟩
      · cases hg
    · cases hg
  · exact og_mul pins s σ H x y v u Q I rx ry ⟨mu, hs, d, e, w, S, r1, r2, hg, q⟩
/-- text.upper() -/
def mUpper (hs : Hs) (d : D) (ds : List D) : Option (D × Hs) := match ds with
  | [] => (match d with | .str a => if a.length ≤ 5592405 then some (.str (Txt.upper a), hs) else none | _ => none)
  | _ => none
theorem mg_upper : MtR X "str.upper" (rMd X.K X.mg mUpper) := by
  rintro pins s σ H x xs v us Q I rx rxs ⟨mu, hs, d, ds, w, hs', S, r1, r2, hg, q⟩
  unfold mUpper at hg
  split at hg
  · split at hg
    · split at hg
      · rename_i hz
        cases hg
        cases r1
        cases r2
        exact mt_upper pins s σ H _ _ v us Q I rx rxs ⟨_, rfl, rfl, hz, fin0 S q (.str _)⟩
      · cases hg
    · cases hg
  · cases hg
end
end G

/-! # G22: {k: v} by value, one entry with a fixed key -/
namespace G
open PySem PySem.Spec PyProof.Rows L2
section
variable {K : PySem.W.Frag} {mg : Str → Option Value} {mu mu' : Mp} {hs hs' : Hs} {H H' : Hp}
theorem Agr.privI {p : Addr} {u : HO} {o : HO} (h : H p = some u) (i : ¬ Imm u) (nz : ¬ mu.fz p) : Agr mu H mu (upd H p o) :=
  ⟨List.prefix_rfl, fun _ h => h, fun a us e z => by rw [upd_ne (show a ≠ p from fun q => nz (q ▸ z))]; exact e, fun a w e im n => ⟨by
    rw [upd_ne]
    · exact e
    · intro z; rw [z, h] at e; cases e; exact i im, n⟩⟩
theorem Sim.privI {p : Addr} {u : HO} {o : HO} (S : Sim K mg mu hs H) (h : H p = some u) (i : ¬ Imm u) (n : p ∉ mu.l) (nz : ¬ mu.fz p) : Sim K mg mu hs (upd H p o) :=
  ⟨S.len, S.nd, S.dj, fun a z => by
    obtain ⟨u, e⟩ := S.fzl a z
    exact ⟨u, by rw [upd_ne (show a ≠ p from fun q => nz (q ▸ z))]; exact e⟩, fun k q hq => by
    obtain ⟨a, w, e1, e2, e3⟩ := S.obj k q hq
    exact ⟨a, w, e1, by rw [upd_ne (fun z => n (by rw [← z]; exact List.mem_of_getElem? e1))]; exact e2, RO.agr (.privI h i nz) e3⟩⟩
variable {X : Cx} {Wd : WX} {pos p1 : Pos} {i : Int} {j : Nat} {v : Expr} {f : FE}
def eD1 (k : Key) (f : FE) : FE := fun e hs => (f e hs).bind fun d hs => .ok (.dct [k] [d]) hs
theorem ue_d1 (ha : UE X Wd v f) : UE X Wd (.Dict [some (.Constant (.int i) j p1)] [v] pos) (eD1 (.inl i) f) := by
  refine PE.imp (pe_disp (pps_cons pe_int ha pps_nil) rfl rfl (List.cons_ne_nil _ _) (Nat.le_of_ble_eq_true rfl)) fun σ H Q h p hp => ?_
  obtain ⟨e, mu, hs, S, E, g⟩ := h
  refine ⟨e, mu, hs, S.new hp, E.agr (Lat.agr (.new hp) S), ?_⟩
  unfold eD1 at g
  cases q : f e hs with
  | bad => rw [q] at g; exact g
  | exc c fs hs' => rw [q] at g; exact fun mu' H' cls dx l s rr => g mu' H' cls dx ((Lat.new hp).trans l) s rr
  | ok d hs' =>
    rw [q] at g
    intro mu1 H1 y l S1 r1
    obtain ⟨e1, n1, z1⟩ := l.ext p _ upd_same (S.fresh hp)
    have nz : ¬ mu1.fz p := fun z => S.freshz hp (z1 z)
    have ni : ¬ Imm (.dK []) := fun z => z
    refine ⟨e1, [(.inl i, y)], rfl, Nat.le_of_ble_eq_true rfl, ?_⟩
    have S2 := S1.privI (o := .dK [(Sum.inl i, y)]) e1 ni n1 nz
    refine g (mu1.still p) _ (.ref p) ⟨l.pre, fun a z => .inr (l.sub a z), fun b o hb nb => ?_⟩ (S2.still upd_same n1) (.dct (ks := [.inl i]) (vs := [y]) upd_same (.inl rfl) rfl (.cons (RD.agr .still (RD.agr (.privI e1 ni nz) r1)) .nil))
    have hbp : b ≠ p := ne_of_none hb hp
    obtain ⟨a1, a2, a3⟩ := l.ext b o (by rw [upd_ne hbp]; exact hb) nb
    exact ⟨by show upd H1 p _ b = _; rw [upd_ne hbp]; exact a1, a2, fun z => z.elim (fun e => absurd e hbp) a3⟩
end
end G

/-! # G23: a text times a number -/
namespace G
open PySem PySem.Spec PyProof.Rows L2
def repS (x : Str) (n : Int) : Str := ⟨(List.replicate n.toNat x.cps).foldl (· ++ ·) #[]⟩
theorem fold_size : ∀ (k : Nat) (a acc : Array Nat), ((List.replicate k a).foldl (· ++ ·) acc).size = acc.size + k * a.size
  | 0, a, acc => by simp
  | k + 1, a, acc => by
    rw [List.replicate_succ, List.foldl_cons, fold_size k a, Array.size_append, Nat.succ_mul]
    omega
theorem fold_T : ∀ (k : Nat) (a acc : List Nat), (List.replicate k a.toArray).foldl (· ++ ·) acc.toArray = (acc ++ (List.replicate k a).flatten).toArray
  | 0, a, acc => by simp
  | k + 1, a, acc => by
    rw [List.replicate_succ, List.foldl_cons, List.append_toArray, fold_T k a, List.replicate_succ, List.flatten_cons, List.append_assoc]
theorem repS_T (a : List Nat) (n : Int) : repS (T a) n = T (List.replicate n.toNat a).flatten := by
  unfold repS T
  exact congrArg Str.mk ((fold_T n.toNat a []).trans (by rw [List.nil_append]))
def gMulS (hs : Hs) (d e : D) : Option D := match d with
  | .str x => (match e with | .int n => if (decide (2 ≤ n) && decide (n ≤ 10000) && decide (x.length ≤ 1000)) = true then some (.str (repS x n)) else none | _ => none)
  | d => gMulA hs d e
theorem og_mulS {X : Cx} : OpR X (binaryOp .Mult) (rB X.K X.mg gMulS) := by
  rintro pins s σ H x y v u Q I rx ry ⟨mu, hs, d, e, w, S, r1, r2, hg, q⟩
  unfold gMulS at hg
  split at hg
  · rename_i z
    split at hg
    · rename_i n
      split at hg
      · rename_i hz
        simp only [Bool.and_eq_true, decide_eq_true_eq] at hz
        obtain ⟨⟨z1, z2⟩, z4⟩ := hz
        cases hg
        cases r1; cases r2
        obtain ⟨t, rfl⟩ := rx
        obtain ⟨t2, rfl⟩ := ry
        have hm : z.length * n.toNat ≤ 10000000 := by
          have := Nat.mul_le_mul z4 (show n.toNat ≤ 10000 by omega)
          omega
        by_cases z3 : z.length = 0
        · have hq : (n == 1 || z.length == 0) = true := by rw [z3]; exact Bool.or_true _
          have hr : repS z n = z := by
            have hz : z = ⟨#[]⟩ := by
              have : z.cps = #[] := Array.eq_empty_of_size_eq_zero z3
              cases z; exact congrArg Str.mk this
            rw [hz]
            have : ∀ k : Nat, (List.replicate k (#[] : Array Nat)).foldl (· ++ ·) #[] = #[] := by
              intro k
              induction k with
              | zero => rfl
              | succ k ih => rw [List.replicate_succ, List.foldl_cons]; exact ih
            exact congrArg Str.mk (this _)
          refine PySem.P.mul_str (by rw [decide_eq_false (by omega), decide_eq_false (by omega)]; rfl) (fun _ h => ?_) (fun _ h => ?_) ?_
          · rw [hq] at h; cases h
          · rw [hq] at h; cases h
          · rw [if_neg (by omega), if_pos hq]
            refine ⟨.str z, H, I, ⟨_, rfl⟩, ?_⟩
            rw [hr] at q
            exact fin0 S q (.str _)
        have z3 : 1 ≤ z.length := by omega
        have hq : (n == 1 || z.length == 0) = false := by
          rw [Bool.or_eq_false_iff]
          exact ⟨beq_eq_false_iff_ne.mpr (by omega), beq_eq_false_iff_ne.mpr (by omega)⟩
        refine PySem.P.mul_str (by rw [decide_eq_false (by omega), decide_eq_false (by omega)]; rfl) (fun _ _ => ?_) (fun _ _ => ?_) ?_
        · have : (z.length : Int) ≤ (2 ^ 63 - 1) / n := by
            rw [Int.le_ediv_iff_mul_le (by omega)]
            have h1 : (z.length : Int) * n ≤ 1000 * 10000 := Int.mul_le_mul (by omega) (by omega) (by omega) (by omega)
            omega
          omega
        · unfold Builtin.Str.tooLong
          rw [sizeLine_eq]
          exact decide_eq_false (by omega)
        · rw [if_neg (by omega), if_neg (by rw [hq]; exact Bool.false_ne_true)]
          refine ⟨?_, ⟨.str (repS z n), H, I.tok _, ⟨_, rfl⟩, fin0 S q (.str _)⟩⟩
          show ((List.replicate n.toNat z.cps).foldl (· ++ ·) #[]).size ≤ sizeLine
          rw [fold_size, sizeLine_eq]
          have h3 : n.toNat * z.cps.size ≤ 10000000 := by rw [Nat.mul_comm]; exact hm
          simp
          omega
      · cases hg
    · cases hg
  · exact og_mulA pins s σ H x y v u Q I rx ry ⟨mu, hs, d, e, w, S, r1, r2, hg, q⟩
end G

/-! # G24: WP rules of what came later -/
namespace G
open PySem PySem.Spec PyProof.Rows L2
section
variable {h hs : Hs} {e : Ev} {Q : D → Hs → Prop} {X : XQ} {p : Bool} {i j : Int} {z : Str} {a : List Nat} {xs : List D}
theorem reprA_b : gReprA h [.bl p] = some (.str (sB p)) := by unfold gReprA; rw [repr_b]
theorem wp_d1 {k : Key} {f : FE} (g : Wp (f e hs) (fun d h => Q (.dct [k] [d]) h) X) : Wp (eD1 k f e hs) Q X := wp_bind (wp_mono g (fun _ _ q => wp_ok q) fun _ _ _ x => x)
theorem mulS_i (q : (small64 i || small64 j) = true) : gMulS h (.int i) (.int j) = some (.int (i * j)) := mul_int (h := h) q
theorem mulS_T {n : Int} (h1 : 2 ≤ n) (h2 : n ≤ 10000) (h3 : 1 ≤ a.length) (h4 : a.length ≤ 1000) : gMulS h (.str (T a)) (.int n) = some (.str (T (List.replicate n.toNat a).flatten)) := by
  unfold gMulS
  dsimp only
  rw [T_len, decide_eq_true h1, decide_eq_true h2, decide_eq_true h4, repS_T]
  rfl
theorem mulS_tup {n : Int} (h1 : 2 ≤ n) (h2 : n ≤ 1000) (h3 : xs.isEmpty = false) (h4 : xs.length ≤ 1000) : gMulS h (.tup xs) (.int n) = some (.tup (List.replicate n.toNat xs).flatten) := by
  show gMulA h (.tup xs) (.int n) = _
  unfold gMulA
  dsimp only
  rw [h3, decide_eq_true h1, decide_eq_true h2, decide_eq_true h4]
  rfl
theorem upper_T (q : a.length ≤ 100000) : mUpper h (.str (T a)) [] = some (.str (Txt.upper (T a)), h) := by
  unfold mUpper
  dsimp only
  rw [T_len, if_pos (by omega)]
/-- repr gives a text -/
theorem repr_str {ds : List D} {w : D} (g : gRepr h ds = some w) : ∃ t, w = .str t := by
  unfold gRepr at g
  repeat' (split at g)
  all_goals first
    | (cases g; exact ⟨_, rfl⟩)
    | cases g
theorem reprA_str {ds : List D} {w : D} (g : gReprA h ds = some w) : ∃ t, w = .str t := by
  unfold gReprA at g
  split at g
  · rename_i w' hw
    cases g
    exact repr_str hw
  · repeat' (split at g)
    all_goals first
      | (cases g; exact ⟨_, rfl⟩)
      | cases g
end
end G

/-! # G25: t[::-1] of a tuple -/
namespace G
open PySem PySem.Spec PyProof.Rows L2 HT
section
theorem adjust_rev (n : Nat) : Builtin.Slice.sliceAdjust none none (-1) (n : Int) = ((n : Int) - 1, -1) := by
  unfold Builtin.Slice.sliceAdjust
  simp
theorem places_rev (n : Nat) : Builtin.Slice.slicePlaces ((n : Int) - 1) (-1) (-1) = n := by
  unfold Builtin.Slice.slicePlaces
  simp
  omega
theorem fm_congr {a b : Type} {f g : a → Option b} : ∀ l : List a, (∀ m ∈ l, f m = g m) → l.filterMap f = l.filterMap g
  | [], _ => rfl
  | x :: l, h => by
    rw [List.filterMap_cons, List.filterMap_cons, h x List.mem_cons_self, fm_congr l fun m hm => h m (List.mem_cons_of_mem _ hm)]
theorem pick_rev (xs : Array Value) : ((List.range xs.size).filterMap fun (m : Nat) => xs[(((xs.size : Int) - 1) + (m : Int) * -1).toNat]?).toArray = xs.toList.reverse.toArray := by
  have e : (fun (m : Nat) => xs[(((xs.size : Int) - 1) + (m : Int) * -1).toNat]?) = fun (m : Nat) => xs[((xs.size : Int) - 1 - (m : Int)).toNat]? := by
    funext m
    have : ((xs.size : Int) - 1) + (m : Int) * -1 = (xs.size : Int) - 1 - m := by omega
    rw [this]
  rw [e]
  have h1 : (List.range xs.size).filterMap (fun (m : Nat) => xs[((xs.size : Int) - 1 - (m : Int)).toNat]?) = ((List.range xs.size).map fun k => xs.size - 1 - k).filterMap (xs[·]?) := by
    rw [List.filterMap_map]
    refine fm_congr _ fun m hm => ?_
    have : ((xs.size : Int) - 1 - m).toNat = xs.size - 1 - m := by have := List.mem_range.mp hm; omega
    rw [this]; rfl
  rw [h1, PySem.W.krv_range, List.filterMap_reverse, PySem.W.krv_all]
end
section
variable {prog : Program} {w : World} {A : Around} {E : Value → Shared → Prop} {s : Shared}
/-- what a slice without ends and with the step -1 comes to -/
theorem applied_rev {sl : Addr} {vs : Value} {n : Nat} {Q : Int × Int × Nat → Shared → Prop} (hs : s.heap.IsSliceOf sl .none .none vs) (ps : IsPart vs (some (-1))) (h : Q ((n : Int) - 1, -1, n) s) :
    wpAny (model prog w) A (Builtin.Slice.sliceApplied (.ref sl) (pure (n : Int))) Q E s := by
  cases ps with
  | int i tk =>
    rcases hs with ⟨o, ho, hc, hd⟩
    have f0 : ∀ R : Value → Shared → Prop, R .none s → wpAny (model prog w) A (field (.ref sl) 0) R E s := fun R q => wpAny_field ho hd rfl q
    have f1 : ∀ R : Value → Shared → Prop, R .none s → wpAny (model prog w) A (field (.ref sl) 1) R E s := fun R q => wpAny_field ho hd rfl q
    have f2 : ∀ R : Value → Shared → Prop, R (.int (-1) tk) s → wpAny (model prog w) A (field (.ref sl) 2) R E s := fun R q => wpAny_field ho hd rfl q
    delta Builtin.Slice.sliceApplied Builtin.Slice.sliceFields
    wp_walk using f0, f1, f2, slicePart_none, slicePart_int
    show Q ((Builtin.Slice.sliceAdjust none none (-1) (n : Int)).1, -1, Builtin.Slice.slicePlaces (Builtin.Slice.sliceAdjust none none (-1) (n : Int)).1 (Builtin.Slice.sliceAdjust none none (-1) (n : Int)).2 (-1)) s
    rw [adjust_rev, places_rev]
    exact h
theorem get_rev {t sl : Addr} {items : Array Value} {vs : Value} {Q : Value → Shared → Prop} (ht : IsTup s.heap t items) (hs : s.heap.IsSliceOf sl .none .none vs) (ps : IsPart vs (some (-1))) (hz : items.size ≤ sizeLine)
    (h : Q (.ref s.heap.objs.size) { s with heap := s.heap.push { cls := .type "tuple", data := .seq items.toList.reverse.toArray } }) : wpAny (model prog w) A (getItem (.ref t) (.ref sl)) Q E s := by
  have ap : ∀ R : Int × Int × Nat → Shared → Prop, R ((items.size : Int) - 1, -1, items.size) s → wpAny (model prog w) A.in1 (Builtin.Slice.sliceApplied (.ref sl) (pure (items.size : Int))) R E s := fun R q => applied_rev hs ps q
  have ty : s.TypeIs (.ref sl) "slice" := hs.imp fun o q => ⟨q.1, q.2.1⟩
  have items_ : ∀ R : Array Value → Shared → Prop, R items s → wpAny (model prog w) A.in1 (Builtin.Tuple.tupleItemsOf (.ref t)) R E s := fun R q => tupleItemsOf_ ht q
  have pk := pick_rev items
  have nz : (((items.size : Int) - 1 == 0 && (-1 : Int) == 1) && (items.size == items.size)) = false := by rw [show ((-1 : Int) == 1) = false from rfl, Bool.and_false]; rfl
  delta getItem
  first | refine wpAny_holding ?_ | skip
  refine wpAny_bind (wpAny_sequenceKey ht.typeIs (by decide) (wpAny_bind (wpAny_callSpecial?_slot (name := Str.ofString "__getitem__") ht.typeIs PyProof.Rows.slot_tuple_getitem (wpAny_call_entry PyProof.Rows.slot_tuple_getitem ht.typeIs entry_tuple_getitem ?_ (args_tuple_getitem _ _)))))
  wp_walk using items_, ap, wpAny_typeOf ty
  rw [pk, if_neg (by rw [List.size_toArray, List.length_reverse, Array.length_toList]; omega)]
  wp_walk
  exact ⟨_, rfl, wpAny_pure h⟩
end
section
variable {X : Cx} {Wd : WX} {a : Expr} {f1 : FE} {pos : Pos}
/-- t[::-1], a tuple or a list that is read, as a value -/
def gRev (hs : Hs) (d : D) : Option D := match d with
  | .tup ds => some (.tup ds.reverse)
  | .ctp ds => some (.tup ds.reverse)
  | .str z => if z.length ≤ sizeLine then some (.str (T z.cps.toList.reverse)) else none
  | d => (rdOf hs d).map fun ds => .lst ds.reverse
def tRevA (K : PySem.W.Frag) (te : TE) : TE := fun σ H Q => te σ H fun x H1 => (∃ z : Str, x = .str z ∧ z.length ≤ sizeLine ∧ Q (.str (T z.cps.toList.reverse)) H1) ∨ ∃ a xs, x = .ref a ∧ ((SqL K H1 a xs ∧ ∀ p, H1 p = none → Q (.ref p) (upd H1 p (.lst xs.reverse))) ∨ (SqT K H1 a xs ∧ ∀ p, H1 p = none → Q (.ref p) (upd H1 p (.tup xs.reverse))))
theorem pickS_rev (z : Str) : (((slicePicked z none none (some (-1, (default : Tok)))).filterMap (z.cps[·]?)).toArray) = z.cps.toList.reverse.toArray := by
  have e : slicePicked z none none (some (-1, (default : Tok))) = (List.range z.cps.size).map fun k => z.cps.size - 1 - k := PySem.W.krv_sliceRange z.cps.size
  rw [e, PySem.W.krv_range, List.filterMap_reverse, PySem.W.krv_all]
theorem pe_revA {e : Expr} {te : TE} {k : Nat} {p1 p2 p3 pos : Pos} (he : PE X e te) : PE X (.Subscript e (.Slice none none (some (.UnaryOp .USub (.Constant (.int 1) k p1) p2)) p3) pos) (tRevA X.K te) := by
  refine ⟨fun pins s σ H Q I h => Subscript_ (thn (he.run pins s σ H _ I h) fun v s1 ⟨x, H1, I1, r1, q⟩ => ?_)⟩
  have step : PO X (some (.UnaryOp .USub (.Constant (.int 1) k p1) p2)) (tPart (tUn (rU fun i => .int (-i)) (tC (.int 1)))) := po_some (pe_un un_neg pe_int)
  refine wpAny_Slice (thn (po_none.run pins s1 σ H1 (fun o G => o = none ∧ G = H1) I1 ⟨rfl, rfl⟩) fun vl s2 ⟨_, _, I2, pl, rfl, rfl⟩ => thn (po_none.run pins s2 σ _ (fun o G => o = none ∧ G = H1) I2 ⟨rfl, rfl⟩) fun vu s3 ⟨_, _, I3, pu, rfl, rfl⟩ => thn (step.run pins s3 σ _ (fun o G => o = some (-1) ∧ G = H1) I3 ⟨1, rfl, -1, rfl, rfl, rfl⟩) fun vs s4 ⟨_, _, I4, ps, rfl, rfl⟩ => ?_)
  have kp : ∀ b ob, s4.heap.get? b = some ob → (s4.heap.push { cls := .type "slice", data := .fields #[vl, vu, vs] }).get? b = some ob := fun b ob q => Heap.get?_push_of_some _ q
  have J := I4.kept (t' := s4.toks) kp
  rcases q with ⟨z, rfl, hz, q⟩ | ⟨a, xs, hx, q⟩
  · obtain ⟨tz, rfl⟩ := r1
    cases pl
    cases pu
    cases ps with
    | int i tk =>
      refine tail_any (ops := [.str z tz, .ref s4.heap.objs.size]) (typeIs_str _ z tz) PySem.F.slot_str_getitem.lookup (wpAny_getItem_str_slice (l := none) (u := none) (st := some (-1, tk)) ⟨_, Heap.get?_push_size _ rfl, rfl, rfl⟩ rfl ?_) (by with_unfolding_all rfl)
      have e : sliceMade z tz none none (some (-1, tk)) = .str (T z.cps.toList.reverse) := congrArg (fun a => Made.str (Str.mk a)) (pickS_rev z)
      rw [e]
      refine ⟨?_, ⟨.str _, _, J.tok _, ⟨_, rfl⟩, q⟩⟩
      rw [T_len, List.length_reverse]
      exact hz
  subst hx
  cases r1
  rcases q with ⟨hq, q⟩ | ⟨hq, q⟩
  · obtain ⟨its, r, ht, hz⟩ := J.list hq
    have hl := r.length
    refine tail_any (ops := [.ref a, .ref s4.heap.objs.size]) ht.isList.typeIs PySem.slot_list_getitem.lookup (wpAny_getItem_list_slice ht.isList (.new _ vl vu vs) pl pu ps (by decide) ?_ (by rw [List.size_toArray]; omega)) (by with_unfolding_all rfl)
    rw [PySem.W.krv_pick]
    exact ⟨.ref _, _, J.laid (t' := s4.toks) (o := .lst xs.reverse) (fun b ob q => Heap.get?_push_of_some _ q) (Nat.le_refl _) ⟨by rw [List.length_reverse]; exact hz, _, 0, r.reverse, Heap.get?_push_size _ rfl⟩, rfl, q _ (J.hok.fresh (Nat.le_refl _))⟩
  · obtain ⟨its, r, ht, hz⟩ := J.tuple hq
    cases pl
    cases pu
    have hl := r.length
    refine tail_any (ops := [.ref a, .ref s4.heap.objs.size]) ht.typeIs PyProof.Rows.slot_tuple_getitem.lookup (get_rev ht (.new _ .none .none vs) ps (by rw [List.size_toArray]; omega) ?_) (by with_unfolding_all rfl)
    exact ⟨.ref _, _, J.laid (t' := s4.toks) (o := .tup xs.reverse) (fun b ob q => Heap.get?_push_of_some _ q) (Nat.le_refl _) ⟨by rw [List.length_reverse]; exact hz, _, r.reverse, ⟨_, Heap.get?_push_size _ rfl, rfl, 0, rfl⟩⟩, rfl, q _ (J.hok.fresh (Nat.le_refl _))⟩
theorem ue_revA {k : Nat} {p1 p2 p3 : Pos} (ha : UE X Wd a f1) : UE X Wd (.Subscript a (.Slice none none (some (.UnaryOp .USub (.Constant (.int 1) k p1) p2)) p3) pos) (eUn gRev f1) := by
  refine PE.imp (pe_revA ha) fun σ H Q h => ?_
  obtain ⟨e, mu, hs, S, E, q⟩ := tG_un h
  refine ⟨e, mu, hs, S, E, q.imp fun x H1 ⟨mu, hs, d, w, S, r, hg, q⟩ => ?_⟩
  unfold gRev at hg
  have lst : (rdOf hs d).map (fun ds => D.lst ds.reverse) = some w → ∃ a xs, x = .ref a ∧ ((SqL X.K H1 a xs ∧ ∀ p, H1 p = none → Q (.ref p) (upd H1 p (.lst xs.reverse))) ∨ (SqT X.K H1 a xs ∧ ∀ p, H1 p = none → Q (.ref p) (upd H1 p (.tup xs.reverse)))) := by
    intro e
    obtain ⟨ds, e1, rfl⟩ := Option.map_eq_some_iff.mp e
    obtain ⟨p, vs, rfl, h1, h2⟩ := rdOf_at S r e1
    exact ⟨p, vs, rfl, .inl ⟨h1, fun p hp => finL S q hp h2.reverse⟩⟩
  have tup : ∀ ds, tupOf d = some ds → w = .tup ds.reverse → ∃ a xs, x = .ref a ∧ ((SqL X.K H1 a xs ∧ ∀ p, H1 p = none → Q (.ref p) (upd H1 p (.lst xs.reverse))) ∨ (SqT X.K H1 a xs ∧ ∀ p, H1 p = none → Q (.ref p) (upd H1 p (.tup xs.reverse)))) := by
    intro ds e e2
    subst e2
    obtain ⟨p, vs, rfl, h1, h2⟩ := tupOf_at r e
    exact ⟨p, vs, rfl, .inr ⟨h1, fun p hp => finT S q hp h2.reverse⟩⟩
  cases d with
  | str z =>
    dsimp only at hg
    split at hg
    · rename_i hz
      cases hg
      cases r
      exact .inl ⟨z, rfl, hz, fin0 S q (.str _)⟩
    · cases hg
  | tup ds => cases hg; exact .inr (tup ds rfl rfl)
  | ctp ds => cases hg; exact .inr (tup ds rfl rfl)
  | _ => exact .inr (lst hg)
/-- a + b of lists, a new list -/
def lAdd (f1 f2 : FE) : FL := fun e hs => (f1 e hs).bind fun x hs => (f2 e hs).bind fun y hs => match lstOf hs x with
  | some xs => (match lstOf hs y with
    | some ys => if xs.length + ys.length ≤ sizeLine then .ok (xs ++ ys) hs else .bad
    | none => .bad)
  | none => .bad
theorem uf_add {b : Expr} {f2 : FE} (ha : UE X Wd a f1) (hb : UE X Wd b f2) : UF X Wd (.BinOp a .Add b pos) (lAdd f1 f2) := by
  refine PE.imp (pe_op op_cat ha hb) fun σ H Q h => ?_
  obtain ⟨e, mu, hs, S, E, q⟩ := tG_seq (r := relD X.K) relF_ok h
  refine ⟨e, mu, hs, S, E, q.imp fun x H1 ⟨e, mu1, hs1, d, S1, E1, r1, g1⟩ => ?_⟩
  refine ⟨e, mu1, hs1, S1, E1, (Gd.bind (r := relD X.K) relF_ok g1).imp fun y H2 ⟨mu2, hs2, d2, l2, S2, r2, g2⟩ => ?_⟩
  split at g2
  · rename_i xs hx
    split at g2
    · rename_i ys hy
      split at g2
      · rename_i hz
        obtain ⟨a, vs, rfl, ha, ra⟩ := lstOf_at S2 (RD.agr (l2.agr S1) r1) hx
        obtain ⟨b, us, rfl, hb, rb⟩ := lstOf_at S2 r2 hy
        exact ⟨a, b, vs, us, rfl, rfl, ha, hb, by rw [← ra.length, ← rb.length]; exact hz, fun p hp => relF_new S2 g2 hp (ra.append rb)⟩
      · exact g2.elim
    · exact g2.elim
  · exact g2.elim
end
end G

/-! # G26: small data: its repr is a text -/
namespace G
open PySem PySem.Spec PyProof.Rows L2
mutual
def dep : D → Nat
  | .tup ds => deps ds + 1
  | .lst ds => deps ds + 1
  | .dct _ ds => deps ds + 1
  | _ => 0
def deps : List D → Nat
  | [] => 0
  | d :: ds => max (dep d) (deps ds)
end
def kblk : Key → Nat
  | .inl _ => 0
  | .inr s => s.length
mutual
def blk : D → Nat
  | .str s => s.length
  | .tup ds => blks ds
  | .lst ds => blks ds
  | .dct ks ds => (ks.map kblk).sum + ks.length + blks ds
  | _ => 0
def blks : List D → Nat
  | [] => 0
  | d :: ds => blk d + 1 + blks ds
end
def klf : Key → Bool
  | .inl i => decide (i.natAbs < 10 ^ 60)
  | .inr s => okS s
mutual
/-- plain data, whole numbers of at most sixty figures -/
def lf : D → Bool
  | .non => true
  | .bl _ => true
  | .int i => decide (i.natAbs < 10 ^ 60)
  | .str s => okS s
  | .tup ds => lfs ds
  | .lst ds => lfs ds
  | .dct ks ds => ks.all klf && decide (ks.length = ds.length) && lfs ds
  | _ => false
def lfs : List D → Bool
  | [] => true
  | d :: ds => lf d && lfs ds
end
theorem lfs_cons {d : D} {ds : List D} : lfs (d :: ds) = true ↔ lf d = true ∧ lfs ds = true := Bool.and_eq_true _ _ ▸ Iff.rfl
theorem lfs_iff {ds : List D} : lfs ds = true ↔ ∀ x ∈ ds, lf x = true := by
  induction ds with
  | nil => exact ⟨fun _ x h => (nomatch h), fun _ => rfl⟩
  | cons d ds ih => rw [lfs_cons, ih]; simp
theorem lfs_app {xs ys : List D} : lfs (xs ++ ys) = true ↔ lfs xs = true ∧ lfs ys = true := by
  rw [lfs_iff, lfs_iff, lfs_iff]
  simp only [List.mem_append]
  exact ⟨fun h => ⟨fun x hx => h x (.inl hx), fun x hx => h x (.inr hx)⟩, fun h x hx => hx.elim (h.1 x) (h.2 x)⟩
theorem blks_app (xs ys : List D) : blks (xs ++ ys) = blks xs + blks ys := by
  induction xs with
  | nil => exact (Nat.zero_add _).symm
  | cons d ds ih => show blk d + 1 + blks (ds ++ ys) = blk d + 1 + blks ds + blks ys; rw [ih]; omega
theorem blks_mem {xs : List D} {x : D} (h : x ∈ xs) : blk x + 1 ≤ blks xs := by
  induction xs with
  | nil => cases h
  | cons d ds ih =>
    show _ ≤ blk d + 1 + blks ds
    rcases List.mem_cons.mp h with rfl | h
    · omega
    · have := ih h; omega
theorem deps_iff {xs : List D} {k : Nat} : deps xs ≤ k ↔ ∀ x ∈ xs, dep x ≤ k := by
  induction xs with
  | nil => exact ⟨fun _ x h => (nomatch h), fun _ => Nat.zero_le _⟩
  | cons d ds ih =>
    show max (dep d) (deps ds) ≤ k ↔ _
    rw [Nat.max_le, ih]; simp
theorem blks_sub {xs ys : List D} (h : xs.Sublist ys) : blks xs ≤ blks ys := by
  induction h with
  | slnil => exact Nat.le_refl _
  | cons a _ ih => exact Nat.le_trans ih (Nat.le_add_left _ _)
  | cons_cons a _ ih => exact Nat.add_le_add_left ih _
theorem blks_rev (xs : List D) : blks xs.reverse = blks xs := by
  induction xs with
  | nil => rfl
  | cons d ds ih => rw [List.reverse_cons, blks_app, ih]; show _ + (blk d + 1 + 0) = blk d + 1 + _; omega
theorem blks_len {xs : List D} : xs.length ≤ blks xs := by
  induction xs with
  | nil => exact Nat.le_refl _
  | cons d ds ih => show ds.length + 1 ≤ blk d + 1 + blks ds; omega

theorem okS_lt {s : Str} (h : okS s = true) : ∀ c ∈ s.cps.toList, c < 0x110000 := by
  intro c hc
  unfold okS at h
  rw [Array.all_eq_true'] at h
  exact of_decide_eq_true (h c (by simpa using hc))
theorem int_lf {i : Int} (h : i.natAbs < 10 ^ 60) : i.natAbs.log2 < 1920 := by
  by_cases z : i.natAbs = 0
  · rw [z]; decide
  · rw [Nat.log2_lt z]
    exact Nat.lt_trans h (by decide +kernel)
theorem int_len {i : Int} (h : i.natAbs < 10 ^ 60) : decide ((PyData.shown (.int i)).length ≤ 64) = true := by
  apply decide_eq_true
  show (Str.ofString (toString i)).length ≤ 64
  rw [PySem.ofString_length]
  exact Nat.le_trans (int_text_length_le10 (by decide) h) (by decide)
structure Good (d : D) (p : PyData) : Prop where
  at_ : ∀ r, pdX r d = some p
  show_ : p.showable = true
  dep_ : p.depth ≤ dep d
  leaf : p.leavesShort 64 = true
  bulk_ : p.bulk ≤ blk d
structure Goods (ds : List D) (ps : List PyData) : Prop where
  at_ : ∀ r, pdXs r ds = some ps
  show_ : PyData.showableAll ps = true
  dep_ : PyData.depthAll ps ≤ deps ds
  leaf : PyData.leavesShortAll 64 ps = true
  bulk_ : PyData.bulkAll ps ≤ blks ds
theorem kP_good {k : Key} (h : klf k = true) : (kP k).showable = true ∧ (kP k).depth = 0 ∧ (kP k).leavesShort 64 = true ∧ (kP k).bulk = kblk k := by
  cases k with
  | inl i =>
    have h : i.natAbs < 10 ^ 60 := of_decide_eq_true h
    exact ⟨decide_eq_true (int_lf h), rfl, int_len h, rfl⟩
  | inr s =>
    refine ⟨rfl, rfl, ?_, rfl⟩
    show (s.cps.toList.all fun c => decide (c < 16 ^ 8)) = true
    rw [List.all_eq_true]
    intro c hc
    have := okS_lt h c hc
    exact decide_eq_true (by omega)
theorem kv_good : ∀ {ks : List Key} {ps : List PyData} {n b : Nat}, ks.length = ps.length → ks.all klf = true → PyData.showableAll ps = true → PyData.depthAll ps ≤ n → PyData.leavesShortAll 64 ps = true → PyData.bulkAll ps ≤ b →
    PyData.showableKv ((ks.map kP).zip ps) = true ∧ PyData.depthKv ((ks.map kP).zip ps) ≤ n ∧ PyData.leavesShortKv 64 ((ks.map kP).zip ps) = true ∧ PyData.bulkKv ((ks.map kP).zip ps) ≤ (ks.map kblk).sum + ks.length + b
  | [], [], n, b, _, _, _, _, _, _ => ⟨rfl, Nat.zero_le _, rfl, Nat.zero_le _⟩
  | k :: ks, p :: ps, n, b, hl, hk, h1, h2, h3, h4 => by
    rw [List.all_cons, Bool.and_eq_true] at hk
    have h1 := (Bool.and_eq_true _ _).mp (show (p.showable && PyData.showableAll ps) = true from h1)
    have h3 := (Bool.and_eq_true _ _).mp (show (p.leavesShort 64 && PyData.leavesShortAll 64 ps) = true from h3)
    have h2 : max p.depth (PyData.depthAll ps) ≤ n := h2
    have h4 : p.bulk + 1 + PyData.bulkAll ps ≤ b := h4
    obtain ⟨g1, g2, g3, g4⟩ := kP_good hk.1
    have ez : ((k :: ks).map kP).zip (p :: ps) = (kP k, p) :: (ks.map kP).zip ps := rfl
    rw [ez]
    obtain ⟨i1, i2, i3, i4⟩ := kv_good (ks := ks) (ps := ps) (n := n) (b := PyData.bulkAll ps) (by simpa using hl) hk.2 h1.2 (by omega) h3.2 (Nat.le_refl _)
    refine ⟨?_, ?_, ?_, ?_⟩
    · show ((kP k).showable && p.showable && PyData.showableKv ((ks.map kP).zip ps)) = true
      rw [g1, h1.1, i1]; rfl
    · show max (max (kP k).depth p.depth) (PyData.depthKv ((ks.map kP).zip ps)) ≤ n
      rw [g2]; omega
    · show ((kP k).leavesShort 64 && p.leavesShort 64 && PyData.leavesShortKv 64 ((ks.map kP).zip ps)) = true
      rw [g3, h3.1, i3]; rfl
    · show (kP k).bulk + p.bulk + 2 + PyData.bulkKv ((ks.map kP).zip ps) ≤ _
      rw [g4, List.map_cons, List.sum_cons, List.length_cons]; omega
mutual
theorem lf_good : ∀ {d : D}, lf d = true → ∃ p, Good d p
  | .non, _ => ⟨_, fun _ => rfl, rfl, Nat.zero_le _, rfl, Nat.zero_le _⟩
  | .bl b, _ => ⟨_, fun _ => rfl, rfl, Nat.zero_le _, rfl, Nat.zero_le _⟩
  | .int i, h => by
    have h' : i.natAbs < 10 ^ 60 := of_decide_eq_true h
    exact ⟨_, fun _ => rfl, decide_eq_true (int_lf h'), Nat.zero_le _, int_len h', Nat.zero_le _⟩
  | .str s, h => by
    refine ⟨.str s, fun _ => rfl, rfl, Nat.zero_le _, ?_, Nat.le_refl _⟩
    show (s.cps.toList.all fun c => decide (c < 16 ^ 8)) = true
    rw [List.all_eq_true]
    intro c hc
    have := okS_lt h c hc
    exact decide_eq_true (by omega)
  | .tup ds, h => by
    obtain ⟨ps, g⟩ := lfs_good (ds := ds) h
    exact ⟨.tuple ps, fun r => by show (pdXs r ds).map PyData.tuple = _; rw [g.at_ r]; rfl, g.show_, Nat.succ_le_succ g.dep_, g.leaf, g.bulk_⟩
  | .lst ds, h => by
    obtain ⟨ps, g⟩ := lfs_good (ds := ds) h
    exact ⟨.list ps, fun r => by show (pdXs r ds).map PyData.list = _; rw [g.at_ r]; rfl, g.show_, Nat.succ_le_succ g.dep_, g.leaf, g.bulk_⟩
  | .dct ks ds, h => by
    have h := (Bool.and_eq_true _ _).mp (show (ks.all klf && decide (ks.length = ds.length) && lfs ds) = true from h)
    have h1 := (Bool.and_eq_true _ _).mp h.1
    obtain ⟨ps, g⟩ := lfs_good (ds := ds) h.2
    obtain ⟨i1, i2, i3, i4⟩ := kv_good (by rw [pdXs_len (g.at_ fun _ => none)]; exact of_decide_eq_true h1.2) h1.1 g.show_ g.dep_ g.leaf g.bulk_
    exact ⟨.dict ((ks.map kP).zip ps), fun r => by show (pdXs r ds).map _ = _; rw [g.at_ r]; rfl, i1, Nat.succ_le_succ i2, i3, i4⟩
theorem lfs_good : ∀ {ds : List D}, lfs ds = true → ∃ ps, Goods ds ps
  | [], _ => ⟨[], fun _ => rfl, rfl, Nat.zero_le _, rfl, Nat.zero_le _⟩
  | d :: ds, h => by
    have h := lfs_cons.mp h
    obtain ⟨p, g⟩ := lf_good h.1
    obtain ⟨ps, g2⟩ := lfs_good h.2
    refine ⟨p :: ps, fun r => ?_, ?_, ?_, ?_, ?_⟩
    · show (match pdX r d with | some p => (match pdXs r ds with | some ps => some (p :: ps) | none => none) | none => none) = _
      rw [g.at_ r, g2.at_ r]
    · show (p.showable && PyData.showableAll ps) = true
      rw [g.show_, g2.show_]; rfl
    · show max _ _ ≤ max _ _
      have := g.dep_; have := g2.dep_; omega
    · show (p.leavesShort 64 && PyData.leavesShortAll 64 ps) = true
      rw [g.leaf, g2.leaf]; rfl
    · show _ + 1 + _ ≤ _ + 1 + _
      have := g.bulk_; have := g2.bulk_; omega
end
mutual
theorem pdW_X {r r' : Nat → Option PyData} : ∀ {d : D} {p : PyData}, lf d = true → pdW r d = some p → pdX r' d = some p
  | .non, _, _, e => e
  | .bl b, _, _, e => e
  | .int i, _, _, e => e
  | .str s, _, _, e => e
  | .tup ds, p, h, e => by
    obtain ⟨ps, e1, rfl⟩ := Option.map_eq_some_iff.mp (show (pdWs r ds).map PyData.tuple = some _ from e)
    show (pdXs r' ds).map PyData.tuple = _
    rw [pdWs_X h e1]; rfl
  | .lst ds, p, h, e => by
    obtain ⟨ps, e1, rfl⟩ := Option.map_eq_some_iff.mp (show (pdWs r ds).map PyData.list = some _ from e)
    show (pdXs r' ds).map PyData.list = _
    rw [pdWs_X h e1]; rfl
  | .dct _ _, _, _, e => nomatch e
theorem pdWs_X {r r' : Nat → Option PyData} : ∀ {ds : List D} {ps : List PyData}, lfs ds = true → pdWs r ds = some ps → pdXs r' ds = some ps
  | [], _, _, e => e
  | d :: ds, ps, h, e => by
    have h := lfs_cons.mp h
    unfold pdWs at e
    split at e
    · rename_i p hp
      split at e
      · rename_i qs hq
        cases e
        unfold pdXs
        rw [pdW_X (r' := r') h.1 hp, pdWs_X (r' := r') h.2 hq]
      · cases e
    · cases e
end
/-- its repr -/
@[irreducible] def rT (d : D) : Str := match pdX (fun _ => none) d with
  | some p => p.shown
  | none => Str.ofString ""
/-- plain data, not too deep, not too great -/
structure Sm (k n : Nat) (d : D) : Prop where
  lf_ : lf d = true
  dep_ : dep d ≤ k
  blk_ : blk d ≤ n
theorem repr_sm {h : Hs} {d : D} {k n : Nat} (s : Sm k n d) (hk : k ≤ 60) (hn : n ≤ 200000) : gReprA h [d] = some (.str (rT d)) := by
  obtain ⟨p, g⟩ := lf_good s.lf_
  have e : rT d = p.shown := by unfold rT; rw [g.at_]
  have hz : p.shown.length ≤ sizeLine := by
    have h1 := PyData.shown_le_bulk 64 (by decide) p g.leaf
    have h2 := g.bulk_
    have h3 := s.blk_
    have h4 := sizeLine_eq
    have : (64 + 2) * p.bulk ≤ (64 + 2) * 200000 := Nat.mul_le_mul_left _ (by omega)
    omega
  have hx : okX p = true := by
    unfold okX
    rw [g.show_, decide_eq_true (show p.depth ≤ 60 by have := g.dep_; have := s.dep_; omega), decide_eq_true hz]; rfl
  unfold gReprA
  cases q : gRepr h [d] with
  | some w =>
    dsimp only
    unfold gRepr at q
    dsimp only at q
    split at q
    · rename_i p' hp
      split at q
      · cases q
        have := pdW_X (r' := fun _ => none) s.lf_ hp
        rw [g.at_] at this; cases this
        rw [e]
      · cases q
    · cases q
  | none =>
    dsimp only
    unfold gRepr at q
    dsimp only at q
    have sc : isComp d = false → pd h d = some p ∧ p.hasDict = false := by
      intro c
      have := g.at_ (fun _ => none)
      have lf' := s.lf_
      cases d <;> first | (cases c; done) | (cases this; exact ⟨rfl, rfl⟩) | (exact absurd lf' Bool.false_ne_true)
    cases c : isComp d with
    | true =>
      rw [if_pos rfl, g.at_]
      dsimp only
      rw [if_pos hx, e]
    | false =>
      obtain ⟨c1, c2⟩ := sc c
      rw [c1] at q
      dsimp only at q
      have : smallText p = true := by
        unfold smallText
        rw [g.show_, decide_eq_true (show p.depth ≤ 60 by have := g.dep_; have := s.dep_; omega), decide_eq_true hz, c2]; rfl
      rw [if_pos this] at q
      cases q
theorem Sm.mono {k n k' n' : Nat} {d : D} (s : Sm k n d) (hk : k ≤ k') (hn : n ≤ n') : Sm k' n' d := ⟨s.lf_, Nat.le_trans s.dep_ hk, Nat.le_trans s.blk_ hn⟩
/-- many of them: all together no greater than n -/
structure Sms (k n : Nat) (ds : List D) : Prop where
  lf_ : lfs ds = true
  dep_ : deps ds ≤ k
  blk_ : blks ds ≤ n
theorem sms_nil {k : Nat} : Sms k 0 [] := ⟨rfl, Nat.zero_le _, Nat.le_refl _⟩
theorem sms_cons {k n m : Nat} {d : D} {ds : List D} (a : Sm k n d) (b : Sms k m ds) : Sms k (n + 1 + m) (d :: ds) :=
  ⟨lfs_cons.mpr ⟨a.lf_, b.lf_⟩, Nat.max_le.mpr ⟨a.dep_, b.dep_⟩, Nat.add_le_add (Nat.add_le_add_right a.blk_ 1) b.blk_⟩
theorem Sms.app {k n m : Nat} {xs ys : List D} (a : Sms k n xs) (b : Sms k m ys) : Sms k (n + m) (xs ++ ys) :=
  ⟨lfs_app.mpr ⟨a.lf_, b.lf_⟩, deps_iff.mpr fun x hx => (List.mem_append.mp hx).elim (deps_iff.mp a.dep_ x) (deps_iff.mp b.dep_ x), by rw [blks_app]; exact Nat.add_le_add a.blk_ b.blk_⟩
theorem Sms.sub {k n : Nat} {xs ys : List D} (a : Sms k n ys) (h : xs.Sublist ys) : Sms k n xs :=
  ⟨lfs_iff.mpr fun x hx => lfs_iff.mp a.lf_ x (h.subset hx), deps_iff.mpr fun x hx => deps_iff.mp a.dep_ x (h.subset hx), Nat.le_trans (blks_sub h) a.blk_⟩
theorem Sms.rev {k n : Nat} {xs : List D} (a : Sms k n xs) : Sms k n xs.reverse :=
  ⟨lfs_iff.mpr fun x hx => lfs_iff.mp a.lf_ x (List.mem_reverse.mp hx), deps_iff.mpr fun x hx => deps_iff.mp a.dep_ x (List.mem_reverse.mp hx), by rw [blks_rev]; exact a.blk_⟩
theorem Sms.mem {k n : Nat} {xs : List D} (a : Sms k n xs) {x : D} (h : x ∈ xs) : Sm k n x :=
  ⟨lfs_iff.mp a.lf_ x h, deps_iff.mp a.dep_ x h, Nat.le_trans (Nat.le_trans (Nat.le_succ _) (blks_mem h)) a.blk_⟩
theorem Sms.mono {k n k' n' : Nat} {d : List D} (s : Sms k n d) (hk : k ≤ k') (hn : n ≤ n') : Sms k' n' d := ⟨s.lf_, Nat.le_trans s.dep_ hk, Nat.le_trans s.blk_ hn⟩
theorem Sms.len {k n : Nat} {d : List D} (s : Sms k n d) : d.length ≤ n := Nat.le_trans blks_len s.blk_
theorem sm_tup {k n : Nat} {ds : List D} (a : Sms k n ds) : Sm (k + 1) n (.tup ds) := ⟨a.lf_, Nat.succ_le_succ a.dep_, a.blk_⟩
theorem sm_lst {k n : Nat} {ds : List D} (a : Sms k n ds) : Sm (k + 1) n (.lst ds) := ⟨a.lf_, Nat.succ_le_succ a.dep_, a.blk_⟩
theorem sm_d1 {k n : Nat} {i : Int} {d : D} (h : i.natAbs < 10 ^ 60) (a : Sm k n d) : Sm (k + 1) (n + 2) (.dct [.inl i] [d]) := by
  refine ⟨?_, ?_, ?_⟩
  · show ((decide (i.natAbs < 10 ^ 60) && true) && true && (lf d && true)) = true
    rw [decide_eq_true h, a.lf_]; rfl
  · show max (dep d) 0 + 1 ≤ _
    have := a.dep_; omega
  · show (0 + 0) + 1 + (blk d + 1 + 0) ≤ _
    have := a.blk_; omega
theorem sm_d0 {k n : Nat} : Sm (k + 1) n (.dct [] []) := ⟨rfl, Nat.le_add_left _ _, Nat.zero_le _⟩
theorem sm_non {k n : Nat} : Sm k n .non := ⟨rfl, Nat.zero_le _, Nat.zero_le _⟩
theorem sm_bl {k n : Nat} {b : Bool} : Sm k n (.bl b) := ⟨rfl, Nat.zero_le _, Nat.zero_le _⟩
theorem sm_int {k n : Nat} {i : Int} (h : i.natAbs < 10 ^ 60) : Sm k n (.int i) := ⟨decide_eq_true h, Nat.zero_le _, Nat.zero_le _⟩
theorem sm_str {k n : Nat} {s : Str} (h : okS s = true) (l : s.length ≤ n) : Sm k n (.str s) := ⟨h, Nat.zero_le _, l⟩
theorem Sm.tup {k n : Nat} {ds : List D} (s : Sm k n (.tup ds)) : Sms (k - 1) n ds := ⟨s.lf_, by have := s.dep_; have h : dep (.tup ds) = deps ds + 1 := rfl; omega, s.blk_⟩
theorem Sm.lst {k n : Nat} {ds : List D} (s : Sm k n (.lst ds)) : Sms (k - 1) n ds := ⟨s.lf_, by have := s.dep_; have h : dep (.lst ds) = deps ds + 1 := rfl; omega, s.blk_⟩
theorem Sm.int {k n : Nat} {i : Int} (s : Sm k n (.int i)) : i.natAbs < 10 ^ 60 := of_decide_eq_true s.lf_
theorem Sm.str {k n : Nat} {z : Str} (s : Sm k n (.str z)) : okS z = true ∧ z.length ≤ n := ⟨s.lf_, s.blk_⟩
/-- plain -/
inductive Pln : D → Prop where
  | non : Pln .non
  | bl (b : Bool) : Pln (.bl b)
  | int (i : Int) : Pln (.int i)
  | str (z : Str) : Pln (.str z)
  | tup (ds : List D) : Pln (.tup ds)
  | lst (ds : List D) : Pln (.lst ds)
  | dct (ks : List Key) (ds : List D) : Pln (.dct ks ds)
theorem Sm.pln {k n : Nat} {d : D} (s : Sm k n d) : Pln d := by
  have := s.lf_
  cases d <;> first | constructor | exact absurd this Bool.false_ne_true
theorem okS_app {a b : Str} (ha : okS a = true) (hb : okS b = true) : okS (a ++ b) = true := by
  unfold okS at *
  show (a.cps ++ b.cps).all _ = true
  rw [Array.all_append, ha, hb]; rfl
end G

/-! # G27: what is a number, a name, an ident, a glove: the program's own looks -/
namespace G
open PySem PySem.Spec PyProof.Rows L2
noncomputable section
abbrev k_LAST_MOMENT : D := (.int 999999)
abbrev k_LAST_NUMBER : D := (.int 99)
abbrev k_LETTERS : D := (.str "abcdefghijklmnopqrstuvwxyz")
abbrev k_LONGEST : D := (.int 8)
abbrev k_MOST_GRADE : D := (.int 2)
abbrev k_MOST_HIGH : D := (.int 138)
abbrev k_MOST_QUARTERS : D := (.int 99)
abbrev k_SIDES : D := (.ctp [(.str "l"), (.str "r")])
def f_is_whole : FS := (sRet (eAnd (eCall gIsi (aCons (eName 0) (aCons (eC (.ty .int)) aNil))) (eNot (eCall gIsi (aCons (eName 0) (aCons (eC (.ty .bool)) aNil))))))
def c_is_whole : List D → Hs → R D := fnBody 1 f_is_whole
def f_is_between : FS := (sRet (eAnd (eFn c_is_whole [0] [] (aCons (eName 0) aNil)) (eChain gLe gLe (eName 1) (eName 0) (eName 2))))
def c_is_between : List D → Hs → R D := fnBody 3 f_is_between
def f_is_name : FS := (sSeq (sIf (tOrF (tNotF (eT (eCall gIsi (aCons (eName 0) (aCons (eC (.ty .str)) aNil))))) (tNotF (eB (eChain gLe gLe (eC (.int 1)) (eCall gLen (aCons (eName 0) aNil)) (eC k_LONGEST))))) (sRet (eC (.bl false))) sSkip)
  (sRet (eCall gAll (aCons (eV (lComp (iAny (eName 0)) (nSet 1) tYesF (eBin gInA (eName 1) (eC k_LETTERS)) [1])) aNil))))
def c_is_name : List D → Hs → R D := fnBody 2 f_is_name
def f_is_size : FS := (sRet (eFn c_is_between [0, 1, 2] [] (aCons (eName 0) (aCons (eC (.int 1)) (aCons (eC k_MOST_QUARTERS) aNil)))))
def c_is_size : List D → Hs → R D := fnBody 1 f_is_size
def f_is_moment : FS := (sRet (eFn c_is_between [0, 1, 2] [] (aCons (eName 0) (aCons (eC (.int 0)) (aCons (eC k_LAST_MOMENT) aNil)))))
def c_is_moment : List D → Hs → R D := fnBody 1 f_is_moment
def f_is_side : FS := (sRet (eAnd (eCall gIsi (aCons (eName 0) (aCons (eC (.ty .str)) aNil))) (eBin gInA (eName 0) (eC k_SIDES))))
def c_is_side : List D → Hs → R D := fnBody 1 f_is_side
def f_is_ident : FS := (sSeq (sIf (tOrF (tNotF (eT (eCall gIsi (aCons (eName 0) (aCons (eC (.ty .tup)) aNil))))) (eB (eBin gNe (eCall gLen (aCons (eName 0) aNil)) (eC (.int 3))))) (sRet (eC (.bl false))) sSkip)
  (sRet (eAnd (eFn c_is_moment [0] [] (aCons (eBin gIx (eName 0) (eC (.int 0))) aNil)) (eAnd (eFn c_is_between [0, 1, 2] [] (aCons (eBin gIx (eName 0) (eC (.int 1))) (aCons (eC (.int 0)) (aCons (eC k_LAST_NUMBER) aNil)))) (eFn c_is_side [0] [] (aCons (eBin gIx (eName 0) (eC (.int 2))) aNil))))))
def c_is_ident : List D → Hs → R D := fnBody 1 f_is_ident
def f_is_grade : FS := (sRet (eAnd (eFn c_is_whole [0] [] (aCons (eName 0) aNil)) (eChain gLe gLe (eC (.int 0)) (eName 0) (eC k_MOST_GRADE))))
def c_is_grade : List D → Hs → R D := fnBody 1 f_is_grade
def f_is_glove : FS := (sSeq (sIf (tOrF (tNotF (eT (eCall gIsi (aCons (eName 0) (aCons (eC (.ty .tup)) aNil))))) (tOrF (eB (eBin gNe (eCall gLen (aCons (eName 0) aNil)) (eC (.int 7)))) (tOrF (tNotF (eT (eFn c_is_ident [0] [] (aCons (eSl (eName 0) oNone (oSome (eC (.int 3)))) aNil)))) (tNotF (eT (eFn c_is_name [0] [] (aCons (eBin gIx (eName 0) (eC (.int 3))) aNil))))))) (sRet (eC (.bl false))) sSkip)
  (sSeq (sAsg (nTup 3 (nCons (nSet 1) (nCons (nSet 2) (nCons (nSet 3) nNil)))) (eSl (eName 0) (oSome (eC (.int 4))) oNone))
  (sSeq (sIf (tOrF (tNotF (eT (eFn c_is_size [0] [] (aCons (eName 1) aNil)))) (tOrF (tNotF (eT (eFn c_is_whole [0] [] (aCons (eName 2) aNil)))) (tNotF (eT (eFn c_is_grade [0] [] (aCons (eName 3) aNil)))))) (sRet (eC (.bl false))) sSkip)
  (sRet (eChain gLe gLe (eName 1) (eName 2) (eC k_MOST_HIGH))))))
def c_is_glove : List D → Hs → R D := fnBody 4 f_is_glove
def f_ident_of : FS := (sRet (eSl (eName 0) oNone (oSome (eC (.int 3)))))
def c_ident_of : List D → Hs → R D := fnBody 1 f_ident_of

end
section
variable {e : Ev} {hs h : Hs} {Q : D → Hs → Prop} {X : XQ}
/-- a comprehension that filters and maps, the heap as it is -/
theorem wp_cfm {f : FI} {g : FG} {t : FT} {el : FE} {vs : List Nat} {Q : List D → Hs → Prop} (p : D → Bool) (F : D → D) (h : Wp (f e hs) (fun nx h => ∃ ds, nx = nxL ds ∧ ds.length ≤ 100000 ∧
    (∀ d ∈ ds, ∃ e', g d (wipeE e vs) = some e' ∧ Wp (t e' h) (fun c h1 => h1 = h ∧ c = p d ∧ (c = true → Wp (el e' h) (fun y h' => y = F d ∧ h' = h) nX)) nX) ∧ Q ((ds.filter p).map F) h) X) : Wp (lComp f g t el vs e hs) Q X := by
  refine wp_comp (wp_mono h (fun nx h' q => ?_) fun _ _ _ x => x)
  obtain ⟨ds, rfl, hl, hd, q⟩ := q
  refine ⟨ds.length, fun i acc h => h = h' ∧ acc = ((ds.take i).filter p).map F, hl, ⟨rfl, rfl⟩, fun i acc h hi ⟨e1, e2⟩ => ?_, fun acc h ⟨e1, e2⟩ => ?_⟩
  · subst e1 e2
    obtain ⟨e', h1, h2⟩ := hd ds[i] (List.getElem_mem hi)
    refine ⟨ds[i], e', nxL_some hi, h1, wp_mono h2 (fun c h3 ⟨z1, z2, z3⟩ => ?_) fun _ _ _ x => x⟩
    subst z1
    have ht : ds.take (i + 1) = ds.take i ++ [ds[i]] := by rw [List.take_add_one, List.getElem?_eq_getElem hi]; rfl
    have hl2 : (((ds.take i).filter p).map F).length ≤ i := by
      rw [List.length_map]
      exact Nat.le_trans (List.length_filter_le _ _) (by rw [List.length_take]; omega)
    refine ⟨fun hc => ⟨by rw [sizeLine_eq]; omega, wp_mono (z3 hc) (fun y h4 ⟨r, z4⟩ => ⟨z4, ?_⟩) fun _ _ _ x => x⟩, fun hc => ⟨rfl, ?_⟩⟩
    · rw [ht, List.filter_append, List.map_append, r]
      congr 1
      rw [List.filter_cons_of_pos (by rw [← z2]; exact hc)]; rfl
    · rw [ht, List.filter_append, List.filter_cons_of_neg (by rw [← z2, hc]; exact Bool.false_ne_true), List.filter_nil, List.append_nil]
  · subst e1 e2
    rw [List.take_length]
    exact ⟨nxL_stop, q⟩
end
@[simp] def isW : D → Bool
  | .int _ => true
  | _ => false
@[simp] def isB (a b : Int) : D → Bool
  | .int i => decide (a ≤ i) && decide (i ≤ b)
  | _ => false
def isC (c : Nat) : Bool := decide (97 ≤ c) && decide (c ≤ 122)
@[simp] def isNa : D → Bool
  | .str z => (decide ((1 : Int) ≤ z.length) && decide ((z.length : Int) ≤ 8)) && z.cps.toList.all isC
  | _ => false
@[simp] def isSd : D → Bool
  | .str z => (("l" : Str) == z) || (("r" : Str) == z)
  | _ => false
@[simp] def isId : D → Bool
  | .tup [a, b, c] => isB 0 999999 a && (isB 0 99 b && isSd c)
  | _ => false
@[simp] def leD : D → D → Bool
  | .int i, .int j => decide (i ≤ j)
  | _, _ => false
@[simp] def isGv : D → Bool
  | .tup [a, b, c, s, lo, hi, g] => isId (.tup [a, b, c]) && (isNa s && (isB 1 99 lo && (isW hi && (isB 0 2 g && (leD lo hi && leD hi (.int 138))))))
  | _ => false
local macro_rules | `(tactic| walk_at "s1") => `(tactic| first
  | ((with_reducible apply wp_name); (case q => rfl))
  | with_reducible refine wp_c ?_
  | with_reducible refine wp_bin ?_
  | with_reducible refine wp_acons ?_
  | with_reducible refine wp_anil ?_
  | with_reducible refine wp_call ?_
  | with_reducible refine wp_fn ?_
  | with_reducible refine wp_fnK ?_
  | with_reducible refine wp_ev ?_
  | with_reducible refine wp_em ?_
  | with_reducible refine wp_tup ?_
  | with_reducible refine wp_eb ?_
  | with_reducible refine wp_et ?_
  | with_reducible refine wp_un ?_
  | with_reducible refine wp_chain ?_
  | with_reducible refine wp_and ?_
  | with_reducible refine wp_or ?_
  | with_reducible refine wp_not ?_
  | with_reducible refine wp_andF ?_
  | with_reducible refine wp_orF ?_
  | with_reducible refine wp_notF ?_
  | with_reducible refine wp_yes ?_
  | with_reducible refine wp_if ?_
  | with_reducible refine wp_sl ?_
  | with_reducible refine wp_onone ?_
  | with_reducible refine wp_osome ?_
  | with_reducible refine wp_rev ?_
  | with_reducible refine wp_list ?_
  | with_reducible refine wp_mt ?_
  | with_reducible refine wp_any ?_
  | with_reducible refine wp_r1 ?_
  | with_reducible refine wp_r2 ?_
  | with_reducible refine ws_seq ?_
  | with_reducible refine ws_set ?_
  | with_reducible refine ws_setC ?_
  | with_reducible refine ws_setCM ?_
  | with_reducible refine ws_if ?_
  | with_reducible refine ws_ret ?_
  | with_reducible refine ws_retN ?_
  | with_reducible refine ws_drop ?_
  | with_reducible refine ws_skip ?_
  | with_reducible refine ws_asg ?_
  | with_reducible refine ws_par ?_
  | with_reducible refine ws_sub ?_
  | with_reducible refine wp_body ?_)
local macro_rules | `(tactic| walk_at "s") => `(tactic| repeat (walk_at "s1"))
local macro_rules | `(tactic| walk_at "q") => `(tactic| first | assumption | decide | omega | rfl)
local macro_rules | `(tactic| walk_at "e1") => `(tactic| first
  | with_reducible refine wp_some add_i ?_
  | with_reducible refine wp_some sub_i ?_
  | with_reducible refine wp_some lt_i ?_
  | with_reducible refine wp_some le_i ?_
  | with_reducible refine wp_some gt_i ?_
  | with_reducible refine wp_some ge_i ?_
  | with_reducible refine wp_some eq_i ?_
  | with_reducible refine wp_some ne_i ?_
  | with_reducible refine wp_some eq_b ?_
  | with_reducible refine wp_some max_i ?_
  | with_reducible refine wp_some min_i ?_
  | with_reducible refine wp_some tup_tup ?_
  | with_reducible refine wp_some tup_lst ?_
  | with_reducible refine wp_some len_tup ?_
  | with_reducible refine wp_some len_lst ?_
  | with_reducible refine wp_some sl_tup ?_
  | with_reducible refine wp_some sl_lst ?_
  | with_reducible refine wp_some tru_b ?_
  | with_reducible refine wp_some repr_b ?_
  | with_reducible refine wp_eq_sb ?_
  | with_reducible refine wp_some seq_lst ?_
  | with_reducible refine wp_some seq_tup ?_
  | ((with_reducible apply wp_ix_tup); (case q => rfl))
  | ((with_reducible apply wp_ix_lst); (case q => rfl))
  | ((with_reducible apply wp_ix_ref); (case p => assumption); (case q => rfl))
  | with_reducible refine wp_some eq_s ?_
  | ((with_reducible refine wp_some (mod_int ?q) ?_); (case q => walk_at "q"))
  | ((with_reducible refine wp_some (div_int ?p ?q) ?_); (case p => walk_at "q"); (case q => walk_at "q"))
  | ((with_reducible refine wp_some (mul_int ?q) ?_); (case q => walk_at "q"))
  | ((with_reducible refine wp_some (add_tup ?q) ?_); (case q => first | omega | exact Nat.le_of_ble_eq_true rfl | (simp; done) | (simp; omega)))
  | ((with_reducible refine wp_some (add_lst ?q) ?_); (case q => first | omega | exact Nat.le_of_ble_eq_true rfl | (simp; done) | (simp; omega)))
  | with_reducible refine Exists.intro _ (And.intro rfl ?_)
  | with_reducible refine Exists.intro _ (Exists.intro _ (And.intro rfl ?_)))
local macro_rules | `(tactic| walk_at "g") => `(tactic| repeat (first | walk_at "s1" | walk_at "e1"))
local macro_rules | `(tactic| walk_at "h1") => `(tactic| first
  | with_reducible refine wp_some ne_b ?_
  | with_reducible refine wp_ne_sb ?_
  | with_reducible refine wp_d0t ?_
  | with_reducible refine wp_d0k ?_
  | with_reducible refine wp_d0 ?_
  | with_reducible refine wp_valsT ?_
  | with_reducible refine wp_some ne_s ?_
  | with_reducible refine wp_some reprA_b ?_
  | with_reducible refine wp_d1 ?_
  | with_reducible refine wp_some isi_non ?_
  | with_reducible refine wp_some isi_bl ?_
  | with_reducible refine wp_some isi_int ?_
  | with_reducible refine wp_some isi_str ?_
  | with_reducible refine wp_some isi_tup ?_
  | with_reducible refine wp_some isi_lst ?_
  | with_reducible refine wp_some isi_dct ?_)
local macro_rules | `(tactic| walk_at "k") => `(tactic| repeat (first | walk_at "s1" | walk_at "e1" | walk_at "h1"))

theorem pln_of {d : D} (l : lf d = true) : Pln d := by
  cases d <;> first | constructor | exact absurd l Bool.false_ne_true
theorem eq_of_wp {r : R D} {x : D} {h : Hs} (w : Wp r (fun d h' => d = x ∧ h' = h) nX) : r = .ok x h := by
  obtain ⟨d, h', e, rfl, rfl⟩ := wp_get w
  exact e
section
variable {h : Hs} {d : D} {k n : Nat}
theorem whole_eq (p : Pln d) : c_is_whole [d] h = .ok (.bl (isW d)) h := by cases p <;> rfl
theorem between_eq {a b : Int} (p : Pln d) : c_is_between [d, .int a, .int b] h = .ok (.bl (isB a b d)) h := by
  cases p with
  | int i =>
    refine eq_of_wp ?_
    unfold c_is_between f_is_between
    refine wp_bodyE [some (.int i), some (.int a), some (.int b)] rfl ?_
    walk_at "k"
    refine wp_of (whole_eq (.int i)) ?_
    walk_at "k"
    refine ⟨fun _ => ?_, tnof⟩
    walk_at "k"
    refine ⟨fun q => ?_, fun q => ⟨?_, rfl⟩⟩
    · walk_at "k"
      refine ⟨?_, rfl⟩
      simp [isB, q]
    · simp [isB, q]
  | _ => rfl
end
local macro_rules | `(tactic| walk_at "p") => `(tactic| first | assumption | (constructor; done) | exact pln_of (by assumption) | exact Sm.pln (by assumption))
local macro_rules | `(tactic| walk_at "b1") => `(tactic| first
  | exact nof
  | exact tnof
  | (refine And.intro ?_ tnof; intro _)
  | (refine And.intro nof ?_; intro _)
  | (refine And.intro ?_ ?_ <;> intro _))
local macro_rules | `(tactic| walk_at "P1") => `(tactic| first
  | ((with_reducible show Wp (c_is_whole _ _) _ _); refine wp_of (whole_eq ?p) ?_; (case p => walk_at "p"))
  | ((with_reducible show Wp (c_is_between _ _) _ _); refine wp_of (between_eq ?p) ?_; (case p => walk_at "p")))
local macro_rules | `(tactic| walk_at "b") => `(tactic| repeat' (first | walk_at "s1" | walk_at "e1" | walk_at "h1" | walk_at "P1" | walk_at "b1"))
local macro_rules | `(tactic| walk_at "z") => `(tactic| first
  | exact (show _ ∧ _ from ⟨rfl, rfl⟩)
  | (refine (show _ ∧ _ from ⟨?_, rfl⟩); first | (simp_all; done) | (simp_all <;> omega)))
local macro_rules | `(tactic| walk_at "bz") => `(tactic| (walk_at "b" <;> try walk_at "z"))

section
variable {h : Hs} {d : D} {k n : Nat}
/-! ### texts -/
theorem signs_len (z : Str) : (signs z).length = z.length := by unfold signs; rw [List.length_map]; exact Array.length_toList
theorem letters_in (c : Nat) : decide (c ∈ ("abcdefghijklmnopqrstuvwxyz" : Str).cps.toList) = isC c := by
  rw [abc_T, T_cps]
  unfold isC
  rw [Bool.eq_iff_iff, decide_eq_true_iff, Bool.and_eq_true, decide_eq_true_iff, decide_eq_true_iff]
  constructor
  · intro h
    have : ∀ x ∈ abc, 97 ≤ x ∧ x ≤ 122 := by decide +kernel
    exact this c h
  · rintro ⟨h1, h2⟩
    have : ∀ i, i < 26 → i + 97 ∈ abc := by decide +kernel
    have := this (c - 97) (by omega)
    rwa [show c - 97 + 97 = c by omega] at this
def sgC (p : Nat → Bool) : D → D
  | .str x => (match sign1 x with | some c => .bl (p c) | none => .non)
  | _ => .non
theorem sgC_map (p : Nat → Bool) (z : Str) : (signs z).map (sgC p) = (z.cps.toList.map p).map D.bl := by
  unfold signs
  rw [List.map_map, List.map_map]; rfl
theorem gAll_bls {bs : List Bool} : gAll h [.lst (bs.map D.bl)] = some (.bl (bs.all id)) := by
  unfold gAll
  show (match rdOf h (.lst (bs.map D.bl)) with | some xs => (match blsOf xs with | some ns => some (D.bl (ns.all id)) | none => none) | none => none) = _
  show (match blsOf (bs.map D.bl) with | some ns => some (D.bl (ns.all id)) | none => none) = _
  rw [blsOf_map]
theorem in_letters {c : Nat} : gInA h (.str ⟨#[c]⟩) (.str "abcdefghijklmnopqrstuvwxyz") = some (.bl (isC c)) := by
  show some (D.bl (decide (c ∈ ("abcdefghijklmnopqrstuvwxyz" : Str).cps.toList))) = _
  rw [letters_in]
theorem name_eq (p : Pln d) (hz : blk d ≤ 100000) : c_is_name [d] h = .ok (.bl (isNa d)) h := by
  cases p with
  | str z =>
    have hz : z.length ≤ 100000 := hz
    have hl : gLen h [.str z] = some (.int z.length) := if_pos (le_line hz)
    refine eq_of_wp ?_
    unfold c_is_name f_is_name
    refine wp_bodyE [some (.str z), none] rfl ?_
    walk_at "k"
    refine ⟨nof, fun _ => ?_⟩
    walk_at "k"
    refine wp_some hl ?_
    walk_at "bz"
    refine wp_cfm (fun _ => true) (sgC isC) ?_
    walk_at "k"
    refine ⟨by rw [signs_len]; exact hz, fun d hd => ?_, ?_⟩
    · unfold signs at hd
      obtain ⟨c, _, rfl⟩ := List.mem_map.mp hd
      refine ⟨_, rfl, ?_⟩
      walk_at "k"
      refine ⟨rfl, rfl, fun _ => ?_⟩
      walk_at "k"
      refine wp_some in_letters ⟨rfl, rfl⟩
    · rw [List.filter_eq_self.mpr (fun _ _ => rfl), sgC_map]
      walk_at "k"
      refine wp_some gAll_bls ?_
      refine (show _ ∧ _ from ⟨?_, rfl⟩)
      simp_all
  | _ => rfl
theorem size_eq (p : Pln d) : c_is_size [d] h = .ok (.bl (isB 1 99 d)) h := by
  refine eq_of_wp ?_
  unfold c_is_size f_is_size
  refine wp_bodyE [some d] rfl ?_
  walk_at "bz"
theorem moment_eq (p : Pln d) : c_is_moment [d] h = .ok (.bl (isB 0 999999 d)) h := by
  refine eq_of_wp ?_
  unfold c_is_moment f_is_moment
  refine wp_bodyE [some d] rfl ?_
  walk_at "bz"
theorem side_eq (p : Pln d) : c_is_side [d] h = .ok (.bl (isSd d)) h := by
  cases p with
  | str z =>
    refine eq_of_wp ?_
    unfold c_is_side f_is_side
    refine wp_bodyE [some (.str z)] rfl ?_
    walk_at "k"
    refine ⟨fun _ => ?_, tnof⟩
    walk_at "k"
    refine wp_some (show _ = some (D.bl (("l" : Str) == z || (("r" : Str) == z || false))) from rfl) ?_
    walk_at "z"
  | _ => rfl
theorem grade_eq (p : Pln d) : c_is_grade [d] h = .ok (.bl (isB 0 2 d)) h := by
  cases p with
  | int i =>
    refine eq_of_wp ?_
    unfold c_is_grade f_is_grade
    refine wp_bodyE [some (.int i)] rfl ?_
    walk_at "bz"
  | _ => rfl
end
/-! ### idents, gloves -/
theorem list3 {t : Type} {ds : List t} (h : ds.length = 3) : ∃ a b c, ds = [a, b, c] := by
  match ds, h with
  | [a, b, c], _ => exact ⟨a, b, c, rfl⟩
theorem list7 {t : Type} {ds : List t} (h : ds.length = 7) : ∃ a b c d e f g, ds = [a, b, c, d, e, f, g] := by
  match ds, h with
  | [a, b, c, d, e, f, g], _ => exact ⟨a, b, c, d, e, f, g, rfl⟩
theorem eqL {t : Type} {ds : List t} {n : Nat} {m : Int} (h : ¬ ds.length = n) (e : m = n) : ((ds.length : Int) == m) = false := by
  subst e
  rw [beq_eq_false_iff_ne]
  omega
theorem lfs3 {a b c : D} (l : lfs [a, b, c] = true) : lf a = true ∧ lf b = true ∧ lf c = true :=
  ⟨(lfs_cons.mp l).1, (lfs_cons.mp (lfs_cons.mp l).2).1, (lfs_cons.mp (lfs_cons.mp (lfs_cons.mp l).2).2).1⟩
section
variable {h : Hs} {d : D} {k n : Nat}
local macro_rules | `(tactic| walk_at "P1") => `(tactic| first
  | ((with_reducible show Wp (c_is_size _ _) _ _); refine wp_of (size_eq ?p) ?_; (case p => walk_at "p"))
  | ((with_reducible show Wp (c_is_moment _ _) _ _); refine wp_of (moment_eq ?p) ?_; (case p => walk_at "p"))
  | ((with_reducible show Wp (c_is_side _ _) _ _); refine wp_of (side_eq ?p) ?_; (case p => walk_at "p"))
  | ((with_reducible show Wp (c_is_grade _ _) _ _); refine wp_of (grade_eq ?p) ?_; (case p => walk_at "p"))
  | ((with_reducible show Wp (c_is_whole _ _) _ _); refine wp_of (whole_eq ?p) ?_; (case p => walk_at "p"))
  | ((with_reducible show Wp (c_is_between _ _) _ _); refine wp_of (between_eq ?p) ?_; (case p => walk_at "p")))
theorem isId_len {ds : List D} (h : ¬ ds.length = 3) : isId (.tup ds) = false := by
  match ds, h with
  | [], _ => rfl
  | [_], _ => rfl
  | [_, _], _ => rfl
  | [_, _, _], h => exact absurd rfl h
  | _ :: _ :: _ :: _ :: _, _ => rfl
theorem isGv_len {ds : List D} (h : ¬ ds.length = 7) : isGv (.tup ds) = false := by
  unfold isGv
  split
  · rename_i e
    cases e
    exact absurd rfl h
  · rfl
theorem ident_eq (l : lf d = true) : c_is_ident [d] h = .ok (.bl (isId d)) h := by
  cases pln_of l with
  | tup ds =>
    refine eq_of_wp ?_
    unfold c_is_ident f_is_ident
    by_cases hl : ds.length = 3
    · obtain ⟨a, b, c, rfl⟩ := list3 hl
      obtain ⟨la, lb, lc⟩ := lfs3 (show lfs [a, b, c] = true from l)
      refine wp_bodyE [some (.tup [a, b, c])] rfl ?_
      walk_at "bz"
    · refine wp_bodyE [some (.tup ds)] rfl ?_
      have e := eqL (m := 3) hl rfl
      have e2 := isId_len hl
      walk_at "k"
      refine ⟨nof, fun _ => ?_⟩
      walk_at "k"
      rw [e]
      walk_at "bz"
  | _ => rfl
local macro_rules | `(tactic| walk_at "P1") => `(tactic| first
  | ((with_reducible show Wp (c_is_name _ _) _ _); refine wp_of (name_eq ?p ?q) ?_; (case p => walk_at "p"); (case q => first | assumption | omega))
  | ((with_reducible show Wp (c_is_ident _ _) _ _); refine wp_of (ident_eq ?p) ?_; (case p => assumption)))
theorem glove_eq (l : lf d = true) (hz : blk d ≤ 100000) : c_is_glove [d] h = .ok (.bl (isGv d)) h := by
  cases pln_of l with
  | tup ds =>
    refine eq_of_wp ?_
    unfold c_is_glove f_is_glove
    by_cases hl : ds.length = 7
    · obtain ⟨a, b, c, s, lo, hi, g, rfl⟩ := list7 hl
      have l := lfs_iff.mp (show lfs [a, b, c, s, lo, hi, g] = true from l)
      have la := l a (by simp); have lb := l b (by simp); have lc := l c (by simp)
      have ls := pln_of (l s (by simp)); have l1 := pln_of (l lo (by simp)); have l2 := pln_of (l hi (by simp)); have l3 := pln_of (l g (by simp))
      have l0 : lf (.tup [a, b, c]) = true := lfs_iff.mpr fun x hx => l x (by simp only [List.mem_cons, List.not_mem_nil, or_false] at hx ⊢; rcases hx with q | q | q <;> simp [q])
      have sz : blk s ≤ 100000 := by
        have h1 : blks [a, b, c, s, lo, hi, g] ≤ 100000 := hz
        have h2 := blks_mem (x := s) (xs := [a, b, c, s, lo, hi, g]) (by simp)
        omega
      refine wp_bodyE [some (.tup [a, b, c, s, lo, hi, g]), none, none, none] rfl ?_
      walk_at "k"
      refine ⟨nof, fun _ => ?_⟩
      walk_at "k"
      refine ⟨nof, fun _ => ?_⟩
      walk_at "k"
      rw [show cutX [a, b, c, s, lo, hi, g] none (some 3) = [a, b, c] from rfl]
      clear l
      walk_at "b"
      · refine (show _ ∧ _ from ⟨?_, rfl⟩)
        rename_i q _
        rw [Bool.not_eq_true'] at q
        show D.bl false = D.bl (isId (.tup [a, b, c]) && _)
        rw [q]; rfl
      all_goals try walk_at "z"
      obtain ⟨i, rfl⟩ : ∃ i, lo = .int i := by cases l1 <;> simp_all
      obtain ⟨j, rfl⟩ : ∃ i, hi = .int i := by cases l2 <;> simp_all
      walk_at "bz"
    · refine wp_bodyE [some (.tup ds), none, none, none] rfl ?_
      have e := eqL (m := 7) hl rfl
      have e2 := isGv_len hl
      walk_at "k"
      refine ⟨nof, fun _ => ?_⟩
      walk_at "k"
      rw [e]
      walk_at "bz"
  | _ => rfl
end
end G

/-! # G28: gloves drawn -/
namespace G
open PySem PySem.Spec PyProof.Rows L2
noncomputable section
def f_any_glove : FS := (sSeq (sSet 2 (eFn c_draw [0, 1] [] (aCons (eName 0) (aCons (eC (.int 5)) aNil))))
  (sSeq (sSet 3 (eBin gIx (eV (aCons (eBin gAdd (eC (.int 1)) (eFn c_draw [0, 1] [] (aCons (eName 0) (aCons (eC (.int 99)) aNil)))) (aCons (eC (.int 99)) (aCons (eC (.int 1)) (aCons (eBin gAdd (eC (.int 28)) (eFn c_draw [0, 1] [] (aCons (eName 0) (aCons (eC (.int 6)) aNil)))) (aCons (eC (.int 99)) aNil)))))) (eName 2)))
  (sSeq (sSet 4 (eBin gIx (eV (aCons (eBin gAdd (eName 3) (eFn c_draw [0, 1] [] (aCons (eName 0) (aCons (eBin gSub (eC (.int 139)) (eName 3)) aNil)))) (aCons (eC (.int 138)) (aCons (eC (.int 1)) (aCons (eBin gAdd (eName 3) (eFn c_draw [0, 1] [] (aCons (eName 0) (aCons (eC (.int 4)) aNil)))) (aCons (eC (.int 99)) aNil)))))) (eName 2)))
  (sSeq (sSet 5 (eBin gIx (eV (aCons (eFn c_draw [0, 1] [] (aCons (eName 0) (aCons (eC (.int 1000000)) aNil))) (aCons (eC (.int 999999)) (aCons (eC (.int 0)) (aCons (eFn c_draw [0, 1] [] (aCons (eName 0) (aCons (eC (.int 40)) aNil))) (aCons (eC (.int 35)) aNil)))))) (eName 2)))
  (sSeq (sSet 6 (eBin gIx (eV (aCons (eFn c_draw [0, 1] [] (aCons (eName 0) (aCons (eC (.int 100)) aNil))) (aCons (eC (.int 99)) (aCons (eC (.int 0)) (aCons (eFn c_draw [0, 1] [] (aCons (eName 0) (aCons (eC (.int 13)) aNil))) (aCons (eC (.int 36)) aNil)))))) (eName 2)))
  (sRet (eTup (aCons (eName 5) (aCons (eName 6) (aCons (eFn c_pick [0, 1] [] (aCons (eName 0) (aCons (eV (aCons (eC (.str "l")) (aCons (eC (.str "r")) aNil))) aNil))) (aCons (eFn c_pick [0, 1] [] (aCons (eName 0) (aCons (eName 1) aNil))) (aCons (eName 3) (aCons (eName 4) (aCons (eFn c_draw [0, 1] [] (aCons (eName 0) (aCons (eC (.int 3)) aNil))) aNil))))))))))))))
def c_any_glove : List D → Hs → R D := fnBody 7 f_any_glove

end
local macro_rules | `(tactic| walk_at "s1") => `(tactic| first
  | ((with_reducible apply wp_name); (case q => rfl))
  | with_reducible refine wp_c ?_
  | with_reducible refine wp_bin ?_
  | with_reducible refine wp_acons ?_
  | with_reducible refine wp_anil ?_
  | with_reducible refine wp_call ?_
  | with_reducible refine wp_fn ?_
  | with_reducible refine wp_fnK ?_
  | with_reducible refine wp_ev ?_
  | with_reducible refine wp_em ?_
  | with_reducible refine wp_tup ?_
  | with_reducible refine wp_eb ?_
  | with_reducible refine wp_et ?_
  | with_reducible refine wp_un ?_
  | with_reducible refine wp_chain ?_
  | with_reducible refine wp_and ?_
  | with_reducible refine wp_or ?_
  | with_reducible refine wp_not ?_
  | with_reducible refine wp_andF ?_
  | with_reducible refine wp_orF ?_
  | with_reducible refine wp_notF ?_
  | with_reducible refine wp_yes ?_
  | with_reducible refine wp_if ?_
  | with_reducible refine wp_sl ?_
  | with_reducible refine wp_onone ?_
  | with_reducible refine wp_osome ?_
  | with_reducible refine wp_rev ?_
  | with_reducible refine wp_list ?_
  | with_reducible refine wp_mt ?_
  | with_reducible refine wp_any ?_
  | with_reducible refine wp_r1 ?_
  | with_reducible refine wp_r2 ?_
  | with_reducible refine ws_seq ?_
  | with_reducible refine ws_set ?_
  | with_reducible refine ws_setC ?_
  | with_reducible refine ws_setCM ?_
  | with_reducible refine ws_if ?_
  | with_reducible refine ws_ret ?_
  | with_reducible refine ws_retN ?_
  | with_reducible refine ws_drop ?_
  | with_reducible refine ws_skip ?_
  | with_reducible refine ws_asg ?_
  | with_reducible refine ws_par ?_
  | with_reducible refine ws_sub ?_
  | with_reducible refine wp_body ?_)
local macro_rules | `(tactic| walk_at "s") => `(tactic| repeat (walk_at "s1"))
local macro_rules | `(tactic| walk_at "q") => `(tactic| first | assumption | decide | omega | rfl)
local macro_rules | `(tactic| walk_at "e1") => `(tactic| first
  | with_reducible refine wp_some add_i ?_
  | with_reducible refine wp_some sub_i ?_
  | with_reducible refine wp_some lt_i ?_
  | with_reducible refine wp_some le_i ?_
  | with_reducible refine wp_some gt_i ?_
  | with_reducible refine wp_some ge_i ?_
  | with_reducible refine wp_some eq_i ?_
  | with_reducible refine wp_some ne_i ?_
  | with_reducible refine wp_some eq_b ?_
  | with_reducible refine wp_some max_i ?_
  | with_reducible refine wp_some min_i ?_
  | with_reducible refine wp_some tup_tup ?_
  | with_reducible refine wp_some tup_lst ?_
  | with_reducible refine wp_some len_tup ?_
  | with_reducible refine wp_some len_lst ?_
  | with_reducible refine wp_some sl_tup ?_
  | with_reducible refine wp_some sl_lst ?_
  | with_reducible refine wp_some tru_b ?_
  | with_reducible refine wp_some repr_b ?_
  | with_reducible refine wp_eq_sb ?_
  | with_reducible refine wp_some seq_lst ?_
  | with_reducible refine wp_some seq_tup ?_
  | ((with_reducible apply wp_ix_tup); (case q => rfl))
  | ((with_reducible apply wp_ix_lst); (case q => rfl))
  | ((with_reducible apply wp_ix_ref); (case p => assumption); (case q => rfl))
  | with_reducible refine wp_some eq_s ?_
  | ((with_reducible refine wp_some (mod_int ?q) ?_); (case q => walk_at "q"))
  | ((with_reducible refine wp_some (div_int ?p ?q) ?_); (case p => walk_at "q"); (case q => walk_at "q"))
  | ((with_reducible refine wp_some (mul_int ?q) ?_); (case q => walk_at "q"))
  | ((with_reducible refine wp_some (add_tup ?q) ?_); (case q => first | omega | exact Nat.le_of_ble_eq_true rfl | (simp; done) | (simp; omega)))
  | ((with_reducible refine wp_some (add_lst ?q) ?_); (case q => first | omega | exact Nat.le_of_ble_eq_true rfl | (simp; done) | (simp; omega)))
  | with_reducible refine Exists.intro _ (And.intro rfl ?_)
  | with_reducible refine Exists.intro _ (Exists.intro _ (And.intro rfl ?_)))
local macro_rules | `(tactic| walk_at "g") => `(tactic| repeat (first | walk_at "s1" | walk_at "e1"))
local macro_rules | `(tactic| walk_at "h1") => `(tactic| first
  | with_reducible refine wp_some ne_b ?_
  | with_reducible refine wp_ne_sb ?_
  | with_reducible refine wp_d0t ?_
  | with_reducible refine wp_d0k ?_
  | with_reducible refine wp_d0 ?_
  | with_reducible refine wp_valsT ?_
  | with_reducible refine wp_some ne_s ?_
  | with_reducible refine wp_some reprA_b ?_
  | with_reducible refine wp_d1 ?_
  | with_reducible refine wp_some isi_non ?_
  | with_reducible refine wp_some isi_bl ?_
  | with_reducible refine wp_some isi_int ?_
  | with_reducible refine wp_some isi_str ?_
  | with_reducible refine wp_some isi_tup ?_
  | with_reducible refine wp_some isi_lst ?_
  | with_reducible refine wp_some isi_dct ?_)
local macro_rules | `(tactic| walk_at "k") => `(tactic| repeat (first | walk_at "s1" | walk_at "e1" | walk_at "h1"))
local macro_rules | `(tactic| walk_at "p") => `(tactic| first | assumption | (constructor; done) | exact pln_of (by assumption) | exact Sm.pln (by assumption))
local macro_rules | `(tactic| walk_at "b1") => `(tactic| first
  | exact nof
  | exact tnof
  | (refine And.intro ?_ tnof; intro _)
  | (refine And.intro nof ?_; intro _)
  | (refine And.intro ?_ ?_ <;> intro _))
local macro_rules | `(tactic| walk_at "P1") => `(tactic| first
  | ((with_reducible show Wp (c_is_whole _ _) _ _); refine wp_of (whole_eq ?p) ?_; (case p => walk_at "p"))
  | ((with_reducible show Wp (c_is_between _ _) _ _); refine wp_of (between_eq ?p) ?_; (case p => walk_at "p")))
local macro_rules | `(tactic| walk_at "b") => `(tactic| repeat' (first | walk_at "s1" | walk_at "e1" | walk_at "h1" | walk_at "P1" | walk_at "b1"))
local macro_rules | `(tactic| walk_at "z") => `(tactic| first
  | exact (show _ ∧ _ from ⟨rfl, rfl⟩)
  | (refine (show _ ∧ _ from ⟨?_, rfl⟩); first | (simp_all; done) | (simp_all <;> omega)))
local macro_rules | `(tactic| walk_at "bz") => `(tactic| (walk_at "b" <;> try walk_at "z"))
local macro_rules | `(tactic| walk_at "P1") => `(tactic| first
  | ((with_reducible show Wp (c_is_size _ _) _ _); refine wp_of (size_eq ?p) ?_; (case p => walk_at "p"))
  | ((with_reducible show Wp (c_is_moment _ _) _ _); refine wp_of (moment_eq ?p) ?_; (case p => walk_at "p"))
  | ((with_reducible show Wp (c_is_side _ _) _ _); refine wp_of (side_eq ?p) ?_; (case p => walk_at "p"))
  | ((with_reducible show Wp (c_is_grade _ _) _ _); refine wp_of (grade_eq ?p) ?_; (case p => walk_at "p"))
  | ((with_reducible show Wp (c_is_name _ _) _ _); refine wp_of (name_eq ?p ?q) ?_; (case p => walk_at "p"); (case q => first | assumption | omega))
  | ((with_reducible show Wp (c_is_ident _ _) _ _); refine wp_of (ident_eq ?p) ?_; (case p => assumption))
  | ((with_reducible show Wp (c_is_glove _ _) _ _); refine wp_of (glove_eq ?p ?q) ?_; (case p => assumption); (case q => first | assumption | omega)))
local macro_rules | `(tactic| walk_at "d1") => `(tactic| first
  | ((with_reducible show Wp (c_draw _ _) _ _); refine' dr ?s ?k ?a ?b ?_; (case s => assumption); (case k => assumption); (case a => first | decide | omega); (case b => first | decide | omega); intro _ _ _ _ _))
local macro_rules | `(tactic| walk_at "d") => `(tactic| repeat (first | walk_at "s1" | walk_at "e1" | walk_at "h1" | walk_at "P1" | walk_at "d1"))
local macro_rules | `(tactic| walk_at "db") => `(tactic| repeat' (first | walk_at "s1" | walk_at "e1" | walk_at "h1" | walk_at "P1" | walk_at "d1" | walk_at "b1"))

/-- a name by its signs -/
def NmT (cs : List Nat) : Prop := 1 ≤ cs.length ∧ cs.length ≤ 8 ∧ Lw cs
theorem nm_of {d : D} (h : IsNm d) : ∃ cs, d = .str (T cs) ∧ NmT cs := by
  obtain ⟨cs, rfl, a, b, c⟩ := h
  exact ⟨cs, rfl, a, b, c⟩
/-- a glove by its parts -/
abbrev gl (m n : Int) (sd st : List Nat) (lo hi gr : Int) : D := .tup [.int m, .int n, .str (T sd), .str (T st), .int lo, .int hi, .int gr]
structure Gl (d : D) : Prop where
  ex : ∃ m n sd st lo hi gr, d = gl m n sd st lo hi gr ∧ 0 ≤ m ∧ m ≤ 999999 ∧ 0 ≤ n ∧ n ≤ 99 ∧ IsSide sd ∧ NmT st ∧ 1 ≤ lo ∧ lo ≤ 99 ∧ lo ≤ hi ∧ hi ≤ 138 ∧ 0 ≤ gr ∧ gr ≤ 2
section
variable {L : Nat} {K : Hs → Prop} {h : Hs} {Q : D → Hs → Prop} {X : XQ} {sty : List D}
theorem any_glove_wp (S : St L K h) (sK : Stb L K) (z0 : 0 < sty.length) (z1 : sty.length < 100) (hs : ∀ x ∈ sty, IsNm x) (c : ∀ d h', Gl d → St L K h' → Q d h') : Wp (c_any_glove [.ref 2, .lst sty] h) Q X := by
  unfold c_any_glove f_any_glove
  rw [tl, trr]
  refine wp_bodyE [some (.ref 2), some (.lst sty), none, none, none, none, none] rfl ?_
  walk_at "k"
  refine dr S sK (by decide) (by decide) fun way h1 w0 w1 S => ?_
  walk_at "d"
  have : way = 0 ∨ way = 1 ∨ way = 2 ∨ way = 3 ∨ way = 4 := by omega
  rcases this with rfl | rfl | rfl | rfl | rfl
  all_goals
    walk_at "d"
    refine pkl (by assumption) sK (by decide) (by decide) fun x h2 hx S => ?_
    obtain ⟨sd, rfl, hsd⟩ := sides hx
    walk_at "d"
    refine pkl S sK z0 (by omega) fun x h3 hx S => ?_
    obtain ⟨st, rfl, hst⟩ := nm_of (hs x hx)
    walk_at "d"
    exact c _ _ ⟨_, _, _, _, _, _, _, rfl, by omega, by omega, by omega, by omega, hsd, hst, by omega, by omega, by omega, by omega, by omega, by omega⟩ (by assumption)
end
end G

/-! # G29: short texts -/
namespace G
open PySem PySem.Spec PyProof.Rows L2
/-- a text of at most so many signs -/
structure Tx (n : Nat) (z : Str) : Prop where
  ok : okS z = true
  len : z.length ≤ n
theorem str_len (a b : Str) : (a ++ b).length = a.length + b.length := by
  show (a.cps ++ b.cps).size = _
  rw [Array.size_append]; rfl
theorem len_half {a b : Str} {k : Nat} (x : a.length ≤ k / 2) (y : b.length ≤ k / 2) : (a ++ b).length ≤ k := by rw [str_len]; omega
theorem lit_half {s : String} {k : Nat} (h : s.length ≤ k) : (Str.ofString s).length ≤ k := by rw [PySem.ofString_length]; exact h
theorem T_half {cs : List Nat} {k : Nat} (h : cs.length ≤ k) : (T cs).length ≤ k := by rw [T_len]; exact h
theorem okS_iff {z : Str} : okS z = true ↔ ∀ c ∈ z.cps.toList, c < 0x110000 := by
  constructor
  · exact okS_lt
  · intro h
    unfold okS
    rw [Array.all_eq_true']
    intro c hc
    exact decide_eq_true (h c (by simpa using hc))
theorem okS_lit (s : String) : okS (Str.ofString s) = true := by
  rw [okS_iff]
  intro c hc
  rw [Str.ofString_eq_toList] at hc
  obtain ⟨ch, _, rfl⟩ := List.mem_map.mp (show c ∈ s.toList.map Char.toNat from hc)
  have := ch.valid
  unfold UInt32.isValidChar Nat.isValidChar at this
  show ch.toNat < _
  have e : ch.toNat = ch.val.toNat := rfl
  omega
theorem Tx.mono {n m : Nat} {z : Str} (a : Tx n z) (h : n ≤ m) : Tx m z := ⟨a.ok, Nat.le_trans a.len h⟩
theorem tx_lit {n : Nat} {s : String} (h : s.length ≤ n) : Tx n (Str.ofString s) := ⟨okS_lit s, by rw [PySem.ofString_length]; exact h⟩
theorem Tx.app {n m : Nat} {a b : Str} (x : Tx n a) (y : Tx m b) : Tx (n + m) (a ++ b) := ⟨okS_app x.ok y.ok, by rw [str_len]; exact Nat.add_le_add x.len y.len⟩
theorem Tx.cut {n : Nat} {a : Str} (x : Tx n a) (lo hi : Option Int) : Tx n (cutS a lo hi) := by
  rw [T_of a, T_cut]
  refine ⟨okS_iff.mpr fun c hc => okS_lt x.ok c (mem_cutX hc), ?_⟩
  rw [T_len]
  unfold cutX
  rw [List.length_take, List.length_drop]
  have := x.len
  have e : a.cps.toList.length = a.length := Array.length_toList
  omega
theorem cut_half {a : Str} {k : Nat} {lo hi : Option Int} (h : a.length ≤ k) : (cutS a lo hi).length ≤ k := by
  rw [T_of a, T_cut, T_len]
  unfold cutX
  rw [List.length_take, List.length_drop]
  have e : a.cps.toList.length = a.length := Array.length_toList
  omega
theorem Tx.T {cs : List Nat} (h : Lw cs) {n : Nat} (l : cs.length ≤ n) : Tx n (T cs) := ⟨lw_ok h, by rw [T_len]; exact l⟩
theorem tx_int {i : Int} (h : i.natAbs < 10 ^ 60) : Tx 61 (toString i : String) := ⟨okS_lit _, by rw [PySem.ofString_length]; exact int_text_length_le10 (by decide) h⟩
/-- small letters, figures and the like -/
def Asc (z : Str) : Prop := z.cps.toList.all (· < 128) = true
theorem asc_T {cs : List Nat} (h : Lw cs) : Asc (G.T cs) := List.all_eq_true.mpr fun c hc => decide_eq_true (by have := h c hc; omega)
theorem upper_asc {z : Str} (a : Asc z) : Txt.upper z = G.T (z.cps.toList.map PyProof.Rows.up1) := by
  have := SX.upper_S (a := z.cps.toList) a
  have e : SX.S z.cps.toList = z := (T_of z).symm
  rw [e] at this
  exact this
theorem tx_upper {n : Nat} {z : Str} (a : Asc z) (l : z.length ≤ n) : Tx n (Txt.upper z) := by
  rw [upper_asc a]
  refine ⟨okS_iff.mpr fun c hc => ?_, ?_⟩
  · obtain ⟨b, hb, rfl⟩ := List.mem_map.mp (show c ∈ z.cps.toList.map PyProof.Rows.up1 from hc)
    have := of_decide_eq_true (List.all_eq_true.mp a b hb)
    unfold PyProof.Rows.up1
    split <;> omega
  · rw [T_len, List.length_map]
    have e : z.cps.toList.length = z.length := Array.length_toList
    omega
theorem sm_tx {k n : Nat} {z : Str} (a : Tx n z) : Sm k n (.str z) := sm_str a.ok a.len
section
variable {h : Hs} {x y : Str} {i : Int} {xs ys : List D} {e : Ev} {Q : D → Hs → Prop} {X : XQ}
theorem add_str (q : x.length ≤ 50000) (r : y.length ≤ 50000) : gAdd h (.str x) (.str y) = some (.str (x ++ y)) := if_pos (le_line (by omega))
theorem sl_str {lo hi : Option Int} (q : x.length ≤ 100000) : gSl h (.str x) lo hi = some (.str (cutS x lo hi)) := if_pos (le_line q)
theorem len_str (q : x.length ≤ 100000) : gLen h [.str x] = some (.int x.length) := if_pos (le_line q)
theorem upper_str (q : x.length ≤ 100000) : mUpper h (.str x) [] = some (.str (Txt.upper x), h) := if_pos (by omega)
theorem str_int (q : i.natAbs < 10 ^ 60) : gStr h [.int i] = some (.str (toString i : String)) := by
  unfold gStr
  exact if_pos (int_lf q)
theorem eq_same : gEq h (.str x) (.str x) = some (.bl true) := by
  show some (D.bl (x == x)) = _
  rw [beq_self_eq_true]
theorem ne_same : gNe h (.str x) (.str x) = some (.bl false) := by
  show some (D.bl (!(x == x))) = _
  rw [beq_self_eq_true]; rfl
theorem rev_tup : gRev h (.tup xs) = some (.tup xs.reverse) := rfl
theorem rev_lst : gRev h (.lst xs) = some (.lst xs.reverse) := rfl
theorem is_bl {p q : Bool} : gIs h (.bl p) (.bl q) = some (.bl (decide (p = q))) := rfl
theorem isN_bl {p q : Bool} : gIsN h (.bl p) (.bl q) = some (.bl (!decide (p = q))) := rfl
theorem neg_i : gNeg h (.int i) = some (.int (-i)) := rfl
theorem wp_inv {a : Type} {o : Option a} {h : Hs} {Q : a → Hs → Prop} {X : XQ} (w : Wp (R.ofO o h) Q X) : ∃ x, o = some x ∧ Q x h := by
  with_unfolding_all
  cases o with
  | none => exact False.elim w
  | some x => exact ⟨x, rfl, w⟩
theorem wp_lAdd {f1 f2 : FE} {Q : List D → Hs → Prop} (g : Wp (f1 e h) (fun x h1 => Wp (f2 e h1) (fun y h2 => Wp (R.ofO (lstOf h2 x) h2) (fun xs h3 => Wp (R.ofO (lstOf h3 y) h3) (fun ys h4 => (xs.length ≤ 50000 ∧ ys.length ≤ 50000) ∧ Q (xs ++ ys) h4) X) X) X) X) : Wp (lAdd f1 f2 e h) Q X := by
  unfold lAdd
  refine wp_bind (wp_mono g (fun x h1 q => wp_bind (wp_mono q (fun y h2 q => ?_) fun _ _ _ x => x)) fun _ _ _ x => x)
  obtain ⟨xs, e1, q⟩ := wp_inv q
  obtain ⟨ys, e2, ⟨l1, l2⟩, q⟩ := wp_inv q
  rw [e1]
  dsimp only
  rw [e2]
  dsimp only
  rw [if_pos (le_line (by omega))]
  exact wp_ok q
theorem lst_lst : lstOf h (.lst xs) = some xs := rfl
theorem ix_str {c : Nat} (q : x.length ≤ 100000) (e : atI x.cps.toList i = some c) : gIx h (.str x) (.int i) = some (.str ⟨#[c]⟩) := by
  show (if x.length ≤ sizeLine then (match atI x.cps.toList i with | some c => some (D.str ⟨#[c]⟩) | none => none) else none) = _
  rw [if_pos (le_line q), e]
end
mutual
/-- data without dicts -/
def lay : D → Bool
  | .non => true
  | .bl _ => true
  | .int _ => true
  | .str s => okS s
  | .tup ds => lays ds
  | .lst ds => lays ds
  | _ => false
def lays : List D → Bool
  | [] => true
  | d :: ds => lay d && lays ds
end
theorem lays_iff {ds : List D} : lays ds = true ↔ ∀ x ∈ ds, lay x = true := by
  induction ds with
  | nil => exact ⟨fun _ x h => (nomatch h), fun _ => rfl⟩
  | cons d ds ih =>
    show (lay d && lays ds) = true ↔ _
    rw [Bool.and_eq_true, ih]; simp
mutual
theorem lay_pd {r : Nat → Option PyData} : ∀ {d : D}, lay d = true → ∃ p, pdW r d = some p ∧ PyData.canLay0 p = true ∧ p.depth ≤ dep d
  | .non, _ => ⟨_, rfl, rfl, Nat.zero_le _⟩
  | .bl b, _ => ⟨_, rfl, rfl, Nat.zero_le _⟩
  | .int i, _ => ⟨_, rfl, rfl, Nat.zero_le _⟩
  | .str s, h => ⟨.str s, rfl, h, Nat.zero_le _⟩
  | .tup ds, h => by
    obtain ⟨ps, e1, e2, e3⟩ := lays_pd (r := r) (ds := ds) h
    exact ⟨.tuple ps, by show (pdWs r ds).map PyData.tuple = _; rw [e1]; rfl, e2, Nat.succ_le_succ e3⟩
  | .lst ds, h => by
    obtain ⟨ps, e1, e2, e3⟩ := lays_pd (r := r) (ds := ds) h
    exact ⟨.list ps, by show (pdWs r ds).map PyData.list = _; rw [e1]; rfl, e2, Nat.succ_le_succ e3⟩
theorem lays_pd {r : Nat → Option PyData} : ∀ {ds : List D}, lays ds = true → ∃ ps, pdWs r ds = some ps ∧ PyData.canLayAll0 ps = true ∧ PyData.depthAll ps ≤ deps ds
  | [], _ => ⟨[], rfl, rfl, Nat.zero_le _⟩
  | d :: ds, h => by
    have h := (Bool.and_eq_true _ _).mp (show (lay d && lays ds) = true from h)
    obtain ⟨p, e1, e2, e3⟩ := lay_pd (r := r) h.1
    obtain ⟨ps, f1, f2, f3⟩ := lays_pd (r := r) h.2
    refine ⟨p :: ps, ?_, ?_, ?_⟩
    · unfold pdWs
      rw [e1, f1]
    · show (PyData.canLay0 p && PyData.canLayAll0 ps) = true
      rw [e2, f2]; rfl
    · show max _ _ ≤ max _ _
      omega
end
theorem pdWs_empty {r : Nat → Option PyData} {ds : List D} {ps : List PyData} (h : pdWs r ds = some ps) : ps.isEmpty = ds.isEmpty := by
  cases ds with
  | nil => cases h; rfl
  | cons d ds =>
    unfold pdWs at h
    split at h
    · split at h
      · cases h; rfl
      · cases h
    · cases h
section
variable {h : Hs} {x y : Str} {i : Int} {xs ys : List D} {e : Ev} {Q : D → Hs → Prop} {X : XQ}
theorem eqB_nil {ds : List D} (hf : lays ds = true) (hd : deps ds ≤ 60) : gEqB h (.lst ds) (.lst []) = some ds.isEmpty := by
  obtain ⟨ps, h1, h2, h3⟩ := lays_pd (r := pdH h 40) hf
  have e : pd h (.lst ds) = some (.list ps) := by
    show (pdWs _ ds).map PyData.list = _
    rw [h1]; rfl
  have s : SeqAt.shaped (.list ps) = true := by
    unfold SeqAt.shaped
    show (PyData.canLayAll0 ps && decide (PyData.depthAll ps + 1 ≤ 64)) = true
    rw [h2, decide_eq_true (by omega)]; rfl
  show gEqD h (.lst ds) (.lst []) = _
  unfold gEqD
  rw [e]
  show (if (SeqAt.shaped (.list ps) && SeqAt.shaped (.list [])) = true then _ else none) = _
  rw [s, ← pdWs_empty h1]
  cases ps <;> rfl
theorem eq_nil {ds : List D} (hf : lays ds = true) (hd : deps ds ≤ 60) : gEq h (.lst ds) (.lst []) = some (.bl ds.isEmpty) := by unfold gEq; rw [eqB_nil hf hd]; rfl
theorem ne_nil {ds : List D} (hf : lays ds = true) (hd : deps ds ≤ 60) : gNe h (.lst ds) (.lst []) = some (.bl (!ds.isEmpty)) := by unfold gNe; rw [eqB_nil hf hd]; rfl
theorem isEmpty_iff {t : Type} {ds : List t} {b : Bool} (h : ds = [] ↔ b = true) : ds.isEmpty = b := by
  cases ds with
  | nil => exact (h.mp rfl).symm
  | cons x xs =>
    cases b with
    | true => exact nomatch h.mpr rfl
    | false => rfl
theorem sgn_lay {z : Str} (hz : okS z = true) : ∀ x ∈ G.signs z, lay x = true := by
  intro x hx
  obtain ⟨c, hc, rfl⟩ := List.mem_map.mp hx
  exact okS_iff.mpr fun b hb => by
    have : b = c := by simpa using hb
    rw [this]; exact okS_lt hz c hc
theorem sgn_dep {z : Str} : ∀ x ∈ G.signs z, dep x = 0 := by
  intro x hx
  obtain ⟨c, hc, rfl⟩ := List.mem_map.mp hx
  rfl
end
/-! ### by any wish -/
theorem eq_any {r : R D} {x : D} {h : Hs} (w : ∀ (Q : D → Hs → Prop) (X : XQ), Q x h → Wp r Q X) : r = .ok x h := by
  obtain ⟨d, h', e, rfl, rfl⟩ := wp_get (w (fun d h' => d = x ∧ h' = h) nX ⟨rfl, rfl⟩)
  exact e
theorem closeB {Q : D → Hs → Prop} {b b' : Bool} {h : Hs} (c : Q (.bl b) h) (e : b = b') : Q (.bl b') h := e ▸ c
/-- of which kind -/
def tyIs (d : D) (u : Tn) : Bool := match d with
  | .bl _ => isTn .bool u
  | .int _ => isTn .int u
  | .str _ => isTn .str u
  | .tup _ => isTn .tup u
  | .lst _ => isTn .lst u
  | .dct _ _ => isTn .dct u
  | _ => false
theorem isi_pln {h : Hs} {d : D} {u : Tn} (p : Pln d) : gIsi h [d, .ty u] = some (.bl (tyIs d u)) := by cases p <;> rfl
theorem tyIs_str {d : D} (h : tyIs d .str = true) : ∃ z, d = .str z := by cases d <;> first | exact ⟨_, rfl⟩ | cases h
theorem tyIs_tup {d : D} (h : tyIs d .tup = true) : ∃ z, d = .tup z := by cases d <;> first | exact ⟨_, rfl⟩ | cases h
theorem tyIs_lst {d : D} (h : tyIs d .lst = true) : ∃ z, d = .lst z := by cases d <;> first | exact ⟨_, rfl⟩ | cases h
theorem isSd_not {d : D} (h : tyIs d .str = false) : isSd d = false := by cases d <;> first | rfl | cases h
theorem isNa_not {d : D} (h : tyIs d .str = false) : isNa d = false := by cases d <;> first | rfl | cases h
theorem tx_rep {n m : Nat} {z : Str} {k : Int} (a : Tx n z) (h : k.toNat * n ≤ m) : Tx m (repS z k) := by
  have e : repS z k = G.T (List.replicate k.toNat z.cps.toList).flatten := by rw [T_of z, repS_T, T_cps]
  rw [e]
  refine ⟨okS_iff.mpr fun c hc => ?_, ?_⟩
  · obtain ⟨l, hl, hc⟩ := List.mem_flatten.mp (show c ∈ (List.replicate k.toNat z.cps.toList).flatten from hc)
    rw [(List.mem_replicate.mp hl).2] at hc
    exact okS_lt a.ok c hc
  · rw [T_len, List.length_flatten, List.map_replicate, List.sum_replicate_nat]
    have e2 : z.cps.toList.length = z.length := Array.length_toList
    rw [e2]
    exact Nat.le_trans (Nat.mul_le_mul_left _ a.len) h
section
variable {h : Hs} {x : Str} {i : Int} {xs : List D}
theorem mulS_str (a : 2 ≤ i) (b : i ≤ 10000) (d : x.length ≤ 1000) : gMulS h (.str x) (.int i) = some (.str (repS x i)) := by
  unfold gMulS
  dsimp only
  rw [decide_eq_true a, decide_eq_true b, decide_eq_true d]
  rfl
theorem mulS_tupA (a : 2 ≤ i) (b : i ≤ 1000) (c : xs.isEmpty = false) (d : xs.length ≤ 1000) : gMulS h (.tup xs) (.int i) = some (.tup (List.replicate i.toNat xs).flatten) := mulS_tup a b c d
theorem pow39 : gPow h (.int 10) (.int 39) = some (.int 1000000000000000000000000000000000000000) := rfl
theorem pow30 : gPow h (.int 10) (.int 30) = some (.int 1000000000000000000000000000000) := rfl
theorem pow40 : gPow h (.int 10) (.int 40) = some (.int 10000000000000000000000000000000000000000) := rfl
theorem tru_non : tru h .non = some false := rfl
theorem tru_int : tru h (.int i) = some (i != 0) := rfl
theorem tru_str (q : x.length ≤ 100000) : tru h (.str x) = some ((x.length : Int) != 0) := if_pos (le_line q)
theorem tru_tup : tru h (.tup xs) = some (!xs.isEmpty) := rfl
end
mutual
theorem val_lf : ∀ {d : D}, lf d = true → val d = true
  | .non, _ => rfl
  | .bl _, _ => rfl
  | .int _, _ => rfl
  | .str _, _ => rfl
  | .tup ds, h => vals_lf (ds := ds) h
  | .lst ds, h => vals_lf (ds := ds) h
  | .dct ks ds, h => vals_lf (ds := ds) ((Bool.and_eq_true _ _).mp (show (ks.all klf && decide (ks.length = ds.length) && lfs ds) = true from h)).2
theorem vals_lf : ∀ {ds : List D}, lfs ds = true → vals ds = true
  | [], _ => rfl
  | d :: ds, h => (Bool.and_eq_true _ _).mpr ⟨val_lf (lfs_cons.mp h).1, vals_lf (lfs_cons.mp h).2⟩
end
/-! ### lengths of lists, by halves -/
section
variable {t : Type} {xs ys : List t} {k : Nat} {h : Hs} {us vs : List D}
theorem app_half (x : xs.length ≤ k / 2) (y : ys.length ≤ k / 2) : (xs ++ ys).length ≤ k := by rw [List.length_append]; omega
theorem cutL_half {lo hi : Option Int} (x : xs.length ≤ k) : (cutX xs lo hi).length ≤ k := Nat.le_trans ((List.take_sublist ..).trans (List.drop_sublist ..)).length_le x
theorem rev_half (x : xs.length ≤ k) : xs.reverse.length ≤ k := by rw [List.length_reverse]; exact x
theorem cons_half {a : t} (x : xs.length ≤ k / 2) (k1 : 2 ≤ k) : (a :: xs).length ≤ k := by rw [List.length_cons]; omega
theorem map_half {u : Type} {f : t → u} (x : xs.length ≤ k) : (xs.map f).length ≤ k := by rw [List.length_map]; exact x
theorem add_tup2 (a : us.length ≤ 50000) (b : vs.length ≤ 50000) : gAdd h (.tup us) (.tup vs) = some (.tup (us ++ vs)) := add_tup (by omega)
theorem add_lst2 (a : us.length ≤ 50000) (b : vs.length ≤ 50000) : gAdd h (.lst us) (.lst vs) = some (.lst (us ++ vs)) := add_lst (by omega)
end
/-! ### things behind -/
section
variable {L n : Nat} {K : Hs → Prop} {h : Hs} {o : O} {ds : List D} {i : Int} {Q : D → Hs → Prop} {X : XQ}
theorem lst_ref (e : h[n]? = some (.lst ds)) : lstOf h (.ref n) = some ds := by
  unfold lstOf
  dsimp only
  rw [e]
theorem len_ref (e : h[n]? = some (.lst ds)) : gLen h [.ref n] = some (.int ds.length) := len_seq (seq_ref e)
theorem tup_ref (e : h[n]? = some (.lst ds)) : gTuple h [.ref n] = some (.tup ds) := by
  show (match rdOf h (.ref n) with | some xs => some (D.tup xs) | none => none) = _
  rw [rd_ref e]
theorem lt_line {m : Nat} (q : m ≤ 100000) : m < sizeLine := by rw [sizeLine_eq]; omega
theorem app_ref2 {d : D} (e : h[n]? = some (.lst ds)) (q : ds.length ≤ 50000) : mAppend h (.ref n) [d] = some (.non, h.set n (.lst (ds ++ [d]))) := app_ref e (lt_line (by omega))
theorem St.wapp (S : St L K h) (sK : Stb L K) : St L K (h ++ [o]) := (S.app (o := o) sK).weak (Nat.le_succ_of_le S.len) fun k => k.1
theorem St.wset (S : St L K h) (sK : Stb L K) (l : L ≤ n) (l2 : 2 < n) : St L K (h.set n o) := by
  obtain ⟨ne, ⟨s, k, h1⟩, ⟨ns, hl, h2⟩⟩ := S.deck
  refine ⟨⟨ne, ⟨s, k, by rw [get_set_ne (by omega)]; exact h1⟩, ⟨ns, hl, by rw [get_set_ne (by omega)]; exact h2⟩⟩, sK _ _ S.keep S.len fun m hm _ _ => get_set_ne (by omega), ?_⟩
  rw [List.length_set]; exact S.len
theorem wp_ixR {P : D → Prop} (e : h[n]? = some (.lst ds)) (i0 : 0 ≤ i) (i1 : i < ds.length) (hP : ∀ x ∈ ds, P x) (c : ∀ x, P x → Q x h) : Wp (R.ofO (gIx h (.ref n) (.int i)) h) Q X := by
  obtain ⟨x, hx, hm, _⟩ := atI_mem i0 i1
  exact wp_some (ix_ref e hx) (c x (hP x hm))
theorem wp_ixT {P : D → Prop} (i0 : 0 ≤ i) (i1 : i < ds.length) (hP : ∀ x ∈ ds, P x) (c : ∀ x, P x → Q x h) : Wp (R.ofO (gIx h (.tup ds) (.int i)) h) Q X := by
  obtain ⟨x, hx, hm, _⟩ := atI_mem i0 i1
  exact wp_some (ix_tup hx) (c x (hP x hm))
end
section
variable {n m : Nat} {h : Hs} {ds es : List D}
theorem addL_of {x y : D} (a : lstOf h x = some ds) (b : lstOf h y = some es) (l : ds.length ≤ 50000) (l2 : es.length ≤ 50000) : gAddL h x y = some (.lst (ds ++ es)) := by
  unfold gAddL
  rw [a]
  dsimp only
  rw [b]
  dsimp only
  rw [if_pos (le_line (by omega))]
theorem add_rl (a : h[n]? = some (.lst ds)) (l : ds.length ≤ 50000) (l2 : es.length ≤ 50000) : gAdd h (.ref n) (.lst es) = some (.lst (ds ++ es)) := show gAddL h (.ref n) (.lst es) = _ from addL_of (x := .ref n) (y := .lst es) (lst_ref a) rfl l l2
theorem add_lr (a : h[n]? = some (.lst es)) (l : ds.length ≤ 50000) (l2 : es.length ≤ 50000) : gAdd h (.lst ds) (.ref n) = some (.lst (ds ++ es)) := show gAddL h (.lst ds) (.ref n) = _ from addL_of (x := .lst ds) (y := .ref n) rfl (lst_ref a) l l2
theorem add_rr (a : h[n]? = some (.lst ds)) (b : h[m]? = some (.lst es)) (l : ds.length ≤ 50000) (l2 : es.length ≤ 50000) : gAdd h (.ref n) (.ref m) = some (.lst (ds ++ es)) := show gAddL h (.ref n) (.ref m) = _ from addL_of (x := .ref n) (y := .ref m) (lst_ref a) (lst_ref b) l l2
end
end G

/-! # G30: plain data by bounds: whole numbers, depth, size; texts of plain signs -/
namespace G
open PySem PySem.Spec PyProof.Rows L2
/-! ### plain texts -/
structure Tz (n : Nat) (z : Str) : Prop where
  asc : Asc z
  len : z.length ≤ n
theorem asc_iff {z : Str} : Asc z ↔ ∀ c ∈ z.cps.toList, c < 128 := by
  unfold Asc
  rw [List.all_eq_true]
  exact ⟨fun h c hc => of_decide_eq_true (h c hc), fun h c hc => decide_eq_true (h c hc)⟩
theorem cps_app (a b : Str) : (a ++ b).cps.toList = a.cps.toList ++ b.cps.toList := by
  show (a.cps ++ b.cps).toList = _
  rw [Array.toList_append]
theorem Tz.tx {n : Nat} {z : Str} (t : Tz n z) : Tx n z := ⟨okS_iff.mpr fun c hc => by have := asc_iff.mp t.asc c hc; omega, t.len⟩
theorem Tz.mono {n m : Nat} {z : Str} (a : Tz n z) (h : n ≤ m) : Tz m z := ⟨a.asc, Nat.le_trans a.len h⟩
theorem Tz.app {n m : Nat} {a b : Str} (x : Tz n a) (y : Tz m b) : Tz (n + m) (a ++ b) :=
  ⟨asc_iff.mpr fun c hc => by rw [cps_app] at hc; exact (List.mem_append.mp hc).elim (asc_iff.mp x.asc c) (asc_iff.mp y.asc c), (x.tx.app y.tx).len⟩
theorem Tz.cut {n : Nat} {a : Str} (x : Tz n a) (lo hi : Option Int) : Tz n (cutS a lo hi) :=
  ⟨asc_iff.mpr fun c hc => by rw [T_of a, T_cut] at hc; exact asc_iff.mp x.asc c (mem_cutX hc), (x.tx.cut lo hi).len⟩
theorem Tz.upper {n : Nat} {a : Str} (x : Tz n a) : Tz n (Txt.upper a) := by
  refine ⟨?_, (tx_upper x.asc x.len).len⟩
  rw [upper_asc x.asc, asc_iff]
  intro c hc
  obtain ⟨b, hb, rfl⟩ := List.mem_map.mp (show c ∈ a.cps.toList.map PyProof.Rows.up1 from hc)
  have := asc_iff.mp x.asc b hb
  unfold PyProof.Rows.up1
  split <;> omega
theorem Tz.rep {n m : Nat} {z : Str} {k : Int} (a : Tz n z) (h : k.toNat * n ≤ m) : Tz m (repS z k) := by
  refine ⟨?_, (tx_rep a.tx h).len⟩
  have e : repS z k = G.T (List.replicate k.toNat z.cps.toList).flatten := by rw [T_of z, repS_T, T_cps]
  rw [e, asc_iff]
  intro c hc
  obtain ⟨l, hl, hc⟩ := List.mem_flatten.mp (show c ∈ (List.replicate k.toNat z.cps.toList).flatten from hc)
  rw [(List.mem_replicate.mp hl).2] at hc
  exact asc_iff.mp a.asc c hc
theorem Tz.rev {n : Nat} {z : Str} (a : Tz n z) : Tz n (G.T z.cps.toList.reverse) := by
  refine ⟨asc_iff.mpr fun c hc => asc_iff.mp a.asc c (List.mem_reverse.mp hc), ?_⟩
  rw [T_len, List.length_reverse]
  have e : z.cps.toList.length = z.length := Array.length_toList
  rw [e]; exact a.len
theorem Tz.T {cs : List Nat} (h : Lw cs) {n : Nat} (l : cs.length ≤ n) : Tz n (G.T cs) := ⟨asc_T h, by rw [T_len]; exact l⟩
theorem Tz.one {c n : Nat} (h : c < 128) : Tz (n + 1) ⟨#[c]⟩ := ⟨asc_iff.mpr fun b hb => by
  have : b = c := by simpa using hb
  omega, Nat.le_add_left 1 n⟩
theorem tz_lit {n : Nat} {s : String} (a : (Str.ofString s).cps.toList.all (· < 128) = true) (h : s.length ≤ n) : Tz n (Str.ofString s) := ⟨a, by rw [PySem.ofString_length]; exact h⟩
theorem digit_asc : ∀ n : Nat, ∀ c ∈ (Nat.repr n).toList, c.toNat < 128 := by
  intro n c hc
  have h := Nat.isDigit_of_mem_toDigits (b := 10) (n := n) (by decide) (by decide) (c := c) (by simpa [Nat.repr] using hc)
  unfold Char.isDigit at h
  simp only [Bool.and_eq_true, decide_eq_true_eq] at h
  have h2 : c.val ≤ 57 := h.2
  have : c.val.toNat ≤ 57 := h2
  show c.val.toNat < 128
  omega
theorem int_asc (i : Int) : Asc (toString i : String) := by
  rw [asc_iff]
  intro c hc
  rw [Str.ofString_eq_toList] at hc
  obtain ⟨ch, hm, rfl⟩ := List.mem_map.mp (show c ∈ (toString i : String).toList.map Char.toNat from hc)
  cases i with
  | ofNat m => exact digit_asc m ch hm
  | negSucc m =>
    have e : toString (Int.negSucc m) = "-" ++ Nat.repr (m + 1) := rfl
    rw [e, String.toList_append] at hm
    rcases List.mem_append.mp hm with hm | hm
    · have : ch = '-' := by simpa using hm
      rw [this]; decide
    · exact digit_asc _ ch hm
theorem tz_int {i : Int} (h : i.natAbs < 10 ^ 60) : Tz 61 (toString i : String) := ⟨int_asc i, (tx_int h).len⟩
/-! ### plain data, whole numbers up to B -/
def kdn (B : Nat) : Key → Bool
  | .inl i => decide (i.natAbs ≤ B)
  | .inr s => s.cps.toList.all (· < 128)
mutual
def dn (B : Nat) : D → Bool
  | .non => true
  | .bl _ => true
  | .int i => decide (i.natAbs ≤ B)
  | .str s => s.cps.toList.all (· < 128)
  | .tup ds => dns B ds
  | .lst ds => dns B ds
  | .dct ks ds => ks.all (kdn B) && decide (ks.length = ds.length) && dns B ds
  | _ => false
def dns (B : Nat) : List D → Bool
  | [] => true
  | d :: ds => dn B d && dns B ds
end
theorem dns_cons {B : Nat} {d : D} {ds : List D} : dns B (d :: ds) = true ↔ dn B d = true ∧ dns B ds = true := Bool.and_eq_true _ _ ▸ Iff.rfl
theorem dns_iff {B : Nat} {ds : List D} : dns B ds = true ↔ ∀ x ∈ ds, dn B x = true := by
  induction ds with
  | nil => exact ⟨fun _ x h => (nomatch h), fun _ => rfl⟩
  | cons d ds ih => rw [dns_cons, ih]; simp
theorem asc_ok {z : Str} (a : Asc z) : okS z = true := okS_iff.mpr fun c hc => by have := asc_iff.mp a c hc; omega
theorem kdn_lf {B : Nat} (hB : B < 10 ^ 60) {k : Key} (h : kdn B k = true) : klf k = true := by
  cases k with
  | inl i => exact decide_eq_true (Nat.lt_of_le_of_lt (of_decide_eq_true h) hB)
  | inr s => exact asc_ok h
theorem kdn_mono {B C : Nat} (hB : B ≤ C) {k : Key} (h : kdn B k = true) : kdn C k = true := by
  cases k with
  | inl i => exact decide_eq_true (Nat.le_trans (of_decide_eq_true h) hB)
  | inr s => exact h
theorem all_imp {t : Type} {p q : t → Bool} {xs : List t} (i : ∀ x, p x = true → q x = true) (h : xs.all p = true) : xs.all q = true := by
  rw [List.all_eq_true] at *
  exact fun x hx => i x (h x hx)
theorem dct_iff {B : Nat} {ks : List Key} {ds : List D} : dn B (.dct ks ds) = true ↔ (ks.all (kdn B) = true ∧ ks.length = ds.length) ∧ dns B ds = true := by
  show (ks.all (kdn B) && decide (ks.length = ds.length) && dns B ds) = true ↔ _
  rw [Bool.and_eq_true, Bool.and_eq_true, decide_eq_true_iff]
mutual
theorem dn_lf {B : Nat} (hB : B < 10 ^ 60) : ∀ {d : D}, dn B d = true → lf d = true
  | .non, _ => rfl
  | .bl _, _ => rfl
  | .int _, h => decide_eq_true (Nat.lt_of_le_of_lt (of_decide_eq_true h) hB)
  | .str _, h => asc_ok h
  | .tup ds, h => dns_lf hB (ds := ds) h
  | .lst ds, h => dns_lf hB (ds := ds) h
  | .dct ks ds, h => by
    obtain ⟨⟨a, b⟩, c⟩ := dct_iff.mp h
    show (ks.all klf && decide (ks.length = ds.length) && lfs ds) = true
    rw [all_imp (fun x => kdn_lf hB) a, decide_eq_true b, dns_lf hB c]; rfl
theorem dns_lf {B : Nat} (hB : B < 10 ^ 60) : ∀ {ds : List D}, dns B ds = true → lfs ds = true
  | [], _ => rfl
  | d :: ds, h => lfs_cons.mpr ⟨dn_lf hB (dns_cons.mp h).1, dns_lf hB (dns_cons.mp h).2⟩
end
mutual
theorem dn_mono {B C : Nat} (hB : B ≤ C) : ∀ {d : D}, dn B d = true → dn C d = true
  | .non, _ => rfl
  | .bl _, _ => rfl
  | .int _, h => decide_eq_true (Nat.le_trans (of_decide_eq_true h) hB)
  | .str _, h => h
  | .tup ds, h => dns_mono hB (ds := ds) h
  | .lst ds, h => dns_mono hB (ds := ds) h
  | .dct ks ds, h => by
    obtain ⟨⟨a, b⟩, c⟩ := dct_iff.mp h
    exact dct_iff.mpr ⟨⟨all_imp (fun x => kdn_mono hB) a, b⟩, dns_mono hB c⟩
theorem dns_mono {B C : Nat} (hB : B ≤ C) : ∀ {ds : List D}, dns B ds = true → dns C ds = true
  | [], _ => rfl
  | d :: ds, h => dns_cons.mpr ⟨dn_mono hB (dns_cons.mp h).1, dns_mono hB (dns_cons.mp h).2⟩
end
/-- plain data: whole numbers up to B, so deep, so great -/
structure Dd (B k n : Nat) (d : D) : Prop where
  dn_ : dn B d = true
  dep_ : dep d ≤ k
  blk_ : blk d ≤ n
structure Dds (B k n : Nat) (ds : List D) : Prop where
  dn_ : dns B ds = true
  dep_ : deps ds ≤ k
  blk_ : blks ds ≤ n
section
variable {B C k n m k' n' : Nat} {d : D} {ds xs ys : List D} {z : Str} {i : Int} {b : Bool}
theorem Dd.sm (a : Dd B k n d) (hB : B < 10 ^ 60) : Sm k n d := ⟨dn_lf hB a.dn_, a.dep_, a.blk_⟩
theorem Dds.sms (a : Dds B k n ds) (hB : B < 10 ^ 60) : Sms k n ds := ⟨dns_lf hB a.dn_, a.dep_, a.blk_⟩
theorem Dd.mono (a : Dd B k n d) (hB : B ≤ C) (hk : k ≤ k') (hn : n ≤ n') : Dd C k' n' d := ⟨dn_mono hB a.dn_, Nat.le_trans a.dep_ hk, Nat.le_trans a.blk_ hn⟩
theorem Dds.mono (a : Dds B k n ds) (hB : B ≤ C) (hk : k ≤ k') (hn : n ≤ n') : Dds C k' n' ds := ⟨dns_mono hB a.dn_, Nat.le_trans a.dep_ hk, Nat.le_trans a.blk_ hn⟩
theorem Dd.pln (a : Dd B k n d) : Pln d := by
  have := a.dn_
  cases d <;> first | constructor | exact absurd this Bool.false_ne_true
theorem dds_nil : Dds B k n [] := ⟨rfl, Nat.zero_le _, Nat.zero_le _⟩
theorem dds_cons (a : Dd B k n d) (b : Dds B k m ds) : Dds B k (n + 1 + m) (d :: ds) :=
  ⟨dns_cons.mpr ⟨a.dn_, b.dn_⟩, Nat.max_le.mpr ⟨a.dep_, b.dep_⟩, Nat.add_le_add (Nat.add_le_add_right a.blk_ 1) b.blk_⟩
theorem dds_one (a : Dd B k n d) : Dds B k (n + 1) [d] := (dds_cons a (dds_nil (n := 0))).mono (Nat.le_refl _) (Nat.le_refl _) (Nat.le_refl _)
theorem Dds.app (a : Dds B k n xs) (b : Dds B k m ys) : Dds B k (n + m) (xs ++ ys) :=
  ⟨dns_iff.mpr fun x hx => (List.mem_append.mp hx).elim (dns_iff.mp a.dn_ x) (dns_iff.mp b.dn_ x), deps_iff.mpr fun x hx => (List.mem_append.mp hx).elim (deps_iff.mp a.dep_ x) (deps_iff.mp b.dep_ x), by rw [blks_app]; exact Nat.add_le_add a.blk_ b.blk_⟩
theorem Dds.sub (a : Dds B k n ys) (h : xs.Sublist ys) : Dds B k n xs :=
  ⟨dns_iff.mpr fun x hx => dns_iff.mp a.dn_ x (h.subset hx), deps_iff.mpr fun x hx => deps_iff.mp a.dep_ x (h.subset hx), Nat.le_trans (blks_sub h) a.blk_⟩
theorem Dds.rev (a : Dds B k n xs) : Dds B k n xs.reverse :=
  ⟨dns_iff.mpr fun x hx => dns_iff.mp a.dn_ x (List.mem_reverse.mp hx), deps_iff.mpr fun x hx => deps_iff.mp a.dep_ x (List.mem_reverse.mp hx), by rw [blks_rev]; exact a.blk_⟩
theorem Dds.cut (a : Dds B k n xs) (lo hi : Option Int) : Dds B k n (cutX xs lo hi) := a.sub ((List.take_sublist ..).trans (List.drop_sublist ..))
theorem Dds.mem (a : Dds B k n xs) {x : D} (h : x ∈ xs) : Dd B k n x :=
  ⟨dns_iff.mp a.dn_ x h, deps_iff.mp a.dep_ x h, Nat.le_trans (Nat.le_trans (Nat.le_succ _) (blks_mem h)) a.blk_⟩
theorem Dds.len (a : Dds B k n xs) : xs.length ≤ n := Nat.le_trans blks_len a.blk_
theorem dd_tup (a : Dds B k n ds) : Dd B (k + 1) n (.tup ds) := ⟨a.dn_, Nat.succ_le_succ a.dep_, a.blk_⟩
theorem dd_lst (a : Dds B k n ds) : Dd B (k + 1) n (.lst ds) := ⟨a.dn_, Nat.succ_le_succ a.dep_, a.blk_⟩
theorem dd_d1 (h : i.natAbs ≤ B) (a : Dd B k n d) : Dd B (k + 1) (n + 2) (.dct [.inl i] [d]) := by
  refine ⟨dct_iff.mpr ⟨⟨?_, rfl⟩, dns_cons.mpr ⟨a.dn_, rfl⟩⟩, ?_, ?_⟩
  · show (decide (i.natAbs ≤ B) && true) = true
    rw [decide_eq_true h]; rfl
  · show max (dep d) 0 + 1 ≤ _
    have := a.dep_; omega
  · show (0 + 0) + 1 + (blk d + 1 + 0) ≤ _
    have := a.blk_; omega
theorem dd_d0 : Dd B (k + 1) n (.dct [] []) := ⟨rfl, Nat.le_add_left _ _, Nat.zero_le _⟩
theorem dd_t0 : Dd B (k + 1) n (.tup []) := ⟨rfl, Nat.le_add_left _ _, Nat.zero_le _⟩
theorem dd_l0 : Dd B (k + 1) n (.lst []) := ⟨rfl, Nat.le_add_left _ _, Nat.zero_le _⟩
theorem dd_non : Dd B k n .non := ⟨rfl, Nat.zero_le _, Nat.zero_le _⟩
theorem dd_bl : Dd B k n (.bl b) := ⟨rfl, Nat.zero_le _, Nat.zero_le _⟩
theorem dd_int (h : i.natAbs ≤ B) : Dd B k n (.int i) := ⟨decide_eq_true h, Nat.zero_le _, Nat.zero_le _⟩
theorem dd_str (a : Tz n z) : Dd B k n (.str z) := ⟨a.asc, Nat.zero_le _, a.len⟩
theorem Dd.int (s : Dd B k n (.int i)) : i.natAbs ≤ B := of_decide_eq_true s.dn_
theorem Dd.str (s : Dd B k n (.str z)) : Tz n z := ⟨s.dn_, s.blk_⟩
theorem Dd.tup (s : Dd B k n (.tup ds)) : Dds B (k - 1) n ds := ⟨s.dn_, by have := s.dep_; have h : dep (.tup ds) = deps ds + 1 := rfl; omega, s.blk_⟩
theorem Dd.tup' (s : Dd B k n (.tup ds)) : 1 ≤ k := by have := s.dep_; have h : dep (.tup ds) = deps ds + 1 := rfl; omega
end
/-! ### repr of a list that one keeps -/
theorem repr_ref {h : Hs} {n k m : Nat} {ds : List D} (e : h[n]? = some (.lst ds)) (s : Sm k m (.lst ds)) (hk : k ≤ 60) (hn : m ≤ 200000) : gReprA h [.ref n] = some (.str (rT (.lst ds))) := by
  obtain ⟨p, g⟩ := lf_good s.lf_
  have e1 : rT (.lst ds) = p.shown := by unfold rT; rw [g.at_]
  have hz : p.shown.length ≤ sizeLine := by
    have h1 := PyData.shown_le_bulk 64 (by decide) p g.leaf
    have h2 := g.bulk_
    have h3 := s.blk_
    have h4 := sizeLine_eq
    have : (64 + 2) * p.bulk ≤ (64 + 2) * 200000 := Nat.mul_le_mul_left _ (by omega)
    omega
  have hx : okX p = true := by
    unfold okX
    rw [g.show_, decide_eq_true (show p.depth ≤ 60 by have := g.dep_; have := s.dep_; omega), decide_eq_true hz]; rfl
  have q1 : ∀ w, pd h (.ref n) = some w → w = p := by
    intro w hw
    have hw : pdH h (39 + 1) n = some w := hw
    unfold pdH at hw
    rw [e] at hw
    have := pdW_X (r := pdH h 39) (r' := fun _ => none) (d := .lst ds) s.lf_ hw
    rw [g.at_] at this; cases this; rfl
  have q2 : pdX (pdXH h 40) (.ref n) = some p := by
    show pdXH h (39 + 1) n = some p
    unfold pdXH
    rw [e]
    exact g.at_ (pdXH h 39)
  unfold gReprA
  cases q : gRepr h [.ref n] with
  | some w =>
    dsimp only
    unfold gRepr at q
    dsimp only at q
    split at q
    · rename_i p' hp
      split at q
      · cases q
        rw [q1 _ hp, e1]
      · cases q
    · cases q
  | none =>
    dsimp only
    rw [if_pos (show isComp (.ref n) = true from rfl), q2]
    dsimp only
    rw [if_pos hx, e1]
/-! ### == () -/
def gEqT (hs : Hs) (d e : D) : Option D := match d, e with
  | .tup ds, .tup [] => some (.bl ds.isEmpty)
  | d, e => gEq hs d e
theorem og_eqT {X : Cx} (hu : X.A.units + 64 < cLine) : OpR X (compareOp .Eq) (rB X.K X.mg gEqT) := by
  rintro pins s σ H x y v u Q I rx ry ⟨mu, hs, d, e, w, S, r1, r2, hg, q⟩
  unfold gEqT at hg
  split at hg
  · rename_i ds
    cases hg
    cases r1 with
    | tup q1 rr1 =>
      cases r2 with
      | tup q2 rr2 =>
        cases rx; cases ry
        obtain ⟨its, rv, it, _⟩ := I.tuple q1.sq
        obtain ⟨its2, rv2, it2, _⟩ := I.tuple q2.sq
        have z2 : its2 = [] := by
          cases rr2
          cases rv2
          rfl
        subst z2
        have z1 : (its.toArray.size == 0) = ds.isEmpty := by
          have h1 := rr1.length
          have h2 := rv.length
          rw [List.size_toArray, ← h2, ← h1]
          cases ds <;> rfl
        refine SeqAt.eq_tupleAt (e := fun _ => true) it it2 (by omega) (fun j h1 h2 => by simp at h2) ?_
        rw [show ((List.range (min its.toArray.size ([] : List Value).toArray.size)).all (fun _ => true) && its.toArray.size == ([] : List Value).toArray.size) = ds.isEmpty from by
          rw [← z1]; simp]
        exact ⟨.bl _, H, I, rfl, fin0 S q (.bl _)⟩
  · exact og_eq hu pins s σ H x y v u Q I rx ry ⟨mu, hs, d, e, w, S, r1, r2, hg, q⟩
theorem eqT_tup {h : Hs} {ds : List D} : gEqT h (.tup ds) (.tup []) = some (.bl ds.isEmpty) := rfl
theorem wp_ixS {h : Hs} {z : Str} {i : Int} {Q : D → Hs → Prop} {X : XQ} (i0 : 0 ≤ i) (i1 : i < z.length) (l : z.length ≤ 100000) (c : ∀ k ∈ z.cps.toList, Q (.str ⟨#[k]⟩) h) : Wp (R.ofO (gIx h (.str z) (.int i)) h) Q X := by
  have e : z.cps.toList.length = z.length := Array.length_toList
  obtain ⟨k, hk, hm, _⟩ := atI_mem (ds := z.cps.toList) i0 (by rw [e]; exact i1)
  exact wp_some (ix_str l hk) (c k hm)
theorem rev_str {h : Hs} {z : Str} (q : z.length ≤ 100000) : gRev h (.str z) = some (.str (G.T z.cps.toList.reverse)) := if_pos (le_line q)
theorem wp_ixD {ds : List D} {i : Int} {h : Hs} {Q : D → Hs → Prop} {X : XQ} (P : D → Prop) (i0 : 0 ≤ i) (i1 : i < ds.length) (hP : ∀ x ∈ ds, P x) (c : ∀ x, P x → Q x h) : Wp (R.ofO (gIx h (.lst ds) (.int i)) h) Q X := wp_ixP P i0 i1 hP c
end G

/-! # G31: enumerate and zip of lists and tuples -/
namespace G
open PySem PySem.Spec PyProof.Rows L2
open AutoSeq1 (wpAny_loadPart')

theorem meets_enumT (l : Addr) (items : Array Value) (n : Nat) (dct : Option Addr) (sl : Array (Option Value)) :
    Meets (Builtin.«enumerate.__new__» ⟨[.type "enumerate", .ref l], []⟩) (fun _ R s => s.heap.get? l = some { cls := .type "tuple", dict := dct, data := .seq items n, slots := sl } ∧
      R (.ok (.ret (.ref (s.heap.push { cls := .type "tuple_iterator", data := .fields #[.ref l, .int 0 0] }).objs.size)))
        { s with heap := (s.heap.push { cls := .type "tuple_iterator", data := .fields #[.ref l, .int 0 0] }).push { cls := .type "enumerate", data := .fields #[.none, .bool false, .ref s.heap.objs.size, rawInt 0, .none, .none] } }) :=
  .of_wp fun prog w A R s h => by
    obtain ⟨hp, g, d, tk, os⟩ := s; obtain ⟨hl, h⟩ := h
    have hsub := sub_enumerate
    have hL : Heap.IsTuple (Shared.heap ⟨hp, g, d, tk, os⟩) l items := ⟨_, hl, rfl, n, rfl⟩
    wp_walk using wpAny_loadPart' hl
    refine wpAny_stack_any fun st => wpAny_pure ?_
    split
    · rename_i c _ _ _ _ _
      cases (c == Value.type "enumerate")
      · wp_walk using wpAny_loadPart' hl, wpAny_pyIter_tuple hL
        exact ⟨_, rfl, h⟩
      · wp_walk using wpAny_loadPart' hl, wpAny_pyIter_tuple hL
        exact ⟨_, rfl, h⟩
    · wp_walk using wpAny_loadPart' hl, wpAny_pyIter_tuple hL
      exact ⟨_, rfl, h⟩
theorem call_enumT {prog : Program} {w : World} {A : Around} {E : Value → Shared → Prop} {s : Shared} {l : Addr} {items : Array Value} {Q : Value → Shared → Prop} (hL : s.heap.IsTuple l items)
    (h : ∀ h', IsEnum h' (s.heap.objs.size + 1) s.heap.objs.size 0 .none → h'.IsTupleIter s.heap.objs.size l 0 → h'.objs.size = s.heap.objs.size + 2 →
      (∀ b o, s.heap.get? b = some o → h'.get? b = some o) → Q (.ref (s.heap.objs.size + 1)) { s with heap := h' }) :
    wpAny (model prog w) A (call (.type "enumerate") [.ref l]) Q E s := by
  obtain ⟨⟨c, dct, dt, sl⟩, hl, hc, n, hd⟩ := hL
  replace hc : c = .type "tuple" := hc
  replace hd : dt = .seq items n := hd
  subst hc hd
  refine callType_new F.called_enumerate (by decide) (F.typeCall_enumerate_1 _) (F.newCall_enumerate_1 _) (fun obj => F.args_object_init_2 obj _) F.entry_enumerate_new
    (meets_enumT l items n dct sl) ⟨hl, ?_⟩
  have hz : (s.heap.push { cls := .type "tuple_iterator", data := .fields #[.ref l, .int 0 0] }).objs.size = s.heap.objs.size + 1 := Heap.size_push ..
  show _ ∧ _
  rw [hz]
  have he : IsEnum ((s.heap.push { cls := .type "tuple_iterator", data := .fields #[.ref l, .int 0 0] }).push
      { cls := .type "enumerate", data := .fields #[.none, .bool false, .ref s.heap.objs.size, rawInt 0, .none, .none] }) (s.heap.objs.size + 1) s.heap.objs.size 0 .none := by
    have := Heap.get?_push_size (s.heap.push { cls := .type "tuple_iterator", data := .fields #[.ref l, .int 0 0] })
      (o := { cls := .type "enumerate", data := .fields #[.none, .bool false, .ref s.heap.objs.size, rawInt 0, .none, .none] }) rfl
    rw [hz] at this; exact this
  refine ⟨⟨_, he, rfl⟩, h _ he ⟨_, Heap.get?_push_of_some _ (Heap.get?_push_size _ rfl), rfl, rfl⟩ (by rw [Heap.size_push, hz]) fun b o x => Heap.get?_push_of_some _ (Heap.get?_push_of_some _ x)⟩

/-- a tuple's items as they stand, each in a new pair -/
def IteT (K : PySem.W.Frag) (a : Addr) : It :=
  ⟨fun i H => ∃ (xs : List V) (x : V), SqT K H a xs ∧ xs[i]? = some x, fun i H v H' => ∃ T x, v = .ref T ∧ H T = none ∧ H' = upd H T (.tup [.int (i : Nat), x]) ∧ ∀ xs, SqT K H a xs → xs[i]? = some x, fun i H => ∃ xs : List V, SqT K H a xs ∧ xs.length ≤ i⟩
theorem turn_enumT {P : Program} {w : World} {K : PySem.W.Frag} {elts : List Expr} {kk : Nat} {tpos : Pos} (a e it : Addr) :
    Turn P w K (.Tuple elts kk tpos) (IteT K a) [e, it] e (fun i h => (∃ old, IsEnum h e it ((i : Nat) : Int) old) ∧ h.IsTupleIter it a i ∧ e ≠ it) where
  mem := by simp
  obj := fun i h st b hb => by
    obtain ⟨⟨old, he⟩, ⟨o, ho, hc, hd⟩, _⟩ := st
    have e' : b = e ∨ b = it := by simpa using hb
    rcases e' with z | z
    · rw [z]; exact ⟨_, he, fun v q => nomatch q⟩
    · rw [z]; exact ⟨o, ho, fun v q => by rw [hd] at q; cases q⟩
  keep := fun i h h' st k => let ⟨⟨old, he⟩, hi, hne⟩ := st; ⟨⟨old, k e (by simp) _ he⟩, hi.at fun o q => k it (by simp) o q, hne⟩
  item := by
    intro X hP hw hK hc i pins s σ H E I hf st hg
    subst hP hw hK
    obtain ⟨⟨old, he⟩, hit, hne⟩ := st
    obtain ⟨xs, x, hq, hx⟩ := hg
    obtain ⟨its, rv, p, hz⟩ := I.tuple hq
    have p : s.heap.IsTuple a its.toArray := p
    obtain ⟨u, hu, ru⟩ := rv.get hx
    have hel : e < s.heap.objs.size := Heap.lt_size he
    have hil : it < s.heap.objs.size := by obtain ⟨_, q, _⟩ := hit; exact Heap.lt_size q
    have nai : a ≠ it := by
      rintro rfl
      obtain ⟨o, h1, h2, _⟩ := hit
      obtain ⟨o', h1', h2', _⟩ := p
      rw [h1] at h1'; cases h1'
      rw [h2] at h2'
      exact absurd (Value.type.inj h2') (by decide)
    have nae : e ≠ a := by
      rintro rfl
      obtain ⟨o', h1', h2', _⟩ := p
      rw [show s.heap.get? e = _ from he] at h1'; cases h1'
      exact absurd (Value.type.inj h2') (by decide)
    have D : Draws X.prog X.w X.A.in1 it [it, a] its.toArray.size (fun i v => its.toArray[i]? = some v) (fun i h => h.IsTupleIter it a i ∧ h.IsTuple a its.toArray) := Draws.tuple (show X.A.in1.handled = none from I.ok.hd hc) it a nai its.toArray
    have hlt : i < its.toArray.size := by
      rw [List.size_toArray]
      exact (List.getElem?_eq_some_iff.mp hu).1
    refine wpAny_pyNext_enum_itemD D he ⟨hit, p⟩ hlt hne (by simp [hne, nae]) fun x' h' tk hP ho hst hT hsz hk => ?_
    have ex : x' = u := by
      rw [List.getElem?_toArray, hu] at hP
      exact (Option.some.inj hP).symm
    subst ex
    refine ⟨_, rfl, wpAny_letOwnedTupleGo_enum (s := { s with heap := h', toks := tk + 1 }) ho fun h'' he' sb => ?_⟩
    have hT2 : h''.get? s.heap.objs.size = some { cls := .type "tuple", data := .seq #[.int i tk, x'] } := (sb.2 _ (Nat.ne_of_gt hel)).trans hT
    have new : ObjOk X.prog X.w (upd H s.heap.objs.size (.tup [.int (i : Nat), x])) h'' s.heap.objs.size (.tup [.int (i : Nat), x]) :=
      ⟨by show 2 ≤ sizeLine; decide, [.int i tk, x'], .cons ⟨_, rfl⟩ (.cons ru .nil), ⟨_, hT2, rfl, _, rfl⟩⟩
    have I1 : Inv X pins σ (upd H s.heap.objs.size (.tup [.int (i : Nat), x])) { s with heap := h'', toks := tk + 1 } :=
      I.turnedNew (ch := [e, it]) (fun b ob hb q => (sb.2 b (fun z => hb (by simp [z]))).trans (hk b ob (fun z => hb (by simp [z])) (fun z => hb (by simp [z])) q)) hf (Nat.le_refl _) new
    refine ⟨.ref s.heap.objs.size, _, I1, rfl, ⟨_, x, rfl, I.hok.fresh (Nat.le_refl _), rfl, fun ys hy => by rw [I.tuple_inj hy hq]; exact hx⟩, ⟨⟨x', ?_⟩, hst.1.at fun o q => (sb.2 it (Ne.symm hne)).trans q, hne⟩, fun b hb => ?_⟩
    · have e1 : ((i + 1 : Nat) : Int) = (i : Int) + 1 := by omega
      rw [e1]; exact he'
    · have hb' : b < s.heap.objs.size := by
        have e' : b = e ∨ b = it := by simpa using hb
        rcases e' with z | z
        · rw [z]; exact hel
        · rw [z]; exact hil
      rw [upd_ne (Nat.ne_of_lt hb')]
      exact (hf b hb).1
  done := by
    intro X hP hw hK hc i pins s σ H E I hf st hg
    subst hP hw hK
    obtain ⟨⟨old, he⟩, hit, hne⟩ := st
    obtain ⟨xs, hq, hx⟩ := hg
    obtain ⟨its, rv, p, hz⟩ := I.tuple hq
    have p : s.heap.IsTuple a its.toArray := p
    obtain ⟨f0, f1, f2, f3, f4, f5⟩ := hf it (by simp)
    have hl := rv.length
    have hT : s.TypeIs (.ref e) "enumerate" := ⟨_, he, rfl⟩
    unfold pyNext
    refine wpAny_bind (wpAny_attempt (wpAny_callSpecial?_slot (name := Str.ofString "__next__") hT F.slot_enumerate_next
      (wpAny_call_entry F.slot_enumerate_next hT F.entry_enumerate_next ?_ (F.args_enumerate_next_1 _))))
    show wpAny _ _ (field (.ref e) 2 >>= _) _ _ _
    refine wpAny_bind (wpAny_field he rfl (x := .ref it) rfl ?_)
    refine wpAny_bind (wpAny_nextOf_tuple_end (I.ok.hd hc) hit p (by simp; omega) fun h' x he' hx' => ?_)
    obtain ⟨o, ho, hc⟩ := hx'
    refine wpAny_bind (wpAny_isInstance (T := "StopIteration") (b := true) ⟨o, ho, hc⟩ isSubtype_stop ?_)
    exact wpAny_pure ⟨rfl, I.turned (t' := s.toks) (fun b o hb q => he' b o hb q) f0 f1 f3 f4 f5⟩
  self := fun A i s Q E st h => let ⟨⟨_, he⟩, _⟩ := st; wpAny_pyIter_enum he h
def iEnumT (K : PySem.W.Frag) (ta : TA) : TI := fun σ H R => ta σ H fun vs H1 => ∃ a xs, vs = [.ref a] ∧ SqT K H1 a xs ∧ R (IteT K a) H1
theorem pi_enumT {X : Cx} {e : Expr} {ta : TA} {p pos tpos : Pos} {elts : List Expr} {kk : Nat} (hg : L2.Gl X "enumerate") (hm : X.mg "enumerate" = none) (ha : PA X [e] ta) (hs : starEach [e] X.env = [(false, eval e X.env)] := by rfl) :
    PI X (.Tuple elts kk tpos) (.Call (.Name "enumerate" p) [e] [] pos) (iEnumT X.K ta) := by
  refine ⟨fun pins s σ H R I h => ?_⟩
  refine Call_ (ld_blt I hg hm boot_enumerate (PyProof.Rows.callWith_type1 (thn (ha.run pos pins s σ H _ I h) fun us s1 ⟨vs, H1, I1, r1, q1⟩ => ?_) hs rfl))
  obtain ⟨a, xs, ex, hq, q⟩ := q1
  subst ex
  cases r1 with
  | cons r rr =>
    cases rr
    cases r
    obtain ⟨its, rv, p', hz⟩ := I1.tuple hq
    refine call_enumT (show s1.heap.IsTuple a its.toArray from p') fun h' he hit hsz hk => wpAny_pyIter_enum he ?_
    have I2 : Inv X pins σ H1 { s1 with heap := h' } := I1.kept (t' := s1.toks) hk
    refine ⟨s1.heap.objs.size + 1, [s1.heap.objs.size + 1, s1.heap.objs.size], _, _, H1, rfl, I2, turn_enumT a (s1.heap.objs.size + 1) s1.heap.objs.size, ⟨⟨.none, he⟩, hit, Nat.succ_ne_self _⟩, fun b hb => ?_, q⟩
    have e' : b = s1.heap.objs.size + 1 ∨ b = s1.heap.objs.size := by simpa using hb
    have hle : s1.heap.objs.size ≤ b := by
      rcases e' with z | z
      · rw [z]; exact Nat.le_add_right _ _
      · rw [z]; exact Nat.le_refl _
    exact I1.fpOk hle (I1.hok.fresh hle)

/-! ### as functions -/
/-- what is walked, numbered -/
def nxE (nx : Nx) : Nx := fun hs i => (nx hs i).map (Option.map fun d => .tup [.int i, d])
/-- two walked at once -/
def nxZ (nx1 nx2 : Nx) : Nx := fun hs i => match nx1 hs i, nx2 hs i with
  | some (some d), some (some e) => some (some (.tup [d, e]))
  | some none, some _ => some none
  | some _, some none => some none
  | _, _ => none
/-- a list here -/
def lsOf (h : Hs) (d : D) : Option (List D) := match d with
  | .lst ds => some ds
  | .scr ds => some ds
  | .ref n => (match h[n]? with | some (.lst ds) => some ds | _ => none)
  | _ => none
def nxS (d : D) : Nx := fun h i => match lsOf h d with
  | some ds => some ds[i]?
  | none => none
def tpOf (d : D) : Option (List D) := match d with
  | .tup ds => some ds
  | .ctp ds => some ds
  | _ => none
section
variable {K : PySem.W.Frag} {mg : Str → Option Value} {mu mu' : Mp} {H H' : Hp} {hs hs' : Hs} {d : D} {a : Addr} {v : V} {ds : List D}
/-- a list at its place, now and later -/
theorem ls_at (S : Sim K mg mu hs H) (r : RD K mu H d v) (e : lsOf hs d = some ds) : ∃ a vs, v = .ref a ∧ SqL K H a vs ∧ RDs K mu H ds vs := by
  cases r with
  | lst h1 h2 h3 => cases e; exact ⟨_, _, rfl, .of h1, h3⟩
  | scr h1 h3 => cases e; exact ⟨_, _, rfl, h1.sq, h3⟩
  | ref hn =>
    unfold lsOf at e
    dsimp only at e
    split at e
    · rename_i es hd
      cases e
      obtain ⟨u, e1, e2⟩ := S.at hn hd
      cases u <;> first
        | exact ⟨_, _, rfl, .of e1, e2⟩
        | exact e2.elim
    · cases e
  | _ => cases e
theorem tp_at (r : RD K mu H d v) (e : tpOf d = some ds) : ∃ a vs, v = .ref a ∧ SqT K H a vs ∧ RDs K mu H ds vs := by
  cases r with
  | tup h1 h3 => cases e; exact ⟨_, _, rfl, h1.sq, h3⟩
  | ctp h1 h3 => cases e; exact ⟨_, _, rfl, sqT_c h1, h3⟩
  | _ => cases e
theorem new_tup {T : Addr} {x y : V} {d e : D} (s : Sim K mg mu hs H) (n : H T = none) (r : RD K mu H d x) (q : RD K mu H e y) : Lat mu H mu (upd H T (.tup [x, y])) ∧ Sim K mg mu hs (upd H T (.tup [x, y])) ∧ RD K mu (upd H T (.tup [x, y])) (.tup [d, e]) (.ref T) :=
  have l : Lat mu H mu (upd H T (.tup [x, y])) := .new n
  ⟨l, s.new n, .tup ⟨upd_same, s.fresh n⟩ (.cons (RD.agr (l.agr s) r) (.cons (RD.agr (l.agr s) q) .nil))⟩
theorem enumL_ri (S : Sim K mg mu hs H) (r : RD K mu H d (.ref a)) : RI K mg mu H (nxE (nxS d)) (Ite K a) := by
  intro mu' H' hs' l s i
  have r' := RD.agr (l.agr S) r
  unfold nxE nxS
  cases q : lsOf hs' d with
  | none => exact ⟨fun z => (by cases z), fun _ z => (by cases z)⟩
  | some ds =>
    obtain ⟨b, vs, eb, h1, h2⟩ := ls_at s r' q
    cases eb
    dsimp only
    cases q2 : ds[i]? with
    | none => exact ⟨fun _ => ⟨vs, h1, by rw [← h2.length]; exact List.getElem?_eq_none_iff.mp q2⟩, fun _ z => (by cases z)⟩
    | some x =>
      obtain ⟨y, e1, e2⟩ := h2.get q2
      refine ⟨fun z => (by cases z), fun _ z => ?_⟩
      cases z
      refine ⟨⟨vs, y, h1, e1⟩, ?_⟩
      rintro v H2 ⟨T, y', rfl, n, rfl, w⟩
      have := w vs h1
      rw [e1] at this; cases this
      exact new_tup s n (.int _) e2
theorem enumT_ri (S : Sim K mg mu hs H) (r : RD K mu H d (.ref a)) (t : tpOf d = some ds) : RI K mg mu H (nxE (nxL ds)) (IteT K a) := by
  intro mu' H' hs' l s i
  obtain ⟨b, vs, eb, h1, h2⟩ := tp_at (RD.agr (l.agr S) r) t
  cases eb
  unfold nxE nxL
  cases q2 : ds[i]? with
  | none => exact ⟨fun _ => ⟨vs, h1, by rw [← h2.length]; exact List.getElem?_eq_none_iff.mp q2⟩, fun _ z => (by cases z)⟩
  | some x =>
    obtain ⟨y, e1, e2⟩ := h2.get q2
    refine ⟨fun z => (by cases z), fun _ z => ?_⟩
    cases z
    refine ⟨⟨vs, y, h1, e1⟩, ?_⟩
    rintro v H2 ⟨T, y', rfl, n, rfl, w⟩
    have := w vs h1
    rw [e1] at this; cases this
    exact new_tup s n (.int _) e2
theorem zipL_ri {d2 : D} {b : Addr} (S : Sim K mg mu hs H) (r : RD K mu H d (.ref a)) (r2 : RD K mu H d2 (.ref b)) : RI K mg mu H (nxZ (nxS d) (nxS d2)) (Itz K a b) := by
  intro mu' H' hs' l s i
  have ra := RD.agr (l.agr S) r
  have rb := RD.agr (l.agr S) r2
  unfold nxZ nxS
  cases q : lsOf hs' d with
  | none => exact ⟨fun z => (by cases z), fun _ z => (by cases z)⟩
  | some ds =>
    cases q' : lsOf hs' d2 with
    | none => cases e : ds[i]? <;> exact ⟨fun z => (by simp [e] at z), fun _ z => (by simp [e] at z)⟩
    | some es =>
      obtain ⟨a', vs, ea, h1, h2⟩ := ls_at s ra q
      obtain ⟨b', us, eb, g1, g2⟩ := ls_at s rb q'
      cases ea; cases eb
      dsimp only
      cases q2 : ds[i]? with
      | none =>
        refine ⟨fun _ => ⟨vs, us, h1, g1, .inl (by rw [← h2.length]; exact List.getElem?_eq_none_iff.mp q2)⟩, fun _ z => (by simp at z)⟩
      | some x =>
        cases q3 : es[i]? with
        | none => exact ⟨fun _ => ⟨vs, us, h1, g1, .inr (by rw [← g2.length]; exact List.getElem?_eq_none_iff.mp q3)⟩, fun _ z => (by simp at z)⟩
        | some y =>
          obtain ⟨x', e1, e2⟩ := h2.get q2
          obtain ⟨y', f1, f2⟩ := g2.get q3
          refine ⟨fun z => (by cases z), fun _ z => ?_⟩
          cases z
          refine ⟨⟨vs, us, x', y', h1, g1, e1, f1⟩, ?_⟩
          rintro v H2 ⟨T, x2, y2, rfl, n, rfl, w, w2⟩
          have z1 := w vs h1
          rw [e1] at z1; cases z1
          have z2 := w2 us g1
          rw [f1] at z2; cases z2
          exact new_tup s n e2 f2
theorem zipT_ri {d2 : D} {b : Addr} {es : List D} (S : Sim K mg mu hs H) (r : RD K mu H d (.ref a)) (r2 : RD K mu H d2 (.ref b)) (t : tpOf d = some ds) (t2 : tpOf d2 = some es) : RI K mg mu H (nxZ (nxL ds) (nxL es)) (RZ.ItzT K a b) := by
  intro mu' H' hs' l s i
  obtain ⟨a', vs, ea, h1, h2⟩ := tp_at (RD.agr (l.agr S) r) t
  obtain ⟨b', us, eb, g1, g2⟩ := tp_at (RD.agr (l.agr S) r2) t2
  cases ea; cases eb
  unfold nxZ nxL
  cases q2 : ds[i]? with
  | none =>
    refine ⟨fun _ => ⟨vs, us, h1, g1, .inl (by rw [← h2.length]; exact List.getElem?_eq_none_iff.mp q2)⟩, fun _ z => (by simp at z)⟩
  | some x =>
    cases q3 : es[i]? with
    | none => exact ⟨fun _ => ⟨vs, us, h1, g1, .inr (by rw [← g2.length]; exact List.getElem?_eq_none_iff.mp q3)⟩, fun _ z => (by simp at z)⟩
    | some y =>
      obtain ⟨x', e1, e2⟩ := h2.get q2
      obtain ⟨y', f1, f2⟩ := g2.get q3
      refine ⟨fun z => (by cases z), fun _ z => ?_⟩
      cases z
      refine ⟨⟨vs, us, x', y', h1, g1, e1, f1⟩, ?_⟩
      rintro v H2 ⟨T, x2, y2, rfl, n, rfl, w, w2⟩
      have z1 := w vs h1
      rw [e1] at z1; cases z1
      have z2 := w2 us g1
      rw [f1] at z2; cases z2
      exact new_tup s n e2 f2
end
section
variable {X : Cx} {Wd : WX} {a b : Expr} {fa : FA}
def enOf (h : Hs) (ds : List D) : Option Nx := match ds with
  | [d] => (match tpOf d with
    | some es => some (nxE (nxL es))
    | none => (match lsOf h d with | some _ => some (nxE (nxS d)) | none => none))
  | _ => none
def zpOf (h : Hs) (ds : List D) : Option Nx := match ds with
  | [d, e] => (match tpOf d, tpOf e with
    | some xs, some ys => some (nxZ (nxL xs) (nxL ys))
    | _, _ => (match lsOf h d, lsOf h e with | some _, some _ => some (nxZ (nxS d) (nxS e)) | _, _ => none))
  | _ => none
def iOf (g : Hs → List D → Option Nx) (f : FA) : FI := fun e hs => (f e hs).bind fun ds hs => match g hs ds with | some nx => .ok nx hs | none => .bad
theorem ui_enum {p pos tpos : Pos} {elts : List Expr} {kk : Nat} (hg : L2.Gl X "enumerate") (hm : X.mg "enumerate" = none) (ha : UA X Wd [a] fa) (hs : starEach [a] X.env = [(false, eval a X.env)] := by rfl) :
    UI X Wd (.Tuple elts kk tpos) (.Call (.Name "enumerate" p) [a] [] pos) (iOf enOf fa) := by
  refine PI.imp (PI.or (pi_enum hg hm ha hs) (pi_enumT hg hm ha hs)) fun σ H Q h => ?_
  obtain ⟨e, mu, hs, S, E, g⟩ := h
  unfold iOf at g
  cases q : fa e hs with
  | bad => rw [q] at g; exact g.elim
  | exc c fs hs' => rw [q] at g; exact .inl ⟨e, mu, hs, S, E, by rw [q]; exact g⟩
  | ok ds hs' =>
    rw [q] at g
    dsimp only [R.bind_ok] at g
    cases z : enOf hs' ds with
    | none => rw [z] at g; exact g.elim
    | some nx =>
      rw [z] at g
      unfold enOf at z
      split at z
      · rename_i d
        cases z1 : tpOf d with
        | some es =>
          rw [z1] at z; cases z
          refine .inr ⟨e, mu, hs, S, E, ?_⟩
          rw [q]
          rintro mu1 H1 vs l1 S1 (_ | ⟨r, _ | _⟩)
          obtain ⟨a', us, rfl, h1, h2⟩ := tp_at r z1
          exact ⟨a', us, rfl, h1, g mu1 H1 _ l1 S1 (enumT_ri S1 r z1)⟩
        | none =>
          rw [z1] at z
          dsimp only at z
          cases z2 : lsOf hs' d with
          | none => rw [z2] at z; cases z
          | some es =>
            rw [z2] at z; cases z
            refine .inl ⟨e, mu, hs, S, E, ?_⟩
            rw [q]
            rintro mu1 H1 vs l1 S1 (_ | ⟨r, _ | _⟩)
            obtain ⟨a', us, rfl, h1, h2⟩ := ls_at S1 r z2
            exact ⟨a', us, rfl, h1, g mu1 H1 _ l1 S1 (enumL_ri S1 r)⟩
      · cases z
theorem ui_zip {p pos tpos : Pos} {elts : List Expr} {kk : Nat} (hg : L2.Gl X "zip") (hm : X.mg "zip" = none) (ha : UA X Wd [a, b] fa) (hs : starEach [a, b] X.env = (false, eval a X.env) :: starEach [b] X.env := by rfl) (hpl : (backTo pos (starEach [b] X.env)).any (·.1) = false := by rfl) :
    UI X Wd (.Tuple elts kk tpos) (.Call (.Name "zip" p) [a, b] [] pos) (iOf zpOf fa) := by
  refine PI.imp (RZ.pi_zipA hg hm ha hs hpl) fun σ H Q h => ?_
  obtain ⟨e, mu, hs, S, E, g⟩ := h
  unfold iOf at g
  refine ⟨e, mu, hs, S, E, ?_⟩
  cases q : fa e hs with
  | bad => rw [q] at g; exact g.elim
  | exc c fs hs' => rw [q] at g; exact g
  | ok ds hs' =>
    rw [q] at g
    dsimp only [R.bind_ok] at g
    cases z : zpOf hs' ds with
    | none => rw [z] at g; exact g.elim
    | some nx =>
      rw [z] at g
      unfold zpOf at z
      split at z
      · rename_i d d2
        split at z
        · rename_i xs ys z1 z2
          cases z
          rintro mu1 H1 vs l1 S1 (_ | ⟨r, _ | ⟨r2, _ | _⟩⟩)
          obtain ⟨a', us, rfl, h1, h2⟩ := tp_at r z1
          obtain ⟨b', us', rfl, g1, g2⟩ := tp_at r2 z2
          exact ⟨a', b', us, us', rfl, .inr ⟨h1, g1, g mu1 H1 _ l1 S1 (zipT_ri S1 r r2 z1 z2)⟩⟩
        · split at z
          · rename_i xs ys z1 z2
            cases z
            rintro mu1 H1 vs l1 S1 (_ | ⟨r, _ | ⟨r2, _ | _⟩⟩)
            obtain ⟨a', us, rfl, h1, h2⟩ := ls_at S1 r z1
            obtain ⟨b', us', rfl, g1, g2⟩ := ls_at S1 r2 z2
            exact ⟨a', b', us, us', rfl, .inl ⟨h1, g1, g mu1 H1 _ l1 S1 (zipL_ri S1 r r2)⟩⟩
          · cases z
      · cases z
end
/-! ### != () -/
def gNeT (hs : Hs) (d e : D) : Option D := match d, e with
  | .tup ds, .tup [] => some (.bl (!ds.isEmpty))
  | d, e => gNe hs d e
theorem og_neT {X : Cx} (hu : X.A.units + 64 < cLine) : OpR X (compareOp .NotEq) (rB X.K X.mg gNeT) := by
  rintro pins s σ H x y v u Q I rx ry ⟨mu, hs, d, e, w, S, r1, r2, hg, q⟩
  unfold gNeT at hg
  split at hg
  · rename_i ds
    cases hg
    cases r1 with
    | tup q1 rr1 =>
      cases r2 with
      | tup q2 rr2 =>
        cases rx; cases ry
        obtain ⟨its, rv, it, _⟩ := I.tuple q1.sq
        obtain ⟨its2, rv2, it2, _⟩ := I.tuple q2.sq
        have z2 : its2 = [] := by
          cases rr2
          cases rv2
          rfl
        subst z2
        have z1 : (its.toArray.size == 0) = ds.isEmpty := by
          have h1 := rr1.length
          have h2 := rv.length
          rw [List.size_toArray, ← h2, ← h1]
          cases ds <;> rfl
        refine SeqAt.RcNeAt.tuples (e := fun _ => true) it it2 (by omega) (fun j h1 h2 => by simp at h2) X.prog X.w X.xe _ ?_
        rw [show (!((List.range (min its.toArray.size ([] : List Value).toArray.size)).all (fun _ => true) && its.toArray.size == ([] : List Value).toArray.size)) = !ds.isEmpty from by
          rw [← z1]; simp]
        exact ⟨.bl _, H, I, rfl, fin0 S q (.bl _)⟩
  · exact og_ne hu pins s σ H x y v u Q I rx ry ⟨mu, hs, d, e, w, S, r1, r2, hg, q⟩
theorem neT_tup {h : Hs} {ds : List D} : gNeT h (.tup ds) (.tup []) = some (.bl (!ds.isEmpty)) := rfl
end G

/-! # G32: enumerate, zip as lists; spots of nested tuples -/
namespace G
open PySem PySem.Spec PyProof.Rows L2
def enumL (ds : List D) : List D := (List.range ds.length).zipWith (fun i d => .tup [.int (i : Nat), d]) ds
def zipL (ds es : List D) : List D := ds.zipWith (fun d e => .tup [d, e]) es
theorem enumL_at {ds : List D} {i : Nat} : (enumL ds)[i]? = ds[i]?.map fun d => .tup [.int i, d] := by
  unfold enumL
  rw [List.getElem?_zipWith]
  by_cases h : i < ds.length
  · rw [List.getElem?_range h, List.getElem?_eq_getElem h]; rfl
  · rw [List.getElem?_eq_none (Nat.le_of_not_lt h)]
    cases (List.range ds.length)[i]? <;> rfl
theorem nxE_L {ds : List D} : nxE (nxL ds) = nxL (enumL ds) := by
  funext h i
  show (some ds[i]?).map _ = some _
  rw [enumL_at]; rfl
theorem nxZ_L {ds es : List D} : nxZ (nxL ds) (nxL es) = nxL (zipL ds es) := by
  funext h i
  unfold nxZ nxL zipL
  rw [List.getElem?_zipWith]
  cases ds[i]? <;> cases es[i]? <;> rfl
theorem enumL_len {ds : List D} : (enumL ds).length = ds.length := by
  unfold enumL
  rw [List.length_zipWith, List.length_range, Nat.min_self]
theorem zipL_len {ds es : List D} : (zipL ds es).length = min ds.length es.length := List.length_zipWith
section
variable {e : Ev} {h : Hs} {X : XQ} {ds es : List D} {d : D}
theorem wp_iOf {g : Hs → List D → Option Nx} {f : FA} {Q : Nx → Hs → Prop} (q : Wp (f e h) (fun ds h => ∃ nx, g h ds = some nx ∧ Q nx h) X) : Wp (iOf g f e h) Q X := by
  refine wp_bind (wp_mono q (fun ds h' ⟨nx, e1, e2⟩ => ?_) fun _ _ _ x => x)
  rw [e1]
  exact wp_ok e2
theorem en_tup : enOf h [.tup ds] = some (nxL (enumL ds)) := by
  show some (nxE (nxL ds)) = _
  rw [nxE_L]
theorem en_ctp : enOf h [.ctp ds] = some (nxL (enumL ds)) := by
  show some (nxE (nxL ds)) = _
  rw [nxE_L]
theorem en_lst : enOf h [.lst ds] = some (nxL (enumL ds)) := by
  show some (nxE (nxL ds)) = _
  rw [nxE_L]
theorem zp_tup : zpOf h [.tup ds, .tup es] = some (nxL (zipL ds es)) := by
  show some (nxZ (nxL ds) (nxL es)) = _
  rw [nxZ_L]
theorem zp_lst : zpOf h [.lst ds, .lst es] = some (nxL (zipL ds es)) := by
  show some (nxZ (nxL ds) (nxL es)) = _
  rw [nxZ_L]
end
section
variable {h : Hs} {ds es : List D} {Q : Nx → Prop}
theorem ex_ent (q : Q (nxL (enumL ds))) : ∃ nx, enOf h [.tup ds] = some nx ∧ Q nx := ⟨_, en_tup, q⟩
theorem ex_enl (q : Q (nxL (enumL ds))) : ∃ nx, enOf h [.lst ds] = some nx ∧ Q nx := ⟨_, en_lst, q⟩
theorem ex_zpt (q : Q (nxL (zipL ds es))) : ∃ nx, zpOf h [.tup ds, .tup es] = some nx ∧ Q nx := ⟨_, zp_tup, q⟩
theorem ex_zpl (q : Q (nxL (zipL ds es))) : ∃ nx, zpOf h [.lst ds, .lst es] = some nx ∧ Q nx := ⟨_, zp_lst, q⟩
end
theorem St.k2 {L n : Nat} {K : Hs → Prop} {o : O} {h : Hs} (S : St L (fun g => K g ∧ g[n]? = some o) h) : h[n]? = some o := S.keep.2
/-! ### spots -/
/-- what stands in nested tuples at a path -/
def sub : D → List Nat → Option D
  | d, [] => some d
  | .tup ds, i :: is => (match ds[i]? with | some d => sub d is | none => none)
  | _, _ :: _ => none
theorem sub_nil {d : D} : sub d [] = some d := by cases d <;> rfl
theorem sub_cons {ds : List D} {i : Nat} {is : List Nat} : sub (.tup ds) (i :: is) = (match ds[i]? with | some d => sub d is | none => none) := rfl
theorem sub_some : ∀ {d x : D} {i : Nat} {is : List Nat}, sub d (i :: is) = some x → ∃ ds y, d = .tup ds ∧ ds[i]? = some y ∧ sub y is = some x := by
  intro d x i is h
  cases d with
  | tup ds =>
    rw [sub_cons] at h
    cases e : ds[i]? with
    | none => rw [e] at h; cases h
    | some y => rw [e] at h; exact ⟨ds, y, rfl, e, h⟩
  | _ => cases h
theorem sub_dd {B n : Nat} : ∀ {is : List Nat} {d x : D} {k : Nat}, Dd B k n d → sub d is = some x → Dd B k n x ∧ is.length + dep x ≤ dep d
  | [], d, x, k, t, e => by rw [sub_nil] at e; cases e; exact ⟨t, by simp⟩
  | i :: is, d, x, k, t, e => by
    obtain ⟨ds, y, rfl, e1, e2⟩ := sub_some e
    have m := List.mem_of_getElem? e1
    have ty : Dd B k n y := (t.tup.mem m).mono (Nat.le_refl _) (by omega) (Nat.le_refl _)
    obtain ⟨h1, h2⟩ := sub_dd ty e2
    refine ⟨h1, ?_⟩
    have := Nat.succ_le_succ (deps_iff.mp (Nat.le_refl _) y m)
    have h3 : dep y + 1 ≤ dep (.tup ds) := this
    rw [List.length_cons]; omega
theorem sub_take {d x : D} {is : List Nat} (e : sub d is = some x) (j : Nat) : ∃ y, sub d (is.take j) = some y := by
  induction is generalizing d j with
  | nil => rw [List.take_nil]; exact ⟨_, e⟩
  | cons i is ih =>
    cases j with
    | zero => exact ⟨d, sub_nil⟩
    | succ j =>
      obtain ⟨ds, y, rfl, e1, e2⟩ := sub_some e
      obtain ⟨z, hz⟩ := ih e2 j
      exact ⟨z, by rw [List.take_succ_cons, sub_cons, e1]; exact hz⟩
theorem sub_step {d x y : D} {is : List Nat} {j i : Nat} (e : sub d is = some x) (hj : is[j]? = some i) (e1 : sub d (is.take j) = some y) : ∃ ds z, y = .tup ds ∧ ds[i]? = some z ∧ sub d (is.take (j + 1)) = some z := by
  induction is generalizing d j with
  | nil => simp at hj
  | cons i' is ih =>
    obtain ⟨ds, y', rfl, a1, a2⟩ := sub_some e
    cases j with
    | zero =>
      rw [List.take_zero, sub_nil] at e1
      cases e1
      have : i' = i := by simpa using hj
      subst this
      exact ⟨ds, y', rfl, a1, by rw [List.take_succ_cons, List.take_zero, sub_cons, a1]; exact sub_nil⟩
    | succ j =>
      rw [List.take_succ_cons, sub_cons, a1] at e1
      obtain ⟨es, z, h1, h2, h3⟩ := ih a2 (by simpa using hj) e1
      exact ⟨es, z, h1, h2, by rw [List.take_succ_cons, sub_cons, a1]; exact h3⟩
noncomputable section
def f_spots (self : List D → Hs → R D) : FS := (sSeq (sSet 1 (eV (aCons (eTup aNil) aNil)))
  (sSeq (sIf (eT (eCall gIsi (aCons (eName 0) (aCons (eC (.ty .tup)) aNil)))) (sFor (iOf enOf (aCons (eName 0) aNil)) (nTup 2 (nCons (nSet 2) (nCons (nSet 3) nNil)))
  (sSet 1 (eBin gAdd (eName 1) (eV (lComp (iAny (eFn self [0] [] (aCons (eName 3) aNil))) (nSet 4) tYesF (eBin gAdd (eTup (aCons (eName 2) aNil)) (eName 4)) [4]))))) sSkip)
  (sRet (eName 1))))
def r_spots : Nat → List D → Hs → R D
  | 0 => fun _ _ => .bad
  | n + 1 => fnBody 5 (f_spots (r_spots n))
def c_spots : List D → Hs → R D := r_spots 40
def f_with (self : List D → Hs → R D) : FS := (sSeq (sIf (eB (eBin gEqT (eName 1) (eTup aNil))) (sRet (eName 2)) sSkip)
  (sSeq (sSet 3 (eBin gIx (eName 1) (eC (.int 0))))
  (sRet (eBin gAdd (eBin gAdd (eSl (eName 0) oNone (oSome (eName 3))) (eTup (aCons (eFn self [0, 1, 2] [] (aCons (eBin gIx (eName 0) (eName 3)) (aCons (eSl (eName 1) (oSome (eC (.int 1))) oNone) (aCons (eName 2) aNil)))) aNil))) (eSl (eName 0) (oSome (eBin gAdd (eName 3) (eC (.int 1)))) oNone)))))
def r_with : Nat → List D → Hs → R D
  | 0 => fun _ _ => .bad
  | n + 1 => fnBody 4 (f_with (r_with n))
def c_with : List D → Hs → R D := r_with 40

end
def pathD (is : List Nat) : D := .tup (is.map fun i => .int (i : Nat))
def Spot (d s : D) : Prop := ∃ is x, s = pathD is ∧ sub d is = some x
/-- spots of d -/
structure Spots (d : D) (ss : List D) : Prop where
  ok : ∀ s ∈ ss, Spot d s
  ne : 0 < ss.length
  len : ss.length ≤ blk d + 1
local macro_rules | `(tactic| walk_at "s1") => `(tactic| first
  | ((with_reducible apply wp_name); (case q => rfl))
  | with_reducible refine wp_c ?_
  | with_reducible refine wp_bin ?_
  | with_reducible refine wp_acons ?_
  | with_reducible refine wp_anil ?_
  | with_reducible refine wp_call ?_
  | with_reducible refine wp_fn ?_
  | with_reducible refine wp_fnK ?_
  | with_reducible refine wp_ev ?_
  | with_reducible refine wp_em ?_
  | with_reducible refine wp_tup ?_
  | with_reducible refine wp_eb ?_
  | with_reducible refine wp_et ?_
  | with_reducible refine wp_un ?_
  | with_reducible refine wp_chain ?_
  | with_reducible refine wp_and ?_
  | with_reducible refine wp_or ?_
  | with_reducible refine wp_not ?_
  | with_reducible refine wp_andF ?_
  | with_reducible refine wp_orF ?_
  | with_reducible refine wp_notF ?_
  | with_reducible refine wp_yes ?_
  | with_reducible refine wp_if ?_
  | with_reducible refine wp_sl ?_
  | with_reducible refine wp_onone ?_
  | with_reducible refine wp_osome ?_
  | with_reducible refine wp_rev ?_
  | with_reducible refine wp_list ?_
  | with_reducible refine wp_mt ?_
  | with_reducible refine wp_any ?_
  | with_reducible refine wp_r1 ?_
  | with_reducible refine wp_r2 ?_
  | with_reducible refine ws_seq ?_
  | with_reducible refine ws_set ?_
  | with_reducible refine ws_setC ?_
  | with_reducible refine ws_setCM ?_
  | with_reducible refine ws_if ?_
  | with_reducible refine ws_ret ?_
  | with_reducible refine ws_retN ?_
  | with_reducible refine ws_drop ?_
  | with_reducible refine ws_skip ?_
  | with_reducible refine ws_asg ?_
  | with_reducible refine ws_par ?_
  | with_reducible refine ws_sub ?_
  | with_reducible refine wp_body ?_)
local macro_rules | `(tactic| walk_at "s") => `(tactic| repeat (walk_at "s1"))
local macro_rules | `(tactic| walk_at "q") => `(tactic| first | assumption | decide | omega | rfl)
local macro_rules | `(tactic| walk_at "e1") => `(tactic| first
  | with_reducible refine wp_some add_i ?_
  | with_reducible refine wp_some sub_i ?_
  | with_reducible refine wp_some lt_i ?_
  | with_reducible refine wp_some le_i ?_
  | with_reducible refine wp_some gt_i ?_
  | with_reducible refine wp_some ge_i ?_
  | with_reducible refine wp_some eq_i ?_
  | with_reducible refine wp_some ne_i ?_
  | with_reducible refine wp_some eq_b ?_
  | with_reducible refine wp_some max_i ?_
  | with_reducible refine wp_some min_i ?_
  | with_reducible refine wp_some tup_tup ?_
  | with_reducible refine wp_some tup_lst ?_
  | with_reducible refine wp_some len_tup ?_
  | with_reducible refine wp_some len_lst ?_
  | with_reducible refine wp_some sl_tup ?_
  | with_reducible refine wp_some sl_lst ?_
  | with_reducible refine wp_some tru_b ?_
  | with_reducible refine wp_some repr_b ?_
  | with_reducible refine wp_eq_sb ?_
  | with_reducible refine wp_some seq_lst ?_
  | with_reducible refine wp_some seq_tup ?_
  | ((with_reducible apply wp_ix_tup); (case q => rfl))
  | ((with_reducible apply wp_ix_lst); (case q => rfl))
  | ((with_reducible apply wp_ix_ref); (case p => assumption); (case q => rfl))
  | with_reducible refine wp_some eq_s ?_
  | ((with_reducible refine wp_some (mod_int ?q) ?_); (case q => walk_at "q"))
  | ((with_reducible refine wp_some (div_int ?p ?q) ?_); (case p => walk_at "q"); (case q => walk_at "q"))
  | ((with_reducible refine wp_some (mul_int ?q) ?_); (case q => walk_at "q"))
  | ((with_reducible refine wp_some (add_tup ?q) ?_); (case q => first | omega | exact Nat.le_of_ble_eq_true rfl | (simp; done) | (simp; omega)))
  | ((with_reducible refine wp_some (add_lst ?q) ?_); (case q => first | omega | exact Nat.le_of_ble_eq_true rfl | (simp; done) | (simp; omega)))
  | with_reducible refine Exists.intro _ (And.intro rfl ?_)
  | with_reducible refine Exists.intro _ (Exists.intro _ (And.intro rfl ?_)))
local macro_rules | `(tactic| walk_at "g") => `(tactic| repeat (first | walk_at "s1" | walk_at "e1"))
local macro_rules | `(tactic| walk_at "h1") => `(tactic| first
  | with_reducible refine wp_some ne_b ?_
  | with_reducible refine wp_ne_sb ?_
  | with_reducible refine wp_d0t ?_
  | with_reducible refine wp_d0k ?_
  | with_reducible refine wp_d0 ?_
  | with_reducible refine wp_valsT ?_
  | with_reducible refine wp_some ne_s ?_
  | with_reducible refine wp_some reprA_b ?_
  | with_reducible refine wp_d1 ?_
  | with_reducible refine wp_some isi_non ?_
  | with_reducible refine wp_some isi_bl ?_
  | with_reducible refine wp_some isi_int ?_
  | with_reducible refine wp_some isi_str ?_
  | with_reducible refine wp_some isi_tup ?_
  | with_reducible refine wp_some isi_lst ?_
  | with_reducible refine wp_some isi_dct ?_)
local macro_rules | `(tactic| walk_at "k") => `(tactic| repeat (first | walk_at "s1" | walk_at "e1" | walk_at "h1"))
local macro_rules | `(tactic| walk_at "p") => `(tactic| first | assumption | (constructor; done) | exact pln_of (by assumption) | exact Sm.pln (by assumption))
local macro_rules | `(tactic| walk_at "b1") => `(tactic| first
  | exact nof
  | exact tnof
  | (refine And.intro ?_ tnof; intro _)
  | (refine And.intro nof ?_; intro _)
  | (refine And.intro ?_ ?_ <;> intro _))
local macro_rules | `(tactic| walk_at "P1") => `(tactic| first
  | ((with_reducible show Wp (c_is_whole _ _) _ _); refine wp_of (whole_eq ?p) ?_; (case p => walk_at "p"))
  | ((with_reducible show Wp (c_is_between _ _) _ _); refine wp_of (between_eq ?p) ?_; (case p => walk_at "p")))
local macro_rules | `(tactic| walk_at "b") => `(tactic| repeat' (first | walk_at "s1" | walk_at "e1" | walk_at "h1" | walk_at "P1" | walk_at "b1"))
local macro_rules | `(tactic| walk_at "z") => `(tactic| first
  | exact (show _ ∧ _ from ⟨rfl, rfl⟩)
  | (refine (show _ ∧ _ from ⟨?_, rfl⟩); first | (simp_all; done) | (simp_all <;> omega)))
local macro_rules | `(tactic| walk_at "bz") => `(tactic| (walk_at "b" <;> try walk_at "z"))
local macro_rules | `(tactic| walk_at "P1") => `(tactic| first
  | ((with_reducible show Wp (c_is_size _ _) _ _); refine wp_of (size_eq ?p) ?_; (case p => walk_at "p"))
  | ((with_reducible show Wp (c_is_moment _ _) _ _); refine wp_of (moment_eq ?p) ?_; (case p => walk_at "p"))
  | ((with_reducible show Wp (c_is_side _ _) _ _); refine wp_of (side_eq ?p) ?_; (case p => walk_at "p"))
  | ((with_reducible show Wp (c_is_grade _ _) _ _); refine wp_of (grade_eq ?p) ?_; (case p => walk_at "p"))
  | ((with_reducible show Wp (c_is_name _ _) _ _); refine wp_of (name_eq ?p ?q) ?_; (case p => walk_at "p"); (case q => first | assumption | omega))
  | ((with_reducible show Wp (c_is_ident _ _) _ _); refine wp_of (ident_eq ?p) ?_; (case p => assumption))
  | ((with_reducible show Wp (c_is_glove _ _) _ _); refine wp_of (glove_eq ?p ?q) ?_; (case p => assumption); (case q => first | assumption | omega)))
local macro_rules | `(tactic| walk_at "d1") => `(tactic| first
  | ((with_reducible show Wp (c_draw _ _) _ _); refine' dr ?s ?k ?a ?b ?_; (case s => assumption); (case k => assumption); (case a => first | decide | omega); (case b => first | decide | omega); intro _ _ _ _ _))
local macro_rules | `(tactic| walk_at "d") => `(tactic| repeat (first | walk_at "s1" | walk_at "e1" | walk_at "h1" | walk_at "P1" | walk_at "d1"))
local macro_rules | `(tactic| walk_at "db") => `(tactic| repeat' (first | walk_at "s1" | walk_at "e1" | walk_at "h1" | walk_at "P1" | walk_at "d1" | walk_at "b1"))
local macro_rules | `(tactic| walk_at "tl") => `(tactic| repeat' (first | assumption | omega | decide | (with_reducible refine len_half ?_ ?_) | (with_reducible refine lit_half ?_) | (with_reducible refine cut_half ?_) | (with_reducible refine T_half ?_)))
local macro_rules | `(tactic| walk_at "t1") => `(tactic| first
  | ((with_reducible refine wp_some (add_str ?q ?r) ?_); (case q => walk_at "tl"); (case r => walk_at "tl"))
  | ((with_reducible refine wp_some (sl_str ?q) ?_); (case q => walk_at "tl"))
  | ((with_reducible refine wp_some (len_str ?q) ?_); (case q => walk_at "tl"))
  | ((with_reducible refine wp_someP (upper_str ?q) ?_); (case q => walk_at "tl"))
  | ((with_reducible refine wp_some (str_int ?q) ?_); (case q => first | assumption | omega))
  | with_reducible refine wp_some rev_tup ?_
  | with_reducible refine wp_some rev_lst ?_
  | with_reducible refine wp_some is_bl ?_
  | with_reducible refine wp_some isN_bl ?_
  | with_reducible refine wp_some neg_i ?_
  | with_reducible refine wp_lAdd ?_
  | with_reducible refine And.intro rfl ?_)
local macro_rules | `(tactic| walk_at "d") => `(tactic| repeat (first | walk_at "s1" | walk_at "e1" | walk_at "h1" | walk_at "t1" | walk_at "P1" | walk_at "d1"))
local macro_rules | `(tactic| walk_at "db") => `(tactic| repeat' (first | walk_at "s1" | walk_at "e1" | walk_at "h1" | walk_at "t1" | walk_at "P1" | walk_at "d1" | walk_at "b1"))
local macro_rules | `(tactic| walk_at "dz") => `(tactic| (walk_at "db" <;> try walk_at "z"))
local macro_rules | `(tactic| walk_at "hg") => `(tactic| first | assumption | exact get_new | (refine get_app ?_; walk_at "hg") | (refine' get_set_eq ?e; (case e => walk_at "hg")) | (refine (get_set_ne ?_).trans ?_; (first | omega | (simp only [List.length_append, List.length_set, List.length_cons, List.length_nil]; omega)); walk_at "hg"))
local macro_rules | `(tactic| walk_at "st") => `(tactic| repeat' (first | assumption | (with_reducible refine St.wapp ?_ ?_) | (with_reducible refine St.wset ?_ ?_ ?_ ?_) | (simp only [List.length_append, List.length_set, List.length_cons, List.length_nil]; omega) | omega))
local macro_rules | `(tactic| walk_at "ll") => `(tactic| repeat' (first | assumption | omega | exact Nat.le_of_ble_eq_true rfl | (with_reducible refine app_half ?_ ?_) | (with_reducible refine cutL_half ?_) | (with_reducible refine rev_half ?_) | (with_reducible refine map_half ?_) | (with_reducible refine cons_half ?_ ?_)))
local macro_rules | `(tactic| walk_at "n1") => `(tactic| first
  | ((with_reducible show Wp (R.ofO _ _) _ _); first
    | with_reducible apply wp_some eq_same
    | with_reducible apply wp_some ne_same
    | with_reducible apply wp_some add_i
    | with_reducible apply wp_some sub_i
    | with_reducible apply wp_some lt_i
    | with_reducible apply wp_some le_i
    | with_reducible apply wp_some gt_i
    | with_reducible apply wp_some ge_i
    | with_reducible apply wp_some eq_i
    | with_reducible apply wp_some ne_i
    | with_reducible apply wp_some eq_b
    | with_reducible apply wp_some max_i
    | with_reducible apply wp_some min_i
    | with_reducible apply wp_some tup_tup
    | with_reducible apply wp_some tup_lst
    | with_reducible apply wp_some len_tup
    | with_reducible apply wp_some len_lst
    | with_reducible apply wp_some sl_tup
    | with_reducible apply wp_some sl_lst
    | with_reducible apply wp_some tru_b
    | with_reducible apply wp_some repr_b
    | with_reducible refine wp_eq_sb ?_
    | with_reducible apply wp_some seq_lst
    | with_reducible apply wp_some seq_tup
    | ((with_reducible apply wp_ix_tup); (case q => rfl))
    | ((with_reducible apply wp_ix_lst); (case q => rfl))
    | ((with_reducible apply wp_ix_ref); (case p => assumption); (case q => rfl))
    | with_reducible apply wp_some eq_s
    | ((with_reducible apply wp_some (mod_int ?q)); (case q => walk_at "q"))
    | ((with_reducible apply wp_some (div_int ?p ?q)); (case p => walk_at "q"); (case q => walk_at "q"))
    | ((with_reducible apply wp_some (mul_int ?q)); (case q => walk_at "q"))
    | ((with_reducible apply wp_some (add_tup2 ?a ?b)); (case a => walk_at "ll"); (case b => walk_at "ll"))
    | ((with_reducible apply wp_some (add_lst2 ?a ?b)); (case a => walk_at "ll"); (case b => walk_at "ll"))
    | with_reducible apply wp_some ne_b
    | with_reducible refine wp_ne_sb ?_
    | with_reducible apply wp_some ne_s
    | with_reducible apply wp_some reprA_b
    | with_reducible apply wp_some isi_non
    | with_reducible apply wp_some isi_bl
    | with_reducible apply wp_some isi_int
    | with_reducible apply wp_some isi_str
    | with_reducible apply wp_some isi_tup
    | with_reducible apply wp_some isi_lst
    | with_reducible apply wp_some isi_dct
    | ((with_reducible apply wp_some (add_str ?q ?r)); (case q => walk_at "tl"); (case r => walk_at "tl"))
    | ((with_reducible apply wp_some (sl_str ?q)); (case q => walk_at "tl"))
    | ((with_reducible apply wp_some (len_str ?q)); (case q => walk_at "tl"))
    | ((with_reducible apply wp_some (str_int ?q)); (case q => first | assumption | omega))
    | with_reducible apply wp_some rev_tup
    | with_reducible apply wp_some rev_lst
    | with_reducible apply wp_some is_bl
    | with_reducible apply wp_some isN_bl
    | with_reducible apply wp_some neg_i
    | ((with_reducible apply wp_some (isi_pln ?q)); (case q => walk_at "p"))
    | with_reducible apply wp_some pow6
    | with_reducible apply wp_some eqT_tup
    | ((with_reducible apply wp_some (rev_str ?q)); (case q => walk_at "tl"))
    | ((with_reducible apply wp_some (add_rl ?q ?a ?b)); (case q => walk_at "hg"); (case a => walk_at "ll"); (case b => walk_at "ll"))
    | ((with_reducible apply wp_some (add_lr ?q ?a ?b)); (case q => walk_at "hg"); (case a => walk_at "ll"); (case b => walk_at "ll"))
    | ((with_reducible apply wp_some (add_rr ?q ?r ?a ?b)); (case q => walk_at "hg"); (case r => walk_at "hg"); (case a => walk_at "ll"); (case b => walk_at "ll"))
    | with_reducible apply wp_some lst_lst
    | ((with_reducible apply wp_some (lst_ref ?q)); (case q => walk_at "hg"))
    | ((with_reducible apply wp_some (len_ref ?q)); (case q => walk_at "hg"))
    | ((with_reducible apply wp_some (tup_ref ?q)); (case q => walk_at "hg"))
    | with_reducible apply wp_some pow39
    | with_reducible apply wp_some pow30
    | with_reducible apply wp_some pow40
    | with_reducible apply wp_some tru_non
    | with_reducible apply wp_some tru_int
    | with_reducible apply wp_some tru_tup
    | ((with_reducible apply wp_some (tru_str ?q)); (case q => walk_at "tl"))
    | ((with_reducible apply wp_some (mulS_str ?a ?b ?d)); (case a => walk_at "tl"); (case b => walk_at "tl"); (case d => walk_at "tl"))
    | ((with_reducible apply wp_some (mulS_tupA ?a ?b ?c ?d)); (case a => walk_at "tl"); (case b => walk_at "tl"); (case c => first | rfl | assumption); (case d => walk_at "tl")))
  | ((with_reducible show Wp (R.ofP _) _ _); first
    | ((with_reducible apply wp_someP (app_ref2 ?e ?q)); (case e => walk_at "hg"); (case q => walk_at "ll"))
    | ((with_reducible apply wp_someP (upper_str ?q)); (case q => walk_at "tl")))
  | ((with_reducible show Ws _ _); first
    | with_reducible refine ws_seq ?_
    | with_reducible refine ws_set ?_
    | with_reducible refine ws_setC ?_
    | with_reducible refine ws_setCM ?_
    | with_reducible refine ws_if ?_
    | with_reducible refine ws_ret ?_
    | with_reducible refine ws_retN ?_
    | with_reducible refine ws_drop ?_
    | with_reducible refine ws_skip ?_
    | with_reducible refine ws_asg ?_
    | with_reducible refine ws_par ?_
    | with_reducible refine ws_sub ?_)
  | ((with_reducible refine' And.intro (isL_ref ?e) ?_); (case e => walk_at "hg"))
  | ((with_reducible refine And.intro (And.intro ?a ?b) ?_); (case a => walk_at "ll"); (case b => walk_at "ll"))
  | with_reducible refine Exists.intro _ (And.intro rfl ?_)
  | with_reducible refine Exists.intro _ (Exists.intro _ (And.intro rfl ?_))
  | with_reducible refine And.intro rfl ?_
  | ((with_reducible show Wp _ _ _); first
    | ((with_reducible apply wp_name); (case q => rfl))
    | with_reducible refine wp_c ?_
    | with_reducible refine wp_bin ?_
    | with_reducible refine wp_acons ?_
    | with_reducible refine wp_anil ?_
    | with_reducible refine wp_call ?_
    | with_reducible refine wp_fn ?_
    | with_reducible refine wp_fnK ?_
    | with_reducible refine wp_ev ?_
    | with_reducible refine wp_em ?_
    | with_reducible refine wp_tup ?_
    | with_reducible refine wp_eb ?_
    | with_reducible refine wp_et ?_
    | with_reducible refine wp_un ?_
    | with_reducible refine wp_chain ?_
    | with_reducible refine wp_and ?_
    | with_reducible refine wp_or ?_
    | with_reducible refine wp_not ?_
    | with_reducible refine wp_andF ?_
    | with_reducible refine wp_orF ?_
    | with_reducible refine wp_notF ?_
    | with_reducible refine wp_yes ?_
    | with_reducible refine wp_if ?_
    | with_reducible refine wp_sl ?_
    | with_reducible refine wp_onone ?_
    | with_reducible refine wp_osome ?_
    | with_reducible refine wp_rev ?_
    | with_reducible refine wp_list ?_
    | with_reducible refine wp_mt ?_
    | with_reducible refine wp_any ?_
    | with_reducible refine wp_r1 ?_
    | with_reducible refine wp_r2 ?_
    | with_reducible refine wp_body ?_
    | with_reducible refine wp_d0t ?_
    | with_reducible refine wp_d0k ?_
    | with_reducible refine wp_d0 ?_
    | with_reducible refine wp_valsT ?_
    | with_reducible refine wp_d1 ?_
    | with_reducible refine wp_lAdd ?_
    | walk_at "P1"
    | walk_at "d1")
  | ((fail_if_success (with_reducible show Ws _ _)); (fail_if_success (with_reducible show Wp _ _ _)); show Ws _ _))
local macro_rules | `(tactic| walk_at "n") => `(tactic| repeat (walk_at "n1"))
local macro_rules | `(tactic| walk_at "nb") => `(tactic| repeat' (first | walk_at "n1" | walk_at "b1"))
local macro_rules | `(tactic| walk_at "c") => `(tactic| first
  | assumption
  | (refine closeB (by assumption) ?_; first | rfl | (simp_all; done) | (simp_all <;> omega)))
local macro_rules | `(tactic| walk_at "nc") => `(tactic| (walk_at "nb" <;> try walk_at "c"))
local macro_rules | `(tactic| walk_at "n1") => `(tactic| first
  | with_reducible refine wp_iOf ?_
  | with_reducible apply wp_some neT_tup
  | with_reducible refine ex_ent ?_
  | with_reducible refine ex_enl ?_
  | with_reducible refine ex_zpt ?_
  | with_reducible refine ex_zpl ?_)
local macro_rules | `(tactic| walk_at "q") => `(tactic| exact Int.natCast_pos.mpr (Nat.succ_pos _))
local macro_rules | `(tactic| walk_at "hg") => `(tactic| with_reducible exact St.k2 (by assumption))

section
variable {h : Hs} {X : XQ} {B k n : Nat}
theorem blks_take_succ {ds : List D} {i : Nat} (hi : i < ds.length) : blks (ds.take (i + 1)) = blks (ds.take i) + (blk ds[i] + 1) := by
  rw [List.take_add_one, List.getElem?_eq_getElem hi, blks_app]
  rfl
def pre (i : Nat) : D → D
  | .tup es => .tup (.int (i : Nat) :: es)
  | d => d
theorem spots_wp : ∀ (m : Nat) (d : D) (Q : D → Hs → Prop), Dd B k n d → dep d < m → n ≤ 40000 → k ≤ 100 → (∀ ss, Spots d ss → Q (.lst ss) h) → Wp (r_spots m [d] h) Q X := by
  intro m
  induction m with
  | zero => intro d Q _ hm; omega
  | succ m ih =>
    intro d Q t hm hn hk c
    have one : Spots d [.tup []] := ⟨fun s hs => by rw [List.mem_singleton.mp hs]; exact ⟨[], d, rfl, sub_nil⟩, Nat.one_pos, by simp⟩
    unfold r_spots f_spots
    refine wp_bodyE [some d, none, none, none, none] rfl ?_
    have p := t.pln
    walk_at "n"
    cases p with
    | tup ds =>
      refine ⟨fun _ => ?_, tnof⟩
      refine ws_for ?_
      walk_at "n"
      have tt := t.tup
      have kt := t.tup'
      have ln : ds.length ≤ n := tt.len
      refine ⟨ds.length, fun i e h' => h' = h ∧ ∃ ss x2 x3 x4, e = [some (.tup ds), some (.lst ss), x2, x3, x4] ∧ (∀ s ∈ ss, Spot (.tup ds) s) ∧ 0 < ss.length ∧ ss.length ≤ blks (ds.take i) + 1,
        by omega, ⟨rfl, [.tup []], _, _, _, rfl, one.ok, Nat.one_pos, by simp⟩, ?_, ?_⟩
      · rintro i _ h' hi ⟨rfl, ss, x2, x3, x4, rfl, so, s0, sl⟩
        refine ⟨.tup [.int i, ds[i]], _, ?_, rfl, ?_⟩
        · unfold nxL
          rw [enumL_at, List.getElem?_eq_getElem hi]; rfl
        walk_at "n"
        have mi := List.getElem_mem hi
        have dx : dep ds[i] + 1 ≤ dep (.tup ds) := Nat.succ_le_succ (deps_iff.mp (Nat.le_refl _) _ mi)
        have bz := blks_take_succ hi
        have bt : blks (ds.take (i + 1)) ≤ blks ds := blks_sub (List.take_sublist ..)
        have bn : blks ds ≤ n := tt.blk_
        refine wp_cmap (pre i) ?_
        walk_at "n"
        refine ih ds[i] _ ((tt.mem mi).mono (Nat.le_refl _) (by omega) (Nat.le_refl _)) (by omega) hn hk fun es E => ?_
        have el := E.len
        walk_at "n"
        refine ⟨by omega, fun s hs => ?_, ?_⟩
        · obtain ⟨is, x, rfl, hx⟩ := E.ok s hs
          have tm : Dd B k n ds[i] := (tt.mem mi).mono (Nat.le_refl _) (by omega) (Nat.le_refl _)
          have lx := (sub_dd tm hx).2
          have dk := tm.dep_
          refine ⟨_, rfl, ?_⟩
          unfold pathD
          walk_at "n"
          exact rfl
        · refine wp_some (add_lst2 (by omega) (by rw [List.length_map]; omega)) ?_
          refine ⟨rfl, _, _, _, _, rfl, fun s hs => ?_, ?_, ?_⟩
          · rcases List.mem_append.mp hs with hs | hs
            · exact so s hs
            · obtain ⟨s', hs', rfl⟩ := List.mem_map.mp hs
              obtain ⟨is, x, rfl, hx⟩ := E.ok s' hs'
              exact ⟨i :: is, x, rfl, by rw [sub_cons, List.getElem?_eq_getElem hi]; exact hx⟩
          · rw [List.length_append]; omega
          · rw [List.length_append, List.length_map]; omega
      · rintro _ h' ⟨rfl, ss, x2, x3, x4, rfl, so, s0, sl⟩
        refine ⟨by unfold nxL; rw [enumL_at, List.getElem?_eq_none (Nat.le_refl _)]; rfl, ?_⟩
        walk_at "n"
        rw [List.take_length] at sl
        exact c ss ⟨so, s0, sl⟩
    | _ =>
      refine ⟨nof, fun _ => ?_⟩
      walk_at "n"
      exact c _ one
end
end G

/-! # G33: a part of nested tuples put otherwise -/
namespace G
open PySem PySem.Spec PyProof.Rows L2
local macro_rules | `(tactic| walk_at "s1") => `(tactic| first
  | ((with_reducible apply wp_name); (case q => rfl))
  | with_reducible refine wp_c ?_
  | with_reducible refine wp_bin ?_
  | with_reducible refine wp_acons ?_
  | with_reducible refine wp_anil ?_
  | with_reducible refine wp_call ?_
  | with_reducible refine wp_fn ?_
  | with_reducible refine wp_fnK ?_
  | with_reducible refine wp_ev ?_
  | with_reducible refine wp_em ?_
  | with_reducible refine wp_tup ?_
  | with_reducible refine wp_eb ?_
  | with_reducible refine wp_et ?_
  | with_reducible refine wp_un ?_
  | with_reducible refine wp_chain ?_
  | with_reducible refine wp_and ?_
  | with_reducible refine wp_or ?_
  | with_reducible refine wp_not ?_
  | with_reducible refine wp_andF ?_
  | with_reducible refine wp_orF ?_
  | with_reducible refine wp_notF ?_
  | with_reducible refine wp_yes ?_
  | with_reducible refine wp_if ?_
  | with_reducible refine wp_sl ?_
  | with_reducible refine wp_onone ?_
  | with_reducible refine wp_osome ?_
  | with_reducible refine wp_rev ?_
  | with_reducible refine wp_list ?_
  | with_reducible refine wp_mt ?_
  | with_reducible refine wp_any ?_
  | with_reducible refine wp_r1 ?_
  | with_reducible refine wp_r2 ?_
  | with_reducible refine ws_seq ?_
  | with_reducible refine ws_set ?_
  | with_reducible refine ws_setC ?_
  | with_reducible refine ws_setCM ?_
  | with_reducible refine ws_if ?_
  | with_reducible refine ws_ret ?_
  | with_reducible refine ws_retN ?_
  | with_reducible refine ws_drop ?_
  | with_reducible refine ws_skip ?_
  | with_reducible refine ws_asg ?_
  | with_reducible refine ws_par ?_
  | with_reducible refine ws_sub ?_
  | with_reducible refine wp_body ?_)
local macro_rules | `(tactic| walk_at "s") => `(tactic| repeat (walk_at "s1"))
local macro_rules | `(tactic| walk_at "q") => `(tactic| first | assumption | decide | omega | rfl)
local macro_rules | `(tactic| walk_at "e1") => `(tactic| first
  | with_reducible refine wp_some add_i ?_
  | with_reducible refine wp_some sub_i ?_
  | with_reducible refine wp_some lt_i ?_
  | with_reducible refine wp_some le_i ?_
  | with_reducible refine wp_some gt_i ?_
  | with_reducible refine wp_some ge_i ?_
  | with_reducible refine wp_some eq_i ?_
  | with_reducible refine wp_some ne_i ?_
  | with_reducible refine wp_some eq_b ?_
  | with_reducible refine wp_some max_i ?_
  | with_reducible refine wp_some min_i ?_
  | with_reducible refine wp_some tup_tup ?_
  | with_reducible refine wp_some tup_lst ?_
  | with_reducible refine wp_some len_tup ?_
  | with_reducible refine wp_some len_lst ?_
  | with_reducible refine wp_some sl_tup ?_
  | with_reducible refine wp_some sl_lst ?_
  | with_reducible refine wp_some tru_b ?_
  | with_reducible refine wp_some repr_b ?_
  | with_reducible refine wp_eq_sb ?_
  | with_reducible refine wp_some seq_lst ?_
  | with_reducible refine wp_some seq_tup ?_
  | ((with_reducible apply wp_ix_tup); (case q => rfl))
  | ((with_reducible apply wp_ix_lst); (case q => rfl))
  | ((with_reducible apply wp_ix_ref); (case p => assumption); (case q => rfl))
  | with_reducible refine wp_some eq_s ?_
  | ((with_reducible refine wp_some (mod_int ?q) ?_); (case q => walk_at "q"))
  | ((with_reducible refine wp_some (div_int ?p ?q) ?_); (case p => walk_at "q"); (case q => walk_at "q"))
  | ((with_reducible refine wp_some (mul_int ?q) ?_); (case q => walk_at "q"))
  | ((with_reducible refine wp_some (add_tup ?q) ?_); (case q => first | omega | exact Nat.le_of_ble_eq_true rfl | (simp; done) | (simp; omega)))
  | ((with_reducible refine wp_some (add_lst ?q) ?_); (case q => first | omega | exact Nat.le_of_ble_eq_true rfl | (simp; done) | (simp; omega)))
  | with_reducible refine Exists.intro _ (And.intro rfl ?_)
  | with_reducible refine Exists.intro _ (Exists.intro _ (And.intro rfl ?_)))
local macro_rules | `(tactic| walk_at "g") => `(tactic| repeat (first | walk_at "s1" | walk_at "e1"))
local macro_rules | `(tactic| walk_at "h1") => `(tactic| first
  | with_reducible refine wp_some ne_b ?_
  | with_reducible refine wp_ne_sb ?_
  | with_reducible refine wp_d0t ?_
  | with_reducible refine wp_d0k ?_
  | with_reducible refine wp_d0 ?_
  | with_reducible refine wp_valsT ?_
  | with_reducible refine wp_some ne_s ?_
  | with_reducible refine wp_some reprA_b ?_
  | with_reducible refine wp_d1 ?_
  | with_reducible refine wp_some isi_non ?_
  | with_reducible refine wp_some isi_bl ?_
  | with_reducible refine wp_some isi_int ?_
  | with_reducible refine wp_some isi_str ?_
  | with_reducible refine wp_some isi_tup ?_
  | with_reducible refine wp_some isi_lst ?_
  | with_reducible refine wp_some isi_dct ?_)
local macro_rules | `(tactic| walk_at "k") => `(tactic| repeat (first | walk_at "s1" | walk_at "e1" | walk_at "h1"))
local macro_rules | `(tactic| walk_at "p") => `(tactic| first | assumption | (constructor; done) | exact pln_of (by assumption) | exact Sm.pln (by assumption))
local macro_rules | `(tactic| walk_at "b1") => `(tactic| first
  | exact nof
  | exact tnof
  | (refine And.intro ?_ tnof; intro _)
  | (refine And.intro nof ?_; intro _)
  | (refine And.intro ?_ ?_ <;> intro _))
local macro_rules | `(tactic| walk_at "P1") => `(tactic| first
  | ((with_reducible show Wp (c_is_whole _ _) _ _); refine wp_of (whole_eq ?p) ?_; (case p => walk_at "p"))
  | ((with_reducible show Wp (c_is_between _ _) _ _); refine wp_of (between_eq ?p) ?_; (case p => walk_at "p")))
local macro_rules | `(tactic| walk_at "b") => `(tactic| repeat' (first | walk_at "s1" | walk_at "e1" | walk_at "h1" | walk_at "P1" | walk_at "b1"))
local macro_rules | `(tactic| walk_at "z") => `(tactic| first
  | exact (show _ ∧ _ from ⟨rfl, rfl⟩)
  | (refine (show _ ∧ _ from ⟨?_, rfl⟩); first | (simp_all; done) | (simp_all <;> omega)))
local macro_rules | `(tactic| walk_at "bz") => `(tactic| (walk_at "b" <;> try walk_at "z"))
local macro_rules | `(tactic| walk_at "P1") => `(tactic| first
  | ((with_reducible show Wp (c_is_size _ _) _ _); refine wp_of (size_eq ?p) ?_; (case p => walk_at "p"))
  | ((with_reducible show Wp (c_is_moment _ _) _ _); refine wp_of (moment_eq ?p) ?_; (case p => walk_at "p"))
  | ((with_reducible show Wp (c_is_side _ _) _ _); refine wp_of (side_eq ?p) ?_; (case p => walk_at "p"))
  | ((with_reducible show Wp (c_is_grade _ _) _ _); refine wp_of (grade_eq ?p) ?_; (case p => walk_at "p"))
  | ((with_reducible show Wp (c_is_name _ _) _ _); refine wp_of (name_eq ?p ?q) ?_; (case p => walk_at "p"); (case q => first | assumption | omega))
  | ((with_reducible show Wp (c_is_ident _ _) _ _); refine wp_of (ident_eq ?p) ?_; (case p => assumption))
  | ((with_reducible show Wp (c_is_glove _ _) _ _); refine wp_of (glove_eq ?p ?q) ?_; (case p => assumption); (case q => first | assumption | omega)))
local macro_rules | `(tactic| walk_at "d1") => `(tactic| first
  | ((with_reducible show Wp (c_draw _ _) _ _); refine' dr ?s ?k ?a ?b ?_; (case s => assumption); (case k => assumption); (case a => first | decide | omega); (case b => first | decide | omega); intro _ _ _ _ _))
local macro_rules | `(tactic| walk_at "d") => `(tactic| repeat (first | walk_at "s1" | walk_at "e1" | walk_at "h1" | walk_at "P1" | walk_at "d1"))
local macro_rules | `(tactic| walk_at "db") => `(tactic| repeat' (first | walk_at "s1" | walk_at "e1" | walk_at "h1" | walk_at "P1" | walk_at "d1" | walk_at "b1"))
local macro_rules | `(tactic| walk_at "tl") => `(tactic| repeat' (first | assumption | omega | decide | (with_reducible refine len_half ?_ ?_) | (with_reducible refine lit_half ?_) | (with_reducible refine cut_half ?_) | (with_reducible refine T_half ?_)))
local macro_rules | `(tactic| walk_at "t1") => `(tactic| first
  | ((with_reducible refine wp_some (add_str ?q ?r) ?_); (case q => walk_at "tl"); (case r => walk_at "tl"))
  | ((with_reducible refine wp_some (sl_str ?q) ?_); (case q => walk_at "tl"))
  | ((with_reducible refine wp_some (len_str ?q) ?_); (case q => walk_at "tl"))
  | ((with_reducible refine wp_someP (upper_str ?q) ?_); (case q => walk_at "tl"))
  | ((with_reducible refine wp_some (str_int ?q) ?_); (case q => first | assumption | omega))
  | with_reducible refine wp_some rev_tup ?_
  | with_reducible refine wp_some rev_lst ?_
  | with_reducible refine wp_some is_bl ?_
  | with_reducible refine wp_some isN_bl ?_
  | with_reducible refine wp_some neg_i ?_
  | with_reducible refine wp_lAdd ?_
  | with_reducible refine And.intro rfl ?_)
local macro_rules | `(tactic| walk_at "d") => `(tactic| repeat (first | walk_at "s1" | walk_at "e1" | walk_at "h1" | walk_at "t1" | walk_at "P1" | walk_at "d1"))
local macro_rules | `(tactic| walk_at "db") => `(tactic| repeat' (first | walk_at "s1" | walk_at "e1" | walk_at "h1" | walk_at "t1" | walk_at "P1" | walk_at "d1" | walk_at "b1"))
local macro_rules | `(tactic| walk_at "dz") => `(tactic| (walk_at "db" <;> try walk_at "z"))
local macro_rules | `(tactic| walk_at "hg") => `(tactic| first | assumption | exact get_new | (refine get_app ?_; walk_at "hg") | (refine' get_set_eq ?e; (case e => walk_at "hg")) | (refine (get_set_ne ?_).trans ?_; (first | omega | (simp only [List.length_append, List.length_set, List.length_cons, List.length_nil]; omega)); walk_at "hg"))
local macro_rules | `(tactic| walk_at "st") => `(tactic| repeat' (first | assumption | (with_reducible refine St.wapp ?_ ?_) | (with_reducible refine St.wset ?_ ?_ ?_ ?_) | (simp only [List.length_append, List.length_set, List.length_cons, List.length_nil]; omega) | omega))
local macro_rules | `(tactic| walk_at "ll") => `(tactic| repeat' (first | assumption | omega | exact Nat.le_of_ble_eq_true rfl | (with_reducible refine app_half ?_ ?_) | (with_reducible refine cutL_half ?_) | (with_reducible refine rev_half ?_) | (with_reducible refine map_half ?_) | (with_reducible refine cons_half ?_ ?_)))
local macro_rules | `(tactic| walk_at "n1") => `(tactic| first
  | ((with_reducible show Wp (R.ofO _ _) _ _); first
    | with_reducible apply wp_some eq_same
    | with_reducible apply wp_some ne_same
    | with_reducible apply wp_some add_i
    | with_reducible apply wp_some sub_i
    | with_reducible apply wp_some lt_i
    | with_reducible apply wp_some le_i
    | with_reducible apply wp_some gt_i
    | with_reducible apply wp_some ge_i
    | with_reducible apply wp_some eq_i
    | with_reducible apply wp_some ne_i
    | with_reducible apply wp_some eq_b
    | with_reducible apply wp_some max_i
    | with_reducible apply wp_some min_i
    | with_reducible apply wp_some tup_tup
    | with_reducible apply wp_some tup_lst
    | with_reducible apply wp_some len_tup
    | with_reducible apply wp_some len_lst
    | with_reducible apply wp_some sl_tup
    | with_reducible apply wp_some sl_lst
    | with_reducible apply wp_some tru_b
    | with_reducible apply wp_some repr_b
    | with_reducible refine wp_eq_sb ?_
    | with_reducible apply wp_some seq_lst
    | with_reducible apply wp_some seq_tup
    | ((with_reducible apply wp_ix_tup); (case q => rfl))
    | ((with_reducible apply wp_ix_lst); (case q => rfl))
    | ((with_reducible apply wp_ix_ref); (case p => assumption); (case q => rfl))
    | with_reducible apply wp_some eq_s
    | ((with_reducible apply wp_some (mod_int ?q)); (case q => walk_at "q"))
    | ((with_reducible apply wp_some (div_int ?p ?q)); (case p => walk_at "q"); (case q => walk_at "q"))
    | ((with_reducible apply wp_some (mul_int ?q)); (case q => walk_at "q"))
    | ((with_reducible apply wp_some (add_tup2 ?a ?b)); (case a => walk_at "ll"); (case b => walk_at "ll"))
    | ((with_reducible apply wp_some (add_lst2 ?a ?b)); (case a => walk_at "ll"); (case b => walk_at "ll"))
    | with_reducible apply wp_some ne_b
    | with_reducible refine wp_ne_sb ?_
    | with_reducible apply wp_some ne_s
    | with_reducible apply wp_some reprA_b
    | with_reducible apply wp_some isi_non
    | with_reducible apply wp_some isi_bl
    | with_reducible apply wp_some isi_int
    | with_reducible apply wp_some isi_str
    | with_reducible apply wp_some isi_tup
    | with_reducible apply wp_some isi_lst
    | with_reducible apply wp_some isi_dct
    | ((with_reducible apply wp_some (add_str ?q ?r)); (case q => walk_at "tl"); (case r => walk_at "tl"))
    | ((with_reducible apply wp_some (sl_str ?q)); (case q => walk_at "tl"))
    | ((with_reducible apply wp_some (len_str ?q)); (case q => walk_at "tl"))
    | ((with_reducible apply wp_some (str_int ?q)); (case q => first | assumption | omega))
    | with_reducible apply wp_some rev_tup
    | with_reducible apply wp_some rev_lst
    | with_reducible apply wp_some is_bl
    | with_reducible apply wp_some isN_bl
    | with_reducible apply wp_some neg_i
    | ((with_reducible apply wp_some (isi_pln ?q)); (case q => walk_at "p"))
    | with_reducible apply wp_some pow6
    | with_reducible apply wp_some eqT_tup
    | ((with_reducible apply wp_some (rev_str ?q)); (case q => walk_at "tl"))
    | ((with_reducible apply wp_some (add_rl ?q ?a ?b)); (case q => walk_at "hg"); (case a => walk_at "ll"); (case b => walk_at "ll"))
    | ((with_reducible apply wp_some (add_lr ?q ?a ?b)); (case q => walk_at "hg"); (case a => walk_at "ll"); (case b => walk_at "ll"))
    | ((with_reducible apply wp_some (add_rr ?q ?r ?a ?b)); (case q => walk_at "hg"); (case r => walk_at "hg"); (case a => walk_at "ll"); (case b => walk_at "ll"))
    | with_reducible apply wp_some lst_lst
    | ((with_reducible apply wp_some (lst_ref ?q)); (case q => walk_at "hg"))
    | ((with_reducible apply wp_some (len_ref ?q)); (case q => walk_at "hg"))
    | ((with_reducible apply wp_some (tup_ref ?q)); (case q => walk_at "hg"))
    | with_reducible apply wp_some pow39
    | with_reducible apply wp_some pow30
    | with_reducible apply wp_some pow40
    | with_reducible apply wp_some tru_non
    | with_reducible apply wp_some tru_int
    | with_reducible apply wp_some tru_tup
    | ((with_reducible apply wp_some (tru_str ?q)); (case q => walk_at "tl"))
    | ((with_reducible apply wp_some (mulS_str ?a ?b ?d)); (case a => walk_at "tl"); (case b => walk_at "tl"); (case d => walk_at "tl"))
    | ((with_reducible apply wp_some (mulS_tupA ?a ?b ?c ?d)); (case a => walk_at "tl"); (case b => walk_at "tl"); (case c => first | rfl | assumption); (case d => walk_at "tl")))
  | ((with_reducible show Wp (R.ofP _) _ _); first
    | ((with_reducible apply wp_someP (app_ref2 ?e ?q)); (case e => walk_at "hg"); (case q => walk_at "ll"))
    | ((with_reducible apply wp_someP (upper_str ?q)); (case q => walk_at "tl")))
  | ((with_reducible show Ws _ _); first
    | with_reducible refine ws_seq ?_
    | with_reducible refine ws_set ?_
    | with_reducible refine ws_setC ?_
    | with_reducible refine ws_setCM ?_
    | with_reducible refine ws_if ?_
    | with_reducible refine ws_ret ?_
    | with_reducible refine ws_retN ?_
    | with_reducible refine ws_drop ?_
    | with_reducible refine ws_skip ?_
    | with_reducible refine ws_asg ?_
    | with_reducible refine ws_par ?_
    | with_reducible refine ws_sub ?_)
  | ((with_reducible refine' And.intro (isL_ref ?e) ?_); (case e => walk_at "hg"))
  | ((with_reducible refine And.intro (And.intro ?a ?b) ?_); (case a => walk_at "ll"); (case b => walk_at "ll"))
  | with_reducible refine Exists.intro _ (And.intro rfl ?_)
  | with_reducible refine Exists.intro _ (Exists.intro _ (And.intro rfl ?_))
  | with_reducible refine And.intro rfl ?_
  | ((with_reducible show Wp _ _ _); first
    | ((with_reducible apply wp_name); (case q => rfl))
    | with_reducible refine wp_c ?_
    | with_reducible refine wp_bin ?_
    | with_reducible refine wp_acons ?_
    | with_reducible refine wp_anil ?_
    | with_reducible refine wp_call ?_
    | with_reducible refine wp_fn ?_
    | with_reducible refine wp_fnK ?_
    | with_reducible refine wp_ev ?_
    | with_reducible refine wp_em ?_
    | with_reducible refine wp_tup ?_
    | with_reducible refine wp_eb ?_
    | with_reducible refine wp_et ?_
    | with_reducible refine wp_un ?_
    | with_reducible refine wp_chain ?_
    | with_reducible refine wp_and ?_
    | with_reducible refine wp_or ?_
    | with_reducible refine wp_not ?_
    | with_reducible refine wp_andF ?_
    | with_reducible refine wp_orF ?_
    | with_reducible refine wp_notF ?_
    | with_reducible refine wp_yes ?_
    | with_reducible refine wp_if ?_
    | with_reducible refine wp_sl ?_
    | with_reducible refine wp_onone ?_
    | with_reducible refine wp_osome ?_
    | with_reducible refine wp_rev ?_
    | with_reducible refine wp_list ?_
    | with_reducible refine wp_mt ?_
    | with_reducible refine wp_any ?_
    | with_reducible refine wp_r1 ?_
    | with_reducible refine wp_r2 ?_
    | with_reducible refine wp_body ?_
    | with_reducible refine wp_d0t ?_
    | with_reducible refine wp_d0k ?_
    | with_reducible refine wp_d0 ?_
    | with_reducible refine wp_valsT ?_
    | with_reducible refine wp_d1 ?_
    | with_reducible refine wp_lAdd ?_
    | walk_at "P1"
    | walk_at "d1")
  | ((fail_if_success (with_reducible show Ws _ _)); (fail_if_success (with_reducible show Wp _ _ _)); show Ws _ _))
local macro_rules | `(tactic| walk_at "n") => `(tactic| repeat (walk_at "n1"))
local macro_rules | `(tactic| walk_at "nb") => `(tactic| repeat' (first | walk_at "n1" | walk_at "b1"))
local macro_rules | `(tactic| walk_at "c") => `(tactic| first
  | assumption
  | (refine closeB (by assumption) ?_; first | rfl | (simp_all; done) | (simp_all <;> omega)))
local macro_rules | `(tactic| walk_at "nc") => `(tactic| (walk_at "nb" <;> try walk_at "c"))
local macro_rules | `(tactic| walk_at "n1") => `(tactic| first
  | with_reducible refine wp_iOf ?_
  | with_reducible apply wp_some neT_tup
  | with_reducible refine ex_ent ?_
  | with_reducible refine ex_enl ?_
  | with_reducible refine ex_zpt ?_
  | with_reducible refine ex_zpl ?_)
local macro_rules | `(tactic| walk_at "q") => `(tactic| exact Int.natCast_pos.mpr (Nat.succ_pos _))
local macro_rules | `(tactic| walk_at "hg") => `(tactic| with_reducible exact St.k2 (by assumption))

section
variable {h : Hs} {X : XQ} {B k n : Nat}
theorem blks_put {ds : List D} {i : Nat} {x z : D} (e : ds[i]? = some x) : blks (ds.take i ++ [z] ++ ds.drop (i + 1)) + blk x = blks ds + blk z := by
  obtain ⟨hi, rfl⟩ := List.getElem?_eq_some_iff.mp e
  have e2 : blks ds = blks (ds.take i) + (blk ds[i] + 1 + blks (ds.drop (i + 1))) := by
    conv => lhs; rw [← List.take_append_drop i ds, blks_app, List.drop_eq_getElem_cons hi]
    rfl
  rw [blks_app, blks_app, e2]
  show blks (ds.take i) + (blk z + 1 + 0) + _ + _ = _
  omega
theorem with_wp {y : D} (ly : dn B y = true) (hn : n ≤ 40000) : ∀ (m : Nat) (is : List Nat) (d x : D) (Q : D → Hs → Prop), is.length < m → is.length ≤ 1000 → sub d is = some x → dn B d = true → blk d ≤ n →
    (∀ z, dn B z = true → dep z ≤ max (dep d) (is.length + dep y) → blk z ≤ blk d + blk y → Q z h) → Wp (r_with m [d, pathD is, y] h) Q X := by
  intro m
  induction m with
  | zero => intro is d x Q hm; omega
  | succ m ih =>
    intro is d x Q hm hi e dd bd c
    unfold r_with f_with
    refine wp_bodyE [some d, some (pathD is), some y, none] rfl ?_
    unfold pathD
    cases is with
    | nil =>
      walk_at "n"
      refine ⟨fun _ => ?_, fun z => nomatch z⟩
      walk_at "n"
      exact c y ly (by omega) (by omega)
    | cons i is =>
      obtain ⟨ds, x', rfl, e1, e2⟩ := sub_some e
      have hli : i < ds.length := (List.getElem?_eq_some_iff.mp e1).1
      have m1 := List.mem_of_getElem? e1
      have bl : ds.length ≤ blks ds := blks_len
      have bd : blks ds ≤ n := bd
      rw [List.map_cons]
      walk_at "n"
      refine ⟨(fun z => nomatch z), fun _ => ?_⟩
      walk_at "n"
      refine wp_some (ix_tup (d := D.int (i : Nat)) (atI_nat (by decide) rfl)) ?_
      walk_at "n"
      refine wp_some (ix_tup (d := x') (atI_nat (by omega) e1)) ?_
      walk_at "n"
      have b1 := blks_mem m1
      have ec : cutX (D.int (i : Nat) :: is.map fun i => D.int (i : Nat)) (some 1) none = is.map fun i => D.int (i : Nat) := cutX_from _ (by decide)
      rw [ec]
      have li : is.length + 1 = (i :: is).length := rfl
      refine ih is x' x _ (by omega) (by omega) e2 (dns_iff.mp dd x' m1) (by omega) fun z dz kz bz => ?_
      walk_at "n"
      rw [cutX_to ds (by omega), cutX_from ds (by omega), show ((i : Nat) : Int).toNat = i by omega, show (((i : Nat) : Int) + 1).toNat = i + 1 by omega]
      have hb := blks_put (z := z) e1
      have dd := dns_iff.mp dd
      have dx : dep x' + 1 ≤ dep (.tup ds) := Nat.succ_le_succ (deps_iff.mp (Nat.le_refl _) x' m1)
      refine wp_some (add_tup2 (us := ds.take i ++ [z]) (vs := ds.drop (i + 1)) (by rw [List.length_append, List.length_take]; show _ + 1 ≤ _; omega) (by rw [List.length_drop]; omega)) ?_
      refine c (.tup (ds.take i ++ [z] ++ ds.drop (i + 1))) (dns_iff.mpr fun w hw => ?_) ?_ ?_
      · rcases List.mem_append.mp hw with hw | hw
        · rcases List.mem_append.mp hw with hw | hw
          · exact dd w (List.mem_of_mem_take hw)
          · rw [List.mem_singleton.mp hw]; exact dz
        · exact dd w (List.mem_of_mem_drop hw)
      · have : deps (ds.take i ++ [z] ++ ds.drop (i + 1)) ≤ max (deps ds) (dep z) := by
          refine deps_iff.mpr fun w hw => ?_
          have dl := deps_iff.mp (Nat.le_refl (deps ds))
          rcases List.mem_append.mp hw with hw | hw
          · rcases List.mem_append.mp hw with hw | hw
            · have := dl w (List.mem_of_mem_take hw); omega
            · rw [List.mem_singleton.mp hw]; omega
          · have := dl w (List.mem_of_mem_drop hw); omega
        have e3 : dep (.tup ds) = deps ds + 1 := rfl
        show deps _ + 1 ≤ _
        omega
      · show blks _ ≤ blks ds + blk y
        omega
end
end G

/-! # G34: instances of the module's own classes -/
namespace G
open PySem PySem.Spec PyProof.Rows L2

/-- the address of the module's class c -/
def IsC (K : PySem.W.Frag) (c : Str) (C : Addr) : Prop := PySem.W.nsIn K mainGlobals c = some (some (.ref C))
theorem IsC.inj {K : PySem.W.Frag} {c : Str} {C C' : Addr} (a : IsC K c C) (b : IsC K c C') : C = C' := by
  unfold IsC at a b
  rw [a] at b; cases b; rfl
/-- an instance's class and attributes -/
def insOf (h : Hs) (d : D) : Option (Str × List (Str × D)) := match d with
  | .ins c ks ds => some (c, ks.zip ds)
  | .ref n => (match h[n]? with | some (.ins c kvs) => some (c, kvs) | _ => none)
  | _ => none
section
variable {K : PySem.W.Frag} {mg : Str → Option Value} {mu mu' : Mp} {H H' : Hp} {hs hs' : Hs} {d : D} {a : Addr} {v : V} {c : Str} {kvs : List (Str × D)}
theorem RKs.zipL {k : Type} : ∀ {ks : List k} {ds : List D} {vs : List V}, ks.length = ds.length → RDs K mu H ds vs → RKs K mu H (ks.zip ds) (ks.zip vs)
  | [], [], _, _, .nil => .nil
  | k :: ks, d :: ds, _, h, .cons r t => .cons r (RKs.zipL (by simpa using h) t)
theorem ins_at (S : Sim K mg mu hs H) (r : RD K mu H d v) (e : insOf hs d = some (c, kvs)) : ∃ a C dx vs, v = .ref a ∧ IsC K c C ∧ H a = some (.ins C dx vs) ∧ RKs K mu H kvs vs := by
  cases r with
  | ins g h z l rr =>
    cases e
    exact ⟨_, _, _, _, rfl, g, h, RKs.zipL l rr⟩
  | ref hn =>
    unfold insOf at e
    dsimp only at e
    split at e
    · rename_i c' k' hd
      cases e
      obtain ⟨u, e1, e2⟩ := S.at hn hd
      cases u <;> first
        | exact ⟨_, _, _, _, rfl, e2.1, e1, e2.2⟩
        | exact e2.elim
    · cases e
  | _ => cases e
end
/-! ### made -/
/-- a new instance, begun by init -/
def mkR (c : Str) (fn : List D → Hs → R D) (ds : List D) (hs : Hs) : R D := match fn ds (hs ++ [.ins c []]) with
  | .ok .non hs' => .ok (.ref hs.length) hs'
  | .ok _ _ => .bad
  | .exc c fs hs' => .exc c fs hs'
  | .bad => .bad
/-- C(e, .., k = ..) -/
def eMk (c : Str) (fn : List D → Hs → R D) (is : List Nat) (dds : List D) (fa fk : FA) : FE := fun e hs => (fa e hs).bind fun ds hs => (fk e hs).bind fun zs hs => mkR c fn (selL is (.ref hs.length :: ds) zs dds) hs
section
variable {X : Cx} {Wd : WX} {k n : Nat} {f C : Addr} {fd : FuncData} {ps ks : List Str} {fn : List D → Hs → R D} {dds : List D} {dvs : List V} {ds : List Value} {is : List Nat} {x c : Str} {p pos kpos : Pos} {e : Expr} {es : List Expr} {fa fk : FA} {kws : List Keyword}
theorem runMk {pins : List (Addr × Obj)} {σ : L2.St} {H : Hp} {s : Shared} {Q : VK} {us ws : List Value} {vs zs : List V} (M : Mk X.K C f) (hC : IsC X.K c C) (F : FnG X.prog X.w X.K X.mg X.base k f fd ps (spU X.K X.mg ps.length fn)) (hr : Room (k + 1) X.A) (hgd : X.A.guards = some []) (tk : Takes X Wd)
    (hb : BindK X.K fd ps (n + 1) ks is ds) (hd : Vals dvs ds) (hdd : ∀ mu H, RDs X.K mu H dds dvs) (I : Inv X pins σ H s) (r : Vals vs us) (rz : Vals zs ws) (hn : us.length = n) (hks : ws.length = ks.length)
    (h : ∃ mu hs es qs, Sim X.K X.mg mu hs H ∧ RDs X.K mu H es vs ∧ RDs X.K mu H qs zs ∧ (selL is (.ref hs.length :: es) qs dds).length = ps.length ∧ Gd (relD X.K) X.K X.mg Wd σ mu H Q (mkR c fn (selL is (.ref hs.length :: es) qs dds) hs)) :
    wpAny (model X.prog X.w) X.A (call (.ref C) us (ks.zip ws)) (EP X pins σ Q) X.xe s := by
  obtain ⟨mu, hs, es, qs, S, r1, r2, hl, g⟩ := h
  have hx := I.hok.fresh (Nat.le_succ s.heap.objs.size)
  have hdx := I.hok.fresh (Nat.le_refl s.heap.objs.size)
  have hne : s.heap.objs.size ≠ s.heap.objs.size + 1 := Nat.ne_of_lt (Nat.lt_succ_self _)
  have I2 := Inv.made (C := C) I
  have S1 := S.new (o := .own (s.heap.objs.size + 1)) hdx
  have hx1 : upd H s.heap.objs.size (.own (s.heap.objs.size + 1)) (s.heap.objs.size + 1) = none := by rw [upd_ne hne.symm]; exact hx
  have ro : RO X.K X.mg mu (upd H s.heap.objs.size (.own (s.heap.objs.size + 1))) (.ins c []) (.ins C s.heap.objs.size []) := ⟨hC, .nil⟩
  have S2 := S1.newOwn hx1 ro
  have l2 : Lat mu H (mu.own (s.heap.objs.size + 1)) (upd (upd H s.heap.objs.size (.own (s.heap.objs.size + 1))) (s.heap.objs.size + 1) (.ins C s.heap.objs.size [])) := (Lat.new hdx).trans (Lat.newOwn S1 hx1)
  have a2 := l2.agr S
  have hsp : spU X.K X.mg ps.length fn (selL is (.ref (s.heap.objs.size + 1) :: vs) zs dvs) (upd (upd H s.heap.objs.size (.own (s.heap.objs.size + 1))) (s.heap.objs.size + 1) (.ins C s.heap.objs.size [])) (fun v H2 => v = .non ∧ Q (.ref (s.heap.objs.size + 1)) H2) (WE Wd σ) := by
    refine ⟨_, _, _, S2, RDs.sel (.cons (.ref (getElem?_own S.len)) (RDs.agr a2 r1)) (RDs.agr a2 r2) (hdd _ _) is, hl, ?_⟩
    unfold mkR at g
    cases q : fn (selL is (.ref hs.length :: es) qs dds) (hs ++ [.ins c []]) with
    | ok d hs' =>
      rw [q] at g
      cases d with
      | non =>
        rintro mu' H' y l s' (_ | _)
        refine ⟨rfl, g mu' H' _ (l2.trans l) s' (.ref ?_)⟩
        obtain ⟨t, e2⟩ := l.pre
        rw [← e2, List.getElem?_append_left (by show _ < (mu.l ++ [_]).length; rw [List.length_append, S.len]; exact Nat.lt_succ_self _)]
        exact getElem?_own S.len
      | _ => exact g.elim
    | exc c fs hs' => rw [q] at g; exact fun mu' H' cls dx l s' rx => g mu' H' cls dx (l2.trans l) s' rx
    | bad => rw [q] at g; exact g.elim
  have rv : Vals (V.ref (s.heap.objs.size + 1) :: vs) (Value.ref (s.heap.objs.size + 1) :: us) := .cons rfl r
  refine wpAny_call (make_map (f := f) I.kIn M.makes M.init (beq_iff_eq.mp M.fn) (codeAny_mono (F.run _ X.stack _ _ ⟨Value.ref (s.heap.objs.size + 1) :: us, ks.zip ws⟩ (selL is (Value.ref (s.heap.objs.size + 1) :: us) ws ds) _ _ (WE Wd σ) (hr.make C us (ks.zip ws)) hgd
    (I2.env0.make C us (ks.zip ws)) (hb _ (Value.ref (s.heap.objs.size + 1) :: us) ws I2.kIn (by rw [List.length_cons, hn]) hks) (Vals.sel rv rz hd is) hsp) fun r s' hq' => ?_))
  cases r with
  | error e => exact passAt tk σ pins _ _ e s' I2 hq'
  | ok fl =>
    cases fl with
    | ret u =>
      obtain ⟨v, H', I3, rv', ev, q3⟩ := I2.after hq'
      subst ev
      exact ⟨rv', ⟨V.ref (s.heap.objs.size + 1), H', I3, rfl, q3⟩⟩
    | next => exact False.elim hq'
    | brk => exact False.elim hq'
    | cont => exact False.elim hq'
/-- what arguments and keywords gave, for a step that takes both -/
theorem tG_argsM {σ : L2.St} {H : Hp} {Q : VK} (h : tG (relD X.K) X.K X.mg Wd (eMk c fn is dds fa fk) σ H Q) :
    tG (relA X.K) X.K X.mg Wd fa σ H (fun vs H1 => tG (relA X.K) X.K X.mg Wd fk σ H1 (fun zs H2 => ∃ mu hs es qs, Sim X.K X.mg mu hs H2 ∧ RDs X.K mu H2 es vs ∧ RDs X.K mu H2 qs zs ∧ (∃ ev h0 h1, fa ev h0 = .ok es h1) ∧ (∃ ev h0 h1, fk ev h0 = .ok qs h1) ∧ Gd (relD X.K) X.K X.mg Wd σ mu H2 Q (mkR c fn (selL is (.ref hs.length :: es) qs dds) hs))) := by
  obtain ⟨ev, mu, hs, S, E, g⟩ := h
  refine ⟨ev, mu, hs, S, E, ?_⟩
  unfold eMk at g
  cases q : fa ev hs with
  | ok es hs1 =>
    rw [q] at g
    rw [R.bind_ok] at g
    intro mu1 H1 vs l1 S1 r1
    refine ⟨ev, mu1, hs1, S1, E.agr (l1.agr S), ?_⟩
    cases q2 : fk ev hs1 with
    | ok qs hs2 =>
      rw [q2] at g
      rw [R.bind_ok] at g
      exact fun mu2 H2 zs l2 S2 r2 => ⟨mu2, hs2, es, qs, S2, RDs.agr (l2.agr S1) r1, r2, ⟨ev, hs, _, q⟩, ⟨ev, hs1, _, q2⟩, Gd.later relD_ok (l1.trans l2) g⟩
    | exc c fs hs' => rw [q2] at g; exact fun mu' H' cls dx l s rr => g mu' H' cls dx (l1.trans l) s rr
    | bad => rw [q2] at g; exact g
  | exc c fs hs' => rw [q] at g; exact g
  | bad => rw [q] at g; exact g
variable {k' : Nat}
/-- all that a call by values, keywords and defaults of a class asks -/
theorem ue_mk (B : Bd X Wd k') (M : Mk X.K C f) (hC : IsC X.K c C) (F : FnG X.prog X.w X.K X.mg X.base k f fd ps (spU X.K X.mg ps.length fn)) (hr : k + 1 ≤ k') (hm : X.mg x = some (.ref C))
    (hb : BindK X.K fd ps ((e :: es).length + 1) ks is ds) (hd : Vals dvs ds) (hdd : ∀ mu H, RDs X.K mu H dds dvs) (ha : UA X Wd (e :: es) fa) (hkw : UK X Wd kws fk)
    (hla : ∀ ev hs qs hs', fa ev hs = .ok qs hs' → qs.length = (e :: es).length) (hlk : ∀ ev hs qs hs', fk ev hs = .ok qs hs' → qs.length = ks.length)
    (hi : is.all (fun i => decide (i < (e :: es).length + 1 + ks.length + dds.length)) = true := by decide) (hl : is.length = ps.length := by rfl) (hg : L2.Gl X x := by rfl)
    (hall : (backToKw pos (keywordEach kws X.env)).all (·.1.isSome) = true := by rfl) (hks : (backToKw pos (keywordEach kws X.env)).filterMap (·.1) = ks := by rfl)
    (hdb : (x == ("__debug__" : Str)) = false := by decide) (he : starEach (e :: es) X.env = (false, eval e X.env) :: starEach es X.env := by rfl)
    (hpl : ((backTo pos (starEach (e :: es) X.env)).any (·.1) || (backToKw pos (keywordEach kws X.env)).any (·.1.isNone)) = false := by rfl) :
    UE X Wd (.Call (.Name x p) (e :: es) kws pos) (eMk c fn is dds fa fk) := by
  refine ⟨fun pins s σ H Q I h => ?_⟩
  refine wpAny_Call_Name_kw (ld_glob I hg hm ?_ hdb)
  refine PySem.W.callWith_KW (h₀ := X.base) I.ok.mod.kin M.kp hall (thn (ha.run pos pins s σ H _ I (tG_argsM h)) fun us s1 ⟨vs, H1, I1, r, q⟩ => ?_) hpl he
  refine thn (hkw.run pos pins s1 σ H1 _ I1 q) fun ws s2 ⟨zs, H2, I2, rz, mu2, hs2, es2, qs2, S2, r1, r2, ⟨_, _, _, q1⟩, ⟨_, _, _, q2⟩, g2⟩ => ⟨I2.kIn, ?_⟩
  rw [hks]
  have z1 := hla _ _ _ _ q1
  have z2 := hlk _ _ _ _ q2
  exact runMk (us := us) (n := (e :: es).length) M hC F (B.room.mono hr) B.gd B.tk hb hd hdd I2 r rz (by rw [← r.length, ← r1.length, z1]) (by rw [← rz.length, ← r2.length, z2])
    ⟨mu2, hs2, es2, qs2, S2, r1, r2, by rw [selL_len _ _ _ _ (by rw [List.length_cons, z1, z2]; exact all_lt hi), hl], g2⟩
/-- C(k = ..), or C() -/
theorem ue_mk0 (B : Bd X Wd k') (M : Mk X.K C f) (hC : IsC X.K c C) (F : FnG X.prog X.w X.K X.mg X.base k f fd ps (spU X.K X.mg ps.length fn)) (hr : k + 1 ≤ k') (hm : X.mg x = some (.ref C))
    (hb : BindK X.K fd ps 1 ks is ds) (hd : Vals dvs ds) (hdd : ∀ mu H, RDs X.K mu H dds dvs) (hkw : UK X Wd kws fk)
    (hlk : ∀ ev hs qs hs', fk ev hs = .ok qs hs' → qs.length = ks.length)
    (hi : is.all (fun i => decide (i < 1 + ks.length + dds.length)) = true := by decide) (hl : is.length = ps.length := by rfl) (hg : L2.Gl X x := by rfl)
    (hall : (backToKw pos (keywordEach kws X.env)).all (·.1.isSome) = true := by rfl) (hks : (backToKw pos (keywordEach kws X.env)).filterMap (·.1) = ks := by rfl)
    (hdb : (x == ("__debug__" : Str)) = false := by decide) (hpl : ((backTo pos (starEach [] X.env)).any (·.1) || (backToKw pos (keywordEach kws X.env)).any (·.1.isNone)) = false := by rfl) :
    UE X Wd (.Call (.Name x p) [] kws pos) (eMk c fn is dds aNil fk) := by
  refine ⟨fun pins s σ H Q I h => ?_⟩
  refine wpAny_Call_Name_kw (ld_glob I hg hm ?_ hdb)
  obtain ⟨ev, mu, hs, S, E, g⟩ := tG_argsM h
  refine PySem.W.callWith_KW0 (h₀ := X.base) I.ok.mod.kin M.kp hall ?_ hpl
  refine thn (hkw.run pos pins s σ H _ I (g mu H [] .refl S .nil)) fun ws s2 ⟨zs, H2, I2, rz, mu2, hs2, es2, qs2, S2, r1, r2, ⟨_, _, _, q1⟩, ⟨_, _, _, q2⟩, g2⟩ => ⟨I2.kIn, ?_⟩
  rw [hks]
  have z2 := hlk _ _ _ _ q2
  cases r1
  exact runMk (us := []) (vs := []) (n := 0) M hC F (B.room.mono hr) B.gd B.tk hb hd hdd I2 .nil rz rfl (by rw [← rz.length, ← r2.length, z2])
    ⟨mu2, hs2, [], qs2, S2, .nil, r2, by rw [selL_len _ _ _ _ (by rw [z2]; exact all_lt hi), hl], g2⟩
end
/-! ### attributes -/
/-- e.f, of an instance of one of the classes cs -/
def gFld (cs : List Str) (f : Str) (h : Hs) (d : D) : Option D := match insOf h d with
  | some (c, kvs) => if cs.contains c then kvs.lookup f else none
  | none => none
/-- each of the classes cs lets its attribute f be -/
def Flds (K : PySem.W.Frag) (cs : List Str) (f : Str) : Prop := ∀ c ∈ cs, ∀ C, IsC K c C → L2.Cls K C ∧ NoAttr K C f
theorem Flds.one {K : PySem.W.Frag} {c f : Str} {C : Addr} (hC : IsC K c C) (a : L2.Cls K C) (b : NoAttr K C f) : Flds K [c] f := fun c' h C' h' => by
  rw [List.mem_singleton.mp h] at h'
  rw [h'.inj hC]
  exact ⟨a, b⟩
theorem contains_mem {cs : List Str} {c : Str} (h : cs.contains c = true) : c ∈ cs := by simpa using h
section
variable {X : Cx} {Wd : WX} {o e value : Expr} {f : Str} {pos pos' : Pos} {fe fv : FE} {cs : List Str}
theorem ue_fld (F : Flds X.K cs f) (he : UE X Wd e fe) (hb : attributeBase e f X.env (eval e X.env) = eval e X.env := by rfl) : UE X Wd (.Attribute e f pos) (eUn (gFld cs f) fe) := by
  refine PE.imp (pe_fld he hb) fun σ H Q h => ?_
  obtain ⟨ev, mu, hs, S, E, q⟩ := tG_seq (r := relD X.K) relD_ok h
  refine ⟨ev, mu, hs, S, E, q.imp fun x H1 ⟨e, mu1, hs1, d, S1, E1, r1, g1⟩ => ?_⟩
  unfold gFld at g1
  cases z : insOf hs1 d with
  | none => rw [z] at g1; exact g1.elim
  | some p =>
    obtain ⟨c, kvs⟩ := p
    rw [z] at g1
    dsimp only at g1
    by_cases hc : cs.contains c = true
    · rw [if_pos hc] at g1
      obtain ⟨a, C, dx, vs, rfl, hC, ha, rk⟩ := ins_at S1 r1 z
      obtain ⟨c1, c2⟩ := F c (contains_mem hc) C hC
      cases q2 : kvs.lookup f with
      | none => rw [q2] at g1; exact g1.elim
      | some w =>
        rw [q2] at g1
        obtain ⟨u, h1, h2⟩ := RKs.lookup rk q2
        exact ⟨a, C, dx, vs, u, rfl, ha, c1, c2, h1, g1 mu1 H1 u .refl S1 h2⟩
    · rw [if_neg hc] at g1; exact g1.elim
end
/-- an attribute put -/
def putD (f : Str) (v : D) : List (Str × D) → List (Str × D)
  | [] => [(f, v)]
  | (g, x) :: r => if g = f then (g, v) :: r else (g, x) :: putD f v r
theorem RKs.putF {K : PySem.W.Frag} {mu : Mp} {H : Hp} {f : Str} {d : D} {v : V} (r : RD K mu H d v) : ∀ {kvs : List (Str × D)} {vs : List (Str × V)}, RKs K mu H kvs vs → RKs K mu H (putD f d kvs) (L2.putF f v vs)
  | _, _, .nil => .cons r .nil
  | _, _, .cons (x := g) q t => by
    show RKs K mu H (if g = f then _ else _) (if g = f then _ else _)
    by_cases h : g = f
    · rw [if_pos h, if_pos h]; exact .cons r t
    · rw [if_neg h, if_neg h]; exact .cons q (RKs.putF r t)
/-- e.f = value -/
def sFld (cs : List Str) (f : Str) (fv fo : FE) : FS := sBind fv fun v => sBind fo fun o e hs => match o with
  | .ref n => (match hs[n]? with
    | some (.ins c kvs) => if cs.contains c = true ∧ kvs.length < 1000 then .nx e (hs.set n (.ins c (putD f v kvs))) else .bad
    | _ => .bad)
  | _ => .bad
section
variable {X : Cx} {Wd : WX} {o value : Expr} {f : Str} {pos pos' : Pos} {fo fv : FE} {cs : List Str}
theorem us_fld (F : Flds X.K cs f) (ho : UE X Wd o fo) (hv : UE X Wd value fv) (hs : swapsWith value (some (.Attribute o f pos')) pos.line X.env = pure false := by rfl) : US X Wd (.Assign [.Attribute o f pos'] value pos) (sFld cs f fv fo) := by
  refine PS.imp (ps_fld ho hv hs) fun D σ H h => ?_
  obtain ⟨e, mu, hs, S, E, q⟩ := tS_bind (r := relD X.K) h
  refine ⟨e, mu, hs, S, E, q.imp fun x H1 ⟨e, mu1, hs1, d, S1, E1, r1, g1⟩ => ?_⟩
  refine ⟨e, mu1, hs1, S1, E1, ?_⟩
  unfold sBind at g1
  cases q2 : fo e hs1 with
  | bad => rw [q2] at g1; exact g1.elim
  | exc c fs hs' => rw [q2] at g1; exact fun mu' H' cls dx l s rx => g1 mu' H' σ cls dx l s (E1.agr (l.agr S1)) rx
  | ok o2 hs2 =>
    rw [q2] at g1
    intro mu2 H2 y l2 S2 r2
    dsimp only at g1
    cases r2 with
    | ref hn =>
      dsimp only at g1
      split at g1
      · rename_i c kvs hd
        split at g1
        · rename_i hc
          obtain ⟨u, e1, e2⟩ := S2.at hn hd
          cases u <;> first
            | (rename_i C dx vs
               obtain ⟨c1, c2⟩ := F c (contains_mem hc.1) C e2.1
               have rk : RKs X.K mu2 H2 kvs vs := e2.2
               refine ⟨_, C, dx, vs, rfl, e1, c1, c2, by rw [← rk.length]; exact hc.2, ?_⟩
               have w := RKs.putF (f := f) (RD.agr (l2.agr S1) r1) rk
               have lw : Lat mu2 H2 mu2 (upd H2 _ (.ins C dx (L2.putF f x vs))) := .write hn
               exact g1 mu2 _ σ (l2.trans lw) (S2.write hn ⟨e2.1, w⟩) ((E1.agr (l2.agr S1)).agr (lw.agr S2)))
            | exact e2.elim
        · exact g1.elim
      · exact g1.elim
    | _ => exact g1.elim
end
/-! ### methods -/
/-- o.m(e, .., k = ..), o an instance of c -/
def eMth (c m : Str) (fn : List D → Hs → R D) (is : List Nat) (dds : List D) (fo : FE) (fa fk : FA) : FE := fun e hs => (fo e hs).bind fun o hs => match insOf hs o with
  | some (c', kvs) => if c' = c ∧ kvs.lookup m = none then (fa e hs).bind fun ds hs => (fk e hs).bind fun zs hs => fn (selL is (o :: ds) zs dds) hs else .bad
  | none => .bad
section
variable {X : Cx} {Wd : WX} {k k' n : Nat} {f C : Addr} {fd : FuncData} {ps ks : List Str} {fn : List D → Hs → R D} {dds : List D} {dvs : List V} {ds : List Value} {is : List Nat} {m c : Str} {apos pos kpos : Pos} {o e : Expr} {es : List Expr} {fo : FE} {fa fk : FA} {kws : List Keyword}
/-- what receiver, arguments and keywords gave -/
theorem tG_argsO {σ : L2.St} {H : Hp} {Q : VK} (h : tG (relD X.K) X.K X.mg Wd (eMth c m fn is dds fo fa fk) σ H Q) :
    tG (relD X.K) X.K X.mg Wd fo σ H (fun x H0 => ∃ a C dx us, x = .ref a ∧ IsC X.K c C ∧ H0 a = some (.ins C dx us) ∧ us.lookup m = none ∧
      tG (relA X.K) X.K X.mg Wd fa σ H0 (fun vs H1 => tG (relA X.K) X.K X.mg Wd fk σ H1 (fun zs H2 => ∃ mu hs d es qs, Sim X.K X.mg mu hs H2 ∧ RD X.K mu H2 d x ∧ RDs X.K mu H2 es vs ∧ RDs X.K mu H2 qs zs ∧ (∃ ev h0 h1, fa ev h0 = .ok es h1) ∧ (∃ ev h0 h1, fk ev h0 = .ok qs h1) ∧ Gd (relD X.K) X.K X.mg Wd σ mu H2 Q (fn (selL is (d :: es) qs dds) hs)))) := by
  obtain ⟨ev, mu, hs, S, E, g⟩ := h
  refine ⟨ev, mu, hs, S, E, ?_⟩
  unfold eMth at g
  cases q0 : fo ev hs with
  | bad => rw [q0] at g; exact g
  | exc c fs hs' => rw [q0] at g; exact g
  | ok d hs0 =>
    rw [q0] at g
    rw [R.bind_ok] at g
    intro mu0 H0 x l0 S0 r0
    split at g
    · rename_i c' kvs hi
      split at g
      · rename_i hc
        obtain ⟨a, C, dx, us, rfl, hC, ha, rk⟩ := ins_at S0 r0 hi
        obtain ⟨rfl, hl⟩ := hc
        refine ⟨a, C, dx, us, rfl, hC, ha, RKs.lookup_none rk hl, ?_⟩
        refine ⟨ev, mu0, hs0, S0, E.agr (l0.agr S), ?_⟩
        cases q : fa ev hs0 with
        | ok es hs1 =>
          rw [q] at g
          rw [R.bind_ok] at g
          intro mu1 H1 vs l1 S1 r1
          refine ⟨ev, mu1, hs1, S1, E.agr ((l0.trans l1).agr S), ?_⟩
          cases q2 : fk ev hs1 with
          | ok qs hs2 =>
            rw [q2] at g
            rw [R.bind_ok] at g
            exact fun mu2 H2 zs l2 S2 r2 => ⟨mu2, hs2, d, es, qs, S2, RD.agr ((l1.trans l2).agr S0) r0, RDs.agr (l2.agr S1) r1, r2, ⟨ev, hs0, _, q⟩, ⟨ev, hs1, _, q2⟩, Gd.later relD_ok ((l0.trans l1).trans l2) g⟩
          | exc c fs hs' => rw [q2] at g; exact fun mu' H' cls dx l s rr => g mu' H' cls dx ((l0.trans l1).trans l) s rr
          | bad => rw [q2] at g; exact g
        | exc c fs hs' => rw [q] at g; exact fun mu' H' cls dx l s rr => g mu' H' cls dx (l0.trans l) s rr
        | bad => rw [q] at g; exact g
      · exact g.elim
    · exact g.elim
/-- what a method call asks of the class -/
structure MthK (K : PySem.W.Frag) (c : Str) (C : Addr) (m : Str) (f : Addr) : Prop where
  isC : IsC K c C
  cls : L2.Cls K C
  mth : Meth K C m f
theorem ue_mth {pl : Sem Bool} (B : Bd X Wd k') (M : MthK X.K c C m f) (F : FnG X.prog X.w X.K X.mg X.base k f fd ps (spU X.K X.mg ps.length fn)) (hr : k ≤ k')
    (hb : BindK X.K fd ps ((e :: es).length + 1) ks is ds) (hd : Vals dvs ds) (hdd : ∀ mu H, RDs X.K mu H dds dvs) (ho : UE X Wd o fo) (ha : UA X Wd (e :: es) fa) (hkw : UK X Wd kws fk)
    (hla : ∀ ev hs qs hs', fa ev hs = .ok qs hs' → qs.length = (e :: es).length) (hlk : ∀ ev hs qs hs', fk ev hs = .ok qs hs' → qs.length = ks.length)
    (hi : is.all (fun i => decide (i < (e :: es).length + 1 + ks.length + dds.length)) = true := by decide) (hl : is.length = ps.length := by rfl)
    (hall : (backToKw pos (keywordEach kws X.env)).all (·.1.isSome) = true := by rfl) (hks : (backToKw pos (keywordEach kws X.env)).filterMap (·.1) = ks := by rfl)
    (he : starEach (e :: es) X.env = (false, eval e X.env) :: starEach es X.env := by rfl)
    (hpl : ((backTo pos (starEach (e :: es) X.env)).any (·.1) || (backToKw pos (keywordEach kws X.env)).any (·.1.isNone)) = false := by rfl)
    (ht : eval (.Call (.Attribute o m apos) (e :: es) kws pos) X.env = (do
      let ov ← eval o X.env
      standAt apos.atName
      let (f, first) ← holding [ov] (getMethod ov m pl)
      callWith pos f first (backTo pos (starEach (e :: es) X.env)) (backToKw pos (keywordEach kws X.env))) := by rfl) :
    UE X Wd (.Call (.Attribute o m apos) (e :: es) kws pos) (eMth c m fn is dds fo fa fk) := by
  refine ⟨fun pins s σ H Q I h => ?_⟩
  refine PySem.W.methodCall_KW (pl := pl) (thn (ho.run pins s σ H _ I (tG_argsO h)) fun u s1 ⟨x, H1, I1, rx, a, C', dx, us, ex, hC, ea, l, q⟩ => ?_) ht
  subst ex
  obtain rfl : u = Value.ref a := rx
  cases M.isC.inj hC
  refine getmeth_ok I1 ea M.cls M.mth l ?_
  refine PySem.W.callWith_KW (first := [.ref a]) (h₀ := X.base) I.ok.mod.kin M.mth.kp hall (thn (ha.run pos pins s1 σ H1 _ I1 q) fun us s2 ⟨vs, H2, I2, r, q2⟩ => ?_) hpl he
  refine thn (hkw.run pos pins s2 σ H2 _ I2 q2) fun ws s3 ⟨zs, H3, I3, rz, mu3, hs3, d3, es3, qs3, S3, rd3, r1, r2, ⟨_, _, _, q1⟩, ⟨_, _, _, q2⟩, g2⟩ => ⟨I3.kIn, ?_⟩
  rw [hks]
  have z1 := hla _ _ _ _ q1
  have z2 := hlk _ _ _ _ q2
  exact runG (us := .ref a :: us) (vs := .ref a :: vs) F (B.room.mono hr) B.gd B.tk hb hd hdd I3 (.cons rfl r) rz (by rw [List.length_cons, ← r.length, ← r1.length, z1]) (by rw [← rz.length, ← r2.length, z2])
    ⟨mu3, hs3, d3 :: es3, qs3, S3, .cons rd3 r1, r2, by rw [selL_len _ _ _ _ (by rw [List.length_cons, z1, z2]; exact all_lt hi), hl], g2⟩
theorem ue_mth0 {pl : Sem Bool} (B : Bd X Wd k') (M : MthK X.K c C m f) (F : FnG X.prog X.w X.K X.mg X.base k f fd ps (spU X.K X.mg ps.length fn)) (hr : k ≤ k')
    (hb : BindK X.K fd ps 1 ks is ds) (hd : Vals dvs ds) (hdd : ∀ mu H, RDs X.K mu H dds dvs) (ho : UE X Wd o fo) (hkw : UK X Wd kws fk)
    (hlk : ∀ ev hs qs hs', fk ev hs = .ok qs hs' → qs.length = ks.length)
    (hi : is.all (fun i => decide (i < 1 + ks.length + dds.length)) = true := by decide) (hl : is.length = ps.length := by rfl)
    (hall : (backToKw pos (keywordEach kws X.env)).all (·.1.isSome) = true := by rfl) (hks : (backToKw pos (keywordEach kws X.env)).filterMap (·.1) = ks := by rfl)
    (hpl : ((backTo pos (starEach [] X.env)).any (·.1) || (backToKw pos (keywordEach kws X.env)).any (·.1.isNone)) = false := by rfl)
    (ht : eval (.Call (.Attribute o m apos) [] kws pos) X.env = (do
      let ov ← eval o X.env
      standAt apos.atName
      let (f, first) ← holding [ov] (getMethod ov m pl)
      callWith pos f first (backTo pos (starEach [] X.env)) (backToKw pos (keywordEach kws X.env))) := by rfl) :
    UE X Wd (.Call (.Attribute o m apos) [] kws pos) (eMth c m fn is dds fo aNil fk) := by
  refine ⟨fun pins s σ H Q I h => ?_⟩
  refine PySem.W.methodCall_KW (pl := pl) (thn (ho.run pins s σ H _ I (tG_argsO h)) fun u s1 ⟨x, H1, I1, rx, a, C', dx, us, ex, hC, ea, l, q⟩ => ?_) ht
  subst ex
  obtain rfl : u = Value.ref a := rx
  cases M.isC.inj hC
  refine getmeth_ok I1 ea M.cls M.mth l ?_
  obtain ⟨ev, mu, hs, S, E, g⟩ := q
  refine PySem.W.callWith_KW0 (first := [.ref a]) (h₀ := X.base) I.ok.mod.kin M.mth.kp hall ?_ hpl
  refine thn (hkw.run pos pins s1 σ H1 _ I1 (g mu H1 [] .refl S .nil)) fun ws s3 ⟨zs, H3, I3, rz, mu3, hs3, d3, es3, qs3, S3, rd3, r1, r2, ⟨_, _, _, q1⟩, ⟨_, _, _, q2⟩, g2⟩ => ⟨I3.kIn, ?_⟩
  rw [hks]
  have z2 := hlk _ _ _ _ q2
  cases r1
  exact runG (us := [.ref a]) (vs := [.ref a]) F (B.room.mono hr) B.gd B.tk hb hd hdd I3 (.cons rfl .nil) rz rfl (by rw [← rz.length, ← r2.length, z2])
    ⟨mu3, hs3, [d3], qs3, S3, .cons rd3 .nil, r2, by rw [selL_len _ _ _ _ (by rw [z2]; exact all_lt hi), hl], g2⟩
end
end G

/-! # G35: str, repr, len of own instances; f-strings -/
namespace G
open PySem PySem.Spec PyProof.Rows L2

section
variable {X : Cx} {k : Nat} {f C : Addr} {fd : FuncData} {ps : List Str} {fn : List D → Hs → R D} {c : Str} {pins : List (Addr × Obj)} {σ : L2.St} {s : Shared} {H : Hp} {mu : Mp} {hs hs' : Hs}
/-- a def that ends well, run somewhere below -/
theorem runO {A' : Around} {us : List Value} {vs : List V} {es : List D} {w : D} {Q : VK} (F : FnG X.prog X.w X.K X.mg X.base k f fd ps (spU X.K X.mg ps.length fn)) (hr : Room k A') (hgd : A'.guards = some []) (hfr : A'.frames = X.A.frames)
    (hb : BindsTo s fd ⟨us, []⟩ (ps.zip us)) (I : Inv X pins σ H s) (r : Vals vs us) (S : Sim X.K X.mg mu hs H) (rd : RDs X.K mu H es vs) (hl : es.length = ps.length) (e : fn es hs = .ok w hs')
    (q : ∀ mu' H' y, Lat mu H mu' H' → Sim X.K X.mg mu' hs' H' → RD X.K mu' H' w y → Q y H') : wpAny (model X.prog X.w) A' (call (.ref f) us) (EP X pins σ Q) X.xe s := by
  have hsp : spU X.K X.mg ps.length fn vs H Q (fun _ _ _ => False) := by
    refine ⟨mu, hs, es, S, rd, hl, ?_⟩
    rw [e]
    exact q
  have e0 : Env0 X.prog X.w X.K X.mg X.base A' X.stack s H := by
    have e := I.env0
    exact ⟨by rw [hfr]; exact e.frames, e.mod, e.bs, e.bsz, e.funs, e.frf, e.hok, e.bare⟩
  refine wpAny_call (codeAny_mono (F.run A' X.stack s H ⟨us, []⟩ us vs Q (fun _ _ _ => False) hr hgd e0 hb r hsp) fun rr s' hq => ?_)
  cases rr with
  | error x =>
    obtain ⟨_, _, _, _, _, _, _, _, _, _, _, _, z⟩ := hq
    exact z.elim
  | ok fl =>
    cases fl with
    | ret u => exact I.after hq
    | _ => exact False.elim hq
/-- what str, repr, len ask of a class -/
structure SpK (K : PySem.W.Frag) (c : Str) (C : Addr) (nm : Str) (f : Addr) : Prop where
  isC : IsC K c C
  at_ : PySem.W.findIn K (.ref C) nm = some (some (.ref f))
  fn : PySem.W.isFn K (.ref f) = true
/-- an own method of one argument that ends well -/
def gOwn (c : Str) (fn : List D → Hs → R D) (chk : D → Bool) (hs : Hs) (ds : List D) : Option (D × Hs) := match ds with
  | [d] => (match insOf hs d with
    | some (c', _) => if c' = c then (match fn [d] hs with | .ok w hs' => if chk w = true then some (w, hs') else none | _ => none) else none
    | none => none)
  | _ => none
def eOwn (g : Hs → List D → Option (D × Hs)) (fa : FA) : FE := fun e hs => (fa e hs).bind fun ds hs => R.ofP (g hs ds)
def isStrD : D → Bool
  | .str _ => true
  | _ => false
def isLenD : D → Bool
  | .int i => decide (0 ≤ i) && decide (i < 2 ^ 63)
  | _ => false
/-- a call of a built-in with one instance -/
def rOwn (K : PySem.W.Frag) (mg : Str → Option Value) (c : Str) (fn : List D → Hs → R D) (chk : D → Bool) : List V → Hp → VK → Prop := fun xs H Q =>
  ∃ mu hs ds w hs', Sim K mg mu hs H ∧ RDs K mu H ds xs ∧ gOwn c fn chk hs ds = some (w, hs') ∧ ∀ mu' H' y, Lat mu H mu' H' → Sim K mg mu' hs' H' → RD K mu' H' w y → Q y H'
theorem gOwn_at {ds : List D} {w : D} {chk : D → Bool} (e : gOwn c fn chk hs ds = some (w, hs')) : ∃ d kvs, ds = [d] ∧ insOf hs d = some (c, kvs) ∧ fn [d] hs = .ok w hs' ∧ chk w = true := by
  unfold gOwn at e
  split at e
  · rename_i d
    split at e
    · rename_i c' kvs hi
      split at e
      · rename_i hc
        subst hc
        split at e
        · rename_i w' h' hf
          split at e
          · rename_i hk
            cases e
            exact ⟨d, kvs, rfl, hi, hf, hk⟩
          · cases e
        · cases e
      · cases e
    · cases e
  · cases e
theorem tG_own {Wd : WX} {fa : FA} {chk : D → Bool} {Q : VK} (h : tG (relD X.K) X.K X.mg Wd (eOwn (gOwn c fn chk) fa) σ H Q) : tG (relA X.K) X.K X.mg Wd fa σ H (fun xs H1 => rOwn X.K X.mg c fn chk xs H1 Q) := by
  obtain ⟨e, mu, hs, S, E, q⟩ := tG_seq (r := relA X.K) relD_ok h
  refine ⟨e, mu, hs, S, E, q.imp fun x H1 ⟨e, mu1, hs1, ds, S1, E1, r1, g1⟩ => ?_⟩
  cases z : gOwn c fn chk hs1 ds with
  | none => rw [z] at g1; exact g1.elim
  | some p =>
    obtain ⟨w, hs'⟩ := p
    rw [z] at g1
    exact ⟨mu1, hs1, ds, w, hs', S1, r1, z, g1⟩
theorem bind1 {is : List Nat} (hb : BindK X.K fd ps 1 [] [0] []) {u : Value} (kin : X.K.In s.heap) : BindsTo s fd ⟨[u], []⟩ (ps.zip [u]) := hb s [u] [] kin rfl rfl
theorem bind2 (hb : BindK X.K fd ps 2 [] [0, 1] []) {u v : Value} (kin : X.K.In s.heap) : BindsTo s fd ⟨[u, v], []⟩ (ps.zip [u, v]) := hb s [u, v] [] kin rfl rfl
theorem in1_guards {A : Around} : A.in1.guards = A.guards := rfl
theorem in1_frames {A : Around} : A.in1.frames = A.frames := rfl
/-- an instance as the library sees it -/
theorem inst_at {a dx : Addr} {us : List (Str × V)} (I : Inv X pins σ H s) (e : H a = some (.ins C dx us)) : ∃ ox od, PySem.W.InstAt s.heap a ox C od := by
  obtain ⟨mA, J, _⟩ := ins_get I.hok e
  obtain ⟨od, J, _⟩ := J.look
  exact ⟨_, _, J⟩
theorem cr_str (M : SpK X.K c C "__str__" f) (F : FnG X.prog X.w X.K X.mg X.base k f fd ps (spU X.K X.mg ps.length fn)) (hr : Room (k + 2) X.A) (hgd : X.A.guards = some []) (hb : BindK X.K fd ps 1 [] [0] []) (hl : ps.length = 1) : CallR X (.type "str") (rOwn X.K X.mg c fn isStrD) := by
  rintro pins s σ H xs us Q I r ⟨mu, hs, ds, w, hs', S, rd, e, q⟩
  obtain ⟨d, kvs, rfl, hi, hf, hk⟩ := gOwn_at e
  cases rd with
  | cons r1 r2 =>
    cases r2
    obtain ⟨a, C', dx, vs, rfl, hC, ha, _⟩ := ins_at S r1 hi
    cases M.isC.inj hC
    cases r with
    | cons ru rr =>
      cases rr
      cases ru
      obtain ⟨ox, od, J⟩ := inst_at I ha
      have hr2 : Room k X.A.in1.in1 := hr.in1.in1
      refine PySem.W.kso_call hr2.units0 I.kIn J M.at_ M.fn (wpAny_mono (runO (us := [.ref a]) (vs := [.ref a]) F hr2 hgd rfl (bind1 (is := [0]) hb I.kIn) I (.cons rfl .nil) S (.cons r1 .nil) hl.symm hf (Q := fun y H' => (∃ z, y = .str z) ∧ Q y H') fun mu' H' y l s' ry => ⟨?_, q mu' H' y l s' ry⟩) (fun u s' z => ?_) fun _ _ z => z)
      · cases w <;> first
          | (cases ry; exact ⟨_, rfl⟩)
          | exact absurd hk Bool.false_ne_true
      · obtain ⟨v, H', I', rv, ⟨z, rfl⟩, qv⟩ := z
        obtain ⟨t, rfl⟩ := rv
        exact ⟨.str z, H', I', ⟨t, rfl⟩, qv⟩
theorem cr_repr (M : SpK X.K c C "__repr__" f) (F : FnG X.prog X.w X.K X.mg X.base k f fd ps (spU X.K X.mg ps.length fn)) (hr : Room (k + 1) X.A) (hgd : X.A.guards = some []) (hb : BindK X.K fd ps 1 [] [0] []) (hl : ps.length = 1) : CallR X (.builtin "repr") (rOwn X.K X.mg c fn isStrD) := by
  rintro pins s σ H xs us Q I r ⟨mu, hs, ds, w, hs', S, rd, e, q⟩
  obtain ⟨d, kvs, rfl, hi, hf, hk⟩ := gOwn_at e
  cases rd with
  | cons r1 r2 =>
    cases r2
    obtain ⟨a, C', dx, vs, rfl, hC, ha, _⟩ := ins_at S r1 hi
    cases M.isC.inj hC
    cases r with
    | cons ru rr =>
      cases rr
      cases ru
      obtain ⟨ox, od, J⟩ := inst_at I ha
      have hr2 : Room k X.A.in1 := hr.in1
      have run := runO (us := [.ref a]) (vs := [.ref a]) F hr2 hgd rfl (bind1 (is := [0]) hb I.kIn) I (.cons rfl .nil) S (.cons r1 .nil) hl.symm hf (Q := fun y H' => (∃ z, y = .str z) ∧ Q y H') fun mu' H' y l s' ry => ⟨by
        cases w <;> first
          | (cases ry; exact ⟨_, rfl⟩)
          | exact absurd hk Bool.false_ne_true, q mu' H' y l s' ry⟩
      refine Calls.call_function_entry PySem.F.kind_repr PySem.F.plain_repr PySem.F.entry_repr (PySem.F.args_repr1 _) ?_
      unfold Builtin.«repr»
      refine wpAny_bind (m := oneArg "repr" _) (wpAny_pure ?_)
      refine wpAny_bind (wpAny_cRoomFor hr2.units0 ?_)
      refine wpAny_bind (wpAny_bind (J.type.here ((PySem.W.looks_findIn I.kIn M.at_).here ?_)))
      show wpAny _ _ (if (some (Value.ref f)).isNone = true then _ else _) _ _ _
      rw [if_neg (by simp)]
      refine wpAny_bind (m := callSpecialIfBound? (.ref a) (Str.ofString "__repr__") _) (PySem.W.ifBound_K I.kIn J M.at_ M.fn (wpAny_mono run (fun r s' hr => ?_) fun _ _ y => y))
      obtain ⟨v, H', I', rv, ⟨z, rfl⟩, qv⟩ := hr
      obtain ⟨t, rfl⟩ := rv
      refine wpAny_bind (wpAny_isInstance (typeIs_str _ _ _) isSubtype_str_str ?_)
      first
        | exact wpAny_pure ⟨_, rfl, .str z, H', I', ⟨t, rfl⟩, qv⟩
        | (rw [if_pos rfl]; exact wpAny_pure ⟨_, rfl, .str z, H', I', ⟨t, rfl⟩, qv⟩)
        | (simp only [if_true]; exact wpAny_pure ⟨_, rfl, .str z, H', I', ⟨t, rfl⟩, qv⟩)
theorem cr_len (M : SpK X.K c C "__len__" f) (F : FnG X.prog X.w X.K X.mg X.base k f fd ps (spU X.K X.mg ps.length fn)) (hr : Room (k + 1) X.A) (hgd : X.A.guards = some []) (hb : BindK X.K fd ps 1 [] [0] []) (hl : ps.length = 1) : CallR X (.builtin "len") (rOwn X.K X.mg c fn isLenD) := by
  rintro pins s σ H xs us Q I r ⟨mu, hs, ds, w, hs', S, rd, e, q⟩
  obtain ⟨d, kvs, rfl, hi, hf, hk⟩ := gOwn_at e
  cases rd with
  | cons r1 r2 =>
    cases r2
    obtain ⟨a, C', dx, vs, rfl, hC, ha, _⟩ := ins_at S r1 hi
    cases M.isC.inj hC
    cases r with
    | cons ru rr =>
      cases rr
      cases ru
      obtain ⟨ox, od, J⟩ := inst_at I ha
      have hr2 : Room k X.A.in1 := hr.in1
      have run := runO (us := [.ref a]) (vs := [.ref a]) F hr2 hgd rfl (bind1 (is := [0]) hb I.kIn) I (.cons rfl .nil) S (.cons r1 .nil) hl.symm hf (Q := fun y H' => (∃ z : Int, y = .int z ∧ 0 ≤ z ∧ z < 2 ^ 63) ∧ Q y H') fun mu' H' y l s' ry => ⟨by
        cases w <;> first
          | (cases ry
             have hk := (Bool.and_eq_true _ _).mp (show (decide _ && decide _) = true from hk)
             exact ⟨_, rfl, of_decide_eq_true hk.1, of_decide_eq_true hk.2⟩)
          | exact absurd hk Bool.false_ne_true, q mu' H' y l s' ry⟩
      refine Calls.call_function_entry kind_len plain_len entry_len (args_len1 _) ?_
      unfold Builtin.«len»
      refine wpAny_bind (m := oneArg "len" _) (wpAny_pure ?_)
      refine wpAny_bind (m := callSpecial? (.ref a) (Str.ofString "__len__")) (PySem.W.special_fn I.kIn J M.at_ (beq_iff_eq.mp M.fn) (wpAny_mono run (fun r s' hr => ?_) fun _ _ y => y))
      obtain ⟨v, H', I', rv, ⟨n, rfl, h0, h1⟩, qv⟩ := hr
      obtain ⟨t, rfl⟩ := rv
      refine wpAny_bind (wpAny_holding (wpAny_pure ?_))
      refine wpAny_bind (wpAny_letGo ?_)
      show wpAny _ _ (if n < 0 then _ else _) _ _ _
      rw [if_neg (by omega)]
      show wpAny _ _ (if n ≥ 2 ^ 63 then _ else _) _ _ _
      rw [if_neg (by omega)]
      exact wpAny_bind (wpAny_mkInt (wpAny_pure ⟨_, rfl, .int n, H', I'.tok _, ⟨_, rfl⟩, qv⟩))
end
section
variable {X : Cx} {Wd : WX} {k k' : Nat} {f C : Addr} {fd : FuncData} {ps : List Str} {fn : List D → Hs → R D} {c : Str} {e : Expr} {es : List Expr} {fa : FA} {p pos : Pos}
theorem ue_ostr (B : Bd X Wd k') (M : SpK X.K c C "__str__" f) (F : FnG X.prog X.w X.K X.mg X.base k f fd ps (spU X.K X.mg ps.length fn)) (hr : k + 2 ≤ k') (hb : BindK X.K fd ps 1 [] [0] []) (hm : X.mg "str" = none) (ha : UA X Wd (e :: es) fa) (hl : ps.length = 1 := by rfl) (hg : L2.Gl X "str" := by rfl)
    (he : starEach (e :: es) X.env = (false, eval e X.env) :: starEach es X.env := by rfl) (hpl : (backTo pos (starEach es X.env)).any (·.1) = false := by rfl) : UE X Wd (.Call (.Name "str" p) (e :: es) [] pos) (eOwn (gOwn c fn isStrD) fa) :=
  PE.imp (pe_callTy (cr_str M F (B.room.mono hr) B.gd hb hl) hg hm PyProof.Rows.boot_str ha (by decide) (by decide) he hpl) fun _ _ _ h => tG_own h
theorem ue_orepr (B : Bd X Wd k') (M : SpK X.K c C "__repr__" f) (F : FnG X.prog X.w X.K X.mg X.base k f fd ps (spU X.K X.mg ps.length fn)) (hr : k + 1 ≤ k') (hb : BindK X.K fd ps 1 [] [0] []) (hm : X.mg "repr" = none) (ha : UA X Wd (e :: es) fa) (hl : ps.length = 1 := by rfl) (hg : L2.Gl X "repr" := by rfl)
    (he : starEach (e :: es) X.env = (false, eval e X.env) :: starEach es X.env := by rfl) (hpl : (backTo pos (starEach es X.env)).any (·.1) = false := by rfl) : UE X Wd (.Call (.Name "repr" p) (e :: es) [] pos) (eOwn (gOwn c fn isStrD) fa) :=
  PE.imp (pe_callB (cr_repr M F (B.room.mono hr) B.gd hb hl) hg hm boot_repr ha (by decide) (by decide) he hpl) fun _ _ _ h => tG_own h
theorem ue_olen (B : Bd X Wd k') (M : SpK X.K c C "__len__" f) (F : FnG X.prog X.w X.K X.mg X.base k f fd ps (spU X.K X.mg ps.length fn)) (hr : k + 1 ≤ k') (hb : BindK X.K fd ps 1 [] [0] []) (hm : X.mg "len" = none) (ha : UA X Wd (e :: es) fa) (hl : ps.length = 1 := by rfl) (hg : L2.Gl X "len" := by rfl)
    (he : starEach (e :: es) X.env = (false, eval e X.env) :: starEach es X.env := by rfl) (hpl : (backTo pos (starEach es X.env)).any (·.1) = false := by rfl) : UE X Wd (.Call (.Name "len" p) (e :: es) [] pos) (eOwn (gOwn c fn isLenD) fa) :=
  PE.imp (pe_callB (cr_len M F (B.room.mono hr) B.gd hb hl) hg hm PySem.boot_len ha (by decide) (by decide) he hpl) fun _ _ _ h => tG_own h
end
end G

/-! # G36: f-strings; what holds behind the constructs of instances -/
namespace G
open PySem PySem.Spec PyProof.Rows L2

/-! ### f-strings -/
def gFmt (hs : Hs) (d : D) : Option D := match d with
  | .str y => if y.length ≤ sizeLine then some (.str y) else none
  | .int i => if i.natAbs.log2 < 1920 then some (.str (toString i : String)) else none
  | _ => none
def eJs : List FE → Str → FE
  | [], acc => fun _ hs => .ok (.str acc) hs
  | f :: fs, acc => fun e hs => (f e hs).bind fun d hs => match d with
    | .str y => if (acc ++ y).length ≤ sizeLine then eJs fs (acc ++ y) e hs else .bad
    | _ => .bad
section
variable {X : Cx} {Wd : WX} {e : Expr} {es : List Expr} {f : FE} {fs : List FE} {pos : Pos}
theorem ue_fmt (he : UE X Wd e f) : UE X Wd (.FormattedValue e (-1) none pos) (eUn gFmt f) := by
  refine PE.imp (pe_fmt he) fun σ H Q h => ?_
  obtain ⟨ev, mu, hs, S, E, q⟩ := tG_seq (r := relD X.K) relD_ok h
  refine ⟨ev, mu, hs, S, E, q.imp fun x H1 ⟨e, mu1, hs1, d, S1, E1, r1, g1⟩ => ?_⟩
  unfold gFmt at g1
  cases r1 with
  | str y =>
    dsimp only at g1
    split at g1
    · rename_i hy
      exact .inl ⟨y, rfl, hy, g1 mu1 H1 _ .refl S1 (.str _)⟩
    · exact g1.elim
  | int i =>
    dsimp only at g1
    split at g1
    · rename_i hy
      exact .inr ⟨i, rfl, hy, g1 mu1 H1 _ .refl S1 (.str _)⟩
    · exact g1.elim
  | _ => exact g1.elim
inductive UJ (X : Cx) (Wd : WX) : List Expr → List FE → Prop where
  | nil : UJ X Wd [] []
  | cons {e : Expr} {f : FE} {es : List Expr} {fs : List FE} (h : UE X Wd e f) (r : UJ X Wd es fs) : UJ X Wd (e :: es) (f :: fs)
theorem UJ.pj (h : UJ X Wd es fs) : PJ X es (fs.map fun f => tG (relD X.K) X.K X.mg Wd f) := by
  induction h with
  | nil => exact .nil
  | cons h r ih => exact .cons h ih
theorem tG_js : ∀ (fs : List FE) (acc : Str) {σ : L2.St} {H : Hp} {Q : VK}, tG (relD X.K) X.K X.mg Wd (eJs fs acc) σ H Q → tJs (fs.map fun f => tG (relD X.K) X.K X.mg Wd f) acc σ H (fun out H1 => Q (.str out) H1)
  | [], acc, σ, H, Q, ⟨e, mu, hs, S, E, g⟩ => g mu H _ .refl S (.str _)
  | f :: fs, acc, σ, H, Q, h => by
    obtain ⟨ev, mu, hs, S, E, q⟩ := tG_seq (r := relD X.K) (f := f) (k := fun e d hs => match d with | .str y => if (acc ++ y).length ≤ sizeLine then eJs fs (acc ++ y) e hs else .bad | _ => .bad) relD_ok h
    refine ⟨ev, mu, hs, S, E, q.imp fun x H1 ⟨e, mu1, hs1, d, S1, E1, r1, g1⟩ => ?_⟩
    cases r1 with
    | str y =>
      dsimp only at g1
      split at g1
      · rename_i hy
        exact ⟨y, rfl, hy, tG_js fs (acc ++ y) ⟨e, mu1, hs1, S1, E1, g1⟩⟩
      · exact g1.elim
    | _ => exact g1.elim
theorem ue_joined {v1 v2 : Expr} {rest : List Expr} (h : UJ X Wd (v1 :: v2 :: rest) fs) : UE X Wd (.JoinedStr (v1 :: v2 :: rest) pos) (eJs fs Str.empty) :=
  PE.imp (pe_joined h.pj) fun σ H Q h => tG_js fs Str.empty h
end
/-! ### behind them -/
section
variable {a b : Type} {Q : D → Hs → Prop} {X : XQ} {e : Ev} {hs h : Hs} {c m f : Str} {fn : List D → Hs → R D} {is : List Nat} {dds : List D} {fo fv : FE} {fa fk : FA} {P : Po}
theorem wp_mk (q : Wp (fa e h) (fun ds h => Wp (fk e h) (fun zs h => Wp (fn (selL is (.ref h.length :: ds) zs dds) (h ++ [.ins c []])) (fun d h' => d = .non ∧ Q (.ref h.length) h') X) X) X) : Wp (eMk c fn is dds fa fk e h) Q X := by
  refine wp_bind (wp_mono q (fun ds h1 q => wp_bind (wp_mono q (fun zs h2 q => ?_) fun _ _ _ x => x)) fun _ _ _ x => x)
  unfold mkR
  with_unfolding_all
  unfold Wp at q ⊢
  cases z : fn (selL is (.ref h2.length :: ds) zs dds) (h2 ++ [.ins c []]) with
  | ok d h' =>
    rw [z] at q
    obtain ⟨rfl, q⟩ := q
    exact q
  | exc c fs h' => rw [z] at q; exact q
  | bad => rw [z] at q; exact q
theorem wp_mth (q : Wp (fo e h) (fun o h => ∃ kvs, insOf h o = some (c, kvs) ∧ kvs.lookup m = none ∧ Wp (fa e h) (fun ds h => Wp (fk e h) (fun zs h => Wp (fn (selL is (o :: ds) zs dds) h) Q X) X) X) X) : Wp (eMth c m fn is dds fo fa fk e h) Q X := by
  refine wp_bind (wp_mono q (fun o h1 q => ?_) fun _ _ _ x => x)
  obtain ⟨kvs, h2, h3, q⟩ := q
  rw [h2]
  dsimp only
  rw [if_pos ⟨rfl, h3⟩]
  exact wp_bind (wp_mono q (fun _ _ q => wp_bind q) fun _ _ _ x => x)
theorem wp_eown {g : Hs → List D → Option (D × Hs)} (q : Wp (fa e h) (fun ds h => Wp (R.ofP (g h ds)) Q X) X) : Wp (eOwn g fa e h) Q X := wp_bind q
theorem ws_fld {cs : List Str} (q : Wp (fv e h) (fun v h => Wp (fo e h) (fun o h => ∃ n c kvs, o = .ref n ∧ h[n]? = some (.ins c kvs) ∧ cs.contains c = true ∧ kvs.length < 1000 ∧ P.nx e (h.set n (.ins c (putD f v kvs)))) (fun c fs h => P.ex c fs e h)) (fun c fs h => P.ex c fs e h)) : Ws (sFld cs f fv fo e h) P := by
  refine ws_bind (wp_mono q (fun v h1 q => ws_bind (wp_mono q (fun o h2 q => ?_) fun _ _ _ x => x)) fun _ _ _ x => x)
  obtain ⟨n, c, kvs, rfl, h3, h4, h5, q⟩ := q
  dsimp only
  rw [h3]
  dsimp only
  rw [if_pos ⟨h4, h5⟩]
  with_unfolding_all exact q
theorem wp_js0 {acc : Str} (q : Q (.str acc) h) : Wp (eJs [] acc e h) Q X := wp_ok q
theorem wp_js1 {acc : Str} {f : FE} {fs : List FE} (q : Wp (f e h) (fun d h => ∃ y, d = .str y ∧ (acc ++ y).length ≤ sizeLine ∧ Wp (eJs fs (acc ++ y) e h) Q X) X) : Wp (eJs (f :: fs) acc e h) Q X := by
  refine wp_bind (wp_mono q (fun d h1 q => ?_) fun _ _ _ x => x)
  obtain ⟨y, rfl, h2, q⟩ := q
  dsimp only
  rw [if_pos h2]
  exact q
/-! values -/
theorem fld_ins {cs : List Str} {ks : List Str} {ds : List D} {d : D} (hc : cs.contains c = true) (e : (ks.zip ds).lookup f = some d) : gFld cs f h (.ins c ks ds) = some d := by
  unfold gFld insOf
  dsimp only
  rw [if_pos hc, e]
theorem fld_ref {cs : List Str} {n : Nat} {kvs : List (Str × D)} {d : D} (hn : h[n]? = some (.ins c kvs)) (hc : cs.contains c = true) (e : kvs.lookup f = some d) : gFld cs f h (.ref n) = some d := by
  unfold gFld insOf
  dsimp only
  rw [hn]
  dsimp only
  rw [if_pos hc, e]
theorem own_of {d w : D} {kvs : List (Str × D)} {chk : D → Bool} {h' : Hs} (hi : insOf h d = some (c, kvs)) (hf : fn [d] h = .ok w h') (hk : chk w = true) : gOwn c fn chk h [d] = some (w, h') := by
  unfold gOwn
  dsimp only
  rw [hi]
  dsimp only
  rw [if_pos rfl, hf]
  dsimp only
  rw [if_pos hk]
theorem fmt_str {y : Str} (q : y.length ≤ 100000) : gFmt h (.str y) = some (.str y) := if_pos (le_line q)
theorem fmt_int {i : Int} (q : i.natAbs < 10 ^ 60) : gFmt h (.int i) = some (.str (toString i : String)) := if_pos (int_lf q)
end
end G

/-! # G37: defs with defaults; short forms for the printer -/
namespace G
open PySem PySem.Spec PyProof.Rows L2

/-- a def of the text with defaults dvs -/
abbrev FunF (K : PySem.W.Frag) (x qual : Str) (st : Stmt) (dvs : List V) (f : Addr) (fd : FuncData) : Prop := FunD K x qual (defArgs st) (defBody st) (defScope st) dvs [] f fd
section
variable {P : Program} {w : World} {K : PySem.W.Frag} {mg : Str → Option Value} {base : Heap} {x qual : Str} {st : Stmt} {f : Addr} {fd : FuncData} {ps ks : List Str} {n : Nat} {is : List Nat} {dvs : List V}
theorem funF_ok {N : List Str} {k : Nat} (F : FunF K x qual st dvs f fd) (hsm : ∃ o, base.get? sysModules = some o) (S : FnScope N ps (defScope st)) (b : FS)
    (hb : ∀ (cdv : Value) (A : Around) (outer : List Env) (s : Shared) (H : Hp) (E : XK), Bd (cxOf (L2.CX P w) P w K mg base N qual (defScope st) f cdv A outer s H E) (fun cls dx _ H' => E cls dx H') k →
      USs (cxOf (L2.CX P w) P w K mg base N qual (defScope st) f cdv A outer s H E) (fun cls dx _ H' => E cls dx H') (defBody st) b) : FnG P w K mg base (k + 1) f fd ps (spU K mg ps.length (fnBody N.length b)) := by
  obtain ⟨oc, od, dV, kV, doc, pm, an, cdv, ct, osl, rfl, lk, hcd, hD, hK⟩ := F.ex
  exact fnG_of hsm lk hcd S b fun A outer s H E B => hb cdv A outer s H E B
/-- some defaults are read -/
theorem bindKD_of (F : FunF K x qual st dvs f fd) (hd : dvs ≠ []) (h : ∀ (T : Addr) (kV doc pm : Value) (an : Option Addr) (cdv ct : Value) (us its ws : List Value), us.length = n → its.length = dvs.length → ws.length = ks.length →
      ∃ k, bindArgs (PySem.W.fnOf x qual (defArgs st) (defBody st) (defScope st) (.ref T) kV doc pm an cdv ct) ⟨us, ks.zip ws⟩ = seqItems? (.ref T) >>= k ∧ k (some its.toArray) = pure (ps.zip (selL is us ws its))) : ∃ its, Vals dvs its ∧ BindK K fd ps n ks is its := by
  obtain ⟨oc, od, dV, kV, doc, pm, an, cdv, ct, osl, rfl, lk, hcd, hD, hK⟩ := F.ex
  rcases hD with ⟨e, _⟩ | ⟨_, T, o, its, m, rfl, lT, oT, rT⟩
  · exact absurd e hd
  · refine ⟨its, rT, fun s us ws X l1 l2 => ?_⟩
    obtain ⟨k, e1, e2⟩ := h T kV doc pm an cdv ct us its ws l1 rT.length.symm l2
    refine BindsTo.of_looks fun M => ?_
    rw [e1]
    exact looks_items X lT oT (.of_pure e2)
/-- none is read -/
theorem bindKN_of (F : FunF K x qual st dvs f fd) (hd : dvs ≠ []) (h : ∀ (T : Addr) (kV doc pm : Value) (an : Option Addr) (cdv ct : Value) (us its ws : List Value), us.length = n → its.length = dvs.length → ws.length = ks.length →
      bindArgs (PySem.W.fnOf x qual (defArgs st) (defBody st) (defScope st) (.ref T) kV doc pm an cdv ct) ⟨us, ks.zip ws⟩ = pure (ps.zip (selL is us ws its))) : ∃ its, Vals dvs its ∧ BindK K fd ps n ks is its := by
  obtain ⟨oc, od, dV, kV, doc, pm, an, cdv, ct, osl, rfl, lk, hcd, hD, hK⟩ := F.ex
  rcases hD with ⟨e, _⟩ | ⟨_, T, o, its, m, rfl, lT, oT, rT⟩
  · exact absurd e hd
  · exact ⟨its, rT, fun s us ws X l1 l2 => .of_eq (h T kV doc pm an cdv ct us its ws l1 rT.length.symm l2)⟩
theorem funF_mk {oc : Value} {od an : Option Addr} {osl : Array (Option Value)} {dV kV doc pm cdv ct : Value} (l : K.lookup f = some ⟨oc, od, .func (PySem.W.fnOf x qual (defArgs st) (defBody st) (defScope st) dV kV doc pm an cdv ct), osl⟩)
    (c : PySem.W.codeIn K cdv qual = true) (k : PySem.W.keepIn K (.ref f) = true) (d : DflV K dV dvs) : FunF K x qual st dvs f (PySem.W.fnOf x qual (defArgs st) (defBody st) (defScope st) dV kV doc pm an cdv ct) :=
  ⟨⟨oc, od, dV, kV, doc, pm, an, cdv, ct, osl, rfl, l, c, d, .inl rfl⟩, k⟩
end
section
variable {X : Cx} {Wd : WX} {k k' n : Nat} {f C : Addr} {fd : FuncData} {ps ks : List Str} {fn : List D → Hs → R D} {dds : List D} {dvs : List V} {is : List Nat} {x : Str} {p pos kpos : Pos} {e : Expr} {es : List Expr} {fa fk : FA} {kws : List Keyword}
/-- f(e, .., k = ..), defaults for the rest -/
theorem ue_fnD (B : Bd X Wd k') (F : FnG X.prog X.w X.K X.mg X.base k f fd ps (spU X.K X.mg ps.length fn)) (hr : k ≤ k') (hm : X.mg x = some (.ref f)) (hk : PySem.W.keepIn X.K (.ref f) = true)
    (hbd : ∃ its, Vals dvs its ∧ BindK X.K fd ps (e :: es).length ks is its) (hdd : ∀ mu H, RDs X.K mu H dds dvs) (ha : UA X Wd (e :: es) fa) (hkw : UK X Wd kws fk)
    (hla : ∀ ev hs qs hs', fa ev hs = .ok qs hs' → qs.length = (e :: es).length) (hlk : ∀ ev hs qs hs', fk ev hs = .ok qs hs' → qs.length = ks.length)
    (hi : is.all (fun i => decide (i < (e :: es).length + ks.length + dds.length)) = true := by decide) (hl : is.length = ps.length := by rfl) (hg : L2.Gl X x := by rfl)
    (hall : (backToKw pos (keywordEach kws X.env)).all (·.1.isSome) = true := by rfl) (hks : (backToKw pos (keywordEach kws X.env)).filterMap (·.1) = ks := by rfl)
    (hdb : (x == ("__debug__" : Str)) = false := by decide) (he : starEach (e :: es) X.env = (false, eval e X.env) :: starEach es X.env := by rfl)
    (hpl : ((backTo pos (starEach (e :: es) X.env)).any (·.1) || (backToKw pos (keywordEach kws X.env)).any (·.1.isNone)) = false := by rfl) :
    UE X Wd (.Call (.Name x p) (e :: es) kws pos) (eFnK fn is dds fa fk) := by
  obtain ⟨its, hd, hb⟩ := hbd
  exact ue_callK F (B.room.mono hr) B.gd B.tk hg hm hk hb hd hdd ha hkw hla hlk (fun qs zs h1 h2 => by rw [selL_len _ _ _ _ (by rw [h1, h2]; exact all_lt hi), hl]) hall hks hdb he hpl
theorem ue_fnD0 (B : Bd X Wd k') (F : FnG X.prog X.w X.K X.mg X.base k f fd ps (spU X.K X.mg ps.length fn)) (hr : k ≤ k') (hm : X.mg x = some (.ref f)) (hk : PySem.W.keepIn X.K (.ref f) = true)
    (hbd : ∃ its, Vals dvs its ∧ BindK X.K fd ps 0 ks is its) (hdd : ∀ mu H, RDs X.K mu H dds dvs) (hkw : UK X Wd kws fk) (hlk : ∀ ev hs qs hs', fk ev hs = .ok qs hs' → qs.length = ks.length)
    (hi : is.all (fun i => decide (i < ks.length + dds.length)) = true := by decide) (hl : is.length = ps.length := by rfl) (hg : L2.Gl X x := by rfl)
    (hall : (backToKw pos (keywordEach kws X.env)).all (·.1.isSome) = true := by rfl) (hks : (backToKw pos (keywordEach kws X.env)).filterMap (·.1) = ks := by rfl)
    (hdb : (x == ("__debug__" : Str)) = false := by decide)
    (hpl : ((backTo pos (starEach [] X.env)).any (·.1) || (backToKw pos (keywordEach kws X.env)).any (·.1.isNone)) = false := by rfl) : UE X Wd (.Call (.Name x p) [] kws pos) (eFnK fn is dds aNil fk) := by
  obtain ⟨its, hd, hb⟩ := hbd
  exact ue_callK0 F (B.room.mono hr) B.gd B.tk hg hm hk hb hd hdd hkw hlk (fun zs h => by rw [selL_len _ _ _ _ (by rw [h, List.length_nil, Nat.zero_add]; exact all_lt hi), hl]) hall hks hdb hpl
theorem ue_mkD {c : Str} (B : Bd X Wd k') (M : Mk X.K C f) (hC : IsC X.K c C) (F : FnG X.prog X.w X.K X.mg X.base k f fd ps (spU X.K X.mg ps.length fn)) (hr : k + 1 ≤ k') (hm : X.mg x = some (.ref C))
    (hbd : ∃ its, Vals dvs its ∧ BindK X.K fd ps ((e :: es).length + 1) ks is its) (hdd : ∀ mu H, RDs X.K mu H dds dvs) (ha : UA X Wd (e :: es) fa) (hkw : UK X Wd kws fk)
    (hla : ∀ ev hs qs hs', fa ev hs = .ok qs hs' → qs.length = (e :: es).length) (hlk : ∀ ev hs qs hs', fk ev hs = .ok qs hs' → qs.length = ks.length)
    (hi : is.all (fun i => decide (i < (e :: es).length + 1 + ks.length + dds.length)) = true := by decide) (hl : is.length = ps.length := by rfl) (hg : L2.Gl X x := by rfl)
    (hall : (backToKw pos (keywordEach kws X.env)).all (·.1.isSome) = true := by rfl) (hks : (backToKw pos (keywordEach kws X.env)).filterMap (·.1) = ks := by rfl)
    (hdb : (x == ("__debug__" : Str)) = false := by decide) (he : starEach (e :: es) X.env = (false, eval e X.env) :: starEach es X.env := by rfl)
    (hpl : ((backTo pos (starEach (e :: es) X.env)).any (·.1) || (backToKw pos (keywordEach kws X.env)).any (·.1.isNone)) = false := by rfl) :
    UE X Wd (.Call (.Name x p) (e :: es) kws pos) (eMk c fn is dds fa fk) := by
  obtain ⟨its, hd, hb⟩ := hbd
  exact ue_mk B M hC F hr hm hb hd hdd ha hkw hla hlk hi hl hg hall hks hdb he hpl
theorem ue_mkD0 {c : Str} (B : Bd X Wd k') (M : Mk X.K C f) (hC : IsC X.K c C) (F : FnG X.prog X.w X.K X.mg X.base k f fd ps (spU X.K X.mg ps.length fn)) (hr : k + 1 ≤ k') (hm : X.mg x = some (.ref C))
    (hbd : ∃ its, Vals dvs its ∧ BindK X.K fd ps 1 ks is its) (hdd : ∀ mu H, RDs X.K mu H dds dvs) (hkw : UK X Wd kws fk)
    (hlk : ∀ ev hs qs hs', fk ev hs = .ok qs hs' → qs.length = ks.length)
    (hi : is.all (fun i => decide (i < 1 + ks.length + dds.length)) = true := by decide) (hl : is.length = ps.length := by rfl) (hg : L2.Gl X x := by rfl)
    (hall : (backToKw pos (keywordEach kws X.env)).all (·.1.isSome) = true := by rfl) (hks : (backToKw pos (keywordEach kws X.env)).filterMap (·.1) = ks := by rfl)
    (hdb : (x == ("__debug__" : Str)) = false := by decide) (hpl : ((backTo pos (starEach [] X.env)).any (·.1) || (backToKw pos (keywordEach kws X.env)).any (·.1.isNone)) = false := by rfl) :
    UE X Wd (.Call (.Name x p) [] kws pos) (eMk c fn is dds aNil fk) := by
  obtain ⟨its, hd, hb⟩ := hbd
  exact ue_mk0 B M hC F hr hm hb hd hdd hkw hlk hi hl hg hall hks hdb hpl
end
/-! attributes of several classes -/
theorem Flds.nil {K : PySem.W.Frag} {f : Str} : Flds K [] f := fun c h => by cases h
theorem Flds.cons {K : PySem.W.Frag} {c f : Str} {cs : List Str} {C : Addr} (hC : IsC K c C) (a : L2.Cls K C) (b : NoAttr K C f) (r : Flds K cs f) : Flds K (c :: cs) f := fun c' h C' h' => by
  rcases List.mem_cons.mp h with rfl | h
  · rw [h'.inj hC]; exact ⟨a, b⟩
  · exact r c' h C' h'
/-- a value made, by value -/
theorem wp_egc {f : FE} {e : Ev} {hs : Hs} {Q : D → Hs → Prop} {X : XQ} (h : Wp (f e hs) (fun d h1 => ∃ d', dW (dH h1 hs.length 50) d = some d' ∧ Cls hs h1 ∧ Q d' (h1.take hs.length))
    (fun c fs h1 => ∃ ds, dWs (dH h1 hs.length 50) (fs.map (·.2)) = some ds ∧ Cls hs h1 ∧ X c ((fs.map (·.1)).zip ds) (h1.take hs.length))) : Wp (eGc f e hs) Q X := wp_gcR h
/-- nothing below has changed -/
theorem cls_app {hs t : Hs} : Cls hs (hs ++ t) := fun k hk => .inl (List.getElem?_append_left hk)
theorem take_app {hs t : Hs} : (hs ++ t).take hs.length = hs := List.take_left
theorem set_app {hs : Hs} {o o' : O} : (hs ++ [o]).set hs.length o' = hs ++ [o'] := by
  rw [List.set_append_right _ _ (Nat.le_refl _), Nat.sub_self]; rfl
theorem dH_new {hs : Hs} {c : Str} {kvs : List (Str × D)} (v : vals (kvs.map (·.2)) = true) : dW (dH (hs ++ [.ins c kvs]) hs.length 50) (.ref hs.length) = some (.ins c (kvs.map (·.1)) (kvs.map (·.2))) :=
  dH_ins (k := 49) get_new (Nat.le_refl _) v
end G

/-! # G38: Skins: made, their attributes, len and text -/
namespace G
open PySem PySem.Spec PyProof.Rows L2
noncomputable section
abbrev k_ALONG : D := (.str "along")
def f_sign_of : FS := (sSeq (sIf (eB (eBin gEq (eName 0) (eC k_ALONG))) (sRet (eC (.str "a"))) sSkip)
  (sRet (eC (.str "x"))))
def c_sign_of : List D → Hs → R D := fnBody 1 f_sign_of
def f_zone_word : FS := (sRet (eBin gAdd (eFn c_sign_of [0] [] (aCons (eBin gIx (eName 0) (eC (.int 0))) aNil)) (eCall gStr (aCons (eBin gIx (eName 0) (eC (.int 1))) aNil))))
def c_zone_word : List D → Hs → R D := fnBody 1 f_zone_word
def f_Skin_init : FS := (sSeq (sFld ["Skin"] "zones" (eName 1) (eName 0))
  (sSeq (sFld ["Skin"] "stretch" (eName 2) (eName 0))
  (sFld ["Skin"] "grade" (eName 3) (eName 0))))
def c_Skin_init : List D → Hs → R D := fnBody 4 f_Skin_init
def f_Skin_str : FS := (sSeq (sSetC 1 false (lComp (iAny (eUn (gFld ["Skin"] "zones") (eName 0))) (nSet 2) tYesF (eFn c_zone_word [0] [] (aCons (eName 2) aNil)) [2]))
  (sRet (eMt (fun _ => isS) mJoin (eC (.str " ")) (aCons (eBin gAdd (eName 1) (eV (aCons (eBin gAdd (eC (.str "s")) (eCall gStr (aCons (eUn (gFld ["Skin"] "stretch") (eName 0)) aNil))) (aCons (eBin gAdd (eC (.str "g")) (eCall gStr (aCons (eUn (gFld ["Skin"] "grade") (eName 0)) aNil))) aNil)))) aNil))))
def c_Skin_str : List D → Hs → R D := fnBody 3 f_Skin_str
def f_Skin_len : FS := (sRet (eCall gLen (aCons (eUn (gFld ["Skin"] "zones") (eName 0)) aNil)))
def c_Skin_len : List D → Hs → R D := fnBody 1 f_Skin_len

end
local macro_rules | `(tactic| walk_at "s1") => `(tactic| first
  | ((with_reducible apply wp_name); (case q => rfl))
  | with_reducible refine wp_c ?_
  | with_reducible refine wp_bin ?_
  | with_reducible refine wp_acons ?_
  | with_reducible refine wp_anil ?_
  | with_reducible refine wp_call ?_
  | with_reducible refine wp_fn ?_
  | with_reducible refine wp_fnK ?_
  | with_reducible refine wp_ev ?_
  | with_reducible refine wp_em ?_
  | with_reducible refine wp_tup ?_
  | with_reducible refine wp_eb ?_
  | with_reducible refine wp_et ?_
  | with_reducible refine wp_un ?_
  | with_reducible refine wp_chain ?_
  | with_reducible refine wp_and ?_
  | with_reducible refine wp_or ?_
  | with_reducible refine wp_not ?_
  | with_reducible refine wp_andF ?_
  | with_reducible refine wp_orF ?_
  | with_reducible refine wp_notF ?_
  | with_reducible refine wp_yes ?_
  | with_reducible refine wp_if ?_
  | with_reducible refine wp_sl ?_
  | with_reducible refine wp_onone ?_
  | with_reducible refine wp_osome ?_
  | with_reducible refine wp_rev ?_
  | with_reducible refine wp_list ?_
  | with_reducible refine wp_mt ?_
  | with_reducible refine wp_any ?_
  | with_reducible refine wp_r1 ?_
  | with_reducible refine wp_r2 ?_
  | with_reducible refine ws_seq ?_
  | with_reducible refine ws_set ?_
  | with_reducible refine ws_setC ?_
  | with_reducible refine ws_setCM ?_
  | with_reducible refine ws_if ?_
  | with_reducible refine ws_ret ?_
  | with_reducible refine ws_retN ?_
  | with_reducible refine ws_drop ?_
  | with_reducible refine ws_skip ?_
  | with_reducible refine ws_asg ?_
  | with_reducible refine ws_par ?_
  | with_reducible refine ws_sub ?_
  | with_reducible refine wp_body ?_)
local macro_rules | `(tactic| walk_at "s") => `(tactic| repeat (walk_at "s1"))
local macro_rules | `(tactic| walk_at "q") => `(tactic| first | assumption | decide | omega | rfl)
local macro_rules | `(tactic| walk_at "e1") => `(tactic| first
  | with_reducible refine wp_some add_i ?_
  | with_reducible refine wp_some sub_i ?_
  | with_reducible refine wp_some lt_i ?_
  | with_reducible refine wp_some le_i ?_
  | with_reducible refine wp_some gt_i ?_
  | with_reducible refine wp_some ge_i ?_
  | with_reducible refine wp_some eq_i ?_
  | with_reducible refine wp_some ne_i ?_
  | with_reducible refine wp_some eq_b ?_
  | with_reducible refine wp_some max_i ?_
  | with_reducible refine wp_some min_i ?_
  | with_reducible refine wp_some tup_tup ?_
  | with_reducible refine wp_some tup_lst ?_
  | with_reducible refine wp_some len_tup ?_
  | with_reducible refine wp_some len_lst ?_
  | with_reducible refine wp_some sl_tup ?_
  | with_reducible refine wp_some sl_lst ?_
  | with_reducible refine wp_some tru_b ?_
  | with_reducible refine wp_some repr_b ?_
  | with_reducible refine wp_eq_sb ?_
  | with_reducible refine wp_some seq_lst ?_
  | with_reducible refine wp_some seq_tup ?_
  | ((with_reducible apply wp_ix_tup); (case q => rfl))
  | ((with_reducible apply wp_ix_lst); (case q => rfl))
  | ((with_reducible apply wp_ix_ref); (case p => assumption); (case q => rfl))
  | with_reducible refine wp_some eq_s ?_
  | ((with_reducible refine wp_some (mod_int ?q) ?_); (case q => walk_at "q"))
  | ((with_reducible refine wp_some (div_int ?p ?q) ?_); (case p => walk_at "q"); (case q => walk_at "q"))
  | ((with_reducible refine wp_some (mul_int ?q) ?_); (case q => walk_at "q"))
  | ((with_reducible refine wp_some (add_tup ?q) ?_); (case q => first | omega | exact Nat.le_of_ble_eq_true rfl | (simp; done) | (simp; omega)))
  | ((with_reducible refine wp_some (add_lst ?q) ?_); (case q => first | omega | exact Nat.le_of_ble_eq_true rfl | (simp; done) | (simp; omega)))
  | with_reducible refine Exists.intro _ (And.intro rfl ?_)
  | with_reducible refine Exists.intro _ (Exists.intro _ (And.intro rfl ?_)))
local macro_rules | `(tactic| walk_at "g") => `(tactic| repeat (first | walk_at "s1" | walk_at "e1"))
local macro_rules | `(tactic| walk_at "h1") => `(tactic| first
  | with_reducible refine wp_some ne_b ?_
  | with_reducible refine wp_ne_sb ?_
  | with_reducible refine wp_d0t ?_
  | with_reducible refine wp_d0k ?_
  | with_reducible refine wp_d0 ?_
  | with_reducible refine wp_valsT ?_
  | with_reducible refine wp_some ne_s ?_
  | with_reducible refine wp_some reprA_b ?_
  | with_reducible refine wp_d1 ?_
  | with_reducible refine wp_some isi_non ?_
  | with_reducible refine wp_some isi_bl ?_
  | with_reducible refine wp_some isi_int ?_
  | with_reducible refine wp_some isi_str ?_
  | with_reducible refine wp_some isi_tup ?_
  | with_reducible refine wp_some isi_lst ?_
  | with_reducible refine wp_some isi_dct ?_)
local macro_rules | `(tactic| walk_at "k") => `(tactic| repeat (first | walk_at "s1" | walk_at "e1" | walk_at "h1"))
local macro_rules | `(tactic| walk_at "p") => `(tactic| first | assumption | (constructor; done) | exact pln_of (by assumption) | exact Sm.pln (by assumption))
local macro_rules | `(tactic| walk_at "b1") => `(tactic| first
  | exact nof
  | exact tnof
  | (refine And.intro ?_ tnof; intro _)
  | (refine And.intro nof ?_; intro _)
  | (refine And.intro ?_ ?_ <;> intro _))
local macro_rules | `(tactic| walk_at "P1") => `(tactic| first
  | ((with_reducible show Wp (c_is_whole _ _) _ _); refine wp_of (whole_eq ?p) ?_; (case p => walk_at "p"))
  | ((with_reducible show Wp (c_is_between _ _) _ _); refine wp_of (between_eq ?p) ?_; (case p => walk_at "p")))
local macro_rules | `(tactic| walk_at "b") => `(tactic| repeat' (first | walk_at "s1" | walk_at "e1" | walk_at "h1" | walk_at "P1" | walk_at "b1"))
local macro_rules | `(tactic| walk_at "z") => `(tactic| first
  | exact (show _ ∧ _ from ⟨rfl, rfl⟩)
  | (refine (show _ ∧ _ from ⟨?_, rfl⟩); first | (simp_all; done) | (simp_all <;> omega)))
local macro_rules | `(tactic| walk_at "bz") => `(tactic| (walk_at "b" <;> try walk_at "z"))
local macro_rules | `(tactic| walk_at "P1") => `(tactic| first
  | ((with_reducible show Wp (c_is_size _ _) _ _); refine wp_of (size_eq ?p) ?_; (case p => walk_at "p"))
  | ((with_reducible show Wp (c_is_moment _ _) _ _); refine wp_of (moment_eq ?p) ?_; (case p => walk_at "p"))
  | ((with_reducible show Wp (c_is_side _ _) _ _); refine wp_of (side_eq ?p) ?_; (case p => walk_at "p"))
  | ((with_reducible show Wp (c_is_grade _ _) _ _); refine wp_of (grade_eq ?p) ?_; (case p => walk_at "p"))
  | ((with_reducible show Wp (c_is_name _ _) _ _); refine wp_of (name_eq ?p ?q) ?_; (case p => walk_at "p"); (case q => first | assumption | omega))
  | ((with_reducible show Wp (c_is_ident _ _) _ _); refine wp_of (ident_eq ?p) ?_; (case p => assumption))
  | ((with_reducible show Wp (c_is_glove _ _) _ _); refine wp_of (glove_eq ?p ?q) ?_; (case p => assumption); (case q => first | assumption | omega)))
local macro_rules | `(tactic| walk_at "d1") => `(tactic| first
  | ((with_reducible show Wp (c_draw _ _) _ _); refine' dr ?s ?k ?a ?b ?_; (case s => assumption); (case k => assumption); (case a => first | decide | omega); (case b => first | decide | omega); intro _ _ _ _ _))
local macro_rules | `(tactic| walk_at "d") => `(tactic| repeat (first | walk_at "s1" | walk_at "e1" | walk_at "h1" | walk_at "P1" | walk_at "d1"))
local macro_rules | `(tactic| walk_at "db") => `(tactic| repeat' (first | walk_at "s1" | walk_at "e1" | walk_at "h1" | walk_at "P1" | walk_at "d1" | walk_at "b1"))
local macro_rules | `(tactic| walk_at "tl") => `(tactic| repeat' (first | assumption | omega | decide | (with_reducible refine len_half ?_ ?_) | (with_reducible refine lit_half ?_) | (with_reducible refine cut_half ?_) | (with_reducible refine T_half ?_)))
local macro_rules | `(tactic| walk_at "t1") => `(tactic| first
  | ((with_reducible refine wp_some (add_str ?q ?r) ?_); (case q => walk_at "tl"); (case r => walk_at "tl"))
  | ((with_reducible refine wp_some (sl_str ?q) ?_); (case q => walk_at "tl"))
  | ((with_reducible refine wp_some (len_str ?q) ?_); (case q => walk_at "tl"))
  | ((with_reducible refine wp_someP (upper_str ?q) ?_); (case q => walk_at "tl"))
  | ((with_reducible refine wp_some (str_int ?q) ?_); (case q => first | assumption | omega))
  | with_reducible refine wp_some rev_tup ?_
  | with_reducible refine wp_some rev_lst ?_
  | with_reducible refine wp_some is_bl ?_
  | with_reducible refine wp_some isN_bl ?_
  | with_reducible refine wp_some neg_i ?_
  | with_reducible refine wp_lAdd ?_
  | with_reducible refine And.intro rfl ?_)
local macro_rules | `(tactic| walk_at "d") => `(tactic| repeat (first | walk_at "s1" | walk_at "e1" | walk_at "h1" | walk_at "t1" | walk_at "P1" | walk_at "d1"))
local macro_rules | `(tactic| walk_at "db") => `(tactic| repeat' (first | walk_at "s1" | walk_at "e1" | walk_at "h1" | walk_at "t1" | walk_at "P1" | walk_at "d1" | walk_at "b1"))
local macro_rules | `(tactic| walk_at "dz") => `(tactic| (walk_at "db" <;> try walk_at "z"))
local macro_rules | `(tactic| walk_at "hg") => `(tactic| first | assumption | exact get_new | (refine get_app ?_; walk_at "hg") | (refine' get_set_eq ?e; (case e => walk_at "hg")) | (refine (get_set_ne ?_).trans ?_; (first | omega | (simp only [List.length_append, List.length_set, List.length_cons, List.length_nil]; omega)); walk_at "hg"))
local macro_rules | `(tactic| walk_at "st") => `(tactic| repeat' (first | assumption | (with_reducible refine St.wapp ?_ ?_) | (with_reducible refine St.wset ?_ ?_ ?_ ?_) | (simp only [List.length_append, List.length_set, List.length_cons, List.length_nil]; omega) | omega))
local macro_rules | `(tactic| walk_at "ll") => `(tactic| repeat' (first | assumption | omega | exact Nat.le_of_ble_eq_true rfl | (with_reducible refine app_half ?_ ?_) | (with_reducible refine cutL_half ?_) | (with_reducible refine rev_half ?_) | (with_reducible refine map_half ?_) | (with_reducible refine cons_half ?_ ?_)))
local macro_rules | `(tactic| walk_at "n1") => `(tactic| first
  | ((with_reducible show Wp (R.ofO _ _) _ _); first
    | with_reducible apply wp_some eq_same
    | with_reducible apply wp_some ne_same
    | with_reducible apply wp_some add_i
    | with_reducible apply wp_some sub_i
    | with_reducible apply wp_some lt_i
    | with_reducible apply wp_some le_i
    | with_reducible apply wp_some gt_i
    | with_reducible apply wp_some ge_i
    | with_reducible apply wp_some eq_i
    | with_reducible apply wp_some ne_i
    | with_reducible apply wp_some eq_b
    | with_reducible apply wp_some max_i
    | with_reducible apply wp_some min_i
    | with_reducible apply wp_some tup_tup
    | with_reducible apply wp_some tup_lst
    | with_reducible apply wp_some len_tup
    | with_reducible apply wp_some len_lst
    | with_reducible apply wp_some sl_tup
    | with_reducible apply wp_some sl_lst
    | with_reducible apply wp_some tru_b
    | with_reducible apply wp_some repr_b
    | with_reducible refine wp_eq_sb ?_
    | with_reducible apply wp_some seq_lst
    | with_reducible apply wp_some seq_tup
    | ((with_reducible apply wp_ix_tup); (case q => rfl))
    | ((with_reducible apply wp_ix_lst); (case q => rfl))
    | ((with_reducible apply wp_ix_ref); (case p => assumption); (case q => rfl))
    | with_reducible apply wp_some eq_s
    | ((with_reducible apply wp_some (mod_int ?q)); (case q => walk_at "q"))
    | ((with_reducible apply wp_some (div_int ?p ?q)); (case p => walk_at "q"); (case q => walk_at "q"))
    | ((with_reducible apply wp_some (mul_int ?q)); (case q => walk_at "q"))
    | ((with_reducible apply wp_some (add_tup2 ?a ?b)); (case a => walk_at "ll"); (case b => walk_at "ll"))
    | ((with_reducible apply wp_some (add_lst2 ?a ?b)); (case a => walk_at "ll"); (case b => walk_at "ll"))
    | with_reducible apply wp_some ne_b
    | with_reducible refine wp_ne_sb ?_
    | with_reducible apply wp_some ne_s
    | with_reducible apply wp_some reprA_b
    | with_reducible apply wp_some isi_non
    | with_reducible apply wp_some isi_bl
    | with_reducible apply wp_some isi_int
    | with_reducible apply wp_some isi_str
    | with_reducible apply wp_some isi_tup
    | with_reducible apply wp_some isi_lst
    | with_reducible apply wp_some isi_dct
    | ((with_reducible apply wp_some (add_str ?q ?r)); (case q => walk_at "tl"); (case r => walk_at "tl"))
    | ((with_reducible apply wp_some (sl_str ?q)); (case q => walk_at "tl"))
    | ((with_reducible apply wp_some (len_str ?q)); (case q => walk_at "tl"))
    | ((with_reducible apply wp_some (str_int ?q)); (case q => first | assumption | omega))
    | with_reducible apply wp_some rev_tup
    | with_reducible apply wp_some rev_lst
    | with_reducible apply wp_some is_bl
    | with_reducible apply wp_some isN_bl
    | with_reducible apply wp_some neg_i
    | ((with_reducible apply wp_some (isi_pln ?q)); (case q => walk_at "p"))
    | with_reducible apply wp_some pow6
    | with_reducible apply wp_some eqT_tup
    | ((with_reducible apply wp_some (rev_str ?q)); (case q => walk_at "tl"))
    | ((with_reducible apply wp_some (add_rl ?q ?a ?b)); (case q => walk_at "hg"); (case a => walk_at "ll"); (case b => walk_at "ll"))
    | ((with_reducible apply wp_some (add_lr ?q ?a ?b)); (case q => walk_at "hg"); (case a => walk_at "ll"); (case b => walk_at "ll"))
    | ((with_reducible apply wp_some (add_rr ?q ?r ?a ?b)); (case q => walk_at "hg"); (case r => walk_at "hg"); (case a => walk_at "ll"); (case b => walk_at "ll"))
    | with_reducible apply wp_some lst_lst
    | ((with_reducible apply wp_some (lst_ref ?q)); (case q => walk_at "hg"))
    | ((with_reducible apply wp_some (len_ref ?q)); (case q => walk_at "hg"))
    | ((with_reducible apply wp_some (tup_ref ?q)); (case q => walk_at "hg"))
    | with_reducible apply wp_some pow39
    | with_reducible apply wp_some pow30
    | with_reducible apply wp_some pow40
    | with_reducible apply wp_some tru_non
    | with_reducible apply wp_some tru_int
    | with_reducible apply wp_some tru_tup
    | ((with_reducible apply wp_some (tru_str ?q)); (case q => walk_at "tl"))
    | ((with_reducible apply wp_some (mulS_str ?a ?b ?d)); (case a => walk_at "tl"); (case b => walk_at "tl"); (case d => walk_at "tl"))
    | ((with_reducible apply wp_some (mulS_tupA ?a ?b ?c ?d)); (case a => walk_at "tl"); (case b => walk_at "tl"); (case c => first | rfl | assumption); (case d => walk_at "tl")))
  | ((with_reducible show Wp (R.ofP _) _ _); first
    | ((with_reducible apply wp_someP (app_ref2 ?e ?q)); (case e => walk_at "hg"); (case q => walk_at "ll"))
    | ((with_reducible apply wp_someP (upper_str ?q)); (case q => walk_at "tl")))
  | ((with_reducible show Ws _ _); first
    | with_reducible refine ws_seq ?_
    | with_reducible refine ws_set ?_
    | with_reducible refine ws_setC ?_
    | with_reducible refine ws_setCM ?_
    | with_reducible refine ws_if ?_
    | with_reducible refine ws_ret ?_
    | with_reducible refine ws_retN ?_
    | with_reducible refine ws_drop ?_
    | with_reducible refine ws_skip ?_
    | with_reducible refine ws_asg ?_
    | with_reducible refine ws_par ?_
    | with_reducible refine ws_sub ?_)
  | ((with_reducible refine' And.intro (isL_ref ?e) ?_); (case e => walk_at "hg"))
  | ((with_reducible refine And.intro (And.intro ?a ?b) ?_); (case a => walk_at "ll"); (case b => walk_at "ll"))
  | with_reducible refine Exists.intro _ (And.intro rfl ?_)
  | with_reducible refine Exists.intro _ (Exists.intro _ (And.intro rfl ?_))
  | with_reducible refine And.intro rfl ?_
  | ((with_reducible show Wp _ _ _); first
    | ((with_reducible apply wp_name); (case q => rfl))
    | with_reducible refine wp_c ?_
    | with_reducible refine wp_bin ?_
    | with_reducible refine wp_acons ?_
    | with_reducible refine wp_anil ?_
    | with_reducible refine wp_call ?_
    | with_reducible refine wp_fn ?_
    | with_reducible refine wp_fnK ?_
    | with_reducible refine wp_ev ?_
    | with_reducible refine wp_em ?_
    | with_reducible refine wp_tup ?_
    | with_reducible refine wp_eb ?_
    | with_reducible refine wp_et ?_
    | with_reducible refine wp_un ?_
    | with_reducible refine wp_chain ?_
    | with_reducible refine wp_and ?_
    | with_reducible refine wp_or ?_
    | with_reducible refine wp_not ?_
    | with_reducible refine wp_andF ?_
    | with_reducible refine wp_orF ?_
    | with_reducible refine wp_notF ?_
    | with_reducible refine wp_yes ?_
    | with_reducible refine wp_if ?_
    | with_reducible refine wp_sl ?_
    | with_reducible refine wp_onone ?_
    | with_reducible refine wp_osome ?_
    | with_reducible refine wp_rev ?_
    | with_reducible refine wp_list ?_
    | with_reducible refine wp_mt ?_
    | with_reducible refine wp_any ?_
    | with_reducible refine wp_r1 ?_
    | with_reducible refine wp_r2 ?_
    | with_reducible refine wp_body ?_
    | with_reducible refine wp_d0t ?_
    | with_reducible refine wp_d0k ?_
    | with_reducible refine wp_d0 ?_
    | with_reducible refine wp_valsT ?_
    | with_reducible refine wp_d1 ?_
    | with_reducible refine wp_lAdd ?_
    | walk_at "P1"
    | walk_at "d1")
  | ((fail_if_success (with_reducible show Ws _ _)); (fail_if_success (with_reducible show Wp _ _ _)); show Ws _ _))
local macro_rules | `(tactic| walk_at "n") => `(tactic| repeat (walk_at "n1"))
local macro_rules | `(tactic| walk_at "nb") => `(tactic| repeat' (first | walk_at "n1" | walk_at "b1"))
local macro_rules | `(tactic| walk_at "c") => `(tactic| first
  | assumption
  | (refine closeB (by assumption) ?_; first | rfl | (simp_all; done) | (simp_all <;> omega)))
local macro_rules | `(tactic| walk_at "nc") => `(tactic| (walk_at "nb" <;> try walk_at "c"))
local macro_rules | `(tactic| walk_at "n1") => `(tactic| first
  | with_reducible refine wp_iOf ?_
  | with_reducible apply wp_some neT_tup
  | with_reducible refine ex_ent ?_
  | with_reducible refine ex_enl ?_
  | with_reducible refine ex_zpt ?_
  | with_reducible refine ex_zpl ?_)
local macro_rules | `(tactic| walk_at "q") => `(tactic| exact Int.natCast_pos.mpr (Nat.succ_pos _))
local macro_rules | `(tactic| walk_at "hg") => `(tactic| with_reducible exact St.k2 (by assumption))
local macro_rules | `(tactic| walk_at "n1") => `(tactic| first
  | with_reducible refine wp_mk ?_
  | with_reducible refine wp_mth ?_
  | with_reducible refine wp_eown ?_
  | with_reducible refine ws_fld ?_
  | with_reducible refine wp_js1 ?_
  | with_reducible refine wp_js0 ?_)

section
variable {h : Hs} {Q : D → Hs → Prop} {X : XQ} {z s g d : D}
/-- a Skin -/
def skD (z s g : D) : D := .ins "Skin" ["zones", "stretch", "grade"] [z, s, g]
def skF (z s g : D) : List (Str × D) := [("zones", z), ("stretch", s), ("grade", g)]
theorem sk_ins : insOf h (skD z s g) = some (Str.ofString "Skin", skF z s g) := rfl
theorem sk_sk : ([Str.ofString "Skin"].contains (Str.ofString "Skin")) = true := by decide +kernel
theorem sk_ne1 : (Str.ofString "stretch" == Str.ofString "zones") = false := by decide +kernel
theorem sk_ne2 : (Str.ofString "grade" == Str.ofString "zones") = false := by decide +kernel
theorem sk_ne3 : (Str.ofString "grade" == Str.ofString "stretch") = false := by decide +kernel
theorem lk_here {k : Str} {d : D} {r : List (Str × D)} : List.lookup k ((k, d) :: r) = some d := by rw [List.lookup_cons, beq_self_eq_true]
theorem lk_next {k k' : Str} {d : D} {r : List (Str × D)} (n : (k == k') = false) : List.lookup k ((k', d) :: r) = List.lookup k r := by rw [List.lookup_cons, n]
theorem fld_at {c f : Str} {kvs : List (Str × D)} {cs : List Str} {o : D} (hi : insOf h o = some (c, kvs)) (hc : cs.contains c = true) : gFld cs f h o = kvs.lookup f := by
  unfold gFld
  rw [hi]
  exact if_pos hc
theorem sk_zones : gFld ["Skin"] "zones" h (skD z s g) = some z := (fld_at sk_ins sk_sk).trans lk_here
theorem sk_stretch : gFld ["Skin"] "stretch" h (skD z s g) = some s := (fld_at sk_ins sk_sk).trans ((lk_next sk_ne1).trans lk_here)
theorem sk_grade : gFld ["Skin"] "grade" h (skD z s g) = some g := (fld_at sk_ins sk_sk).trans ((lk_next sk_ne2).trans ((lk_next sk_ne3).trans lk_here))
theorem nq {a b : String} (h : (Str.ofString a == Str.ofString b) = false) : Str.ofString a ≠ Str.ofString b := fun e => by rw [e, beq_self_eq_true] at h; cases h
/-- Skin(z, s, g) -/
theorem mk_skin {R : Hs → Prop} (q : R (h ++ [.ins "Skin" (skF z s g)])) : Wp (c_Skin_init [.ref h.length, z, s, g] (h ++ [.ins "Skin" []])) (fun d h' => d = .non ∧ R h') X := by
  unfold c_Skin_init f_Skin_init
  refine wp_bodyE [some (.ref h.length), some z, some s, some g] rfl ?_
  walk_at "n"
  refine ⟨_, _, _, rfl, get_new, sk_sk, by decide, ?_⟩
  rw [set_app]
  walk_at "n"
  refine ⟨_, _, _, rfl, get_new, sk_sk, by show 1 < 1000; decide, ?_⟩
  rw [set_app]
  walk_at "n"
  refine ⟨_, _, _, rfl, get_new, sk_sk, ?_, ?_⟩
  · show (if Str.ofString "zones" = Str.ofString "stretch" then _ else _ : List (Str × D)).length < 1000
    rw [if_neg (nq sk_ne1).symm]
    show 2 < 1000
    decide
  rw [set_app]
  have e : putD "grade" g (putD "stretch" s (putD "zones" z [])) = skF z s g := by
    show putD "grade" g (if Str.ofString "zones" = Str.ofString "stretch" then _ else _) = _
    rw [if_neg (nq sk_ne1).symm]
    show (if Str.ofString "zones" = Str.ofString "grade" then _ else _) = _
    rw [if_neg (nq sk_ne2).symm]
    show _ :: (if Str.ofString "stretch" = Str.ofString "grade" then _ else _) = _
    rw [if_neg (nq sk_ne3).symm]
    rfl
  rw [e]
  exact ⟨rfl, q⟩
theorem sk_new (vz : val z = true) (vs : val s = true) (vg : val g = true) : dW (dH (h ++ [.ins "Skin" (skF z s g)]) h.length 50) (.ref h.length) = some (skD z s g) := by
  have v : vals ((skF z s g).map (·.2)) = true := by
    show (val z && (val s && (val g && true))) = true
    rw [vz, vs, vg]; rfl
  exact dH_new v
/-! ### its text -/
/-- a zone as a word -/
def zw : D → Str
  | .tup [.str g, .int n] => (if g == Str.ofString "along" then Str.ofString "a" else Str.ofString "x") ++ (toString n : String)
  | _ => Str.ofString ""
def Zn (d : D) : Prop := ∃ g n, d = .tup [.str g, .int n] ∧ n.natAbs < 10 ^ 60
def numT (c : String) (n : Int) : Str := Str.ofString c ++ (toString n : String)
def skW (zs : List D) (s g : Int) : List Str := zs.map zw ++ [numT "s" s, numT "g" g]
def skT (zs : List D) (s g : Int) : Str := Txt.join " " (skW zs s g)
theorem sign_eq {z : Str} : c_sign_of [.str z] h = .ok (.str (if z == Str.ofString "along" then Str.ofString "a" else Str.ofString "x")) h := by
  refine eq_any fun Q X q => ?_
  unfold c_sign_of f_sign_of
  refine wp_bodyE [some (.str z)] rfl ?_
  walk_at "n"
  refine ⟨fun e => ?_, fun e => ?_⟩
  · rw [e] at q
    walk_at "n"
    exact q
  · rw [e] at q
    walk_at "n"
    exact q
theorem zword_eq (hz : Zn d) : c_zone_word [d] h = .ok (.str (zw d)) h := by
  obtain ⟨g, n, rfl, hn⟩ := hz
  refine eq_any fun Q X q => ?_
  unfold c_zone_word f_zone_word
  refine wp_bodyE [some (.tup [.str g, .int n])] rfl ?_
  walk_at "n"
  refine wp_of sign_eq ?_
  walk_at "n"
  have l1 : (if g == Str.ofString "along" then Str.ofString "a" else Str.ofString "x").length ≤ 50000 := by
    split <;> exact Nat.le_trans (Nat.le_of_eq (PySem.ofString_length _)) (by decide)
  have l2 := (tx_int hn).len
  refine wp_some (add_str l1 (by omega)) ?_
  walk_at "n"
  exact q
theorem zw_len (hz : Zn d) : (zw d).length ≤ 62 := by
  obtain ⟨g, n, rfl, hn⟩ := hz
  have l2 := (tx_int hn).len
  show ((if g == Str.ofString "along" then Str.ofString "a" else Str.ofString "x") ++ _ : Str).length ≤ 62
  rw [str_len]
  have l1 : (if g == Str.ofString "along" then Str.ofString "a" else Str.ofString "x").length = 1 := by
    split <;> exact PySem.ofString_length _
  omega
theorem strs_map (zs : List Str) : zs.map D.str = zs.map D.str := rfl
theorem join_gen {sep : Str} {ys : List Str} (l : (ys.map (·.length)).sum + ys.length * sep.length ≤ 16777216) : mJoin h (.str sep) [.lst (ys.map D.str)] = some (.str (Txt.join sep ys), h) := by
  unfold mJoin
  dsimp only
  rw [seq_lst]
  dsimp only
  rw [strsOf_map]
  dsimp only
  rw [if_pos l]
theorem skin_str {zs : List D} {s g : Int} (hz : ∀ z ∈ zs, Zn z) (hl : zs.length ≤ 1000) (hs : s.natAbs < 10 ^ 60) (hg : g.natAbs < 10 ^ 60) : c_Skin_str [skD (.tup zs) (.int s) (.int g)] h = .ok (.str (skT zs s g)) h := by
  refine eq_any fun Q X q => ?_
  unfold c_Skin_str f_Skin_str
  refine wp_bodyE [some (skD (.tup zs) (.int s) (.int g)), none, none] rfl ?_
  walk_at "n"
  refine wp_cmap (fun d => .str (zw d)) ?_
  walk_at "n"
  refine wp_some sk_zones ?_
  walk_at "n"
  refine ⟨by omega, fun d hd => ?_, ?_⟩
  · refine ⟨_, rfl, ?_⟩
    walk_at "n"
    refine wp_of (zword_eq (hz d hd)) ?_
    exact ⟨rfl, rfl⟩
  have l1 := (tx_int hs).len
  have l2 := (tx_int hg).len
  walk_at "n"
  refine wp_some sk_stretch ?_
  walk_at "n"
  refine wp_some sk_grade ?_
  walk_at "n"
  have e : List.map (fun d => D.str (zw d)) zs ++ [D.str (Str.ofString "s" ++ Str.ofString (toString s)), D.str (Str.ofString "g" ++ Str.ofString (toString g))] = (skW zs s g).map D.str := by
    unfold skW numT
    rw [List.map_append, List.map_map]
    rfl
  rw [e]
  have sl : ∀ ws : List D, (∀ z ∈ ws, Zn z) → ((ws.map zw).map (·.length)).sum ≤ 62 * ws.length := by
    intro ws
    induction ws with
    | nil => intro _; exact Nat.le_refl _
    | cons w ws ih =>
      intro hw
      have h1 := zw_len (hw w List.mem_cons_self)
      have h2 := ih fun z hz => hw z (List.mem_cons_of_mem _ hz)
      show (zw w).length + ((ws.map zw).map (·.length)).sum ≤ 62 * (ws.length + 1)
      omega
  have n1 : (numT "s" s).length ≤ 62 := by unfold numT; rw [str_len, PySem.ofString_length]; have : "s".length = 1 := rfl; omega
  have n2 : (numT "g" g).length ≤ 62 := by unfold numT; rw [str_len, PySem.ofString_length]; have : "g".length = 1 := rfl; omega
  refine wp_someP (join_gen ?_) q
  have s1 := sl zs hz
  have e1 : (Str.ofString " ").length = 1 := PySem.ofString_length _
  unfold skW
  rw [List.map_append, List.sum_append, List.length_append, List.length_map, e1]
  show ((zs.map zw).map (·.length)).sum + ((numT "s" s).length + ((numT "g" g).length + 0)) + (zs.length + 2) * 1 ≤ 16777216
  omega
/-- len -/
theorem skin_len {zs : List D} : c_Skin_len [skD (.tup zs) s g] h = .ok (.int zs.length) h := by
  refine eq_any fun Q X q => ?_
  unfold c_Skin_len f_Skin_len
  refine wp_bodyE [some (skD (.tup zs) s g)] rfl ?_
  walk_at "n"
  refine wp_some sk_zones ?_
  walk_at "n"
  exact q
theorem own_str {zs : List D} {s g : Int} (hz : ∀ z ∈ zs, Zn z) (hl : zs.length ≤ 1000) (hs : s.natAbs < 10 ^ 60) (hg : g.natAbs < 10 ^ 60) : gOwn "Skin" c_Skin_str isStrD h [skD (.tup zs) (.int s) (.int g)] = some (.str (skT zs s g), h) :=
  own_of sk_ins (skin_str hz hl hs hg) rfl
theorem own_len {zs : List D} (hl : zs.length ≤ 1000000) : gOwn "Skin" c_Skin_len isLenD h [skD (.tup zs) s g] = some (.int zs.length, h) :=
  own_of sk_ins skin_len (by
    unfold isLenD
    dsimp only
    rw [decide_eq_true (show (0 : Int) ≤ zs.length by omega), decide_eq_true (show (zs.length : Int) < 2 ^ 63 by omega)]; rfl)
end
end G

/-! # G39: a list times a number; == of like data -/
namespace G
open PySem PySem.Spec PyProof.Rows L2
def rRepL (K : PySem.W.Frag) : R2 := fun x y H Q => ∃ l k xs, x = .ref l ∧ y = .int k ∧ SqL K H l xs ∧ 0 ≤ k ∧ k ≤ 1000 ∧ xs.length ≤ 1000 ∧ ∀ p, H p = none → Q (.ref p) (upd H p (.lst (List.replicate k.toNat xs).flatten))
section
variable {X : Cx} {Wd : WX} {a b : Expr} {f1 f2 : FE} {pos : Pos}
theorem op_repL : OpR X (binaryOp .Mult) (rRepL X.K) := by
  intro pins s σ H x y v u Q I rx ry h
  obtain ⟨l, x, xs, rfl, rfl, hT, h1, h2, hz, q⟩ := h
  cases rx
  obtain ⟨u, rfl⟩ := ry
  obtain ⟨its, r, p, hs⟩ := I.list hT
  have p : s.heap.IsList l its.toArray := p.isList
  obtain ⟨⟨cls, d, data, sl⟩, ho, hcl, k, hd⟩ := p
  simp only at hcl hd
  subst hcl hd
  have hle : its.length = xs.length := r.length.symm
  have m1 : its.length * x.toNat ≤ 1000 * 1000 := Nat.mul_le_mul (by omega) (by omega)
  have hsz' : its.toArray.size * x.toNat ≤ 2 ^ 24 := by rw [List.size_toArray]; omega
  refine wpAny_binaryOp_repeat_ref (T := "list") (U := "int") (by decide) ⟨_, ho, rfl⟩ (fun s' => typeIs_int s' x u) noFill_list_mul PySem.F.fills_int_mul PySem.F.slot_int_rmul repeat_list PySem.F.slot_int_index.lookup
    (call_meets PySem.F.slot_int_rmul (typeIs_int s x u) PySem.F.entry_int_rmul (PySem.F.args_int_rmul_2 _ _) (lm_int_rmul_list_any x u l its.toArray k d sl)
      ⟨ho, rfl, ⟨_, ho, rfl⟩, call_meets PySem.F.slot_list_mul ⟨_, ho, rfl⟩ PySem.F.entry_list_mul (PySem.F.args_list_mul_2 _ _)
        (lm_list_mul_any l its.toArray k d sl x u (by simp [Builtin.List.listFitsIndex]; omega) (by omega) (by simp [Builtin.List.listTooLong, sizeLine]; omega))
        ⟨ho, ?_⟩⟩)
  rw [listMul_foldl_if]
  exact ⟨.ref _, _, I.lnew (t' := s.toks) (r.rep x.toNat) (by rw [PyProof.Rows.lm_len_rep_flat, sizeLine_eq, ← hle, Nat.mul_comm]; omega), rfl, q _ I.fresh⟩
/-- [..] * n -/
def lRep (f1 f2 : FE) : FL := fun e hs => (f1 e hs).bind fun x hs => (f2 e hs).bind fun y hs => match lstOf hs x with
  | some xs => (match y with
    | .int k => if 0 ≤ k ∧ k ≤ 1000 ∧ xs.length ≤ 1000 then .ok (List.replicate k.toNat xs).flatten hs else .bad
    | _ => .bad)
  | none => .bad
theorem uf_rep (ha : UE X Wd a f1) (hb : UE X Wd b f2) : UF X Wd (.BinOp a .Mult b pos) (lRep f1 f2) := by
  refine PE.imp (pe_op op_repL ha hb) fun σ H Q h => ?_
  obtain ⟨e, mu, hs, S, E, q⟩ := tG_seq (r := relD X.K) relF_ok h
  refine ⟨e, mu, hs, S, E, q.imp fun x H1 ⟨e, mu1, hs1, d, S1, E1, r1, g1⟩ => ?_⟩
  refine ⟨e, mu1, hs1, S1, E1, (Gd.bind (r := relD X.K) relF_ok g1).imp fun y H2 ⟨mu2, hs2, d2, l2, S2, r2, g2⟩ => ?_⟩
  split at g2
  · rename_i xs hx
    split at g2
    · rename_i k
      split at g2
      · rename_i hk
        obtain ⟨a, vs, rfl, ha, ra⟩ := lstOf_at S2 (RD.agr (l2.agr S1) r1) hx
        cases r2
        exact ⟨a, k, vs, rfl, rfl, .of ha, hk.1, hk.2.1, by rw [← ra.length]; exact hk.2.2, fun p hp => relF_new S2 g2 hp (ra.rep k.toNat)⟩
      · exact g2.elim
    · exact g2.elim
  · exact g2.elim
end
section
variable {e : Ev} {h : Hs} {X : XQ} {xs : List D} {i : Int}
theorem wp_lRep {f1 f2 : FE} {Q : List D → Hs → Prop} (q : Wp (f1 e h) (fun x h1 => Wp (f2 e h1) (fun y h2 => ∃ xs k, lstOf h2 x = some xs ∧ y = .int k ∧ (0 ≤ k ∧ k ≤ 1000 ∧ xs.length ≤ 1000) ∧ Q (List.replicate k.toNat xs).flatten h2) X) X) : Wp (lRep f1 f2 e h) Q X := by
  refine wp_bind (wp_mono q (fun x h1 q => wp_bind (wp_mono q (fun y h2 q => ?_) fun _ _ _ x => x)) fun _ _ _ x => x)
  obtain ⟨xs, k, e1, rfl, e2, q⟩ := q
  rw [e1]
  dsimp only
  rw [if_pos e2]
  exact wp_ok q
/-! ### like data -/
theorem eqD_same {d : D} (hl : lay d = true) (hd : dep d ≤ 60) : gEqD h d d = some true := by
  obtain ⟨p, h1, h2, h3⟩ := lay_pd (r := pdH h 40) hl
  have e : pd h d = some p := by
    have hc := h1
    cases d <;> first | exact h1 | (exact absurd hl Bool.false_ne_true)
  unfold gEqD
  rw [e]
  dsimp only
  have sh : SeqAt.shaped p = true := by
    unfold SeqAt.shaped
    rw [h2, decide_eq_true (show p.depth ≤ 64 by omega)]; rfl
  rw [sh]
  exact congrArg some (PySem.SeqAt.eqv_refl p h2)
theorem eqB_same {d : D} (hl : lay d = true) (hd : dep d ≤ 60) : gEqB h d d = some true := by
  have := eqD_same (h := h) hl hd
  cases d <;> first
    | exact this
    | (show some (_ == _) = _; rw [beq_self_eq_true])
theorem eq_like {d : D} (hl : lay d = true) (hd : dep d ≤ 60) : gEq h d d = some (.bl true) := by
  unfold gEq
  rw [eqB_same hl hd]; rfl
theorem ne_like {d : D} (hl : lay d = true) (hd : dep d ≤ 60) : gNe h d d = some (.bl false) := by
  unfold gNe
  rw [eqB_same hl hd]; rfl
end
end G

/-! # G40: gloves: what they are, their measures -/
namespace G
open PySem PySem.Spec PyProof.Rows L2
section
variable {h : Hs} {Q : D → Hs → Prop} {X : XQ} {d : D} {n k : Nat}
theorem int_bl {b : Bool} : gInt h [.bl b] = some (.int (if b then 1 else 0)) := by cases b <;> rfl
/-- the place of a three: by two truths -/
theorem at3 {b c : Bool} (hbc : ¬ (b = true ∧ c = true)) : 0 ≤ (if b = true then (1 : Int) else 0) + 2 * (if c = true then 1 else 0) ∧ (if b = true then (1 : Int) else 0) + 2 * (if c = true then 1 else 0) < 3 := by
  cases b <;> cases c <;> first | (constructor <;> decide) | exact absurd ⟨rfl, rfl⟩ hbc
theorem eq_ss {z : Str} : gEq h (.str z) (.str z) = some (.bl true) := by unfold gEq; rw [eq_str, beq_self_eq_true]; rfl
theorem ne_ss {z : Str} : gNe h (.str z) (.str z) = some (.bl false) := by unfold gNe; rw [eq_str, beq_self_eq_true]; rfl
theorem okR_in {i : Int} (h : 0 ≤ i) (h' : i ≤ 1000000) : okR i = true := by
  unfold okR
  rw [decide_eq_true (by omega), decide_eq_true (by omega)]; rfl
theorem Gl.is {g : D} (hg : Gl g) : isGv g = true := by
  obtain ⟨m, n, sd, st, lo, hi, gr, rfl, m0, m1, n0, n1, hsd, ⟨s1, s8, lw⟩, a, b, c, d, e, f⟩ := hg.ex
  have hs : isSd (.str (T sd)) = true := by rcases hsd with rfl | rfl <;> decide +kernel
  have hn : isNa (.str (T st)) = true := by
    show ((decide ((1 : Int) ≤ (T st).length) && decide (((T st).length : Int) ≤ 8)) && (T st).cps.toList.all isC) = true
    rw [T_len, T_cps, decide_eq_true (by omega), decide_eq_true (by omega), List.all_eq_true.mpr fun c hc => by
      have := lw c hc
      unfold isC
      rw [decide_eq_true (by omega), decide_eq_true (by omega)]; rfl]
    rfl
  show ((isB 0 999999 (.int m) && (isB 0 99 (.int n) && isSd (.str (T sd)))) && (isNa (.str (T st)) && _)) = true
  rw [hs, hn]
  simp only [isB, isW, leD, decide_eq_true m0, decide_eq_true m1, decide_eq_true n0, decide_eq_true n1, decide_eq_true a, decide_eq_true b, decide_eq_true c, decide_eq_true d, decide_eq_true e, decide_eq_true f]
  rfl
theorem gl_is : ∀ {g : D}, Gl g → isGv g = true := Gl.is
theorem Gl.sm {g : D} (hg : Gl g) : Sm 1 40 g := by
  obtain ⟨m, n, sd, st, lo, hi, gr, rfl, m0, m1, n0, n1, hsd, ⟨s1, s8, lw⟩, a, b, c, d, e, f⟩ := hg.ex
  have hs : okS (T sd) = true ∧ (T sd).length ≤ 1 := by rcases hsd with rfl | rfl <;> exact ⟨by decide +kernel, Nat.le_refl _⟩
  have i : ∀ j : Int, -1000000 ≤ j → j ≤ 1000000 → Sm 0 0 (.int j) := fun j h1 h2 => sm_int (by
    have : (10 : Nat) ^ 60 ≥ 10000000 := by decide
    omega)
  refine (sm_tup (sms_cons (i m (by omega) (by omega)) (sms_cons (i n (by omega) (by omega)) (sms_cons (sm_str (k := 0) (n := 1) hs.1 hs.2) (sms_cons (sm_str (k := 0) (n := 8) (lw_ok lw) (by rw [T_len]; exact s8)) (sms_cons (i lo (by omega) (by omega)) (sms_cons (i hi (by omega) (by omega)) (sms_cons (i gr (by omega) (by omega)) sms_nil)))))))).mono (by decide) (by decide)
theorem Gl.lay {g : D} (hg : Gl g) : lay g = true := by
  obtain ⟨m, n, sd, st, lo, hi, gr, rfl, m0, m1, n0, n1, hsd, ⟨s1, s8, lw⟩, _⟩ := hg.ex
  have h1 : okS (T sd) = true := by rcases hsd with rfl | rfl <;> decide +kernel
  show (true && (true && (okS (T sd) && (okS (T st) && (true && (true && (true && true))))))) = true
  rw [h1, lw_ok lw]; rfl
theorem Gl.val {g : D} (hg : Gl g) : val g = true := by
  obtain ⟨m, n, sd, st, lo, hi, gr, rfl, _⟩ := hg.ex
  rfl
theorem gls_sms {ds : List D} (hd : ∀ g ∈ ds, Gl g) : Sms 1 (41 * ds.length) ds := by
  induction ds with
  | nil => exact sms_nil
  | cons d ds ih => exact (sms_cons (hd d List.mem_cons_self).sm (ih fun g hg => hd g (List.mem_cons_of_mem _ hg))).mono (Nat.le_refl _) (by rw [List.length_cons]; omega)
theorem is_glove {g : D} (hg : Gl g) : c_is_glove [g] h = .ok (.bl true) h := by
  rw [glove_eq hg.sm.lf_ (Nat.le_trans hg.sm.blk_ (by decide)), hg.is]
theorem nm_sm {d : D} (h : IsNm d) : Sm 0 8 d := by
  obtain ⟨cs, rfl, a, b, c⟩ := h
  exact sm_str (lw_ok c) (by rw [T_len]; exact b)
end
end G

/-! # G41: != [] of any list; loops over lists told part by part -/
namespace G
open PySem PySem.Spec PyProof.Rows L2
def gNeL (hs : Hs) (d e : D) : Option D := match lstOf hs d with
  | some ds => (match e with | .lst [] => some (.bl (!ds.isEmpty)) | _ => none)
  | none => none
theorem og_neL {X : Cx} (hu : X.A.units + 64 < cLine) : OpR X (compareOp .NotEq) (rB X.K X.mg gNeL) := by
  rintro pins s σ H x y v u Q I rx ry ⟨mu, hs, d, e, w, S, r1, r2, hg, q⟩
  unfold gNeL at hg
  split at hg
  · rename_i ds hd
    split at hg
    · cases hg
      obtain ⟨a, vs, rfl, ha, ra⟩ := lstOf_at S r1 hd
      cases r2 with
      | lst h2 n2 rr2 =>
        cases rx; cases ry
        obtain ⟨its, rv, it, _⟩ := I.list (.of ha)
        obtain ⟨its2, rv2, it2, _⟩ := I.list (.of h2)
        have z2 : its2 = [] := by
          cases rr2
          cases rv2
          rfl
        subst z2
        have hl : its.length = ds.length := by rw [← rv.length, ← ra.length]
        by_cases hz : ds = []
        · subst hz
          have z1 : its = [] := List.eq_nil_of_length_eq_zero hl
          subst z1
          refine SeqAt.RcNeAt.lists (e := fun _ => true) it.isList it2.isList rfl (by omega) (fun j h1 h2 => by simp at h2) X.prog X.w X.xe _ ?_
          exact ⟨.bl false, H, I, rfl, fin0 S q (.bl false)⟩
        · have hn : its.length ≠ 0 := fun z => hz (List.eq_nil_of_length_eq_zero (by omega))
          refine SeqAt.RcNeAt.lists_lengths it.isList it2.isList (by simp; intro z; exact hn (by rw [z]; rfl)) (by omega) X.prog X.w X.xe _ ?_
          have e : (!ds.isEmpty) = true := by cases ds <;> first | exact absurd rfl hz | rfl
          rw [e] at q
          exact ⟨.bl true, H, I, rfl, fin0 S q (.bl true)⟩
    · cases hg
  · cases hg
theorem neL_lst {h : Hs} {ds : List D} : gNeL h (.lst ds) (.lst []) = some (.bl (!ds.isEmpty)) := rfl
theorem neL_ref {h : Hs} {n : Nat} {ds : List D} (e : h[n]? = some (.lst ds)) : gNeL h (.ref n) (.lst []) = some (.bl (!ds.isEmpty)) := by
  unfold gNeL
  have z : lstOf h (.ref n) = some ds := by
    show (match h[n]? with | some (.lst ds) => some ds | _ => none) = _
    rw [e]
  rw [z]
/-- [texts].index(text), found -/
def mLIndex (hs : Hs) (d : D) (ds : List D) : Option (D × Hs) := match lstOf hs d with
  | some xs => (match ds with
    | [.str y] => (match strsOf xs with | some ns => if y ∈ ns then some (.int (ns.idxOf y : Nat), hs) else none | none => none)
    | _ => none)
  | none => none
theorem mg_lindex {X : Cx} : MtR X "list.index" (rMd X.K X.mg mLIndex) := by
  rintro pins s σ H x xs v us Q I rx rxs ⟨mu, hs, d, ds, w, hs', S, r1, r2, hg, q⟩
  unfold mLIndex at hg
  split at hg
  · rename_i xs' hx
    split at hg
    · rename_i y
      split at hg
      · rename_i ns hn
        split at hg
        · rename_i hy
          cases hg
          obtain ⟨a, vs, rfl, h1, h3⟩ := lstOf_at S r1 hx
          have e := strsOf_eq hn
          subst e
          have e2 := RDs.of_strs h3
          subst e2
          cases r2 with
          | cons r3 r4 =>
            cases r3; cases r4
            have hlt : ns.idxOf y < ns.length := List.idxOf_lt_length_iff.mpr hy
            refine mt_index pins s σ H _ _ v us Q I rx rxs ⟨a, _, .str y, ns.idxOf y, .str y, rfl, rfl, .of h1, rfl, ?_, ?_, ?_, ?_, q mu H _ .refl S (.int _)⟩
            · rw [List.all_map]
              exact List.all_eq_true.mpr fun _ _ => rfl
            · rw [List.getElem?_map, List.getElem?_eq_getElem hlt, List.getElem_idxOf hlt]; rfl
            · show (y == y) = true
              exact beq_self_eq_true y
            · intro m z' hm hz
              rw [List.getElem?_map, List.getElem?_eq_getElem (Nat.lt_trans hm hlt)] at hz
              cases hz
              show (ns[m] == y) = false
              have z := List.not_of_lt_findIdx (p := (· == y)) (xs := ns) (i := m) hm
              cases e : (ns[m] == y) with
              | false => rfl
              | true => exact absurd e (by simpa using z)
        · cases hg
      · cases hg
    · cases hg
  · cases hg
/-! ### and, or as values, by truth -/
theorem tru_at {K : PySem.W.Frag} {mg : Str → Option Value} {mu1 : Mp} {hs1 : Hs} {H1 : Hp} {d : D} {x : V} {k : Bool} (S1 : Sim K mg mu1 hs1 H1) (r1 : RD K mu1 H1 d x) (q : tru hs1 d = some k) : TruV K x H1 k := by
  cases r1 with
  | non => cases q; rfl
  | bl b => cases q; rfl
  | int i => cases q; rfl
  | str s =>
    unfold tru at q
    dsimp only at q
    split at q
    · cases q; exact ⟨by assumption, rfl⟩
    · cases q
  | tup h r => cases q; exact .inr (.inl ⟨_, h.sq, by rw [isEmpty_of r]⟩)
  | lst h n r => cases q; exact .inl ⟨_, .of h, by show (!List.isEmpty _) = _; rw [isEmpty_of r]⟩
  | scr h r => cases q; exact .inl ⟨_, h.sq, by show (!List.isEmpty _) = _; rw [isEmpty_of r]⟩
  | ref h =>
    unfold tru at q
    dsimp only at q
    split at q
    · rename_i ds hd
      cases q
      obtain ⟨u, e2, e3⟩ := S1.at h hd
      cases u with
      | lst vs => exact .inl ⟨vs, .of e2, by rw [isEmpty_of (show RDs _ _ _ ds vs from e3)]⟩
      | _ => exact e3.elim
    · rename_i kvs hd
      cases q
      obtain ⟨u, e2, e3⟩ := S1.at h hd
      cases u with
      | dK vs =>
        refine .inr (.inr ⟨vs, e2, ?_⟩)
        cases (show RKs _ _ _ kvs vs from e3) <;> rfl
      | _ => exact e3.elim
    · cases q
  | ty t => cases q
  | dtp _ _ _ _ => cases q
  | ins _ _ _ _ _ => cases q
  | glb _ => cases q
  | exn0 _ _ => cases q
  | exnd _ _ _ _ _ => cases q
  | ctp h r => cases q; exact .inr (.inl ⟨_, sqT_c h, by rw [isEmpty_of r]⟩)
  | dct h n z r =>
    cases q
    refine .inr (.inr ⟨_, h, ?_⟩)
    show (!List.isEmpty _) = !List.isEmpty _
    congr 1
    exact isEmpty_zip r
section
variable {X : Cx} {Wd : WX} {a b : Expr} {f1 f2 : FE} {pos : Pos} {rest : List Expr}
def eOrT (f g : FE) : FE := fun e hs => (f e hs).bind fun d hs => match tru hs d with | some true => .ok d hs | some false => g e hs | none => .bad
def eAndT (f g : FE) : FE := fun e hs => (f e hs).bind fun d hs => match tru hs d with | some true => g e hs | some false => .ok d hs | none => .bad
theorem ue_orT (ha : UE X Wd a f1) (hb : UE X Wd (.BoolOp .Or (b :: rest) pos) f2) : UE X Wd (.BoolOp .Or (a :: b :: rest) pos) (eOrT f1 f2) := by
  refine PE.imp (pe_orT ha hb) fun σ H Q h => ?_
  obtain ⟨e, mu, hs, S, E, q⟩ := tG_seq (r := relD X.K) relD_ok h
  refine ⟨e, mu, hs, S, E, q.imp fun c H1 ⟨e, mu1, hs1, d, S1, E1, r1, g2⟩ => ?_⟩
  cases q : tru hs1 d with
  | none => rw [q] at g2; exact g2.elim
  | some k =>
    rw [q] at g2
    refine ⟨k, tru_at S1 r1 q, ?_⟩
    cases k with
    | true => rw [if_pos rfl]; exact g2 mu1 H1 _ .refl S1 r1
    | false => rw [if_neg Bool.false_ne_true]; exact ⟨e, mu1, hs1, S1, E1, g2⟩
theorem ue_andT (ha : UE X Wd a f1) (hb : UE X Wd (.BoolOp .And (b :: rest) pos) f2) : UE X Wd (.BoolOp .And (a :: b :: rest) pos) (eAndT f1 f2) := by
  refine PE.imp (pe_andT ha hb) fun σ H Q h => ?_
  obtain ⟨e, mu, hs, S, E, q⟩ := tG_seq (r := relD X.K) relD_ok h
  refine ⟨e, mu, hs, S, E, q.imp fun c H1 ⟨e, mu1, hs1, d, S1, E1, r1, g2⟩ => ?_⟩
  cases q : tru hs1 d with
  | none => rw [q] at g2; exact g2.elim
  | some k =>
    rw [q] at g2
    refine ⟨k, tru_at S1 r1 q, ?_⟩
    cases k with
    | true => rw [if_pos rfl]; exact ⟨e, mu1, hs1, S1, E1, g2⟩
    | false => rw [if_neg Bool.false_ne_true]; exact g2 mu1 H1 _ .refl S1 r1
end
section
variable {e : Ev} {hs : Hs} {X : XQ} {Q : D → Hs → Prop}
theorem wp_orT {f g : FE} (h : Wp (f e hs) (fun d h => ∃ c, tru h d = some c ∧ (c = true → Q d h) ∧ (c = false → Wp (g e h) Q X)) X) : Wp (eOrT f g e hs) Q X := by
  refine wp_bind (wp_mono h (fun d h' q => ?_) fun _ _ _ x => x)
  obtain ⟨c, e1, q1, q2⟩ := q
  rw [e1]
  cases c with
  | true => exact wp_ok (q1 rfl)
  | false => exact q2 rfl
theorem wp_andT {f g : FE} (h : Wp (f e hs) (fun d h => ∃ c, tru h d = some c ∧ (c = true → Wp (g e h) Q X) ∧ (c = false → Q d h)) X) : Wp (eAndT f g e hs) Q X := by
  refine wp_bind (wp_mono h (fun d h' q => ?_) fun _ _ _ x => x)
  obtain ⟨c, e1, q1, q2⟩ := q
  rw [e1]
  cases c with
  | true => exact q1 rfl
  | false => exact wp_ok (q2 rfl)
end
/-- the rest of a walk over a list -/
def Wl (g : FG) (body : FS) (P : Po) : List D → Ev → Hs → Prop
  | [], e, h => P.nx e h
  | d :: ds, e, h => ∃ e', g d e = some e' ∧ Ws (body e' h) (P.lp (Wl g body P ds))
theorem ws_part {f : FI} {e : Ev} {g : FG} {body : FS} {hs : Hs} {P : Po} (q : Wp (f e hs) (fun nx h => ∃ ds, nx = nxL ds ∧ ds.length ≤ 100000 ∧ Wl g body P ds e h) (fun c fs h => P.ex c fs e h)) : Ws (sFor f g body e hs) P := by
  refine ws_for (wp_mono q (fun nx h' q => ?_) fun _ _ _ x => x)
  obtain ⟨ds, rfl, hl, q⟩ := q
  refine ⟨ds.length, fun i e h => Wl g body P (ds.drop i) e h, hl, q, ?_, ?_⟩
  · intro i e1 h1 hi hI
    rw [List.drop_eq_getElem_cons hi] at hI
    obtain ⟨e', q1, q2⟩ := hI
    exact ⟨ds[i], e', nxL_some hi, q1, q2⟩
  · intro e1 h1 hI
    rw [List.drop_length] at hI
    exact ⟨nxL_stop, hI⟩
end G

/-! # G42: a tuple times one -/
namespace G
open PySem PySem.Spec PyProof.Rows L2
theorem tuple_mul1 (l : Addr) (items : Array Value) (n : Nat) (dd : Option Addr) (sl : Array (Option Value)) (u : Tok) :
    Meets (Builtin.«tuple.__mul__» ⟨[.ref l, .int 1 u], []⟩) (fun _ R s => s.heap.get? l = some { cls := .type "tuple", dict := dd, data := .seq items n, slots := sl } ∧
      R (.ok (.ret (Value.ref l))) s) :=
  .of_wp fun prog w A R s h => by
    obtain ⟨hp, g, d, tk, os⟩ := s
    obtain ⟨hl, h⟩ := h
    have f1 := AutoSeq1.idx_int
    have c0 : (decide ((1 : Int) < -(2 ^ 63)) || decide ((1 : Int) ≥ 2 ^ 63)) = false := rfl
    have c1 : (items.isEmpty || (1 : Int) == 1) = true := Bool.or_true _
    wp_walk using wpAny_loadPart' hl
    repeat (first
      | (refine wpAny_ite_false (decide_eq_false (by rw [c0]; exact Bool.false_ne_true)) ?_; wp_walk using wpAny_loadPart' hl)
      | (refine wpAny_ite_true (decide_eq_true c1) ?_; wp_walk using wpAny_loadPart' hl))
    exact ⟨_, rfl, h⟩
def rRepT1 (K : PySem.W.Frag) : R2 := fun x y H Q => ∃ l xs, x = .ref l ∧ y = .int 1 ∧ SqT K H l xs ∧ Q (.ref l) H
section
variable {X : Cx}
theorem op_repT1 : OpR X (binaryOp .Mult) (rRepT1 X.K) := by
  intro pins s σ H x y v u Q I rx ry h
  obtain ⟨l, xs, rfl, rfl, hT, q⟩ := h
  cases rx
  obtain ⟨t, rfl⟩ := ry
  obtain ⟨its, r, ⟨⟨cls, dd, data, sl⟩, ho, hc, n, hd⟩, hs⟩ := I.tuple hT
  simp only at hc hd
  subst hc hd
  refine wpAny_binaryOp_repeat_ref (T := "tuple") (U := "int") (by decide) ⟨_, ho, rfl⟩ (fun s' => typeIs_int s' 1 t) noFill_tuple_mul F.fills_int_mul F.slot_int_rmul repeat_tuple F.slot_int_index.lookup
    (call_meets F.slot_int_rmul (typeIs_int s 1 t) F.entry_int_rmul (F.args_int_rmul_2 _ _) (int_rmul_tuple 1 t l its.toArray n dd sl)
      ⟨ho, rfl, ⟨_, ho, rfl⟩, call_meets F.slot_tuple_mul ⟨_, ho, rfl⟩ F.entry_tuple_mul (F.args_tuple_mul_2 _ _) (tuple_mul1 l its.toArray n dd sl t) ⟨ho, ?_⟩⟩)
  exact ⟨.ref l, H, I, rfl, q⟩
/-- .. a tuple times any number from one on -/
def gMulT (hs : Hs) (d e : D) : Option D := match d with
  | .tup xs => (match e with | .int k => if k = 1 then some (.tup xs) else gMulS hs (.tup xs) (.int k) | e => gMulS hs (.tup xs) e)
  | d => gMulS hs d e
theorem og_mulT : OpR X (binaryOp .Mult) (rB X.K X.mg gMulT) := by
  rintro pins s σ H x y v u Q I rx ry ⟨mu, hs, d, e, w, S, r1, r2, hg, q⟩
  unfold gMulT at hg
  split at hg
  · rename_i xs
    split at hg
    · rename_i k
      split at hg
      · rename_i hk
        subst hk
        cases hg
        cases r2
        cases r1 with
        | tup ht hr => exact op_repT1 pins s σ H _ _ v u Q I rx ry ⟨_, _, rfl, rfl, ht.sq, q mu H _ .refl S (.tup ht hr)⟩
      · exact og_mulS pins s σ H x y v u Q I rx ry ⟨mu, hs, _, _, w, S, r1, r2, hg, q⟩
    · exact og_mulS pins s σ H x y v u Q I rx ry ⟨mu, hs, _, _, w, S, r1, r2, hg, q⟩
  · exact og_mulS pins s σ H x y v u Q I rx ry ⟨mu, hs, _, _, w, S, r1, r2, hg, q⟩
theorem mulT_tup {h : Hs} {xs : List D} {n : Int} (h1 : 1 ≤ n) (h2 : n ≤ 1000) (h3 : xs.isEmpty = false) (h4 : xs.length ≤ 1000) : gMulT h (.tup xs) (.int n) = some (.tup (List.replicate n.toNat xs).flatten) := by
  by_cases e : n = 1
  · subst e
    show (if (1 : Int) = 1 then some (D.tup xs) else gMulS h (.tup xs) (.int 1)) = _
    rw [if_pos rfl]
    show some (D.tup xs) = some (.tup (xs ++ []))
    rw [List.append_nil]
  · show (if n = 1 then some (D.tup xs) else gMulS h (.tup xs) (.int n)) = _
    rw [if_neg e]
    exact mulS_tup (by omega) h2 h3 h4
end
end G

/-! # G43: partition -/
namespace G
open PySem PySem.Spec PyProof.Rows L2
section
variable {X : Cx} {Wd : WX} {st : Stmt}
/-- text.partition(sign) -/
def mPart (hs : Hs) (d : D) (ds : List D) : Option (D × Hs) := match d with
  | .str a => (match ds with
    | [.str b] => if (b.length == 0) = false ∧ a.length ≤ sizeLine then some (.tup [.str (Txt.partition a b).1, .str (Txt.partition a b).2.1, .str (Txt.partition a b).2.2], hs) else none
    | _ => none)
  | _ => none
theorem mg_part : MtR X "str.partition" (rMd X.K X.mg mPart) := by
  rintro pins s σ H x xs v us Q I rx rxs ⟨mu, hs, d, ds, w, hs', S, r1, r2, hg, q⟩
  unfold mPart at hg
  split at hg
  · rename_i a
    split at hg
    · rename_i b
      split at hg
      · rename_i hz
        cases hg
        cases r1
        cases r2 with
        | cons r3 r4 =>
          cases r3; cases r4
          exact mt_partition pins s σ H _ _ v us Q I rx rxs ⟨a, b, rfl, rfl, hz.1, hz.2, fun p hp => q mu _ _ (.new hp) (S.new hp) (.tup ⟨upd_same, S.fresh hp⟩ (.cons (.str _) (.cons (.str _) (.cons (.str _) .nil))))⟩
      · cases hg
    · cases hg
  · cases hg
/-! ### dict.get(key, default) -/
def dkOf (hs : Hs) : D → Option (List (Key × D))
  | .ref n => (match hs[n]? with | some (.dk kvs) => some kvs | _ => none)
  | _ => none
theorem dkOf_at {K : PySem.W.Frag} {mg : Str → Option Value} {mu : Mp} {hs : Hs} {H : Hp} {d : D} {v : V} {kvs : List (Key × D)} (S : Sim K mg mu hs H) (r : RD K mu H d v) (e : dkOf hs d = some kvs) : ∃ a vs, v = .ref a ∧ H a = some (.dK vs) ∧ RKs K mu H kvs vs := by
  cases r with
  | ref q =>
    unfold dkOf at e
    dsimp only at e
    split at e
    · rename_i kvs' hd
      cases e
      obtain ⟨u, h1, h2⟩ := S.at q hd
      cases u with
      | dK vs => exact ⟨_, vs, rfl, h1, h2⟩
      | _ => exact h2.elim
    · cases e
  | _ => cases e
def gGet (hs : Hs) (d k z : D) : Option D := match dkOf hs d with
  | some kvs => (match keyD k with | some x => some ((valG kvs x).getD z) | none => none)
  | none => none
def eGet2 (f1 f2 f3 : FE) : FE := fun e hs => (f1 e hs).bind fun d hs => match dkOf hs d with
  | some _ => (f2 e hs).bind fun k hs => (f3 e hs).bind fun z hs => R.ofO (gGet hs d k z) hs
  | none => .bad
variable {o a b : Expr} {apos cpos : Pos} {fo f1 f2 : FE}
theorem ue_get2 (hu : X.A.units + 1 < cLine) (ho : UE X Wd o fo) (ha : UE X Wd a f1) (hb : UE X Wd b f2) (m : M2 X o "get" apos a b cpos) : UE X Wd (.Call (.Attribute o "get" apos) [a, b] [] cpos) (eGet2 fo f1 f2) := by
  refine PE.imp (pe_dget2 hu ho ha hb m) fun σ H Q h => ?_
  obtain ⟨e, mu, hs, S, E, q⟩ := tG_seq (r := relD X.K) relD_ok h
  refine ⟨e, mu, hs, S, E, q.imp fun x H1 ⟨e, mu1, hs1, d, S1, E1, r1, g1⟩ => ?_⟩
  split at g1
  · rename_i kvs hd
    obtain ⟨p, vs, rfl, hp, hk⟩ := dkOf_at S1 r1 hd
    refine ⟨p, rfl, .inl ⟨vs, .inl hp⟩, e, mu1, hs1, S1, E1, (Gd.bind (r := relD X.K) relD_ok g1).imp fun y H2 ⟨mu2, hs2, d2, l2, S2, r2, g2⟩ => ?_⟩
    refine ⟨e, mu2, hs2, S2, E1.agr (l2.agr S1), (Gd.bind (r := relD X.K) relD_ok g2).imp fun z H3 ⟨mu3, hs3, d3, l3, S3, r3, g3⟩ => ?_⟩
    unfold gGet at g3
    have r13 := RD.agr (l3.agr S2) (RD.agr (l2.agr S1) r1)
    cases e1 : dkOf hs3 d with
    | none => rw [e1] at g3; exact g3.elim
    | some kvs3 =>
      rw [e1] at g3
      dsimp only at g3
      cases e2 : keyD d2 with
      | none => rw [e2] at g3; exact g3.elim
      | some x =>
        rw [e2] at g3
        dsimp only at g3
        obtain ⟨p', vs3, ep, hp3, hk3⟩ := dkOf_at S3 r13 e1
        cases ep
        have ey := keyD_at (RD.agr (l3.agr S2) r2) e2
        subst ey
        refine ⟨_, .k hp3, ?_⟩
        obtain ⟨v1, v2⟩ := hk3.val (x := x)
        cases ev : valG kvs3 x with
        | none =>
          rw [ev] at g3
          rw [v2 ev]
          exact g3 mu3 H3 _ .refl S3 r3
        | some w =>
          rw [ev] at g3
          obtain ⟨w', hw, rw'⟩ := v1 w ev
          rw [hw]
          exact g3 mu3 H3 _ .refl S3 rw'
  · exact g1.elim
end
section
variable {e : Ev} {hs : Hs} {X : XQ} {Q : D → Hs → Prop}
theorem wp_get2 {f1 f2 f3 : FE} (q : Wp (f1 e hs) (fun d h => (∃ kvs, dkOf h d = some kvs) ∧ Wp (f2 e h) (fun k h => Wp (f3 e h) (fun z h => Wp (R.ofO (gGet h d k z) h) Q X) X) X) X) : Wp (eGet2 f1 f2 f3 e hs) Q X := by
  refine wp_bind (wp_mono q (fun d h' q => ?_) fun _ _ _ x => x)
  obtain ⟨⟨kvs, e1⟩, q⟩ := q
  rw [e1]
  exact wp_bind (wp_mono q (fun k h' q => wp_bind q) fun _ _ _ x => x)
end
end G

/-! # G44: int(word, 36); a dict's entry read; sorted(dict) -/
namespace G
open PySem PySem.Spec PyProof.Rows L2
namespace B36
open PySem.NumText PySem.Calls
/-- a figure of the base 36, as a small letter -/
def Fig (c : Nat) : Prop := (48 ≤ c ∧ c < 58) ∨ (97 ≤ c ∧ c < 123)
def figB (c : Nat) : Bool := (decide (48 ≤ c) && decide (c < 58)) || (decide (97 ≤ c) && decide (c < 123))
theorem fig_of {c : Nat} (h : figB c = true) : Fig c := by unfold figB at h; simp only [Bool.or_eq_true, Bool.and_eq_true, decide_eq_true_eq] at h; exact h
def wt (c : Nat) : Nat := if c < 58 then c - 48 else c - 87
def val36 (l : List Nat) : Nat := l.foldl (fun a c => a * 36 + wt c) 0
theorem wt_lt {c : Nat} (h : Fig c) : wt c < 36 := by unfold Fig at h; unfold wt; split <;> omega
theorem digit_fig {c : Nat} (h : Fig c) : digit? c = some (wt c) := by
  unfold Fig at h
  unfold digit? wt
  by_cases q : c < 58
  · have a1 : (decide (48 ≤ c) && decide (c ≤ 57)) = true := by simp only [Bool.and_eq_true, decide_eq_true_eq]; omega
    rw [if_pos a1, if_pos q]
  · have a1 : ¬ (decide (48 ≤ c) && decide (c ≤ 57)) = true := by simp only [Bool.and_eq_true, decide_eq_true_eq]; omega
    have a2 : (decide (97 ≤ c) && decide (c ≤ 122)) = true := by simp only [Bool.and_eq_true, decide_eq_true_eq]; omega
    rw [if_neg a1, if_pos a2, if_neg q]
theorem one_fig {ds : Array Nat} {b : Bool} {c : Nat} (h : Fig c) : PySem.NumText.step 36 (ds, b) c = some (ds.push (wt c), true) := by
  unfold PySem.NumText.step
  have n : ¬ (c == 95) = true := by unfold Fig at h; rw [beq_iff_eq]; omega
  rw [if_neg n, digit_fig h]
  dsimp only
  rw [if_pos (wt_lt h)]
theorem all_fig : ∀ (cs : List Nat) (ds : Array Nat), (∀ c ∈ cs, Fig c) → cs.foldlM (PySem.NumText.step 36) (ds, true) = some ((cs.map wt).foldl Array.push ds, true)
  | [], _, _ => rfl
  | c :: cs, ds, h => by
    rw [List.foldlM_cons, one_fig (h c List.mem_cons_self)]
    exact all_fig cs _ fun d hd => h d (List.mem_cons_of_mem c hd)
theorem dig_fig {cs : List Nat} (h : ∀ c ∈ cs, Fig c) (ne : cs ≠ []) : digits? 36 cs = some ((cs.map wt).foldl Array.push #[]) := by
  cases cs with
  | nil => exact (ne rfl).elim
  | cons c cs =>
    unfold digits?
    rw [List.foldlM_cons, one_fig (h c List.mem_cons_self)]
    refine (congrArg (fun z => Option.bind z _) (all_fig cs _ fun d hd => h d (List.mem_cons_of_mem c hd))).trans ?_
    rfl
theorem num_fig : ∀ (l : List Nat) (ds : Array Nat), ((l.map wt).foldl Array.push ds).foldl (fun acc d => acc * 36 + d) 0 = l.foldl (fun a c => a * 36 + wt c) (ds.foldl (fun acc d => acc * 36 + d) 0)
  | [], _ => rfl
  | c :: l, ds => by
    rw [List.map_cons, List.foldl_cons, num_fig l, List.foldl_cons]
    congr 1
    simp
theorem pre_ne {t : List Nat} {p : Nat} (h : NumText.prefix? t = some p) : (p == 36) = false := by
  unfold NumText.prefix? at h
  repeat' split at h
  all_goals first | (cases h; decide) | cases h
theorem based36 (t : List Nat) : based 36 t = (36, false, t) := by
  unfold based
  cases e : NumText.prefix? t with
  | none => rfl
  | some p =>
    dsimp only
    have q : ((36 : Nat) == 0 || (36 : Nat) == p) = false := by
      have := pre_ne e
      rw [beq_eq_false_iff_ne] at this
      simp only [Bool.or_eq_false_iff, beq_eq_false_iff_ne]
      exact ⟨by decide, fun z => this z.symm⟩
    rw [q]; rfl
theorem trim {cs : List Nat} (h : ∀ c ∈ cs, Fig c) : cs.dropWhile blank = cs := by
  cases cs with
  | nil => rfl
  | cons c cs =>
    have q := h c List.mem_cons_self
    unfold Fig at q
    exact dropWhile_of (by omega)
theorem nosign {cs : List Nat} (h : ∀ c ∈ cs, Fig c) : sign cs = (false, cs) := by
  cases cs with
  | nil => rfl
  | cons c cs =>
    have q := h c List.mem_cons_self
    unfold Fig at q
    exact sign_of (by omega) (by omega)
theorem read36 {cs : List Nat} (h : ∀ c ∈ cs, Fig c) (ne : cs ≠ []) : (int_private% "readNumeral") 0 36 cs = (int_private% "Numeral.value") ((val36 cs : Nat) : Int) := by
  have hr : ∀ c ∈ cs.reverse, Fig c := fun c hc => h c (List.mem_reverse.mp hc)
  rw [readNumeral_eq, trim h, nosign h]
  dsimp only
  rw [based36]
  dsimp only
  rw [trim hr, List.reverse_reverse, dig_fig h ne]
  unfold judge
  dsimp only
  have z : (#[] : Array Nat).foldl (fun acc d => acc * 36 + d) 0 = 0 := by simp
  rw [num_fig, z]
  rfl
theorem seen36 {x : Str} (h : ∀ c ∈ x.cps.toList, Fig c) : numTextOf x = x.cps.toList ∧ numSeenOf x = x.cps.toList := by
  have e1 : numTextOf x = x.cps.toList := by
    unfold numTextOf
    rw [if_pos]
    rw [← Array.all_toList, List.all_eq_true]
    intro c hc
    have q := h c hc
    unfold Fig at q
    exact decide_eq_true (by omega)
  refine ⟨e1, ?_⟩
  unfold numSeenOf
  rw [e1]
  exact takeWhile_all fun c hc => bne_iff_ne.mpr (by have q := h c hc; unfold Fig at q; omega)
set_option maxHeartbeats 4000000 in
theorem made36 {x : PySem.Str} {u t : Tok} (hl : x.length ≤ 640) (h : ∀ c ∈ x.cps.toList, Fig c) (ne : x.cps.toList ≠ []) :
    Gives (Builtin.«int.__new__» ⟨[.type "int", .str x u, .int 36 t], []⟩) (.int ((val36 x.cps.toList : Nat) : Int)) := by
  refine .of_wp fun M A E s Q hQ => ?_
  obtain ⟨hp, g, d, tk, os⟩ := s
  have f1 := F.conv_sub_int
  have f2 := F.madeHere_int
  have f6 : typeOf (.str x u) = pure (.type "str") := rfl
  obtain ⟨e1, e2⟩ := seen36 h
  have hk : Hx.Hid ((numSeenOf x).length ≤ 640 ∧ (int_private% "readNumeral") 0 36 (numSeenOf x) = (int_private% "Numeral.value") ((val36 x.cps.toList : Nat) : Int) ∧ ((numSeenOf x).length == (numTextOf x).length) = true) := by
    refine ⟨by rw [e2, Array.length_toList]; exact hl, by rw [e2]; exact read36 h ne, by rw [e1, e2]; exact beq_self_eq_true _⟩
  clear e1 e2 hl ne h
  repeat (any_goals (first | assumption | ((with_reducible show wpAny _ _ ((int_private% "intFromText") _ _ _) _ _ _); refine Hx.wp_textB hk.out.1 hk.out.2.1 hk.out.2.2 ?_) | wp_step))
  all_goals first | exact ⟨_, rfl, hQ⟩ | skip
theorem call36 {prog : Program} {w : World} {A : Around} {E : Value → Shared → Prop} {s : Shared} {Q : Value → Shared → Prop} {x : PySem.Str} {u t : Tok} (hl : x.length ≤ 640) (h : ∀ c ∈ x.cps.toList, Fig c) (ne : x.cps.toList ≠ [])
    (hQ : Q (.int ((val36 x.cps.toList : Nat) : Int) s.toks) { s with toks := s.toks + 1 }) : wpAny (model prog w) A (call (.type "int") [.str x u, .int 36 t]) Q E s :=
  callType_new F.called_int F.newNe_int (Hx.typeCall_int_2 _ _) (Hx.newCall_int_2 _ _) (fun obj => F.initArgs_range_2 obj _ _) F.entry_int_new (made36 hl h ne).meets (show (Made.int ((val36 x.cps.toList : Nat) : Int)).post _ s from ⟨rfl, hQ⟩)
end B36
section
variable {X : Cx} {Wd : WX}
/-- int(word, 36) -/
def gInt36 (hs : Hs) (ds : List D) : Option D := match ds with
  | [.str z, .int i] => if i = 36 ∧ z.cps.toList ≠ [] ∧ z.length ≤ 640 ∧ z.cps.toList.all B36.figB = true then some (.int ((B36.val36 z.cps.toList : Nat) : Int)) else none
  | _ => none
theorem cg_int36 : CallR X (.type "int") (rC X.K X.mg gInt36) := by
  rintro pins s σ H xs us Q I r ⟨mu, hs, ds, w, S, rs, hg, q⟩
  unfold gInt36 at hg
  split at hg
  · split at hg
    · rename_i z i hz
      obtain ⟨rfl, h1, h2, h3⟩ := hz
      cases hg
      cases rs with
      | cons r1 r2 =>
        cases r2 with
        | cons r2 r3 =>
          cases r3; cases r1; cases r2
          obtain ⟨u, w', rfl, q1, q2⟩ := vals2 r
          obtain ⟨t1, rfl⟩ := q1
          obtain ⟨t2, rfl⟩ := q2
          exact B36.call36 h2 (fun c hc => B36.fig_of (List.all_eq_true.mp h3 c hc)) h1 ⟨.int _, H, I.tok _, ⟨_, rfl⟩, fin0 S q (.int _)⟩
    · cases hg
  · cases hg
theorem iog_div : OpR X (inplaceOp .FloorDiv) (rB X.K X.mg gDiv) := by
  rintro pins s σ H x y v u Q I rx ry ⟨mu, hs, d, e, w, S, r1, r2, hg, q⟩
  unfold gDiv at hg
  split at hg <;> try cases hg
  split at hg <;> try cases hg
  split at hg <;> try cases hg
  rename_i hz
  cases r1; cases r2
  exact iop_fdiv pins s σ H _ _ v u Q I rx ry ⟨_, _, rfl, rfl, hz, fin0 S q (.int _)⟩
/-! ### d[key] -/
def gDget (hs : Hs) (d k : D) : Option D := match atD hs d k with | some o => o | none => none
theorem ue_dget {o i : Expr} {fo fi : FE} {pos : Pos} (hu : X.A.units + 1 < cLine) (ho : UE X Wd o fo) (hi : UE X Wd i fi) (hs : NoSl i := by exact fun _ _ => rfl) : UE X Wd (.Subscript o i pos) (eBin gDget fo fi) := by
  refine PE.imp (pe_dget hu ho hi hs) fun σ H Q h => ?_
  obtain ⟨e, mu, hs, S, E, q⟩ := tG_seq (r := relD X.K) relD_ok h
  refine ⟨e, mu, hs, S, E, q.imp fun x H1 ⟨e, mu1, hs1, d, S1, E1, r1, g1⟩ => ?_⟩
  refine ⟨e, mu1, hs1, S1, E1, (Gd.bind (r := relD X.K) relD_ok g1).imp fun y H2 ⟨mu2, hs2, k, l2, S2, r2, g2⟩ => ?_⟩
  cases e1 : atD hs2 d k with
  | none => unfold gDget at g2; rw [e1] at g2; exact g2.elim
  | some o =>
    cases o with
    | none => unfold gDget at g2; rw [e1] at g2; exact g2.elim
    | some w =>
      unfold gDget at g2
      rw [e1] at g2
      obtain ⟨a, ov, rfl, hd, _, hw⟩ := atD_at S2 r2 (RD.agr (l2.agr S1) r1) e1
      obtain ⟨v, rfl, rv⟩ := hw w rfl
      exact ⟨a, v, rfl, hd, g2 mu2 H2 _ .refl S2 rv⟩
/-! ### sorted(dict), its keys texts -/
def txtKeys : List (Key × D) → Option (List Str)
  | [] => some []
  | (.inr s, _) :: r => (match txtKeys r with | some ks => some (s :: ks) | none => none)
  | (.inl _, _) :: _ => none
theorem txtKeys_at {K : PySem.W.Frag} {mu : Mp} {H : Hp} : ∀ {kvs : List (Key × D)} {vs : List (Key × V)} {ks : List Str}, RKs K mu H kvs vs → txtKeys kvs = some ks → vs.map (·.1) = ks.map Sum.inr
  | _, _, _, .nil, e => by cases e; rfl
  | (.inr s, _) :: r, _, ks, .cons _ t, e => by
    unfold txtKeys at e
    split at e
    · rename_i ks' h
      cases e
      rw [List.map_cons, txtKeys_at t h]; rfl
    · cases e
  | (.inl _, _) :: _, _, _, .cons _ _, e => by cases e
def leT (a b : Str) : Prop := ltCps b.cps.toList a.cps.toList = false
theorem leT_iff {a b : Str} : leT a b ↔ ¬ b.cps.toList < a.cps.toList := by unfold leT; rw [ltCps_eq, decide_eq_false_iff_not]
theorem leT_anti {a b : Str} (h : leT a b) (g : leT b a) : a = b := by
  rw [leT_iff] at h g
  exact Str.ext' (Array.toList_inj.mp (List.le_antisymm (List.not_lt.mp h) (List.not_lt.mp g)))
theorem leT_trans {a b c : Str} (h : leT a b) (g : leT b c) : leT a c := by
  rw [leT_iff] at h g ⊢
  exact List.not_lt.mpr (List.le_trans (List.not_lt.mp h) (List.not_lt.mp g))
theorem leT_total {a b : Str} (h : ¬ leT a b) : leT b a := by
  rw [leT_iff] at h ⊢
  have h := Classical.not_not.mp h
  exact fun g => List.lt_asymm h g
theorem uniq_sorted {t : Type} (le : t → t → Prop) (anti : ∀ a b, le a b → le b a → a = b) : ∀ {l m : List t}, l.Perm m → l.Pairwise le → m.Pairwise le → l = m
  | [], m, p, _, _ => (List.nil_perm.mp p).symm
  | a :: l, [], p, _, _ => (List.perm_nil.mp p)
  | a :: l, b :: m, p, h, g => by
    have e : a = b := by
      rcases List.mem_cons.mp (p.subset (List.mem_cons_self : a ∈ a :: l)) with q | q
      · exact q
      · rcases List.mem_cons.mp (p.symm.subset (List.mem_cons_self : b ∈ b :: m)) with q' | q'
        · exact q'.symm
        · exact anti a b (List.rel_of_pairwise_cons h q') (List.rel_of_pairwise_cons g q)
    subst e
    rw [uniq_sorted le anti (List.perm_cons a |>.mp p) h.of_cons g.of_cons]
theorem rising_pw : ∀ (l : List Str) (p : Str), risingS p l = true → (p :: l).Pairwise leT
  | [], _, _ => List.pairwise_singleton _ _
  | x :: l, p, h => by
    unfold risingS at h
    rw [Bool.and_eq_true, Bool.not_eq_true'] at h
    have ih := rising_pw l x h.2
    refine List.pairwise_cons.mpr ⟨fun y hy => ?_, ih⟩
    rcases List.mem_cons.mp hy with rfl | hy
    · exact h.1
    · exact leT_trans (show leT p x from h.1) (List.rel_of_pairwise_cons ih hy)
theorem sorted_pw {l : List Str} (h : sortedS l = true) : l.Pairwise leT := by
  cases l with
  | nil => exact .nil
  | cons x l => exact rising_pw l x h
/-- the texts in their order -/
def insT (x : Str) : List Str → List Str
  | [] => [x]
  | y :: r => if ltCps y.cps.toList x.cps.toList = true then y :: insT x r else x :: y :: r
def sortT : List Str → List Str
  | [] => []
  | x :: r => insT x (sortT r)
theorem insT_perm (x : Str) : ∀ l : List Str, (insT x l).Perm (x :: l)
  | [] => .refl _
  | y :: r => by
    unfold insT
    split
    · exact ((insT_perm x r).cons y).trans (.swap x y r)
    · exact .refl _
theorem sortT_perm : ∀ l : List Str, (sortT l).Perm l
  | [] => .refl _
  | x :: r => (insT_perm x (sortT r)).trans ((sortT_perm r).cons x)
theorem insT_pw {x : Str} : ∀ {l : List Str}, l.Pairwise leT → (insT x l).Pairwise leT
  | [], _ => List.pairwise_singleton _ _
  | y :: r, h => by
    unfold insT
    split
    · rename_i q
      refine List.pairwise_cons.mpr ⟨fun z hz => ?_, insT_pw h.of_cons⟩
      rcases List.mem_cons.mp ((insT_perm x r).subset hz) with rfl | hz
      · exact leT_total (fun z => by unfold leT at z; rw [z] at q; cases q)
      · exact List.rel_of_pairwise_cons h hz
    · rename_i q
      have q : leT x y := by unfold leT; exact Bool.eq_false_iff.mpr q
      refine List.pairwise_cons.mpr ⟨fun z hz => ?_, h⟩
      rcases List.mem_cons.mp hz with rfl | hz
      · exact q
      · exact leT_trans q (List.rel_of_pairwise_cons h hz)
theorem sortT_pw : ∀ l : List Str, (sortT l).Pairwise leT
  | [] => .nil
  | x :: r => insT_pw (sortT_pw r)
theorem sortT_is {l m : List Str} (p : m.Perm l) (h : sortedS m = true) : m = sortT l := uniq_sorted leT (fun _ _ => leT_anti) (p.trans (sortT_perm l).symm) (sorted_pw h) (sortT_pw l)
def gSortK (hs : Hs) (d : D) : Option (List D) := match dkOf hs d with
  | some kvs => (match txtKeys kvs with | some ks => if ks.length < 64 then some ((sortT ks).map D.str) else none | none => none)
  | none => none
def lSortD (f : FE) : FL := fun e hs => (f e hs).bind fun d hs => R.ofO (gSortK hs d) hs
theorem RDs.strs {K : PySem.W.Frag} {mu : Mp} {H : Hp} : ∀ ks : List Str, RDs K mu H (ks.map D.str) (ks.map V.str)
  | [] => .nil
  | k :: ks => .cons (.str k) (RDs.strs ks)
theorem uf_sortD {a : Expr} {f1 : FE} {p pos : Pos} (hc : X.calm = true) (hg : L2.Gl X "sorted") (hm : X.mg "sorted" = none) (ha : UE X Wd a f1)
    (hs1 : starEach [a] X.env = [(false, eval a X.env)] := by rfl) : UF X Wd (.Call (.Name "sorted" p) [a] [] pos) (lSortD f1) := by
  refine PE.imp (pe_callB (call_sortedD hc) hg hm boot_sorted (pa_cons ha pa_nil hs1) (by decide) (by decide) hs1 rfl) fun σ H Q h => ?_
  obtain ⟨e, mu, hs, S, E, q⟩ := tG_seq (r := relD X.K) relF_ok h
  refine ⟨e, mu, hs, S, E, q.imp fun x H1 ⟨e, mu1, hs1, d, S1, E1, r1, g1⟩ => ?_⟩
  cases q : gSortK hs1 d with
  | none => rw [q] at g1; exact g1.elim
  | some ds =>
    rw [q] at g1
    unfold gSortK at q
    split at q
    · rename_i kvs hk
      split at q
      · rename_i ks hks
        split at q
        · rename_i h64
          cases q
          obtain ⟨a, vs, rfl, ha, rk⟩ := dkOf_at S1 r1 hk
          refine ⟨a, vs, ks, rfl, .inl ha, txtKeys_at rk hks, h64, fun ys p hp hs hq => ?_⟩
          rw [sortT_is hp hs]
          exact relF_new S1 g1 hq (RDs.strs _)
        · cases q
      · cases q
    · cases q
end
section
variable {e : Ev} {hs : Hs} {X : XQ}
theorem wp_sortD {f : FE} {Q : List D → Hs → Prop} (h : Wp (f e hs) (fun d h => Wp (R.ofO (gSortK h d) h) Q X) X) : Wp (lSortD f e hs) Q X := wp_bind h
end
end G

/-! # G45: numbers to the base 36, stamps -/
namespace G
open PySem PySem.Spec PyProof.Rows L2
noncomputable section
abbrev k_BASE : D := (.int 36)
abbrev k_FIGURES : D := (.str "0123456789abcdefghijklmnopqrstuvwxyz")
def f_in_base : FS := (sSeq (sSet 1 (eBin gIx (eC k_FIGURES) (eBin gMod (eName 0) (eC k_BASE))))
  (sSeq (sAug 0 gDiv (eC k_BASE))
  (sSeq (sWhile (eB (eBin gGt (eName 0) (eC (.int 0)))) (sSeq (sSet 1 (eBin gAdd (eBin gIx (eC k_FIGURES) (eBin gMod (eName 0) (eC k_BASE))) (eName 1)))
  (sAug 0 gDiv (eC k_BASE))))
  (sRet (eName 1)))))
def c_in_base : List D → Hs → R D := fnBody 2 f_in_base
def f_stamp_of : FS := (sRet (eBin gAdd (eBin gAdd (eBin gAdd (eFn c_in_base [0] [] (aCons (eName 0) aNil)) (eC (.str "."))) (eFn c_in_base [0] [] (aCons (eName 1) aNil))) (eName 2)))
def c_stamp_of : List D → Hs → R D := fnBody 3 f_stamp_of

end
local macro_rules | `(tactic| walk_at "s1") => `(tactic| first
  | ((with_reducible apply wp_name); (case q => rfl))
  | with_reducible refine wp_c ?_
  | with_reducible refine wp_bin ?_
  | with_reducible refine wp_acons ?_
  | with_reducible refine wp_anil ?_
  | with_reducible refine wp_call ?_
  | with_reducible refine wp_fn ?_
  | with_reducible refine wp_fnK ?_
  | with_reducible refine wp_ev ?_
  | with_reducible refine wp_em ?_
  | with_reducible refine wp_tup ?_
  | with_reducible refine wp_eb ?_
  | with_reducible refine wp_et ?_
  | with_reducible refine wp_un ?_
  | with_reducible refine wp_chain ?_
  | with_reducible refine wp_and ?_
  | with_reducible refine wp_or ?_
  | with_reducible refine wp_not ?_
  | with_reducible refine wp_andF ?_
  | with_reducible refine wp_orF ?_
  | with_reducible refine wp_notF ?_
  | with_reducible refine wp_yes ?_
  | with_reducible refine wp_if ?_
  | with_reducible refine wp_sl ?_
  | with_reducible refine wp_onone ?_
  | with_reducible refine wp_osome ?_
  | with_reducible refine wp_rev ?_
  | with_reducible refine wp_list ?_
  | with_reducible refine wp_mt ?_
  | with_reducible refine wp_any ?_
  | with_reducible refine wp_r1 ?_
  | with_reducible refine wp_r2 ?_
  | with_reducible refine ws_seq ?_
  | with_reducible refine ws_set ?_
  | with_reducible refine ws_setC ?_
  | with_reducible refine ws_setCM ?_
  | with_reducible refine ws_if ?_
  | with_reducible refine ws_ret ?_
  | with_reducible refine ws_retN ?_
  | with_reducible refine ws_drop ?_
  | with_reducible refine ws_skip ?_
  | with_reducible refine ws_asg ?_
  | with_reducible refine ws_par ?_
  | with_reducible refine ws_sub ?_
  | with_reducible refine wp_body ?_)
local macro_rules | `(tactic| walk_at "s") => `(tactic| repeat (walk_at "s1"))
local macro_rules | `(tactic| walk_at "q") => `(tactic| first | assumption | decide | omega | rfl)
local macro_rules | `(tactic| walk_at "e1") => `(tactic| first
  | with_reducible refine wp_some add_i ?_
  | with_reducible refine wp_some sub_i ?_
  | with_reducible refine wp_some lt_i ?_
  | with_reducible refine wp_some le_i ?_
  | with_reducible refine wp_some gt_i ?_
  | with_reducible refine wp_some ge_i ?_
  | with_reducible refine wp_some eq_i ?_
  | with_reducible refine wp_some ne_i ?_
  | with_reducible refine wp_some eq_b ?_
  | with_reducible refine wp_some max_i ?_
  | with_reducible refine wp_some min_i ?_
  | with_reducible refine wp_some tup_tup ?_
  | with_reducible refine wp_some tup_lst ?_
  | with_reducible refine wp_some len_tup ?_
  | with_reducible refine wp_some len_lst ?_
  | with_reducible refine wp_some sl_tup ?_
  | with_reducible refine wp_some sl_lst ?_
  | with_reducible refine wp_some tru_b ?_
  | with_reducible refine wp_some repr_b ?_
  | with_reducible refine wp_eq_sb ?_
  | with_reducible refine wp_some seq_lst ?_
  | with_reducible refine wp_some seq_tup ?_
  | ((with_reducible apply wp_ix_tup); (case q => rfl))
  | ((with_reducible apply wp_ix_lst); (case q => rfl))
  | ((with_reducible apply wp_ix_ref); (case p => assumption); (case q => rfl))
  | with_reducible refine wp_some eq_s ?_
  | ((with_reducible refine wp_some (mod_int ?q) ?_); (case q => walk_at "q"))
  | ((with_reducible refine wp_some (div_int ?p ?q) ?_); (case p => walk_at "q"); (case q => walk_at "q"))
  | ((with_reducible refine wp_some (mul_int ?q) ?_); (case q => walk_at "q"))
  | ((with_reducible refine wp_some (add_tup ?q) ?_); (case q => first | omega | exact Nat.le_of_ble_eq_true rfl | (simp; done) | (simp; omega)))
  | ((with_reducible refine wp_some (add_lst ?q) ?_); (case q => first | omega | exact Nat.le_of_ble_eq_true rfl | (simp; done) | (simp; omega)))
  | with_reducible refine Exists.intro _ (And.intro rfl ?_)
  | with_reducible refine Exists.intro _ (Exists.intro _ (And.intro rfl ?_)))
local macro_rules | `(tactic| walk_at "g") => `(tactic| repeat (first | walk_at "s1" | walk_at "e1"))
local macro_rules | `(tactic| walk_at "h1") => `(tactic| first
  | with_reducible refine wp_some ne_b ?_
  | with_reducible refine wp_ne_sb ?_
  | with_reducible refine wp_d0t ?_
  | with_reducible refine wp_d0k ?_
  | with_reducible refine wp_d0 ?_
  | with_reducible refine wp_valsT ?_
  | with_reducible refine wp_some ne_s ?_
  | with_reducible refine wp_some reprA_b ?_
  | with_reducible refine wp_d1 ?_
  | with_reducible refine wp_some isi_non ?_
  | with_reducible refine wp_some isi_bl ?_
  | with_reducible refine wp_some isi_int ?_
  | with_reducible refine wp_some isi_str ?_
  | with_reducible refine wp_some isi_tup ?_
  | with_reducible refine wp_some isi_lst ?_
  | with_reducible refine wp_some isi_dct ?_)
local macro_rules | `(tactic| walk_at "k") => `(tactic| repeat (first | walk_at "s1" | walk_at "e1" | walk_at "h1"))
local macro_rules | `(tactic| walk_at "p") => `(tactic| first | assumption | (constructor; done) | exact pln_of (by assumption) | exact Sm.pln (by assumption))
local macro_rules | `(tactic| walk_at "b1") => `(tactic| first
  | exact nof
  | exact tnof
  | (refine And.intro ?_ tnof; intro _)
  | (refine And.intro nof ?_; intro _)
  | (refine And.intro ?_ ?_ <;> intro _))
local macro_rules | `(tactic| walk_at "P1") => `(tactic| first
  | ((with_reducible show Wp (c_is_whole _ _) _ _); refine wp_of (whole_eq ?p) ?_; (case p => walk_at "p"))
  | ((with_reducible show Wp (c_is_between _ _) _ _); refine wp_of (between_eq ?p) ?_; (case p => walk_at "p")))
local macro_rules | `(tactic| walk_at "b") => `(tactic| repeat' (first | walk_at "s1" | walk_at "e1" | walk_at "h1" | walk_at "P1" | walk_at "b1"))
local macro_rules | `(tactic| walk_at "z") => `(tactic| first
  | exact (show _ ∧ _ from ⟨rfl, rfl⟩)
  | (refine (show _ ∧ _ from ⟨?_, rfl⟩); first | (simp_all; done) | (simp_all <;> omega)))
local macro_rules | `(tactic| walk_at "bz") => `(tactic| (walk_at "b" <;> try walk_at "z"))
local macro_rules | `(tactic| walk_at "P1") => `(tactic| first
  | ((with_reducible show Wp (c_is_size _ _) _ _); refine wp_of (size_eq ?p) ?_; (case p => walk_at "p"))
  | ((with_reducible show Wp (c_is_moment _ _) _ _); refine wp_of (moment_eq ?p) ?_; (case p => walk_at "p"))
  | ((with_reducible show Wp (c_is_side _ _) _ _); refine wp_of (side_eq ?p) ?_; (case p => walk_at "p"))
  | ((with_reducible show Wp (c_is_grade _ _) _ _); refine wp_of (grade_eq ?p) ?_; (case p => walk_at "p"))
  | ((with_reducible show Wp (c_is_name _ _) _ _); refine wp_of (name_eq ?p ?q) ?_; (case p => walk_at "p"); (case q => first | assumption | omega))
  | ((with_reducible show Wp (c_is_ident _ _) _ _); refine wp_of (ident_eq ?p) ?_; (case p => assumption))
  | ((with_reducible show Wp (c_is_glove _ _) _ _); refine wp_of (glove_eq ?p ?q) ?_; (case p => assumption); (case q => first | assumption | omega)))
local macro_rules | `(tactic| walk_at "d1") => `(tactic| first
  | ((with_reducible show Wp (c_draw _ _) _ _); refine' dr ?s ?k ?a ?b ?_; (case s => assumption); (case k => assumption); (case a => first | decide | omega); (case b => first | decide | omega); intro _ _ _ _ _))
local macro_rules | `(tactic| walk_at "d") => `(tactic| repeat (first | walk_at "s1" | walk_at "e1" | walk_at "h1" | walk_at "P1" | walk_at "d1"))
local macro_rules | `(tactic| walk_at "db") => `(tactic| repeat' (first | walk_at "s1" | walk_at "e1" | walk_at "h1" | walk_at "P1" | walk_at "d1" | walk_at "b1"))
local macro_rules | `(tactic| walk_at "tl") => `(tactic| repeat' (first | assumption | omega | decide | (with_reducible refine len_half ?_ ?_) | (with_reducible refine lit_half ?_) | (with_reducible refine cut_half ?_) | (with_reducible refine T_half ?_)))
local macro_rules | `(tactic| walk_at "t1") => `(tactic| first
  | ((with_reducible refine wp_some (add_str ?q ?r) ?_); (case q => walk_at "tl"); (case r => walk_at "tl"))
  | ((with_reducible refine wp_some (sl_str ?q) ?_); (case q => walk_at "tl"))
  | ((with_reducible refine wp_some (len_str ?q) ?_); (case q => walk_at "tl"))
  | ((with_reducible refine wp_someP (upper_str ?q) ?_); (case q => walk_at "tl"))
  | ((with_reducible refine wp_some (str_int ?q) ?_); (case q => first | assumption | omega))
  | with_reducible refine wp_some rev_tup ?_
  | with_reducible refine wp_some rev_lst ?_
  | with_reducible refine wp_some is_bl ?_
  | with_reducible refine wp_some isN_bl ?_
  | with_reducible refine wp_some neg_i ?_
  | with_reducible refine wp_lAdd ?_
  | with_reducible refine And.intro rfl ?_)
local macro_rules | `(tactic| walk_at "d") => `(tactic| repeat (first | walk_at "s1" | walk_at "e1" | walk_at "h1" | walk_at "t1" | walk_at "P1" | walk_at "d1"))
local macro_rules | `(tactic| walk_at "db") => `(tactic| repeat' (first | walk_at "s1" | walk_at "e1" | walk_at "h1" | walk_at "t1" | walk_at "P1" | walk_at "d1" | walk_at "b1"))
local macro_rules | `(tactic| walk_at "dz") => `(tactic| (walk_at "db" <;> try walk_at "z"))
local macro_rules | `(tactic| walk_at "hg") => `(tactic| first | assumption | exact get_new | (refine get_app ?_; walk_at "hg") | (refine' get_set_eq ?e; (case e => walk_at "hg")) | (refine (get_set_ne ?_).trans ?_; (first | omega | (simp only [List.length_append, List.length_set, List.length_cons, List.length_nil]; omega)); walk_at "hg"))
local macro_rules | `(tactic| walk_at "st") => `(tactic| repeat' (first | assumption | (with_reducible refine St.wapp ?_ ?_) | (with_reducible refine St.wset ?_ ?_ ?_ ?_) | (simp only [List.length_append, List.length_set, List.length_cons, List.length_nil]; omega) | omega))
local macro_rules | `(tactic| walk_at "ll") => `(tactic| repeat' (first | assumption | omega | exact Nat.le_of_ble_eq_true rfl | (with_reducible refine app_half ?_ ?_) | (with_reducible refine cutL_half ?_) | (with_reducible refine rev_half ?_) | (with_reducible refine map_half ?_) | (with_reducible refine cons_half ?_ ?_)))
local macro_rules | `(tactic| walk_at "n1") => `(tactic| first
  | ((with_reducible show Wp (R.ofO _ _) _ _); first
    | with_reducible apply wp_some eq_same
    | with_reducible apply wp_some ne_same
    | with_reducible apply wp_some add_i
    | with_reducible apply wp_some sub_i
    | with_reducible apply wp_some lt_i
    | with_reducible apply wp_some le_i
    | with_reducible apply wp_some gt_i
    | with_reducible apply wp_some ge_i
    | with_reducible apply wp_some eq_i
    | with_reducible apply wp_some ne_i
    | with_reducible apply wp_some eq_b
    | with_reducible apply wp_some max_i
    | with_reducible apply wp_some min_i
    | with_reducible apply wp_some tup_tup
    | with_reducible apply wp_some tup_lst
    | with_reducible apply wp_some len_tup
    | with_reducible apply wp_some len_lst
    | with_reducible apply wp_some sl_tup
    | with_reducible apply wp_some sl_lst
    | with_reducible apply wp_some tru_b
    | with_reducible apply wp_some repr_b
    | with_reducible refine wp_eq_sb ?_
    | with_reducible apply wp_some seq_lst
    | with_reducible apply wp_some seq_tup
    | ((with_reducible apply wp_ix_tup); (case q => rfl))
    | ((with_reducible apply wp_ix_lst); (case q => rfl))
    | ((with_reducible apply wp_ix_ref); (case p => assumption); (case q => rfl))
    | with_reducible apply wp_some eq_s
    | ((with_reducible apply wp_some (mod_int ?q)); (case q => walk_at "q"))
    | ((with_reducible apply wp_some (div_int ?p ?q)); (case p => walk_at "q"); (case q => walk_at "q"))
    | ((with_reducible apply wp_some (mul_int ?q)); (case q => walk_at "q"))
    | ((with_reducible apply wp_some (add_tup2 ?a ?b)); (case a => walk_at "ll"); (case b => walk_at "ll"))
    | ((with_reducible apply wp_some (add_lst2 ?a ?b)); (case a => walk_at "ll"); (case b => walk_at "ll"))
    | with_reducible apply wp_some ne_b
    | with_reducible refine wp_ne_sb ?_
    | with_reducible apply wp_some ne_s
    | with_reducible apply wp_some reprA_b
    | with_reducible apply wp_some isi_non
    | with_reducible apply wp_some isi_bl
    | with_reducible apply wp_some isi_int
    | with_reducible apply wp_some isi_str
    | with_reducible apply wp_some isi_tup
    | with_reducible apply wp_some isi_lst
    | with_reducible apply wp_some isi_dct
    | ((with_reducible apply wp_some (add_str ?q ?r)); (case q => walk_at "tl"); (case r => walk_at "tl"))
    | ((with_reducible apply wp_some (sl_str ?q)); (case q => walk_at "tl"))
    | ((with_reducible apply wp_some (len_str ?q)); (case q => walk_at "tl"))
    | ((with_reducible apply wp_some (str_int ?q)); (case q => first | assumption | omega))
    | with_reducible apply wp_some rev_tup
    | with_reducible apply wp_some rev_lst
    | with_reducible apply wp_some is_bl
    | with_reducible apply wp_some isN_bl
    | with_reducible apply wp_some neg_i
    | ((with_reducible apply wp_some (isi_pln ?q)); (case q => walk_at "p"))
    | with_reducible apply wp_some pow6
    | with_reducible apply wp_some eqT_tup
    | ((with_reducible apply wp_some (rev_str ?q)); (case q => walk_at "tl"))
    | ((with_reducible apply wp_some (add_rl ?q ?a ?b)); (case q => walk_at "hg"); (case a => walk_at "ll"); (case b => walk_at "ll"))
    | ((with_reducible apply wp_some (add_lr ?q ?a ?b)); (case q => walk_at "hg"); (case a => walk_at "ll"); (case b => walk_at "ll"))
    | ((with_reducible apply wp_some (add_rr ?q ?r ?a ?b)); (case q => walk_at "hg"); (case r => walk_at "hg"); (case a => walk_at "ll"); (case b => walk_at "ll"))
    | with_reducible apply wp_some lst_lst
    | ((with_reducible apply wp_some (lst_ref ?q)); (case q => walk_at "hg"))
    | ((with_reducible apply wp_some (len_ref ?q)); (case q => walk_at "hg"))
    | ((with_reducible apply wp_some (tup_ref ?q)); (case q => walk_at "hg"))
    | with_reducible apply wp_some pow39
    | with_reducible apply wp_some pow30
    | with_reducible apply wp_some pow40
    | with_reducible apply wp_some tru_non
    | with_reducible apply wp_some tru_int
    | with_reducible apply wp_some tru_tup
    | ((with_reducible apply wp_some (tru_str ?q)); (case q => walk_at "tl"))
    | ((with_reducible apply wp_some (mulS_str ?a ?b ?d)); (case a => walk_at "tl"); (case b => walk_at "tl"); (case d => walk_at "tl"))
    | ((with_reducible apply wp_some (mulS_tupA ?a ?b ?c ?d)); (case a => walk_at "tl"); (case b => walk_at "tl"); (case c => first | rfl | assumption); (case d => walk_at "tl")))
  | ((with_reducible show Wp (R.ofP _) _ _); first
    | ((with_reducible apply wp_someP (app_ref2 ?e ?q)); (case e => walk_at "hg"); (case q => walk_at "ll"))
    | ((with_reducible apply wp_someP (upper_str ?q)); (case q => walk_at "tl")))
  | ((with_reducible show Ws _ _); first
    | with_reducible refine ws_seq ?_
    | with_reducible refine ws_set ?_
    | with_reducible refine ws_setC ?_
    | with_reducible refine ws_setCM ?_
    | with_reducible refine ws_if ?_
    | with_reducible refine ws_ret ?_
    | with_reducible refine ws_retN ?_
    | with_reducible refine ws_drop ?_
    | with_reducible refine ws_skip ?_
    | with_reducible refine ws_asg ?_
    | with_reducible refine ws_par ?_
    | with_reducible refine ws_sub ?_)
  | ((with_reducible refine' And.intro (isL_ref ?e) ?_); (case e => walk_at "hg"))
  | ((with_reducible refine And.intro (And.intro ?a ?b) ?_); (case a => walk_at "ll"); (case b => walk_at "ll"))
  | with_reducible refine Exists.intro _ (And.intro rfl ?_)
  | with_reducible refine Exists.intro _ (Exists.intro _ (And.intro rfl ?_))
  | with_reducible refine And.intro rfl ?_
  | ((with_reducible show Wp _ _ _); first
    | ((with_reducible apply wp_name); (case q => rfl))
    | with_reducible refine wp_c ?_
    | with_reducible refine wp_bin ?_
    | with_reducible refine wp_acons ?_
    | with_reducible refine wp_anil ?_
    | with_reducible refine wp_call ?_
    | with_reducible refine wp_fn ?_
    | with_reducible refine wp_fnK ?_
    | with_reducible refine wp_ev ?_
    | with_reducible refine wp_em ?_
    | with_reducible refine wp_tup ?_
    | with_reducible refine wp_eb ?_
    | with_reducible refine wp_et ?_
    | with_reducible refine wp_un ?_
    | with_reducible refine wp_chain ?_
    | with_reducible refine wp_and ?_
    | with_reducible refine wp_or ?_
    | with_reducible refine wp_not ?_
    | with_reducible refine wp_andF ?_
    | with_reducible refine wp_orF ?_
    | with_reducible refine wp_notF ?_
    | with_reducible refine wp_yes ?_
    | with_reducible refine wp_if ?_
    | with_reducible refine wp_sl ?_
    | with_reducible refine wp_onone ?_
    | with_reducible refine wp_osome ?_
    | with_reducible refine wp_rev ?_
    | with_reducible refine wp_list ?_
    | with_reducible refine wp_mt ?_
    | with_reducible refine wp_any ?_
    | with_reducible refine wp_r1 ?_
    | with_reducible refine wp_r2 ?_
    | with_reducible refine wp_body ?_
    | with_reducible refine wp_d0t ?_
    | with_reducible refine wp_d0k ?_
    | with_reducible refine wp_d0 ?_
    | with_reducible refine wp_valsT ?_
    | with_reducible refine wp_d1 ?_
    | with_reducible refine wp_lAdd ?_
    | walk_at "P1"
    | walk_at "d1")
  | ((fail_if_success (with_reducible show Ws _ _)); (fail_if_success (with_reducible show Wp _ _ _)); show Ws _ _))
local macro_rules | `(tactic| walk_at "n") => `(tactic| repeat (walk_at "n1"))
local macro_rules | `(tactic| walk_at "nb") => `(tactic| repeat' (first | walk_at "n1" | walk_at "b1"))
local macro_rules | `(tactic| walk_at "c") => `(tactic| first
  | assumption
  | (refine closeB (by assumption) ?_; first | rfl | (simp_all; done) | (simp_all <;> omega)))
local macro_rules | `(tactic| walk_at "nc") => `(tactic| (walk_at "nb" <;> try walk_at "c"))
local macro_rules | `(tactic| walk_at "n1") => `(tactic| first
  | with_reducible refine wp_iOf ?_
  | with_reducible apply wp_some neT_tup
  | with_reducible refine ex_ent ?_
  | with_reducible refine ex_enl ?_
  | with_reducible refine ex_zpt ?_
  | with_reducible refine ex_zpl ?_)
local macro_rules | `(tactic| walk_at "q") => `(tactic| exact Int.natCast_pos.mpr (Nat.succ_pos _))
local macro_rules | `(tactic| walk_at "hg") => `(tactic| with_reducible exact St.k2 (by assumption))
local macro_rules | `(tactic| walk_at "n1") => `(tactic| first
  | with_reducible refine wp_mk ?_
  | with_reducible refine wp_mth ?_
  | with_reducible refine wp_eown ?_
  | with_reducible refine ws_fld ?_
  | with_reducible refine wp_js1 ?_
  | with_reducible refine wp_js0 ?_)
local macro_rules | `(tactic| walk_at "n1") => `(tactic| first
  | with_reducible refine wp_lRep ?_
  | with_reducible apply wp_some sk_zones
  | with_reducible apply wp_some sk_stretch
  | with_reducible apply wp_some sk_grade)
local macro_rules | `(tactic| walk_at "n1") => `(tactic| first
  | with_reducible refine wp_orT ?_
  | with_reducible refine wp_andT ?_
  | with_reducible apply wp_some neL_lst
  | with_reducible apply wp_some int_bl
  | with_reducible apply wp_some ne_ss)
local macro_rules | `(tactic| walk_at "tl") => `(tactic| repeat' (first | assumption | omega | exact Nat.le_of_ble_eq_true rfl | (with_reducible refine len_half ?_ ?_) | (with_reducible refine lit_half ?_) | (with_reducible refine cut_half ?_) | (with_reducible refine T_half ?_) | (simp only [List.length_append, List.length_cons, List.length_nil]; omega)))

section
variable {h : Hs} {Q : D → Hs → Prop} {X : XQ}
theorem dot_T : Str.ofString "." = T [46] := by decide +kernel
theorem part_T {a b : List Nat} {c : Nat} (ha : c ∉ a) : Txt.partition (T (a ++ c :: b)) (T [c]) = (T a, T [c], T b) := by
  have key : ∀ i, StrLaws.At (T (a ++ c :: b)) (T [c]) (T (a ++ c :: b)).length i ↔ (a ++ c :: b)[i]? = some c := fun i => StrLaws.subAt_one (T (a ++ c :: b)) c i
  have here : (a ++ c :: b)[a.length]? = some c := by rw [List.getElem?_append_right (Nat.le_refl _), Nat.sub_self]; rfl
  unfold Txt.partition
  rcases StrLaws.occ_head (T (a ++ c :: b)) (T [c]) 1 (Nat.le_refl 1) with ⟨_, hn⟩ | ⟨i, r, e, hi, hn⟩
  · exact absurd ((key _).mpr here) (hn a.length)
  · rw [e]
    dsimp only
    have q := (key i).mp hi
    have e2 : i = a.length := by
      rcases Nat.lt_trichotomy i a.length with z | z | z
      · rw [List.getElem?_append_left z] at q
        exact absurd (List.mem_of_getElem? q) ha
      · exact z
      · exact absurd ((key _).mpr here) (hn a.length z)
    subst e2
    have f : ∀ (xs : List Nat) (i j : Nat), Builtin.Str.strSub (T xs) i j = T ((xs.drop i).take (j - i)) := by
      intro xs i j
      show Str.mk (xs.toArray.extract i j) = Str.mk _
      congr 1
      simp [List.extract_eq_take_drop]
    rw [f, f, T_len, T_len]
    have e3 : ((a ++ c :: b).drop 0).take (a.length - 0) = a := by simp
    have e4 : ((a ++ c :: b).drop (a.length + [c].length)).take ((a ++ c :: b).length - (a.length + [c].length)) = b := by
      rw [List.take_of_length_le (by simp only [List.length_append, List.length_cons, List.length_nil, List.length_drop]; omega)]
      rw [List.length_singleton, ← List.drop_drop, List.drop_left]; rfl
    rw [e3, e4]
theorem mpart_T {a b : List Nat} (ha : 46 ∉ a) (l : (a ++ 46 :: b).length ≤ 100000) : mPart h (.str (T (a ++ 46 :: b))) [.str (Str.ofString ".")] = some (.tup [.str (T a), .str (T [46]), .str (T b)], h) := by
  rw [dot_T]
  unfold mPart
  dsimp only
  rw [if_pos ⟨by rw [T_len]; rfl, by rw [T_len]; exact le_line l⟩, part_T ha]
/-! ### words to the base 36 -/
def fg (d : Nat) : Nat := if d < 10 then d + 48 else d + 87
def figs : List Nat := (List.range 36).map fg
theorem figs_T : Str.ofString "0123456789abcdefghijklmnopqrstuvwxyz" = T figs := by decide +kernel
theorem figs_at {i : Int} (h0 : 0 ≤ i) (h1 : i < 36) : atI figs i = some (fg i.toNat) := atI_nat h0 (by unfold figs; rw [List.getElem?_map, List.getElem?_range (by omega)]; rfl)
theorem wp_fig {i : Int} (h0 : 0 ≤ i) (h1 : i < 36) (c : Q (.str (T [fg i.toNat])) h) : Wp (R.ofO (gIx h (.str (Str.ofString "0123456789abcdefghijklmnopqrstuvwxyz")) (.int i)) h) Q X := by
  rw [figs_T]
  exact wp_some (ix_T (by decide) (figs_at h0 h1)) c
theorem figs_in (c : Nat) : decide (c ∈ (Str.ofString "0123456789abcdefghijklmnopqrstuvwxyz").cps.toList) = B36.figB c := by
  rw [figs_T, T_cps, Bool.eq_iff_iff, decide_eq_true_iff]
  constructor
  · intro h
    have : ∀ x ∈ figs, B36.figB x = true := by decide +kernel
    exact this c h
  · intro h
    have q := B36.fig_of h
    have this : ∀ i, i < 36 → fg i ∈ figs := by decide +kernel
    unfold B36.Fig at q
    rcases q with q | q
    · have := this (c - 48) (by omega)
      rwa [show fg (c - 48) = c by unfold fg; split <;> omega] at this
    · have := this (c - 87) (by omega)
      rwa [show fg (c - 87) = c by unfold fg; split <;> omega] at this
theorem in_figs {c : Nat} : gInA h (.str ⟨#[c]⟩) (.str (Str.ofString "0123456789abcdefghijklmnopqrstuvwxyz")) = some (.bl (B36.figB c)) := by
  show some (D.bl (decide (c ∈ (Str.ofString "0123456789abcdefghijklmnopqrstuvwxyz").cps.toList))) = _
  rw [figs_in]
def w36 (n : Nat) : List Nat := if n < 36 then [fg n] else w36 (n / 36) ++ [fg (n % 36)]
termination_by n
decreasing_by omega
theorem w36_lt {n : Nat} (h : n < 36) : w36 n = [fg n] := by rw [w36, if_pos h]
theorem w36_ge {n : Nat} (h : 36 ≤ n) : w36 n = w36 (n / 36) ++ [fg (n % 36)] := by rw [w36, if_neg (by omega)]
theorem w36_ind {P : Nat → Prop} (a : ∀ n, n < 36 → P n) (b : ∀ n, 36 ≤ n → P (n / 36) → P n) (n : Nat) : P n := by
  induction n using Nat.strongRecOn with
  | ind n ih =>
    by_cases h : n < 36
    · exact a n h
    · exact b n (by omega) (ih _ (by omega))
theorem w36_len : ∀ (k n : Nat), n < 36 ^ (k + 1) → (w36 n).length ≤ k + 1
  | 0, n, h => by rw [w36_lt (by simpa using h)]; exact Nat.le_refl _
  | k + 1, n, h => by
    by_cases q : n < 36
    · rw [w36_lt q]; show 1 ≤ _; omega
    · have h2 : n < 36 ^ (k + 1) * 36 := by rw [← Nat.pow_succ]; exact h
      rw [w36_ge (by omega), List.length_append]
      have := w36_len k (n / 36) (Nat.div_lt_of_lt_mul (by rw [Nat.mul_comm]; exact h2))
      show _ + 1 ≤ _
      omega
theorem w36_len5 {n : Nat} (h : n < 60466176) : (w36 n).length ≤ 5 := w36_len 4 n (by simpa using h)
theorem w36_pos (n : Nat) : 0 < (w36 n).length := by
  by_cases q : n < 36
  · rw [w36_lt q]; exact Nat.one_pos
  · rw [w36_ge (by omega), List.length_append]; exact Nat.succ_pos _
theorem fg_fig {d : Nat} (h : d < 36) : B36.Fig (fg d) := by unfold B36.Fig fg; split <;> omega
theorem fg_wt {d : Nat} (h : d < 36) : B36.wt (fg d) = d := by unfold B36.wt fg; split <;> split <;> omega
theorem fig_B {c : Nat} (h : B36.Fig c) : B36.figB c = true := by unfold B36.Fig at h; unfold B36.figB; simp only [Bool.or_eq_true, Bool.and_eq_true, decide_eq_true_eq]; exact h
theorem w36_fig (n : Nat) : ∀ c ∈ w36 n, B36.Fig c := by
  induction n using w36_ind with
  | a n h => rw [w36_lt h]; intro c hc; rw [List.mem_singleton.mp hc]; exact fg_fig h
  | b n h ih =>
    rw [w36_ge h]
    intro c hc
    rcases List.mem_append.mp hc with hc | hc
    · exact ih c hc
    · rw [List.mem_singleton.mp hc]; exact fg_fig (Nat.mod_lt _ (by decide))
theorem w36_val (n : Nat) : B36.val36 (w36 n) = n := by
  induction n using w36_ind with
  | a n h => rw [w36_lt h]; show 0 * 36 + B36.wt (fg n) = n; rw [fg_wt h]; omega
  | b n h ih =>
    have e : ∀ (l : List Nat) (c : Nat), B36.val36 (l ++ [c]) = B36.val36 l * 36 + B36.wt c := fun l c => by unfold B36.val36; rw [List.foldl_append]; rfl
    rw [w36_ge h, e, ih, fg_wt (Nat.mod_lt _ (by decide))]
    omega
theorem w36_inj {m n : Nat} (h : w36 m = w36 n) : m = n := by rw [← w36_val m, h, w36_val]
theorem w36_head (n : Nat) : 0 < n → ∃ c r, w36 n = c :: r ∧ c ≠ 48 := by
  induction n using w36_ind with
  | a n h => intro h0; rw [w36_lt h]; exact ⟨_, _, rfl, by unfold fg; split <;> omega⟩
  | b n h ih =>
    intro _
    obtain ⟨c, r, e, q⟩ := ih (by omega)
    rw [w36_ge h, e]
    exact ⟨c, _, rfl, q⟩
theorem w36_nodot (n : Nat) : 46 ∉ w36 n := fun h => by have := w36_fig n 46 h; unfold B36.Fig at this; omega
theorem w36_up {k : Nat} {f : Nat} (hf : f < 36) : w36 (k * 36 + f) = (if k = 0 then [] else w36 k) ++ [fg f] := by
  by_cases q : k = 0
  · subst q; rw [if_pos rfl, w36_lt (by omega), Nat.zero_mul, Nat.zero_add]; rfl
  · rw [if_neg q, w36_ge (by omega), show (k * 36 + f) / 36 = k by omega, show (k * 36 + f) % 36 = f by omega]
local macro_rules | `(tactic| walk_at "P1") => `(tactic| ((with_reducible apply wp_fig); (case h0 => omega); (case h1 => omega)))
theorem in_base_wp {n : Nat} (hn : n < 60466176) (c : Q (.str (T (w36 n))) h) : Wp (c_in_base [.int (n : Nat)] h) Q X := by
  unfold c_in_base f_in_base
  refine wp_bodyE [some (.int (n : Nat)), none] rfl ?_
  walk_at "n"
  refine ws_aug rfl ?_
  walk_at "n"
  have l5 := w36_len5 hn
  refine ws_while (if n / 36 = 0 then 0 else (w36 (n / 36)).length) (fun m e h' => h' = h ∧ ∃ (k : Nat) (w : List Nat), e = [some (.int (k : Nat)), some (.str (T w))] ∧ (if k = 0 then [] else w36 k) ++ w = w36 n ∧ m = (if k = 0 then 0 else (w36 k).length) ∧ w.length ≤ 5) ?_ ?_ ?_
  · have := w36_len5 (n := n / 36) (by omega)
    split <;> omega
  · refine ⟨rfl, n / 36, [fg (n % 36)], ?_, ?_, rfl, Nat.le_of_ble_eq_true rfl⟩
    · rw [show ((n : Int) % 36).toNat = n % 36 by omega, show ((n : Int) / 36) = ((n / 36 : Nat) : Int) by omega]
      rfl
    · rw [← w36_up (Nat.mod_lt n (by decide)), show n / 36 * 36 + n % 36 = n by omega]
  · rintro m _ _ ⟨rfl, k, w, rfl, hw, rfl, lw⟩
    walk_at "n"
    refine ⟨fun q => ?_, fun q => ?_⟩
    · have k0 : 0 < k := by have := of_decide_eq_true q; omega
      walk_at "n"
      rw [if_neg (by omega)] at hw
      refine ws_aug rfl ?_
      walk_at "n"
      have hl : (w36 k).length + w.length = (w36 n).length := by rw [← hw, List.length_append]
      have kp := w36_pos k
      have up := w36_up (k := k / 36) (Nat.mod_lt k (by decide : 0 < 36))
      rw [show k / 36 * 36 + k % 36 = k by omega] at up
      have ul : (w36 k).length = (if k / 36 = 0 then [] else w36 (k / 36)).length + 1 := by rw [up, List.length_append]; rfl
      refine ⟨_, ?_, rfl, k / 36, fg (k % 36) :: w, ?_, ?_, rfl, ?_⟩
      · rw [if_neg (by omega : ¬ k = 0), ul]
        split <;> simp
      · rw [show ((k : Int) % 36).toNat = k % 36 by omega, show ((k : Int) / 36) = ((k / 36 : Nat) : Int) by omega, T_add]
        rfl
      · rw [← hw, up, List.append_assoc]; rfl
      · rw [List.length_cons]; omega
    · have k0 : k = 0 := by have := of_decide_eq_false q; omega
      subst k0
      walk_at "n"
      rw [if_pos rfl, List.nil_append] at hw
      rw [hw]
      exact c
/-- a stamp -/
def stp (m n : Nat) (s : List Nat) : List Nat := w36 m ++ 46 :: (w36 n ++ s)
theorem stp_len {m n : Nat} {s : List Nat} (hm : m < 60466176) (hn : n < 60466176) (l : s.length ≤ 5) : (stp m n s).length ≤ 16 := by
  have := w36_len5 hm
  have := w36_len5 hn
  unfold stp
  rw [List.length_append, List.length_cons, List.length_append]
  omega
theorem stamp_of_wp {m n : Nat} {s : List Nat} (hm : m < 60466176) (hn : n < 60466176) (l : s.length ≤ 5) (c : Q (.str (T (stp m n s))) h) : Wp (c_stamp_of [.int (m : Nat), .int (n : Nat), .str (T s)] h) Q X := by
  have l1 := w36_len5 hm
  have l2 := w36_len5 hn
  unfold c_stamp_of f_stamp_of
  refine wp_bodyE [some (.int (m : Nat)), some (.int (n : Nat)), some (.str (T s))] rfl ?_
  walk_at "n"
  refine in_base_wp hm ?_
  walk_at "n"
  refine in_base_wp hn ?_
  walk_at "n"
  rw [dot_T, T_add, T_add, T_add, List.append_assoc, List.append_assoc]
  exact c
end
end G

/-! # G46: tuples of ints and texts: their order, sorted -/
namespace G
open PySem PySem.Spec PyProof.Rows L2
/-! ### the order -/
def ltK : Key → Key → Bool
  | .inl i, .inl j => decide (i < j)
  | .inr x, .inr y => decide (x.cps.toList < y.cps.toList)
  | .inl _, .inr _ => true
  | .inr _, .inl _ => false
def sameK : Key → Key → Bool
  | .inl _, .inl _ => true
  | .inr _, .inr _ => true
  | _, _ => false
def lexK : List Key → List Key → Bool
  | [], [] => false
  | [], _ :: _ => true
  | _ :: _, [] => false
  | x :: xs, y :: ys => if x = y then lexK xs ys else ltK x y
/-- the parts side by side are of one sort -/
def cmpK : List Key → List Key → Bool
  | x :: xs, y :: ys => sameK x y && cmpK xs ys
  | _, _ => true
theorem ltK_asym {x y : Key} (h : ltK x y = true) : ltK y x = false := by
  rcases x with i | s <;> rcases y with j | t
  · exact decide_eq_false (by have := of_decide_eq_true h; omega)
  · rfl
  · exact absurd h Bool.false_ne_true
  · exact decide_eq_false (List.lt_asymm (of_decide_eq_true h))
theorem ltK_irr (x : Key) : ltK x x = false := by
  cases q : ltK x x with
  | false => rfl
  | true => rw [ltK_asym q] at q; exact q.symm
theorem ltK_conn {x y : Key} (h1 : ltK x y = false) (h2 : ltK y x = false) : x = y := by
  rcases x with i | s <;> rcases y with j | t
  · have a := of_decide_eq_false h1
    have b := of_decide_eq_false h2
    rw [show i = j by omega]
  · cases h1
  · cases h2
  · have a := of_decide_eq_false h1
    have b := of_decide_eq_false h2
    rw [show s = t from Str.ext' (Array.toList_inj.mp (List.le_antisymm (List.not_lt.mp b) (List.not_lt.mp a)))]
theorem ltK_tr {x y z : Key} (h1 : ltK x y = true) (h2 : ltK y z = true) : ltK x z = true := by
  rcases x with i | s <;> rcases y with j | t <;> rcases z with k | u <;> first | exact absurd h1 Bool.false_ne_true | exact absurd h2 Bool.false_ne_true | rfl | skip
  · have a := of_decide_eq_true h1
    have b := of_decide_eq_true h2
    exact decide_eq_true (by omega)
  · exact decide_eq_true (List.lt_trans (of_decide_eq_true h1) (of_decide_eq_true h2))
theorem lexK_irr : ∀ x : List Key, lexK x x = false
  | [] => rfl
  | x :: xs => by unfold lexK; rw [if_pos rfl]; exact lexK_irr xs
theorem lexK_asym : ∀ x y : List Key, lexK x y = true → lexK y x = false
  | [], [], h => nomatch h
  | [], _ :: _, _ => rfl
  | _ :: _, [], h => nomatch h
  | x :: xs, y :: ys, h => by
    unfold lexK at h ⊢
    by_cases e : x = y
    · rw [if_pos e] at h; rw [if_pos e.symm]; exact lexK_asym xs ys h
    · rw [if_neg e] at h; rw [if_neg (Ne.symm e)]; exact ltK_asym h
theorem lexK_conn : ∀ {x y : List Key}, lexK x y = false → lexK y x = false → x = y
  | [], [], _, _ => rfl
  | [], _ :: _, h, _ => nomatch h
  | _ :: _, [], _, h => nomatch h
  | x :: xs, y :: ys, h, g => by
    unfold lexK at h g
    by_cases e : x = y
    · rw [if_pos e] at h; rw [if_pos e.symm] at g; rw [e, lexK_conn h g]
    · rw [if_neg e] at h; rw [if_neg (Ne.symm e)] at g; exact absurd (ltK_conn h g) e
theorem lexK_tr : ∀ x y z : List Key, lexK x y = true → lexK y z = true → lexK x z = true
  | [], [], _, h, _ => nomatch h
  | [], _ :: _, [], _, h => nomatch h
  | [], _ :: _, _ :: _, _, _ => rfl
  | _ :: _, [], _, h, _ => nomatch h
  | _ :: _, _ :: _, [], _, h => nomatch h
  | x :: xs, y :: ys, z :: zs, h, g => by
    unfold lexK at h g ⊢
    by_cases e : x = y
    · subst e
      rw [if_pos rfl] at h
      by_cases e2 : x = z
      · rw [if_pos e2] at g ⊢; exact lexK_tr xs ys zs h g
      · rw [if_neg e2] at g ⊢; exact g
    · rw [if_neg e] at h
      by_cases e2 : y = z
      · subst e2; rw [if_neg e]; exact h
      · rw [if_neg e2] at g
        have t := ltK_tr h g
        have ne : x ≠ z := by rintro rfl; rw [ltK_irr] at t; cases t
        rw [if_neg ne]; exact t
theorem lexK_neg {x y z : List Key} (h1 : lexK y x = false) (h2 : lexK z y = false) : lexK z x = false := by
  cases q : lexK z x with
  | false => rfl
  | true =>
    cases p : lexK x y with
    | true => rw [lexK_tr z x y q p] at h2; exact h2
    | false => rw [lexK_conn p h1] at q; rw [q] at h2; exact h2
theorem swoK {t : Type} (k : t → List Key) : SrtO.Swo (fun v u : t => lexK (k v) (k u)) := ⟨fun x y h => lexK_asym _ _ h, fun x y z h1 h2 => lexK_neg h1 h2⟩
theorem sameK_self (x : Key) : sameK x x = true := by cases x <;> rfl
theorem cmpK_self : ∀ x : List Key, cmpK x x = true
  | [] => rfl
  | x :: xs => by unfold cmpK; rw [sameK_self, cmpK_self xs]; rfl
/-! ### as the model compares -/
section
variable {prog : Program} {w : World} {A : Around} {s : Shared}
theorem eqAt_key {k l : Key} {v u : Value} (rv : RelV (kV k) v) (ru : RelV (kV l) u) (h : sameK k l = true) : SeqAt.EqAt A s v u (decide (k = l)) := by
  rcases k with i | x <;> rcases l with j | y
  · obtain ⟨t1, rfl⟩ := rv
    obtain ⟨t2, rfl⟩ := ru
    have e : decide ((Sum.inl i : Key) = Sum.inl j) = (i == j) := by rw [Bool.eq_iff_iff, decide_eq_true_iff, beq_iff_eq]; exact ⟨Sum.inl.inj, congrArg _⟩
    rw [e]
    exact SeqAt.EqAt.int_int i t1 j t2
  · cases h
  · cases h
  · obtain ⟨t1, rfl⟩ := rv
    obtain ⟨t2, rfl⟩ := ru
    have e : decide ((Sum.inr x : Key) = Sum.inr y) = (x == y) := by rw [Bool.eq_iff_iff, decide_eq_true_iff, beq_iff_eq]; exact ⟨Sum.inr.inj, congrArg _⟩
    rw [e]
    exact SeqAt.EqAt.str_str x t1 y t2
theorem lt_key {k l : Key} {v u : Value} {E : Value → Shared → Prop} {Q : Value → Shared → Prop} (rv : RelV (kV k) v) (ru : RelV (kV l) u) (h : sameK k l = true) (q : Q (.bool (ltK k l)) s) : wpAny (model prog w) A (compareOp .Lt v u) Q E s := by
  rcases k with i | x <;> rcases l with j | y
  · obtain ⟨t1, rfl⟩ := rv
    obtain ⟨t2, rfl⟩ := ru
    exact PyProof.Rows.lt_int q
  · cases h
  · cases h
  · obtain ⟨t1, rfl⟩ := rv
    obtain ⟨t2, rfl⟩ := ru
    exact PyProof.Rows.lt_str q
theorem one_key {k l : Key} {v u : Value} {E : Value → Shared → Prop} {Q : Bool → Shared → Prop} (b : Bool) (rv : RelV (kV k) v) (ru : RelV (kV l) u) (h : sameK k l = true) (q : Q (ltK k l) s) : wpAny (model prog w) A (oneLt' b v u) Q E s := by
  cases b with
  | false => exact PySem.W.kat_one _ _ (lt_key rv ru h q)
  | true =>
    rcases k with i | x <;> rcases l with j | y
    · obtain ⟨t1, rfl⟩ := rv
      obtain ⟨t2, rfl⟩ := ru
      exact oneLt_int q
    · cases h
    · cases h
    · obtain ⟨t1, rfl⟩ := rv
      obtain ⟨t2, rfl⟩ := ru
      exact oneLt_str q
theorem lex_keys {b : Bool} {Q : Bool → Shared → Prop} : ∀ (ks ls : List Key) {vs us : List Value} (i : Nat) {fin : Bool}, Vals (ks.map kV) vs → Vals (ls.map kV) us → cmpK ks ls = true → fin = decide (ks.length < ls.length) → Q (lexK ks ls) s →
    PySem.W.KatLex prog w A b fin Q (vs.zip us) i s
  | [], [], _, _, i, _, .nil, .nil, _, hf, q => PySem.W.kat_nil (by rw [hf]; exact q)
  | [], l :: ls, _, _, i, _, .nil, .cons _ _, _, hf, q => PySem.W.kat_nil (by
    rw [hf]
    have e : decide (([] : List Key).length < (l :: ls).length) = lexK [] (l :: ls) := decide_eq_true (Nat.succ_pos _)
    rw [e]; exact q)
  | k :: ks, [], _, _, i, _, .cons _ _, .nil, _, hf, q => PySem.W.kat_nil (by
    rw [hf]
    have e : decide ((k :: ks).length < ([] : List Key).length) = lexK (k :: ks) [] := decide_eq_false (Nat.not_lt_zero _)
    rw [e]; exact q)
  | k :: ks, l :: ls, _, _, i, _, .cons rv tv, .cons ru tu, hc, hf, q => by
    have hc2 : sameK k l = true ∧ cmpK ks ls = true := by
      have : (sameK k l && cmpK ks ls) = true := hc
      rwa [Bool.and_eq_true] at this
    rw [List.zip_cons_cons]
    have q2 : Q (if k = l then lexK ks ls else ltK k l) s := q
    refine PySem.W.kat_cons (eqAt_key rv ru hc2.1 prog w _ _ ?_)
    refine PySem.W.kat_go (fun e => ?_) (fun e => ?_)
    · rw [if_pos (of_decide_eq_true e)] at q2
      refine PySem.W.kat_yes (lex_keys ks ls (i + 1) tv tu hc2.2 ?_ q2)
      rw [hf, List.length_cons, List.length_cons]
      exact decide_eq_decide.mpr (by omega)
    · rw [if_neg (of_decide_eq_false e)] at q2
      exact PySem.W.kat_no (one_key _ rv ru hc2.1 q2)
/-- a tuple of these keys -/
def IsKt (h : Heap) (v : Value) (ks : List Key) : Prop := ∃ a o us n, v = .ref a ∧ h.get? a = some o ∧ o.cls = .type "tuple" ∧ o.data = .seq us n ∧ Vals (ks.map kV) us.toList
theorem IsKt.keeps {h h' : Heap} {v : Value} {ks : List Key} (x : IsKt h v ks) (k : ∀ b o, v = .ref b → h.get? b = some o → h'.get? b = some o) : IsKt h' v ks := by
  obtain ⟨a, o, us, n, e, g, r⟩ := x
  exact ⟨a, o, us, n, e, k _ _ e g, r⟩
theorem kt_cmp {vs : List Value} {b : Bool} {k : Value → List Key} (hp : ∀ v ∈ vs, IsKt s.heap v (k v)) (hc : ∀ v ∈ vs, ∀ u ∈ vs, cmpK (k v) (k u) = true) : SrtO.Cmp prog w A s (tuples' b) (fun p => p.1 ∈ vs) (SrtO.lt2 fun v u => lexK (k v) (k u)) := by
  intro p q hm hm'
  obtain ⟨a, o, us, n, e, ho, _, hd, r⟩ := hp _ hm
  obtain ⟨a', o', us', n', e', ho', _, hd', r'⟩ := hp _ hm'
  show wpAny (model prog w) A (keyLt' (tuples' b) p.1 q.1) (fun r s' => s' = s ∧ r = lexK (k p.1) (k q.1)) (fun _ _ => False) s
  have hc' := hc _ hm _ hm'
  have hl : (k p.1).length = us.size := by have := r.length; simpa using this
  have hl' : (k q.1).length = us'.size := by have := r'.length; simpa using this
  generalize k p.1 = ks at r hc' hl ⊢
  generalize k q.1 = ls at r' hc' hl' ⊢
  rw [e, e']
  exact PySem.W.kat_lt ho hd ho' hd' (lex_keys _ _ 0 r r' hc' (by rw [hl, hl']) ⟨rfl, rfl⟩)
/-- the first parts, all of one sort -/
theorem kt_firsts {h : Heap} : ∀ {vs : List Value} {k : Value → List Key}, (∀ v ∈ vs, IsKt h v (k v)) → (∀ v ∈ vs, k v ≠ []) → ∃ fs, PySem.W.KatTups h vs fs ∧ fs.length = vs.length ∧ ∀ f ∈ fs, ∃ v ∈ vs, ∃ x r, k v = x :: r ∧ RelV (kV x) f
  | [], _, _, _ => ⟨[], .nil, rfl, fun _ z => nomatch z⟩
  | v :: vs, k, hp, hn => by
    obtain ⟨fs, h1, h2, h3⟩ := kt_firsts (vs := vs) (k := k) (fun u hu => hp u (List.mem_cons_of_mem v hu)) fun u hu => hn u (List.mem_cons_of_mem v hu)
    obtain ⟨a, o, us, n, rfl, ho, hc, hd, r⟩ := hp _ List.mem_cons_self
    have ne := hn _ List.mem_cons_self
    cases q : k (.ref a) with
    | nil => exact absurd q ne
    | cons x rest =>
      rw [q, List.map_cons] at r
      cases q2 : us.toList with
      | nil => rw [q2] at r; cases r
      | cons f fr =>
        rw [q2] at r
        cases r with
        | cons rf _ =>
          refine ⟨f :: fs, .cons ho hc hd ?_ h1, by rw [List.length_cons, List.length_cons, h2], fun g hg => ?_⟩
          · rw [← Array.getElem?_toList, q2]; rfl
          · rcases List.mem_cons.mp hg with rfl | hg
            · exact ⟨_, List.mem_cons_self, x, rest, q, rf⟩
            · obtain ⟨u, hu, z⟩ := h3 g hg
              exact ⟨u, List.mem_cons_of_mem _ hu, z⟩
def headK (b : Bool) : List Key → Bool
  | .inl _ :: _ => b
  | .inr _ :: _ => !b
  | [] => false
theorem kt_sortable {a : Addr} {vs : List Value} {k : Value → List Key} {b : Bool} (h0 : 0 < vs.length) (hp : ∀ v ∈ vs, IsKt s.heap v (k v)) (hh : ∀ v ∈ vs, headK b (k v) = true) (hc : ∀ v ∈ vs, ∀ u ∈ vs, cmpK (k v) (k u) = true)
    (ha : ∀ o, s.heap.get? a = some o → o.cls ≠ .type "tuple") : SrtO.SortableO prog w A s a vs fun v u => lexK (k v) (k u) := by
  intro h' keep
  have hp' : ∀ v ∈ vs, IsKt h' v (k v) := fun v hm => by
    obtain ⟨a1, o1, us1, n1, e1, g1, c1, r1⟩ := hp v hm
    exact ⟨a1, o1, us1, n1, e1, keep a1 o1 (fun z => by subst z; exact ha o1 g1 c1) g1, c1, r1⟩
  obtain ⟨fs, h1, h2, h3⟩ := kt_firsts hp' fun v hv => by intro e; have := hh v hv; rw [e] at this; cases this
  refine ⟨tuples' true, fun Q E hq => ?_, kt_cmp hp' hc⟩
  cases b with
  | true =>
    refine PySem.W.kat_kind (T := .type "int") h1 (by omega) (fun f hm => ?_) (by rfl) ?_
    · obtain ⟨v, hv, x, r, e, rf⟩ := h3 f hm
      have z := hh v hv
      rw [e] at z
      rcases x with i | t
      · obtain ⟨t1, rfl⟩ := rf
        exact PySem.W.Looks.now
      · cases z
    · have e : (Value.type "int" != Value.type "tuple") = true := by first | decide +kernel | rfl
      rw [e]
      exact hq
  | false =>
    refine PySem.W.kat_kind (T := .type "str") h1 (by omega) (fun f hm => ?_) (by rfl) ?_
    · obtain ⟨v, hv, x, r, e, rf⟩ := h3 f hm
      have z := hh v hv
      rw [e] at z
      rcases x with i | t
      · cases z
      · obtain ⟨t1, rfl⟩ := rf
        exact PySem.W.Looks.now
    · have e : (Value.type "str" != Value.type "tuple") = true := by first | decide +kernel | rfl
      rw [e]
      exact hq
end
end G

/-! # G47: t < u of tuples of ints and texts; sorted of lists of them, of dicts with such keys -/
namespace G
open PySem PySem.Spec PyProof.Rows L2
section
open PySem.SeqAt
open PySem.AutoSeq1 (wpAny_loadPart')
open PySem.MeetsSeq PySem.MeetsSeq2 PySem.MeetsSeq3
theorem tup_lt_keys (l b : Addr) (xs ys : Array Value) (n m : Nat) (d1 d2 : Option Addr) (o1 o2 : Array (Option Value)) (ks ls : List Key) (r1 : Vals (ks.map kV) xs.toList) (r2 : Vals (ls.map kV) ys.toList) (hc : cmpK ks ls = true) :
    Meets (Builtin.«tuple.__lt__» ⟨[.ref l, .ref b], []⟩)
      (fun _ R s => s.heap.get? l = some { cls := .type "tuple", dict := d1, data := .seq xs n, slots := o1 } ∧ s.heap.get? b = some { cls := .type "tuple", dict := d2, data := .seq ys m, slots := o2 } ∧ R (.ok (.ret (.bool (lexK ks ls)))) s) :=
  .of_wp fun prog w A R s h => by
    obtain ⟨hp, g, d, tk, os⟩ := s
    obtain ⟨hl, hb, h⟩ := h
    have f2 := AutoSeq1.sub_tuple_tuple
    have z1 : xs.size = ks.length := by have := r1.length; simpa using this.symm
    have z2 : ys.size = ls.length := by have := r2.length; simpa using this.symm
    wp_walk using wpAny_loadPart' hl, wpAny_loadPart' hb, wpAny_forIn_list _ (fun rest b s' => b.1 = none ∧ s' = ⟨hp, g, d, tk, os⟩ ∧ ∃ (vs us : List Value) (ka la : List Key), rest = vs.zip us ∧
      Vals (ka.map kV) vs ∧ Vals (la.map kV) us ∧ cmpK ka la = true ∧ ka.length + ys.size = la.length + xs.size ∧ R (.ok (.ret (.bool (lexK ka la)))) ⟨hp, g, d, tk, os⟩) _
    case turn =>
      rintro ⟨v, u⟩ rest b s' ⟨hb', rfl, vs, us, ka, la, hz, q1, q2, hc, hlen, hR⟩
      cases ka with
      | nil => cases q1; rw [List.zip_nil_left] at hz; cases hz
      | cons k ka =>
        cases la with
        | nil => cases q2; rw [List.zip_nil_right] at hz; cases hz
        | cons j la =>
          cases q1 with
          | cons rv tv =>
            cases q2 with
            | cons ru tu =>
              rw [List.zip_cons_cons] at hz
              injection hz with e1 e2
              injection e1 with e3 e4
              subst e3 e4
              have hc2 : sameK k j = true ∧ cmpK ka la = true := by
                have : (sameK k j && cmpK ka la) = true := hc
                rwa [Bool.and_eq_true] at this
              have hR2 : R (.ok (.ret (.bool (if k = j then lexK ka la else ltK k j)))) ⟨hp, g, d, tk, os⟩ := hR
              simp only [List.length_cons] at hlen
              refine wpAny_bind (eqAt_key (A := A.in1) (s := ⟨hp, g, d, tk, os⟩) rv ru hc2.1 prog w _ _ ?_)
              by_cases e : k = j
              · rw [decide_eq_true e]
                rw [if_pos e] at hR2
                wp_walk
                exact ⟨rfl, rfl, _, _, ka, la, e2, tv, tu, hc2.2, by omega, hR2⟩
              · rw [decide_eq_false e]
                rw [if_neg e] at hR2
                have hri : ∀ (E : Value → Shared → Prop) (Q : Value → Shared → Prop), Q (.bool (ltK k j)) ⟨hp, g, d, tk, os⟩ → wpAny (model prog w) A.in1 (richCompare .Lt v u) Q E ⟨hp, g, d, tk, os⟩ := fun E Q q => (lt_key rv ru hc2.1 q : wpAny (model prog w) A.in1 (compareOp .Lt v u) Q E ⟨hp, g, d, tk, os⟩)
                wp_walk using hri
                exact ⟨_, rfl, by simpa using hR2⟩
    case fin =>
      rintro ⟨b1, b2⟩ s' ⟨hb', rfl, vs, us, ka, la, hz, q1, q2, hc, hlen, hR⟩
      simp only at hb'
      subst hb'
      have hv : lexK ka la = decide (xs.size < ys.size) := by
        cases ka with
        | nil =>
          cases la with
          | nil =>
            simp only [List.length_nil] at hlen
            exact (decide_eq_false (by omega)).symm
          | cons j la =>
            simp only [List.length_nil, List.length_cons] at hlen
            exact (decide_eq_true (by omega)).symm
        | cons k ka =>
          cases la with
          | nil =>
            simp only [List.length_nil, List.length_cons] at hlen
            exact (decide_eq_false (by omega)).symm
          | cons j la =>
            cases q1
            cases q2
            rw [List.zip_cons_cons] at hz
            cases hz
      rw [hv] at hR
      wp_walk
      exact ⟨_, rfl, by simpa [Builtin.Tuple.tupleCompareSizes] using hR⟩
    case h =>
      exact ⟨rfl, rfl, xs.toList, ys.toList, ks, ls, rfl, r1, r2, hc, by omega, h⟩
end
section
variable {prog : Program} {w : World} {A : Around} {E : Value → Shared → Prop} {s : Shared}
theorem lt_tupKeys {l b : Addr} {xs ys : Array Value} {ks ls : List Key} {Q : Value → Shared → Prop} (hl : IsTup s.heap l xs) (hb : IsTup s.heap b ys) (r1 : Vals (ks.map kV) xs.toList) (r2 : Vals (ls.map kV) ys.toList) (hc : cmpK ks ls = true)
    (hu : A.units < cLine) (h : Q (.bool (lexK ks ls)) s) : wpAny (model prog w) A (compareOp .Lt (.ref l) (.ref b)) Q E s := by
  obtain ⟨⟨c1, d1, t1, o1⟩, h1, k1, n1, e1⟩ := id hl
  obtain ⟨⟨c2, d2, t2, o2⟩, h2, k2, n2, e2⟩ := id hb
  simp only at k1 e1 k2 e2
  subst k1 e1 k2 e2
  exact richCompare_meets_room (op := .Lt) ⟨_, h1, rfl⟩ ⟨_, h2, rfl⟩ PySem.F.slot_tuple_lt PySem.F.entry_tuple_lt (PySem.F.args_tuple_lt_2 _ _) (tup_lt_keys l b xs ys n1 n2 d1 d2 o1 o2 ks ls r1 r2 hc)
    ⟨h1, h2, show Value.bool (lexK ks ls) ≠ Value.notImplemented ∧ Q (.bool (lexK ks ls)) s from ⟨(fun x => nomatch x), h⟩⟩ hu
end
section
variable {X : Cx} {Wd : WX}
/-- x < y, of ints, texts, tuples of these -/
def gLtA (hs : Hs) (d e : D) : Option D := match d with
  | .str x => (match e with | .str y => some (.bl (decide (x.cps.toList < y.cps.toList))) | _ => none)
  | .tup ds => (match e with
    | .tup es => (match keysD ds with
      | some ks => (match keysD es with | some ls => if cmpK ks ls = true then some (.bl (lexK ks ls)) else none | none => none)
      | none => none)
    | _ => none)
  | d => gLt hs d e
theorem og_ltA (hu : X.A.units + 1 < cLine) : OpR X (compareOp .Lt) (rB X.K X.mg gLtA) := by
  rintro pins s σ H x y v u Q I rx ry ⟨mu, hs, d, e, w, S, r1, r2, hg, q⟩
  unfold gLtA at hg
  split at hg
  · split at hg
    · cases hg; cases r1; cases r2
      exact op_lt_str pins s σ H _ _ v u Q I rx ry ⟨_, _, rfl, rfl, fin0 S q (.bl _)⟩
    · cases hg
  · split at hg
    · split at hg
      · rename_i ks hks
        split at hg
        · rename_i ls hls
          split at hg
          · rename_i hc
            cases hg
            cases r1 with
            | tup q1 s1 =>
              cases r2 with
              | tup q2 s2 =>
                have e1 := keysD_at s1 hks
                have e2 := keysD_at s2 hls
                subst e1 e2
                cases rx
                cases ry
                obtain ⟨its, v1, p1, _⟩ := I.tuple q1.sq
                obtain ⟨its2, v2, p2, _⟩ := I.tuple q2.sq
                exact lt_tupKeys p1 p2 (by simpa using v1) (by simpa using v2) hc (by omega) ⟨.bl (lexK ks ls), H, I, rfl, fin0 S q (.bl _)⟩
          · cases hg
        · cases hg
      · cases hg
    · cases hg
  · exact og_lt pins s σ H x y v u Q I rx ry ⟨mu, hs, _, e, w, S, r1, r2, hg, q⟩
end
end G

/-! # G48: sorted, of what holds tuples of ints and texts -/
namespace G
open PySem PySem.Spec PyProof.Rows L2
section
variable {prog : Program} {w : World} {A : Around} {E : Value → Shared → Prop} {s : Shared}
/-- all items of a list or a tuple are taken into a new list -/
theorem collect_of {T : String} {l : Addr} {o : Obj} {vs : List Value} {n : Nat} {Q : List Value → Shared → Prop} (hT : (Value.type T == Value.type "list" || Value.type T == Value.type "tuple") = true) (h0 : s.heap.get? l = some o) (hc : o.cls = .type T) (hd : o.data = .seq vs.toArray n)
    (hz : vs.length ≤ sizeLine) (h : ∀ h', (∀ b u, s.heap.get? b = some u → h'.get? b = some u) → Q vs { s with heap := h' }) : wpAny (model prog w) A (collect (.ref l)) Q E s := by
  have keep : ∀ b u, s.heap.get? b = some u → ((s.heap.push (seqObj "list" #[] 0)).update s.heap.objs.size (Obj.mapSeq (· ++ vs.toArray))).get? b = some u := fun b u e => by
    rw [Heap.get?_update_ne _ _ _ _ (Nat.ne_of_lt (Heap.lt_size e))]
    exact Heap.get?_push_of_some _ e
  have h2 := h _ keep
  unfold collect
  refine wpAny_bind (wpAny_runValue (codeAny_builtin entry_proto_collect' ?_))
  show wpAny _ _ (do again (.builtin "list.__iadd__" ⟨[← newList [], .ref l], []⟩)) _ _ s
  refine wpAny_bind (wpAny_newList (wpAny_pure ⟨Code.quiet_builtin _ (by decide +kernel), codeAny_builtin entry_list_iadd' ?_⟩))
  have h3 : (s.heap.push (seqObj "list" #[] 0)).get? l = some o := Heap.get?_push_of_some _ h0
  have hn : (s.heap.push (seqObj "list" #[] 0)).get? s.heap.objs.size = some (seqObj "list" #[] 0) := Heap.get?_push_size _ rfl
  show wpAny _ _ (Builtin.List.listExtendWith (.ref s.heap.objs.size) (.ref l) (.ref s.heap.objs.size)) _ _ { s with heap := s.heap.push (seqObj "list" #[] 0) }
  unfold Builtin.List.listExtendWith
  refine wpAny_bind (wpAny_typeOf (T := T) ⟨o, h3, hc⟩ ?_)
  rw [if_pos (by rw [Bool.or_assoc, hT, Bool.or_true])]
  refine wpAny_bind (listItems_at h3 hd ?_)
  refine wpAny_bind (listItems_at hn rfl ?_)
  rw [if_neg (by simp)]
  refine wpAny_bind (listUpdate_at hn rfl ?_ (Nat.zero_le _) (by show (#[] ++ vs.toArray).size ≤ sizeLine + 1; simp only [Array.size_append, List.size_toArray, List.length_nil]; omega))
  refine wpAny_pure ?_
  show wpAny (model prog w) A (do
      let q ← load s.heap.objs.size
      match q.data with
      | .seq xs _ => pure xs.toList
      | _ => unsupported "internal:collect") Q E { s with heap := (s.heap.push (seqObj "list" #[] 0)).update s.heap.objs.size (Obj.mapSeq (· ++ vs.toArray)) }
  refine wpAny_bind (wpAny_load (get?_update_seq hn _) ?_)
  show wpAny _ _ (pure ((#[] : Array Value) ++ vs.toArray).toList) Q E _
  have e : ((#[] : Array Value) ++ vs.toArray).toList = vs := by simp
  rw [e]
  exact wpAny_pure h2
/-- sorted(x), x's items gathered anyhow -/
theorem sorted_of {x : Value} {vs : List Value} {ltv : Value → Value → Bool} {Q : Value → Shared → Prop} (O : SrtO.Swo ltv) (hz : vs.length ≤ sizeLine)
    (hcol : ∀ (Q' : List Value → Shared → Prop) (E' : Value → Shared → Prop), (∀ h' tk, (∀ b u, s.heap.get? b = some u → h'.get? b = some u) → Q' vs { s with heap := h', toks := tk }) → wpAny (model prog w) A.in1 (collect x) Q' E' s)
    (hS : 2 ≤ vs.length → ∀ (h1 : Heap) (tk : Nat) (a : Addr), h1.get? a = some (seqObj "list" vs.toArray 0) → (∀ b u, s.heap.get? b = some u → h1.get? b = some u) → SrtO.SortableO prog w A.in1.in1 { s with heap := h1, toks := tk } a vs ltv)
    (h : ∀ (out : List Value) (h1 h2 : Heap) (tk : Nat), SrtO.Srtd ltv out → SrtO.Stb ltv out vs → (∀ b u, s.heap.get? b = some u → h1.get? b = some u) → (∀ b u, h1.get? b = some u → h2.get? b = some u) → (∃ n, h2.get? h1.objs.size = some (seqObj "list" out.toArray n)) → Q (.ref h1.objs.size) { s with heap := h2, toks := tk }) :
    wpAny (model prog w) A (call (.builtin "sorted") [x]) Q E s := by
  refine Calls.call_function_entry kind_sorted plain_sorted entry_sorted (args_sorted1 _) ?_
  unfold Builtin.«sorted»
  refine wpAny_bind (m := checkCount "sorted" 1 1 _) (wpAny_pure ?_)
  refine wpAny_bind (hcol _ _ fun h' tk k1 => ?_)
  refine wpAny_bind (wpAny_newList ?_ hz)
  have hn : (h'.push (seqObj "list" vs.toArray 0)).get? h'.objs.size = some (seqObj "list" vs.toArray 0) := Heap.get?_push_size _ rfl
  have k2 : ∀ b u, h'.get? b = some u → (h'.push (seqObj "list" vs.toArray 0)).get? b = some u := fun b u e => Heap.get?_push_of_some _ e
  show wpAny _ _ _ _ _ { s with heap := h'.push (seqObj "list" vs.toArray 0), toks := tk }
  refine wpAny_bind (wpAny_holding (wpAny_call_entry slot_list_sort ⟨_, hn, rfl⟩ entry_list_sort (SrtO.list_sort_ord (s := { s with heap := h'.push (seqObj "list" vs.toArray 0), toks := tk }) O hn hz (fun g2 => hS g2 _ _ _ hn fun b u e => k2 b u (k1 b u e)) fun out hs hb => ⟨_, rfl, ?_⟩) (args_list_sort _)))
  obtain ⟨n, hd⟩ := sortedHeap_at (vs := vs) (out := out.toArray) hn
  refine wpAny_pure ⟨_, rfl, h out h' _ tk hs hb k1 (fun b u e => ?_) ⟨n, hd⟩⟩
  have hlt : b < h'.objs.size := Heap.lt_size e
  rw [sortedHeap_old (Nat.ne_of_lt hlt) (by rw [size_push']; exact Nat.lt_succ_of_lt hlt)]
  exact k2 b u e
end
/-! ### by the heap of the layer -/
def vK : V → Key
  | .int i => .inl i
  | .str z => .inr z
  | _ => .inl 0
theorem vK_kV (k : Key) : vK (kV k) = k := by cases k <;> rfl
def keyAt (H : Hp) : Value → List Key
  | .ref a => (match H a with | some (.tup vs) => vs.map vK | _ => [])
  | _ => []
theorem keyAt_of {H : Hp} {a : Addr} {ks : List Key} (e : H a = some (.tup (ks.map kV))) : keyAt H (.ref a) = ks := by
  unfold keyAt
  dsimp only
  rw [e]
  show (ks.map kV).map vK = ks
  rw [List.map_map]
  exact (List.map_congr_left fun k _ => vK_kV k).trans (List.map_id ks)
/-- the addresses hold these tuples of keys -/
def KtAt (H : Hp) (ts : List Addr) (kss : List (List Key)) : Prop := Paired (fun t ks => H t = some (.tup (ks.map kV))) ts kss
theorem KtAt.keys {H : Hp} : ∀ {ts : List Addr} {kss : List (List Key)}, KtAt H ts kss → (ts.map Value.ref).map (keyAt H) = kss ∧ ∀ t ∈ ts, ∃ ks ∈ kss, H t = some (.tup (ks.map kV))
  | _, _, .nil => ⟨rfl, fun _ z => nomatch z⟩
  | _, _, .cons e t => by
    obtain ⟨h1, h2⟩ := KtAt.keys t
    refine ⟨by rw [List.map_cons, List.map_cons, h1, keyAt_of e], fun u hu => ?_⟩
    rcases List.mem_cons.mp hu with rfl | hu
    · exact ⟨_, List.mem_cons_self, e⟩
    · obtain ⟨ks, hk, z⟩ := h2 u hu
      exact ⟨ks, List.mem_cons_of_mem _ hk, z⟩
def okKs (kss : List (List Key)) : Bool := (kss.all fun x => kss.all fun y => cmpK x y) && (kss.all (headK true) || kss.all (headK false)) && decide (kss.length ≤ 100000)
/-- in their order -/
def insK (x : List Key) : List (List Key) → List (List Key)
  | [] => [x]
  | y :: r => if lexK y x = true then y :: insK x r else x :: y :: r
def sortK : List (List Key) → List (List Key)
  | [] => []
  | x :: r => insK x (sortK r)
theorem insK_perm (x : List Key) : ∀ l : List (List Key), (insK x l).Perm (x :: l)
  | [] => .refl _
  | y :: r => by
    unfold insK
    split
    · exact ((insK_perm x r).cons y).trans (.swap x y r)
    · exact .refl _
theorem sortK_perm : ∀ l : List (List Key), (sortK l).Perm l
  | [] => .refl _
  | x :: r => (insK_perm x (sortK r)).trans ((sortK_perm r).cons x)
abbrev leK (x y : List Key) : Prop := lexK y x = false
theorem insK_pw {x : List Key} : ∀ {l : List (List Key)}, l.Pairwise leK → (insK x l).Pairwise leK
  | [], _ => List.pairwise_singleton _ _
  | y :: r, h => by
    unfold insK
    split
    · rename_i q
      refine List.pairwise_cons.mpr ⟨fun z hz => ?_, insK_pw h.of_cons⟩
      rcases List.mem_cons.mp ((insK_perm x r).subset hz) with rfl | hz
      · exact lexK_asym _ _ q
      · exact List.rel_of_pairwise_cons h hz
    · rename_i q
      have q : lexK y x = false := Bool.eq_false_iff.mpr q
      refine List.pairwise_cons.mpr ⟨fun z hz => ?_, h⟩
      rcases List.mem_cons.mp hz with rfl | hz
      · exact q
      · exact lexK_neg (x := x) (y := y) (z := z) q (List.rel_of_pairwise_cons h hz)
theorem sortK_pw : ∀ l : List (List Key), (sortK l).Pairwise leK
  | [] => .nil
  | x :: r => insK_pw (sortK_pw r)
theorem sortK_is {l m : List (List Key)} (p : m.Perm l) (h : m.Pairwise leK) : m = sortK l := uniq_sorted leK (fun _ _ a b => lexK_conn b a) (p.trans (sortK_perm l).symm) h (sortK_pw l)
/-- what sorted gives of such items -/
theorem sort_keys {X : Cx} {pins : List (Addr × Obj)} {σ : L2.St} {H : Hp} {s : Shared} {x : Value} {Q : VK} {ts : List Addr} {kss : List (List Key)} (I : Inv X pins σ H s) (hk : KtAt H ts kss) (ok : okKs kss = true)
    (hcol : ∀ (Q' : List Value → Shared → Prop) (E' : Value → Shared → Prop), (∀ h' tk, (∀ b u, s.heap.get? b = some u → h'.get? b = some u) → Q' (ts.map Value.ref) { s with heap := h', toks := tk }) → wpAny (model X.prog X.w) X.A.in1 (collect x) Q' E' s)
    (q : ∀ ts' p, KtAt H ts' (sortK kss) → (∀ t ∈ ts', t ∈ ts) → H p = none → Q (.ref p) (upd H p (.lst (ts'.map V.ref)))) : wpAny (model X.prog X.w) X.A (call (.builtin "sorted") [x]) (EP X pins σ Q) X.xe s := by
  unfold okKs at ok
  rw [Bool.and_eq_true, Bool.and_eq_true] at ok
  obtain ⟨⟨o1, o2⟩, o3⟩ := ok
  have cmp : ∀ a ∈ kss, ∀ b ∈ kss, cmpK a b = true := fun a ha b hb => List.all_eq_true.mp (List.all_eq_true.mp o1 a ha) b hb
  obtain ⟨b, hb⟩ : ∃ b, ∀ a ∈ kss, headK b a = true := by
    rcases Bool.or_eq_true_iff.mp o2 with h | h
    · exact ⟨true, List.all_eq_true.mp h⟩
    · exact ⟨false, List.all_eq_true.mp h⟩
  obtain ⟨hkeys, hat⟩ := hk.keys
  have hlen : ts.length = kss.length := by rw [← hkeys, List.length_map, List.length_map]
  have l3 := of_decide_eq_true o3
  have hm : ∀ v ∈ ts.map Value.ref, keyAt H v ∈ kss := fun v hv => by rw [← hkeys]; exact List.mem_map_of_mem hv
  have kt : ∀ h1 : Heap, (∀ b u, s.heap.get? b = some u → h1.get? b = some u) → ∀ v ∈ ts.map Value.ref, IsKt h1 v (keyAt H v) := fun h1 k v hv => by
    obtain ⟨t, ht, rfl⟩ := List.mem_map.mp hv
    obtain ⟨ks, _, e⟩ := hat t ht
    rw [keyAt_of e]
    obtain ⟨_, its, r, o, ho, hc, n, hd⟩ := I.hok _ _ e
    exact ⟨t, o, its.toArray, n, rfl, k _ _ ho, hc, hd, by simpa using r⟩
  refine sorted_of (swoK (keyAt H)) (by rw [List.length_map, sizeLine_eq]; omega) hcol (fun g2 h1 tk a ha k => ?_) fun out h1 h2 tk hs hst k1 k2 hd => ?_
  · refine kt_sortable (b := b) (by omega) (kt h1 k) (fun v hv => hb _ (hm v hv)) (fun v hv u hu => cmp _ (hm v hv) _ (hm u hu)) fun o e => ?_
    have e2 : some o = some (seqObj "list" (ts.map Value.ref).toArray 0) := e.symm.trans ha
    cases e2
    intro c
    exact absurd (Value.type.inj c) (by decide)
  · have hp := hst.perm
    have ho : ∀ v ∈ out, ∃ t ∈ ts, v = Value.ref t := fun v hv => by
      obtain ⟨t, ht, e⟩ := List.mem_map.mp (hp.subset hv)
      exact ⟨t, ht, e.symm⟩
    obtain ⟨ts', e1, e2⟩ : ∃ ts' : List Addr, out = ts'.map Value.ref ∧ ∀ t ∈ ts', t ∈ ts := by
      clear hs hst hd hp
      induction out with
      | nil => exact ⟨[], rfl, fun _ z => nomatch z⟩
      | cons v out ih =>
        obtain ⟨ts', e1, e2⟩ := ih fun u hu => ho u (List.mem_cons_of_mem _ hu)
        obtain ⟨t, ht, rfl⟩ := ho _ List.mem_cons_self
        refine ⟨t :: ts', by rw [e1]; rfl, fun u hu => ?_⟩
        rcases List.mem_cons.mp hu with rfl | hu
        · exact ht
        · exact e2 u hu
    subst e1
    have sk : (ts'.map Value.ref).map (keyAt H) = sortK kss := by
      refine sortK_is ?_ (List.pairwise_map.mpr hs)
      rw [← hkeys]
      exact hp.map _
    have kt' : KtAt H ts' (sortK kss) := by
      rw [← sk]
      clear sk hs hst hd hp ho
      induction ts' with
      | nil => exact .nil
      | cons t ts' ih =>
        obtain ⟨ks, _, e⟩ := hat t (e2 t List.mem_cons_self)
        refine .cons ?_ (ih fun u hu => e2 u (List.mem_cons_of_mem _ hu))
        rw [keyAt_of e]; exact e
    have I1 : Inv X pins σ H { s with heap := h1, toks := tk } := I.kept k1
    obtain ⟨n, hd⟩ := hd
    have hl : (ts'.map V.ref).length ≤ sizeLine := by
      have := hp.length_eq
      rw [List.length_map, List.length_map] at this
      rw [List.length_map, sizeLine_eq]; omega
    exact ⟨.ref h1.objs.size, upd H h1.objs.size (.lst (ts'.map V.ref)), I1.laid (t' := tk) k2 (Nat.le_refl _) ⟨hl, ts'.map Value.ref, n, vals_refs _, hd⟩, rfl, q ts' _ kt' e2 (I1.hok.fresh (Nat.le_refl _))⟩
end G

/-! # G49: sorted(x) as a function of ours -/
namespace G
open PySem PySem.Spec PyProof.Rows L2
def keyV : Key → D
  | .inl i => .int i
  | .inr z => .str z
def tupK (ks : List Key) : D := .tup (ks.map keyV)
def keyTs : List D → Option (List (List Key))
  | [] => some []
  | .tup ds :: r => (match keysD ds with | some ks => (match keyTs r with | some kss => some (ks :: kss) | none => none) | none => none)
  | _ :: _ => none
def dtOf (hs : Hs) : D → Option (List (List Key × D))
  | .ref n => (match hs[n]? with | some (.dt kvs) => some kvs | _ => none)
  | _ => none
def sortKs (kss : List (List Key)) : Option (List D) := if okKs kss = true then some ((sortK kss).map tupK) else none
def gSortA (hs : Hs) (d : D) : Option (List D) := match seqOf hs d with
  | some ds => (match keyTs ds with | some kss => sortKs kss | none => none)
  | none => (match dtOf hs d with
    | some kvs => sortKs (kvs.map (·.1))
    | none => gSortK hs d)
section
variable {K : PySem.W.Frag} {mg : Str → Option Value} {mu : Mp} {hs : Hs} {H : Hp}
theorem dtOf_at {d : D} {v : V} {kvs : List (List Key × D)} (S : Sim K mg mu hs H) (r : RD K mu H d v) (e : dtOf hs d = some kvs) : ∃ a vs, v = .ref a ∧ H a = some (.dT vs) ∧ RKs K mu H kvs vs := by
  cases r with
  | ref q =>
    unfold dtOf at e
    dsimp only at e
    split at e
    · rename_i kvs' hd
      cases e
      obtain ⟨u, h1, h2⟩ := S.at q hd
      cases u with
      | dT vs => exact ⟨_, vs, rfl, h1, h2⟩
      | _ => exact h2.elim
    · cases e
  | _ => cases e
theorem RKs.fsts {k : Type} : ∀ {ds : List (k × D)} {vs : List (k × V)}, RKs K mu H ds vs → ds.map (·.1) = vs.map (·.1)
  | _, _, .nil => rfl
  | _, _, .cons _ t => by rw [List.map_cons, List.map_cons, RKs.fsts t]
theorem Sim.tup_out (S : Sim K mg mu hs H) {a : Addr} {vs : List V} (e : H a = some (.tup vs)) : a ∉ mu.l := fun m => by
  obtain ⟨n, hn, q⟩ := List.getElem_of_mem m
  have hn' : n < hs.length := by rw [← S.len]; exact hn
  obtain ⟨b, u, e1, e2, e3⟩ := S.obj n hs[n] (List.getElem?_eq_getElem hn')
  rw [List.getElem?_eq_getElem hn] at e1
  cases e1
  rw [q, e] at e2
  cases e2
  exact RO.notTup e3
theorem keyTs_at : ∀ {ds : List D} {vs : List V} {kss : List (List Key)}, RDs K mu H ds vs → keyTs ds = some kss → ∃ ts, vs = ts.map V.ref ∧ KtAt H ts kss
  | [], _, _, .nil, e => by cases e; exact ⟨[], rfl, .nil⟩
  | d :: ds, _, _, .cons r t, e => by
    cases r with
    | tup q rs =>
      rename_i a us xs
      unfold keyTs at e
      split at e
      · rename_i ks hks
        split at e
        · rename_i kss' hk
          cases e
          obtain ⟨ts, e1, h⟩ := keyTs_at t hk
          have e2 := keysD_at rs hks
          subst e1 e2
          exact ⟨a :: ts, rfl, .cons q.1 h⟩
        · cases e
      · cases e
    | _ => cases e
theorem keys_rds : ∀ ks : List Key, RDs K mu H (ks.map keyV) (ks.map kV)
  | [] => .nil
  | .inl i :: ks => .cons (.int i) (keys_rds ks)
  | .inr z :: ks => .cons (.str z) (keys_rds ks)
theorem kt_rds (S : Sim K mg mu hs H) : ∀ {ts : List Addr} {kss : List (List Key)}, KtAt H ts kss → RDs K mu H (kss.map tupK) (ts.map V.ref)
  | _, _, .nil => .nil
  | _, _, .cons e t => .cons (.tup ⟨e, S.tup_out e⟩ (keys_rds _)) (kt_rds S t)
theorem refs_vals : ∀ {ts : List Addr} {us : List Value}, Vals (ts.map V.ref) us → us = ts.map Value.ref
  | [], _, .nil => rfl
  | t :: ts, _, .cons r q => by cases r; rw [refs_vals q]; rfl
end
section
variable {X : Cx} {Wd : WX}
def rSortG (K : PySem.W.Frag) (mg : Str → Option Value) : List V → Hp → VK → Prop := fun xs H Q => ∃ mu hs d x ds, xs = [x] ∧ Sim K mg mu hs H ∧ RD K mu H d x ∧ gSortA hs d = some ds ∧ ∀ p vs, H p = none → RDs K mu H ds vs → Q (.ref p) (upd H p (.lst vs))
theorem cr_sortA (hc : X.calm = true) : CallR X (.builtin "sorted") (rSortG X.K X.mg) := by
  rintro pins s σ H xs us Q I r ⟨mu, hs, d, x, ds, rfl, S, rd, hg, q⟩
  obtain ⟨u, rfl, ru⟩ := r.one
  unfold gSortA at hg
  split at hg
  · rename_i es hes
    split at hg
    · rename_i kss hks
      unfold sortKs at hg
      split at hg
      · rename_i ok
        cases hg
        obtain ⟨p, vs, rfl, h1, h2⟩ := seqOf_at S rd hes
        obtain ⟨ts, rfl, hat⟩ := keyTs_at h2 hks
        obtain rfl : u = Value.ref p := ru
        refine sort_keys I hat ok (fun Q' E' k => ?_) fun ts' p' hk _ hp => q p' _ hp (kt_rds S hk)
        rcases h1 with h1 | h1
        · obtain ⟨its, rv, hl, hz⟩ := I.list h1
          obtain rfl := refs_vals rv
          obtain ⟨o, ho, hcl, n, hd⟩ := hl.isList
          exact collect_of (T := "list") (by decide +kernel) ho hcl hd (by simpa using hz) fun h' kk => k h' s.toks kk
        · obtain ⟨its, rv, hl, hz⟩ := I.tuple h1
          obtain rfl := refs_vals rv
          obtain ⟨o, ho, hcl, n, hd⟩ := hl
          exact collect_of (T := "tuple") (by decide +kernel) ho hcl hd (by simpa using hz) fun h' kk => k h' s.toks kk
      · cases hg
    · cases hg
  · split at hg
    · rename_i kvs hkv
      unfold sortKs at hg
      split at hg
      · rename_i ok
        cases hg
        obtain ⟨p, vs, rfl, h1, h2⟩ := dtOf_at S rd hkv
        obtain rfl : u = Value.ref p := ru
        rw [h2.fsts] at ok q
        obtain ⟨z, hne, ks, pr, o, es, ep, ho, hx, hdt, he, hn⟩ := (show ObjOk X.prog X.w H s.heap p (.dT vs) from I.hok p _ h1)
        have l1 : es.size = ks.length := size_of_entries he
        have l2 : vs.length = ks.length := Paired.length pr
        have hat : ∀ {l : List (List Key × V)} {m : List (List Key × Addr × Value)}, KT H l m → KtAt H (m.map fun x => x.2.1) (l.map (·.1)) := by
          intro l m rr
          induction rr with
          | nil => exact .nil
          | cons h t ih => exact .cons h.2.1 ih
        refine sort_keys I (hat pr) ok (fun Q' E' k => ?_) fun ts' p' hk _ hp => q p' _ hp (kt_rds S hk)
        refine PySem.W.kdu_collect (A := X.A.in1) (kdl_raw hne hx hdt) (I.ok.hd hc) ho (by omega) fun h' tk acc kk it => ?_
        have hl : acc.toList.length = ks.length := by rw [Array.length_toList, it.1]; exact l1
        have ea : acc.toList = (ks.map fun x => x.2.1).map Value.ref := by
          rw [List.map_map]
          apply List.ext_getElem?
          intro j
          rw [List.getElem?_map]
          cases hj : acc.toList[j]? with
          | none =>
            have h1 := List.getElem?_eq_none_iff.mp hj
            rw [List.getElem?_eq_none (by omega)]
            rfl
          | some v =>
            obtain ⟨en, hen, hv⟩ := it.2 j v (by rw [← Array.getElem?_toList]; exact hj)
            have qe := entry_at he j
            rw [hen] at qe
            cases hb : ks[j]? with
            | none => rw [hb] at qe; exact nomatch (show some en = none from qe)
            | some b =>
              rw [hb] at qe
              have e2 : en = entryOfKey (tupleKind (mixKind X.prog X.w)) b := Option.some.inj qe
              rw [hv, e2]
              rfl
        rw [ea]
        exact k h' tk kk
      · cases hg
    · unfold gSortK at hg
      split at hg
      · rename_i kvs hk
        split at hg
        · rename_i ks hks
          split at hg
          · rename_i h64
            cases hg
            obtain ⟨a, vs, rfl, ha, rk⟩ := dkOf_at S rd hk
            refine call_sortedD hc pins s σ H _ _ Q I r ⟨a, vs, ks, rfl, .inl ha, txtKeys_at rk hks, h64, fun ys p hp hs hq => ?_⟩
            rw [sortT_is hp hs]
            exact q p _ hq (RDs.strs _)
          · cases hg
        · cases hg
      · cases hg
def lSortA (f : FE) : FL := fun e hs => (f e hs).bind fun d hs => R.ofO (gSortA hs d) hs
theorem uf_sortA {a : Expr} {f1 : FE} {p pos : Pos} (hc : X.calm = true) (hg : L2.Gl X "sorted") (hm : X.mg "sorted" = none) (ha : UE X Wd a f1)
    (hs1 : starEach [a] X.env = [(false, eval a X.env)] := by rfl) : UF X Wd (.Call (.Name "sorted" p) [a] [] pos) (lSortA f1) := by
  refine PE.imp (pe_callB (cr_sortA hc) hg hm boot_sorted (pa_cons ha pa_nil hs1) (by decide) (by decide) hs1 rfl) fun σ H Q h => ?_
  obtain ⟨e, mu, hs, S, E, q⟩ := tG_seq (r := relD X.K) relF_ok h
  refine ⟨e, mu, hs, S, E, q.imp fun x H1 ⟨e, mu1, hs1, d, S1, E1, r1, g1⟩ => ?_⟩
  cases q : gSortA hs1 d with
  | none => rw [q] at g1; exact g1.elim
  | some ds =>
    rw [q] at g1
    exact ⟨mu1, hs1, d, x, ds, rfl, S1, r1, q, fun p vs hp rr => relF_new S1 g1 hp rr⟩
end
section
variable {e : Ev} {hs h : Hs} {X : XQ}
theorem wp_sortA {f : FE} {Q : List D → Hs → Prop} (g : Wp (f e hs) (fun d h => Wp (R.ofO (gSortA h d) h) Q X) X) : Wp (lSortA f e hs) Q X := wp_bind g
theorem sort_dk {N : Nat} {kvs : List (Key × D)} (e : h[N]? = some (.dk kvs)) : gSortA h (.ref N) = gSortK h (.ref N) := by
  unfold gSortA seqOf rdOf lstOf tupOf dtOf
  dsimp only
  rw [e]
theorem sort_dt {N : Nat} {kvs : List (List Key × D)} (e : h[N]? = some (.dt kvs)) (ok : okKs (kvs.map (·.1)) = true) : gSortA h (.ref N) = some ((sortK (kvs.map (·.1))).map tupK) := by
  unfold gSortA seqOf rdOf lstOf tupOf dtOf
  dsimp only
  rw [e]
  unfold sortKs
  dsimp only
  rw [if_pos ok]
end
end G

/-! # G50: exceptions: raise, try .. except X as e, isinstance of what is caught, its fields -/
namespace G
open PySem PySem.Spec PyProof.Rows L2

/-! ### the caught thing, tracked -/
def ExT (C : Addr) (d : Option Addr) (a : Addr) : HO := .ext (ExPl C d a)
theorem exT_ok {P : Program} {w : World} {H : Hp} {h : Heap} {a C : Addr} {d : Option Addr} (e : ExPl C d a h) : ObjOk P w H h a (ExT C d a) :=
  ⟨e, let ⟨oe, _, q, _⟩ := e; ⟨oe, q⟩, fun _ _ ⟨o, v, q, r⟩ k => ⟨o, v, k o q, r⟩⟩
section
variable {X : Cx} {pins : List (Addr × Obj)} {σ : L2.St} {H : Hp} {s : Shared}
theorem inv_suite (I : L2.Inv X pins σ H s) (a : Addr) : L2.Inv (X.suite a (X.pn ++ pins)) [] σ H s :=
  ⟨I.ok.suite _ _, I.os, I.bare, I.base, I.loc, I.cell, I.free, I.freeC, fun p hp => I.pin p (by rw [List.append_nil] at hp; exact hp), I.hok, I.len⟩
theorem inv_unsuite {a : Addr} {pn' : List (Addr × Obj)} (I : L2.Inv (X.suite a (X.pn ++ pins)) pn' σ H s) (ok : X.Ok) : L2.Inv X pins σ H s :=
  ⟨ok, I.os, I.bare, I.base, I.loc, I.cell, I.free, I.freeC, fun p hp => I.pin p (List.mem_append_left _ hp), I.hok, I.len⟩
end
/-- what the clause 'except x as n' wishes of an exception of the body: slot i is n's -/
def wAsT (K : PySem.W.Frag) (c : Value) (i : Nat) (ts : TS) (Wout : WX) (D : Ends) : WX := fun cls d σ H =>
  ∃ C b, cls = .ref C ∧ PySem.W.exmOne K cls c = some b ∧ (b = true → ∀ a, H a = none → ts { nx := fun σ' H' => D.nx (σ'.set i none) H', rt := D.rt, bk := fun σ' H' => D.bk (σ'.set i none) H', ct := fun σ' H' => D.ct (σ'.set i none) H' } (σ.set i (some (.ref a))) (upd H a (ExT C d a))) ∧
    (b = false → Wout cls d σ H)
section
variable {X : Cx} {x n : Str} {c : Value} {i : Nat} {body suite : List Stmt} {b₀ : Stmt} {np pos pos' : Pos} {tb : WX → TS} {ts : TS} {Wout : WX}
theorem ps_try_asT (hs : X.stack = X.env :: X.outer) (hf : X.env.frame = some X.env.locals) (hN : X.N.Nodup) (hi : X.N[i]? = some n) (hln : X.env.kindOf n = some .local) (hc : Names X x c) (tk : Takes X Wout)
    (hb : ∀ (W : WX) (pn : List (Addr × Obj)) (xe : Value → Shared → Prop), Takes (X.tr pn xe) W → PassesOwn (model X.prog X.w) X.A X.env xe → PSs (X.tr pn xe) body (tb W))
    (hsu : ∀ (a : Addr) (pn : List (Addr × Obj)), PSs (X.suite a pn) (b₀ :: suite) ts) :
    PS X (.Try body [.ExceptHandler (some (.Name x np)) (some n) (b₀ :: suite) pos'] [] [] pos) (fun D σ H => tb (wAsT X.K c i ts Wout D) D σ H) := by
  refine ⟨fun pins s σ H D I h => ?_⟩
  have ok := I.ok
  have hfr : X.A.frames = some (X.env :: X.outer) := by rw [ok.frames, hs]
  have hloc : Loc X.env.scope n := .inl hln
  refine wpAny_Try_except ?_
  refine wpAny_mono ((hb (wAsT X.K c i ts Wout D) (X.pn ++ pins) (fun e s₁ => wpAny (model X.prog X.w) X.A (noteFrame e X.env) (fun _ s₂ => wpAny (model X.prog X.w) X.A (setFlight e none) (fun _ s₃ =>
    wpAny (model X.prog X.w) X.A (handleBy e X.env [.ExceptHandler (some (.Name x np)) (some n) (b₀ :: suite) pos']) (SP X pins D) X.xe s₃) X.xe s₂) X.xe s₁) (fun u s' xx => ?_) PassesOwn.looking).run [] s σ H D (I.toTry _) h) (fun f s1 hsp => ?_) (fun e s1 he => he)
  · -- the catch
    obtain ⟨a, B, sI, pins', σ', H', cls, d, rfl, J', nb, up, sky, na, os, ag, C, b, rfl, hb1, hyes, hno⟩ := xx
    have J : L2.Inv X pins σ' H' sI := J'.ofTry ok
    have sky' : Sky B (X.env :: X.outer) a (Zc (.ref C) d) X.env.locals s'.heap := by rw [← hs]; exact sky
    show wpAny (model X.prog X.w) X.A (noteFrame (.ref a) X.env) _ _ _
    refine Sky.land Zc.steady hfr hf sky' fun h3 fl3 up3 => ?_
    have J3 : L2.Inv X pins σ' H' { s' with heap := h3 } := J.landed nb fl3.1 (up.trans up3) os ag
    obtain ⟨oe3, vs3, he3, hz3, hd3⟩ := fl3.there
    have notFr : ∀ {h : Heap} {o : Obj} {vs : Array Value}, h.FunFrames B (X.env :: X.outer) → h.get? a = some o → o.data = .fields vs → a ∉ frs (X.env :: X.outer) := fun {h o vs} ff e dd hm => by
      obtain ⟨_, o', e', hnf⟩ := ff.mem hm
      rw [e] at e'; cases e'
      exact hnf _ dd
    have nfr := notFr fl3.2.2.1 he3 hd3
    have nI : sI.heap.get? a = none := by
      cases q : sI.heap.get? a with
      | none => rfl
      | some o =>
        have z := nb a o q (by rw [hs]; exact nfr)
        rw [fl3.2.1] at z; cases z
    have S3 := inv_suite J3 a
    refine wpAny_handleBy_cons (codeAny_handlers_test ?_) (by intro q; cases q)
    have LT : PySem.W.Looks (model X.prog X.w) h3 (typeOf (.ref a)) (.ref C) := fun A Q E s k q => wpAny_typeOf_ref (k _ _ he3) (by rw [hz3.1]; exact q)
    have LM := PySem.W.exm_one (M := model X.prog X.w) (J3.kIn) LT hb1
    have test : ∀ {Q : Value → Shared → Prop} {E : Value → Shared → Prop}, Q c { s' with heap := h3 } → wpAny (model X.prog X.w) (X.A.mark (some (.ref a))) (eval (.Name x np) X.env) Q E { s' with heap := h3 } := fun {Q E} q => by
      obtain ⟨hg, hdbg, hm | ⟨hm, hv, hnn⟩⟩ := hc
      · exact ld_glob (X := X.suite a (X.pn ++ pins)) S3 hg hm q hdbg
      · exact ld_blt (X := X.suite a (X.pn ++ pins)) S3 hg hm hv q hnn hdbg
    refine test (LM.here ?_)
    cases b with
    | true =>
      refine codeAny_handlers_suite_as ?_
      refine HandSPX.lands_againZ fl3 fun h4 fl4 up4 => ?_
      obtain ⟨oe4, vs4, he4, hz4, hd4⟩ := fl4.there
      obtain ⟨G, g1, g2⟩ := restrict h4 fun b => decide (b ≠ a)
      have gk : ∀ b o, b ≠ a → h4.get? b = some o → G.get? b = some o := fun b o hb e => by
        rw [g1 b (decide_eq_true hb)]; exact e
      have ga : G.get? a = none := g2 a (decide_eq_false fun z => z rfl)
      have gs : ∀ b o, G.get? b = some o → h4.get? b = some o := fun b o e => by
        by_cases hb : b = a
        · rw [hb, ga] at e; cases e
        · rw [← g1 b (decide_eq_true hb)]; exact e
      have J4 : L2.Inv X pins σ' H' { s' with heap := G } := J.landed nb (fun b o e => gk b o (fun z => by rw [z, fl4.2.1] at e; cases e) (fl4.1 b o e))
        (fun b o e hd => by
          obtain ⟨sl, q⟩ := ((up.trans up3).trans up4) b o e hd
          exact ⟨sl, gk b _ (fun z => by rw [z, nI] at e; cases e) q⟩) os ag
      have J5 : L2.Inv X pins σ' (upd H' a (ExT C d a)) { s' with heap := h4 } := Inv.laidN (s := { s' with heap := G }) (t' := s'.toks) J4 gs ga na (exT_ok ⟨oe4, vs4, he4, hz4, hd4⟩)
      refine store_ok (X := X.suite a (X.pn ++ pins)) (v := .ref a) (inv_suite J5 a) hN hi hloc rfl (fun s5 S5 => ?_) (.inr hln)
      refine wpAny_mono ((hsu a (X.pn ++ pins)).run [] s5 _ _ _ S5 (hyes rfl a na)) (fun f s6 hsp => ?_) (fun _ _ z => False.elim z)
      have end_ : ∀ {σ6 : L2.St} {H6 : Hp} {Q : Shared → Prop}, L2.Inv (X.suite a (X.pn ++ pins)) [] σ6 H6 s6 → (∀ s7, L2.Inv X pins (σ6.set i none) H6 s7 → Q s7) →
          wpAny (model X.prog X.w) X.A (do bindName X.env n .none; unbindBehindTheSuite X.env n pos') (fun _ s7 => Q s7) X.xe s6 := fun {σ6 H6 Q} S6 hq => gone_ok (inv_unsuite S6 ok) hN hi hln hq
      cases f with
      | next =>
        obtain ⟨σ6, H6, S6, q6⟩ := hsp
        exact end_ S6 fun s7 J7 => ⟨_, _, J7, q6⟩
      | brk =>
        obtain ⟨σ6, H6, S6, q6⟩ := hsp
        exact end_ S6 fun s7 J7 => ⟨_, _, J7, q6⟩
      | cont =>
        obtain ⟨σ6, H6, S6, q6⟩ := hsp
        exact end_ S6 fun s7 J7 => ⟨_, _, J7, q6⟩
      | ret u =>
        obtain ⟨v6, σ6, H6, S6, r6, q6⟩ := hsp
        exact end_ S6 fun s7 J7 => ⟨_, _, _, J7, r6, q6⟩
    | false =>
      show wpAny _ X.A (handleBy (.ref a) X.env []) _ _ _
      refine wpAny_handleBy_nil ?_
      obtain ⟨k1, k2, k3, oe, vs, T, oT, ts', he, hz, hd, h1, hr⟩ := id fl3
      unfold PySem.passOn
      refine wpAny_bind (wpAny_field he hd h1 ?_)
      rw [if_neg (show ¬ ((Value.ref T == Value.none) = true) from by simp)]
      have fin : wpAny (model X.prog X.w) X.A (setFlight (.ref a) X.env.frame) (fun _ s4 => wpAny (model X.prog X.w) X.A (throw (.ref a) : Sem Flow) (SP X pins D) X.xe s4) X.xe { s' with heap := h3 } := by
        rw [hf]
        refine HandSPX.setFlight_upZ fl3 fun h4 hh4 up4 => wpAny_throw (tk _ _ ?_)
        exact ⟨a, B, sI, pins, σ', H', .ref C, d, rfl, J, nb, (up.trans up3).trans up4, .inr (.inr (by rw [hs]; exact hh4)), na, os, ag, hno rfl⟩
      first
        | exact wpAny_bind (wpAny_pure (wpAny_bind fin))
        | exact wpAny_bind fin
  · cases f with
    | next =>
      obtain ⟨σ', H', J', q⟩ := hsp
      exact wpAny_execs_nil ⟨σ', H', J'.ofTry ok, q⟩
    | brk =>
      obtain ⟨σ', H', J', q⟩ := hsp
      exact ⟨σ', H', J'.ofTry ok, q⟩
    | cont =>
      obtain ⟨σ', H', J', q⟩ := hsp
      exact ⟨σ', H', J'.ofTry ok, q⟩
    | ret u =>
      obtain ⟨v, σ', H', J', r, q⟩ := hsp
      exact ⟨v, σ', H', J'.ofTry ok, r, q⟩
end
end G

/-! # G51: try, raise, isinstance and fields of exceptions as functions of ours -/
namespace G
open PySem PySem.Spec PyProof.Rows L2

/-! ### try .. except X as e -/
def sufR (i : Nat) : SR → SR
  | .nx e h => .nx (e.set i none) h
  | .brk e h => .brk (e.set i none) h
  | .cnt e h => .cnt (e.set i none) h
  | .ret d h => .ret d h
  | .exc _ _ _ _ => .bad
  | .bad => .bad
def tryR (i : Nat) (T : List (Str × Bool)) (g : FS) : SR → SR
  | .exc c fs e h => (match T.lookup c with
    | some true => sufR i (g (e.set i (some (.exn c (fs.map (·.1)) (fs.map (·.2))))) h)
    | some false => .exc c fs e h
    | none => .bad)
  | r => r
def sTry (i : Nat) (T : List (Str × Bool)) (f g : FS) : FS := fun e hs => tryR i T g (f e hs)
/-- which of the classes told the clause's class catches -/
inductive Cats (K : PySem.W.Frag) (c : Value) : List (Str × Bool) → Prop
  | nil : Cats K c []
  | cons {x : Str} {C : Addr} {b : Bool} {T : List (Str × Bool)} : PySem.W.nsIn K mainGlobals x = some (some (.ref C)) → PySem.W.exmOne K (.ref C) c = some b → Cats K c T → Cats K c ((x, b) :: T)
theorem Cats.get {K : PySem.W.Frag} {c : Value} {x : Str} {C : Addr} {b : Bool} : ∀ {T : List (Str × Bool)}, Cats K c T → T.lookup x = some b → PySem.W.nsIn K mainGlobals x = some (some (.ref C)) → PySem.W.exmOne K (.ref C) c = some b
  | _, .nil, e, _ => by cases e
  | _, .cons (x := y) h1 h2 t, e, g => by
    rw [List.lookup_cons] at e
    cases q : (x == y) with
    | true =>
      rw [q] at e
      cases e
      have := beq_iff_eq.mp q
      subst this
      rw [g] at h1; cases h1
      exact h2
    | false => rw [q] at e; exact t.get e g
theorem RE.unset {K : PySem.W.Frag} {mu : Mp} {H : Hp} {e : Ev} {σ : L2.St} (h : RE K mu H e σ) (i : Nat) : RE K mu H (e.set i none) (σ.set i none) := by
  refine ⟨by rw [List.length_set, List.length_set]; exact h.len, fun j x q => ?_⟩
  by_cases hj : i = j
  · subst hj
    by_cases hi : i < e.length
    · rw [List.getElem?_set_self hi] at q
      cases q
    · rw [List.getElem?_eq_none (by simpa using hi)] at q; cases q
  · rw [List.getElem?_set_ne hj] at q
    rw [List.getElem?_set_ne hj]
    exact h.at_ j x q
theorem zip_map {k : Type} {a : Type} : ∀ (l : List (k × a)), (l.map (·.1)).zip (l.map (·.2)) = l
  | [] => rfl
  | (x, y) :: l => by simp [zip_map l]
/-- an exception caught is a value -/
theorem rx_exn {K : PySem.W.Frag} {mg : Str → Option Value} {mu : Mp} {hs : Hs} {H : Hp} {c : Str} {fs : List (Str × D)} {C : Addr} {dx : Option Addr} {a : Addr} (S : Sim K mg mu hs H) (r : RX K mg mu H c fs (.ref C) dx) (hn : H a = none) :
    RD K mu (upd H a (ExT C dx a)) (.exn c (fs.map (·.1)) (fs.map (·.2))) (.ref a) := by
  obtain ⟨C', e, hc, h⟩ := r
  cases e
  have hse : StE mu (upd H a (ExT C dx a)) C dx a := ⟨S.fresh hn, _, upd_same, fun _ q => q⟩
  rcases h with ⟨rfl, rfl⟩ | ⟨b, vs, rfl, h2, h3, h4⟩
  · exact .exn0 hc hse
  · refine .exnd hc hse (vs := vs.map (·.2)) ⟨?_, h3⟩ (by simp) ?_
    · rw [upd_ne (ne_of_none h2 hn), h2, ← h4.keys, zip_map]
    · exact RDs.agr (Lat.agr (.new hn) S) h4.vals
/-- what the suite is wished -/
def sufE (i : Nat) (D : Ends) : Ends := { nx := fun σ' H' => D.nx (σ'.set i none) H', rt := D.rt, bk := fun σ' H' => D.bk (σ'.set i none) H', ct := fun σ' H' => D.ct (σ'.set i none) H' }
theorem gdS_suf {K : PySem.W.Frag} {mg : Str → Option Value} {Wd W' : WX} {D : Ends} {i : Nat} {mu : Mp} {H : Hp} {r : SR} (h : GdS K mg Wd D mu H (sufR i r)) : GdS K mg W' (sufE i D) mu H r := by
  cases r with
  | nx e hs => exact fun mu' H' σ' l s q => h mu' H' _ l s (q.unset i)
  | brk e hs => exact fun mu' H' σ' l s q => h mu' H' _ l s (q.unset i)
  | cnt e hs => exact fun mu' H' σ' l s q => h mu' H' _ l s (q.unset i)
  | ret d hs => exact h
  | exc c fs e hs => exact h.elim
  | bad => exact h
section
variable {X : Cx} {Wd : WX} {x n : Str} {c : Value} {i : Nat} {body suite : List Stmt} {b₀ : Stmt} {np pos pos' : Pos} {f g : FS} {T : List (Str × Bool)}
theorem us_try (hs : X.stack = X.env :: X.outer) (hf : X.env.frame = some X.env.locals) (hN : X.N.Nodup) (tk : Takes X Wd) (hc : Names X x c) (hT : Cats X.K c T)
    (hb : ∀ (W : WX) (pn : List (Addr × Obj)) (xe : Value → Shared → Prop), Takes (X.tr pn xe) W → PassesOwn (model X.prog X.w) X.A X.env xe → USs (X.tr pn xe) W body f)
    (hsu : ∀ (a : Addr) (pn : List (Addr × Obj)), USs (X.suite a pn) W0 (b₀ :: suite) g) (hi : X.N[i]? = some n := by rfl) (hln : X.env.kindOf n = some .local := by rfl) :
    US X Wd (.Try body [.ExceptHandler (some (.Name x np)) (some n) (b₀ :: suite) pos'] [] [] pos) (sTry i T f g) := by
  refine PS.imp (ps_try_asT (i := i) (tb := fun W => tS X.K X.mg W f) (ts := tS X.K X.mg W0 g) hs hf hN hi hln hc tk hb hsu) fun D σ H ⟨e, mu, hs, S, E, q⟩ => ⟨e, mu, hs, S, E, ?_⟩
  unfold sTry at q
  cases r : f e hs with
  | exc k fs e1 h1 =>
    rw [r] at q
    intro mu1 H1 σ1 cls dx l1 S1 E1 rx
    obtain ⟨C, e2, hk, _⟩ := id rx
    subst e2
    unfold tryR at q
    dsimp only at q
    cases z : T.lookup k with
    | none => rw [z] at q; exact q.elim
    | some b =>
      rw [z] at q
      refine ⟨C, b, rfl, hT.get z hk, fun hb a ha => ?_, fun hb => ?_⟩
      · subst hb
        dsimp only at q
        have l2 : Lat mu1 H1 mu1 (upd H1 a (ExT C dx a)) := .new ha
        refine ⟨_, mu1, h1, S1.new ha, (E1.agr (l2.agr S1)).set i (rx_exn S1 rx ha), ?_⟩
        exact gdS_suf (GdS.later (l1.trans l2) q)
      · subst hb
        exact q mu1 H1 σ1 _ _ l1 S1 E1 rx
  | nx e1 h1 => rw [r] at q; exact q
  | brk e1 h1 => rw [r] at q; exact q
  | cnt e1 h1 => rw [r] at q; exact q
  | ret e1 h1 => rw [r] at q; exact q
  | bad => rw [r] at q; exact q

/-! ### raise X('m') -/
def sRaise (x : Str) : FS := fun e hs => .exc x [] e hs
/-- an own exception class without own __init__ -/
structure ExcK (K : PySem.W.Frag) (x : Str) (C : Addr) (bmB : List Value) (B newId initId : String) : Prop where
  ns : PySem.W.nsIn K mainGlobals x = some (some (.ref C))
  ba : ExcBaseFacts B newId initId bmB
  ex : PySem.W.excIn K C bmB newId = true
  kp : PySem.W.keepIn K (.ref C) = true
  sb : PySem.W.subIn K (.ref C) (.type "BaseException") = some true
  ty : PySem.W.typeIn K (.ref C) = some (.type "type")
theorem us_raise {C : Addr} {bmB : List Value} {B newId initId : String} {m : Str} {j : Nat} {p p2 : Pos} (hc : X.calm = true) (tk : Takes X Wd) (F : ExcK X.K x C bmB B newId initId) (gC : X.mg x = some (.ref C)) (hg : L2.Gl X x := by exact rfl)
    (hdb : (x == ("__debug__" : Str)) = false := by decide) : US X Wd (.Raise (some (.Call (.Name x p) [.Constant (.str m) j p2] [] pos')) none pos) (sRaise x) := by
  refine PS.imp (ps_raise hc tk (pmk_own F.ba F.ex gC F.kp (raises_own F.sb F.ty) hg hdb)) fun D σ H ⟨e, mu, hs, S, E, q⟩ => ?_
  exact q mu H σ _ _ .refl S E ⟨C, rfl, F.ns, .inl ⟨rfl, rfl⟩⟩
end

/-! ### isinstance of an exception -/
theorem exn_at {K : PySem.W.Frag} {mu : Mp} {H : Hp} {c : Str} {ks : List Str} {ds : List D} {v : V} (r : RD K mu H (.exn c ks ds) v) :
    ∃ a C dx, v = .ref a ∧ PySem.W.nsIn K mainGlobals c = some (some (.ref C)) ∧ StE mu H C dx a ∧ ((ks = [] ∧ ds = [] ∧ dx = none) ∨ ∃ b vs, dx = some b ∧ StX mu H b (ks.zip vs) ∧ ks.length = ds.length ∧ RDs K mu H ds vs) := by
  cases r with
  | exn0 g q => exact ⟨_, _, _, rfl, g, q, .inl ⟨rfl, rfl, rfl⟩⟩
  | exnd g q x z r => exact ⟨_, _, _, rfl, g, q, .inr ⟨_, _, rfl, x, z, r⟩⟩
theorem exn_inst {X : Cx} {pins : List (Addr × Obj)} {σ : L2.St} {H : Hp} {s : Shared} {mu : Mp} {a C : Addr} {dx : Option Addr} (I : L2.Inv X pins σ H s) (q : StE mu H C dx a) (h : dx = none ∨ ∃ b kvs, dx = some b ∧ H b = some (.xd kvs)) :
    ∃ oe od, PySem.W.InstAt s.heap a oe C od := by
  obtain ⟨_, φ, h1, h2⟩ := q
  obtain ⟨oe, us, e1, e2, e3⟩ := h2 _ (I.hok a _ h1).1
  have hno : PySem.W.notCls oe = true := by unfold PySem.W.notCls; rw [e3] <;> rfl
  rcases h with rfl | ⟨b, kvs, rfl, hb⟩
  · exact ⟨oe, none, e1, e2.1, hno, by rw [e2.2]; trivial⟩
  · obtain ⟨mA, hns, hr⟩ := (show ObjOk X.prog X.w H s.heap b (.xd kvs) from I.hok b _ hb)
    obtain ⟨od, ho, hl⟩ := lookIn_ns hns
    exact ⟨oe, some od, e1, e2.1, hno, by rw [e2.2]; exact ho⟩
/-- a class that is asked for -/
def Cn (mg : Str → Option Value) (x : Str) (u : Value) : Prop := ∃ v, ClsV v u ∧ RelV v u ∧ (mg x = some u ∨ (mg x = none ∧ bootBuiltins x = some u ∧ x ≠ "__name__"))
theorem cn_own {mg : Str → Option Value} {x : Str} {C : Addr} (h : mg x = some (.ref C)) : Cn mg x (.ref C) := ⟨_, .own C, rfl, .inl h⟩
theorem cn_ty {mg : Str → Option Value} {x : Str} {t : String} (h : mg x = none) (hv : bootBuiltins x = some (.type t)) (hn : x ≠ "__name__" := by decide) : Cn mg x (.type t) := ⟨_, .ty t, rfl, .inr ⟨h, hv, hn⟩⟩
theorem pe_cn {X : Cx} {x : Str} {u : Value} {pos : Pos} (h : Cn X.mg x u) (hg : L2.Gl X x) (hd : (x == ("__debug__" : Str)) = false) : ∃ v, ClsV v u ∧ PE X (.Name x pos) (tC v) := by
  obtain ⟨v, k, r, h | ⟨h, hv, hn⟩⟩ := h
  · exact ⟨v, k, pe_glob hg h r hd⟩
  · exact ⟨v, k, pe_bltn hg h hv r hn hd⟩
/-- the classes of a tuple -/
def PAc (X : Cx) (es : List Expr) (us : List Value) : Prop := ∃ vs, Paired ClsV vs us ∧ PA X es (fun _ H Q => Q vs H)
theorem pac_nil {X : Cx} : PAc X [] [] := ⟨[], .nil, pa_nil⟩
theorem pac_cons {X : Cx} {x : Str} {u : Value} {us : List Value} {es : List Expr} {pos : Pos} (h : Cn X.mg x u) (r : PAc X es us) (hg : L2.Gl X x := by exact rfl) (hd : (x == ("__debug__" : Str)) = false := by decide)
    (hs : starEach (.Name x pos :: es) X.env = (false, eval (.Name x pos) X.env) :: starEach es X.env := by rfl) : PAc X (.Name x pos :: es) (u :: us) := by
  obtain ⟨v, k, p⟩ := pe_cn (pos := pos) h hg hd
  obtain ⟨vs, ks, ps⟩ := r
  refine ⟨v :: vs, .cons k ks, ?_⟩
  have z := pa_cons p ps hs
  exact ⟨fun pos pins s σ H Q I h => z.run pos pins s σ H Q I h⟩
/-- one class, or a tuple of classes -/
inductive CArg (X : Cx) : Expr → List Value → Prop
  | one {x : Str} {u : Value} {pos : Pos} (h : Cn X.mg x u) (hg : L2.Gl X x := by exact rfl) (hd : (x == ("__debug__" : Str)) = false := by decide) : CArg X (.Name x pos) [u]
  | tup {es : List Expr} {us : List Value} {k : Nat} {pos : Pos} (h : PAc X es us) (hl : us.length ≤ sizeLine) : CArg X (.Tuple es k pos) us
/-- what isinstance asks of the classes of exceptions -/
inductive Exs (K : PySem.W.Frag) (us : List Value) : List (Str × Bool) → Prop
  | nil : Exs K us []
  | cons {x : Str} {C : Addr} {b : Bool} {T : List (Str × Bool)} : PySem.W.nsIn K mainGlobals x = some (some (.ref C)) → ExcC K C → PySem.W.kitAny K (.ref C) us = some b → Exs K us T → Exs K us ((x, b) :: T)
theorem Exs.get {K : PySem.W.Frag} {us : List Value} {x : Str} {C : Addr} {b : Bool} : ∀ {T : List (Str × Bool)}, Exs K us T → T.lookup x = some b → PySem.W.nsIn K mainGlobals x = some (some (.ref C)) → ExcC K C ∧ PySem.W.kitAny K (.ref C) us = some b
  | _, .nil, e, _ => by cases e
  | _, .cons (x := y) h1 h2 h3 t, e, g => by
    rw [List.lookup_cons] at e
    cases q : (x == y) with
    | true =>
      rw [q] at e
      cases e
      have := beq_iff_eq.mp q
      subst this
      rw [g] at h1; cases h1
      exact ⟨h2, h3⟩
    | false => rw [q] at e; exact t.get e g
theorem excC_kit {K : PySem.W.Frag} {C a : Addr} (c : ExcC K C) {od : Option Obj} {oe : Obj} : PySem.W.KitX K (.ref a) (.ref C) (fun h => PySem.W.InstAt h a oe C od) := by
  obtain ⟨cd, hc, _⟩ := PySem.W.any_some c.hd
  exact PySem.W.kitx_exc (by rw [hc]; rfl) c.hg c.hk c.hs c.ha c.hn c.ht c.hm
theorem kit_any1 {K : PySem.W.Frag} {t u : Value} {b : Bool} (h : PySem.W.kitAny K t [u] = some b) : PySem.W.kitOne K t u = some b := by
  unfold PySem.W.kitAny at h
  cases q : PySem.W.kitOne K t u with
  | none => rw [q] at h; cases h
  | some z => rw [q] at h; cases z <;> exact h
def eIsE (T : List (Str × Bool)) (f : FE) : FE := fun e hs => (f e hs).bind fun d hs => match d with
  | .exn c _ _ => (match T.lookup c with | some b => .ok (.bl b) hs | none => .bad)
  | _ => .bad
section
variable {X : Cx} {Wd : WX} {a c : Expr} {f : FE} {us : List Value} {T : List (Str × Bool)} {p pos : Pos}
theorem ue_isE (hT : Exs X.K us T) (hm : X.mg "isinstance" = none) (ha : UE X Wd a f) (hc : CArg X c us) (hg : L2.Gl X "isinstance" := by exact rfl)
    (he : starEach [a, c] X.env = (false, eval a X.env) :: starEach [c] X.env := by rfl) (he2 : starEach [c] X.env = (false, eval c X.env) :: starEach [] X.env := by rfl) (hpl : (backTo pos (starEach [c] X.env)).any (·.1) = false := by rfl) :
    UE X Wd (.Call (.Name "isinstance" p) [a, c] [] pos) (eIsE T f) := by
  have main : ∀ (σ : L2.St) (H : Hp) (Q : VK), tG (relD X.K) X.K X.mg Wd (eIsE T f) σ H Q → tG (relD X.K) X.K X.mg Wd f σ H fun v H1 => ∃ mu a C dx b, v = .ref a ∧ StE mu H1 C dx a ∧ (dx = none ∨ ∃ b kvs, dx = some b ∧ StX mu H1 b kvs) ∧ ExcC X.K C ∧ PySem.W.kitAny X.K (.ref C) us = some b ∧
      ∀ H2, Lat mu H1 mu H2 → (∀ x ∈ mu.l, ∀ u, H1 x = some u → H2 x = some u) → Q (.bl b) H2 := by
    intro σ H Q h
    obtain ⟨e, mu, hs, S, E, q⟩ := tG_seq (r := relD X.K) relD_ok h
    refine ⟨e, mu, hs, S, E, q.imp fun v H1 ⟨e, mu1, hs1, d, S1, E1, r1, g1⟩ => ?_⟩
    cases d with
    | exn k ks ds =>
      dsimp only at g1
      have r1 : RD X.K mu1 H1 (.exn k ks ds) v := r1
      obtain ⟨a, C, dx, rfl, hk, hse, hd⟩ := exn_at r1
      cases z : T.lookup k with
      | none => rw [z] at g1; exact g1.elim
      | some b =>
        rw [z] at g1
        obtain ⟨h1, h2⟩ := hT.get z hk
        exact ⟨mu1, a, C, dx, b, rfl, hse, hd.elim (fun h => .inl h.2.2) fun ⟨b, vs, e, h, _⟩ => .inr ⟨b, _, e, h⟩, h1, h2, fun H2 l k => g1 mu1 H2 _ l (S1.mono l k) (.bl b)⟩
    | _ => exact g1.elim
  cases hc with
  | one h hg' hd =>
    rename_i x u pos2
    obtain ⟨v, k, pc⟩ := pe_cn (pos := pos2) h hg' hd
    have pa := pa_cons ha (pa_cons pc pa_nil he2) he
    refine PE.imp (pe_callB (r := fun xs H Q => ∃ mu a C dx b, xs = [.ref a, v] ∧ StE mu H C dx a ∧ (dx = none ∨ ∃ b kvs, dx = some b ∧ StX mu H b kvs) ∧ ExcC X.K C ∧ PySem.W.kitAny X.K (.ref C) [u] = some b ∧ Q (.bl b) H) ?_ hg hm bt_isi pa (by decide) (by decide) he hpl) fun σ H Q h => ?_
    · rintro pins s σ H xs ws Q I r ⟨mu, a, C, dx, b, rfl, hse, hd, hC, hk, q⟩
      obtain ⟨u1, u2, rfl, r1, r2⟩ := vals2 r
      have e2 := k.eq r2
      subst e2
      cases (show u1 = Value.ref a from r1)
      obtain ⟨oe, od, J⟩ := exn_inst I hse (hd.imp id fun ⟨b, kvs, e, h⟩ => ⟨b, kvs, e, h.1⟩)
      exact PySem.W.kia_one (excC_kit hC) I.kIn J (kit_any1 hk) (fun z => nomatch z) fun tk => ⟨.bl b, H, I.tok tk, rfl, q⟩
    · obtain ⟨e, mu, hs, S, E, q⟩ := main σ H Q h
      exact ⟨e, mu, hs, S, E, q.imp fun v1 H1 ⟨mu1, a, C, dx, b, e, hse, hd, hC, hk, q⟩ => ⟨mu1, a, C, dx, b, by rw [e], hse, hd, hC, hk, q H1 .refl fun _ _ _ z => z⟩⟩
  | tup h hl =>
    rename_i es k pos2
    obtain ⟨vs, ks, pv⟩ := h
    have hvl : vs.length = us.length := ks.length
    have pt := pe_tup (x1 := k) (pos := pos2) pv
    have pa := pa_cons ha (pa_cons pt pa_nil he2) he
    refine PE.imp (pe_callB (r := fun xs H Q => ∃ mu a C dx b tp, xs = [.ref a, .ref tp] ∧ H tp = some (.tup vs) ∧ StE mu H C dx a ∧ (dx = none ∨ ∃ b kvs, dx = some b ∧ StX mu H b kvs) ∧ ExcC X.K C ∧ PySem.W.kitAny X.K (.ref C) us = some b ∧ Q (.bl b) H) ?_ hg hm bt_isi pa (by decide) (by decide) he hpl) fun σ H Q h => ?_
    · rintro pins s σ H xs ws Q I r ⟨mu, a, C, dx, b, tp, rfl, hT, hse, hd, hC, hk, q⟩
      obtain ⟨u1, u2, rfl, r1, r2⟩ := vals2 r
      cases (show u1 = Value.ref a from r1)
      cases (show u2 = Value.ref tp from r2)
      obtain ⟨oe, od, J⟩ := exn_inst I hse (hd.imp id fun ⟨b, kvs, e, h⟩ => ⟨b, kvs, e, h.1⟩)
      obtain ⟨_, its, rv, o, h1, h2, n, h3⟩ := (show ObjOk X.prog X.w H s.heap tp (.tup vs) from I.hok tp _ hT)
      have e3 := ClsV.all ks rv
      subst e3
      obtain ⟨oc, od', dt, sl⟩ := o
      simp only at h2 h3
      subst h2 h3
      exact PySem.W.kia_tup (excC_kit hC) I.kIn J h1 hk (fun z => nomatch z) fun tk => ⟨.bl b, H, I.tok tk, rfl, q⟩
    · obtain ⟨e, mu, hs, S, E, q⟩ := main σ H Q h
      refine ⟨e, mu, hs, S, E, q.imp fun v1 H1 ⟨mu1, a, C, dx, b, e, hse, hd, hC, hk, q⟩ => ⟨by rw [hvl]; exact hl, fun tp htp => ?_⟩⟩
      have l : Lat mu1 H1 mu1 (upd H1 tp (.tup vs)) := .new htp
      have ag : ∀ b o, H1 b = some o → upd H1 tp (.tup vs) b = some o := fun b o z => by rw [upd_ne (ne_of_none z htp)]; exact z
      refine ⟨mu1, a, C, dx, b, tp, by rw [e], upd_same, ?_, ?_, hC, hk, q _ l fun x _ u z => ag x u z⟩
      · obtain ⟨n1, φ, n2, n3⟩ := hse
        exact ⟨n1, φ, ag _ _ n2, n3⟩
      · exact hd.imp id fun ⟨b, kvs, e, h⟩ => ⟨b, kvs, e, ag _ _ h.1, h.2⟩
end

/-! ### e.f -/
def eXf (cs : List Str) (n : Str) (f : FE) : FE := fun e hs => (f e hs).bind fun d hs => match d with
  | .exn c ks ds => if cs.contains c = true then (match (ks.zip ds).lookup n with | some x => .ok x hs | none => .bad) else .bad
  | _ => .bad
/-- classes of exceptions whose instances' field is read -/
inductive Xfs (K : PySem.W.Frag) (n : Str) : List Str → Prop
  | nil : Xfs K n []
  | cons {x : Str} {C : Addr} {T : List Str} : PySem.W.nsIn K mainGlobals x = some (some (.ref C)) → XfC K C → PySem.W.findIn K (.ref C) n = some none → Xfs K n T → Xfs K n (x :: T)
theorem Xfs.get {K : PySem.W.Frag} {n x : Str} {C : Addr} : ∀ {T : List Str}, Xfs K n T → T.contains x = true → PySem.W.nsIn K mainGlobals x = some (some (.ref C)) → XfC K C ∧ PySem.W.findIn K (.ref C) n = some none
  | _, .nil, e, _ => by cases e
  | _, .cons (x := y) h1 h2 h3 t, e, g => by
    rw [List.contains_cons, Bool.or_eq_true] at e
    rcases e with q | q
    · have := beq_iff_eq.mp q
      subst this
      rw [g] at h1; cases h1
      exact ⟨h2, h3⟩
    · exact t.get q g
theorem zip_rks {K : PySem.W.Frag} {mu : Mp} {H : Hp} {k : Type} : ∀ {ks : List k} {ds : List D} {vs : List V}, RDs K mu H ds vs → RKs K mu H (ks.zip ds) (ks.zip vs)
  | [], _, _, _ => .nil
  | _ :: _, _, _, .nil => .nil
  | _ :: _, _, _, .cons r t => .cons r (zip_rks t)
theorem ue_xf {X : Cx} {Wd : WX} {a : Expr} {f : FE} {cs : List Str} {n : Str} {pos : Pos} (hT : Xfs X.K n cs) (ha : UE X Wd a f) (hb : attributeBase a n X.env (eval a X.env) = eval a X.env := by rfl) : UE X Wd (.Attribute a n pos) (eXf cs n f) := by
  refine ⟨fun pins s σ H Q I h => ?_⟩
  obtain ⟨e, mu, hs, S, E, q⟩ := tG_seq (r := relD X.K) relD_ok h
  refine attr_of hb (thn (ha.run pins s σ H _ I ⟨e, mu, hs, S, E, q⟩) fun u s1 hh => ?_)
  obtain ⟨v, H1, I1, rv, e1, mu1, hs1, d, S1, E1, r1, g1⟩ := hh
  cases d with
  | exn k ks ds =>
    dsimp only at g1
    have r1 : RD X.K mu1 H1 (.exn k ks ds) v := r1
    obtain ⟨a, C, dx, rfl, hk, hse, hd⟩ := exn_at r1
    split at g1
    · rename_i hc
      obtain ⟨xc, hno⟩ := hT.get hc hk
      cases z : (ks.zip ds).lookup n with
      | none => rw [z] at g1; exact g1.elim
      | some x =>
        rw [z] at g1
        rcases hd with ⟨rfl, rfl, rfl⟩ | ⟨b, vs, rfl, hx, hl, rs⟩
        · cases z
        · obtain ⟨y, hy, ry⟩ := (zip_rks rs).lookup z
          cases (show u = Value.ref a from rv)
          obtain ⟨_, φ, h1, h2⟩ := hse
          obtain ⟨oe, us, e1, e2, e3⟩ := h2 _ (I1.hok a _ h1).1
          obtain ⟨mA, hns, hr⟩ := (show ObjOk X.prog X.w H1 s1.heap b (.xd (ks.zip vs)) from I1.hok b _ hx.1)
          obtain ⟨od, ho, hl2⟩ := lookIn_ns hns
          obtain ⟨u', hu, ru⟩ := RelO.some_of (v := y) (o := mA n) (by rw [← hy]; exact hr n)
          have J : PySem.W.InstAt s1.heap a oe C (some od) := ⟨e1, e2.1, by unfold PySem.W.notCls; rw [e3] <;> rfl, by rw [e2.2]; exact ho⟩
          exact HandSPX.exc_get I1.kIn J xc.ga xc.gg xc.exC (PySem.W.findObj_own xc.hdC hno rfl (by rw [hl2, hu])) (handed_of ru) ⟨y, H1, I1.tok _, ru, g1 mu1 H1 y .refl S1 ry⟩
    · exact g1.elim
  | _ => exact g1.elim
end G

/-! # G52: own == and !=; isinstance of own instances; dict.get(key); what holds behind try -/
namespace G
open PySem PySem.Spec PyProof.Rows L2

/-! ### own ==, != -/
section
variable {prog : Program} {w : World} {A : Around} {E : Value → Shared → Prop} {s : Shared} {K : PySem.W.Frag} {x C f : Addr} {ox : Obj} {od : Option Obj} {b tb : Value}
theorem ifBound_objNe {M : Model} {A : Around} {args : List Value} {Q : Option Value → Shared → Prop} (X : K.In s.heap) (I : PySem.W.InstAt s.heap x ox C od) (hs : PySem.W.findIn K (.ref C) "__ne__" = some (some (.builtin "object.__ne__")))
    (h : wpAny M A (call (.builtin "object.__ne__") (.ref x :: args)) (fun v => Q (some v)) E s) : wpAny M A (callSpecialIfBound? (.ref x) "__ne__" args) Q E s := by
  simp only [callSpecialIfBound?, bindSpecialIfBound?]
  refine wpAny_holding (wpAny_bind (wpAny_bind (wpAny_bind (I.type.here ((PySem.W.looks_findIn X hs).here ?_)))))
  refine wpAny_bind (wpAny_askSetting (wpAny_ite ?_))
  have fin : wpAny M A (call (.builtin "object.__ne__") ([.ref x] ++ args) >>= fun v => pure (some v)) Q E s := wpAny_bind (wpAny_mono h (fun v s' h' => wpAny_pure h') fun _ _ h' => h')
  split
  · exact wpAny_bind (wpAny_of_eq (F.cmp_object.ne.bind _) (wpAny_pure (by exact fin)))
  · exact wpAny_tryCatch (wpAny_bind (wpAny_of_eq (F.cmp_object.ne.bind _) (wpAny_pure (by exact fin))))
/-- x != y where only == is the class's own -/
theorem ne_own {Q : Value → Shared → Prop} (hu : A.units + 1 < cLine) (X : K.In s.heap) (I : PySem.W.InstAt s.heap x ox C od) (hb : PySem.W.Looks (model prog w) s.heap (typeOf b) tb) (hn : PySem.W.notFirst K C tb = true)
    (hs : PySem.W.findIn K (.ref C) "__eq__" = some (some (.ref f))) (hf : PySem.W.isFn K (.ref f) = true) (hs2 : PySem.W.findIn K (.ref C) "__ne__" = some (some (.builtin "object.__ne__"))) (hm : PySem.W.mroIn K C (.type "object") = some true)
    (h : wpAny (model prog w) A.in1 (call (.ref f) [.ref x, b]) (fun v s' => ∃ r, v = .bool r ∧ Q (.bool (!r)) s') E s) : wpAny (model prog w) A (richCompare .NotEq (.ref x) b) Q E s := by
  have body : wpAny (model prog w) A.in1 (Builtin.«object.__ne__» ⟨[.ref x, b], []⟩) (GQ.FinOf prog w A (wants (fun v s' => ∃ r, v = .bool r ∧ Q v s') E)) (fun e s' => wants (fun v s' => ∃ r, v = .bool r ∧ Q v s') E (.error e) s') s := by
    have hu1 : A.in1.units < cLine := hu
    unfold Builtin.«object.__ne__»
    refine wpAny_bind (m := slotArgs "__ne__" 1 _) (wpAny_pure ?_)
    dsimp only
    refine wpAny_bind (wpAny_cRoomFor hu1 ?_)
    refine wpAny_bind (m := callSpecialIfBound? (.ref x) "__eq__" [b]) (PySem.W.ifBound_K X I hs hf (wpAny_mono h (fun v s' hv => ?_) fun _ _ e => e))
    obtain ⟨r, rfl, q⟩ := hv
    dsimp only
    refine wpAny_bind (wpAny_truthy_bool ?_)
    exact wpAny_pure ⟨_, rfl, q⟩
  have one : wpAny (model prog w) A (tryCompare (.ref x) "__ne__" b) (fun r s' => ∃ v, r = some v ∧ Q v s') E s := by
    unfold tryCompare
    refine wpAny_bind (ifBound_objNe X I hs2 (wpAny_mono (Q := fun v s' => ∃ r, v = .bool r ∧ Q v s') (E := E) ?_ (fun v s' hv => ?_) fun _ _ e => e))
    · exact wpAny_call (codeAny_call_builtin F.cmp_object.ne.plain F.cmpEntry_ne (PySem.W.check_slot F.cmpKind_ne F.cmpSplit_ne (I.type.andThen (PySem.W.looks_mroIn X hm)) (F.cmpArgs_ne _ _) body))
    · obtain ⟨r, rfl, q⟩ := hv
      exact wpAny_pure ⟨_, rfl, q⟩
  have hu0 : A.units < cLine := Nat.lt_of_succ_lt hu
  unfold richCompare
  simp only [oneThing_ref, cmpInfo_NotEq]
  refine wpAny_holding (wpAny_bind (wpAny_cRoomFor hu0 ?_))
  refine wpAny_bind (I.type.here (wpAny_bind (hb.here ?_)))
  split
  · rename_i q
    have e : PySem.W.subIn K tb (.ref C) = some false := by
      rcases Bool.or_eq_true_iff.mp hn with e | e
      · rw [beq_iff_eq.mp e] at q; simp at q
      · exact beq_iff_eq.mp e
    refine wpAny_bind ((PySem.W.looks_subIn X e).here ?_)
    simp only [Bool.false_eq_true, if_false]
    refine wpAny_bind (wpAny_mono one (fun r s' z => ?_) fun _ _ e => e)
    obtain ⟨v, rfl, hq⟩ := z
    exact wpAny_pure hq
  · refine wpAny_bind (wpAny_pure ?_)
    simp only [Bool.false_eq_true, if_false]
    refine wpAny_bind (wpAny_mono one (fun r s' z => ?_) fun _ _ e => e)
    obtain ⟨v, rfl, hq⟩ := z
    exact wpAny_pure hq
end
open Classical in
/-- two instances of the class c, by its own __eq__ that changes nothing of ours -/
noncomputable def gOeq (c : Str) (fn : List D → Hs → R D) (hs : Hs) (d e : D) : Option D := match insOf hs d, insOf hs e with
  | some (c1, _), some (c2, _) => if c1 = c ∧ c2 = c then (match fn [d, e] hs with | .ok (.bl b) h' => if h' = hs then some (.bl b) else none | _ => none) else none
  | _, _ => none
noncomputable def gOne (c : Str) (fn : List D → Hs → R D) (hs : Hs) (d e : D) : Option D := match gOeq c fn hs d e with
  | some (.bl b) => some (.bl (!b))
  | _ => none
theorem gOeq_at {c : Str} {fn : List D → Hs → R D} {hs : Hs} {d e w : D} (h : gOeq c fn hs d e = some w) : ∃ k1 k2 b, insOf hs d = some (c, k1) ∧ insOf hs e = some (c, k2) ∧ fn [d, e] hs = .ok (.bl b) hs ∧ w = .bl b := by
  unfold gOeq at h
  split at h
  · rename_i c1 k1 c2 k2 h1 h2
    split at h
    · rename_i hc
      obtain ⟨rfl, rfl⟩ := hc
      split at h
      · rename_i b h' hf
        split at h
        · rename_i he
          subst he
          cases h
          exact ⟨k1, k2, b, h1, h2, hf, rfl⟩
        · cases h
      · cases h
    · cases h
  · cases h
theorem oeq_of {c : Str} {fn : List D → Hs → R D} {hs : Hs} {d e : D} {b : Bool} {k1 k2 : List (Str × D)} (h1 : insOf hs d = some (c, k1)) (h2 : insOf hs e = some (c, k2)) (hf : fn [d, e] hs = .ok (.bl b) hs) : gOeq c fn hs d e = some (.bl b) := by
  unfold gOeq
  rw [h1, h2, hf]
  dsimp only
  rw [if_pos ⟨rfl, rfl⟩, if_pos rfl]
theorem one_of {c : Str} {fn : List D → Hs → R D} {hs : Hs} {d e : D} {b : Bool} {k1 k2 : List (Str × D)} (h1 : insOf hs d = some (c, k1)) (h2 : insOf hs e = some (c, k2)) (hf : fn [d, e] hs = .ok (.bl b) hs) : gOne c fn hs d e = some (.bl (!b)) := by
  unfold gOne
  rw [oeq_of h1 h2 hf]
section
variable {X : Cx} {Wd : WX} {k : Nat} {f C : Addr} {fd : FuncData} {ps : List Str} {fn : List D → Hs → R D} {c : Str}
/-- what == and != ask of a class with an own __eq__ -/
structure EqK (K : PySem.W.Frag) (c : Str) (C : Addr) (f : Addr) : Prop extends SpK K c C "__eq__" f where
  nf : PySem.W.notFirst K C (.ref C) = true
  ne : PySem.W.findIn K (.ref C) "__ne__" = some (some (.builtin "object.__ne__"))
  ob : PySem.W.mroIn K C (.type "object") = some true
theorem og_oeq (M : EqK X.K c C f) (F : FnG X.prog X.w X.K X.mg X.base k f fd ps (spU X.K X.mg ps.length fn)) (hr : Room k X.A) (hgd : X.A.guards = some []) (hb : BindK X.K fd ps 2 [] [0, 1] []) (hl : ps.length = 2 := by rfl) :
    OpR X (compareOp .Eq) (rB X.K X.mg (gOeq c fn)) := by
  rintro pins s σ H x y v u Q I rx ry ⟨mu, hs, d, e, w, S, r1, r2, hg, q⟩
  obtain ⟨k1, k2, b, h1, h2, hf, rfl⟩ := gOeq_at hg
  obtain ⟨a, C1, dx, vs, rfl, hC1, ha, _⟩ := ins_at S r1 h1
  obtain ⟨a2, C2, dx2, vs2, rfl, hC2, ha2, _⟩ := ins_at S r2 h2
  cases M.isC.inj hC1
  cases M.isC.inj hC2
  cases rx
  cases ry
  obtain ⟨ox, od, J⟩ := inst_at I ha
  obtain ⟨ox2, od2, J2⟩ := inst_at I ha2
  obtain ⟨m, hF⟩ := I.fr
  show wpAny (model X.prog X.w) X.A (richCompare .Eq (.ref a) (.ref a2)) (EP X pins σ Q) X.xe s
  refine PySem.W.cmp_K (op := .Eq) (tb := .ref C) hr.units0 hF I.ok.mod.kin J J2.type M.nf M.at_ M.fn ?_
  refine wpAny_mono (runO (us := [.ref a, .ref a2]) (vs := [.ref a, .ref a2]) F hr hgd rfl (bind2 hb I.kIn) I (.cons rfl (.cons rfl .nil)) S (.cons r1 (.cons r2 .nil)) hl.symm hf (Q := fun y H' => y = .bl b ∧ Q y H') fun mu' H' y l s' ry => ⟨by cases ry; rfl, q mu' H' y l s' ry⟩) (fun u s' z => ?_) fun _ _ z => z
  obtain ⟨v, H', I', rv, rfl, qv⟩ := z
  cases (show u = Value.bool b from rv)
  exact ⟨.bl b, H', I', rfl, qv⟩
theorem og_one (M : EqK X.K c C f) (F : FnG X.prog X.w X.K X.mg X.base k f fd ps (spU X.K X.mg ps.length fn)) (hr : Room (k + 1) X.A) (hgd : X.A.guards = some []) (hb : BindK X.K fd ps 2 [] [0, 1] []) (hl : ps.length = 2 := by rfl) :
    OpR X (compareOp .NotEq) (rB X.K X.mg (gOne c fn)) := by
  rintro pins s σ H x y v u Q I rx ry ⟨mu, hs, d, e, w, S, r1, r2, hg, q⟩
  unfold gOne at hg
  split at hg
  · rename_i b hg1
    cases hg
    obtain ⟨k1, k2, b, h1, h2, hf, e1⟩ := gOeq_at hg1
    cases e1
    obtain ⟨a, C1, dx, vs, rfl, hC1, ha, _⟩ := ins_at S r1 h1
    obtain ⟨a2, C2, dx2, vs2, rfl, hC2, ha2, _⟩ := ins_at S r2 h2
    cases M.isC.inj hC1
    cases M.isC.inj hC2
    cases rx
    cases ry
    obtain ⟨ox, od, J⟩ := inst_at I ha
    obtain ⟨ox2, od2, J2⟩ := inst_at I ha2
    have hr1 : Room k X.A.in1 := hr.in1
    show wpAny (model X.prog X.w) X.A (richCompare .NotEq (.ref a) (.ref a2)) (EP X pins σ Q) X.xe s
    refine ne_own (tb := .ref C) hr1.units0 I.kIn J J2.type M.nf M.at_ M.fn M.ne M.ob ?_
    refine wpAny_mono (runO (us := [.ref a, .ref a2]) (vs := [.ref a, .ref a2]) F hr1 hgd rfl (bind2 hb I.kIn) I (.cons rfl (.cons rfl .nil)) S (.cons r1 (.cons r2 .nil)) hl.symm hf (Q := fun y H' => y = .bl b ∧ Q (.bl (!b)) H') fun mu' H' y l s' ry => ⟨by cases ry; rfl, q mu' H' _ l s' (.bl _)⟩) (fun u s' z => ?_) fun _ _ z => z
    obtain ⟨v, H', I', rv, rfl, qv⟩ := z
    cases (show u = Value.bool b from rv)
    exact ⟨b, rfl, .bl (!b), H', I', rfl, qv⟩
  · cases hg
end

/-! ### isinstance(x, C), x an instance -/
/-- what isinstance asks of the classes of instances -/
structure IsK (K : PySem.W.Frag) (C : Addr) : Prop where
  cl : L2.Cls K C
  ha : PySem.W.findIn K (.ref C) "__class__" = some (some (.builtin "object.__class__"))
  hn : PySem.W.specialIn K (.builtin "object.__class__") "__get__" = some (some (.builtin "getset_descriptor.__get__"))
  ht : PySem.W.takesIn K (.builtin "object.__class__") = some true
  hm : PySem.W.mroIn K C (.type "object") = some true
inductive Iss (K : PySem.W.Frag) (u : Value) : List (Str × Bool) → Prop
  | nil : Iss K u []
  | cons {x : Str} {C : Addr} {b : Bool} {T : List (Str × Bool)} : IsC K x C → IsK K C → PySem.W.kitOne K (.ref C) u = some b → Iss K u T → Iss K u ((x, b) :: T)
theorem Iss.get {K : PySem.W.Frag} {u : Value} {x : Str} {C : Addr} {b : Bool} : ∀ {T : List (Str × Bool)}, Iss K u T → T.lookup x = some b → IsC K x C → IsK K C ∧ PySem.W.kitOne K (.ref C) u = some b
  | _, .nil, e, _ => by cases e
  | _, .cons (x := y) h1 h2 h3 t, e, g => by
    rw [List.lookup_cons] at e
    cases q : (x == y) with
    | true =>
      rw [q] at e
      cases e
      have := beq_iff_eq.mp q
      subst this
      cases h1.inj g
      exact ⟨h2, h3⟩
    | false => rw [q] at e; exact t.get e g
def eIsO (T : List (Str × Bool)) (f : FE) : FE := fun e hs => (f e hs).bind fun d hs => match insOf hs d with
  | some (c, _) => (match T.lookup c with | some b => .ok (.bl b) hs | none => .bad)
  | none => .bad
theorem ue_isO {X : Cx} {Wd : WX} {a : Expr} {x : Str} {f : FE} {u : Value} {T : List (Str × Bool)} {p pos pos2 : Pos} (hT : Iss X.K u T) (hm : X.mg "isinstance" = none) (ha : UE X Wd a f) (hc : Cn X.mg x u) (hg : L2.Gl X "isinstance" := by exact rfl)
    (hg2 : L2.Gl X x := by exact rfl) (hd : (x == ("__debug__" : Str)) = false := by decide)
    (he : starEach [a, .Name x pos2] X.env = (false, eval a X.env) :: starEach [.Name x pos2] X.env := by rfl) (he2 : starEach [.Name x pos2] X.env = (false, eval (.Name x pos2) X.env) :: starEach [] X.env := by rfl) (hpl : (backTo pos (starEach [.Name x pos2] X.env)).any (·.1) = false := by rfl) :
    UE X Wd (.Call (.Name "isinstance" p) [a, .Name x pos2] [] pos) (eIsO T f) := by
  obtain ⟨v, k, pc⟩ := pe_cn (pos := pos2) hc hg2 hd
  have pa := pa_cons ha (pa_cons pc pa_nil he2) he
  refine PE.imp (pe_callB call_isi hg hm bt_isi pa (by decide) (by decide) he hpl) fun σ H Q h => ?_
  obtain ⟨e, mu, hs, S, E, q⟩ := tG_seq (r := relD X.K) relD_ok h
  refine ⟨e, mu, hs, S, E, q.imp fun v1 H1 ⟨e, mu1, hs1, d, S1, E1, r1, g1⟩ => ?_⟩
  cases z : insOf hs1 d with
  | none => rw [z] at g1; exact g1.elim
  | some p =>
    obtain ⟨c, kvs⟩ := p
    rw [z] at g1
    dsimp only at g1
    obtain ⟨a, C, dx, vs, rfl, hC, ha, _⟩ := ins_at S1 r1 z
    cases y : T.lookup c with
    | none => rw [y] at g1; exact g1.elim
    | some b =>
      rw [y] at g1
      obtain ⟨h1, h2⟩ := hT.get y hC
      exact ⟨_, v, .ref C, u, b, rfl, k, .base (.ins ha h1.cl h1.ha h1.hn h1.ht h1.hm), h2, g1 mu1 H1 _ .refl S1 (.bl b)⟩

/-! ### d.get(k) -/
def isDk (hs : Hs) : D → Bool
  | .dct _ _ => true
  | .ref n => (match hs[n]? with | some (.dk _) => true | _ => false)
  | _ => false
def eGet1 (f1 f2 : FE) : FE := fun e hs => (f1 e hs).bind fun d hs => if isDk hs d = true then (f2 e hs).bind fun k hs => (match atD hs d k with | some o => .ok (o.getD .non) hs | none => .bad) else .bad
theorem isDk_at {K : PySem.W.Frag} {mg : Str → Option Value} {mu : Mp} {hs : Hs} {H : Hp} {d : D} {v : V} (S : Sim K mg mu hs H) (r : RD K mu H d v) (e : isDk hs d = true) : ∃ a, v = .ref a ∧ IsD H a := by
  cases r with
  | dct h _ _ _ => exact ⟨_, rfl, .inl ⟨_, .inl h⟩⟩
  | ref q =>
    unfold isDk at e
    dsimp only at e
    split at e
    · rename_i kvs hd
      obtain ⟨u, h1, h2⟩ := S.at q hd
      cases u with
      | dK vs => exact ⟨_, rfl, .inl ⟨vs, .inl h1⟩⟩
      | _ => exact h2.elim
    · cases e
  | _ => cases e
theorem ue_get1 {X : Cx} {Wd : WX} {o a : Expr} {apos cpos : Pos} {fo f1 : FE} (hu : X.A.units + 1 < cLine) (ho : UE X Wd o fo) (ha : UE X Wd a f1) (m : M1 X o "get" apos a cpos) : UE X Wd (.Call (.Attribute o "get" apos) [a] [] cpos) (eGet1 fo f1) := by
  refine PE.imp (pe_dget1 hu ho ha m) fun σ H Q h => ?_
  obtain ⟨e, mu, hs, S, E, q⟩ := tG_seq (r := relD X.K) relD_ok h
  refine ⟨e, mu, hs, S, E, q.imp fun x H1 ⟨e, mu1, hs1, d, S1, E1, r1, g1⟩ => ?_⟩
  split at g1
  · rename_i hd
    obtain ⟨p, rfl, hp⟩ := isDk_at S1 r1 hd
    refine ⟨p, rfl, hp, e, mu1, hs1, S1, E1, (Gd.bind (r := relD X.K) relD_ok g1).imp fun y H2 ⟨mu2, hs2, d2, l2, S2, r2, g2⟩ => ?_⟩
    have r12 := RD.agr (l2.agr S1) r1
    cases z : atD hs2 d d2 with
    | none => rw [z] at g2; exact g2.elim
    | some o =>
      rw [z] at g2
      obtain ⟨a', ov, ea, hg, hs', hw⟩ := atD_at S2 r2 r12 z
      cases ea
      refine ⟨ov, hg, ?_⟩
      cases o with
      | none =>
        cases ov with
        | none => exact g2 mu2 H2 _ .refl S2 .non
        | some v => cases hs'
      | some w =>
        obtain ⟨v, rfl, rv⟩ := hw w rfl
        exact g2 mu2 H2 _ .refl S2 rv
  · exact g1.elim

/-! ### what holds behind them -/
section
variable {Q : D → Hs → Prop} {X : XQ} {e : Ev} {hs : Hs} {P : Po}
@[reducible] def Po.tr (P : Po) (i : Nat) (T : List (Str × Bool)) (g : FS) : Po := { P with ex := fun c fs e h => match T.lookup c with
    | some true => Ws (g (e.set i (some (.exn c (fs.map (·.1)) (fs.map (·.2))))) h) { nx := fun e h => P.nx (e.set i none) h, rt := P.rt, bk := fun e h => P.bk (e.set i none) h, ct := fun e h => P.ct (e.set i none) h }
    | some false => P.ex c fs e h
    | none => False }
theorem ws_try {i : Nat} {T : List (Str × Bool)} {f g : FS} (h : Ws (f e hs) (P.tr i T g)) : Ws (sTry i T f g e hs) P := by
  with_unfolding_all
  unfold sTry
  cases q : f e hs with
  | exc c fs e1 h1 =>
    rw [q] at h
    have h : (match T.lookup c with
      | some true => Ws (g (e1.set i (some (.exn c (fs.map (·.1)) (fs.map (·.2))))) h1) { nx := fun e h => P.nx (e.set i none) h, rt := P.rt, bk := fun e h => P.bk (e.set i none) h, ct := fun e h => P.ct (e.set i none) h }
      | some false => P.ex c fs e1 h1
      | none => False) := h
    unfold tryR
    dsimp only
    cases z : T.lookup c with
    | none => rw [z] at h; exact h.elim
    | some b =>
      rw [z] at h
      cases b with
      | true =>
        dsimp only at h ⊢
        cases y : g (e1.set i (some (.exn c (fs.map (·.1)) (fs.map (·.2))))) h1 with
        | nx e2 h2 => rw [y] at h; exact h
        | brk e2 h2 => rw [y] at h; exact h
        | cnt e2 h2 => rw [y] at h; exact h
        | ret e2 h2 => rw [y] at h; exact h
        | exc c2 f2 e2 h2 => rw [y] at h; exact h.elim
        | bad => rw [y] at h; exact h.elim
      | false => exact h
  | nx e1 h1 => rw [q] at h; exact h
  | brk e1 h1 => rw [q] at h; exact h
  | cnt e1 h1 => rw [q] at h; exact h
  | ret e1 h1 => rw [q] at h; exact h
  | bad => rw [q] at h; exact h
theorem ws_raise {c : Str} (h : P.ex c [] e hs) : Ws (sRaise c e hs) P := by with_unfolding_all exact h
theorem wp_isE {T : List (Str × Bool)} {f : FE} (h : Wp (f e hs) (fun d h => ∃ c ks ds b, d = .exn c ks ds ∧ T.lookup c = some b ∧ Q (.bl b) h) X) : Wp (eIsE T f e hs) Q X := by
  refine wp_bind (wp_mono h (fun d h' q => ?_) fun _ _ _ x => x)
  obtain ⟨c, ks, ds, b, rfl, z, q⟩ := q
  dsimp only
  rw [z]
  exact wp_ok q
theorem wp_isO {T : List (Str × Bool)} {f : FE} (h : Wp (f e hs) (fun d h => ∃ c k b, insOf h d = some (c, k) ∧ T.lookup c = some b ∧ Q (.bl b) h) X) : Wp (eIsO T f e hs) Q X := by
  refine wp_bind (wp_mono h (fun d h' q => ?_) fun _ _ _ x => x)
  obtain ⟨c, k, b, z1, z, q⟩ := q
  rw [z1]
  dsimp only
  rw [z]
  exact wp_ok q
theorem wp_xf {cs : List Str} {n : Str} {f : FE} (h : Wp (f e hs) (fun d h => ∃ c ks ds x, d = .exn c ks ds ∧ cs.contains c = true ∧ (ks.zip ds).lookup n = some x ∧ Q x h) X) : Wp (eXf cs n f e hs) Q X := by
  refine wp_bind (wp_mono h (fun d h' q => ?_) fun _ _ _ x => x)
  obtain ⟨c, ks, ds, x, rfl, z1, z, q⟩ := q
  dsimp only
  rw [if_pos z1, z]
  exact wp_ok q
theorem wp_get1 {f1 f2 : FE} (h : Wp (f1 e hs) (fun d h => isDk h d = true ∧ Wp (f2 e h) (fun k h => ∃ o, atD h d k = some o ∧ Q (o.getD .non) h) X) X) : Wp (eGet1 f1 f2 e hs) Q X := by
  refine wp_bind (wp_mono h (fun d h' q => ?_) fun _ _ _ x => x)
  obtain ⟨z, q⟩ := q
  rw [if_pos z]
  refine wp_bind (wp_mono q (fun k h' q => ?_) fun _ _ _ x => x)
  obtain ⟨o, z, q⟩ := q
  rw [z]
  exact wp_ok q
end
end G
namespace G
open PySem PySem.Spec PyProof.Rows L2
theorem Bd.tr {X : Cx} {Wd W : WX} {k : Nat} {pn : List (Addr × Obj)} {xe : Value → Shared → Prop} (B : Bd X Wd k) (tk : Takes (X.tr pn xe) W) (po : PassesOwn (model X.prog X.w) X.A X.env xe) : Bd (X.tr pn xe) W k :=
  ⟨B.calm, B.room, B.gd, tk, po, B.sm⟩
end G

/-! # G53: sorted(dict) of text keys, however many -/
namespace G
open PySem PySem.Spec PyProof.Rows L2
/-- the text as a key -/
def strK : Value → List Key
  | .str z _ => [.inr z]
  | _ => [.inr Str.empty]
def backS : List Key → Str
  | [.inr z] => z
  | _ => Str.empty
def sortS (ks : List Str) : List Str := (sortK (ks.map fun z => [Sum.inr z])).map backS
theorem sortS_perm (ks : List Str) : (sortS ks).Perm ks := by
  have h := (sortK_perm (ks.map fun z => [Sum.inr z])).map backS
  rw [List.map_map] at h
  have e : ks.map (backS ∘ fun z => [Sum.inr z]) = ks := (List.map_congr_left fun z _ => rfl).trans (List.map_id ks)
  rw [e] at h
  exact h
section
variable {prog : Program} {w : World} {A : Around} {s : Shared}
theorem strs_mem : ∀ {vs : List Value} {ss : List Str}, StrsAre vs ss → ∀ v ∈ vs, ∃ z t, v = Value.str z t
  | _, _, .nil, v, h => by cases h
  | _, _, .cons x t r, v, h => by
    rcases List.mem_cons.mp h with e | h
    · exact ⟨x, t, e⟩
    · exact strs_mem r v h
theorem strs_keys : ∀ {vs : List Value} {ss : List Str}, StrsAre vs ss → vs.map strK = ss.map fun z => [Sum.inr z]
  | _, _, .nil => rfl
  | _, _, .cons x t r => by rw [List.map_cons, List.map_cons, strs_keys r]; rfl
theorem str_cmp {vs : List Value} {ss : List Str} (hI : StrsAre vs ss) : SrtO.Cmp prog w A s oneType' (fun p => p.1 ∈ vs) (SrtO.lt2 fun v u => lexK (strK v) (strK u)) := by
  intro p q hm hm'
  obtain ⟨a, t, e⟩ := strs_mem hI _ hm
  obtain ⟨b, u, e'⟩ := strs_mem hI _ hm'
  show wpAny (model prog w) A (keyLt' oneType' p.1 q.1) (fun r s' => s' = s ∧ r = lexK (strK p.1) (strK q.1)) (fun _ _ => False) s
  rw [e, e', PyProof.Rows.keyLt'_oneType]
  refine one_key (k := .inr a) (l := .inr b) true ⟨t, rfl⟩ ⟨u, rfl⟩ rfl ⟨rfl, ?_⟩
  show ltK (.inr a) (.inr b) = (if (Sum.inr a : Key) = Sum.inr b then lexK [] [] else ltK (.inr a) (.inr b))
  split
  · rename_i h
    cases h
    cases q : ltK (.inr a) (.inr a) with
    | false => rfl
    | true =>
      have z := lexK_asym [.inr a, .inl 0] [.inr a, .inl 1]
      have : decide (a.cps.toList < a.cps.toList) = true := q
      exact absurd (of_decide_eq_true this) (List.lt_irrefl _)
  · rfl
theorem strs_sortable {a : Addr} {vs : List Value} {ss : List Str} (hI : StrsAre vs ss) (h2 : 2 ≤ vs.length) : SrtO.SortableO prog w A s a vs fun v u => lexK (strK v) (strK u) := by
  intro h' _
  refine ⟨oneType', fun Q E hq => ?_, str_cmp hI⟩
  match vs, hI, h2 with
  | v1 :: v2 :: rest, hI, _ =>
    rw [keyKind_strs hI]
    exact wpAny_pure hq
  | [], _, h => exact absurd h (by decide)
  | [v], _, h => exact absurd h (by simp)
theorem strs_back : ∀ {vs : List Value}, (∀ v ∈ vs, ∃ z t, v = Value.str z t) → StrsAre vs ((vs.map strK).map backS)
  | [], _ => .nil
  | v :: vs, h => by
    obtain ⟨z, t, e⟩ := h v List.mem_cons_self
    subst e
    exact .cons z t (strs_back fun u hu => h u (List.mem_cons_of_mem _ hu))
end
theorem call_sortedS {X : Cx} (hcalm : X.calm = true) : CallR X (.builtin "sorted") (fun xs H Q => ∃ (a : Addr) (kvs : List (Key × V)) (ks : List Str), xs = [.ref a] ∧ Rd H a (.dK kvs) ∧ kvs.map (·.1) = ks.map Sum.inr ∧ ks.length ≤ 100000 ∧
    ∀ p, H p = none → Q (.ref p) (upd H p (.lst ((sortS ks).map V.str)))) := by
  intro pins s σ H xs us Q I r q
  obtain ⟨a, kvs, ks, ex, hd, hks, h64, q⟩ := q
  subst ex
  obtain ⟨u, eu, rx⟩ := vals1 r
  subst eu
  cases rx
  obtain ⟨z, lo, vs, rel, dd⟩ := dk_rd I.hok hd
  obtain ⟨ep, hat⟩ := dd.dictAt
  have hkeys : vs.map (·.1) = ks.map Sum.inr := rel.keys.symm.trans hks
  have hl : vs.length = ks.length := by
    have e := congrArg List.length hkeys
    rw [List.length_map, List.length_map] at e
    exact e
  have h16 : vs.length ≤ sizeLine := by rw [hl, sizeLine_eq]; omega
  refine Calls.call_function_entry PyProof.Rows.kind_sorted PyProof.Rows.plain_sorted PyProof.Rows.entry_sorted (PyProof.Rows.args_sorted1 _) ?_
  unfold Builtin.«sorted»
  refine wpAny_bind (m := checkCount "sorted" 1 1 _) (wpAny_pure ?_)
  refine wpAny_bind (PySem.W.kdu_collect (A := X.A.in1) (PySem.W.kdl_dict (knd := mixKind X.prog X.w) (kvs := vs) (ep := ep) lo) (I.ok.hd hcalm) hat h16 fun h' tk acc hk hacc => ?_)
  have hal : acc.toList.length = ks.length := by rw [Array.length_toList, hacc.1, hl]
  have hS : StrsAre acc.toList ks := strs_at hal fun j v e => by
    obtain ⟨k, x, e1, e2⟩ := hacc.2 j v (by rw [← Array.getElem?_toList]; exact e)
    have e3 : (vs.map (·.1))[j]? = some k := by rw [List.getElem?_map, e1]; all_goals rfl
    rw [hkeys, List.getElem?_map] at e3
    cases e4 : ks[j]? with
    | none => rw [e4] at e3; cases e3
    | some y =>
      rw [e4] at e3
      have e5 : Sum.inr y = k := Option.some.inj e3
      subst e5
      obtain ⟨t, ev⟩ := Value.isStrOf_shape (x := y) (v := v) e2
      exact ⟨y, t, rfl, ev⟩
  have I1 : L2.Inv X pins σ H { s with heap := h', toks := tk } := I.kept hk
  have hz : acc.toList.length ≤ sizeLine := by rw [hal, sizeLine_eq]; omega
  refine wpAny_bind (wpAny_newList ?_ hz)
  have hoL : (h'.push (seqObj "list" acc.toList.toArray 0)).get? h'.objs.size = some (seqObj "list" acc.toList.toArray 0) := Heap.get?_push_size _ rfl
  show wpAny _ _ _ _ _ { s with heap := h'.push (seqObj "list" acc.toList.toArray 0), toks := tk }
  refine wpAny_bind (wpAny_holding (wpAny_call_entry PyProof.Rows.slot_list_sort ⟨_, hoL, rfl⟩ PyProof.Rows.entry_list_sort
    (SrtO.list_sort_ord (s := { s with heap := h'.push (seqObj "list" acc.toList.toArray 0), toks := tk }) (swoK strK) hoL hz (fun g2 => strs_sortable hS g2) fun out hs hb => ⟨_, rfl, ?_⟩)
    (PyProof.Rows.args_list_sort _)))
  have hp := hb.perm
  have ho : ∀ v ∈ out, ∃ z t, v = Value.str z t := fun v hv => strs_mem hS v (hp.subset hv)
  have g1 : StrsAre out (sortS ks) := by
    have sk : out.map strK = sortK (ks.map fun z => [Sum.inr z]) := by
      refine sortK_is ?_ (List.pairwise_map.mpr hs)
      rw [← strs_keys hS]
      exact hp.map _
    have := strs_back ho
    rw [sk] at this
    exact this
  obtain ⟨e', he'⟩ := PyProof.Rows.sortedHeap_at (vs := acc.toList) (out := out.toArray) hoL
  have hlen : ((sortS ks).map V.str).length ≤ sizeLine := by
    rw [List.length_map, (sortS_perm ks).length_eq, sizeLine_eq]; omega
  refine wpAny_pure ⟨_, rfl, .ref h'.objs.size, upd H h'.objs.size (.lst ((sortS ks).map V.str)), I1.laid (t' := tk) (fun b u e => ?_) (Nat.le_refl _)
    (show ObjOk X.prog X.w _ _ _ (.lst ((sortS ks).map V.str)) from ⟨hlen, out, e', vals_of_strs g1, he'⟩), rfl, q _ (I1.hok.fresh (Nat.le_refl _))⟩
  have hb : b < h'.objs.size := Heap.lt_size e
  rw [PyProof.Rows.sortedHeap_old (Nat.ne_of_lt hb) (by rw [size_push']; exact Nat.lt_succ_of_lt hb)]
  exact Heap.get?_push_of_some _ e
/-! ### as a function of ours -/
def dkA (hs : Hs) : D → Option (List (Key × D))
  | .dct ks ds => some (ks.zip ds)
  | .ref n => (match hs[n]? with | some (.dk kvs) => some kvs | _ => none)
  | _ => none
theorem dkA_at {K : PySem.W.Frag} {mg : Str → Option Value} {mu : Mp} {hs : Hs} {H : Hp} {d : D} {v : V} {kvs : List (Key × D)} (S : Sim K mg mu hs H) (r : RD K mu H d v) (e : dkA hs d = some kvs) : ∃ a vs, v = .ref a ∧ H a = some (.dK vs) ∧ RKs K mu H kvs vs := by
  cases r with
  | dct h _ _ r => cases e; exact ⟨_, _, rfl, h, zip_rks r⟩
  | ref q =>
    unfold dkA at e
    dsimp only at e
    split at e
    · rename_i kvs' hd
      cases e
      obtain ⟨u, h1, h2⟩ := S.at q hd
      cases u with
      | dK vs => exact ⟨_, vs, rfl, h1, h2⟩
      | _ => exact h2.elim
    · cases e
  | _ => cases e
def gSortS (hs : Hs) (d : D) : Option (List D) := match dkA hs d with
  | some kvs => (match txtKeys kvs with | some ks => if ks.length ≤ 100000 then some ((sortS ks).map D.str) else none | none => none)
  | none => none
def lSortS (f : FE) : FL := fun e hs => (f e hs).bind fun d hs => R.ofO (gSortS hs d) hs
theorem uf_sortS {X : Cx} {Wd : WX} {a : Expr} {f1 : FE} {p pos : Pos} (hc : X.calm = true) (hg : L2.Gl X "sorted") (hm : X.mg "sorted" = none) (ha : UE X Wd a f1)
    (hs1 : starEach [a] X.env = [(false, eval a X.env)] := by rfl) : UF X Wd (.Call (.Name "sorted" p) [a] [] pos) (lSortS f1) := by
  refine PE.imp (pe_callB (call_sortedS hc) hg hm boot_sorted (pa_cons ha pa_nil hs1) (by decide) (by decide) hs1 rfl) fun σ H Q h => ?_
  obtain ⟨e, mu, hs, S, E, q⟩ := tG_seq (r := relD X.K) relF_ok h
  refine ⟨e, mu, hs, S, E, q.imp fun x H1 ⟨e, mu1, hs1, d, S1, E1, r1, g1⟩ => ?_⟩
  unfold gSortS at g1
  cases e1 : dkA hs1 d with
  | none => rw [e1] at g1; exact g1.elim
  | some kvs =>
    rw [e1] at g1
    dsimp only at g1
    cases e2 : txtKeys kvs with
    | none => rw [e2] at g1; exact g1.elim
    | some ks =>
      rw [e2] at g1
      dsimp only at g1
      split at g1
      · rename_i l
        obtain ⟨a, vs, rfl, ha, rk⟩ := dkA_at S1 r1 e1
        exact ⟨a, vs, ks, rfl, .inl ha, txtKeys_at rk e2, l, fun p hp => relF_new S1 g1 hp (RDs.strs _)⟩
      · exact g1.elim
section
variable {e : Ev} {hs h : Hs} {X : XQ}
theorem wp_sortS {f : FE} {Q : List D → Hs → Prop} (g : Wp (f e hs) (fun d h => ∃ kvs ks, dkA h d = some kvs ∧ txtKeys kvs = some ks ∧ ks.length ≤ 100000 ∧ Q ((sortS ks).map D.str) h) X) : Wp (lSortS f e hs) Q X := by
  refine wp_bind (wp_mono g (fun d h' q => ?_) fun _ _ _ x => x)
  obtain ⟨kvs, ks, e1, e2, l, q⟩ := q
  refine wp_some ?_ q
  unfold gSortS
  rw [e1]
  dsimp only
  rw [e2]
  exact if_pos l
end
end G

namespace K03
open PySem PySem.Spec PyProof.Rows L2 G
/-! ### the functions -/
noncomputable section
abbrev k_QUARTER_WORDS : D := (.ctp [(.str ""), (.str ".25"), (.str ".5"), (.str ".75")])
def f_wall : FS := (sWhile (eT (eC (.bl true))) sSkip)
def c_wall : List D → Hs → R D := fnBody 1 f_wall
def f_Size_init : FS := (sFld ["Size"] "quarters" (eName 1) (eName 0))
def c_Size_init : List D → Hs → R D := fnBody 2 f_Size_init
def f_Size_str : FS := (sSeq (sSet 1 (eBin gIx (eC k_QUARTER_WORDS) (eBin gMod (eUn (gFld ["Size"] "quarters") (eName 0)) (eC (.int 4)))))
  (sRet (eJs [(eUn gFmt (eBin gDiv (eUn (gFld ["Size"] "quarters") (eName 0)) (eC (.int 4)))), (eUn gFmt (eName 1))] Str.empty)))
def c_Size_str : List D → Hs → R D := fnBody 2 f_Size_str
def f_read_size : FS := (sSeq (sIf (eT (eCall gIsi (aCons (eName 0) (aCons (eC (.ty .str)) aNil)))) (sFor (iR2 (aCons (eC (.int 1)) (aCons (eBin gAdd (eC k_MOST_QUARTERS) (eC (.int 1))) aNil))) (nSet 1)
  (sSeq (sSet 2 (eGc (eMk "Size" c_Size_init [0, 1] [(.int 28)] aNil (aCons (eName 1) aNil))))
  (sIf (eB (eBin gEq (eOwn (gOwn "Size" c_Size_str isStrD) (aCons (eName 2) aNil)) (eName 0))) (sRet (eName 2)) sSkip))) sSkip)
  (sRaise "NoText"))
def c_read_size : List D → Hs → R D := fnBody 3 f_read_size
def f_texts : FS := (sSeq (sSet 0 eD0K)
  (sSeq (sFor (iR1 (aCons (eC (.int 25)) aNil)) (nSet 1)
  (sFor (iR1 (aCons (eC (.int 4)) aNil)) (nSet 2)
  (sIf (eB (eBin gGt (eBin gAdd (eName 1) (eName 2)) (eC (.int 0)))) (sSub mSetA (eBin gAdd (eBin gMul (eC (.int 4)) (eName 1)) (eName 2)) (eName 0) (eBin gAdd (eCall gStr (aCons (eName 1) aNil)) (eBin gIx (eV (aCons (eC (.str "")) (aCons (eC (.str ".25")) (aCons (eC (.str ".5")) (aCons (eC (.str ".75")) aNil))))) (eName 2)))) sSkip)))
  (sRet (eName 0))))
def c_texts : List D → Hs → R D := gcF (fnBody 3 f_texts)
def f_told : FS := (sSeq (sSet 1 (eC .non))
  (sSeq (sSet 2 (eM aNil))
  (sSeq (sTry 3 [("NoText", true)] (sSet 1 (eFn c_read_size [0] [] (aCons (eName 0) aNil)))
  (sSeq (sSet 2 (eM (aCons (eIsE [("NoText", true)] (eName 3)) (aCons (eIsE [("NoText", true)] (eName 3)) (aCons (eNot (eIsE [("NoText", false)] (eName 3))) aNil)))))
  (sSeq (sDrop (eMt isL mAppend (eName 2) (aCons (eNot (eIsE [("NoText", false)] (eName 3))) aNil)))
  (sDrop (eMt isL mAppend (eName 2) (aCons (eNot (eIsE [("NoText", false)] (eName 3))) aNil))))))
  (sRet (eTup (aCons (eName 1) (aCons (eName 2) aNil)))))))
def c_told : List D → Hs → R D := gcF (fnBody 4 f_told)
def f_Size_eq : FS := (sRet (eAnd (eIsO [("Size", true)] (eName 1)) (eBin gEq (eUn (gFld ["Size"] "quarters") (eName 0)) (eUn (gFld ["Size"] "quarters") (eName 1)))))
def c_Size_eq : List D → Hs → R D := fnBody 2 f_Size_eq
def f_right : FS := (sSeq (sSet 2 (eC .non))
  (sSeq (sIf (eT (eCall gIsi (aCons (eName 0) (aCons (eC (.ty .str)) aNil)))) (sSet 2 (eGet1 (eName 1) (eName 0))) sSkip)
  (sSeq (sAsg (nTup 2 (nCons (nSet 3) (nCons (nSet 4) nNil))) (eFn c_told [0] [] (aCons (eName 0) aNil)))
  (sSeq (sIf (eB (eBin gIs (eName 2) (eC .non))) (sRet (eBin gEq (eName 4) (eV (lRep (eV (aCons (eC (.bl true)) aNil)) (eC (.int 5)))))) sSkip)
  (sSeq (sIf (tOrF (eB (eBin gNe (eName 4) (eV aNil))) (tOrF (tNotF (eT (eIsO [("Size", true)] (eName 3)))) (eB (eBin gNe (eUn (gFld ["Size"] "quarters") (eName 3)) (eName 2))))) (sRet (eC (.bl false))) sSkip)
  (sRet (eAnd (eBin (gOeq "Size" c_Size_eq) (eName 3) (eGc (eMk "Size" c_Size_init [0, 1] [(.int 28)] (aCons (eName 2) aNil) aNil))) (eBin gEq (eOwn (gOwn "Size" c_Size_str isStrD) (aCons (eName 3) aNil)) (eName 0)))))))))
def c_right : List D → Hs → R D := fnBody 5 f_right
def f_bent : FS := (sSeq (sSet 2 (eFn c_draw [0, 1] [] (aCons (eName 0) (aCons (eC (.int 9)) aNil))))
  (sSeq (sSet 3 (eFn c_draw [0, 1] [] (aCons (eName 0) (aCons (eBin gAdd (eCall gLen (aCons (eName 1) aNil)) (eC (.int 1))) aNil))))
  (sSeq (sSet 4 (eBin gIx (eC (.str "0123456789. +-_\nx/")) (eFn c_draw [0, 1] [] (aCons (eName 0) (aCons (eC (.int 18)) aNil)))))
  (sSeq (sSet 5 (eV (aCons (eBin gAdd (eBin gAdd (eSl (eName 1) oNone (oSome (eName 3))) (eName 4)) (eSl (eName 1) (oSome (eName 3)) oNone)) (aCons (eBin gAdd (eSl (eName 1) oNone (oSome (eName 3))) (eSl (eName 1) (oSome (eBin gAdd (eName 3) (eC (.int 1)))) oNone)) (aCons (eBin gAdd (eBin gAdd (eSl (eName 1) oNone (oSome (eName 3))) (eName 4)) (eSl (eName 1) (oSome (eBin gAdd (eName 3) (eC (.int 1)))) oNone)) (aCons (eBin gAdd (eC (.str "0")) (eName 1)) aNil))))))
  (sRet (eBin gIx (eBin gAdd (eName 5) (eV (aCons (eBin gAdd (eName 1) (eC (.str "0"))) (aCons (eBin gAdd (eName 1) (eC (.str ".0"))) (aCons (eBin gMulS (eName 1) (eC (.int 2))) (aCons (eUn gRev (eName 1)) (aCons (eBin gAdd (eName 1) (eBin gIx (eV (aCons (eC (.str ".25")) (aCons (eC (.str ".5")) (aCons (eC (.str ".75")) (aCons (eC (.str "5")) aNil))))) (eBin gMod (eName 3) (eC (.int 4))))) aNil))))))) (eName 2)))))))
def c_bent : List D → Hs → R D := fnBody 6 f_bent
def f_law : FS := (sSeq (sSet 1 (eFn c_deck [0] [] (aCons (eName 0) aNil)))
  (sSeq (sSetC 2 false (lComp (iR1 (aCons (eC (.int 12)) aNil)) (nSet 5) tYesF (eBin gEq (eFn c_draw [0, 1] [] (aCons (eName 1) (aCons (eC (.int 3)) aNil))) (eC (.int 1))) [5]))
  (sSeq (sSet 3 (eFnK c_texts [] [] aNil aNil))
  (sSeq (sSet 4 (eV (lSortS (eName 3))))
  (sSeq (sFor (iR1 (aCons (eC (.int 30)) aNil)) (nSet 5)
  (sSeq (sSet 6 (eFn c_pick [0, 1] [] (aCons (eName 1) (aCons (eName 4) aNil))))
  (sSeq (sIf (tOrF (tNotF (eT (eFn c_right [0, 1] [] (aCons (eName 6) (aCons (eName 3) aNil))))) (eB (eBin (gOne "Size" c_Size_eq) (eFnK c_read_size [0] [] aNil (aCons (eName 6) aNil)) (eGc (eMk "Size" c_Size_init [0, 1] [(.int 28)] (aCons (eBin gDget (eName 3) (eName 6)) aNil) aNil))))) (sRet (eC (.bl false))) sSkip)
  (sFor (iAny (eName 2)) (nSet 7)
  (sSeq (sSet 8 (eFn c_bent [0, 1] [] (aCons (eName 1) (aCons (eName 6) aNil))))
  (sSeq (sIf (eT (eName 7)) (sSet 8 (eFn c_bent [0, 1] [] (aCons (eName 1) (aCons (eName 8) aNil)))) sSkip)
  (sIf (tNotF (eT (eFn c_right [0, 1] [] (aCons (eName 8) (aCons (eName 3) aNil))))) (sRet (eC (.bl false))) sSkip)))))))
  (sSeq (sSet 9 (eV aNil))
  (sSeq (sFor (iR1 (aCons (eC (.int 31)) aNil)) (nSet 10)
  (sSet 9 (eBin gAdd (eName 9) (eV (lComp (iAny (eTup (aCons (eC (.str "")) (aCons (eC (.str ".25")) (aCons (eC (.str ".5")) (aCons (eC (.str ".75")) (aCons (eC (.str ".0")) (aCons (eC (.str ".50")) (aCons (eC (.str ".2")) (aCons (eC (.str ".")) (aCons (eC (.str ",5")) (aCons (eC (.str " .5")) aNil)))))))))))) (nSet 13) tYesF (eBin gAdd (eCall gStr (aCons (eName 10) aNil)) (eName 13)) [13])))))
  (sSeq (sSet 11 (eV (aCons (eC .non) (aCons (eC (.bl true)) (aCons (eC (.bl false)) (aCons (eC (.int 7)) (aCons (eC (.int 0)) (aCons (eUn gNeg (eC (.int 1))) (aCons (eTup aNil) (aCons (eV aNil) (aCons eD0 (aCons (eTup (aCons (eC (.str "7")) aNil)) (aCons (eV (aCons (eC (.str "7")) aNil)) (aCons (eC (.str "")) (aCons (eC (.str " ")) (aCons (eC (.str "\n")) (aCons (eC (.str "7\n")) (aCons (eC (.str " 7")) (aCons (eC (.str "7 ")) (aCons (eC (.str "+7")) (aCons (eC (.str "-7")) aNil)))))))))))))))))))))
  (sSeq (sSet 11 (eBin gAdd (eName 11) (eV (aCons (eC (.str "007")) (aCons (eC (.str "7.25.5")) (aCons (eC (.str ".5")) (aCons (eC (.str "0.0")) (aCons (eC (.str "0")) (aCons (eC (.str "7.1")) (aCons (eC (.str "Size(28)")) (aCons (eBin gMulS (eC (.str "1")) (eC (.int 4000))) (aCons (eC (.str "7_0")) (aCons (eC (.str "1e1")) (aCons (eC (.str "24.75")) (aCons (eC (.str "25")) aNil)))))))))))))))
  (sSeq (sSet 11 (eBin gAdd (eName 11) (eV (aCons (eC (.str "seven")) (aCons (eC (.str "7,25")) aNil)))))
  (sSeq (sFor (iAny (eBin gAdd (eBin gAdd (eName 9) (eName 11)) (eV (aCons (eUn (gFld ["Size"] "quarters") (eGc (eMk "Size" c_Size_init [0, 1] [(.int 28)] (aCons (eC (.int 28)) aNil) aNil))) (aCons (eC (.str "7")) aNil))))) (nSet 12)
  (sIf (tNotF (eT (eFn c_right [0, 1] [] (aCons (eName 12) (aCons (eName 3) aNil))))) (sRet (eC (.bl false))) sSkip))
  (sRet (eC (.bl true))))))))))))))
def c_law : List D → Hs → R D := fnBody 14 f_law
end
end K03

namespace K03
open PySem PySem.Spec L2 G
local macro_rules | `(tactic| walk_at "s1") => `(tactic| first
  | ((with_reducible apply wp_name); (case q => rfl))
  | with_reducible refine wp_c ?_
  | with_reducible refine wp_bin ?_
  | with_reducible refine wp_acons ?_
  | with_reducible refine wp_anil ?_
  | with_reducible refine wp_call ?_
  | with_reducible refine wp_fn ?_
  | with_reducible refine wp_fnK ?_
  | with_reducible refine wp_ev ?_
  | with_reducible refine wp_em ?_
  | with_reducible refine wp_tup ?_
  | with_reducible refine wp_eb ?_
  | with_reducible refine wp_et ?_
  | with_reducible refine wp_un ?_
  | with_reducible refine wp_chain ?_
  | with_reducible refine wp_and ?_
  | with_reducible refine wp_or ?_
  | with_reducible refine wp_not ?_
  | with_reducible refine wp_andF ?_
  | with_reducible refine wp_orF ?_
  | with_reducible refine wp_notF ?_
  | with_reducible refine wp_yes ?_
  | with_reducible refine wp_if ?_
  | with_reducible refine wp_sl ?_
  | with_reducible refine wp_onone ?_
  | with_reducible refine wp_osome ?_
  | with_reducible refine wp_rev ?_
  | with_reducible refine wp_list ?_
  | with_reducible refine wp_mt ?_
  | with_reducible refine wp_any ?_
  | with_reducible refine wp_r1 ?_
  | with_reducible refine wp_r2 ?_
  | with_reducible refine ws_seq ?_
  | with_reducible refine ws_set ?_
  | with_reducible refine ws_setC ?_
  | with_reducible refine ws_setCM ?_
  | with_reducible refine ws_if ?_
  | with_reducible refine ws_ret ?_
  | with_reducible refine ws_retN ?_
  | with_reducible refine ws_drop ?_
  | with_reducible refine ws_skip ?_
  | with_reducible refine ws_asg ?_
  | with_reducible refine ws_par ?_
  | with_reducible refine ws_sub ?_
  | with_reducible refine wp_body ?_)
local macro_rules | `(tactic| walk_at "s") => `(tactic| repeat (walk_at "s1"))
local macro_rules | `(tactic| walk_at "q") => `(tactic| first | assumption | decide | omega | rfl)
local macro_rules | `(tactic| walk_at "e1") => `(tactic| first
  | with_reducible refine wp_some add_i ?_
  | with_reducible refine wp_some sub_i ?_
  | with_reducible refine wp_some lt_i ?_
  | with_reducible refine wp_some le_i ?_
  | with_reducible refine wp_some gt_i ?_
  | with_reducible refine wp_some ge_i ?_
  | with_reducible refine wp_some eq_i ?_
  | with_reducible refine wp_some ne_i ?_
  | with_reducible refine wp_some eq_b ?_
  | with_reducible refine wp_some max_i ?_
  | with_reducible refine wp_some min_i ?_
  | with_reducible refine wp_some tup_tup ?_
  | with_reducible refine wp_some tup_lst ?_
  | with_reducible refine wp_some len_tup ?_
  | with_reducible refine wp_some len_lst ?_
  | with_reducible refine wp_some sl_tup ?_
  | with_reducible refine wp_some sl_lst ?_
  | with_reducible refine wp_some tru_b ?_
  | with_reducible refine wp_some repr_b ?_
  | with_reducible refine wp_eq_sb ?_
  | with_reducible refine wp_some seq_lst ?_
  | with_reducible refine wp_some seq_tup ?_
  | ((with_reducible apply wp_ix_tup); (case q => rfl))
  | ((with_reducible apply wp_ix_lst); (case q => rfl))
  | ((with_reducible apply wp_ix_ref); (case p => assumption); (case q => rfl))
  | with_reducible refine wp_some eq_s ?_
  | ((with_reducible refine wp_some (mod_int ?q) ?_); (case q => walk_at "q"))
  | ((with_reducible refine wp_some (div_int ?p ?q) ?_); (case p => walk_at "q"); (case q => walk_at "q"))
  | ((with_reducible refine wp_some (mul_int ?q) ?_); (case q => walk_at "q"))
  | ((with_reducible refine wp_some (add_tup ?q) ?_); (case q => first | omega | exact Nat.le_of_ble_eq_true rfl | (simp; done) | (simp; omega)))
  | ((with_reducible refine wp_some (add_lst ?q) ?_); (case q => first | omega | exact Nat.le_of_ble_eq_true rfl | (simp; done) | (simp; omega)))
  | with_reducible refine Exists.intro _ (And.intro rfl ?_)
  | with_reducible refine Exists.intro _ (Exists.intro _ (And.intro rfl ?_)))
local macro_rules | `(tactic| walk_at "g") => `(tactic| repeat (first | walk_at "s1" | walk_at "e1"))
local macro_rules | `(tactic| walk_at "h1") => `(tactic| first
  | with_reducible refine wp_some ne_b ?_
  | with_reducible refine wp_ne_sb ?_
  | with_reducible refine wp_d0t ?_
  | with_reducible refine wp_d0k ?_
  | with_reducible refine wp_d0 ?_
  | with_reducible refine wp_valsT ?_
  | with_reducible refine wp_some ne_s ?_
  | with_reducible refine wp_some reprA_b ?_
  | with_reducible refine wp_d1 ?_
  | with_reducible refine wp_some isi_non ?_
  | with_reducible refine wp_some isi_bl ?_
  | with_reducible refine wp_some isi_int ?_
  | with_reducible refine wp_some isi_str ?_
  | with_reducible refine wp_some isi_tup ?_
  | with_reducible refine wp_some isi_lst ?_
  | with_reducible refine wp_some isi_dct ?_)
local macro_rules | `(tactic| walk_at "k") => `(tactic| repeat (first | walk_at "s1" | walk_at "e1" | walk_at "h1"))
local macro_rules | `(tactic| walk_at "p") => `(tactic| first | assumption | (constructor; done) | exact pln_of (by assumption) | exact Sm.pln (by assumption))
local macro_rules | `(tactic| walk_at "b1") => `(tactic| first
  | exact nof
  | exact tnof
  | (refine And.intro ?_ tnof; intro _)
  | (refine And.intro nof ?_; intro _)
  | (refine And.intro ?_ ?_ <;> intro _))
local macro_rules | `(tactic| walk_at "P1") => `(tactic| first
  | ((with_reducible show Wp (c_is_whole _ _) _ _); refine wp_of (whole_eq ?p) ?_; (case p => walk_at "p"))
  | ((with_reducible show Wp (c_is_between _ _) _ _); refine wp_of (between_eq ?p) ?_; (case p => walk_at "p")))
local macro_rules | `(tactic| walk_at "b") => `(tactic| repeat' (first | walk_at "s1" | walk_at "e1" | walk_at "h1" | walk_at "P1" | walk_at "b1"))
local macro_rules | `(tactic| walk_at "z") => `(tactic| first
  | exact (show _ ∧ _ from ⟨rfl, rfl⟩)
  | (refine (show _ ∧ _ from ⟨?_, rfl⟩); first | (simp_all; done) | (simp_all <;> omega)))
local macro_rules | `(tactic| walk_at "bz") => `(tactic| (walk_at "b" <;> try walk_at "z"))
local macro_rules | `(tactic| walk_at "P1") => `(tactic| first
  | ((with_reducible show Wp (c_is_size _ _) _ _); refine wp_of (size_eq ?p) ?_; (case p => walk_at "p"))
  | ((with_reducible show Wp (c_is_moment _ _) _ _); refine wp_of (moment_eq ?p) ?_; (case p => walk_at "p"))
  | ((with_reducible show Wp (c_is_side _ _) _ _); refine wp_of (side_eq ?p) ?_; (case p => walk_at "p"))
  | ((with_reducible show Wp (c_is_grade _ _) _ _); refine wp_of (grade_eq ?p) ?_; (case p => walk_at "p"))
  | ((with_reducible show Wp (c_is_name _ _) _ _); refine wp_of (name_eq ?p ?q) ?_; (case p => walk_at "p"); (case q => first | assumption | omega))
  | ((with_reducible show Wp (c_is_ident _ _) _ _); refine wp_of (ident_eq ?p) ?_; (case p => assumption))
  | ((with_reducible show Wp (c_is_glove _ _) _ _); refine wp_of (glove_eq ?p ?q) ?_; (case p => assumption); (case q => first | assumption | omega)))
local macro_rules | `(tactic| walk_at "d1") => `(tactic| first
  | ((with_reducible show Wp (c_draw _ _) _ _); refine' dr ?s ?k ?a ?b ?_; (case s => assumption); (case k => assumption); (case a => first | decide | omega); (case b => first | decide | omega); intro _ _ _ _ _))
local macro_rules | `(tactic| walk_at "d") => `(tactic| repeat (first | walk_at "s1" | walk_at "e1" | walk_at "h1" | walk_at "P1" | walk_at "d1"))
local macro_rules | `(tactic| walk_at "db") => `(tactic| repeat' (first | walk_at "s1" | walk_at "e1" | walk_at "h1" | walk_at "P1" | walk_at "d1" | walk_at "b1"))
local macro_rules | `(tactic| walk_at "tl") => `(tactic| repeat' (first | assumption | omega | decide | (with_reducible refine len_half ?_ ?_) | (with_reducible refine lit_half ?_) | (with_reducible refine cut_half ?_) | (with_reducible refine T_half ?_)))
local macro_rules | `(tactic| walk_at "t1") => `(tactic| first
  | ((with_reducible refine wp_some (add_str ?q ?r) ?_); (case q => walk_at "tl"); (case r => walk_at "tl"))
  | ((with_reducible refine wp_some (sl_str ?q) ?_); (case q => walk_at "tl"))
  | ((with_reducible refine wp_some (len_str ?q) ?_); (case q => walk_at "tl"))
  | ((with_reducible refine wp_someP (upper_str ?q) ?_); (case q => walk_at "tl"))
  | ((with_reducible refine wp_some (str_int ?q) ?_); (case q => first | assumption | omega))
  | with_reducible refine wp_some rev_tup ?_
  | with_reducible refine wp_some rev_lst ?_
  | with_reducible refine wp_some is_bl ?_
  | with_reducible refine wp_some isN_bl ?_
  | with_reducible refine wp_some neg_i ?_
  | with_reducible refine wp_lAdd ?_
  | with_reducible refine And.intro rfl ?_)
local macro_rules | `(tactic| walk_at "d") => `(tactic| repeat (first | walk_at "s1" | walk_at "e1" | walk_at "h1" | walk_at "t1" | walk_at "P1" | walk_at "d1"))
local macro_rules | `(tactic| walk_at "db") => `(tactic| repeat' (first | walk_at "s1" | walk_at "e1" | walk_at "h1" | walk_at "t1" | walk_at "P1" | walk_at "d1" | walk_at "b1"))
local macro_rules | `(tactic| walk_at "dz") => `(tactic| (walk_at "db" <;> try walk_at "z"))
local macro_rules | `(tactic| walk_at "hg") => `(tactic| first | assumption | exact get_new | (refine get_app ?_; walk_at "hg") | (refine' get_set_eq ?e; (case e => walk_at "hg")) | (refine (get_set_ne ?_).trans ?_; (first | omega | (simp only [List.length_append, List.length_set, List.length_cons, List.length_nil]; omega)); walk_at "hg"))
local macro_rules | `(tactic| walk_at "st") => `(tactic| repeat' (first | assumption | (with_reducible refine St.wapp ?_ ?_) | (with_reducible refine St.wset ?_ ?_ ?_ ?_) | (simp only [List.length_append, List.length_set, List.length_cons, List.length_nil]; omega) | omega))
local macro_rules | `(tactic| walk_at "ll") => `(tactic| repeat' (first | assumption | omega | exact Nat.le_of_ble_eq_true rfl | (with_reducible refine app_half ?_ ?_) | (with_reducible refine cutL_half ?_) | (with_reducible refine rev_half ?_) | (with_reducible refine map_half ?_) | (with_reducible refine cons_half ?_ ?_)))
local macro_rules | `(tactic| walk_at "n1") => `(tactic| first
  | ((with_reducible show Wp (R.ofO _ _) _ _); first
    | with_reducible apply wp_some eq_same
    | with_reducible apply wp_some ne_same
    | with_reducible apply wp_some add_i
    | with_reducible apply wp_some sub_i
    | with_reducible apply wp_some lt_i
    | with_reducible apply wp_some le_i
    | with_reducible apply wp_some gt_i
    | with_reducible apply wp_some ge_i
    | with_reducible apply wp_some eq_i
    | with_reducible apply wp_some ne_i
    | with_reducible apply wp_some eq_b
    | with_reducible apply wp_some max_i
    | with_reducible apply wp_some min_i
    | with_reducible apply wp_some tup_tup
    | with_reducible apply wp_some tup_lst
    | with_reducible apply wp_some len_tup
    | with_reducible apply wp_some len_lst
    | with_reducible apply wp_some sl_tup
    | with_reducible apply wp_some sl_lst
    | with_reducible apply wp_some tru_b
    | with_reducible apply wp_some repr_b
    | with_reducible refine wp_eq_sb ?_
    | with_reducible apply wp_some seq_lst
    | with_reducible apply wp_some seq_tup
    | ((with_reducible apply wp_ix_tup); (case q => rfl))
    | ((with_reducible apply wp_ix_lst); (case q => rfl))
    | ((with_reducible apply wp_ix_ref); (case p => assumption); (case q => rfl))
    | with_reducible apply wp_some eq_s
    | ((with_reducible apply wp_some (mod_int ?q)); (case q => walk_at "q"))
    | ((with_reducible apply wp_some (div_int ?p ?q)); (case p => walk_at "q"); (case q => walk_at "q"))
    | ((with_reducible apply wp_some (mul_int ?q)); (case q => walk_at "q"))
    | ((with_reducible apply wp_some (add_tup2 ?a ?b)); (case a => walk_at "ll"); (case b => walk_at "ll"))
    | ((with_reducible apply wp_some (add_lst2 ?a ?b)); (case a => walk_at "ll"); (case b => walk_at "ll"))
    | with_reducible apply wp_some ne_b
    | with_reducible refine wp_ne_sb ?_
    | with_reducible apply wp_some ne_s
    | with_reducible apply wp_some reprA_b
    | with_reducible apply wp_some isi_non
    | with_reducible apply wp_some isi_bl
    | with_reducible apply wp_some isi_int
    | with_reducible apply wp_some isi_str
    | with_reducible apply wp_some isi_tup
    | with_reducible apply wp_some isi_lst
    | with_reducible apply wp_some isi_dct
    | ((with_reducible apply wp_some (add_str ?q ?r)); (case q => walk_at "tl"); (case r => walk_at "tl"))
    | ((with_reducible apply wp_some (sl_str ?q)); (case q => walk_at "tl"))
    | ((with_reducible apply wp_some (len_str ?q)); (case q => walk_at "tl"))
    | ((with_reducible apply wp_some (str_int ?q)); (case q => first | assumption | omega))
    | with_reducible apply wp_some rev_tup
    | with_reducible apply wp_some rev_lst
    | with_reducible apply wp_some is_bl
    | with_reducible apply wp_some isN_bl
    | with_reducible apply wp_some neg_i
    | ((with_reducible apply wp_some (isi_pln ?q)); (case q => walk_at "p"))
    | with_reducible apply wp_some pow6
    | with_reducible apply wp_some eqT_tup
    | ((with_reducible apply wp_some (rev_str ?q)); (case q => walk_at "tl"))
    | ((with_reducible apply wp_some (add_rl ?q ?a ?b)); (case q => walk_at "hg"); (case a => walk_at "ll"); (case b => walk_at "ll"))
    | ((with_reducible apply wp_some (add_lr ?q ?a ?b)); (case q => walk_at "hg"); (case a => walk_at "ll"); (case b => walk_at "ll"))
    | ((with_reducible apply wp_some (add_rr ?q ?r ?a ?b)); (case q => walk_at "hg"); (case r => walk_at "hg"); (case a => walk_at "ll"); (case b => walk_at "ll"))
    | with_reducible apply wp_some lst_lst
    | ((with_reducible apply wp_some (lst_ref ?q)); (case q => walk_at "hg"))
    | ((with_reducible apply wp_some (len_ref ?q)); (case q => walk_at "hg"))
    | ((with_reducible apply wp_some (tup_ref ?q)); (case q => walk_at "hg"))
    | with_reducible apply wp_some pow39
    | with_reducible apply wp_some pow30
    | with_reducible apply wp_some pow40
    | with_reducible apply wp_some tru_non
    | with_reducible apply wp_some tru_int
    | with_reducible apply wp_some tru_tup
    | ((with_reducible apply wp_some (tru_str ?q)); (case q => walk_at "tl"))
    | ((with_reducible apply wp_some (mulS_str ?a ?b ?d)); (case a => walk_at "tl"); (case b => walk_at "tl"); (case d => walk_at "tl"))
    | ((with_reducible apply wp_some (mulS_tupA ?a ?b ?c ?d)); (case a => walk_at "tl"); (case b => walk_at "tl"); (case c => first | rfl | assumption); (case d => walk_at "tl")))
  | ((with_reducible show Wp (R.ofP _) _ _); first
    | ((with_reducible apply wp_someP (app_ref2 ?e ?q)); (case e => walk_at "hg"); (case q => walk_at "ll"))
    | ((with_reducible apply wp_someP (upper_str ?q)); (case q => walk_at "tl")))
  | ((with_reducible show Ws _ _); first
    | with_reducible refine ws_seq ?_
    | with_reducible refine ws_set ?_
    | with_reducible refine ws_setC ?_
    | with_reducible refine ws_setCM ?_
    | with_reducible refine ws_if ?_
    | with_reducible refine ws_ret ?_
    | with_reducible refine ws_retN ?_
    | with_reducible refine ws_drop ?_
    | with_reducible refine ws_skip ?_
    | with_reducible refine ws_asg ?_
    | with_reducible refine ws_par ?_
    | with_reducible refine ws_sub ?_)
  | ((with_reducible refine' And.intro (isL_ref ?e) ?_); (case e => walk_at "hg"))
  | ((with_reducible refine And.intro (And.intro ?a ?b) ?_); (case a => walk_at "ll"); (case b => walk_at "ll"))
  | with_reducible refine Exists.intro _ (And.intro rfl ?_)
  | with_reducible refine Exists.intro _ (Exists.intro _ (And.intro rfl ?_))
  | with_reducible refine And.intro rfl ?_
  | ((with_reducible show Wp _ _ _); first
    | ((with_reducible apply wp_name); (case q => rfl))
    | with_reducible refine wp_c ?_
    | with_reducible refine wp_bin ?_
    | with_reducible refine wp_acons ?_
    | with_reducible refine wp_anil ?_
    | with_reducible refine wp_call ?_
    | with_reducible refine wp_fn ?_
    | with_reducible refine wp_fnK ?_
    | with_reducible refine wp_ev ?_
    | with_reducible refine wp_em ?_
    | with_reducible refine wp_tup ?_
    | with_reducible refine wp_eb ?_
    | with_reducible refine wp_et ?_
    | with_reducible refine wp_un ?_
    | with_reducible refine wp_chain ?_
    | with_reducible refine wp_and ?_
    | with_reducible refine wp_or ?_
    | with_reducible refine wp_not ?_
    | with_reducible refine wp_andF ?_
    | with_reducible refine wp_orF ?_
    | with_reducible refine wp_notF ?_
    | with_reducible refine wp_yes ?_
    | with_reducible refine wp_if ?_
    | with_reducible refine wp_sl ?_
    | with_reducible refine wp_onone ?_
    | with_reducible refine wp_osome ?_
    | with_reducible refine wp_rev ?_
    | with_reducible refine wp_list ?_
    | with_reducible refine wp_mt ?_
    | with_reducible refine wp_any ?_
    | with_reducible refine wp_r1 ?_
    | with_reducible refine wp_r2 ?_
    | with_reducible refine wp_body ?_
    | with_reducible refine wp_d0t ?_
    | with_reducible refine wp_d0k ?_
    | with_reducible refine wp_d0 ?_
    | with_reducible refine wp_valsT ?_
    | with_reducible refine wp_d1 ?_
    | with_reducible refine wp_lAdd ?_
    | walk_at "P1"
    | walk_at "d1")
  | ((fail_if_success (with_reducible show Ws _ _)); (fail_if_success (with_reducible show Wp _ _ _)); show Ws _ _))
local macro_rules | `(tactic| walk_at "n") => `(tactic| repeat (walk_at "n1"))
local macro_rules | `(tactic| walk_at "nb") => `(tactic| repeat' (first | walk_at "n1" | walk_at "b1"))
local macro_rules | `(tactic| walk_at "c") => `(tactic| first
  | assumption
  | (refine closeB (by assumption) ?_; first | rfl | (simp_all; done) | (simp_all <;> omega)))
local macro_rules | `(tactic| walk_at "nc") => `(tactic| (walk_at "nb" <;> try walk_at "c"))
local macro_rules | `(tactic| walk_at "n1") => `(tactic| first
  | with_reducible refine wp_iOf ?_
  | with_reducible apply wp_some neT_tup
  | with_reducible refine ex_ent ?_
  | with_reducible refine ex_enl ?_
  | with_reducible refine ex_zpt ?_
  | with_reducible refine ex_zpl ?_)
local macro_rules | `(tactic| walk_at "q") => `(tactic| exact Int.natCast_pos.mpr (Nat.succ_pos _))
local macro_rules | `(tactic| walk_at "hg") => `(tactic| with_reducible exact St.k2 (by assumption))
local macro_rules | `(tactic| walk_at "n1") => `(tactic| first
  | with_reducible refine wp_mk ?_
  | with_reducible refine wp_mth ?_
  | with_reducible refine wp_eown ?_
  | with_reducible refine ws_fld ?_
  | with_reducible refine wp_js1 ?_
  | with_reducible refine wp_js0 ?_)
local macro_rules | `(tactic| walk_at "n1") => `(tactic| first
  | with_reducible refine wp_lRep ?_
  | with_reducible apply wp_some sk_zones
  | with_reducible apply wp_some sk_stretch
  | with_reducible apply wp_some sk_grade)
local macro_rules | `(tactic| walk_at "n1") => `(tactic| first
  | with_reducible refine wp_orT ?_
  | with_reducible refine wp_andT ?_
  | with_reducible apply wp_some neL_lst
  | with_reducible apply wp_some int_bl
  | with_reducible apply wp_some ne_ss)
local macro_rules | `(tactic| walk_at "tl") => `(tactic| repeat' (first | assumption | omega | exact Nat.le_of_ble_eq_true rfl | (with_reducible refine len_half ?_ ?_) | (with_reducible refine lit_half ?_) | (with_reducible refine cut_half ?_) | (with_reducible refine T_half ?_) | (simp only [List.length_append, List.length_cons, List.length_nil]; omega)))

section
variable {L : Nat} {K : Hs → Prop} {h : Hs} {Q : D → Hs → Prop} {X : XQ} {d : D} {q : Nat}
/-- a size of q quarters -/
def siz (d : D) : D := .ins "Size" ["quarters"] [d]
def szF (d : D) : List (Str × D) := [("quarters", d)]
theorem sz_ins : insOf h (siz d) = some (Str.ofString "Size", szF d) := rfl
theorem sz_sz : ([Str.ofString "Size"].contains (Str.ofString "Size")) = true := by decide +kernel
theorem sz_q : gFld ["Size"] "quarters" h (siz d) = some d := (fld_at sz_ins sz_sz).trans lk_here
theorem mk_size {R : Hs → Prop} (q : R (h ++ [.ins "Size" (szF d)])) : Wp (c_Size_init [.ref h.length, d] (h ++ [.ins "Size" []])) (fun d h' => d = .non ∧ R h') X := by
  unfold c_Size_init f_Size_init
  refine wp_bodyE [some (.ref h.length), some d] rfl ?_
  walk_at "n"
  refine ⟨_, _, _, rfl, get_new, sz_sz, by decide, ?_⟩
  rw [set_app]
  exact ⟨rfl, q⟩
theorem sz_new (v : val d = true) : dW (dH (h ++ [.ins "Size" (szF d)]) h.length 50) (.ref h.length) = some (siz d) :=
  dH_new (show (val d && true) = true by rw [v]; rfl)
/-- its text -/
def wS (r : Nat) : Str := if r = 0 then Str.ofString "" else if r = 1 then Str.ofString ".25" else if r = 2 then Str.ofString ".5" else Str.ofString ".75"
def txS (q : Nat) : Str := Str.ofString (toString (((q / 4 : Nat) : Int))) ++ wS (q % 4)
theorem emp_app {z : Str} : Str.empty ++ z = z := by
  obtain ⟨⟨l⟩⟩ := z
  show Str.mk (#[] ++ _) = _
  simp
theorem wS_len (r : Nat) : (wS r).length ≤ 3 := by
  unfold wS
  split
  · decide +kernel
  · split
    · decide +kernel
    · split <;> decide +kernel
theorem ix4 {i : Nat} (hi : i < 4) : gIx h k_QUARTER_WORDS (.int (i : Nat)) = some (.str (wS i)) := by
  have : i = 0 ∨ i = 1 ∨ i = 2 ∨ i = 3 := by omega
  rcases this with rfl | rfl | rfl | rfl <;> rfl
theorem size_str (hq : q < 1000) : c_Size_str [siz (.int (q : Nat))] h = .ok (.str (txS q)) h := by
  refine eq_any fun Q X c => ?_
  unfold c_Size_str f_Size_str
  refine wp_bodyE [some (siz (.int (q : Nat))), none] rfl ?_
  walk_at "n"
  refine wp_some sz_q ?_
  walk_at "n"
  have e1 : ((q : Nat) : Int) % 4 = ((q % 4 : Nat) : Int) := by omega
  rw [e1]
  refine wp_some (ix4 (Nat.mod_lt _ (by decide))) ?_
  walk_at "n"
  refine wp_some sz_q ?_
  walk_at "n"
  have e2 : ((q : Nat) : Int) / 4 = ((q / 4 : Nat) : Int) := by omega
  rw [e2]
  have hb : (((q / 4 : Nat) : Int)).natAbs < 10 ^ 60 := by
    have : (((q / 4 : Nat) : Int)).natAbs < 1000 := by omega
    exact Nat.lt_trans this (by decide)
  refine wp_some (fmt_int hb) ?_
  have l1 := (tx_int hb).len
  have l2 := wS_len (q % 4)
  refine ⟨_, rfl, ?_, ?_⟩
  · rw [emp_app, sizeLine_eq]; omega
  rw [emp_app]
  refine wp_js1 ?_
  walk_at "n"
  refine wp_some (fmt_str (by omega)) ?_
  refine ⟨_, rfl, ?_, ?_⟩
  · rw [str_len, sizeLine_eq]; omega
  exact wp_js0 c
theorem txS_len (hq : q < 1000) : (txS q).length ≤ 64 := by
  have hb : (((q / 4 : Nat) : Int)).natAbs < 10 ^ 60 := by
    have : (((q / 4 : Nat) : Int)).natAbs < 1000 := by omega
    exact Nat.lt_trans this (by decide)
  have l1 := (tx_int hb).len
  have l2 := wS_len (q % 4)
  unfold txS
  rw [str_len]; omega
theorem own_str (hq : q < 1000) : gOwn "Size" c_Size_str isStrD h [siz (.int (q : Nat))] = some (.str (txS q), h) := own_of sz_ins (size_str hq) rfl
theorem size_eq {a b : Int} : c_Size_eq [siz (.int a), siz (.int b)] h = .ok (.bl (a == b)) h := by
  refine eq_any fun Q X c => ?_
  unfold c_Size_eq f_Size_eq
  refine wp_bodyE [some (siz (.int a)), some (siz (.int b))] rfl ?_
  walk_at "n"
  refine wp_isO ?_
  walk_at "n"
  refine ⟨_, _, true, sz_ins, rfl, ?_⟩
  refine ⟨_, rfl, fun _ => ?_, fun z => nomatch z⟩
  walk_at "n"
  refine wp_some sz_q ?_
  walk_at "n"
  refine wp_some sz_q ?_
  walk_at "n"
  exact c
theorem oeq {a b : Int} : gOeq "Size" c_Size_eq h (siz (.int a)) (siz (.int b)) = some (.bl (a == b)) := oeq_of sz_ins sz_ins size_eq
theorem one {a b : Int} : gOne "Size" c_Size_eq h (siz (.int a)) (siz (.int b)) = some (.bl (!(a == b))) := one_of sz_ins sz_ins size_eq
/-! ### which text is which size -/
theorem txS_nd : ((List.range 100).map txS).Nodup := by decide +kernel
theorem txS_inj {a b : Nat} (ha : a < 100) (hb : b < 100) (e : txS a = txS b) : a = b := by
  have ha' : a < ((List.range 100).map txS).length := by rw [List.length_map, List.length_range]; exact ha
  have hb' : b < ((List.range 100).map txS).length := by rw [List.length_map, List.length_range]; exact hb
  refine (List.getElem_inj (h₀ := ha') (h₁ := hb') txS_nd).mp ?_
  rw [List.getElem_map, List.getElem_map, List.getElem_range, List.getElem_range]
  exact e
def isQ (t : Str) (q : Nat) : Bool := decide ((Sum.inr (txS q) : Key) = Sum.inr t)
theorem isQ_beq (t : Str) (q : Nat) : (txS q == t) = isQ t q := by
  unfold isQ
  rw [Bool.eq_iff_iff, beq_iff_eq, decide_eq_true_iff]
  exact ⟨fun e => by rw [e], fun e => Sum.inr.inj e⟩
def look (t : Str) : Option Nat := (List.range 100).find? fun q => decide (1 ≤ q) && isQ t q
theorem look_some {t : Str} {q : Nat} (h1 : 1 ≤ q) (h2 : q < 100) (e : isQ t q = true) (n : ∀ p, 1 ≤ p → p < q → isQ t p = false) : look t = some q := by
  unfold look
  rw [List.find?_range_eq_some]
  refine ⟨by rw [decide_eq_true h1, e]; rfl, List.mem_range.mpr h2, fun j hj => ?_⟩
  by_cases z : 1 ≤ j
  · rw [n j z hj, Bool.and_false]; rfl
  · rw [decide_eq_false z]; rfl
theorem look_none {t : Str} (n : ∀ p, 1 ≤ p → p < 100 → isQ t p = false) : look t = none := by
  unfold look
  rw [List.find?_eq_none]
  intro j hj
  by_cases z : 1 ≤ j
  · rw [n j z (List.mem_range.mp hj), Bool.and_false]; exact Bool.false_ne_true
  · rw [decide_eq_false z]; exact Bool.false_ne_true
theorem look_at {t : Str} {q : Nat} (e : look t = some q) : 1 ≤ q ∧ q < 100 ∧ txS q = t := by
  unfold look at e
  have h1 := List.find?_some e
  have h2 := List.mem_of_find?_eq_some e
  rw [Bool.and_eq_true] at h1
  exact ⟨of_decide_eq_true h1.1, List.mem_range.mp h2, Sum.inr.inj (of_decide_eq_true h1.2)⟩
theorem look_tx {q : Nat} (h1 : 1 ≤ q) (h2 : q < 100) : look (txS q) = some q :=
  look_some h1 h2 (decide_eq_true rfl) fun p p1 p2 => decide_eq_false fun e => by
    have := txS_inj (by omega) h2 (Sum.inr.inj e)
    omega
/-- read_size of a text -/
theorem read_str {t : Str} (c : ∀ q, look t = some q → Q (siz (.int (q : Nat))) h) (n : look t = none → X "NoText" [] h) : Wp (c_read_size [.str t] h) Q X := by
  unfold c_read_size f_read_size
  refine wp_bodyE [some (.str t), none, none] rfl ?_
  walk_at "n"
  refine ⟨fun _ => ?_, fun z => absurd z (by decide)⟩
  refine ws_for ?_
  walk_at "n"
  refine ⟨99, fun i e h' => h' = h ∧ (∀ p, 1 ≤ p → p ≤ i → isQ t p = false) ∧ ∃ x1 x2, e = [some (.str t), x1, x2], by decide, ⟨rfl, (fun p a b => absurd a (by omega)), _, _, rfl⟩, ?_, ?_⟩
  · rintro i _ h1 hi ⟨rfl, hn, x1, x2, rfl⟩
    refine ⟨.int ((i + 1 : Nat) : Int), _, ?_, rfl, ?_⟩
    · refine (nxN_some hi).trans ?_
      congr 3
      omega
    walk_at "n"
    refine wp_egc ?_
    refine wp_mk ?_
    walk_at "n"
    refine mk_size (h := h1) (d := .int ((i + 1 : Nat) : Int)) ?_
    refine ⟨_, sz_new rfl, cls_app, ?_⟩
    rw [take_app]
    walk_at "n"
    refine wp_someP (own_str (by omega)) ?_
    walk_at "n"
    rw [isQ_beq]
    refine ⟨fun z => ?_, fun z => ?_⟩
    · walk_at "n"
      exact c _ (look_some (by omega) (by omega) z fun p a b => hn p a (by omega))
    · walk_at "n"
      refine ⟨fun p a b => ?_, _, _, rfl⟩
      by_cases e : p = i + 1
      · rw [e]; exact z
      · exact hn p a (by omega)
  · rintro _ _ ⟨rfl, hn, x1, x2, rfl⟩
    refine ⟨nxN_stop, ?_⟩
    refine ws_raise ?_
    exact n (look_none fun p a b => hn p a (by omega))
/-- .. of another thing -/
theorem read_odd (hd : Pln d) (hs : tyIs d .str = false) (n : X "NoText" [] h) : Wp (c_read_size [d] h) Q X := by
  unfold c_read_size f_read_size
  refine wp_bodyE [some d, none, none] rfl ?_
  walk_at "n"
  rw [hs]
  refine ⟨nof, fun _ => ?_⟩
  walk_at "n"
  exact ws_raise n
end
end K03

namespace K03
open PySem PySem.Spec L2 G
local macro_rules | `(tactic| walk_at "s1") => `(tactic| first
  | ((with_reducible apply wp_name); (case q => rfl))
  | with_reducible refine wp_c ?_
  | with_reducible refine wp_bin ?_
  | with_reducible refine wp_acons ?_
  | with_reducible refine wp_anil ?_
  | with_reducible refine wp_call ?_
  | with_reducible refine wp_fn ?_
  | with_reducible refine wp_fnK ?_
  | with_reducible refine wp_ev ?_
  | with_reducible refine wp_em ?_
  | with_reducible refine wp_tup ?_
  | with_reducible refine wp_eb ?_
  | with_reducible refine wp_et ?_
  | with_reducible refine wp_un ?_
  | with_reducible refine wp_chain ?_
  | with_reducible refine wp_and ?_
  | with_reducible refine wp_or ?_
  | with_reducible refine wp_not ?_
  | with_reducible refine wp_andF ?_
  | with_reducible refine wp_orF ?_
  | with_reducible refine wp_notF ?_
  | with_reducible refine wp_yes ?_
  | with_reducible refine wp_if ?_
  | with_reducible refine wp_sl ?_
  | with_reducible refine wp_onone ?_
  | with_reducible refine wp_osome ?_
  | with_reducible refine wp_rev ?_
  | with_reducible refine wp_list ?_
  | with_reducible refine wp_mt ?_
  | with_reducible refine wp_any ?_
  | with_reducible refine wp_r1 ?_
  | with_reducible refine wp_r2 ?_
  | with_reducible refine ws_seq ?_
  | with_reducible refine ws_set ?_
  | with_reducible refine ws_setC ?_
  | with_reducible refine ws_setCM ?_
  | with_reducible refine ws_if ?_
  | with_reducible refine ws_ret ?_
  | with_reducible refine ws_retN ?_
  | with_reducible refine ws_drop ?_
  | with_reducible refine ws_skip ?_
  | with_reducible refine ws_asg ?_
  | with_reducible refine ws_par ?_
  | with_reducible refine ws_sub ?_
  | with_reducible refine wp_body ?_)
local macro_rules | `(tactic| walk_at "s") => `(tactic| repeat (walk_at "s1"))
local macro_rules | `(tactic| walk_at "q") => `(tactic| first | assumption | decide | omega | rfl)
local macro_rules | `(tactic| walk_at "e1") => `(tactic| first
  | with_reducible refine wp_some add_i ?_
  | with_reducible refine wp_some sub_i ?_
  | with_reducible refine wp_some lt_i ?_
  | with_reducible refine wp_some le_i ?_
  | with_reducible refine wp_some gt_i ?_
  | with_reducible refine wp_some ge_i ?_
  | with_reducible refine wp_some eq_i ?_
  | with_reducible refine wp_some ne_i ?_
  | with_reducible refine wp_some eq_b ?_
  | with_reducible refine wp_some max_i ?_
  | with_reducible refine wp_some min_i ?_
  | with_reducible refine wp_some tup_tup ?_
  | with_reducible refine wp_some tup_lst ?_
  | with_reducible refine wp_some len_tup ?_
  | with_reducible refine wp_some len_lst ?_
  | with_reducible refine wp_some sl_tup ?_
  | with_reducible refine wp_some sl_lst ?_
  | with_reducible refine wp_some tru_b ?_
  | with_reducible refine wp_some repr_b ?_
  | with_reducible refine wp_eq_sb ?_
  | with_reducible refine wp_some seq_lst ?_
  | with_reducible refine wp_some seq_tup ?_
  | ((with_reducible apply wp_ix_tup); (case q => rfl))
  | ((with_reducible apply wp_ix_lst); (case q => rfl))
  | ((with_reducible apply wp_ix_ref); (case p => assumption); (case q => rfl))
  | with_reducible refine wp_some eq_s ?_
  | ((with_reducible refine wp_some (mod_int ?q) ?_); (case q => walk_at "q"))
  | ((with_reducible refine wp_some (div_int ?p ?q) ?_); (case p => walk_at "q"); (case q => walk_at "q"))
  | ((with_reducible refine wp_some (mul_int ?q) ?_); (case q => walk_at "q"))
  | ((with_reducible refine wp_some (add_tup ?q) ?_); (case q => first | omega | exact Nat.le_of_ble_eq_true rfl | (simp; done) | (simp; omega)))
  | ((with_reducible refine wp_some (add_lst ?q) ?_); (case q => first | omega | exact Nat.le_of_ble_eq_true rfl | (simp; done) | (simp; omega)))
  | with_reducible refine Exists.intro _ (And.intro rfl ?_)
  | with_reducible refine Exists.intro _ (Exists.intro _ (And.intro rfl ?_)))
local macro_rules | `(tactic| walk_at "g") => `(tactic| repeat (first | walk_at "s1" | walk_at "e1"))
local macro_rules | `(tactic| walk_at "h1") => `(tactic| first
  | with_reducible refine wp_some ne_b ?_
  | with_reducible refine wp_ne_sb ?_
  | with_reducible refine wp_d0t ?_
  | with_reducible refine wp_d0k ?_
  | with_reducible refine wp_d0 ?_
  | with_reducible refine wp_valsT ?_
  | with_reducible refine wp_some ne_s ?_
  | with_reducible refine wp_some reprA_b ?_
  | with_reducible refine wp_d1 ?_
  | with_reducible refine wp_some isi_non ?_
  | with_reducible refine wp_some isi_bl ?_
  | with_reducible refine wp_some isi_int ?_
  | with_reducible refine wp_some isi_str ?_
  | with_reducible refine wp_some isi_tup ?_
  | with_reducible refine wp_some isi_lst ?_
  | with_reducible refine wp_some isi_dct ?_)
local macro_rules | `(tactic| walk_at "k") => `(tactic| repeat (first | walk_at "s1" | walk_at "e1" | walk_at "h1"))
local macro_rules | `(tactic| walk_at "p") => `(tactic| first | assumption | (constructor; done) | exact pln_of (by assumption) | exact Sm.pln (by assumption))
local macro_rules | `(tactic| walk_at "b1") => `(tactic| first
  | exact nof
  | exact tnof
  | (refine And.intro ?_ tnof; intro _)
  | (refine And.intro nof ?_; intro _)
  | (refine And.intro ?_ ?_ <;> intro _))
local macro_rules | `(tactic| walk_at "P1") => `(tactic| first
  | ((with_reducible show Wp (c_is_whole _ _) _ _); refine wp_of (whole_eq ?p) ?_; (case p => walk_at "p"))
  | ((with_reducible show Wp (c_is_between _ _) _ _); refine wp_of (between_eq ?p) ?_; (case p => walk_at "p")))
local macro_rules | `(tactic| walk_at "b") => `(tactic| repeat' (first | walk_at "s1" | walk_at "e1" | walk_at "h1" | walk_at "P1" | walk_at "b1"))
local macro_rules | `(tactic| walk_at "z") => `(tactic| first
  | exact (show _ ∧ _ from ⟨rfl, rfl⟩)
  | (refine (show _ ∧ _ from ⟨?_, rfl⟩); first | (simp_all; done) | (simp_all <;> omega)))
local macro_rules | `(tactic| walk_at "bz") => `(tactic| (walk_at "b" <;> try walk_at "z"))
local macro_rules | `(tactic| walk_at "P1") => `(tactic| first
  | ((with_reducible show Wp (c_is_size _ _) _ _); refine wp_of (size_eq ?p) ?_; (case p => walk_at "p"))
  | ((with_reducible show Wp (c_is_moment _ _) _ _); refine wp_of (moment_eq ?p) ?_; (case p => walk_at "p"))
  | ((with_reducible show Wp (c_is_side _ _) _ _); refine wp_of (side_eq ?p) ?_; (case p => walk_at "p"))
  | ((with_reducible show Wp (c_is_grade _ _) _ _); refine wp_of (grade_eq ?p) ?_; (case p => walk_at "p"))
  | ((with_reducible show Wp (c_is_name _ _) _ _); refine wp_of (name_eq ?p ?q) ?_; (case p => walk_at "p"); (case q => first | assumption | omega))
  | ((with_reducible show Wp (c_is_ident _ _) _ _); refine wp_of (ident_eq ?p) ?_; (case p => assumption))
  | ((with_reducible show Wp (c_is_glove _ _) _ _); refine wp_of (glove_eq ?p ?q) ?_; (case p => assumption); (case q => first | assumption | omega)))
local macro_rules | `(tactic| walk_at "d1") => `(tactic| first
  | ((with_reducible show Wp (c_draw _ _) _ _); refine' dr ?s ?k ?a ?b ?_; (case s => assumption); (case k => assumption); (case a => first | decide | omega); (case b => first | decide | omega); intro _ _ _ _ _))
local macro_rules | `(tactic| walk_at "d") => `(tactic| repeat (first | walk_at "s1" | walk_at "e1" | walk_at "h1" | walk_at "P1" | walk_at "d1"))
local macro_rules | `(tactic| walk_at "db") => `(tactic| repeat' (first | walk_at "s1" | walk_at "e1" | walk_at "h1" | walk_at "P1" | walk_at "d1" | walk_at "b1"))
local macro_rules | `(tactic| walk_at "tl") => `(tactic| repeat' (first | assumption | omega | decide | (with_reducible refine len_half ?_ ?_) | (with_reducible refine lit_half ?_) | (with_reducible refine cut_half ?_) | (with_reducible refine T_half ?_)))
local macro_rules | `(tactic| walk_at "t1") => `(tactic| first
  | ((with_reducible refine wp_some (add_str ?q ?r) ?_); (case q => walk_at "tl"); (case r => walk_at "tl"))
  | ((with_reducible refine wp_some (sl_str ?q) ?_); (case q => walk_at "tl"))
  | ((with_reducible refine wp_some (len_str ?q) ?_); (case q => walk_at "tl"))
  | ((with_reducible refine wp_someP (upper_str ?q) ?_); (case q => walk_at "tl"))
  | ((with_reducible refine wp_some (str_int ?q) ?_); (case q => first | assumption | omega))
  | with_reducible refine wp_some rev_tup ?_
  | with_reducible refine wp_some rev_lst ?_
  | with_reducible refine wp_some is_bl ?_
  | with_reducible refine wp_some isN_bl ?_
  | with_reducible refine wp_some neg_i ?_
  | with_reducible refine wp_lAdd ?_
  | with_reducible refine And.intro rfl ?_)
local macro_rules | `(tactic| walk_at "d") => `(tactic| repeat (first | walk_at "s1" | walk_at "e1" | walk_at "h1" | walk_at "t1" | walk_at "P1" | walk_at "d1"))
local macro_rules | `(tactic| walk_at "db") => `(tactic| repeat' (first | walk_at "s1" | walk_at "e1" | walk_at "h1" | walk_at "t1" | walk_at "P1" | walk_at "d1" | walk_at "b1"))
local macro_rules | `(tactic| walk_at "dz") => `(tactic| (walk_at "db" <;> try walk_at "z"))
local macro_rules | `(tactic| walk_at "hg") => `(tactic| first | assumption | exact get_new | (refine get_app ?_; walk_at "hg") | (refine' get_set_eq ?e; (case e => walk_at "hg")) | (refine (get_set_ne ?_).trans ?_; (first | omega | (simp only [List.length_append, List.length_set, List.length_cons, List.length_nil]; omega)); walk_at "hg"))
local macro_rules | `(tactic| walk_at "st") => `(tactic| repeat' (first | assumption | (with_reducible refine St.wapp ?_ ?_) | (with_reducible refine St.wset ?_ ?_ ?_ ?_) | (simp only [List.length_append, List.length_set, List.length_cons, List.length_nil]; omega) | omega))
local macro_rules | `(tactic| walk_at "ll") => `(tactic| repeat' (first | assumption | omega | exact Nat.le_of_ble_eq_true rfl | (with_reducible refine app_half ?_ ?_) | (with_reducible refine cutL_half ?_) | (with_reducible refine rev_half ?_) | (with_reducible refine map_half ?_) | (with_reducible refine cons_half ?_ ?_)))
local macro_rules | `(tactic| walk_at "n1") => `(tactic| first
  | ((with_reducible show Wp (R.ofO _ _) _ _); first
    | with_reducible apply wp_some eq_same
    | with_reducible apply wp_some ne_same
    | with_reducible apply wp_some add_i
    | with_reducible apply wp_some sub_i
    | with_reducible apply wp_some lt_i
    | with_reducible apply wp_some le_i
    | with_reducible apply wp_some gt_i
    | with_reducible apply wp_some ge_i
    | with_reducible apply wp_some eq_i
    | with_reducible apply wp_some ne_i
    | with_reducible apply wp_some eq_b
    | with_reducible apply wp_some max_i
    | with_reducible apply wp_some min_i
    | with_reducible apply wp_some tup_tup
    | with_reducible apply wp_some tup_lst
    | with_reducible apply wp_some len_tup
    | with_reducible apply wp_some len_lst
    | with_reducible apply wp_some sl_tup
    | with_reducible apply wp_some sl_lst
    | with_reducible apply wp_some tru_b
    | with_reducible apply wp_some repr_b
    | with_reducible refine wp_eq_sb ?_
    | with_reducible apply wp_some seq_lst
    | with_reducible apply wp_some seq_tup
    | ((with_reducible apply wp_ix_tup); (case q => rfl))
    | ((with_reducible apply wp_ix_lst); (case q => rfl))
    | ((with_reducible apply wp_ix_ref); (case p => assumption); (case q => rfl))
    | with_reducible apply wp_some eq_s
    | ((with_reducible apply wp_some (mod_int ?q)); (case q => walk_at "q"))
    | ((with_reducible apply wp_some (div_int ?p ?q)); (case p => walk_at "q"); (case q => walk_at "q"))
    | ((with_reducible apply wp_some (mul_int ?q)); (case q => walk_at "q"))
    | ((with_reducible apply wp_some (add_tup2 ?a ?b)); (case a => walk_at "ll"); (case b => walk_at "ll"))
    | ((with_reducible apply wp_some (add_lst2 ?a ?b)); (case a => walk_at "ll"); (case b => walk_at "ll"))
    | with_reducible apply wp_some ne_b
    | with_reducible refine wp_ne_sb ?_
    | with_reducible apply wp_some ne_s
    | with_reducible apply wp_some reprA_b
    | with_reducible apply wp_some isi_non
    | with_reducible apply wp_some isi_bl
    | with_reducible apply wp_some isi_int
    | with_reducible apply wp_some isi_str
    | with_reducible apply wp_some isi_tup
    | with_reducible apply wp_some isi_lst
    | with_reducible apply wp_some isi_dct
    | ((with_reducible apply wp_some (add_str ?q ?r)); (case q => walk_at "tl"); (case r => walk_at "tl"))
    | ((with_reducible apply wp_some (sl_str ?q)); (case q => walk_at "tl"))
    | ((with_reducible apply wp_some (len_str ?q)); (case q => walk_at "tl"))
    | ((with_reducible apply wp_some (str_int ?q)); (case q => first | assumption | omega))
    | with_reducible apply wp_some rev_tup
    | with_reducible apply wp_some rev_lst
    | with_reducible apply wp_some is_bl
    | with_reducible apply wp_some isN_bl
    | with_reducible apply wp_some neg_i
    | ((with_reducible apply wp_some (isi_pln ?q)); (case q => walk_at "p"))
    | with_reducible apply wp_some pow6
    | with_reducible apply wp_some eqT_tup
    | ((with_reducible apply wp_some (rev_str ?q)); (case q => walk_at "tl"))
    | ((with_reducible apply wp_some (add_rl ?q ?a ?b)); (case q => walk_at "hg"); (case a => walk_at "ll"); (case b => walk_at "ll"))
    | ((with_reducible apply wp_some (add_lr ?q ?a ?b)); (case q => walk_at "hg"); (case a => walk_at "ll"); (case b => walk_at "ll"))
    | ((with_reducible apply wp_some (add_rr ?q ?r ?a ?b)); (case q => walk_at "hg"); (case r => walk_at "hg"); (case a => walk_at "ll"); (case b => walk_at "ll"))
    | with_reducible apply wp_some lst_lst
    | ((with_reducible apply wp_some (lst_ref ?q)); (case q => walk_at "hg"))
    | ((with_reducible apply wp_some (len_ref ?q)); (case q => walk_at "hg"))
    | ((with_reducible apply wp_some (tup_ref ?q)); (case q => walk_at "hg"))
    | with_reducible apply wp_some pow39
    | with_reducible apply wp_some pow30
    | with_reducible apply wp_some pow40
    | with_reducible apply wp_some tru_non
    | with_reducible apply wp_some tru_int
    | with_reducible apply wp_some tru_tup
    | ((with_reducible apply wp_some (tru_str ?q)); (case q => walk_at "tl"))
    | ((with_reducible apply wp_some (mulS_str ?a ?b ?d)); (case a => walk_at "tl"); (case b => walk_at "tl"); (case d => walk_at "tl"))
    | ((with_reducible apply wp_some (mulS_tupA ?a ?b ?c ?d)); (case a => walk_at "tl"); (case b => walk_at "tl"); (case c => first | rfl | assumption); (case d => walk_at "tl")))
  | ((with_reducible show Wp (R.ofP _) _ _); first
    | ((with_reducible apply wp_someP (app_ref2 ?e ?q)); (case e => walk_at "hg"); (case q => walk_at "ll"))
    | ((with_reducible apply wp_someP (upper_str ?q)); (case q => walk_at "tl")))
  | ((with_reducible show Ws _ _); first
    | with_reducible refine ws_seq ?_
    | with_reducible refine ws_set ?_
    | with_reducible refine ws_setC ?_
    | with_reducible refine ws_setCM ?_
    | with_reducible refine ws_if ?_
    | with_reducible refine ws_ret ?_
    | with_reducible refine ws_retN ?_
    | with_reducible refine ws_drop ?_
    | with_reducible refine ws_skip ?_
    | with_reducible refine ws_asg ?_
    | with_reducible refine ws_par ?_
    | with_reducible refine ws_sub ?_)
  | ((with_reducible refine' And.intro (isL_ref ?e) ?_); (case e => walk_at "hg"))
  | ((with_reducible refine And.intro (And.intro ?a ?b) ?_); (case a => walk_at "ll"); (case b => walk_at "ll"))
  | with_reducible refine Exists.intro _ (And.intro rfl ?_)
  | with_reducible refine Exists.intro _ (Exists.intro _ (And.intro rfl ?_))
  | with_reducible refine And.intro rfl ?_
  | ((with_reducible show Wp _ _ _); first
    | ((with_reducible apply wp_name); (case q => rfl))
    | with_reducible refine wp_c ?_
    | with_reducible refine wp_bin ?_
    | with_reducible refine wp_acons ?_
    | with_reducible refine wp_anil ?_
    | with_reducible refine wp_call ?_
    | with_reducible refine wp_fn ?_
    | with_reducible refine wp_fnK ?_
    | with_reducible refine wp_ev ?_
    | with_reducible refine wp_em ?_
    | with_reducible refine wp_tup ?_
    | with_reducible refine wp_eb ?_
    | with_reducible refine wp_et ?_
    | with_reducible refine wp_un ?_
    | with_reducible refine wp_chain ?_
    | with_reducible refine wp_and ?_
    | with_reducible refine wp_or ?_
    | with_reducible refine wp_not ?_
    | with_reducible refine wp_andF ?_
    | with_reducible refine wp_orF ?_
    | with_reducible refine wp_notF ?_
    | with_reducible refine wp_yes ?_
    | with_reducible refine wp_if ?_
    | with_reducible refine wp_sl ?_
    | with_reducible refine wp_onone ?_
    | with_reducible refine wp_osome ?_
    | with_reducible refine wp_rev ?_
    | with_reducible refine wp_list ?_
    | with_reducible refine wp_mt ?_
    | with_reducible refine wp_any ?_
    | with_reducible refine wp_r1 ?_
    | with_reducible refine wp_r2 ?_
    | with_reducible refine wp_body ?_
    | with_reducible refine wp_d0t ?_
    | with_reducible refine wp_d0k ?_
    | with_reducible refine wp_d0 ?_
    | with_reducible refine wp_valsT ?_
    | with_reducible refine wp_d1 ?_
    | with_reducible refine wp_lAdd ?_
    | walk_at "P1"
    | walk_at "d1")
  | ((fail_if_success (with_reducible show Ws _ _)); (fail_if_success (with_reducible show Wp _ _ _)); show Ws _ _))
local macro_rules | `(tactic| walk_at "n") => `(tactic| repeat (walk_at "n1"))
local macro_rules | `(tactic| walk_at "nb") => `(tactic| repeat' (first | walk_at "n1" | walk_at "b1"))
local macro_rules | `(tactic| walk_at "c") => `(tactic| first
  | assumption
  | (refine closeB (by assumption) ?_; first | rfl | (simp_all; done) | (simp_all <;> omega)))
local macro_rules | `(tactic| walk_at "nc") => `(tactic| (walk_at "nb" <;> try walk_at "c"))
local macro_rules | `(tactic| walk_at "n1") => `(tactic| first
  | with_reducible refine wp_iOf ?_
  | with_reducible apply wp_some neT_tup
  | with_reducible refine ex_ent ?_
  | with_reducible refine ex_enl ?_
  | with_reducible refine ex_zpt ?_
  | with_reducible refine ex_zpl ?_)
local macro_rules | `(tactic| walk_at "q") => `(tactic| exact Int.natCast_pos.mpr (Nat.succ_pos _))
local macro_rules | `(tactic| walk_at "hg") => `(tactic| with_reducible exact St.k2 (by assumption))
local macro_rules | `(tactic| walk_at "n1") => `(tactic| first
  | with_reducible refine wp_mk ?_
  | with_reducible refine wp_mth ?_
  | with_reducible refine wp_eown ?_
  | with_reducible refine ws_fld ?_
  | with_reducible refine wp_js1 ?_
  | with_reducible refine wp_js0 ?_)
local macro_rules | `(tactic| walk_at "n1") => `(tactic| first
  | with_reducible refine wp_lRep ?_
  | with_reducible apply wp_some sk_zones
  | with_reducible apply wp_some sk_stretch
  | with_reducible apply wp_some sk_grade)
local macro_rules | `(tactic| walk_at "n1") => `(tactic| first
  | with_reducible refine wp_orT ?_
  | with_reducible refine wp_andT ?_
  | with_reducible apply wp_some neL_lst
  | with_reducible apply wp_some int_bl
  | with_reducible apply wp_some ne_ss)
local macro_rules | `(tactic| walk_at "tl") => `(tactic| repeat' (first | assumption | omega | exact Nat.le_of_ble_eq_true rfl | (with_reducible refine len_half ?_ ?_) | (with_reducible refine lit_half ?_) | (with_reducible refine cut_half ?_) | (with_reducible refine T_half ?_) | (simp only [List.length_append, List.length_cons, List.length_nil]; omega)))

section
variable {L : Nat} {K : Hs → Prop} {h : Hs} {Q : D → Hs → Prop} {X : XQ} {d : D} {q : Nat} {t : Str}
/-! ### the dict -/
def ent (q : Nat) : Key × D := (Sum.inr (txS q), .int (q : Nat))
def ents (n : Nat) : List (Key × D) := ((List.range n).filter fun q => decide (1 ≤ q)).map ent
def texD : D := .dct ((ents 100).map (·.1)) ((ents 100).map (·.2))
theorem ents_1 : ents 1 = ents 0 := rfl
theorem ents_s {n : Nat} (h : 1 ≤ n) : ents (n + 1) = ents n ++ [ent n] := by
  unfold ents
  rw [List.range_succ, List.filter_append, List.map_append]
  congr 1
  rw [List.filter_cons_of_pos (p := fun q => decide (1 ≤ q)) (decide_eq_true h)]; rfl
theorem mem_ents {n : Nat} {p : Key × D} (h : p ∈ ents n) : ∃ q, 1 ≤ q ∧ q < n ∧ p = ent q := by
  unfold ents at h
  obtain ⟨q, h1, rfl⟩ := List.mem_map.mp h
  obtain ⟨h2, h3⟩ := List.mem_filter.mp h1
  exact ⟨q, of_decide_eq_true h3, List.mem_range.mp h2, rfl⟩
theorem ents_len (n : Nat) : (ents n).length ≤ n := by
  unfold ents
  rw [List.length_map]
  exact Nat.le_trans (List.length_filter_le _ _) (by rw [List.length_range]; exact Nat.le_refl _)
theorem put_ents {n : Nat} (h1 : 1 ≤ n) (h2 : n < 100) : putG (ents n) (Sum.inr (txS n)) (.int (n : Nat)) = ents (n + 1) := by
  unfold putG
  rw [if_neg, ents_s h1]; · rfl
  rw [List.any_eq_true]
  rintro ⟨p, hp, e⟩
  obtain ⟨q, q1, q2, rfl⟩ := mem_ents hp
  have := txS_inj (by omega) h2 (Sum.inr.inj (of_decide_eq_true e))
  omega
theorem val_ents : valG (ents 100) (Sum.inr t) = (look t).map fun q => D.int (q : Nat) := by
  unfold valG ents look
  rw [List.find?_map, List.find?_filter, Option.map_map]
  have e : (fun a => decide (decide (1 ≤ a) = true ∧ ((fun kv : Key × D => decide (kv.1 = Sum.inr t)) ∘ ent) a = true)) = fun q => decide (1 ≤ q) && isQ t q := funext fun a => by
    rw [Bool.eq_iff_iff]
    simp [isQ, ent]
  rw [e]
  rfl
theorem tex_at : atD h texD (.str t) = some ((look t).map fun q => D.int (q : Nat)) := by
  unfold atD texD
  show some (valG (((ents 100).map (·.1)).zip ((ents 100).map (·.2))) (Sum.inr t)) = _
  rw [zip_map, val_ents]
theorem vals_ents : vals ((ents 100).map (·.2)) = true := by
  have : ∀ l : List (Key × D), (∀ p ∈ l, val p.2 = true) → vals (l.map (·.2)) = true := by
    intro l
    induction l with
    | nil => intro _; rfl
    | cons p l ih =>
      intro hl
      show (val p.2 && vals (l.map (·.2))) = true
      rw [hl p List.mem_cons_self, ih fun p hp => hl p (List.mem_cons_of_mem _ hp)]; rfl
  exact this _ fun p hp => by obtain ⟨q, _, _, rfl⟩ := mem_ents hp; rfl
theorem set_dk {N : Nat} {kvs : List (Key × D)} {z : Str} {v : D} (e : h[N]? = some (.dk kvs)) (l : kvs.length ≤ 100000) : mSetA h (.ref N) (.str z) v = some (h.set N (.dk (putG kvs (Sum.inr z) v))) := by
  unfold mSetA
  dsimp only
  rw [e]
  dsimp only [keyD]
  rw [if_pos (lt_line l)]
theorem ix4w {i : Nat} (hi : i < 4) : gIx h (.lst [.str (Str.ofString ""), .str (Str.ofString ".25"), .str (Str.ofString ".5"), .str (Str.ofString ".75")]) (.int (i : Nat)) = some (.str (wS i)) := by
  have : i = 0 ∨ i = 1 ∨ i = 2 ∨ i = 3 := by omega
  rcases this with rfl | rfl | rfl | rfl <;> rfl
theorem texts_wp (c : Q texD h) : Wp (c_texts [] h) Q X := by
  unfold c_texts f_texts
  refine wp_gcF ?_
  refine wp_bodyE [none, none, none] rfl ?_
  walk_at "n"
  refine ws_for ?_
  walk_at "n"
  refine ⟨25, fun i e h' => h' = h ++ [.dk (ents (4 * i))] ∧ ∃ x1 x2, e = [some (.ref h.length), x1, x2], by decide, ⟨rfl, _, _, rfl⟩, ?_, ?_⟩
  · rintro i _ _ hi ⟨rfl, x1, x2, rfl⟩
    refine ⟨.int (i : Nat), _, (nxN_some hi).trans (by congr 3; omega), rfl, ?_⟩
    refine ws_for ?_
    walk_at "n"
    refine ⟨4, fun j e h' => h' = h ++ [.dk (ents (4 * i + j))] ∧ ∃ x2, e = [some (.ref h.length), some (.int (i : Nat)), x2], by decide, ⟨rfl, _, rfl⟩, ?_, ?_⟩
    · rintro j _ _ hj ⟨rfl, x2, rfl⟩
      refine ⟨.int (j : Nat), _, (nxN_some hj).trans (by congr 3; omega), rfl, ?_⟩
      walk_at "n"
      refine ⟨fun z => ?_, fun z => ?_⟩
      · have z := of_decide_eq_true z
        have hb : ((i : Nat) : Int).natAbs < 10 ^ 60 := Nat.lt_trans (show ((i : Nat) : Int).natAbs < 1000 by omega) (by decide)
        have l1 := (tx_int hb).len
        have l2 := wS_len j
        walk_at "n"
        refine wp_some (ix4w hj) ?_
        walk_at "n"
        have hn : 4 * i + j < 100 := by omega
        have h1 : 1 ≤ 4 * i + j := by omega
        have e1 : Str.ofString (toString ((i : Nat) : Int)) ++ wS j = txS (4 * i + j) := by
          unfold txS
          rw [show (4 * i + j) / 4 = i by omega, show (4 * i + j) % 4 = j by omega]
        have e2 : (4 : Int) * (i : Nat) + (j : Nat) = ((4 * i + j : Nat) : Int) := by omega
        rw [e1, e2]
        refine ⟨_, set_dk get_new (Nat.le_trans (ents_len _) (by omega)), ?_⟩
        rw [set_app, put_ents h1 hn]
        exact ⟨rfl, _, rfl⟩
      · have z := of_decide_eq_false z
        have e0 : i = 0 ∧ j = 0 := by omega
        obtain ⟨rfl, rfl⟩ := e0
        walk_at "n"
        exact ⟨_, rfl⟩
    · rintro _ _ ⟨rfl, x2, rfl⟩
      refine ⟨nxN_stop, ?_⟩
      exact ⟨by rw [show 4 * (i + 1) = 4 * i + 4 by omega], _, _, rfl⟩
  · rintro _ _ ⟨rfl, x1, x2, rfl⟩
    refine ⟨nxN_stop, ?_⟩
    walk_at "n"
    refine ⟨texD, dH_dk get_new (Nat.le_refl _) vals_ents, cls_app, ?_⟩
    rw [take_app]
    exact c
/-! ### what is told -/
theorem tr_ex {P : Po} {i : Nat} {T : List (Str × Bool)} {g : FS} {c : Str} {fs : List (Str × D)} {e : Ev} (z : T.lookup c = some true)
    (w : Ws (g (e.set i (some (.exn c (fs.map (·.1)) (fs.map (·.2))))) h) { nx := fun e h => P.nx (e.set i none) h, rt := P.rt, bk := fun e h => P.bk (e.set i none) h, ct := fun e h => P.ct (e.set i none) h }) : (P.tr i T g).ex c fs e h := by
  show (match T.lookup c with
    | some true => Ws (g (e.set i (some (.exn c (fs.map (·.1)) (fs.map (·.2))))) h) { nx := fun e h => P.nx (e.set i none) h, rt := P.rt, bk := fun e h => P.bk (e.set i none) h, ct := fun e h => P.ct (e.set i none) h }
    | some false => P.ex c fs e h
    | none => False)
  rw [z]
  exact w
abbrev five : D := .lst [.bl true, .bl true, .bl true, .bl true, .bl true]
theorem dW_pair {a : D} {n m k : Nat} {hs : Hs} {ds : List D} (va : val a = true) (g : hs[m]? = some (.lst ds)) (l : n ≤ m) (v : vals ds = true) : dW (dH hs n (k + 1)) (.tup [a, .ref m]) = some (.tup [a, .lst ds]) := by
  show (match dW (dH hs n (k + 1)) a with
    | some p => match dWs (dH hs n (k + 1)) [.ref m] with | some ps => some (p :: ps) | none => none
    | none => none).map D.tup = _
  rw [dW_val va]
  show (match (match dH hs n (k + 1) m with
    | some p => (match some ([] : List D) with | some ps => some (p :: ps) | none => none)
    | none => none) with | some ps => some (a :: ps) | none => none).map D.tup = _
  rw [dH_lst g l v]
  rfl
theorem told_no (r : ∀ (Q : D → Hs → Prop) (X : XQ) (h : Hs), X "NoText" [] h → Wp (c_read_size [d] h) Q X) (c : Q (.tup [.non, five]) h) : Wp (c_told [d] h) Q X := by
  unfold c_told f_told
  refine wp_gcF ?_
  refine wp_bodyE [some d, none, none, none] rfl ?_
  walk_at "n"
  refine ws_try ?_
  walk_at "n"
  refine r _ _ _ ?_
  refine tr_ex rfl ?_
  walk_at "n"
  refine wp_isE ?_
  walk_at "n"
  refine ⟨_, _, _, true, rfl, rfl, ?_⟩
  walk_at "n"
  refine wp_isE ?_
  walk_at "n"
  refine ⟨_, _, _, true, rfl, rfl, ?_⟩
  walk_at "n"
  refine wp_isE ?_
  walk_at "n"
  refine ⟨_, _, _, false, rfl, rfl, ?_⟩
  refine ⟨_, rfl, ?_⟩
  walk_at "n"
  refine wp_isE ?_
  walk_at "n"
  refine ⟨_, _, _, false, rfl, rfl, ?_⟩
  refine ⟨_, rfl, ?_⟩
  walk_at "n"
  rw [set_app]
  refine wp_isE ?_
  walk_at "n"
  refine ⟨_, _, _, false, rfl, rfl, ?_⟩
  refine ⟨_, rfl, ?_⟩
  walk_at "n"
  rw [set_app]
  refine ⟨.tup [.non, five], dW_pair rfl get_new (by rw [List.length_append]; exact Nat.le_add_right _ _) rfl, ?_, ?_⟩
  · rw [List.append_assoc]; exact cls_app
  · rw [List.append_assoc, take_app]; exact c
theorem told_yes (hq : look t = some q) (c : Q (.tup [siz (.int (q : Nat)), .lst []]) h) : Wp (c_told [.str t] h) Q X := by
  unfold c_told f_told
  refine wp_gcF ?_
  refine wp_bodyE [some (.str t), none, none, none] rfl ?_
  walk_at "n"
  refine ws_try ?_
  walk_at "n"
  refine read_str (fun q' e => ?_) fun e => ?_
  · rw [hq] at e
    cases e
    walk_at "n"
    refine ⟨_, dW_pair rfl get_new (Nat.le_refl _) rfl, cls_app, ?_⟩
    rw [take_app]
    exact c
  · rw [hq] at e; cases e
/-! ### right -/
/-- the things that are asked -/
def Th (d : D) : Prop := (∃ t, d = .str t ∧ t.length ≤ 50000) ∨ (Pln d ∧ tyIs d .str = false)
theorem right_no (r : ∀ (Q : D → Hs → Prop) (X : XQ) (h : Hs), X "NoText" [] h → Wp (c_read_size [d] h) Q X) {Q' : D → Hs → Prop} (c : Q' (.bl true) h)
    (hi : gIsi h [d, .ty .str] = some (.bl false) ∨ (∃ t, d = .str t ∧ look t = none)) : Wp (c_right [d, texD] h) Q' X := by
  unfold c_right f_right
  refine wp_bodyE [some d, some texD, none, none, none] rfl ?_
  rcases hi with hi | ⟨t, rfl, hq⟩
  · walk_at "n"
    refine wp_some hi ?_
    walk_at "n"
    refine ⟨nof, fun _ => ?_⟩
    walk_at "n"
    refine told_no r ?_
    walk_at "n"
    refine wp_some (show gIs h .non .non = some (.bl true) from rfl) ?_
    walk_at "n"
    refine ⟨fun _ => ?_, tnof⟩
    walk_at "n"
    refine ⟨_, 5, rfl, rfl, ⟨by decide, by decide, by decide⟩, ?_⟩
    walk_at "n"
    refine wp_some (eq_like (d := five) rfl (by decide)) ?_
    exact c
  · walk_at "n"
    refine ⟨fun _ => ?_, fun z => absurd z (by decide)⟩
    walk_at "n"
    refine wp_get1 ?_
    walk_at "n"
    rw [zip_map, val_ents, hq]
    refine told_no r ?_
    walk_at "n"
    refine wp_some (show gIs h .non .non = some (.bl true) from rfl) ?_
    walk_at "n"
    refine ⟨fun _ => ?_, tnof⟩
    walk_at "n"
    refine ⟨_, 5, rfl, rfl, ⟨by decide, by decide, by decide⟩, ?_⟩
    walk_at "n"
    refine wp_some (eq_like (d := five) rfl (by decide)) ?_
    exact c
theorem right_wp (th : Th d) (c : Q (.bl true) h) : Wp (c_right [d, texD] h) Q X := by
  rcases th with ⟨t, rfl, lt⟩ | ⟨hp, hs⟩
  · cases hq : look t with
    | none => exact right_no (fun Q X h n => read_str (fun q e => by rw [hq] at e; cases e) fun _ => n) c (.inr ⟨t, rfl, hq⟩)
    | some q =>
      obtain ⟨q1, q2, e⟩ := look_at hq
      unfold c_right f_right
      refine wp_bodyE [some (.str t), some texD, none, none, none] rfl ?_
      walk_at "n"
      refine ⟨fun _ => ?_, fun z => absurd z (by decide)⟩
      walk_at "n"
      refine wp_get1 ?_
      walk_at "n"
      rw [zip_map, val_ents, hq]
      dsimp only [Option.map, Option.getD]
      refine told_yes hq ?_
      walk_at "n"
      refine wp_some (show gIs h (.int (q : Nat)) .non = some (.bl false) from rfl) ?_
      walk_at "n"
      refine ⟨nof, fun _ => ?_⟩
      walk_at "n"
      refine wp_some (ne_like (d := .lst []) rfl (by decide)) ?_
      walk_at "n"
      refine ⟨nof, fun _ => ?_⟩
      walk_at "n"
      refine wp_isO ?_
      walk_at "n"
      refine ⟨_, _, true, sz_ins, rfl, ?_⟩
      walk_at "n"
      refine ⟨nof, fun _ => ?_⟩
      walk_at "n"
      refine wp_some sz_q ?_
      walk_at "n"
      rw [beq_self_eq_true]
      refine ⟨nof, fun _ => ?_⟩
      walk_at "n"
      refine wp_egc ?_
      refine wp_mk ?_
      walk_at "n"
      refine mk_size (h := h) (d := .int (q : Nat)) ?_
      refine ⟨_, sz_new rfl, cls_app, ?_⟩
      rw [take_app]
      walk_at "n"
      refine wp_some oeq ?_
      rw [beq_self_eq_true]
      refine ⟨true, rfl, fun _ => ?_, fun z => nomatch z⟩
      walk_at "n"
      refine wp_someP (own_str (by omega)) ?_
      walk_at "n"
      rw [e]
      exact closeB c (beq_self_eq_true t).symm
  · exact right_no (fun Q X h n => read_odd hp hs n) c (.inl (by rw [isi_pln hp, hs]))
end
end K03

namespace K03
open PySem PySem.Spec L2 G
local macro_rules | `(tactic| walk_at "s1") => `(tactic| first
  | ((with_reducible apply wp_name); (case q => rfl))
  | with_reducible refine wp_c ?_
  | with_reducible refine wp_bin ?_
  | with_reducible refine wp_acons ?_
  | with_reducible refine wp_anil ?_
  | with_reducible refine wp_call ?_
  | with_reducible refine wp_fn ?_
  | with_reducible refine wp_fnK ?_
  | with_reducible refine wp_ev ?_
  | with_reducible refine wp_em ?_
  | with_reducible refine wp_tup ?_
  | with_reducible refine wp_eb ?_
  | with_reducible refine wp_et ?_
  | with_reducible refine wp_un ?_
  | with_reducible refine wp_chain ?_
  | with_reducible refine wp_and ?_
  | with_reducible refine wp_or ?_
  | with_reducible refine wp_not ?_
  | with_reducible refine wp_andF ?_
  | with_reducible refine wp_orF ?_
  | with_reducible refine wp_notF ?_
  | with_reducible refine wp_yes ?_
  | with_reducible refine wp_if ?_
  | with_reducible refine wp_sl ?_
  | with_reducible refine wp_onone ?_
  | with_reducible refine wp_osome ?_
  | with_reducible refine wp_rev ?_
  | with_reducible refine wp_list ?_
  | with_reducible refine wp_mt ?_
  | with_reducible refine wp_any ?_
  | with_reducible refine wp_r1 ?_
  | with_reducible refine wp_r2 ?_
  | with_reducible refine ws_seq ?_
  | with_reducible refine ws_set ?_
  | with_reducible refine ws_setC ?_
  | with_reducible refine ws_setCM ?_
  | with_reducible refine ws_if ?_
  | with_reducible refine ws_ret ?_
  | with_reducible refine ws_retN ?_
  | with_reducible refine ws_drop ?_
  | with_reducible refine ws_skip ?_
  | with_reducible refine ws_asg ?_
  | with_reducible refine ws_par ?_
  | with_reducible refine ws_sub ?_
  | with_reducible refine wp_body ?_)
local macro_rules | `(tactic| walk_at "s") => `(tactic| repeat (walk_at "s1"))
local macro_rules | `(tactic| walk_at "q") => `(tactic| first | assumption | decide | omega | rfl)
local macro_rules | `(tactic| walk_at "e1") => `(tactic| first
  | with_reducible refine wp_some add_i ?_
  | with_reducible refine wp_some sub_i ?_
  | with_reducible refine wp_some lt_i ?_
  | with_reducible refine wp_some le_i ?_
  | with_reducible refine wp_some gt_i ?_
  | with_reducible refine wp_some ge_i ?_
  | with_reducible refine wp_some eq_i ?_
  | with_reducible refine wp_some ne_i ?_
  | with_reducible refine wp_some eq_b ?_
  | with_reducible refine wp_some max_i ?_
  | with_reducible refine wp_some min_i ?_
  | with_reducible refine wp_some tup_tup ?_
  | with_reducible refine wp_some tup_lst ?_
  | with_reducible refine wp_some len_tup ?_
  | with_reducible refine wp_some len_lst ?_
  | with_reducible refine wp_some sl_tup ?_
  | with_reducible refine wp_some sl_lst ?_
  | with_reducible refine wp_some tru_b ?_
  | with_reducible refine wp_some repr_b ?_
  | with_reducible refine wp_eq_sb ?_
  | with_reducible refine wp_some seq_lst ?_
  | with_reducible refine wp_some seq_tup ?_
  | ((with_reducible apply wp_ix_tup); (case q => rfl))
  | ((with_reducible apply wp_ix_lst); (case q => rfl))
  | ((with_reducible apply wp_ix_ref); (case p => assumption); (case q => rfl))
  | with_reducible refine wp_some eq_s ?_
  | ((with_reducible refine wp_some (mod_int ?q) ?_); (case q => walk_at "q"))
  | ((with_reducible refine wp_some (div_int ?p ?q) ?_); (case p => walk_at "q"); (case q => walk_at "q"))
  | ((with_reducible refine wp_some (mul_int ?q) ?_); (case q => walk_at "q"))
  | ((with_reducible refine wp_some (add_tup ?q) ?_); (case q => first | omega | exact Nat.le_of_ble_eq_true rfl | (simp; done) | (simp; omega)))
  | ((with_reducible refine wp_some (add_lst ?q) ?_); (case q => first | omega | exact Nat.le_of_ble_eq_true rfl | (simp; done) | (simp; omega)))
  | with_reducible refine Exists.intro _ (And.intro rfl ?_)
  | with_reducible refine Exists.intro _ (Exists.intro _ (And.intro rfl ?_)))
local macro_rules | `(tactic| walk_at "g") => `(tactic| repeat (first | walk_at "s1" | walk_at "e1"))
local macro_rules | `(tactic| walk_at "h1") => `(tactic| first
  | with_reducible refine wp_some ne_b ?_
  | with_reducible refine wp_ne_sb ?_
  | with_reducible refine wp_d0t ?_
  | with_reducible refine wp_d0k ?_
  | with_reducible refine wp_d0 ?_
  | with_reducible refine wp_valsT ?_
  | with_reducible refine wp_some ne_s ?_
  | with_reducible refine wp_some reprA_b ?_
  | with_reducible refine wp_d1 ?_
  | with_reducible refine wp_some isi_non ?_
  | with_reducible refine wp_some isi_bl ?_
  | with_reducible refine wp_some isi_int ?_
  | with_reducible refine wp_some isi_str ?_
  | with_reducible refine wp_some isi_tup ?_
  | with_reducible refine wp_some isi_lst ?_
  | with_reducible refine wp_some isi_dct ?_)
local macro_rules | `(tactic| walk_at "k") => `(tactic| repeat (first | walk_at "s1" | walk_at "e1" | walk_at "h1"))
local macro_rules | `(tactic| walk_at "p") => `(tactic| first | assumption | (constructor; done) | exact pln_of (by assumption) | exact Sm.pln (by assumption))
local macro_rules | `(tactic| walk_at "b1") => `(tactic| first
  | exact nof
  | exact tnof
  | (refine And.intro ?_ tnof; intro _)
  | (refine And.intro nof ?_; intro _)
  | (refine And.intro ?_ ?_ <;> intro _))
local macro_rules | `(tactic| walk_at "P1") => `(tactic| first
  | ((with_reducible show Wp (c_is_whole _ _) _ _); refine wp_of (whole_eq ?p) ?_; (case p => walk_at "p"))
  | ((with_reducible show Wp (c_is_between _ _) _ _); refine wp_of (between_eq ?p) ?_; (case p => walk_at "p")))
local macro_rules | `(tactic| walk_at "b") => `(tactic| repeat' (first | walk_at "s1" | walk_at "e1" | walk_at "h1" | walk_at "P1" | walk_at "b1"))
local macro_rules | `(tactic| walk_at "z") => `(tactic| first
  | exact (show _ ∧ _ from ⟨rfl, rfl⟩)
  | (refine (show _ ∧ _ from ⟨?_, rfl⟩); first | (simp_all; done) | (simp_all <;> omega)))
local macro_rules | `(tactic| walk_at "bz") => `(tactic| (walk_at "b" <;> try walk_at "z"))
local macro_rules | `(tactic| walk_at "P1") => `(tactic| first
  | ((with_reducible show Wp (c_is_size _ _) _ _); refine wp_of (size_eq ?p) ?_; (case p => walk_at "p"))
  | ((with_reducible show Wp (c_is_moment _ _) _ _); refine wp_of (moment_eq ?p) ?_; (case p => walk_at "p"))
  | ((with_reducible show Wp (c_is_side _ _) _ _); refine wp_of (side_eq ?p) ?_; (case p => walk_at "p"))
  | ((with_reducible show Wp (c_is_grade _ _) _ _); refine wp_of (grade_eq ?p) ?_; (case p => walk_at "p"))
  | ((with_reducible show Wp (c_is_name _ _) _ _); refine wp_of (name_eq ?p ?q) ?_; (case p => walk_at "p"); (case q => first | assumption | omega))
  | ((with_reducible show Wp (c_is_ident _ _) _ _); refine wp_of (ident_eq ?p) ?_; (case p => assumption))
  | ((with_reducible show Wp (c_is_glove _ _) _ _); refine wp_of (glove_eq ?p ?q) ?_; (case p => assumption); (case q => first | assumption | omega)))
local macro_rules | `(tactic| walk_at "d1") => `(tactic| first
  | ((with_reducible show Wp (c_draw _ _) _ _); refine' dr ?s ?k ?a ?b ?_; (case s => assumption); (case k => assumption); (case a => first | decide | omega); (case b => first | decide | omega); intro _ _ _ _ _))
local macro_rules | `(tactic| walk_at "d") => `(tactic| repeat (first | walk_at "s1" | walk_at "e1" | walk_at "h1" | walk_at "P1" | walk_at "d1"))
local macro_rules | `(tactic| walk_at "db") => `(tactic| repeat' (first | walk_at "s1" | walk_at "e1" | walk_at "h1" | walk_at "P1" | walk_at "d1" | walk_at "b1"))
local macro_rules | `(tactic| walk_at "tl") => `(tactic| repeat' (first | assumption | omega | decide | (with_reducible refine len_half ?_ ?_) | (with_reducible refine lit_half ?_) | (with_reducible refine cut_half ?_) | (with_reducible refine T_half ?_)))
local macro_rules | `(tactic| walk_at "t1") => `(tactic| first
  | ((with_reducible refine wp_some (add_str ?q ?r) ?_); (case q => walk_at "tl"); (case r => walk_at "tl"))
  | ((with_reducible refine wp_some (sl_str ?q) ?_); (case q => walk_at "tl"))
  | ((with_reducible refine wp_some (len_str ?q) ?_); (case q => walk_at "tl"))
  | ((with_reducible refine wp_someP (upper_str ?q) ?_); (case q => walk_at "tl"))
  | ((with_reducible refine wp_some (str_int ?q) ?_); (case q => first | assumption | omega))
  | with_reducible refine wp_some rev_tup ?_
  | with_reducible refine wp_some rev_lst ?_
  | with_reducible refine wp_some is_bl ?_
  | with_reducible refine wp_some isN_bl ?_
  | with_reducible refine wp_some neg_i ?_
  | with_reducible refine wp_lAdd ?_
  | with_reducible refine And.intro rfl ?_)
local macro_rules | `(tactic| walk_at "d") => `(tactic| repeat (first | walk_at "s1" | walk_at "e1" | walk_at "h1" | walk_at "t1" | walk_at "P1" | walk_at "d1"))
local macro_rules | `(tactic| walk_at "db") => `(tactic| repeat' (first | walk_at "s1" | walk_at "e1" | walk_at "h1" | walk_at "t1" | walk_at "P1" | walk_at "d1" | walk_at "b1"))
local macro_rules | `(tactic| walk_at "dz") => `(tactic| (walk_at "db" <;> try walk_at "z"))
local macro_rules | `(tactic| walk_at "hg") => `(tactic| first | assumption | exact get_new | (refine get_app ?_; walk_at "hg") | (refine' get_set_eq ?e; (case e => walk_at "hg")) | (refine (get_set_ne ?_).trans ?_; (first | omega | (simp only [List.length_append, List.length_set, List.length_cons, List.length_nil]; omega)); walk_at "hg"))
local macro_rules | `(tactic| walk_at "st") => `(tactic| repeat' (first | assumption | (with_reducible refine St.wapp ?_ ?_) | (with_reducible refine St.wset ?_ ?_ ?_ ?_) | (simp only [List.length_append, List.length_set, List.length_cons, List.length_nil]; omega) | omega))
local macro_rules | `(tactic| walk_at "ll") => `(tactic| repeat' (first | assumption | omega | exact Nat.le_of_ble_eq_true rfl | (with_reducible refine app_half ?_ ?_) | (with_reducible refine cutL_half ?_) | (with_reducible refine rev_half ?_) | (with_reducible refine map_half ?_) | (with_reducible refine cons_half ?_ ?_)))
local macro_rules | `(tactic| walk_at "n1") => `(tactic| first
  | ((with_reducible show Wp (R.ofO _ _) _ _); first
    | with_reducible apply wp_some eq_same
    | with_reducible apply wp_some ne_same
    | with_reducible apply wp_some add_i
    | with_reducible apply wp_some sub_i
    | with_reducible apply wp_some lt_i
    | with_reducible apply wp_some le_i
    | with_reducible apply wp_some gt_i
    | with_reducible apply wp_some ge_i
    | with_reducible apply wp_some eq_i
    | with_reducible apply wp_some ne_i
    | with_reducible apply wp_some eq_b
    | with_reducible apply wp_some max_i
    | with_reducible apply wp_some min_i
    | with_reducible apply wp_some tup_tup
    | with_reducible apply wp_some tup_lst
    | with_reducible apply wp_some len_tup
    | with_reducible apply wp_some len_lst
    | with_reducible apply wp_some sl_tup
    | with_reducible apply wp_some sl_lst
    | with_reducible apply wp_some tru_b
    | with_reducible apply wp_some repr_b
    | with_reducible refine wp_eq_sb ?_
    | with_reducible apply wp_some seq_lst
    | with_reducible apply wp_some seq_tup
    | ((with_reducible apply wp_ix_tup); (case q => rfl))
    | ((with_reducible apply wp_ix_lst); (case q => rfl))
    | ((with_reducible apply wp_ix_ref); (case p => assumption); (case q => rfl))
    | with_reducible apply wp_some eq_s
    | ((with_reducible apply wp_some (mod_int ?q)); (case q => walk_at "q"))
    | ((with_reducible apply wp_some (div_int ?p ?q)); (case p => walk_at "q"); (case q => walk_at "q"))
    | ((with_reducible apply wp_some (mul_int ?q)); (case q => walk_at "q"))
    | ((with_reducible apply wp_some (add_tup2 ?a ?b)); (case a => walk_at "ll"); (case b => walk_at "ll"))
    | ((with_reducible apply wp_some (add_lst2 ?a ?b)); (case a => walk_at "ll"); (case b => walk_at "ll"))
    | with_reducible apply wp_some ne_b
    | with_reducible refine wp_ne_sb ?_
    | with_reducible apply wp_some ne_s
    | with_reducible apply wp_some reprA_b
    | with_reducible apply wp_some isi_non
    | with_reducible apply wp_some isi_bl
    | with_reducible apply wp_some isi_int
    | with_reducible apply wp_some isi_str
    | with_reducible apply wp_some isi_tup
    | with_reducible apply wp_some isi_lst
    | with_reducible apply wp_some isi_dct
    | ((with_reducible apply wp_some (add_str ?q ?r)); (case q => walk_at "tl"); (case r => walk_at "tl"))
    | ((with_reducible apply wp_some (sl_str ?q)); (case q => walk_at "tl"))
    | ((with_reducible apply wp_some (len_str ?q)); (case q => walk_at "tl"))
    | ((with_reducible apply wp_some (str_int ?q)); (case q => first | assumption | omega))
    | with_reducible apply wp_some rev_tup
    | with_reducible apply wp_some rev_lst
    | with_reducible apply wp_some is_bl
    | with_reducible apply wp_some isN_bl
    | with_reducible apply wp_some neg_i
    | ((with_reducible apply wp_some (isi_pln ?q)); (case q => walk_at "p"))
    | with_reducible apply wp_some pow6
    | with_reducible apply wp_some eqT_tup
    | ((with_reducible apply wp_some (rev_str ?q)); (case q => walk_at "tl"))
    | ((with_reducible apply wp_some (add_rl ?q ?a ?b)); (case q => walk_at "hg"); (case a => walk_at "ll"); (case b => walk_at "ll"))
    | ((with_reducible apply wp_some (add_lr ?q ?a ?b)); (case q => walk_at "hg"); (case a => walk_at "ll"); (case b => walk_at "ll"))
    | ((with_reducible apply wp_some (add_rr ?q ?r ?a ?b)); (case q => walk_at "hg"); (case r => walk_at "hg"); (case a => walk_at "ll"); (case b => walk_at "ll"))
    | with_reducible apply wp_some lst_lst
    | ((with_reducible apply wp_some (lst_ref ?q)); (case q => walk_at "hg"))
    | ((with_reducible apply wp_some (len_ref ?q)); (case q => walk_at "hg"))
    | ((with_reducible apply wp_some (tup_ref ?q)); (case q => walk_at "hg"))
    | with_reducible apply wp_some pow39
    | with_reducible apply wp_some pow30
    | with_reducible apply wp_some pow40
    | with_reducible apply wp_some tru_non
    | with_reducible apply wp_some tru_int
    | with_reducible apply wp_some tru_tup
    | ((with_reducible apply wp_some (tru_str ?q)); (case q => walk_at "tl"))
    | ((with_reducible apply wp_some (mulS_str ?a ?b ?d)); (case a => walk_at "tl"); (case b => walk_at "tl"); (case d => walk_at "tl"))
    | ((with_reducible apply wp_some (mulS_tupA ?a ?b ?c ?d)); (case a => walk_at "tl"); (case b => walk_at "tl"); (case c => first | rfl | assumption); (case d => walk_at "tl")))
  | ((with_reducible show Wp (R.ofP _) _ _); first
    | ((with_reducible apply wp_someP (app_ref2 ?e ?q)); (case e => walk_at "hg"); (case q => walk_at "ll"))
    | ((with_reducible apply wp_someP (upper_str ?q)); (case q => walk_at "tl")))
  | ((with_reducible show Ws _ _); first
    | with_reducible refine ws_seq ?_
    | with_reducible refine ws_set ?_
    | with_reducible refine ws_setC ?_
    | with_reducible refine ws_setCM ?_
    | with_reducible refine ws_if ?_
    | with_reducible refine ws_ret ?_
    | with_reducible refine ws_retN ?_
    | with_reducible refine ws_drop ?_
    | with_reducible refine ws_skip ?_
    | with_reducible refine ws_asg ?_
    | with_reducible refine ws_par ?_
    | with_reducible refine ws_sub ?_)
  | ((with_reducible refine' And.intro (isL_ref ?e) ?_); (case e => walk_at "hg"))
  | ((with_reducible refine And.intro (And.intro ?a ?b) ?_); (case a => walk_at "ll"); (case b => walk_at "ll"))
  | with_reducible refine Exists.intro _ (And.intro rfl ?_)
  | with_reducible refine Exists.intro _ (Exists.intro _ (And.intro rfl ?_))
  | with_reducible refine And.intro rfl ?_
  | ((with_reducible show Wp _ _ _); first
    | ((with_reducible apply wp_name); (case q => rfl))
    | with_reducible refine wp_c ?_
    | with_reducible refine wp_bin ?_
    | with_reducible refine wp_acons ?_
    | with_reducible refine wp_anil ?_
    | with_reducible refine wp_call ?_
    | with_reducible refine wp_fn ?_
    | with_reducible refine wp_fnK ?_
    | with_reducible refine wp_ev ?_
    | with_reducible refine wp_em ?_
    | with_reducible refine wp_tup ?_
    | with_reducible refine wp_eb ?_
    | with_reducible refine wp_et ?_
    | with_reducible refine wp_un ?_
    | with_reducible refine wp_chain ?_
    | with_reducible refine wp_and ?_
    | with_reducible refine wp_or ?_
    | with_reducible refine wp_not ?_
    | with_reducible refine wp_andF ?_
    | with_reducible refine wp_orF ?_
    | with_reducible refine wp_notF ?_
    | with_reducible refine wp_yes ?_
    | with_reducible refine wp_if ?_
    | with_reducible refine wp_sl ?_
    | with_reducible refine wp_onone ?_
    | with_reducible refine wp_osome ?_
    | with_reducible refine wp_rev ?_
    | with_reducible refine wp_list ?_
    | with_reducible refine wp_mt ?_
    | with_reducible refine wp_any ?_
    | with_reducible refine wp_r1 ?_
    | with_reducible refine wp_r2 ?_
    | with_reducible refine wp_body ?_
    | with_reducible refine wp_d0t ?_
    | with_reducible refine wp_d0k ?_
    | with_reducible refine wp_d0 ?_
    | with_reducible refine wp_valsT ?_
    | with_reducible refine wp_d1 ?_
    | with_reducible refine wp_lAdd ?_
    | walk_at "P1"
    | walk_at "d1")
  | ((fail_if_success (with_reducible show Ws _ _)); (fail_if_success (with_reducible show Wp _ _ _)); show Ws _ _))
local macro_rules | `(tactic| walk_at "n") => `(tactic| repeat (walk_at "n1"))
local macro_rules | `(tactic| walk_at "nb") => `(tactic| repeat' (first | walk_at "n1" | walk_at "b1"))
local macro_rules | `(tactic| walk_at "c") => `(tactic| first
  | assumption
  | (refine closeB (by assumption) ?_; first | rfl | (simp_all; done) | (simp_all <;> omega)))
local macro_rules | `(tactic| walk_at "nc") => `(tactic| (walk_at "nb" <;> try walk_at "c"))
local macro_rules | `(tactic| walk_at "n1") => `(tactic| first
  | with_reducible refine wp_iOf ?_
  | with_reducible apply wp_some neT_tup
  | with_reducible refine ex_ent ?_
  | with_reducible refine ex_enl ?_
  | with_reducible refine ex_zpt ?_
  | with_reducible refine ex_zpl ?_)
local macro_rules | `(tactic| walk_at "q") => `(tactic| exact Int.natCast_pos.mpr (Nat.succ_pos _))
local macro_rules | `(tactic| walk_at "hg") => `(tactic| with_reducible exact St.k2 (by assumption))
local macro_rules | `(tactic| walk_at "n1") => `(tactic| first
  | with_reducible refine wp_mk ?_
  | with_reducible refine wp_mth ?_
  | with_reducible refine wp_eown ?_
  | with_reducible refine ws_fld ?_
  | with_reducible refine wp_js1 ?_
  | with_reducible refine wp_js0 ?_)
local macro_rules | `(tactic| walk_at "n1") => `(tactic| first
  | with_reducible refine wp_lRep ?_
  | with_reducible apply wp_some sk_zones
  | with_reducible apply wp_some sk_stretch
  | with_reducible apply wp_some sk_grade)
local macro_rules | `(tactic| walk_at "n1") => `(tactic| first
  | with_reducible refine wp_orT ?_
  | with_reducible refine wp_andT ?_
  | with_reducible apply wp_some neL_lst
  | with_reducible apply wp_some int_bl
  | with_reducible apply wp_some ne_ss)
local macro_rules | `(tactic| walk_at "tl") => `(tactic| repeat' (first | assumption | omega | exact Nat.le_of_ble_eq_true rfl | (with_reducible refine len_half ?_ ?_) | (with_reducible refine lit_half ?_) | (with_reducible refine cut_half ?_) | (with_reducible refine T_half ?_) | (simp only [List.length_append, List.length_cons, List.length_nil]; omega)))

section
variable {L : Nat} {K : Hs → Prop} {h : Hs} {Q : D → Hs → Prop} {X : XQ} {d : D} {q : Nat} {t : Str}
theorem wp_ixS {z : Str} {i : Int} (l : z.length ≤ 100000) (i0 : 0 ≤ i) (i1 : i < z.length) (c : ∀ s : Str, s.length = 1 → Q (.str s) h) : Wp (R.ofO (gIx h (.str z) (.int i)) h) Q X := by
  have hl : i.toNat < z.cps.toList.length := by
    have : z.cps.toList.length = z.length := by rw [Array.length_toList]; rfl
    rw [this]; omega
  refine wp_some (ix_str l (atI_nat i0 (List.getElem?_eq_getElem hl))) (c _ ?_)
  rfl
/-- a text, not too long -/
def Ts (n : Nat) (d : D) : Prop := ∃ t, d = .str t ∧ t.length ≤ n
theorem cut_len (a : Str) (lo hi : Option Int) : (cutS a lo hi).length ≤ a.length := cut_half (Nat.le_refl _)
theorem rev_len (z : Str) : (G.T z.cps.toList.reverse).length = z.length := by rw [T_len, List.length_reverse, Array.length_toList]; rfl
theorem rep_len (z : Str) : (repS z 2).length = 2 * z.length := by
  rw [show z = G.T z.cps.toList from rfl, repS_T, T_len, T_len]
  show (List.replicate 2 z.cps.toList).flatten.length = _
  simp; omega
theorem lit_len (s : String) : (Str.ofString s).length = s.length := PySem.ofString_length s
theorem bent_wp {n : Nat} (S : St L K h) (sK : Stb L K) (lt : t.length ≤ n) (hn : n ≤ 1000) (c : ∀ d' h', Ts (2 * n + 3) d' → St L K h' → Q d' h') : Wp (c_bent [.ref 2, .str t] h) Q X := by
  unfold c_bent f_bent
  refine wp_bodyE [some (.ref 2), some (.str t), none, none, none, none] rfl ?_
  walk_at "n"
  rename_i w h1 w0 w1 S1 p h2 p0 p1 S2 g h3 g0 g1 S3
  refine wp_ixS (by rw [lit_len]; decide) g0 (by rw [lit_len]; exact g1) fun s ls => ?_
  walk_at "n"
  have c1 : ∀ {lo hi}, (cutS t lo hi).length ≤ n := fun {lo hi} => Nat.le_trans (cut_len t lo hi) lt
  have q3 : ∀ {z : String} {m : Nat}, z.length ≤ m → Ts m (.str (Str.ofString z)) := fun {z m} l => ⟨_, rfl, by rw [lit_len]; exact l⟩
  refine wp_ixD (Ts 3) (Int.emod_nonneg _ (by decide)) (Int.emod_lt_of_pos _ (by decide)) (all_cons (q3 (by decide)) (all_cons (q3 (by decide)) (all_cons (q3 (by decide)) (all_cons (q3 (by decide)) all_nil)))) ?_
  rintro _ ⟨y, rfl, ly⟩
  refine wp_some (add_str (by omega) (by omega)) ?_
  walk_at "n"
  have a1 := c1 (lo := none) (hi := some p)
  have a2 := c1 (lo := some p) (hi := none)
  have a3 := c1 (lo := some (p + 1)) (hi := none)
  refine wp_ixD (Ts (2 * n + 3)) w0 w1 ?_ fun x hx => c x h3 hx S3
  refine all_cons ⟨_, rfl, by rw [str_len, str_len]; omega⟩ (all_cons ⟨_, rfl, by rw [str_len]; omega⟩ (all_cons ⟨_, rfl, by rw [str_len, str_len]; omega⟩ (all_cons ⟨_, rfl, ?_⟩ (all_cons ⟨_, rfl, ?_⟩ (all_cons ⟨_, rfl, ?_⟩ (all_cons ⟨_, rfl, ?_⟩ (all_cons ⟨_, rfl, ?_⟩ (all_cons ⟨_, rfl, by rw [str_len]; omega⟩ all_nil))))))))
  · rw [str_len, lit_len]; show 1 + _ ≤ _; omega
  · rw [str_len, lit_len]; show _ + 1 ≤ _; omega
  · rw [str_len, lit_len]; show _ + 2 ≤ _; omega
  · rw [rep_len]; omega
  · rw [rev_len]; omega
theorem th_str {n : Nat} {d : D} (x : Ts n d) (h : n ≤ 50000) : Th d := by
  obtain ⟨t, rfl, l⟩ := x
  exact .inl ⟨t, rfl, Nat.le_trans l h⟩
theorem th_lit {z : String} (h : z.length ≤ 50000) : Th (.str (Str.ofString z)) := .inl ⟨_, rfl, by rw [lit_len]; exact h⟩
theorem th_odd {d : D} (p : Pln d) (e : tyIs d .str = false) : Th d := .inr ⟨p, e⟩
theorem txtKeys_ents : ∀ l : List Nat, txtKeys (l.map ent) = some (l.map txS)
  | [] => rfl
  | q :: r => by
    rw [List.map_cons]
    unfold ent txtKeys
    show (match txtKeys (r.map ent) with | some ks => some (txS q :: ks) | none => none) = _
    rw [txtKeys_ents r]; rfl
def qs : List Nat := (List.range 100).filter fun q => decide (1 ≤ q)
theorem qs_at {q : Nat} (h : q ∈ qs) : 1 ≤ q ∧ q < 100 := by
  obtain ⟨h1, h2⟩ := List.mem_filter.mp h
  exact ⟨of_decide_eq_true h2, List.mem_range.mp h1⟩
theorem all_app {P : D → Prop} {xs ys : List D} (a : ∀ x ∈ xs, P x) (b : ∀ x ∈ ys, P x) : ∀ x ∈ xs ++ ys, P x := fun x h => (List.mem_append.mp h).elim (a x) (b x)
theorem len_eq {xs : List D} {n : Nat} (h : xs.length = n) : xs.length = n := h
/-- a text of the table -/
def Wd (d : D) : Prop := ∃ q, 1 ≤ q ∧ q < 100 ∧ d = .str (txS q)
theorem words_all : ∀ x ∈ (sortS (qs.map txS)).map D.str, Wd x := fun x hx => by
  obtain ⟨z, hz, rfl⟩ := List.mem_map.mp hx
  obtain ⟨q, hq, rfl⟩ := List.mem_map.mp ((sortS_perm _).subset hz)
  obtain ⟨q1, q2⟩ := qs_at hq
  exact ⟨q, q1, q2, rfl⟩
theorem words_len : ((sortS (qs.map txS)).map D.str).length = 99 := by
  rw [List.length_map, (sortS_perm _).length_eq, List.length_map]
  decide +kernel
theorem dget_tex {q : Nat} (h1 : 1 ≤ q) (h2 : q < 100) : gDget h texD (.str (txS q)) = some (.int (q : Nat)) := by
  unfold gDget
  rw [tex_at, look_tx h1 h2]
  rfl
theorem th_rep : Th (.str (repS (Str.ofString "1") 4000)) := .inl ⟨_, rfl, Nat.le_trans (tx_rep (n := 1) (m := 4000) (tx_lit (by decide)) (by decide)).len (by decide)⟩
/-- a word ahead of a text -/
def addW (a : Str) (d : D) : D := match d with
  | .str z => .str (a ++ z)
  | d => d
theorem law_true : ∀ ns : List Int, ns.length ≤ 63 → ∃ hs', c_law [.scr (ns.map D.int)] [] = .ok (.bl true) hs' := by
  intro ns hl
  suffices Wp (c_law [.scr (ns.map D.int)] []) (fun d _ => d = .bl true) nX by
    obtain ⟨x, h, e, rfl⟩ := wp_get this
    exact ⟨h, e⟩
  unfold c_law f_law
  refine wp_bodyE [some (.scr (ns.map .int)), none, none, none, none, none, none, none, none, none, none, none, none, none] rfl ?_
  walk_at "n"
  refine deck_st hl fun h S => ?_
  generalize D.scr (ns.map D.int) = sc
  have sK : Stb 3 (fun _ => True) := stb_true
  walk_at "n"
  refine wp_comp ?_
  walk_at "n"
  refine ⟨12, fun i acc h => St 3 (fun _ => True) h ∧ acc.length = i ∧ ∀ x ∈ acc, ∃ b, x = .bl b, by decide, ⟨S, rfl, all_nil⟩, ?_, ?_⟩
  · rintro i acc h hi ⟨S, hl, ha⟩
    refine ⟨_, _, nxN_some hi, rfl, ?_⟩
    walk_at "n"
    refine ⟨fun _ => ⟨by rw [sizeLine_eq]; omega, ?_⟩, fun z => nomatch z⟩
    walk_at "n"
    rename_i S1
    exact ⟨S1, by rw [List.length_append, hl]; rfl, all_app ha (all_cons ⟨_, rfl⟩ all_nil)⟩
  rintro tw h ⟨S, twl, twa⟩
  refine ⟨nxN_stop, ?_⟩
  walk_at "n"
  refine texts_wp ?_
  walk_at "n"
  refine wp_sortS ?_
  walk_at "n"
  refine ⟨(ents 100), qs.map txS, ?_, ?_, ?_, ?_⟩
  · unfold texD dkA
    show some (((ents 100).map (·.1)).zip ((ents 100).map (·.2))) = _
    rw [zip_map]
  · exact txtKeys_ents qs
  · rw [List.length_map]; decide +kernel
  have wa := words_all
  have wl := words_len
  generalize (sortS (qs.map txS)).map D.str = words at wa wl ⊢
  walk_at "n"
  refine ws_for ?_
  walk_at "n"
  refine ⟨30, fun i e h => St 3 (fun _ => True) h ∧ ∃ x5 x6 x7 x8, e = [some sc, some (.ref 2), some (.lst tw), some texD, some (.lst words), x5, x6, x7, x8, none, none, none, none, none], by decide, ⟨S, _, _, _, _, rfl⟩, ?_, ?_⟩
  · rintro i _ h hi ⟨S, x5, x6, x7, x8, rfl⟩
    refine ⟨_, _, nxN_some hi, rfl, ?_⟩
    walk_at "n"
    refine pkl S sK (by omega) (by omega) fun x h1 hx S => ?_
    obtain ⟨q, q1, q2, rfl⟩ := wa x hx
    have lq := txS_len (q := q) (by omega)
    walk_at "n"
    refine right_wp (.inl ⟨_, rfl, by omega⟩) ?_
    walk_at "n"
    refine ⟨nof, fun _ => ?_⟩
    walk_at "n"
    refine read_str (fun q' e => ?_) fun e => ?_
    · rw [look_tx q1 q2] at e
      cases e
      walk_at "n"
      refine wp_egc ?_
      refine wp_mk ?_
      walk_at "n"
      refine wp_some (dget_tex q1 q2) ?_
      walk_at "n"
      refine mk_size (h := h1) (d := .int (q : Nat)) ?_
      refine ⟨_, sz_new rfl, cls_app, ?_⟩
      rw [take_app]
      walk_at "n"
      refine wp_some one ?_
      rw [beq_self_eq_true]
      refine ⟨false, rfl, ?_⟩
      refine ⟨nof, fun _ => ?_⟩
      walk_at "n"
      refine ws_forL (fun e h => St 3 (fun _ => True) h ∧ ∃ x5 x7 x8, e = [some sc, some (.ref 2), some (.lst tw), some texD, some (.lst words), x5, some (.str (txS q)), x7, x8, none, none, none, none, none]) ?_
      walk_at "n"
      refine ⟨by omega, ⟨S, _, _, _, rfl⟩, ?_, ?_⟩
      · rintro d _ h hd ⟨S, x5, x7, x8, rfl⟩
        obtain ⟨b, rfl⟩ := twa d hd
        refine ⟨_, rfl, ?_⟩
        walk_at "n"
        refine bent_wp S sK lq (by decide) fun d' h2 hd' S => ?_
        cases b with
        | false =>
          walk_at "n"
          refine ⟨nof, fun _ => ?_⟩
          walk_at "n"
          refine right_wp (th_str hd' (by decide)) ?_
          walk_at "n"
          refine ⟨nof, fun _ => ?_⟩
          walk_at "n"
          exact ⟨S, _, _, _, rfl⟩
        | true =>
          obtain ⟨t', rfl, lt'⟩ := hd'
          walk_at "n"
          refine ⟨fun _ => ?_, tnof⟩
          walk_at "n"
          refine bent_wp S sK lt' (by decide) fun d' h2 hd' S => ?_
          walk_at "n"
          refine right_wp (th_str hd' (by decide)) ?_
          walk_at "n"
          refine ⟨nof, fun _ => ?_⟩
          walk_at "n"
          exact ⟨S, _, _, _, rfl⟩
      · rintro _ h ⟨S, x5, x7, x8, rfl⟩
        exact ⟨S, _, _, _, _, rfl⟩
    · rw [look_tx q1 q2] at e; cases e
  · rintro _ h ⟨S, x5, x6, x7, x8, rfl⟩
    refine ⟨nxN_stop, ?_⟩
    walk_at "n"
    refine ws_for ?_
    walk_at "n"
    refine ⟨31, fun i e h => St 3 (fun _ => True) h ∧ ∃ rows x10 x13, rows.length = 10 * i ∧ (∀ x ∈ rows, Th x) ∧ e = [some sc, some (.ref 2), some (.lst tw), some texD, some (.lst words), x5, x6, x7, x8, some (.lst rows), x10, none, none, x13], by decide, ⟨S, [], _, _, rfl, all_nil, rfl⟩, ?_, ?_⟩
    · rintro i _ h hi ⟨S, rows, x10, x13, rl, ra, rfl⟩
      refine ⟨.int (i : Nat), _, (nxN_some hi).trans (by congr 3; omega), rfl, ?_⟩
      walk_at "n"
      have hb : ((i : Nat) : Int).natAbs < 10 ^ 60 := Nat.lt_trans (show ((i : Nat) : Int).natAbs < 1000 by omega) (by decide)
      have l1 := (tx_int hb).len
      refine wp_cmap (addW (Str.ofString (toString ((i : Nat) : Int)))) ?_
      walk_at "n"
      have q3 : ∀ {z : String} {m : Nat}, z.length ≤ m → Ts m (.str (Str.ofString z)) := fun {z m} l => ⟨_, rfl, by rw [lit_len]; exact l⟩
      have q10 : ∀ x ∈ ([.str (Str.ofString ""), .str (Str.ofString ".25"), .str (Str.ofString ".5"), .str (Str.ofString ".75"), .str (Str.ofString ".0"), .str (Str.ofString ".50"), .str (Str.ofString ".2"), .str (Str.ofString "."), .str (Str.ofString ",5"), .str (Str.ofString " .5")] : List D), Ts 3 x :=
        all_cons (q3 (by decide)) (all_cons (q3 (by decide)) (all_cons (q3 (by decide)) (all_cons (q3 (by decide)) (all_cons (q3 (by decide)) (all_cons (q3 (by decide)) (all_cons (q3 (by decide)) (all_cons (q3 (by decide)) (all_cons (q3 (by decide)) (all_cons (q3 (by decide)) all_nil)))))))))
      refine ⟨Nat.le_of_ble_eq_true rfl, fun d hd => ?_, ?_⟩
      · obtain ⟨z, rfl, lz⟩ := q10 d hd
        refine ⟨_, rfl, ?_⟩
        walk_at "n"
        rfl
      · walk_at "n"
        refine ⟨S, _, _, _, ?_, all_app ra fun x hx => ?_, rfl⟩
        · rw [List.length_append, List.length_map, rl]; show 10 * i + 10 = _; omega
        · obtain ⟨d, hd, rfl⟩ := List.mem_map.mp hx
          obtain ⟨z, rfl, lz⟩ := q10 d hd
          exact .inl ⟨_, rfl, by rw [str_len]; omega⟩
    · rintro _ h ⟨S, rows, x10, x13, rl, ra, rfl⟩
      refine ⟨nxN_stop, ?_⟩
      walk_at "n"
      refine ws_forL (fun e h' => h' = h ∧ ∃ x5 x6 x7 x8 x9 x10 x11 x12 x13, e = [some sc, some (.ref 2), some (.lst tw), some texD, some (.lst words), x5, x6, x7, x8, x9, x10, x11, x12, x13]) ?_
      walk_at "n"
      refine wp_egc ?_
      refine wp_mk ?_
      walk_at "n"
      refine mk_size (h := h) (d := .int 28) ?_
      refine ⟨_, sz_new rfl, cls_app, ?_⟩
      rw [take_app]
      walk_at "n"
      refine wp_some sz_q ?_
      walk_at "n"
      refine ⟨by rw [List.length_append, List.length_append, rl]; exact Nat.le_of_ble_eq_true rfl, ⟨rfl, _, _, _, _, _, _, _, _, _, rfl⟩, ?_, ?_⟩
      · intro d e' h' hd
        have hth : Th d := by
          refine all_app (P := Th) (all_app ra (all_app (all_app ?_ ?_) ?_)) ?_ d hd
          all_goals repeat' (first
            | with_reducible exact all_nil
            | with_reducible refine all_cons ?_ ?_
            | with_reducible exact th_lit (by decide)
            | with_reducible exact th_rep
            | exact th_odd (by constructor) rfl)
        rintro ⟨rfl, x5, x6, x7, x8, x9, x10, x11, x12, x13, rfl⟩
        refine ⟨_, rfl, ?_⟩
        walk_at "n"
        refine right_wp hth ?_
        walk_at "n"
        refine ⟨nof, fun _ => ?_⟩
        walk_at "n"
        exact ⟨_, _, _, _, _, _, _, _, _, rfl⟩
      · rintro _ _ ⟨rfl, x5, x6, x7, x8, x9, x10, x11, x12, x13, rfl⟩
        walk_at "n"
        rfl
end
end K03

namespace K03
open PySem PySem.Spec PyProof.Rows L2 G
/-! ### the text -/
def topS (i : Nat) : Stmt := PySem.Challenge.pw_glovepairs_k03_sizes_read.main.body.getD i (.Pass ⟨0, 0, 0, 0⟩)
abbrev s_wall : Stmt := topS 0
abbrev N_wall : List Str := ["k"]
theorem sc_wall : FnScope N_wall ["k"] (defScope s_wall) := ⟨rfl, rfl, rfl, by decide +kernel, rfl, by decide +kernel, by decide +kernel⟩
abbrev s_Size_init : Stmt := inClass (topS 21) 0
abbrev N_Size_init : List Str := ["self", "quarters"]
theorem sc_Size_init : FnScope N_Size_init ["self", "quarters"] (defScope s_Size_init) := ⟨rfl, rfl, rfl, by decide +kernel, rfl, by decide +kernel, by decide +kernel⟩
abbrev s_Size_str : Stmt := inClass (topS 21) 2
abbrev N_Size_str : List Str := ["self", "rest"]
theorem sc_Size_str : FnScope N_Size_str ["self"] (defScope s_Size_str) := ⟨rfl, rfl, rfl, by decide +kernel, rfl, by decide +kernel, by decide +kernel⟩
abbrev s_read_size : Stmt := topS 22
abbrev N_read_size : List Str := ["text", "quarters", "size"]
theorem sc_read_size : FnScope N_read_size ["text"] (defScope s_read_size) := ⟨rfl, rfl, rfl, by decide +kernel, rfl, by decide +kernel, by decide +kernel⟩
abbrev s_deck : Stmt := topS 24
abbrev N_deck : List Str := ["_law_script", "_law_cell"]
theorem sc_deck : FnScope N_deck ["_law_script"] (defScope s_deck) := ⟨rfl, rfl, rfl, by decide +kernel, rfl, by decide +kernel, by decide +kernel⟩
abbrev s_draw : Stmt := topS 25
abbrev N_draw : List Str := ["_law_deck_here", "_law_most", "_law_cell", "_law_number"]
theorem sc_draw : FnScope N_draw ["_law_deck_here", "_law_most"] (defScope s_draw) := ⟨rfl, rfl, rfl, by decide +kernel, rfl, by decide +kernel, by decide +kernel⟩
abbrev s_pick : Stmt := topS 26
abbrev N_pick : List Str := ["_law_deck_here", "_law_some"]
theorem sc_pick : FnScope N_pick ["_law_deck_here", "_law_some"] (defScope s_pick) := ⟨rfl, rfl, rfl, by decide +kernel, rfl, by decide +kernel, by decide +kernel⟩
abbrev s_texts : Stmt := topS 27
abbrev N_texts : List Str := ["_law_found", "_law_whole", "_law_rest"]
theorem sc_texts : FnScope N_texts [] (defScope s_texts) := ⟨rfl, rfl, rfl, by decide +kernel, rfl, by decide +kernel, by decide +kernel⟩
abbrev s_told : Stmt := topS 28
abbrev N_told : List Str := ["_law_thing", "_law_found", "_law_kinds", "e"]
theorem sc_told : FnScope N_told ["_law_thing"] (defScope s_told) := ⟨rfl, rfl, rfl, by decide +kernel, rfl, by decide +kernel, by decide +kernel⟩
abbrev s_Size_eq : Stmt := inClass (topS 21) 1
abbrev N_Size_eq : List Str := ["self", "other"]
theorem sc_Size_eq : FnScope N_Size_eq ["self", "other"] (defScope s_Size_eq) := ⟨rfl, rfl, rfl, by decide +kernel, rfl, by decide +kernel, by decide +kernel⟩
abbrev s_right : Stmt := topS 29
abbrev N_right : List Str := ["_law_thing", "_law_texts_here", "_law_quarters", "_law_found", "_law_kinds"]
theorem sc_right : FnScope N_right ["_law_thing", "_law_texts_here"] (defScope s_right) := ⟨rfl, rfl, rfl, by decide +kernel, rfl, by decide +kernel, by decide +kernel⟩
abbrev s_bent : Stmt := topS 30
abbrev N_bent : List Str := ["_law_deck_here", "_law_row", "_law_way", "_law_at", "_law_sign", "_law_some"]
theorem sc_bent : FnScope N_bent ["_law_deck_here", "_law_row"] (defScope s_bent) := ⟨rfl, rfl, rfl, by decide +kernel, rfl, by decide +kernel, by decide +kernel⟩
abbrev s_law : Stmt := topS 31
abbrev N_law : List Str := ["_law_script", "_law_deck_here", "_law_twice", "_law_texts_here", "_law_words", "_law_turn", "_law_row", "_law_more", "_law_bent_here", "_law_rows", "_law_whole", "_law_odd", "_law_thing", "_law_rest"]
theorem sc_law : FnScope N_law ["_law_script"] (defScope s_law) := ⟨rfl, rfl, rfl, by decide +kernel, rfl, by decide +kernel, by decide +kernel⟩
/-! ### what the top has left -/
structure Tx (K : PySem.W.Frag) (mg : Str → Option Value) where
  a_wall : Addr
  e_wall : FuncData
  F_wall : Fun K "_wall" "_wall" s_wall a_wall e_wall
  g_wall : mg "_wall" = some (.ref a_wall)
  a_Size_init : Addr
  e_Size_init : FuncData
  F_Size_init : FunF K "__init__" "Size.__init__" s_Size_init [(.int 28)] a_Size_init e_Size_init
  a_Size_str : Addr
  e_Size_str : FuncData
  F_Size_str : Fun K "__str__" "Size.__str__" s_Size_str a_Size_str e_Size_str
  a_read_size : Addr
  e_read_size : FuncData
  F_read_size : Fun K "read_size" "read_size" s_read_size a_read_size e_read_size
  g_read_size : mg "read_size" = some (.ref a_read_size)
  a_deck : Addr
  e_deck : FuncData
  F_deck : Fun K "_law_deck" "_law_deck" s_deck a_deck e_deck
  g_deck : mg "_law_deck" = some (.ref a_deck)
  a_draw : Addr
  e_draw : FuncData
  F_draw : Fun K "_law_draw" "_law_draw" s_draw a_draw e_draw
  g_draw : mg "_law_draw" = some (.ref a_draw)
  a_pick : Addr
  e_pick : FuncData
  F_pick : Fun K "_law_pick" "_law_pick" s_pick a_pick e_pick
  g_pick : mg "_law_pick" = some (.ref a_pick)
  a_texts : Addr
  e_texts : FuncData
  F_texts : Fun K "_law_texts" "_law_texts" s_texts a_texts e_texts
  g_texts : mg "_law_texts" = some (.ref a_texts)
  a_told : Addr
  e_told : FuncData
  F_told : Fun K "_law_told" "_law_told" s_told a_told e_told
  g_told : mg "_law_told" = some (.ref a_told)
  a_Size_eq : Addr
  e_Size_eq : FuncData
  F_Size_eq : Fun K "__eq__" "Size.__eq__" s_Size_eq a_Size_eq e_Size_eq
  a_right : Addr
  e_right : FuncData
  F_right : Fun K "_law_right" "_law_right" s_right a_right e_right
  g_right : mg "_law_right" = some (.ref a_right)
  a_bent : Addr
  e_bent : FuncData
  F_bent : Fun K "_law_bent" "_law_bent" s_bent a_bent e_bent
  g_bent : mg "_law_bent" = some (.ref a_bent)
  a_law : Addr
  e_law : FuncData
  F_law : Fun K "law" "law" s_law a_law e_law
  g_law : mg "law" = some (.ref a_law)
  C_Size : Addr
  iC_Size : IsC K "Size" C_Size
  gC_Size : mg "Size" = some (.ref C_Size)
  cl_Size : L2.Cls K C_Size
  mk_Size : Mk K C_Size a_Size_init
  x_NoText : Addr
  gx_NoText : mg "NoText" = some (.ref x_NoText)
  x_GloveError : Addr
  gx_GloveError : mg "GloveError" = some (.ref x_GloveError)
  x_Breaks : Addr
  gx_Breaks : mg "Breaks" = some (.ref x_Breaks)
  x_NoCut : Addr
  gx_NoCut : mg "NoCut" = some (.ref x_NoCut)
  x_NoDeed : Addr
  gx_NoDeed : mg "NoDeed" = some (.ref x_NoDeed)
  x_NoGlove : Addr
  gx_NoGlove : mg "NoGlove" = some (.ref x_NoGlove)
  x_NoLot : Addr
  gx_NoLot : mg "NoLot" = some (.ref x_NoLot)
  x_NoMoment : Addr
  gx_NoMoment : mg "NoMoment" = some (.ref x_NoMoment)
  x_NoOrder : Addr
  gx_NoOrder : mg "NoOrder" = some (.ref x_NoOrder)
  x_NoPairs : Addr
  gx_NoPairs : mg "NoPairs" = some (.ref x_NoPairs)
  x_NoResult : Addr
  gx_NoResult : mg "NoResult" = some (.ref x_NoResult)
  x_NoRow : Addr
  gx_NoRow : mg "NoRow" = some (.ref x_NoRow)
  x_NoSkin : Addr
  gx_NoSkin : mg "NoSkin" = some (.ref x_NoSkin)
  x_NoTable : Addr
  gx_NoTable : mg "NoTable" = some (.ref x_NoTable)
  x_Taken : Addr
  gx_Taken : mg "Taken" = some (.ref x_Taken)
  x_Told : Addr
  gx_Told : mg "Told" = some (.ref x_Told)
  ex_NoText : ExcK K "NoText" x_NoText [.type "LookupError", .type "Exception", .type "BaseException", .type "object"] "LookupError" "LookupError.__new__" "LookupError.__init__"
  ct_GloveError : Cats K (.ref x_GloveError) [("NoText", true)]
  xi_0 : Exs K [(.ref x_NoText)] [("NoText", true)]
  xi_1 : Exs K [(.type "LookupError")] [("NoText", true)]
  xi_2 : Exs K [(.type "KeyError"), (.type "IndexError")] [("NoText", false)]
  xi_3 : Exs K [(.ref x_Breaks), (.ref x_NoCut), (.ref x_NoDeed), (.ref x_NoGlove), (.ref x_NoLot), (.ref x_NoMoment), (.ref x_NoOrder), (.ref x_NoPairs)] [("NoText", false)]
  xi_4 : Exs K [(.ref x_NoResult), (.ref x_NoRow), (.ref x_NoSkin), (.ref x_NoTable), (.ref x_Taken), (.ref x_Told)] [("NoText", false)]
  io_Size : Iss K (.ref C_Size) [("Size", true)]
  eq_Size : EqK K "Size" C_Size a_Size_eq
  fl_quarters : Flds K ["Size"] "quarters"
  sp_Size_str : SpK K "Size" C_Size "__str__" a_Size_str
  n_IndexError : mg "IndexError" = none
  n_KeyError : mg "KeyError" = none
  n_LookupError : mg "LookupError" = none
  n_isinstance : mg "isinstance" = none
  n_len : mg "len" = none
  n_list : mg "list" = none
  n_range : mg "range" = none
  n_sorted : mg "sorted" = none
  n_str : mg "str" = none
  n_sum : mg "sum" = none
  v_MOST_QUARTERS : V
  u_MOST_QUARTERS : Value
  m_MOST_QUARTERS : mg "MOST_QUARTERS" = some u_MOST_QUARTERS
  r_MOST_QUARTERS : RelV v_MOST_QUARTERS u_MOST_QUARTERS
  d_MOST_QUARTERS : ∀ mu H, RD K mu H k_MOST_QUARTERS v_MOST_QUARTERS
  v_QUARTER_WORDS : V
  u_QUARTER_WORDS : Value
  m_QUARTER_WORDS : mg "QUARTER_WORDS" = some u_QUARTER_WORDS
  r_QUARTER_WORDS : RelV v_QUARTER_WORDS u_QUARTER_WORDS
  d_QUARTER_WORDS : ∀ mu H, RD K mu H k_QUARTER_WORDS v_QUARTER_WORDS
section
variable {P : Program} {w : World} {K : PySem.W.Frag} {mg : Str → Option Value} {base : Heap}
theorem b_Size_init_1_quarters (T : Tx K mg) : ∃ its, Vals [(.int 28)] its ∧ BindK K T.e_Size_init ["self", "quarters"] 1 ["quarters"] [0, 1] its := by
  first
    | exact bindKD_of T.F_Size_init (List.cons_ne_nil _ _) fun _ _ _ _ _ _ _ us its ws h1 h2 h3 => match us, its, ws, h1, h2, h3 with | [_], [_], [_], _, _, _ => ⟨_, rfl, rfl⟩
    | exact bindKN_of T.F_Size_init (List.cons_ne_nil _ _) fun _ _ _ _ _ _ _ us its ws h1 h2 h3 => match us, its, ws, h1, h2, h3 with | [_], [_], [_], _, _, _ => rfl
theorem b_Size_str_1 (T : Tx K mg) : BindK K T.e_Size_str ["self"] 1 [] [0] [] := bindK_of T.F_Size_str fun _ _ _ _ _ _ us ws h1 h2 => match us, ws, h1, h2 with | [_], [], _, _ => rfl
theorem b_draw_2 (T : Tx K mg) : BindK K T.e_draw ["_law_deck_here", "_law_most"] 2 [] [0, 1] [] := bindK_of T.F_draw fun _ _ _ _ _ _ us ws h1 h2 => match us, ws, h1, h2 with | [_, _], [], _, _ => rfl
theorem b_read_size_1 (T : Tx K mg) : BindK K T.e_read_size ["text"] 1 [] [0] [] := bindK_of T.F_read_size fun _ _ _ _ _ _ us ws h1 h2 => match us, ws, h1, h2 with | [_], [], _, _ => rfl
theorem b_told_1 (T : Tx K mg) : BindK K T.e_told ["_law_thing"] 1 [] [0] [] := bindK_of T.F_told fun _ _ _ _ _ _ us ws h1 h2 => match us, ws, h1, h2 with | [_], [], _, _ => rfl
theorem b_Size_eq_2 (T : Tx K mg) : BindK K T.e_Size_eq ["self", "other"] 2 [] [0, 1] [] := bindK_of T.F_Size_eq fun _ _ _ _ _ _ us ws h1 h2 => match us, ws, h1, h2 with | [_, _], [], _, _ => rfl
theorem b_Size_init_2 (T : Tx K mg) : ∃ its, Vals [(.int 28)] its ∧ BindK K T.e_Size_init ["self", "quarters"] 2 [] [0, 1] its := by
  first
    | exact bindKD_of T.F_Size_init (List.cons_ne_nil _ _) fun _ _ _ _ _ _ _ us its ws h1 h2 h3 => match us, its, ws, h1, h2, h3 with | [_, _], [_], [], _, _, _ => ⟨_, rfl, rfl⟩
    | exact bindKN_of T.F_Size_init (List.cons_ne_nil _ _) fun _ _ _ _ _ _ _ us its ws h1 h2 h3 => match us, its, ws, h1, h2, h3 with | [_, _], [_], [], _, _, _ => rfl
theorem b_deck_1 (T : Tx K mg) : BindK K T.e_deck ["_law_script"] 1 [] [0] [] := bindK_of T.F_deck fun _ _ _ _ _ _ us ws h1 h2 => match us, ws, h1, h2 with | [_], [], _, _ => rfl
theorem b_texts_0 (T : Tx K mg) : BindK K T.e_texts [] 0 [] [] [] := bindK_of T.F_texts fun _ _ _ _ _ _ us ws h1 h2 => match us, ws, h1, h2 with | [], [], _, _ => rfl
theorem b_pick_2 (T : Tx K mg) : BindK K T.e_pick ["_law_deck_here", "_law_some"] 2 [] [0, 1] [] := bindK_of T.F_pick fun _ _ _ _ _ _ us ws h1 h2 => match us, ws, h1, h2 with | [_, _], [], _, _ => rfl
theorem b_right_2 (T : Tx K mg) : BindK K T.e_right ["_law_thing", "_law_texts_here"] 2 [] [0, 1] [] := bindK_of T.F_right fun _ _ _ _ _ _ us ws h1 h2 => match us, ws, h1, h2 with | [_, _], [], _, _ => rfl
theorem b_read_size_0_text (T : Tx K mg) : BindK K T.e_read_size ["text"] 0 ["text"] [0] [] := bindK_of T.F_read_size fun _ _ _ _ _ _ us ws h1 h2 => match us, ws, h1, h2 with | [], [_], _, _ => rfl
theorem b_bent_2 (T : Tx K mg) : BindK K T.e_bent ["_law_deck_here", "_law_row"] 2 [] [0, 1] [] := bindK_of T.F_bent fun _ _ _ _ _ _ us ws h1 h2 => match us, ws, h1, h2 with | [_, _], [], _, _ => rfl
theorem ok_wall (T : Tx K mg) (sm : ∃ o, base.get? sysModules = some o) : FnG P w K mg base 1 T.a_wall T.e_wall ["k"] (spU K mg 1 c_wall) := by
  refine (fun_ok T.F_wall sm sc_wall f_wall fun cdv A outer s H E B => ?_)
  exact (us_one (us_while B.po (ut_truth ue_bl) (us_one us_pass)))
theorem ok_Size_init (T : Tx K mg) (sm : ∃ o, base.get? sysModules = some o) : FnG P w K mg base 1 T.a_Size_init T.e_Size_init ["self", "quarters"] (spU K mg 2 c_Size_init) := by
  refine (funF_ok T.F_Size_init sm sc_Size_init f_Size_init fun cdv A outer s H E B => ?_)
  exact (us_one (us_fld T.fl_quarters (ue_name 0) (ue_name 1)))
theorem ok_Size_str (T : Tx K mg) (sm : ∃ o, base.get? sysModules = some o) : FnG P w K mg base 1 T.a_Size_str T.e_Size_str ["self"] (spU K mg 1 c_Size_str) := by
  refine (fun_ok T.F_Size_str sm sc_Size_str f_Size_str fun cdv A outer s H E B => ?_)
  exact (us_cons (us_set (i := 1) sc_Size_str.nd (ue_ix (ue_glob (by rfl) T.m_QUARTER_WORDS T.r_QUARTER_WORDS T.d_QUARTER_WORDS) (ue_bin og_mod (ue_fld T.fl_quarters (ue_name 0)) ue_int)))
    (us_one (us_ret (ue_joined (.cons (ue_fmt (ue_bin og_div (ue_fld T.fl_quarters (ue_name 0)) ue_int)) (.cons (ue_fmt (ue_name 1)) .nil))))))
theorem ok_read_size (T : Tx K mg) (sm : ∃ o, base.get? sysModules = some o) : FnG P w K mg base 4 T.a_read_size T.e_read_size ["text"] (spU K mg 1 c_read_size) := by
  refine (fun_ok T.F_read_size sm sc_read_size f_read_size fun cdv A outer s H E B => ?_)
  exact (us_cons (us_if (ut_truth (ue_callB cg_isi (by rfl) T.n_isinstance bt_isi (ua_cons (ue_name 0) (ua_cons (ue_ty (t := .str) (by rfl) T.n_str bt_str) ua_nil)))) (us_one (us_for (vs := [1]) B.po B.calm (ui_range2 (by rfl) T.n_range (ua_cons ue_int (ua_cons (ue_bin og_add (ue_glob (by rfl) T.m_MOST_QUARTERS T.r_MOST_QUARTERS T.d_MOST_QUARTERS) ue_int) ua_nil))) (ug_name (i := 1) (vs := [1]) sc_read_size.nd (by decide))
    (us_cons (us_set (i := 2) sc_read_size.nd (ue_gc (ue_mkD0 B T.mk_Size T.iC_Size (ok_Size_init T B.sm) (by decide) T.gC_Size (b_Size_init_1_quarters T) (fun _ _ => (.cons (.int _) .nil)) (uk_cons (ue_name 1) uk_nil) (len_cons len_nil))))
    (us_one (us_if (ut_cmp (og_eq B.room.units) (ue_ostr B T.sp_Size_str (ok_Size_str T B.sm) (by decide) (b_Size_str_1 T) T.n_str (ua_cons (ue_name 2) ua_nil)) (ue_name 0)) (us_one (us_ret (ue_name 2))) us_nil))))) us_nil)
    (us_one (us_raise B.calm B.tk T.ex_NoText T.gx_NoText)))
theorem ok_deck (T : Tx K mg) (sm : ∃ o, base.get? sysModules = some o) : FnG P w K mg base 1 T.a_deck T.e_deck ["_law_script"] (spU K mg 1 c_deck) := by
  refine (fun_ok T.F_deck sm sc_deck f_deck fun cdv A outer s H E B => ?_)
  exact (us_one (us_ret (ue_m (uf_lst (ua_cons (ue_m (uf_rev (ue_m (uf_list (by rfl) T.n_list (ue_sl (ue_name 0) uo_none (uo_some ue_int)))))) (ua_cons (ue_bin og_add (ue_callB (cg_sum B.calm) (by rfl) T.n_sum boot_sum (ua_cons (ue_v (uf_comp (own := [("_law_cell", 1)]) B.calm sc_deck.nd (ui_any (ue_sl (ue_name 0) uo_none (uo_some ue_int))) (blkOk_by (N := N_deck) (sc := defScope s_deck) (by decide +kernel)) (fun _ _ _ _ _ => (ug_name (i := 1) sc_deck.nd (by decide))) (fun _ _ _ _ _ => uts_nil) (fun _ _ _ _ _ => (ue_bin og_mod (ue_name 1) ue_int)))) ua_nil)) (ue_bin og_mul ue_int (ue_callB cg_len (by rfl) T.n_len PySem.boot_len (ua_cons (ue_sl (ue_name 0) uo_none (uo_some ue_int)) ua_nil)))) (ua_cons ue_int ua_nil))) (few (Nat.le_of_ble_eq_true rfl)) (len_cons (len_cons (len_cons len_nil)))))))
theorem ok_draw (T : Tx K mg) (sm : ∃ o, base.get? sysModules = some o) : FnG P w K mg base 1 T.a_draw T.e_draw ["_law_deck_here", "_law_most"] (spU K mg 2 c_draw) := by
  refine (fun_ok T.F_draw sm sc_draw f_draw fun cdv A outer s H E B => ?_)
  exact (us_cons (us_sub sg_list (ue_bin og_add (ue_ix (ue_name 0) ue_int) ue_int) (ue_name 0) ue_int)
    (us_cons (us_set (i := 2) sc_draw.nd (ue_ix (ue_name 0) ue_int))
    (us_cons (us_if (ut_cmp (og_ne B.room.units) (ue_ix (ue_name 0) ue_int) (ue_v (uf_lst ua_nil (few (Nat.le_of_ble_eq_true rfl)) len_nil))) (us_cons (us_set (i := 2) sc_draw.nd (ue_mt0 isL_ty PySem.F.plainAttrs_list PySem.F.slot_list_pop PySem.F.type_list_pop mg_pop (ue_ix (ue_name 0) ue_int)))
    (us_one (us_if (ut_cmp og_ge (ue_name 2) (ue_bin og_pow ue_int ue_int)) (us_cons (us_expr (ue_mt isL_ty PySem.F.plainAttrs_list PySem.F.slot_list_append PySem.F.type_list_append mg_append (ue_ix (ue_name 0) ue_int) (ua_cons (ue_bin og_div (ue_name 2) (ue_name 1)) ua_nil)))
    (us_one (us_ret (ue_bin og_mod (ue_name 2) (ue_name 1))))) us_nil))) us_nil)
    (us_cons (us_set (i := 3) sc_draw.nd (ue_bin og_mod (ue_bin og_mul (ue_bin og_add (ue_bin og_add (ue_bin og_mod (ue_name 2) ue_int) (ue_bin og_mul ue_int (ue_ix (ue_name 0) ue_int))) ue_int) ue_int) ue_int))
    (us_cons (us_set (i := 3) sc_draw.nd (ue_bin og_mod (ue_bin og_add (ue_bin og_add (ue_bin og_mul (ue_name 3) (ue_name 3)) (ue_bin og_mul ue_int (ue_ix (ue_name 0) ue_int))) ue_int) ue_int))
    (us_one (us_ret (ue_bin og_mod (ue_bin og_div (ue_bin og_mod (ue_bin og_add (ue_bin og_mul (ue_name 3) (ue_name 3)) ue_int) ue_int) ue_int) (ue_name 1)))))))))
theorem ok_pick (T : Tx K mg) (sm : ∃ o, base.get? sysModules = some o) : FnG P w K mg base 2 T.a_pick T.e_pick ["_law_deck_here", "_law_some"] (spU K mg 2 c_pick) := by
  refine (fun_ok T.F_pick sm sc_pick f_pick fun cdv A outer s H E B => ?_)
  exact (us_one (us_ret (ue_ix (ue_name 1) (ue_fn B (ok_draw T B.sm) (by decide) T.g_draw T.F_draw.kp (b_draw_2 T) (ua_cons (ue_name 0) (ua_cons (ue_callB cg_len (by rfl) T.n_len PySem.boot_len (ua_cons (ue_name 1) ua_nil)) ua_nil)) (len_cons (len_cons len_nil))))))
theorem ok_texts (T : Tx K mg) (sm : ∃ o, base.get? sysModules = some o) : FnG P w K mg base 1 T.a_texts T.e_texts [] (spU K mg 0 c_texts) := by
  refine FnG.gc (fun_ok T.F_texts sm sc_texts f_texts fun cdv A outer s H E B => ?_)
  exact (us_cons (us_set (i := 0) sc_texts.nd ue_d0k)
    (us_cons (us_for (vs := [1]) B.po B.calm (ui_range1 (by rfl) T.n_range (ua_cons ue_int ua_nil)) (ug_name (i := 1) (vs := [1]) sc_texts.nd (by decide))
    (us_one (us_for (vs := [2]) B.po B.calm (ui_range1 (by rfl) T.n_range (ua_cons ue_int ua_nil)) (ug_name (i := 2) (vs := [2]) sc_texts.nd (by decide))
    (us_one (us_if (ut_cmp og_gt (ue_bin og_add (ue_name 1) (ue_name 2)) ue_int) (us_one (us_sub (sg_any (u1 B.room)) (ue_bin og_add (ue_bin og_mul ue_int (ue_name 1)) (ue_name 2)) (ue_name 0) (ue_bin og_add (ue_callTy cg_str (by rfl) T.n_str PyProof.Rows.boot_str (ua_cons (ue_name 1) ua_nil)) (ue_ix (ue_v (uf_lst (ua_cons ue_str (ua_cons ue_str (ua_cons ue_str (ua_cons ue_str ua_nil)))) (few (Nat.le_of_ble_eq_true rfl)) (len_cons (len_cons (len_cons (len_cons len_nil)))))) (ue_name 2))))) us_nil)))))
    (us_one (us_ret (ue_name 0)))))
theorem ok_told (T : Tx K mg) (sm : ∃ o, base.get? sysModules = some o) : FnG P w K mg base 5 T.a_told T.e_told ["_law_thing"] (spU K mg 1 c_told) := by
  refine FnG.gc (fun_ok T.F_told sm sc_told f_told fun cdv A outer s H E B => ?_)
  exact (us_cons (us_set (i := 1) sc_told.nd ue_non)
    (us_cons (us_set (i := 2) sc_told.nd (ue_m (uf_lst ua_nil (few (Nat.le_of_ble_eq_true rfl)) len_nil)))
    (us_cons (us_try (i := 3) rfl rfl sc_told.nd B.tk ⟨rfl, by decide, .inl T.gx_GloveError⟩ T.ct_GloveError (fun W pn xe tk po => (us_one (us_set (i := 1) sc_told.nd (ue_fn (Bd.tr B tk po) (ok_read_size T B.sm) (by decide) T.g_read_size T.F_read_size.kp (b_read_size_1 T) (ua_cons (ue_name 0) ua_nil) (len_cons len_nil)))))
    (fun a pn => (us_cons (us_set (i := 2) sc_told.nd (ue_m (uf_lst (ua_cons (ue_isE T.xi_0 T.n_isinstance (ue_name 3) (.one (cn_own T.gx_NoText))) (ua_cons (ue_isE T.xi_1 T.n_isinstance (ue_name 3) (.one (cn_ty T.n_LookupError (by decide +kernel)))) (ua_cons (ue_not (ue_isE T.xi_2 T.n_isinstance (ue_name 3) (.tup (pac_cons (cn_ty T.n_KeyError (by decide +kernel)) (pac_cons (cn_ty T.n_IndexError (by decide +kernel)) pac_nil)) (few (Nat.le_of_ble_eq_true rfl))))) ua_nil))) (few (Nat.le_of_ble_eq_true rfl)) (len_cons (len_cons (len_cons len_nil))))))
    (us_cons (us_expr (ue_mt isL_ty PySem.F.plainAttrs_list PySem.F.slot_list_append PySem.F.type_list_append mg_append (ue_name 2) (ua_cons (ue_not (ue_isE T.xi_3 T.n_isinstance (ue_name 3) (.tup (pac_cons (cn_own T.gx_Breaks) (pac_cons (cn_own T.gx_NoCut) (pac_cons (cn_own T.gx_NoDeed) (pac_cons (cn_own T.gx_NoGlove) (pac_cons (cn_own T.gx_NoLot) (pac_cons (cn_own T.gx_NoMoment) (pac_cons (cn_own T.gx_NoOrder) (pac_cons (cn_own T.gx_NoPairs) pac_nil)))))))) (few (Nat.le_of_ble_eq_true rfl))))) ua_nil)))
    (us_one (us_expr (ue_mt isL_ty PySem.F.plainAttrs_list PySem.F.slot_list_append PySem.F.type_list_append mg_append (ue_name 2) (ua_cons (ue_not (ue_isE T.xi_4 T.n_isinstance (ue_name 3) (.tup (pac_cons (cn_own T.gx_NoResult) (pac_cons (cn_own T.gx_NoRow) (pac_cons (cn_own T.gx_NoSkin) (pac_cons (cn_own T.gx_NoTable) (pac_cons (cn_own T.gx_Taken) (pac_cons (cn_own T.gx_Told) pac_nil)))))) (few (Nat.le_of_ble_eq_true rfl))))) ua_nil))))))))
    (us_one (us_ret (ue_tup (ua_cons (ue_name 1) (ua_cons (ue_name 2) ua_nil)) (few (Nat.le_of_ble_eq_true rfl)) (len_cons (len_cons len_nil))))))))
theorem ok_Size_eq (T : Tx K mg) (sm : ∃ o, base.get? sysModules = some o) : FnG P w K mg base 1 T.a_Size_eq T.e_Size_eq ["self", "other"] (spU K mg 2 c_Size_eq) := by
  refine (fun_ok T.F_Size_eq sm sc_Size_eq f_Size_eq fun cdv A outer s H E B => ?_)
  exact (us_one (us_ret (ue_and (ue_isO T.io_Size T.n_isinstance (ue_name 1) (cn_own T.gC_Size)) (ue_one (ue_cmp (og_eq B.room.units) (ue_fld T.fl_quarters (ue_name 0)) (ue_fld T.fl_quarters (ue_name 1)))))))
theorem ok_right (T : Tx K mg) (sm : ∃ o, base.get? sysModules = some o) : FnG P w K mg base 6 T.a_right T.e_right ["_law_thing", "_law_texts_here"] (spU K mg 2 c_right) := by
  refine (fun_ok T.F_right sm sc_right f_right fun cdv A outer s H E B => ?_)
  exact (us_cons (us_set (i := 2) sc_right.nd ue_non)
    (us_cons (us_if (ut_truth (ue_callB cg_isi (by rfl) T.n_isinstance bt_isi (ua_cons (ue_name 0) (ua_cons (ue_ty (t := .str) (by rfl) T.n_str bt_str) ua_nil)))) (us_one (us_set (i := 2) sc_right.nd (ue_get1 (u1 B.room) (ue_name 1) (ue_name 0) ⟨by rfl, by rfl, by rfl, by rfl⟩))) us_nil)
    (us_cons (us_asg (ue_fn B (ok_told T B.sm) (by decide) T.g_told T.F_told.kp (b_told_1 T) (ua_cons (ue_name 0) ua_nil) (len_cons len_nil)) (ug_tup B.calm (ugs_cons (ug_name (i := 3) (vs := [3, 4]) sc_right.nd (by decide)) (ugs_cons (ug_name (i := 4) (vs := [3, 4]) sc_right.nd (by decide)) ugs_nil))))
    (us_cons (us_if (ut_cmp og_is (ue_name 2) ue_non) (us_one (us_ret (ue_cmp (og_eq B.room.units) (ue_name 4) (ue_v (uf_rep (ue_v (uf_lst (ua_cons ue_bl ua_nil) (few (Nat.le_of_ble_eq_true rfl)) (len_cons len_nil))) ue_int))))) us_nil)
    (us_cons (us_if (ut_w (uw_or (ut_cmp (og_ne B.room.units) (ue_name 4) (ue_v (uf_lst ua_nil (few (Nat.le_of_ble_eq_true rfl)) len_nil))) (uw_or (ut_not (ut_truth (ue_isO T.io_Size T.n_isinstance (ue_name 3) (cn_own T.gC_Size)))) (uw_or1 (ut_cmp (og_ne B.room.units) (ue_fld T.fl_quarters (ue_name 3)) (ue_name 2)))))) (us_one (us_ret ue_bl)) us_nil)
    (us_one (us_ret (ue_and (ue_cmp (og_oeq T.eq_Size (ok_Size_eq T B.sm) (B.room.mono (by decide)) B.gd (b_Size_eq_2 T)) (ue_name 3) (ue_gc (ue_mkD B T.mk_Size T.iC_Size (ok_Size_init T B.sm) (by decide) T.gC_Size (b_Size_init_2 T) (fun _ _ => (.cons (.int _) .nil)) (ua_cons (ue_name 2) ua_nil) uk_nil (by exact (len_cons len_nil)) (by exact len_nil)))) (ue_one (ue_cmp (og_eq B.room.units) (ue_ostr B T.sp_Size_str (ok_Size_str T B.sm) (by decide) (b_Size_str_1 T) T.n_str (ua_cons (ue_name 3) ua_nil)) (ue_name 0)))))))))))
theorem ok_bent (T : Tx K mg) (sm : ∃ o, base.get? sysModules = some o) : FnG P w K mg base 2 T.a_bent T.e_bent ["_law_deck_here", "_law_row"] (spU K mg 2 c_bent) := by
  refine (fun_ok T.F_bent sm sc_bent f_bent fun cdv A outer s H E B => ?_)
  exact (us_cons (us_set (i := 2) sc_bent.nd (ue_fn B (ok_draw T B.sm) (by decide) T.g_draw T.F_draw.kp (b_draw_2 T) (ua_cons (ue_name 0) (ua_cons ue_int ua_nil)) (len_cons (len_cons len_nil))))
    (us_cons (us_set (i := 3) sc_bent.nd (ue_fn B (ok_draw T B.sm) (by decide) T.g_draw T.F_draw.kp (b_draw_2 T) (ua_cons (ue_name 0) (ua_cons (ue_bin og_add (ue_callB cg_len (by rfl) T.n_len PySem.boot_len (ua_cons (ue_name 1) ua_nil)) ue_int) ua_nil)) (len_cons (len_cons len_nil))))
    (us_cons (us_set (i := 4) sc_bent.nd (ue_ix ue_str (ue_fn B (ok_draw T B.sm) (by decide) T.g_draw T.F_draw.kp (b_draw_2 T) (ua_cons (ue_name 0) (ua_cons ue_int ua_nil)) (len_cons (len_cons len_nil)))))
    (us_cons (us_set (i := 5) sc_bent.nd (ue_v (uf_lst (ua_cons (ue_bin og_add (ue_bin og_add (ue_sl (ue_name 1) uo_none (uo_some (ue_name 3))) (ue_name 4)) (ue_sl (ue_name 1) (uo_some (ue_name 3)) uo_none)) (ua_cons (ue_bin og_add (ue_sl (ue_name 1) uo_none (uo_some (ue_name 3))) (ue_sl (ue_name 1) (uo_some (ue_bin og_add (ue_name 3) ue_int)) uo_none)) (ua_cons (ue_bin og_add (ue_bin og_add (ue_sl (ue_name 1) uo_none (uo_some (ue_name 3))) (ue_name 4)) (ue_sl (ue_name 1) (uo_some (ue_bin og_add (ue_name 3) ue_int)) uo_none)) (ua_cons (ue_bin og_add ue_str (ue_name 1)) ua_nil)))) (few (Nat.le_of_ble_eq_true rfl)) (len_cons (len_cons (len_cons (len_cons len_nil)))))))
    (us_one (us_ret (ue_ix (ue_bin og_add (ue_name 5) (ue_v (uf_lst (ua_cons (ue_bin og_add (ue_name 1) ue_str) (ua_cons (ue_bin og_add (ue_name 1) ue_str) (ua_cons (ue_bin og_mulS (ue_name 1) ue_int) (ua_cons (ue_revA (ue_name 1)) (ua_cons (ue_bin og_add (ue_name 1) (ue_ix (ue_v (uf_lst (ua_cons ue_str (ua_cons ue_str (ua_cons ue_str (ua_cons ue_str ua_nil)))) (few (Nat.le_of_ble_eq_true rfl)) (len_cons (len_cons (len_cons (len_cons len_nil)))))) (ue_bin og_mod (ue_name 3) ue_int))) ua_nil))))) (few (Nat.le_of_ble_eq_true rfl)) (len_cons (len_cons (len_cons (len_cons (len_cons len_nil)))))))) (ue_name 2))))))))
theorem ok_law (T : Tx K mg) (sm : ∃ o, base.get? sysModules = some o) : FnG P w K mg base 7 T.a_law T.e_law ["_law_script"] (spU K mg 1 c_law) := by
  refine (fun_ok T.F_law sm sc_law f_law fun cdv A outer s H E B => ?_)
  exact (us_cons (us_set (i := 1) sc_law.nd (ue_fn B (ok_deck T B.sm) (by decide) T.g_deck T.F_deck.kp (b_deck_1 T) (ua_cons (ue_name 0) ua_nil) (len_cons len_nil)))
    (us_cons (us_setC (own := [("_law_turn", 5)]) (i := 2) false B.calm sc_law.nd (ui_range1 (by rfl) T.n_range (ua_cons ue_int ua_nil)) (blkOk_by (N := N_law) (sc := defScope s_law) (by decide +kernel)) (sw_true rfl rfl rfl (by decide +kernel)) (fun _ _ _ _ _ => (ug_name (i := 5) sc_law.nd (by decide))) (fun _ _ _ _ _ => uts_nil) (fun _ _ _ _ _ => (ue_cmp (og_eq B.blk.room.units) (ue_fn B.blk (ok_draw T B.sm) (by decide) T.g_draw T.F_draw.kp (b_draw_2 T) (ua_cons (ue_name 1) (ua_cons ue_int ua_nil)) (len_cons (len_cons len_nil))) ue_int)))
    (us_cons (us_set (i := 3) sc_law.nd (ue_fnK0 B (ok_texts T B.sm) (by decide) T.g_texts T.F_texts.kp (b_texts_0 T) uk_nil len_nil))
    (us_cons (us_set (i := 4) sc_law.nd (ue_v (uf_sortS B.calm (by rfl) T.n_sorted (ue_name 3))))
    (us_cons (us_for (vs := [5]) B.po B.calm (ui_range1 (by rfl) T.n_range (ua_cons ue_int ua_nil)) (ug_name (i := 5) (vs := [5]) sc_law.nd (by decide))
    (us_cons (us_set (i := 6) sc_law.nd (ue_fn B (ok_pick T B.sm) (by decide) T.g_pick T.F_pick.kp (b_pick_2 T) (ua_cons (ue_name 1) (ua_cons (ue_name 4) ua_nil)) (len_cons (len_cons len_nil))))
    (us_cons (us_if (ut_w (uw_or (ut_not (ut_truth (ue_fn B (ok_right T B.sm) (by decide) T.g_right T.F_right.kp (b_right_2 T) (ua_cons (ue_name 6) (ua_cons (ue_name 3) ua_nil)) (len_cons (len_cons len_nil))))) (uw_or1 (ut_cmp (og_one T.eq_Size (ok_Size_eq T B.sm) (B.room.mono (by decide)) B.gd (b_Size_eq_2 T)) (ue_fnK0 B (ok_read_size T B.sm) (by decide) T.g_read_size T.F_read_size.kp (b_read_size_0_text T) (uk_cons (ue_name 6) uk_nil) (len_cons len_nil)) (ue_gc (ue_mkD B T.mk_Size T.iC_Size (ok_Size_init T B.sm) (by decide) T.gC_Size (b_Size_init_2 T) (fun _ _ => (.cons (.int _) .nil)) (ua_cons (ue_dget (u1 B.room) (ue_name 3) (ue_name 6)) ua_nil) uk_nil (by exact (len_cons len_nil)) (by exact len_nil))))))) (us_one (us_ret ue_bl)) us_nil)
    (us_one (us_for (vs := [7]) B.po B.calm (ui_any (ue_name 2)) (ug_name (i := 7) (vs := [7]) sc_law.nd (by decide))
    (us_cons (us_set (i := 8) sc_law.nd (ue_fn B (ok_bent T B.sm) (by decide) T.g_bent T.F_bent.kp (b_bent_2 T) (ua_cons (ue_name 1) (ua_cons (ue_name 6) ua_nil)) (len_cons (len_cons len_nil))))
    (us_cons (us_if (ut_truth (ue_name 7)) (us_one (us_set (i := 8) sc_law.nd (ue_fn B (ok_bent T B.sm) (by decide) T.g_bent T.F_bent.kp (b_bent_2 T) (ua_cons (ue_name 1) (ua_cons (ue_name 8) ua_nil)) (len_cons (len_cons len_nil))))) us_nil)
    (us_one (us_if (ut_not (ut_truth (ue_fn B (ok_right T B.sm) (by decide) T.g_right T.F_right.kp (b_right_2 T) (ua_cons (ue_name 8) (ua_cons (ue_name 3) ua_nil)) (len_cons (len_cons len_nil))))) (us_one (us_ret ue_bl)) us_nil)))))))))
    (us_cons (us_set (i := 9) sc_law.nd (ue_v (uf_lst ua_nil (few (Nat.le_of_ble_eq_true rfl)) len_nil)))
    (us_cons (us_for (vs := [10]) B.po B.calm (ui_range1 (by rfl) T.n_range (ua_cons ue_int ua_nil)) (ug_name (i := 10) (vs := [10]) sc_law.nd (by decide))
    (us_one (us_set (i := 9) sc_law.nd (ue_bin og_add (ue_name 9) (ue_v (uf_comp (own := [("_law_rest", 13)]) B.calm sc_law.nd (ui_any (ue_tup (ua_cons ue_str (ua_cons ue_str (ua_cons ue_str (ua_cons ue_str (ua_cons ue_str (ua_cons ue_str (ua_cons ue_str (ua_cons ue_str (ua_cons ue_str (ua_cons ue_str ua_nil)))))))))) (few (Nat.le_of_ble_eq_true rfl)) (len_cons (len_cons (len_cons (len_cons (len_cons (len_cons (len_cons (len_cons (len_cons (len_cons len_nil)))))))))))) (blkOk_by (N := N_law) (sc := defScope s_law) (by decide +kernel)) (fun _ _ _ _ _ => (ug_name (i := 13) sc_law.nd (by decide))) (fun _ _ _ _ _ => uts_nil) (fun _ _ _ _ _ => (ue_bin og_add (ue_callTy cg_str (by rfl) T.n_str PyProof.Rows.boot_str (ua_cons (ue_name 10) ua_nil)) (ue_name 13)))))))))
    (us_cons (us_set (i := 11) sc_law.nd (ue_v (uf_lst (ua_cons ue_non (ua_cons ue_bl (ua_cons ue_bl (ua_cons ue_int (ua_cons ue_int (ua_cons (ue_neg ue_int) (ua_cons (ue_tup ua_nil (few (Nat.le_of_ble_eq_true rfl)) len_nil) (ua_cons (ue_v (uf_lst ua_nil (few (Nat.le_of_ble_eq_true rfl)) len_nil)) (ua_cons ue_d0 (ua_cons (ue_tup (ua_cons ue_str ua_nil) (few (Nat.le_of_ble_eq_true rfl)) (len_cons len_nil)) (ua_cons (ue_v (uf_lst (ua_cons ue_str ua_nil) (few (Nat.le_of_ble_eq_true rfl)) (len_cons len_nil))) (ua_cons ue_str (ua_cons ue_str (ua_cons ue_str (ua_cons ue_str (ua_cons ue_str (ua_cons ue_str (ua_cons ue_str (ua_cons ue_str ua_nil))))))))))))))))))) (few (Nat.le_of_ble_eq_true rfl)) (len_cons (len_cons (len_cons (len_cons (len_cons (len_cons (len_cons (len_cons (len_cons (len_cons (len_cons (len_cons (len_cons (len_cons (len_cons (len_cons (len_cons (len_cons (len_cons len_nil))))))))))))))))))))))
    (us_cons (us_set (i := 11) sc_law.nd (ue_bin og_add (ue_name 11) (ue_v (uf_lst (ua_cons ue_str (ua_cons ue_str (ua_cons ue_str (ua_cons ue_str (ua_cons ue_str (ua_cons ue_str (ua_cons ue_str (ua_cons (ue_bin og_mulS ue_str ue_int) (ua_cons ue_str (ua_cons ue_str (ua_cons ue_str (ua_cons ue_str ua_nil)))))))))))) (few (Nat.le_of_ble_eq_true rfl)) (len_cons (len_cons (len_cons (len_cons (len_cons (len_cons (len_cons (len_cons (len_cons (len_cons (len_cons (len_cons len_nil))))))))))))))))
    (us_cons (us_set (i := 11) sc_law.nd (ue_bin og_add (ue_name 11) (ue_v (uf_lst (ua_cons ue_str (ua_cons ue_str ua_nil)) (few (Nat.le_of_ble_eq_true rfl)) (len_cons (len_cons len_nil))))))
    (us_cons (us_for (vs := [12]) B.po B.calm (ui_any (ue_bin og_add (ue_bin og_add (ue_name 9) (ue_name 11)) (ue_v (uf_lst (ua_cons (ue_fld T.fl_quarters (ue_gc (ue_mkD B T.mk_Size T.iC_Size (ok_Size_init T B.sm) (by decide) T.gC_Size (b_Size_init_2 T) (fun _ _ => (.cons (.int _) .nil)) (ua_cons ue_int ua_nil) uk_nil (by exact (len_cons len_nil)) (by exact len_nil)))) (ua_cons ue_str ua_nil)) (few (Nat.le_of_ble_eq_true rfl)) (len_cons (len_cons len_nil)))))) (ug_name (i := 12) (vs := [12]) sc_law.nd (by decide))
    (us_one (us_if (ut_not (ut_truth (ue_fn B (ok_right T B.sm) (by decide) T.g_right T.F_right.kp (b_right_2 T) (ua_cons (ue_name 12) (ua_cons (ue_name 3) ua_nil)) (len_cons (len_cons len_nil))))) (us_one (us_ret ue_bl)) us_nil)))
    (us_one (us_ret ue_bl)))))))))))))
end
theorem all_mk {P : Program} {w : World} {K : PySem.W.Frag} {h : Heap} {mg : Str → Option Value} {fa : Addr} (X : K.In h) (Gn : h.Ns mainGlobals mg) (hfa : mg "law" = some (.ref fa))
    {C_Size : Addr}
    {p_wall : Addr} {o1_wall o2_wall : Option Addr} {o3_wall : Array (Option Value)} {w1_wall w2_wall w3_wall w4_wall w5_wall w6_wall : Value}
    {p_Size_init : Addr} {o1_Size_init o2_Size_init : Option Addr} {o3_Size_init : Array (Option Value)} {w1_Size_init w2_Size_init w3_Size_init w4_Size_init w5_Size_init w6_Size_init : Value}
    {q_Size_init : Addr} {r1_Size_init : Option Addr} {r2_Size_init : Array (Option Value)} {r3_Size_init : Nat} {t0_Size_init : Tok}
    {p_Size_str : Addr} {o1_Size_str o2_Size_str : Option Addr} {o3_Size_str : Array (Option Value)} {w1_Size_str w2_Size_str w3_Size_str w4_Size_str w5_Size_str w6_Size_str : Value}
    {p_read_size : Addr} {o1_read_size o2_read_size : Option Addr} {o3_read_size : Array (Option Value)} {w1_read_size w2_read_size w3_read_size w4_read_size w5_read_size w6_read_size : Value}
    {p_deck : Addr} {o1_deck o2_deck : Option Addr} {o3_deck : Array (Option Value)} {w1_deck w2_deck w3_deck w4_deck w5_deck w6_deck : Value}
    {p_draw : Addr} {o1_draw o2_draw : Option Addr} {o3_draw : Array (Option Value)} {w1_draw w2_draw w3_draw w4_draw w5_draw w6_draw : Value}
    {p_pick : Addr} {o1_pick o2_pick : Option Addr} {o3_pick : Array (Option Value)} {w1_pick w2_pick w3_pick w4_pick w5_pick w6_pick : Value}
    {p_texts : Addr} {o1_texts o2_texts : Option Addr} {o3_texts : Array (Option Value)} {w1_texts w2_texts w3_texts w4_texts w5_texts w6_texts : Value}
    {p_told : Addr} {o1_told o2_told : Option Addr} {o3_told : Array (Option Value)} {w1_told w2_told w3_told w4_told w5_told w6_told : Value}
    {p_Size_eq : Addr} {o1_Size_eq o2_Size_eq : Option Addr} {o3_Size_eq : Array (Option Value)} {w1_Size_eq w2_Size_eq w3_Size_eq w4_Size_eq w5_Size_eq w6_Size_eq : Value}
    {p_right : Addr} {o1_right o2_right : Option Addr} {o3_right : Array (Option Value)} {w1_right w2_right w3_right w4_right w5_right w6_right : Value}
    {p_bent : Addr} {o1_bent o2_bent : Option Addr} {o3_bent : Array (Option Value)} {w1_bent w2_bent w3_bent w4_bent w5_bent w6_bent : Value}
    {p_law : Addr} {o1_law o2_law : Option Addr} {o3_law : Array (Option Value)} {w1_law w2_law w3_law w4_law w5_law w6_law : Value}
    {x_NoText : Addr}
    {x_GloveError : Addr}
    {x_Breaks : Addr}
    {x_NoCut : Addr}
    {x_NoDeed : Addr}
    {x_NoGlove : Addr}
    {x_NoLot : Addr}
    {x_NoMoment : Addr}
    {x_NoOrder : Addr}
    {x_NoPairs : Addr}
    {x_NoResult : Addr}
    {x_NoRow : Addr}
    {x_NoSkin : Addr}
    {x_NoTable : Addr}
    {x_Taken : Addr}
    {x_Told : Addr}
    {t_MOST_QUARTERS : Tok}
    {p_QUARTER_WORDS : Addr} {dd_QUARTER_WORDS : Option Addr} {sl_QUARTER_WORDS : Array (Option Value)} {n_QUARTER_WORDS : Nat} {t_QUARTER_WORDS_0 : Tok} {t_QUARTER_WORDS_1 : Tok} {t_QUARTER_WORDS_2 : Tok} {t_QUARTER_WORDS_3 : Tok}
    (haC_Size : PySem.W.nsIn K mainGlobals "Size" = some (some (.ref C_Size)))
    (hpg_Size : PySem.W.plainGet K C_Size Str.empty = true)
    (hhd_Size : PySem.W.hasDictIn K C_Size = true)
    (hpo_Size : PySem.W.plainOver K C_Size = true)
    (hsa_Size : PySem.W.findIn K (.ref C_Size) "__setattr__" = some (some (.builtin "object.__setattr__")))
    (hmk_Size : PySem.W.makesIn K C_Size = true)
    (hkC_Size : PySem.W.keepIn K (.ref C_Size) = true)
    (hnf_Size_quarters : PySem.W.findIn K (.ref C_Size) "quarters" = some none)
    (ha_wall : PySem.W.nsIn K mainGlobals "_wall" = some (some (.ref p_wall)))
    (hl_wall : K.lookup p_wall = some ⟨w1_wall, o1_wall, .func (PySem.W.fnOf "_wall" "_wall" (defArgs s_wall) (defBody s_wall) (defScope s_wall) .none w2_wall w3_wall w4_wall o2_wall w5_wall w6_wall), o3_wall⟩)
    (hc_wall : PySem.W.codeIn K w5_wall "_wall" = true)
    (hk_wall : PySem.W.keepIn K (.ref p_wall) = true)
    (ha_Size_init : PySem.W.findIn K (.ref C_Size) "__init__" = some (some (.ref p_Size_init)))
    (hi_Size_init : PySem.W.isFn K (.ref p_Size_init) = true)
    (hl_Size_init : K.lookup p_Size_init = some ⟨w1_Size_init, o1_Size_init, .func (PySem.W.fnOf "__init__" "Size.__init__" (defArgs s_Size_init) (defBody s_Size_init) (defScope s_Size_init) (.ref q_Size_init) w2_Size_init w3_Size_init w4_Size_init o2_Size_init w5_Size_init w6_Size_init), o3_Size_init⟩)
    (hd_Size_init : K.lookup q_Size_init = some ⟨.type "tuple", r1_Size_init, .seq #[(.int 28 t0_Size_init)] r3_Size_init, r2_Size_init⟩)
    (hc_Size_init : PySem.W.codeIn K w5_Size_init "Size.__init__" = true)
    (hk_Size_init : PySem.W.keepIn K (.ref p_Size_init) = true)
    (ha_Size_str : PySem.W.findIn K (.ref C_Size) "__str__" = some (some (.ref p_Size_str)))
    (hi_Size_str : PySem.W.isFn K (.ref p_Size_str) = true)
    (hl_Size_str : K.lookup p_Size_str = some ⟨w1_Size_str, o1_Size_str, .func (PySem.W.fnOf "__str__" "Size.__str__" (defArgs s_Size_str) (defBody s_Size_str) (defScope s_Size_str) .none w2_Size_str w3_Size_str w4_Size_str o2_Size_str w5_Size_str w6_Size_str), o3_Size_str⟩)
    (hc_Size_str : PySem.W.codeIn K w5_Size_str "Size.__str__" = true)
    (hk_Size_str : PySem.W.keepIn K (.ref p_Size_str) = true)
    (ha_read_size : PySem.W.nsIn K mainGlobals "read_size" = some (some (.ref p_read_size)))
    (hl_read_size : K.lookup p_read_size = some ⟨w1_read_size, o1_read_size, .func (PySem.W.fnOf "read_size" "read_size" (defArgs s_read_size) (defBody s_read_size) (defScope s_read_size) .none w2_read_size w3_read_size w4_read_size o2_read_size w5_read_size w6_read_size), o3_read_size⟩)
    (hc_read_size : PySem.W.codeIn K w5_read_size "read_size" = true)
    (hk_read_size : PySem.W.keepIn K (.ref p_read_size) = true)
    (ha_deck : PySem.W.nsIn K mainGlobals "_law_deck" = some (some (.ref p_deck)))
    (hl_deck : K.lookup p_deck = some ⟨w1_deck, o1_deck, .func (PySem.W.fnOf "_law_deck" "_law_deck" (defArgs s_deck) (defBody s_deck) (defScope s_deck) .none w2_deck w3_deck w4_deck o2_deck w5_deck w6_deck), o3_deck⟩)
    (hc_deck : PySem.W.codeIn K w5_deck "_law_deck" = true)
    (hk_deck : PySem.W.keepIn K (.ref p_deck) = true)
    (ha_draw : PySem.W.nsIn K mainGlobals "_law_draw" = some (some (.ref p_draw)))
    (hl_draw : K.lookup p_draw = some ⟨w1_draw, o1_draw, .func (PySem.W.fnOf "_law_draw" "_law_draw" (defArgs s_draw) (defBody s_draw) (defScope s_draw) .none w2_draw w3_draw w4_draw o2_draw w5_draw w6_draw), o3_draw⟩)
    (hc_draw : PySem.W.codeIn K w5_draw "_law_draw" = true)
    (hk_draw : PySem.W.keepIn K (.ref p_draw) = true)
    (ha_pick : PySem.W.nsIn K mainGlobals "_law_pick" = some (some (.ref p_pick)))
    (hl_pick : K.lookup p_pick = some ⟨w1_pick, o1_pick, .func (PySem.W.fnOf "_law_pick" "_law_pick" (defArgs s_pick) (defBody s_pick) (defScope s_pick) .none w2_pick w3_pick w4_pick o2_pick w5_pick w6_pick), o3_pick⟩)
    (hc_pick : PySem.W.codeIn K w5_pick "_law_pick" = true)
    (hk_pick : PySem.W.keepIn K (.ref p_pick) = true)
    (ha_texts : PySem.W.nsIn K mainGlobals "_law_texts" = some (some (.ref p_texts)))
    (hl_texts : K.lookup p_texts = some ⟨w1_texts, o1_texts, .func (PySem.W.fnOf "_law_texts" "_law_texts" (defArgs s_texts) (defBody s_texts) (defScope s_texts) .none w2_texts w3_texts w4_texts o2_texts w5_texts w6_texts), o3_texts⟩)
    (hc_texts : PySem.W.codeIn K w5_texts "_law_texts" = true)
    (hk_texts : PySem.W.keepIn K (.ref p_texts) = true)
    (ha_told : PySem.W.nsIn K mainGlobals "_law_told" = some (some (.ref p_told)))
    (hl_told : K.lookup p_told = some ⟨w1_told, o1_told, .func (PySem.W.fnOf "_law_told" "_law_told" (defArgs s_told) (defBody s_told) (defScope s_told) .none w2_told w3_told w4_told o2_told w5_told w6_told), o3_told⟩)
    (hc_told : PySem.W.codeIn K w5_told "_law_told" = true)
    (hk_told : PySem.W.keepIn K (.ref p_told) = true)
    (ha_Size_eq : PySem.W.findIn K (.ref C_Size) "__eq__" = some (some (.ref p_Size_eq)))
    (hi_Size_eq : PySem.W.isFn K (.ref p_Size_eq) = true)
    (hl_Size_eq : K.lookup p_Size_eq = some ⟨w1_Size_eq, o1_Size_eq, .func (PySem.W.fnOf "__eq__" "Size.__eq__" (defArgs s_Size_eq) (defBody s_Size_eq) (defScope s_Size_eq) .none w2_Size_eq w3_Size_eq w4_Size_eq o2_Size_eq w5_Size_eq w6_Size_eq), o3_Size_eq⟩)
    (hc_Size_eq : PySem.W.codeIn K w5_Size_eq "Size.__eq__" = true)
    (hk_Size_eq : PySem.W.keepIn K (.ref p_Size_eq) = true)
    (ha_right : PySem.W.nsIn K mainGlobals "_law_right" = some (some (.ref p_right)))
    (hl_right : K.lookup p_right = some ⟨w1_right, o1_right, .func (PySem.W.fnOf "_law_right" "_law_right" (defArgs s_right) (defBody s_right) (defScope s_right) .none w2_right w3_right w4_right o2_right w5_right w6_right), o3_right⟩)
    (hc_right : PySem.W.codeIn K w5_right "_law_right" = true)
    (hk_right : PySem.W.keepIn K (.ref p_right) = true)
    (ha_bent : PySem.W.nsIn K mainGlobals "_law_bent" = some (some (.ref p_bent)))
    (hl_bent : K.lookup p_bent = some ⟨w1_bent, o1_bent, .func (PySem.W.fnOf "_law_bent" "_law_bent" (defArgs s_bent) (defBody s_bent) (defScope s_bent) .none w2_bent w3_bent w4_bent o2_bent w5_bent w6_bent), o3_bent⟩)
    (hc_bent : PySem.W.codeIn K w5_bent "_law_bent" = true)
    (hk_bent : PySem.W.keepIn K (.ref p_bent) = true)
    (ha_law : PySem.W.nsIn K mainGlobals "law" = some (some (.ref p_law)))
    (hl_law : K.lookup p_law = some ⟨w1_law, o1_law, .func (PySem.W.fnOf "law" "law" (defArgs s_law) (defBody s_law) (defScope s_law) .none w2_law w3_law w4_law o2_law w5_law w6_law), o3_law⟩)
    (hc_law : PySem.W.codeIn K w5_law "law" = true)
    (hk_law : PySem.W.keepIn K (.ref p_law) = true)
    (hax_NoText : PySem.W.nsIn K mainGlobals "NoText" = some (some (.ref x_NoText)))
    (hax_GloveError : PySem.W.nsIn K mainGlobals "GloveError" = some (some (.ref x_GloveError)))
    (hax_Breaks : PySem.W.nsIn K mainGlobals "Breaks" = some (some (.ref x_Breaks)))
    (hax_NoCut : PySem.W.nsIn K mainGlobals "NoCut" = some (some (.ref x_NoCut)))
    (hax_NoDeed : PySem.W.nsIn K mainGlobals "NoDeed" = some (some (.ref x_NoDeed)))
    (hax_NoGlove : PySem.W.nsIn K mainGlobals "NoGlove" = some (some (.ref x_NoGlove)))
    (hax_NoLot : PySem.W.nsIn K mainGlobals "NoLot" = some (some (.ref x_NoLot)))
    (hax_NoMoment : PySem.W.nsIn K mainGlobals "NoMoment" = some (some (.ref x_NoMoment)))
    (hax_NoOrder : PySem.W.nsIn K mainGlobals "NoOrder" = some (some (.ref x_NoOrder)))
    (hax_NoPairs : PySem.W.nsIn K mainGlobals "NoPairs" = some (some (.ref x_NoPairs)))
    (hax_NoResult : PySem.W.nsIn K mainGlobals "NoResult" = some (some (.ref x_NoResult)))
    (hax_NoRow : PySem.W.nsIn K mainGlobals "NoRow" = some (some (.ref x_NoRow)))
    (hax_NoSkin : PySem.W.nsIn K mainGlobals "NoSkin" = some (some (.ref x_NoSkin)))
    (hax_NoTable : PySem.W.nsIn K mainGlobals "NoTable" = some (some (.ref x_NoTable)))
    (hax_Taken : PySem.W.nsIn K mainGlobals "Taken" = some (some (.ref x_Taken)))
    (hax_Told : PySem.W.nsIn K mainGlobals "Told" = some (some (.ref x_Told)))
    (hxe_NoText : PySem.W.excIn K x_NoText [.type "LookupError", .type "Exception", .type "BaseException", .type "object"] "LookupError.__new__" = true)
    (hxk_NoText : PySem.W.keepIn K (.ref x_NoText) = true)
    (hxs_NoText : PySem.W.subIn K (.ref x_NoText) (.type "BaseException") = some true)
    (hxt_NoText : PySem.W.typeIn K (.ref x_NoText) = some (.type "type"))
    (hxg_NoText : PySem.W.findIn K (.ref x_NoText) "__getattribute__" = some (some (.builtin "BaseException.__getattribute__")))
    (hxa_NoText : PySem.W.findIn K (.ref x_NoText) "__getattr__" = some none)
    (hxd_NoText : PySem.W.hasDictIn K x_NoText = true)
    (hxc_NoText : PySem.W.findIn K (.ref x_NoText) "__class__" = some (some (.builtin "object.__class__")))
    (hxn_NoText : PySem.W.specialIn K (.builtin "object.__class__") "__get__" = some (some (.builtin "getset_descriptor.__get__")))
    (hxu_NoText : PySem.W.takesIn K (.builtin "object.__class__") = some true)
    (hxm_NoText : PySem.W.mroIn K x_NoText (.type "object") = some true)
    (hem_GloveError_NoText : PySem.W.exmOne K (.ref x_NoText) (.ref x_GloveError) = some true)
    (hki_0_NoText : PySem.W.kitAny K (.ref x_NoText) [(.ref x_NoText)] = some true)
    (hki_1_NoText : PySem.W.kitAny K (.ref x_NoText) [(.type "LookupError")] = some true)
    (hki_2_NoText : PySem.W.kitAny K (.ref x_NoText) [(.type "KeyError"), (.type "IndexError")] = some false)
    (hki_3_NoText : PySem.W.kitAny K (.ref x_NoText) [(.ref x_Breaks), (.ref x_NoCut), (.ref x_NoDeed), (.ref x_NoGlove), (.ref x_NoLot), (.ref x_NoMoment), (.ref x_NoOrder), (.ref x_NoPairs)] = some false)
    (hki_4_NoText : PySem.W.kitAny K (.ref x_NoText) [(.ref x_NoResult), (.ref x_NoRow), (.ref x_NoSkin), (.ref x_NoTable), (.ref x_Taken), (.ref x_Told)] = some false)
    (hoc_Size : PySem.W.findIn K (.ref C_Size) "__class__" = some (some (.builtin "object.__class__")))
    (hon_Size : PySem.W.specialIn K (.builtin "object.__class__") "__get__" = some (some (.builtin "getset_descriptor.__get__")))
    (hou_Size : PySem.W.takesIn K (.builtin "object.__class__") = some true)
    (hom_Size : PySem.W.mroIn K C_Size (.type "object") = some true)
    (hoi_Size : PySem.W.kitOne K (.ref C_Size) (.ref C_Size) = some true)
    (hqn_Size : PySem.W.findIn K (.ref C_Size) "__ne__" = some (some (.builtin "object.__ne__")))
    (hqm_Size : PySem.W.mroIn K C_Size (.type "object") = some true)
    (hz_IndexError : PySem.W.nsIn K mainGlobals "IndexError" = some none)
    (hz_KeyError : PySem.W.nsIn K mainGlobals "KeyError" = some none)
    (hz_LookupError : PySem.W.nsIn K mainGlobals "LookupError" = some none)
    (hz_isinstance : PySem.W.nsIn K mainGlobals "isinstance" = some none)
    (hz_len : PySem.W.nsIn K mainGlobals "len" = some none)
    (hz_list : PySem.W.nsIn K mainGlobals "list" = some none)
    (hz_range : PySem.W.nsIn K mainGlobals "range" = some none)
    (hz_sorted : PySem.W.nsIn K mainGlobals "sorted" = some none)
    (hz_str : PySem.W.nsIn K mainGlobals "str" = some none)
    (hz_sum : PySem.W.nsIn K mainGlobals "sum" = some none)
    (hm_MOST_QUARTERS : PySem.W.nsIn K mainGlobals "MOST_QUARTERS" = some (some (.int 99 t_MOST_QUARTERS)))
    (hm_QUARTER_WORDS : PySem.W.nsIn K mainGlobals "QUARTER_WORDS" = some (some (.ref p_QUARTER_WORDS)))
    (hl_QUARTER_WORDS : K.lookup p_QUARTER_WORDS = some ⟨.type "tuple", dd_QUARTER_WORDS, .seq #[.str "" t_QUARTER_WORDS_0, .str ".25" t_QUARTER_WORDS_1, .str ".5" t_QUARTER_WORDS_2, .str ".75" t_QUARTER_WORDS_3] n_QUARTER_WORDS, sl_QUARTER_WORDS⟩)
    : ∃ fd : FuncData, (∀ (s : Shared) (v : Value), BindsTo s fd ⟨[v], []⟩ [("_law_script", v)]) ∧ ∀ base : Heap, K.In base → base.Ns mainGlobals mg → (∃ o, base.get? sysModules = some o) → FnG P w K mg base 7 fa fd ["_law_script"] (spU K mg 1 c_law) := by
  have e := hfa.symm.trans (PySem.W.mg_of X Gn ha_law)
  cases e
  let T : Tx K mg := {
    a_wall := p_wall
    e_wall := _
    F_wall := fun_mk (st := s_wall) hl_wall hc_wall hk_wall
    g_wall := PySem.W.mg_of X Gn ha_wall
    a_Size_init := p_Size_init
    e_Size_init := _
    F_Size_init := funF_mk (st := s_Size_init) hl_Size_init hc_Size_init hk_Size_init (.inr ⟨List.cons_ne_nil _ _, _, _, _, _, rfl, hd_Size_init, rfl, (.cons ⟨_, rfl⟩ .nil)⟩)
    a_Size_str := p_Size_str
    e_Size_str := _
    F_Size_str := fun_mk (st := s_Size_str) hl_Size_str hc_Size_str hk_Size_str
    a_read_size := p_read_size
    e_read_size := _
    F_read_size := fun_mk (st := s_read_size) hl_read_size hc_read_size hk_read_size
    g_read_size := PySem.W.mg_of X Gn ha_read_size
    a_deck := p_deck
    e_deck := _
    F_deck := fun_mk (st := s_deck) hl_deck hc_deck hk_deck
    g_deck := PySem.W.mg_of X Gn ha_deck
    a_draw := p_draw
    e_draw := _
    F_draw := fun_mk (st := s_draw) hl_draw hc_draw hk_draw
    g_draw := PySem.W.mg_of X Gn ha_draw
    a_pick := p_pick
    e_pick := _
    F_pick := fun_mk (st := s_pick) hl_pick hc_pick hk_pick
    g_pick := PySem.W.mg_of X Gn ha_pick
    a_texts := p_texts
    e_texts := _
    F_texts := fun_mk (st := s_texts) hl_texts hc_texts hk_texts
    g_texts := PySem.W.mg_of X Gn ha_texts
    a_told := p_told
    e_told := _
    F_told := fun_mk (st := s_told) hl_told hc_told hk_told
    g_told := PySem.W.mg_of X Gn ha_told
    a_Size_eq := p_Size_eq
    e_Size_eq := _
    F_Size_eq := fun_mk (st := s_Size_eq) hl_Size_eq hc_Size_eq hk_Size_eq
    a_right := p_right
    e_right := _
    F_right := fun_mk (st := s_right) hl_right hc_right hk_right
    g_right := PySem.W.mg_of X Gn ha_right
    a_bent := p_bent
    e_bent := _
    F_bent := fun_mk (st := s_bent) hl_bent hc_bent hk_bent
    g_bent := PySem.W.mg_of X Gn ha_bent
    a_law := fa
    e_law := _
    F_law := fun_mk (st := s_law) hl_law hc_law hk_law
    g_law := PySem.W.mg_of X Gn ha_law
    C_Size := C_Size
    iC_Size := haC_Size
    gC_Size := PySem.W.mg_of X Gn haC_Size
    cl_Size := ⟨hpg_Size, hhd_Size, hpo_Size, hsa_Size⟩
    mk_Size := ⟨hmk_Size, ha_Size_init, hi_Size_init, hkC_Size⟩
    x_NoText := x_NoText
    gx_NoText := PySem.W.mg_of X Gn hax_NoText
    x_GloveError := x_GloveError
    gx_GloveError := PySem.W.mg_of X Gn hax_GloveError
    x_Breaks := x_Breaks
    gx_Breaks := PySem.W.mg_of X Gn hax_Breaks
    x_NoCut := x_NoCut
    gx_NoCut := PySem.W.mg_of X Gn hax_NoCut
    x_NoDeed := x_NoDeed
    gx_NoDeed := PySem.W.mg_of X Gn hax_NoDeed
    x_NoGlove := x_NoGlove
    gx_NoGlove := PySem.W.mg_of X Gn hax_NoGlove
    x_NoLot := x_NoLot
    gx_NoLot := PySem.W.mg_of X Gn hax_NoLot
    x_NoMoment := x_NoMoment
    gx_NoMoment := PySem.W.mg_of X Gn hax_NoMoment
    x_NoOrder := x_NoOrder
    gx_NoOrder := PySem.W.mg_of X Gn hax_NoOrder
    x_NoPairs := x_NoPairs
    gx_NoPairs := PySem.W.mg_of X Gn hax_NoPairs
    x_NoResult := x_NoResult
    gx_NoResult := PySem.W.mg_of X Gn hax_NoResult
    x_NoRow := x_NoRow
    gx_NoRow := PySem.W.mg_of X Gn hax_NoRow
    x_NoSkin := x_NoSkin
    gx_NoSkin := PySem.W.mg_of X Gn hax_NoSkin
    x_NoTable := x_NoTable
    gx_NoTable := PySem.W.mg_of X Gn hax_NoTable
    x_Taken := x_Taken
    gx_Taken := PySem.W.mg_of X Gn hax_Taken
    x_Told := x_Told
    gx_Told := PySem.W.mg_of X Gn hax_Told
    ex_NoText := ⟨hax_NoText, PySem.F.excBase_LookupError, hxe_NoText, hxk_NoText, hxs_NoText, hxt_NoText⟩
    ct_GloveError := (.cons hax_NoText hem_GloveError_NoText .nil)
    xi_0 := (.cons hax_NoText ⟨hxg_NoText, hxa_NoText, hxs_NoText, hxd_NoText, hxc_NoText, hxn_NoText, hxu_NoText, hxm_NoText⟩ hki_0_NoText .nil)
    xi_1 := (.cons hax_NoText ⟨hxg_NoText, hxa_NoText, hxs_NoText, hxd_NoText, hxc_NoText, hxn_NoText, hxu_NoText, hxm_NoText⟩ hki_1_NoText .nil)
    xi_2 := (.cons hax_NoText ⟨hxg_NoText, hxa_NoText, hxs_NoText, hxd_NoText, hxc_NoText, hxn_NoText, hxu_NoText, hxm_NoText⟩ hki_2_NoText .nil)
    xi_3 := (.cons hax_NoText ⟨hxg_NoText, hxa_NoText, hxs_NoText, hxd_NoText, hxc_NoText, hxn_NoText, hxu_NoText, hxm_NoText⟩ hki_3_NoText .nil)
    xi_4 := (.cons hax_NoText ⟨hxg_NoText, hxa_NoText, hxs_NoText, hxd_NoText, hxc_NoText, hxn_NoText, hxu_NoText, hxm_NoText⟩ hki_4_NoText .nil)
    io_Size := .cons haC_Size ⟨⟨hpg_Size, hhd_Size, hpo_Size, hsa_Size⟩, hoc_Size, hon_Size, hou_Size, hom_Size⟩ hoi_Size .nil
    eq_Size := ⟨⟨haC_Size, ha_Size_eq, hi_Size_eq⟩, by simp [PySem.W.notFirst], hqn_Size, hqm_Size⟩
    fl_quarters := (.cons haC_Size ⟨hpg_Size, hhd_Size, hpo_Size, hsa_Size⟩ hnf_Size_quarters .nil)
    sp_Size_str := ⟨haC_Size, ha_Size_str, hi_Size_str⟩
    n_IndexError := PySem.W.mg_none_of X Gn hz_IndexError
    n_KeyError := PySem.W.mg_none_of X Gn hz_KeyError
    n_LookupError := PySem.W.mg_none_of X Gn hz_LookupError
    n_isinstance := PySem.W.mg_none_of X Gn hz_isinstance
    n_len := PySem.W.mg_none_of X Gn hz_len
    n_list := PySem.W.mg_none_of X Gn hz_list
    n_range := PySem.W.mg_none_of X Gn hz_range
    n_sorted := PySem.W.mg_none_of X Gn hz_sorted
    n_str := PySem.W.mg_none_of X Gn hz_str
    n_sum := PySem.W.mg_none_of X Gn hz_sum
    v_MOST_QUARTERS := (.int 99)
    u_MOST_QUARTERS := _
    m_MOST_QUARTERS := PySem.W.mg_of X Gn hm_MOST_QUARTERS
    r_MOST_QUARTERS := ⟨_, rfl⟩
    d_MOST_QUARTERS := fun _ _ => .int _
    v_QUARTER_WORDS := .ref p_QUARTER_WORDS
    u_QUARTER_WORDS := _
    m_QUARTER_WORDS := PySem.W.mg_of X Gn hm_QUARTER_WORDS
    r_QUARTER_WORDS := rfl
    d_QUARTER_WORDS := fun _ _ => .ctp (vs := [(.str ""), (.str ".25"), (.str ".5"), (.str ".75")]) (.inr ⟨_, _, _, hl_QUARTER_WORDS, rfl, rfl, few (Nat.le_of_ble_eq_true rfl), .cons ⟨_, rfl⟩ (.cons ⟨_, rfl⟩ (.cons ⟨_, rfl⟩ (.cons ⟨_, rfl⟩ .nil)))⟩) (.cons (.str _) (.cons (.str _) (.cons (.str _) (.cons (.str _) .nil))))
  }
  exact ⟨_, fun s v => .of_eq rfl, fun base _ _ sm => ok_law T sm⟩
end K03

open PySem PySem.W PyProof.Rows
set_option maxHeartbeats 0 in
theorem PySem.Challenge.cw_glovepairs_k03_sizes_read_holds : PySem.Challenge.rw_glovepairs_k03_sizes_read.Holds := by
  w_on; o_law; k_head; (case hw => w_witness2)
  k_fill
  refine G.walk_G (l := PySem.Challenge.rw_glovepairs_k03_sizes_read) (n := 63) (k := 7) (x := "_law_script") (fn := K03.c_law) (by decide +kernel) rfl (by decide) rfl ⟨rfl, by decide, by decide⟩ (fun w h Y => PySem.W.kIn_of Y) ?F K03.law_true
  case F =>
    intro w mg fa h KX Gn hmg
    refine' K03.all_mk KX Gn hmg ?haC_Size ?hpg_Size ?hhd_Size ?hpo_Size ?hsa_Size ?hmk_Size ?hkC_Size ?hnf_Size_quarters ?ha_wall ?hl_wall ?hc_wall ?hk_wall ?ha_Size_init ?hi_Size_init ?hl_Size_init ?hd_Size_init ?hc_Size_init ?hk_Size_init ?ha_Size_str ?hi_Size_str ?hl_Size_str ?hc_Size_str ?hk_Size_str ?ha_read_size ?hl_read_size ?hc_read_size ?hk_read_size ?ha_deck ?hl_deck ?hc_deck ?hk_deck ?ha_draw ?hl_draw ?hc_draw ?hk_draw ?ha_pick ?hl_pick ?hc_pick ?hk_pick ?ha_texts ?hl_texts ?hc_texts ?hk_texts ?ha_told ?hl_told ?hc_told ?hk_told ?ha_Size_eq ?hi_Size_eq ?hl_Size_eq ?hc_Size_eq ?hk_Size_eq ?ha_right ?hl_right ?hc_right ?hk_right ?ha_bent ?hl_bent ?hc_bent ?hk_bent ?ha_law ?hl_law ?hc_law ?hk_law ?hax_NoText ?hax_GloveError ?hax_Breaks ?hax_NoCut ?hax_NoDeed ?hax_NoGlove ?hax_NoLot ?hax_NoMoment ?hax_NoOrder ?hax_NoPairs ?hax_NoResult ?hax_NoRow ?hax_NoSkin ?hax_NoTable ?hax_Taken ?hax_Told ?hxe_NoText ?hxk_NoText ?hxs_NoText ?hxt_NoText ?hxg_NoText ?hxa_NoText ?hxd_NoText ?hxc_NoText ?hxn_NoText ?hxu_NoText ?hxm_NoText ?hem_GloveError_NoText ?hki_0_NoText ?hki_1_NoText ?hki_2_NoText ?hki_3_NoText ?hki_4_NoText ?hoc_Size ?hon_Size ?hou_Size ?hom_Size ?hoi_Size ?hqn_Size ?hqm_Size ?hz_IndexError ?hz_KeyError ?hz_LookupError ?hz_isinstance ?hz_len ?hz_list ?hz_range ?hz_sorted ?hz_str ?hz_sum ?hm_MOST_QUARTERS ?hm_QUARTER_WORDS ?hl_QUARTER_WORDS
    (case haC_Size => k_is); (case hpg_Size => k_is); (case hhd_Size => k_is); (case hpo_Size => k_is); (case hsa_Size => k_is); (case hmk_Size => k_is); (case hkC_Size => k_is); (case hnf_Size_quarters => k_is); (case ha_wall => k_is); (case hl_wall => k_is); (case hc_wall => k_is); (case hk_wall => k_is); (case ha_Size_init => k_is); (case hi_Size_init => k_is); (case hl_Size_init => k_is); (case hd_Size_init => k_is); (case hc_Size_init => k_is); (case hk_Size_init => k_is); (case ha_Size_str => k_is); (case hi_Size_str => k_is); (case hl_Size_str => k_is); (case hc_Size_str => k_is); (case hk_Size_str => k_is); (case ha_read_size => k_is); (case hl_read_size => k_is); (case hc_read_size => k_is); (case hk_read_size => k_is); (case ha_deck => k_is); (case hl_deck => k_is); (case hc_deck => k_is); (case hk_deck => k_is); (case ha_draw => k_is); (case hl_draw => k_is); (case hc_draw => k_is); (case hk_draw => k_is); (case ha_pick => k_is); (case hl_pick => k_is); (case hc_pick => k_is); (case hk_pick => k_is); (case ha_texts => k_is); (case hl_texts => k_is); (case hc_texts => k_is); (case hk_texts => k_is); (case ha_told => k_is); (case hl_told => k_is); (case hc_told => k_is); (case hk_told => k_is); (case ha_Size_eq => k_is); (case hi_Size_eq => k_is); (case hl_Size_eq => k_is); (case hc_Size_eq => k_is); (case hk_Size_eq => k_is); (case ha_right => k_is); (case hl_right => k_is); (case hc_right => k_is); (case hk_right => k_is); (case ha_bent => k_is); (case hl_bent => k_is); (case hc_bent => k_is); (case hk_bent => k_is); (case ha_law => k_is); (case hl_law => k_is); (case hc_law => k_is); (case hk_law => k_is); (case hax_NoText => k_is); (case hax_GloveError => k_is); (case hax_Breaks => k_is); (case hax_NoCut => k_is); (case hax_NoDeed => k_is); (case hax_NoGlove => k_is); (case hax_NoLot => k_is); (case hax_NoMoment => k_is); (case hax_NoOrder => k_is); (case hax_NoPairs => k_is); (case hax_NoResult => k_is); (case hax_NoRow => k_is); (case hax_NoSkin => k_is); (case hax_NoTable => k_is); (case hax_Taken => k_is); (case hax_Told => k_is); (case hxe_NoText => k_exc); (case hxk_NoText => k_is); (case hxs_NoText => k_is); (case hxt_NoText => k_is); (case hxg_NoText => k_is); (case hxa_NoText => k_is); (case hxd_NoText => k_is); (case hxc_NoText => k_is); (case hxn_NoText => k_is); (case hxu_NoText => k_is); (case hxm_NoText => k_is); (case hem_GloveError_NoText => kts_exm); (case hki_0_NoText => kit_is); (case hki_1_NoText => kit_is); (case hki_2_NoText => kit_is); (case hki_3_NoText => kit_is); (case hki_4_NoText => kit_is); (case hoc_Size => k_is); (case hon_Size => k_is); (case hou_Size => k_is); (case hom_Size => k_is); (case hoi_Size => kit_is); (case hqn_Size => k_is); (case hqm_Size => k_is); (case hz_IndexError => k_is); (case hz_KeyError => k_is); (case hz_LookupError => k_is); (case hz_isinstance => k_is); (case hz_len => k_is); (case hz_list => k_is); (case hz_range => k_is); (case hz_sorted => k_is); (case hz_str => k_is); (case hz_sum => k_is); (case hm_MOST_QUARTERS => k_is); (case hm_QUARTER_WORDS => k_is); (case hl_QUARTER_WORDS => k_is)

